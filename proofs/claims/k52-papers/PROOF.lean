import PyProof.Rows.All
import Wide.All
import OpenK.AllK
import Wide.FinOn
import HandS.ForMost
import HandS.ForExc
import HandS.Wide
import HandS.SortInts
import HandS.Conv
import HandS.RevRange
import HandS.IsInst
import HandS.Zip
import HandS.Defaults
import HandS.Flow
import HandS.HeadHook3
import HandS.HeadEnd
import HandS.Head2
import HandS.TupLe
import KE.GoesMore
import HandS.Rev
import HandS.Style
import HandS.EndBits
import KE.BitLaws
import PySem.Challenge.RW_cheaptests_k52_whole_floor_papers
set_option Elab.async false
set_option linter.all false
set_option maxRecDepth 100000
/-! MP1: a small Python over pure data, and what it computes. No machine in sight. -/
namespace MP
open PySem

/-- pure data: never changed once it stands -/
inductive P where
  | non
  | bl (b : Bool)
  | int (i : Int)
  | str (s : Str)
  | tup (l : List P)
  | lst (l : List P)
  | obj (c : String) (ns : List String) (vs : List P)
  /-- a list that is read alone: the script -/
  | ro (l : List P)

/-- what a name holds: data, a list that this name alone holds, a cell of the store -/
inductive D where
  | p (x : P)
  | own (l : List P)
  | cell (n : Nat)

/-- what a cell of the store holds -/
inductive Cl where
  | lst (l : List P)
  | ins (c : String) (ns : List String) (vs : List P)

/-- what an expression gives: data, a new list, a look at a list that a name holds, a cell -/
inductive RV where
  | v (x : P)
  | fr (l : List P)
  | vw (l : List P)
  | cell (n : Nat)

/-- an operand: data, a look, a cell -/
inductive A where
  | p (x : P)
  | vw (l : List P)
  | cell (n : Nat)

structure Exn where
  cls : String
  ns : List String
  vs : List P

abbrev CH := List (Option Cl)
abbrev Env := List (Option D)

inductive Rs (α : Type) where
  | ok (a : α) (C : CH)
  | ex (e : Exn) (C : CH)
  | no

def Rs.bnd {α β : Type} (r : Rs α) (f : α → CH → Rs β) : Rs β := match r with
  | .ok a C => f a C
  | .ex e C => .ex e C
  | .no => .no
@[simp] theorem Rs.bnd_ok {α β : Type} (a : α) (C : CH) (f : α → CH → Rs β) : (Rs.ok a C).bnd f = f a C := rfl
@[simp] theorem Rs.bnd_ex {α β : Type} (e : Exn) (C : CH) (f : α → CH → Rs β) : (Rs.ex e C : Rs α).bnd f = .ex e C := rfl
@[simp] theorem Rs.bnd_no {α β : Type} (f : α → CH → Rs β) : (Rs.no : Rs α).bnd f = .no := rfl

/-- an option as a result -/
def opt {α : Type} (o : Option α) (C : CH) : Rs α := match o with
  | some a => .ok a C
  | none => .no
@[simp] theorem opt_some {α : Type} (a : α) (C : CH) : opt (some a) C = .ok a C := rfl
@[simp] theorem opt_none {α : Type} (C : CH) : opt (none : Option α) C = .no := rfl

inductive Bop where
  | add | sub | mul | fdiv | mod | pow | shl | shr | band | bor | bxor
  deriving DecidableEq
inductive Cop where
  | eq | ne | lt | le | gt | ge | is | isn | isin | nin
  deriving DecidableEq
inductive Bi where
  | len | abs | min2 | max2 | minl | maxl | suml | alll | anyl | sortd | list | tuple | int | bool | str | lrange1 | lrange2
  deriving DecidableEq
inductive Ik where
  | val | rng1 | rng2 | enum | zip | rrng1 | rrng2 | rev
  deriving DecidableEq
inductive Lm where
  | append | extend | insert | clear | pop | remove | reverse | sort
  deriving DecidableEq
inductive Tg where
  | nm (i : Nat)
  | tp (is : List Nat)
  deriving DecidableEq

inductive E where
  | var (i : Nat)
  | con (x : P)
  | glo (x : String)
  | bin (op : Bop) (a b : E)
  | neg (a : E)
  | cmp (op : Cop) (a b : E)
  | chn (o1 o2 : Cop) (a b c : E)
  | and (l : List E)
  | or (l : List E)
  | not (a : E)
  | ite (c a b : E)
  | tup (l : List E)
  | lst (l : List E)
  | sub (a i : E)
  | slc (a : E) (lo hi : List E)
  | rev (a : E)
  | att (a : E) (f : String)
  | call (f : String) (l : List E)
  | callb (f : String) (l : List E)
  | new (c : String) (l : List E)
  | mth (a : E) (m : String) (l : List E)
  | bi (f : Bi) (l : List E)
  | isi (a : E) (ts : List String)
  | eqo (a b : E)
  | comp (elt : E) (t : Tg) (k : Ik) (its : List E) (cs : List E)

inductive S where
  | set (i : Nat) (e : E)
  | own (i : Nat) (e : E)
  | setc (i : Nat) (e : E)
  | frz (i : Nat)
  | drop (i : Nat)
  | par (i j : Nat) (a b : E)
  | unp (is : List Nat) (e : E)
  | lm (m : Lm) (i : Nat) (l : List E)
  | sti (o : Nat) (i e : E)
  | sta (o : Nat) (f : String) (e : E)
  | aug (i : Nat) (op : Bop) (e : E)
  | augi (o : Nat) (i : E) (op : Bop) (e : E)
  | ifs (c : E) (a b : List S)
  | fr (t : Tg) (k : Ik) (its : List E) (b : List S)
  | whl (c : E) (b : List S)
  | ret (e : E)
  | rtn
  | exp (e : E)
  | brk
  | cnt
  | pas
  | nev
  | rse (c : String) (l : List E)

/-! ### values -/
def lim : Nat := 16777216

/-- what may be read of an operand -/
def view (C : CH) : A → Option P
  | .p x => some x
  | .vw l => some (.lst l)
  | .cell n => match C[n]? with
    | some (some (.lst l)) => some (.lst l)
    | _ => none
def opA : RV → A
  | .v x => .p x
  | .fr l => .p (.lst l)
  | .vw l => .vw l
  | .cell n => .cell n
/-- an operand that is kept: data alone -/
def datum : A → Option P
  | .p x => some x
  | _ => none

def mulOk (i j : Int) : Bool := decide (i.natAbs.log2 + j.natAbs.log2 < 1000000)
def divOk (j : Int) : Bool := decide (0 < j) && decide (j.natAbs.log2 < 9000)
def powOk (i j : Int) : Bool := decide (0 ≤ j) && decide (j ≤ 1000000) && decide (i.natAbs < 2 ^ 64)

def binI (op : Bop) (i j : Int) : Option Int := match op with
  | .add => some (i + j)
  | .sub => some (i - j)
  | .mul => if mulOk i j then some (i * j) else none
  | .fdiv => if divOk j then some (i / j) else none
  | .mod => if decide (0 < j) then some (i % j) else none
  | .pow => if powOk i j then some (i ^ j.toNat) else none
  | .shl => if powOk i j then some (i * 2 ^ j.toNat) else none
  | .shr => if decide (0 ≤ j) then some (i / 2 ^ j.toNat) else none
  | .band => some (Builtin.bitAnd i j)
  | .bor => some (Builtin.bitOr i j)
  | .bxor => some (Builtin.bitXor i j)

/-- a op= b on ints -/
def augI (op : Bop) (i j : Int) : Option Int := match op with
  | .add => some (i + j)
  | .sub => some (i - j)
  | .mul => if decide (i.natAbs < 2 ^ 63) || decide (j.natAbs < 2 ^ 63) then some (i * j) else none
  | .fdiv => if decide (0 < j) && decide (j < 1073741824) then some (i / j) else none
  | .mod => if decide (0 < j) then some (i % j) else none
  | .shl => if powOk i j then some (i * 2 ^ j.toNat) else none
  | .shr => if decide (0 ≤ j) then some (i / 2 ^ j.toNat) else none
  | .band => some (Builtin.bitAnd i j)
  | .bor => some (Builtin.bitOr i j)
  | .bxor => some (Builtin.bitXor i j)
  | .pow => none

/-- a op b on data -/
def binP (op : Bop) (x y : P) : Option RV := match x, y with
  | .int i, .int j => (binI op i j).map fun k => .v (.int k)
  | .str a, .str b => match op with
    | .add => if decide (a.length + b.length ≤ lim) then some (.v (.str (a ++ b))) else none
    | _ => none
  | .lst a, .lst b => match op with
    | .add => if decide (a.length + b.length ≤ lim) then some (.fr (a ++ b)) else none
    | _ => none
  | .tup a, .tup b => match op with
    | .add => if decide (a.length + b.length ≤ lim) && !a.isEmpty then some (.v (.tup (a ++ b))) else none
    | _ => none
  | .lst a, .int k => match op with
    | .mul => if decide (-(2 ^ 63) ≤ k) && decide (k < 2 ^ 63) && decide (a.length * k.toNat ≤ lim) then some (.fr (List.replicate k.toNat a).flatten) else none
    | _ => none
  | _, _ => none


/-! ### equality -/
mutual
/-- data as the library's own, at most n deep; objects have none -/
def dat : Nat → P → Option PyData
  | _, .non => some .none
  | _, .bl b => some (.bool b)
  | _, .int i => some (.int i)
  | _, .str s => if PyData.strOk s then some (.str s) else none
  | n, .tup l => match n with
    | 0 => none
    | n + 1 => (dats n l).map .tuple
  | n, .lst l => match n with
    | 0 => none
    | n + 1 => (dats n l).map .list
  | _, .obj _ _ _ => none
  | _, .ro _ => none
def dats : Nat → List P → Option (List PyData)
  | _, [] => some []
  | n, x :: xs => match dat n x, dats n xs with
    | some d, some ds => some (d :: ds)
    | _, _ => none
end
/-- a == b -/
def eqP (x y : P) : Option Bool := match x, y with
  | .str a, .str b => some (a == b)
  | x, y => match dat 60 x, dat 60 y with
    | some d, some e => some (PyData.eqv d e)
    | _, _ => none
def flatP : P → Bool
  | .non => true
  | .bl _ => true
  | .int _ => true
  | .str _ => true
  | _ => false
def eqFlat : P → P → Bool
  | .non, .non => true
  | .bl a, .bl b => a == b
  | .bl a, .int b => (if a then 1 else 0) == b
  | .int a, .bl b => a == (if b then 1 else 0)
  | .int a, .int b => a == b
  | .str a, .str b => a == b
  | _, _ => false
/-- x in a list or tuple of flat things, one sign or a text in a text -/
def inP (x y : P) : Option Bool := match y with
  | .lst l => if flatP x && l.all flatP then some (l.any fun z => eqFlat z x) else none
  | .tup l => if flatP x && l.all flatP then some (l.any fun z => eqFlat z x) else none
  | .str s => match x with
    | .str a => some (!(Builtin.Str.occurrences s a 0 s.length 1).isEmpty)
    | _ => none
  | _ => none
def isNone : P → Bool
  | .non => true
  | _ => false
def cmpP (op : Cop) (x y : P) : Option Bool := match op with
  | .eq => eqP x y
  | .ne => (eqP x y).map (!·)
  | .lt => match x, y with
    | .int i, .int j => some (decide (i < j))
    | _, _ => none
  | .le => match x, y with
    | .int i, .int j => some (decide (i ≤ j))
    | _, _ => none
  | .gt => match x, y with
    | .int i, .int j => some (decide (j < i))
    | _, _ => none
  | .ge => match x, y with
    | .int i, .int j => some (decide (j ≤ i))
    | _, _ => none
  | .is => match y with
    | .non => some (isNone x)
    | .bl b => match x with
      | .bl a => some (a == b)
      | _ => none
    | _ => none
  | .isn => match y with
    | .non => some (!isNone x)
    | .bl b => match x with
      | .bl a => some (!(a == b))
      | _ => none
    | _ => none
  | .isin => inP x y
  | .nin => (inP x y).map (!·)

/-! ### places, cuts -/
def ixP (n : Nat) (i : Int) : Option Nat := if 0 ≤ i then (if i < n then some i.toNat else none) else if -(n : Int) ≤ i then some (i + n).toNat else none
def subP (x y : P) : Option P := match y with
  | .int i => match x with
    | .lst l => (ixP l.length i).bind fun j => l[j]?
    | .tup l => (ixP l.length i).bind fun j => l[j]?
    | .ro l => (ixP l.length i).bind fun j => l[j]?
    | .str s => if decide (s.length ≤ lim) then (ixP s.cps.toList.length i).bind fun j => (s.cps.toList[j]?).map fun c => .str ⟨#[c]⟩ else none
    | _ => none
  | _ => none
def sixP (n d : Nat) (o : Option Int) : Nat := HT.sIx n d o
def cutP (l : List P) (lo hi : Option Int) : List P := (l.drop (HT.sIx l.length 0 lo)).take (HT.sIx l.length l.length hi - HT.sIx l.length 0 lo)
/-- the parts of a cut: none or one int -/
def partP : List P → Option (Option Int)
  | [] => some none
  | [.int i] => some (some i)
  | _ => none
def slcP (x : P) (lo hi : Option Int) : Option RV := match x with
  | .lst l => some (.fr (cutP l lo hi))
  | .ro l => some (.fr (cutP l lo hi))
  | .tup l => if decide (HT.sIx l.length 0 lo = 0) && decide (HT.sIx l.length l.length hi = l.length) then none else some (.v (.tup (cutP l lo hi)))
  | _ => none

/-- x[::-1] -/
def revP : P → Option RV
  | .lst l => some (.fr l.reverse)
  | .ro l => some (.fr l.reverse)
  | _ => none

/-! ### built-in calls -/
def intsP : List P → Option (List Int)
  | [] => some []
  | .int i :: r => (intsP r).map (i :: ·)
  | _ :: _ => none
def boolsP : List P → Option (List Bool)
  | [] => some []
  | .bl i :: r => (boolsP r).map (i :: ·)
  | _ :: _ => none
def minI : List Int → Int
  | [] => 0
  | [i] => i
  | i :: r => let m := minI r; if i ≤ m then i else m
def maxI : List Int → Int
  | [] => 0
  | [i] => i
  | i :: r => let m := maxI r; if m ≤ i then i else m
def insI (i : Int) : List Int → List Int
  | [] => [i]
  | j :: r => if i ≤ j then i :: j :: r else j :: insI i r
def sortI : List Int → List Int
  | [] => []
  | i :: r => insI i (sortI r)
def rngOk (a b : Int) : Bool := decide (-(2 ^ 62) ≤ a) && decide (a < 2 ^ 62) && decide (-(2 ^ 62) ≤ b) && decide (b < 2 ^ 62) && decide ((b - a).toNat ≤ lim)
def rngP (a b : Int) : List P := (List.range (b - a).toNat).map fun i => .int (a + (i : Nat))
def biP (f : Bi) (xs : List P) : Option RV := match f with
  | .len => match xs with
    | [.lst l] => some (.v (.int l.length))
    | [.ro l] => some (.v (.int l.length))
    | [.tup l] => some (.v (.int l.length))
    | [.str s] => if decide (s.length ≤ lim) then some (.v (.int s.length)) else none
    | _ => none
  | .abs => match xs with
    | [.int i] => some (.v (.int (if i < 0 then -i else i)))
    | _ => none
  | .min2 => match xs with
    | [.int i, .int j] => some (.v (.int (if j < i then j else i)))
    | _ => none
  | .max2 => match xs with
    | [.int i, .int j] => some (.v (.int (if j > i then j else i)))
    | _ => none
  | .minl => match xs with
    | [.lst l] => (intsP l).bind fun ns => if ns.isEmpty then none else some (.v (.int (minI ns)))
    | _ => none
  | .maxl => match xs with
    | [.lst l] => (intsP l).bind fun ns => if ns.isEmpty then none else some (.v (.int (maxI ns)))
    | _ => none
  | .suml => match xs with
    | [.lst l] => (intsP l).map fun ns => .v (.int ns.sum)
    | _ => none
  | .alll => match xs with
    | [.lst l] => (boolsP l).map fun ns => .v (.bl (ns.all id))
    | _ => none
  | .anyl => match xs with
    | [.lst l] => (boolsP l).map fun ns => .v (.bl (ns.any id))
    | _ => none
  | .sortd => match xs with
    | [.lst l] => (intsP l).map fun ns => .fr ((sortI ns).map .int)
    | _ => none
  | .list => match xs with
    | [.lst l] => some (.fr l)
    | [.ro l] => some (.fr l)
    | [.tup l] => some (.fr l)
    | _ => none
  | .tuple => match xs with
    | [.lst l] => some (.v (.tup l))
    | [.tup l] => some (.v (.tup l))
    | _ => none
  | .int => match xs with
    | [.int i] => some (.v (.int i))
    | [.bl b] => some (.v (.int (if b then 1 else 0)))
    | _ => none
  | .bool => match xs with
    | [.int i] => some (.v (.bl (i != 0)))
    | [.bl b] => some (.v (.bl b))
    | _ => none
  | .str => match xs with
    | [.int i] => if decide (i.natAbs.log2 < 1920) then some (.v (.str (Str.ofString (toString i)))) else none
    | _ => none
  | .lrange1 => match xs with
    | [.int i] => if rngOk 0 i then some (.fr (rngP 0 i)) else none
    | _ => none
  | .lrange2 => match xs with
    | [.int i, .int j] => if rngOk i j then some (.fr (rngP i j)) else none
    | _ => none
def enumP : Nat → List P → List P
  | _, [] => []
  | i, x :: r => .tup [.int i, x] :: enumP (i + 1) r
def zipP : List P → List P → List P
  | x :: r, y :: s => .tup [x, y] :: zipP r s
  | _, _ => []
/-- what a loop walks -/
def itemsP (k : Ik) (xs : List P) : Option (List P) := match k with
  | .val => match xs with
    | [.lst l] => some l
    | [.ro l] => some l
    | [.tup l] => some l
    | _ => none
  | .rng1 => match xs with
    | [.int i] => if rngOk 0 i then some (rngP 0 i) else none
    | _ => none
  | .rng2 => match xs with
    | [.int i, .int j] => if rngOk i j then some (rngP i j) else none
    | _ => none
  | .rrng1 => match xs with
    | [.int i] => if rngOk 0 i then some (rngP 0 i).reverse else none
    | _ => none
  | .rrng2 => match xs with
    | [.int i, .int j] => if rngOk i j then some (rngP i j).reverse else none
    | _ => none
  | .enum => match xs with
    | [.lst l] => some (enumP 0 l)
    | [.tup l] => some (enumP 0 l)
    | _ => none
  | .zip => match xs with
    | [.lst l, .lst m] => some (zipP l m)
    | [.tup l, .tup m] => some (zipP l m)
    | _ => none
  | .rev => match xs with
    | [.lst l] => some l.reverse
    | [.tup l] => some l.reverse
    | _ => none

/-! ### the store of names -/
def putT : List Nat → List P → Env → Option Env
  | [], [], σ => some σ
  | i :: is, x :: xs, σ => putT is xs (σ.set i (some (.p x)))
  | _, _, _ => none
def bindT (t : Tg) (x : P) (σ : Env) : Option Env := match t with
  | .nm i => some (σ.set i (some (.p x)))
  | .tp is => match x with
    | .tup l => putT is l σ
    | _ => none

/-- what the program's own defs do -/
structure Cb where
  call : String → List A → CH → Rs RV
  new : String → List A → CH → Rs RV
  mth : String → String → List A → CH → Rs RV
  con : String → Option P
  isi : String → String → Option Bool
  has : String → String → Bool
  exn : String → List P → Option Exn
  mok : String → String → Bool

def allA (C : CH) : List A → Option (List P)
  | [] => some []
  | a :: r => match view C a, allA C r with
    | some x, some xs => some (x :: xs)
    | _, _ => none
def datA : List A → Option (List P)
  | [] => some []
  | a :: r => match datum a, datA r with
    | some x, some xs => some (x :: xs)
    | _, _ => none
def fld (f : String) : List String → List P → Option P
  | n :: ns, v :: vs => if n == f then some v else fld f ns vs
  | _, _ => none
def attP (has : String → String → Bool) (C : CH) (a : A) (f : String) : Option P := match a with
  | .p (.obj c ns vs) => if has c f then fld f ns vs else none
  | .cell n => match C[n]? with
    | some (some (.ins c ns vs)) => if has c f then fld f ns vs else none
    | _ => none
  | _ => none
def truP : P → Option Bool
  | .bl b => some b
  | .int i => some (i != 0)
  | .lst l => some (!l.isEmpty)
  | .tup l => some (!l.isEmpty)
  | _ => none
mutual
/-- no list in it -/
def flatAll : P → Bool
  | .lst _ => false
  | .obj _ _ _ => false
  | .ro _ => false
  | .tup l => flatAlls l
  | _ => true
def flatAlls : List P → Bool
  | [] => true
  | x :: xs => flatAll x && flatAlls xs
end

def tyName : P → String
  | .non => "NoneType"
  | .bl _ => "bool"
  | .int _ => "int"
  | .str _ => "str"
  | .tup _ => "tuple"
  | .lst _ => "list"
  | .ro _ => "?"
  | .obj c _ _ => c
def isis (cb : Cb) (x : P) : List String → Option Bool
  | [] => some false
  | t :: ts => match cb.isi (tyName x) t, isis cb x ts with
    | some a, some b => some (a || b)
    | _, _ => none
/-- no error is let out -/
def Rs.nox {α : Type} : Rs α → Rs α
  | .ok a C => .ok a C
  | _ => .no
@[simp] theorem Rs.nox_ok {α : Type} (a : α) (C : CH) : (Rs.ok a C).nox = .ok a C := rfl
/-- a comprehension's turns -/
def compL (f : Env → CH → Rs RV) (g : Env → CH → Rs Bool) (t : Tg) (σ : Env) : List P → List P → CH → Rs RV
  | [], acc, C => .ok (.fr acc) C
  | x :: xs, acc, C => match bindT t x σ with
    | none => .no
    | some σ' => (g σ' C).nox.bnd fun b C => match b with
      | true => (f σ' C).nox.bnd fun r C => (opt (datum (opA r)) C).bnd fun y C => compL f g t σ xs (acc ++ [y]) C
      | false => compL f g t σ xs acc C

/-- a call that borrows: it sees no cell, and gives nothing with a list in it -/
def lend (C : CH) : Rs RV → Rs RV
  | .ok (.v x) _ => if flatAll x then .ok (.v x) C else .no
  | .ex e _ => if flatAlls e.vs then .ex e C else .no
  | _ => .no
mutual
def evalE (cb : Cb) : E → Env → CH → Rs RV
  | .var i, σ, C => match σ[i]? with
    | some (some (.p x)) => .ok (.v x) C
    | some (some (.own l)) => .ok (.vw l) C
    | some (some (.cell n)) => .ok (.cell n) C
    | _ => .no
  | .con x, _, C => .ok (.v x) C
  | .glo x, _, C => (opt (cb.con x) C).bnd fun v C => .ok (.v v) C
  | .bin op a b, σ, C => (evalE cb a σ C).bnd fun x C => (evalE cb b σ C).bnd fun y C =>
      (opt (view C (opA x)) C).bnd fun x C => (opt (view C (opA y)) C).bnd fun y C => opt (binP op x y) C
  | .neg a, σ, C => (evalE cb a σ C).bnd fun x C => match x with
    | .v (.int i) => .ok (.v (.int (-i))) C
    | _ => .no
  | .cmp op a b, σ, C => (evalE cb a σ C).bnd fun x C => (evalE cb b σ C).bnd fun y C =>
      (opt (view C (opA x)) C).bnd fun x C => (opt (view C (opA y)) C).bnd fun y C => (opt (cmpP op x y) C).bnd fun r C => .ok (.v (.bl r)) C
  | .chn o1 o2 a b c, σ, C => (evalE cb a σ C).bnd fun x C => (evalE cb b σ C).bnd fun y C =>
      (opt (view C (opA x)) C).bnd fun x C => (opt ((view C (opA y)).bind fun y => if flatP y then some y else none) C).bnd fun y C => (opt (cmpP o1 x y) C).bnd fun r C => match r with
        | false => .ok (.v (.bl false)) C
        | true => (evalE cb c σ C).bnd fun z C => (opt (view C (opA z)) C).bnd fun z C => (opt (cmpP o2 y z) C).bnd fun r C => .ok (.v (.bl r)) C
  | .and l, σ, C => (evalAnd cb l σ C).bnd fun b C => .ok (.v (.bl b)) C
  | .or l, σ, C => (evalOr cb l σ C).bnd fun b C => .ok (.v (.bl b)) C
  | .not a, σ, C => (evalE cb a σ C).bnd fun x C => match x with
    | .v (.bl b) => .ok (.v (.bl (!b))) C
    | _ => .no
  | .ite c a b, σ, C => (evalE cb c σ C).bnd fun x C => (opt ((view C (opA x)).bind truP) C).bnd fun t C => match t with
    | true => evalE cb a σ C
    | false => evalE cb b σ C
  | .tup l, σ, C => (evalAs cb l σ C).bnd fun as C => (opt (datA as) C).bnd fun xs C => if decide (xs.length ≤ lim) then .ok (.v (.tup xs)) C else .no
  | .lst l, σ, C => (evalAs cb l σ C).bnd fun as C => (opt (datA as) C).bnd fun xs C => if decide (xs.length ≤ lim) then .ok (.fr xs) C else .no
  | .sub a i, σ, C => (evalE cb a σ C).bnd fun x C => (evalE cb i σ C).bnd fun y C =>
      (opt (view C (opA x)) C).bnd fun x C => (opt (view C (opA y)) C).bnd fun y C => (opt (subP x y) C).bnd fun r C => .ok (.v r) C
  | .slc a lo hi, σ, C => (evalE cb a σ C).bnd fun x C => (evalAs cb lo σ C).bnd fun l C => (opt ((datA l).bind partP) C).bnd fun l C =>
      (evalAs cb hi σ C).bnd fun h C => (opt ((datA h).bind partP) C).bnd fun h C => (opt (view C (opA x)) C).bnd fun x C => opt (slcP x l h) C
  | .rev a, σ, C => (evalE cb a σ C).bnd fun x C => (opt (view C (opA x)) C).bnd fun x C => opt (revP x) C
  | .att a f, σ, C => (evalE cb a σ C).bnd fun x C => (opt (attP cb.has C (opA x) f) C).bnd fun r C => .ok (.v r) C
  | .call f l, σ, C => (evalAs cb l σ C).bnd fun as C => cb.call f as C
  | .callb f l, σ, C => (evalAs cb l σ C).bnd fun as C => (opt (allA C as) C).bnd fun xs C => lend C (cb.call f (xs.map .p) [])
  | .new c l, σ, C => (evalAs cb l σ C).bnd fun as C => cb.new c as C
  | .mth a m l, σ, C => (evalE cb a σ C).bnd fun x C => match x with
    | .v (.obj c ns vs) => if ns.contains m || !cb.mok c m then .no else (evalAs cb l σ C).bnd fun as C => cb.mth c m (.p (.obj c ns vs) :: as) C
    | _ => .no
  | .bi f l, σ, C => (evalAs cb l σ C).bnd fun as C => (opt (allA C as) C).bnd fun xs C => opt (biP f xs) C
  | .isi a ts, σ, C => (evalE cb a σ C).bnd fun x C => (opt (view C (opA x)) C).bnd fun x C => (opt (isis cb x ts) C).bnd fun b C => .ok (.v (.bl b)) C
  | .eqo a b, σ, C => (evalE cb a σ C).bnd fun x C => (evalE cb b σ C).bnd fun y C => match x, y with
    | .v (.obj c ns vs), .v (.obj c' ns' vs') => if c == c' && cb.mok c "__eq__" then (cb.mth c "__eq__" [.p (.obj c ns vs), .p (.obj c' ns' vs')] C).nox.bnd fun r C => match r with
      | .v (.bl t) => .ok (.v (.bl t)) C
      | _ => .no
      else .no
    | _, _ => .no
  | .comp elt t k its cs, σ, C => (evalAs cb its σ C).bnd fun as C => (opt ((datA as).bind (itemsP k)) C).bnd fun xs C =>
      compL (fun σ C => evalE cb elt σ C) (fun σ C => evalAnd cb cs σ C) t σ xs [] C
def evalAs (cb : Cb) : List E → Env → CH → Rs (List A)
  | [], _, C => .ok [] C
  | e :: es, σ, C => (evalE cb e σ C).bnd fun x C => (evalAs cb es σ C).bnd fun r C => .ok (opA x :: r) C
def evalAnd (cb : Cb) : List E → Env → CH → Rs Bool
  | [], _, C => .ok true C
  | e :: es, σ, C => (evalE cb e σ C).bnd fun x C => match x with
    | .v (.bl true) => evalAnd cb es σ C
    | .v (.bl false) => .ok false C
    | _ => .no
def evalOr (cb : Cb) : List E → Env → CH → Rs Bool
  | [], _, C => .ok false C
  | e :: es, σ, C => (evalE cb e σ C).bnd fun x C => match x with
    | .v (.bl true) => .ok true C
    | .v (.bl false) => evalOr cb es σ C
    | _ => .no
end

/-! ### statements -/
/-- how a statement ends -/
inductive Fl where
  | nx (σ : Env) (C : CH)
  | rt (r : RV) (C : CH)
  | bk (σ : Env) (C : CH)
  | ct (σ : Env) (C : CH)
  | ex (e : Exn) (σ : Env) (C : CH)
  | no
def Rs.fl {α : Type} (r : Rs α) (σ : Env) (f : α → CH → Fl) : Fl := match r with
  | .ok a C => f a C
  | .ex e C => .ex e σ C
  | .no => .no
@[simp] theorem Rs.fl_ok {α : Type} (a : α) (C : CH) (σ : Env) (f : α → CH → Fl) : (Rs.ok a C).fl σ f = f a C := rfl
@[simp] theorem Rs.fl_ex {α : Type} (e : Exn) (C : CH) (σ : Env) (f : α → CH → Fl) : (Rs.ex e C : Rs α).fl σ f = .ex e σ C := rfl
@[simp] theorem Rs.fl_no {α : Type} (σ : Env) (f : α → CH → Fl) : (Rs.no : Rs α).fl σ f = .no := rfl
/-- a for's turns -/
def loopF (b : Env → CH → Fl) (t : Tg) : List P → Env → CH → Fl
  | [], σ, C => .nx σ C
  | x :: xs, σ, C => match bindT t x σ with
    | none => .no
    | some σ' => match b σ' C with
      | .nx σ C => loopF b t xs σ C
      | .ct σ C => loopF b t xs σ C
      | .bk σ C => .nx σ C
      | .rt r C => .rt r C
      | .ex e σ C => .ex e σ C
      | .no => .no
/-- a while's turns, at most so many -/
def whileN (c : Env → CH → Rs Bool) (b : Env → CH → Fl) : Nat → Env → CH → Option Fl
  | 0, _, _ => none
  | k + 1, σ, C => match c σ C with
    | .no => some .no
    | .ex e C => some (.ex e σ C)
    | .ok false C => some (.nx σ C)
    | .ok true C => match b σ C with
      | .nx σ C => whileN c b k σ C
      | .ct σ C => whileN c b k σ C
      | .bk σ C => some (.nx σ C)
      | .rt r C => some (.rt r C)
      | .ex e σ C => some (.ex e σ C)
      | .no => some .no
open Classical in
/-- a while that ends -/
noncomputable def whileF (c : Env → CH → Rs Bool) (b : Env → CH → Fl) (σ : Env) (C : CH) : Fl :=
  if h : ∃ k r, whileN c b k σ C = some r then Classical.choose (Classical.choose_spec h) else .no
/-- a list method's work: the list, the operands, the list behind it -/
def lmP (m : Lm) (l : List P) (xs : List P) : Option (List P) := match m with
  | .append => match xs with
    | [x] => if decide (l.length < lim) then some (l ++ [x]) else none
    | _ => none
  | .extend => match xs with
    | [.lst r] => if decide (l.length + r.length ≤ lim) then some (l ++ r) else none
    | _ => none
  | .insert => match xs with
    | [.int i, x] => if decide (l.length < lim) && decide (0 ≤ i) && decide (i ≤ l.length) then some (l.take i.toNat ++ x :: l.drop i.toNat) else none
    | _ => none
  | .clear => match xs with
    | [] => some []
    | _ => none
  | .reverse => match xs with
    | [] => some l.reverse
    | _ => none
  | _ => none
def cellL (C : CH) (n : Nat) : Option (List P) := match C[n]? with
  | some (some (.lst l)) => some l
  | _ => none
/-- the list that a name holds is changed -/
def updL (i : Nat) (σ : Env) (C : CH) (f : List P → Option (List P)) : Fl := match σ[i]? with
  | some (some (.own l)) => match f l with
    | some r => .nx (σ.set i (some (.own r))) C
    | none => .no
  | some (some (.cell n)) => match cellL C n with
    | some l => match f l with
      | some r => .nx σ (C.set n (some (.lst r)))
      | none => .no
    | none => .no
  | _ => .no
/-- the name holds a list that may be changed -/
def isLst (σ : Env) (C : CH) (i : Nat) : Bool := match σ[i]? with
  | some (some (.own _)) => true
  | some (some (.cell n)) => (cellL C n).isSome
  | _ => false
def stiP (k : P) (y : P) (l : List P) : Option (List P) := match k with
  | .int i => (ixP l.length i).map fun j => l.set j y
  | _ => none
def putN (f : String) (y : P) : List String → List P → List String × List P
  | n :: ns, v :: vs => if n == f then (n :: ns, y :: vs) else let r := putN f y ns vs; (n :: r.1, v :: r.2)
  | _, _ => ([f], [y])

mutual
noncomputable def runS (cb : Cb) : S → Env → CH → Fl
  | .set i e, σ, C => (evalE cb e σ C).fl σ fun r C => match r with
    | .v x => .nx (σ.set i (some (.p x))) C
    | .fr l => .nx (σ.set i (some (.p (.lst l)))) C
    | .cell n => .nx (σ.set i (some (.cell n))) C
    | .vw _ => .no
  | .own i e, σ, C => (evalE cb e σ C).fl σ fun r C => match r with
    | .fr l => .nx (σ.set i (some (.own l))) C
    | _ => .no
  | .setc i e, σ, C => (evalE cb e σ C).fl σ fun r C => match r with
    | .fr l => .nx (σ.set i (some (.cell C.length))) (C ++ [some (.lst l)])
    | _ => .no
  | .frz i, σ, C => match σ[i]? with
    | some (some (.own l)) => .nx (σ.set i (some (.p (.lst l)))) C
    | some (some (.p _)) => .nx σ C
    | _ => .no
  | .drop i, σ, C => .nx (σ.set i none) C
  | .par i j a b, σ, C => (evalAs cb [a, b] σ C).fl σ fun as C => match as with
    | [.p x, .p y] => .nx ((σ.set i (some (.p x))).set j (some (.p y))) C
    | _ => .no
  | .unp is e, σ, C => (evalE cb e σ C).fl σ fun r C => match r with
    | .v x => match bindT (.tp is) x σ with
      | some σ => .nx σ C
      | none => .no
    | _ => .no
  | .lm m i l, σ, C => if !isLst σ C i then .no else (evalAs cb l σ C).fl σ fun as C => match datA as with
    | some xs => updL i σ C fun l => lmP m l xs
    | none => .no
  | .sti o i e, σ, C => (evalE cb e σ C).fl σ fun y C => match datum (opA y) with
    | some y => if !isLst σ C o then .no else (evalE cb i σ C).fl σ fun k C => match datum (opA k) with
      | some k => updL o σ C (stiP k y)
      | none => .no
    | none => .no
  | .sta o f e, σ, C => (evalE cb e σ C).fl σ fun y C => match datum (opA y) with
    | some y => match σ[o]? with
      | some (some (.cell n)) => match C[n]? with
        | some (some (.ins c ns vs)) => if cb.has c f && decide (ns.length < 1000) then .nx σ (C.set n (some (.ins c (putN f y ns vs).1 (putN f y ns vs).2))) else .no
        | _ => .no
      | _ => .no
    | none => .no
  | .aug i op e, σ, C => match σ[i]? with
    | some (some (.p (.int a))) => (evalE cb e σ C).fl σ fun y C => match y with
      | .v (.int b) => match augI op a b with
        | some k => .nx (σ.set i (some (.p (.int k)))) C
        | none => .no
      | _ => .no
    | _ => .no
  | .augi o i op e, σ, C => match σ[o]? with
    | some (some (.own l)) => (evalE cb i σ C).fl σ fun k C => match k with
      | .v (.int k) => match subP (.lst l) (.int k) with
        | some (.int a) => (evalE cb e σ C).fl σ fun y C => match y with
          | .v (.int b) => match augI op a b with
            | some z => updL o σ C (stiP (.int k) (.int z))
            | none => .no
          | _ => .no
        | _ => .no
      | _ => .no
    | _ => .no
  | .ifs c a b, σ, C => (evalE cb c σ C).fl σ fun r C => match (view C (opA r)).bind truP with
    | some true => runB cb a σ C
    | some false => runB cb b σ C
    | none => .no
  | .fr t k its b, σ, C => (evalAs cb its σ C).fl σ fun as C => match (datA as).bind (itemsP k) with
    | some xs => loopF (fun σ C => runB cb b σ C) t xs σ C
    | none => .no
  | .whl c b, σ, C => whileF (fun σ C => (evalE cb c σ C).bnd fun r C => opt ((view C (opA r)).bind truP) C) (fun σ C => runB cb b σ C) σ C
  | .ret e, σ, C => (evalE cb e σ C).fl σ fun r C => match r with
    | .vw l => .rt (.fr l) C
    | r => .rt r C
  | .rtn, _, C => .rt (.v .non) C
  | .exp e, σ, C => (evalE cb e σ C).fl σ fun _ C => .nx σ C
  | .brk, σ, C => .bk σ C
  | .cnt, σ, C => .ct σ C
  | .pas, σ, C => .nx σ C
  | .nev, _, _ => .no
  | .rse c l, σ, C => (evalAs cb l σ C).fl σ fun as C => match (datA as).bind (cb.exn c) with
    | some e => .ex e σ C
    | none => .no
noncomputable def runB (cb : Cb) : List S → Env → CH → Fl
  | [], σ, C => .nx σ C
  | s :: r, σ, C => match runS cb s σ C with
    | .nx σ C => runB cb r σ C
    | o => o
end

/-! ### defs, classes, the whole -/
structure FD where
  params : Nat
  slots : Nat
  body : List S
/-- the text: defs by name, methods by class and name, constants, which classes are (under) which -/
structure Tbl where
  fns : List (String × FD)
  mths : List (String × String × FD)
  cons : List (String × P)
  kits : List ((String × String) × Bool)
  flds : List (String × String)
  exns : List (String × Nat × List (String × Nat))
def Tbl.isi (T : Tbl) (a b : String) : Option Bool := List.lookup (a, b) T.kits
def Tbl.has (T : Tbl) (c f : String) : Bool := T.flds.contains (c, f)
def Tbl.con (T : Tbl) (x : String) : Option P := List.lookup x T.cons
def Tbl.fn (T : Tbl) (f : String) : Option FD := List.lookup f T.fns
def Tbl.mth (T : Tbl) (c m : String) : Option FD := match T.mths.find? fun q => q.1 == c && q.2.1 == m with
  | some q => some q.2.2
  | none => none
def A.d : A → Option D
  | .p x => some (.p x)
  | .cell n => some (.cell n)
  | .vw _ => none
def argD : List A → Option (List D)
  | [] => some []
  | a :: r => match a.d, argD r with
    | some x, some xs => some (x :: xs)
    | _, _ => none
/-- a def's run -/
noncomputable def runFD (cb : Cb) (d : FD) (as : List A) (C : CH) : Rs RV := match argD as with
  | none => .no
  | some ds => if ds.length = d.params then match runB cb d.body (ds.map some ++ List.replicate (d.slots - d.params) none) C with
      | .nx _ C => .ok (.v .non) C
      | .rt r C => .ok r C
      | .ex e _ C => .ex e C
      | _ => .no
    else .no
def getAll (xs : List P) : List (String × Nat) → Option (List P)
  | [] => some []
  | q :: r => match xs[q.2]?, getAll xs r with
    | some x, some l => some (x :: l)
    | _, _ => none
def Tbl.exn (T : Tbl) (c : String) (xs : List P) : Option Exn := match List.lookup c T.exns with
  | some (n, fs) => if xs.length = n then (getAll xs fs).map fun vs => ⟨c, fs.map (·.1), vs⟩ else none
  | none => none
/-- an instance is made: its __init__ fills the cell, which is then data -/
def mkNew (c : String) (g : List A → CH → Rs RV) (as : List A) (C : CH) : Rs RV := match g (.cell C.length :: as) (C ++ [some (.ins c [] [])]) with
  | .ok (.v .non) C' => match C'[C.length]? with
    | some (some (.ins c ns vs)) => if C'.length = C.length + 1 then .ok (.v (.obj c ns vs)) (C'.take C.length) else .no
    | _ => .no
  | .ex e C' => .ex e (C'.take C.length)
  | _ => .no
/-- what the defs do, calls at most n deep -/
noncomputable def cbN (T : Tbl) : Nat → Cb
  | 0 => ⟨fun _ _ _ => .no, fun _ _ _ => .no, fun _ _ _ _ => .no, T.con, T.isi, T.has, T.exn, fun _ _ => false⟩
  | n + 1 => {
      call := fun f as C => match T.fn f with
        | some d => runFD (cbN T n) d as C
        | none => .no
      new := fun c as C => match T.mth c "__init__" with
        | some d => mkNew c (runFD (cbN T n) d) as C
        | none => .no
      mth := fun c m as C => match T.mth c m with
        | some d => runFD (cbN T n) d as C
        | none => .no
      con := T.con
      isi := T.isi
      has := T.has
      exn := T.exn
      mok := fun c m => m != "__init__" && (T.mth c m).isSome }
end MP
/-! MP2: how pure data lie in the machine's heap; worlds and steps between them. -/
namespace MP
open PySem PySem.Spec PyProof.Rows L2

section
variable (K : PySem.W.Frag) (mg : Str → Option Value)

def TupAt (F : Addr → Prop) (H : Hp) (a : Addr) (xs : List V) : Prop :=
  (F a ∧ H a = some (.tup xs)) ∨
    ∃ (o : Obj) (its : Array Value) (n : Nat), K.lookup a = some o ∧ o.cls = .type "tuple" ∧ o.data = .seq its n ∧ its.size ≤ sizeLine ∧ Vals xs its.toList
def LstAt (F : Addr → Prop) (H : Hp) (a : Addr) (xs : List V) : Prop := F a ∧ H a = some (.lst xs)
def RoAt (F : Addr → Prop) (H : Hp) (a : Addr) (xs : List V) : Prop := (F a ∧ ∃ o, H a = some (.frz o (.lst xs))) ∨
    ∃ (o : Obj) (its : Array Value) (n : Nat), K.lookup a = some o ∧ o.cls = .type "list" ∧ o.dict = none ∧ o.data = .seq its n ∧ its.size ≤ sizeLine ∧ Vals xs its.toList
def objNames (ns : List String) : List Str := ns.map Str.ofString

mutual
def Rep (F : Addr → Prop) (H : Hp) : P → V → Prop
  | .non, v => v = .non
  | .bl b, v => v = .bl b
  | .int i, v => v = .int i
  | .str s, v => v = .str s
  | .tup l, v => ∃ a xs, v = .ref a ∧ TupAt K F H a xs ∧ Reps F H l xs
  | .lst l, v => ∃ a xs, v = .ref a ∧ LstAt F H a xs ∧ Reps F H l xs
  | .ro l, v => ∃ a xs, v = .ref a ∧ RoAt K F H a xs ∧ Reps F H l xs
  | .obj c ns vs, v => ∃ a C dx fs, v = .ref a ∧ F a ∧ H a = some (.ins C dx fs) ∧ mg (Str.ofString c) = some (.ref C) ∧ fs.map (·.1) = objNames ns ∧ Reps F H vs (fs.map (·.2))
def Reps (F : Addr → Prop) (H : Hp) : List P → List V → Prop
  | [], xs => xs = []
  | p :: ps, xs => ∃ x r, xs = x :: r ∧ Rep F H p x ∧ Reps F H ps r
end
end

section
variable {K : PySem.W.Frag} {mg : Str → Option Value} {F F' : Addr → Prop} {H H' : Hp}
theorem TupAt.mono {a : Addr} {xs : List V} (hF : ∀ a, F a → F' a) (hH : ∀ a o, F a → H a = some o → H' a = some o) (h : TupAt K F H a xs) : TupAt K F' H' a xs := by
  rcases h with ⟨h1, h2⟩ | h
  · exact .inl ⟨hF _ h1, hH _ _ h1 h2⟩
  · exact .inr h
theorem LstAt.mono {a : Addr} {xs : List V} (hF : ∀ a, F a → F' a) (hH : ∀ a o, F a → H a = some o → H' a = some o) (h : LstAt F H a xs) : LstAt F' H' a xs := ⟨hF _ h.1, hH _ _ h.1 h.2⟩
theorem RoAt.mono {a : Addr} {xs : List V} (hF : ∀ a, F a → F' a) (hH : ∀ a o, F a → H a = some o → H' a = some o) (h : RoAt K F H a xs) : RoAt K F' H' a xs := by
  rcases h with ⟨h1, o, h2⟩ | h
  · exact .inl ⟨hF _ h1, o, hH _ _ h1 h2⟩
  · exact .inr h
mutual
theorem Rep.mono (hF : ∀ a, F a → F' a) (hH : ∀ a o, F a → H a = some o → H' a = some o) : ∀ (p : P) (v : V), Rep K mg F H p v → Rep K mg F' H' p v
  | .non, _, h => h
  | .bl _, _, h => h
  | .int _, _, h => h
  | .str _, _, h => h
  | .tup l, v, h => by
    obtain ⟨a, xs, e, h1, h2⟩ := h
    exact ⟨a, xs, e, h1.mono hF hH, Reps.mono hF hH l xs h2⟩
  | .lst l, v, h => by
    obtain ⟨a, xs, e, h1, h2⟩ := h
    exact ⟨a, xs, e, h1.mono hF hH, Reps.mono hF hH l xs h2⟩
  | .ro l, v, h => by
    obtain ⟨a, xs, e, h1, h2⟩ := h
    exact ⟨a, xs, e, h1.mono hF hH, Reps.mono hF hH l xs h2⟩
  | .obj c ns vs, v, h => by
    obtain ⟨a, C, dx, fs, e, h1, h2, h3, h4, h5⟩ := h
    exact ⟨a, C, dx, fs, e, hF _ h1, hH _ _ h1 h2, h3, h4, Reps.mono hF hH vs _ h5⟩
theorem Reps.mono (hF : ∀ a, F a → F' a) (hH : ∀ a o, F a → H a = some o → H' a = some o) : ∀ (ps : List P) (vs : List V), Reps K mg F H ps vs → Reps K mg F' H' ps vs
  | [], _, h => h
  | p :: ps, vs, h => by
    obtain ⟨x, r, e, h1, h2⟩ := h
    exact ⟨x, r, e, Rep.mono hF hH p x h1, Reps.mono hF hH ps r h2⟩
end
theorem Reps.nil : Reps K mg F H [] [] := rfl
theorem Reps.cons {p : P} {ps : List P} {x : V} {xs : List V} (h : Rep K mg F H p x) (h' : Reps K mg F H ps xs) : Reps K mg F H (p :: ps) (x :: xs) := ⟨x, xs, rfl, h, h'⟩
theorem Reps.length : ∀ {ps : List P} {xs : List V}, Reps K mg F H ps xs → ps.length = xs.length
  | [], _, h => by cases h; rfl
  | p :: ps, _, ⟨x, r, e, _, h⟩ => by subst e; simp [Reps.length h]
theorem Reps.app : ∀ {ps qs : List P} {xs ys : List V}, Reps K mg F H ps xs → Reps K mg F H qs ys → Reps K mg F H (ps ++ qs) (xs ++ ys)
  | [], _, _, _, h, h' => by cases h; exact h'
  | p :: ps, _, _, _, ⟨x, r, e, h1, h2⟩, h' => by subst e; exact ⟨x, _, rfl, h1, Reps.app h2 h'⟩
theorem Reps.get : ∀ {ps : List P} {xs : List V} {i : Nat} {p : P}, Reps K mg F H ps xs → ps[i]? = some p → ∃ x, xs[i]? = some x ∧ Rep K mg F H p x
  | [], _, _, _, _, e => by simp at e
  | q :: ps, _, 0, _, ⟨x, r, e, h1, h2⟩, e' => by
    subst e
    simp at e'
    subst e'
    exact ⟨x, rfl, h1⟩
  | q :: ps, _, i + 1, _, ⟨x, r, e, h1, h2⟩, e' => by
    subst e
    obtain ⟨y, h3, h4⟩ := Reps.get (i := i) h2 (by simpa using e')
    exact ⟨y, by simpa using h3, h4⟩
theorem Reps.get' : ∀ {ps : List P} {xs : List V} {i : Nat} {x : V}, Reps K mg F H ps xs → xs[i]? = some x → ∃ p, ps[i]? = some p ∧ Rep K mg F H p x
  | [], _, _, _, h, e => by cases h; simp at e
  | q :: ps, _, 0, _, ⟨x, r, e, h1, h2⟩, e' => by
    subst e
    simp at e'
    subst e'
    exact ⟨q, rfl, h1⟩
  | q :: ps, _, i + 1, _, ⟨x, r, e, h1, h2⟩, e' => by
    subst e
    obtain ⟨y, h3, h4⟩ := Reps.get' (i := i) h2 (by simpa using e')
    exact ⟨y, by simpa using h3, h4⟩
theorem Reps.take : ∀ {ps : List P} {xs : List V} (n : Nat), Reps K mg F H ps xs → Reps K mg F H (ps.take n) (xs.take n)
  | _, _, 0, _ => by simp [Reps]
  | [], _, n + 1, h => by cases h; simp [Reps]
  | p :: ps, _, n + 1, ⟨x, r, e, h1, h2⟩ => by subst e; exact ⟨x, _, rfl, h1, Reps.take n h2⟩
theorem Reps.drop : ∀ {ps : List P} {xs : List V} (n : Nat), Reps K mg F H ps xs → Reps K mg F H (ps.drop n) (xs.drop n)
  | _, _, 0, h => h
  | [], _, n + 1, h => by cases h; simp [Reps]
  | p :: ps, _, n + 1, ⟨x, r, e, h1, h2⟩ => by subst e; exact Reps.drop n h2
theorem Reps.set {p : P} {x : V} (h : Rep K mg F H p x) : ∀ {ps : List P} {xs : List V} (n : Nat), Reps K mg F H ps xs → Reps K mg F H (ps.set n p) (xs.set n x)
  | [], _, n, h' => by cases h'; exact Reps.nil
  | q :: ps, _, 0, ⟨y, r, e, h1, h2⟩ => by subst e; exact ⟨x, r, rfl, h, h2⟩
  | q :: ps, _, n + 1, ⟨y, r, e, h1, h2⟩ => by subst e; exact ⟨y, _, rfl, h1, Reps.set h n h2⟩
theorem Reps.rev : ∀ {ps : List P} {xs : List V}, Reps K mg F H ps xs → Reps K mg F H ps.reverse xs.reverse
  | [], _, h => by cases h; exact Reps.nil
  | p :: ps, _, ⟨x, r, e, h1, h2⟩ => by
    subst e
    rw [List.reverse_cons, List.reverse_cons]
    exact Reps.app (Reps.rev h2) (Reps.cons h1 Reps.nil)
theorem Reps.repl {ps : List P} {xs : List V} (h : Reps K mg F H ps xs) : ∀ k : Nat, Reps K mg F H (List.replicate k ps).flatten (List.replicate k xs).flatten
  | 0 => Reps.nil
  | k + 1 => by
    rw [List.replicate_succ, List.replicate_succ, List.flatten_cons, List.flatten_cons]
    exact Reps.app h (Reps.repl h k)
theorem Rep.intv {i : Int} {v : V} (h : Rep K mg F H (.int i) v) : v = .int i := h
theorem TupAt.sq {a : Addr} {xs : List V} (h : TupAt K F H a xs) : SqT K H a xs := by
  rcases h with ⟨_, h⟩ | h
  · exact .inl (.inl h)
  · exact .inr h
theorem LstAt.sq {a : Addr} {xs : List V} (h : LstAt F H a xs) : SqL K H a xs := .inl (.inl h.2)
theorem RoAt.sq {a : Addr} {xs : List V} (h : RoAt K F H a xs) : SqL K H a xs := by
  rcases h with ⟨_, o, h2⟩ | h
  · exact .inl (.inr ⟨o, h2⟩)
  · exact .inr h
end

/-! ### worlds -/
/-- the address of a cell that lives -/
def Lv (C : CH) (φ : List Addr) (a : Addr) : Prop := ∃ (n : Nat) (cl : Cl), C[n]? = some (some cl) ∧ φ[n]? = some a
def CellAt' (K : PySem.W.Frag) (mg : Str → Option Value) (F : Addr → Prop) (H : Hp) (a : Addr) : Cl → Prop
  | .lst l => ∃ xs, H a = some (.lst xs) ∧ Reps K mg F H l xs
  | .ins c ns vs => ∃ C dx fs, H a = some (.ins C dx fs) ∧ mg (Str.ofString c) = some (.ref C) ∧ fs.map (·.1) = objNames ns ∧ Reps K mg F H vs (fs.map (·.2))
structure Wf (K : PySem.W.Frag) (mg : Str → Option Value) (F : Addr → Prop) (φ : List Addr) (C : CH) (H : Hp) : Prop where
  dom : ∀ a, F a → H a ≠ none
  len : φ.length = C.length
  live : ∀ (n : Nat) (a : Addr) (cl : Cl), C[n]? = some (some cl) → φ[n]? = some a → ¬ F a ∧ CellAt' K mg F H a cl
  inj : ∀ (n m : Nat) (a : Addr) (cl cl' : Cl), C[n]? = some (some cl) → C[m]? = some (some cl') → φ[n]? = some a → φ[m]? = some a → n = m
structure Stp (F : Addr → Prop) (φ : List Addr) (C : CH) (H : Hp) (F' : Addr → Prop) (φ' : List Addr) (C' : CH) (H' : Hp) : Prop where
  grow : ∀ a, F a → F' a
  new : ∀ a, F' a → F a ∨ H a = none ∨ Lv C φ a
  pre : ∀ (n : Nat) (a : Addr), φ[n]? = some a → φ'[n]? = some a
  lv : ∀ a, Lv C' φ' a → Lv C φ a ∨ H a = none
  keep : ∀ a o, H a = some o → ¬ Lv C φ a → H' a = some o
  dom : ∀ a, H a ≠ none → H' a ≠ none
section
variable {K : PySem.W.Frag} {mg : Str → Option Value} {F F' F'' : Addr → Prop} {φ φ' φ'' : List Addr} {C C' C'' : CH} {H H' H'' H0 : Hp}
theorem Stp.refl : Stp F φ C H F φ C H := ⟨fun _ h => h, fun _ h => .inl h, fun _ _ h => h, fun _ h => .inl h, fun _ _ h _ => h, fun _ h => h⟩
theorem some_ne {o : Option HO} {x : HO} (h : o = some x) : o ≠ none := by rw [h]; simp
theorem ne_some {o : Option HO} (h : o ≠ none) : ∃ x, o = some x := by
  cases o with
  | none => exact absurd rfl h
  | some x => exact ⟨x, rfl⟩
theorem Stp.trans (a : Stp F φ C H F' φ' C' H') (b : Stp F' φ' C' H' F'' φ'' C'' H'') : Stp F φ C H F'' φ'' C'' H'' where
  grow := fun x h => b.grow x (a.grow x h)
  new := fun x h => by
    rcases b.new x h with h | h | h
    · exact a.new x h
    · by_cases hn : H x = none
      · exact .inr (.inl hn)
      · exact absurd h (a.dom x hn)
    · rcases a.lv x h with h | h
      · exact .inr (.inr h)
      · exact .inr (.inl h)
  pre := fun n x h => b.pre n x (a.pre n x h)
  lv := fun x h => by
    rcases b.lv x h with h | h
    · exact a.lv x h
    · by_cases hn : H x = none
      · exact .inr hn
      · exact absurd h (a.dom x hn)
  keep := fun x o h hl => by
    refine b.keep x o (a.keep x o h hl) fun z => ?_
    rcases a.lv x z with z | z
    · exact hl z
    · rw [h] at z; cases z
  dom := fun x h => b.dom x (a.dom x h)
/-- what is frozen stays -/
theorem Stp.frozen (w : Wf K mg F φ C H) (a : Stp F φ C H F' φ' C' H') : ∀ x o, F x → H x = some o → H' x = some o := fun x o hF h =>
  a.keep x o h fun ⟨n, cl, h1, h2⟩ => (w.live n x cl h1 h2).1 hF
theorem Stp.rep (w : Wf K mg F φ C H) (a : Stp F φ C H F' φ' C' H') {p : P} {v : V} (h : Rep K mg F H p v) : Rep K mg F' H' p v := Rep.mono a.grow (a.frozen w) p v h
theorem Stp.reps (w : Wf K mg F φ C H) (a : Stp F φ C H F' φ' C' H') {p : List P} {v : List V} (h : Reps K mg F H p v) : Reps K mg F' H' p v := Reps.mono a.grow (a.frozen w) p v h

/-! operands, results -/
def RepA (K : PySem.W.Frag) (mg : Str → Option Value) (F : Addr → Prop) (φ : List Addr) (C : CH) (H : Hp) : A → V → Prop
  | .p x, v => Rep K mg F H x v
  | .vw l, v => ∃ a xs, v = .ref a ∧ ¬ Lv C φ a ∧ H a = some (.lst xs) ∧ Reps K mg F H l xs
  | .cell n, v => ∃ a, v = .ref a ∧ φ[n]? = some a
/-- H0: the heap at the def's entry; Hs: at the expression's begin -/
def RepR (K : PySem.W.Frag) (mg : Str → Option Value) (H0 Hs : Hp) (F : Addr → Prop) (φ : List Addr) (C : CH) (H : Hp) : RV → V → Prop
  | .v x, v => Rep K mg F H x v
  | .fr l, v => ∃ a xs, v = .ref a ∧ ¬ F a ∧ ¬ Lv C φ a ∧ Hs a = none ∧ H a = some (.lst xs) ∧ Reps K mg F H l xs
  | .vw l, v => ∃ a xs, v = .ref a ∧ ¬ F a ∧ ¬ Lv C φ a ∧ H0 a = none ∧ H a = some (.lst xs) ∧ Reps K mg F H l xs
  | .cell n, v => ∃ a, v = .ref a ∧ φ[n]? = some a
def RepD (K : PySem.W.Frag) (mg : Str → Option Value) (H0 : Hp) (F : Addr → Prop) (φ : List Addr) (C : CH) (H : Hp) : D → V → Prop
  | .p x, v => Rep K mg F H x v
  | .own l, v => ∃ a xs, v = .ref a ∧ ¬ F a ∧ ¬ Lv C φ a ∧ H0 a = none ∧ H a = some (.lst xs) ∧ Reps K mg F H l xs
  | .cell n, v => ∃ a, v = .ref a ∧ φ[n]? = some a
/-- a def's entry -/
structure Ent where
  F : Addr → Prop
  φ : List Addr
  C : CH
  H : Hp
structure SRel (K : PySem.W.Frag) (mg : Str → Option Value) (n0 : Ent) (F : Addr → Prop) (φ : List Addr) (C : CH) (H : Hp) (σd : Env) (σ : L2.St) : Prop where
  len : σd.length = σ.length
  at_ : ∀ (i : Nat) (d : D), σd[i]? = some (some d) → ∃ v, σ[i]? = some (some v) ∧ RepD K mg n0.H F φ C H d v
  apart : ∀ (i j : Nat) (l m : List P) (a : Addr), σd[i]? = some (some (.own l)) → σd[j]? = some (some (.own m)) → σ[i]? = some (some (V.ref a)) → σ[j]? = some (some (V.ref a)) → i = j
  ent : Stp n0.F n0.φ n0.C n0.H F φ C H
theorem notLv (s : Stp F φ C H F' φ' C' H') {a : Addr} {o : HO} (h : H a = some o) (hl : ¬ Lv C φ a) : ¬ Lv C' φ' a := fun z => by
  rcases s.lv a z with z | z
  · exact hl z
  · rw [h] at z; cases z
theorem notF (s : Stp F φ C H F' φ' C' H') {a : Addr} {o : HO} (h : H a = some o) (hl : ¬ Lv C φ a) (hF : ¬ F a) : ¬ F' a := fun z => by
  rcases s.new a z with z | z | z
  · exact hF z
  · rw [h] at z; cases z
  · exact hl z
theorem RepA.step (w : Wf K mg F φ C H) (s : Stp F φ C H F' φ' C' H') : ∀ {a : A} {v : V}, RepA K mg F φ C H a v → RepA K mg F' φ' C' H' a v
  | .p x, v, h => s.rep w h
  | .vw l, v, ⟨a, xs, e, h1, h2, h3⟩ => ⟨a, xs, e, notLv s h2 h1, s.keep _ _ h2 h1, s.reps w h3⟩
  | .cell n, v, ⟨a, e, h⟩ => ⟨a, e, s.pre _ _ h⟩
theorem RepD.step (w : Wf K mg F φ C H) (s : Stp F φ C H F' φ' C' H') : ∀ {a : D} {v : V}, RepD K mg H0 F φ C H a v → RepD K mg H0 F' φ' C' H' a v
  | .p x, v, h => s.rep w h
  | .own l, v, ⟨a, xs, e, h0, h1, h4, h2, h3⟩ => ⟨a, xs, e, notF s h2 h1 h0, notLv s h2 h1, h4, s.keep _ _ h2 h1, s.reps w h3⟩
  | .cell n, v, ⟨a, e, h⟩ => ⟨a, e, s.pre _ _ h⟩
theorem SRel.step {n0 : Ent} {σd : Env} {σ : L2.St} (w : Wf K mg F φ C H) (s : Stp F φ C H F' φ' C' H') (r : SRel K mg n0 F φ C H σd σ) : SRel K mg n0 F' φ' C' H' σd σ where
  len := r.len
  at_ := fun i d h => let ⟨v, h1, h2⟩ := r.at_ i d h; ⟨v, h1, h2.step w s⟩
  apart := r.apart
  ent := r.ent.trans s

/-- an address is frozen -/
def frz (F : Addr → Prop) (a : Addr) : Addr → Prop := fun b => F b ∨ b = a
theorem frz_step {Hs : Hp} {Fs : Addr → Prop} {φs : List Addr} {Cs : CH} {a : Addr} (s : Stp Fs φs Cs Hs F φ C H) (h : Hs a = none ∨ Lv Cs φs a) : Stp Fs φs Cs Hs (frz F a) φ C H where
  grow := fun x h => .inl (s.grow x h)
  new := fun x hx => by
    rcases hx with hx | hx
    · exact s.new x hx
    · subst hx; exact .inr h
  pre := s.pre
  lv := s.lv
  keep := s.keep
  dom := s.dom
theorem CellAt'.mono {a : Addr} (hF : ∀ a, F a → F' a) (hH : ∀ a o, F a → H a = some o → H' a = some o) (ha : ∀ o, H a = some o → H' a = some o) : ∀ {cl : Cl}, CellAt' K mg F H a cl → CellAt' K mg F' H' a cl
  | .lst l, ⟨xs, h1, h2⟩ => ⟨xs, ha _ h1, Reps.mono hF hH _ _ h2⟩
  | .ins c ns vs, ⟨C, dx, fs, h1, h2, h3, h4⟩ => ⟨C, dx, fs, ha _ h1, h2, h3, Reps.mono hF hH _ _ h4⟩
theorem frz_wf {a : Addr} {o : HO} (w : Wf K mg F φ C H) (h : H a = some o) (hl : ¬ Lv C φ a) : Wf K mg (frz F a) φ C H where
  dom := fun x hx => by
    rcases hx with hx | hx
    · exact w.dom x hx
    · subst hx; exact some_ne h
  len := w.len
  live := fun n b cl h1 h2 => by
    obtain ⟨q1, q2⟩ := w.live n b cl h1 h2
    refine ⟨fun z => ?_, q2.mono (fun _ z => .inl z) (fun _ _ _ z => z) fun _ z => z⟩
    rcases z with z | z
    · exact q1 z
    · subst z; exact hl ⟨n, cl, h1, h2⟩
  inj := w.inj
theorem reps_frz {a : Addr} {l : List P} {xs : List V} (h : Reps K mg F H l xs) : Reps K mg (frz F a) H l xs := Reps.mono (fun _ z => .inl z) (fun _ _ _ z => z) _ _ h
/-- a result is taken as an operand: what is new is frozen -/
theorem settle {Hs : Hp} {Fs : Addr → Prop} {φs : List Addr} {Cs : CH} (s : Stp Fs φs Cs Hs F φ C H) (w : Wf K mg F φ C H) : ∀ {r : RV} {v : V}, RepR K mg H0 Hs F φ C H r v →
    ∃ F1, Stp Fs φs Cs Hs F1 φ C H ∧ Wf K mg F1 φ C H ∧ RepA K mg F1 φ C H (opA r) v
  | .v x, v, h => ⟨F, s, w, h⟩
  | .vw l, v, ⟨a, xs, e, h1, h2, h3, h4, h5⟩ => ⟨F, s, w, a, xs, e, h2, h4, h5⟩
  | .cell n, v, h => ⟨F, s, w, h⟩
  | .fr l, v, ⟨a, xs, e, h1, h2, h3, h4, h5⟩ => ⟨frz F a, frz_step s (.inl h3), frz_wf w h4 h2, a, xs, e, ⟨.inr rfl, h4⟩, reps_frz h5⟩
/-- to be read: a list at the top may be any list -/
def RepV (K : PySem.W.Frag) (mg : Str → Option Value) (F : Addr → Prop) (H : Hp) : P → V → Prop
  | .lst l, v => ∃ a xs, v = .ref a ∧ H a = some (.lst xs) ∧ Reps K mg F H l xs
  | x, v => Rep K mg F H x v
theorem Rep.v {p : P} {v : V} (h : Rep K mg F H p v) : RepV K mg F H p v := by
  cases p with
  | lst l => obtain ⟨a, xs, e, h1, h2⟩ := h; exact ⟨a, xs, e, h1.2, h2⟩
  | _ => exact h
theorem RepV.tup {l : List P} {v : V} (h : RepV K mg F H (.tup l) v) : ∃ a xs, v = .ref a ∧ TupAt K F H a xs ∧ Reps K mg F H l xs := h
theorem RepV.ro {l : List P} {v : V} (h : RepV K mg F H (.ro l) v) : ∃ a xs, v = .ref a ∧ RoAt K F H a xs ∧ Reps K mg F H l xs := h
theorem RepV.lst {l : List P} {v : V} (h : RepV K mg F H (.lst l) v) : ∃ a xs, v = .ref a ∧ H a = some (.lst xs) ∧ Reps K mg F H l xs := h
theorem RepV.int {l : Int} {v : V} (h : RepV K mg F H (.int l) v) : v = .int l := h
theorem RepV.str {l : Str} {v : V} (h : RepV K mg F H (.str l) v) : v = .str l := h
theorem RepV.bl {l : Bool} {v : V} (h : RepV K mg F H (.bl l) v) : v = .bl l := h
theorem RepV.non {v : V} (h : RepV K mg F H .non v) : v = .non := h
theorem view_ok (w : Wf K mg F φ C H) : ∀ {a : A} {v : V} {x : P}, RepA K mg F φ C H a v → view C a = some x → RepV K mg F H x v
  | .p x, v, y, h, e => by cases e; exact h.v
  | .vw l, v, y, ⟨a, xs, e1, h1, h2, h3⟩, e => by cases e; exact ⟨a, xs, e1, h2, h3⟩
  | .cell n, v, y, ⟨a, e1, h1⟩, e => by
    have e' : (match C[n]? with
      | some (some (.lst l)) => some (P.lst l)
      | _ => none) = some y := e
    split at e'
    · rename_i l hl
      cases e'
      obtain ⟨_, xs, q1, q2⟩ := w.live n a _ hl h1
      exact ⟨a, xs, e1, q1, q2⟩
    · cases e'
theorem datum_ok {a : A} {v : V} {x : P} (h : RepA K mg F φ C H a v) (e : datum a = some x) : Rep K mg F H x v := by
  cases a with
  | p y => cases e; exact h
  | vw l => cases e
  | cell n => cases e
end
end MP
/-! MP3: what it means that an expression of the text does what the small language says. -/
namespace MP
open PySem PySem.Spec PyProof.Rows L2

/-- an error of the program's own: its class, its fields in its own dict -/
def ExRep (K : PySem.W.Frag) (mg : Str → Option Value) (e : Exn) (cls : Value) (d : Option Addr) (F : Addr → Prop) (H : Hp) : Prop :=
  (∃ C, cls = .ref C ∧ mg (Str.ofString e.cls) = some (.ref C)) ∧
    (e.ns = [] ∨ ∃ dd fs, d = some dd ∧ F dd ∧ H dd = some (.xd fs) ∧ fs.map (·.1) = objNames e.ns ∧ Reps K mg F H e.vs (fs.map (·.2)))
/-- an exception lies as it should -/
abbrev EP' (K : PySem.W.Frag) (mg : Str → Option Value) (F : Addr → Prop) (φ : List Addr) (C : CH) (H : Hp) (E : XK) (e : Exn) (C' : CH) : Prop :=
  ∀ cls d H' F' φ', Stp F φ C H F' φ' C' H' → Wf K mg F' φ' C' H' → ExRep K mg e cls d F' H' → E cls d H'
/-- what is wanted behind a run: R relates the result to the machine's -/
def Post {α β : Type} (K : PySem.W.Frag) (mg : Str → Option Value) (F : Addr → Prop) (φ : List Addr) (C : CH) (H : Hp)
    (R : (Addr → Prop) → List Addr → CH → Hp → α → β → Prop) (E : XK) (Q : β → Hp → Prop) : Rs α → Prop
  | .ok a C' => ∀ b H' F' φ', Stp F φ C H F' φ' C' H' → Wf K mg F' φ' C' H' → R F' φ' C' H' a b → Q b H'
  | .ex e C' => EP' K mg F φ C H E e C'
  | .no => False
section
variable {K : PySem.W.Frag} {mg : Str → Option Value} {F F' F1 : Addr → Prop} {φ φ' φ1 : List Addr} {C C' C1 : CH} {H H' H0 H1 : Hp} {E : XK}
theorem Post.rebase {α β : Type} {R R' : (Addr → Prop) → List Addr → CH → Hp → α → β → Prop} {Q : β → Hp → Prop} {r : Rs α} (s : Stp F φ C H F1 φ1 C1 H1) (h : Post K mg F φ C H R E Q r)
    (hR : ∀ F' φ' C' H' a b, R' F' φ' C' H' a b → R F' φ' C' H' a b) : Post K mg F1 φ1 C1 H1 R' E Q r := by
  cases r with
  | ok a C' => exact fun b H' F' φ' s' w' r' => h b H' F' φ' (s.trans s') w' (hR _ _ _ _ _ _ r')
  | ex e C' => exact fun cls d H' F' φ' s' w' r' => h cls d H' F' φ' (s.trans s') w' r'
  | no => exact h
theorem Post.mono {α β : Type} {R : (Addr → Prop) → List Addr → CH → Hp → α → β → Prop} {Q Q' : β → Hp → Prop} {E E' : XK} {r : Rs α} (h : Post K mg F φ C H R E Q r) (hQ : ∀ b H, Q b H → Q' b H) (hE : ∀ c d H, E c d H → E' c d H) : Post K mg F φ C H R E' Q' r := by
  cases r with
  | ok a C' => exact fun b H' F' φ' s' w' r' => hQ _ _ (h b H' F' φ' s' w' r')
  | ex e C' => exact fun cls d H' F' φ' s' w' r' => hE _ _ _ (h cls d H' F' φ' s' w' r')
  | no => exact h
/-- one run behind another -/
theorem Post.bnd {α β γ δ : Type} {R1 : (Addr → Prop) → List Addr → CH → Hp → α → β → Prop} {R2 : (Addr → Prop) → List Addr → CH → Hp → γ → δ → Prop} {Q : δ → Hp → Prop} {r : Rs α} {f : α → CH → Rs γ} {Q1 : β → Hp → Prop}
    (h : Post K mg F φ C H R2 E Q (r.bnd f)) (hk : ∀ a C' b H' F' φ', r = .ok a C' → Stp F φ C H F' φ' C' H' → Wf K mg F' φ' C' H' → R1 F' φ' C' H' a b → Post K mg F φ C H R2 E Q (f a C') → Q1 b H') : Post K mg F φ C H R1 E Q1 r := by
  cases r with
  | ok a C' => exact fun b H' F' φ' s' w' r' => hk a C' b H' F' φ' rfl s' w' r' h
  | ex e C' => exact h
  | no => exact h
end
theorem PE.imp {X : Cx} {e : Expr} {t t' : TE} (h : PE X e t) (hi : ∀ σ H Q, t' σ H Q → t σ H Q) : PE X e t' := ⟨fun pins s σ H Q I w => h.run pins s σ H Q I (hi σ H Q w)⟩
theorem PA.imp {X : Cx} {e : List Expr} {t t' : TA} (h : PA X e t) (hi : ∀ σ H Q, t' σ H Q → t σ H Q) : PA X e t' := ⟨fun pos pins s σ H Q I w => h.run pos pins s σ H Q I (hi σ H Q w)⟩
theorem PT.imp {X : Cx} {e : Expr} {t t' : TT} (h : PT X e t) (hi : ∀ σ H Q, t' σ H Q → t σ H Q) : PT X e t' := ⟨fun pins s σ H Q I w => h.run pins s σ H Q I (hi σ H Q w)⟩
theorem PS.imp {X : Cx} {e : Stmt} {t t' : TS} (h : PS X e t) (hi : ∀ D σ H, t' D σ H → t D σ H) : PS X e t' := ⟨fun pins s σ H D I w => h.run pins s σ H D I (hi D σ H w)⟩
theorem PSs.imp {X : Cx} {e : List Stmt} {t t' : TS} (h : PSs X e t) (hi : ∀ D σ H, t' D σ H → t D σ H) : PSs X e t' := ⟨fun pins s σ H D I w => h.run pins s σ H D I (hi D σ H w)⟩

/-- the world that a reading starts in -/
structure St0 (X : Cx) (n0 : Ent) (F : Addr → Prop) (φ : List Addr) (C : CH) (σd : Env) (σ : L2.St) (H : Hp) : Prop where
  wf : Wf X.K X.mg F φ C H
  sr : SRel X.K X.mg n0 F φ C H σd σ
theorem St0.step {X : Cx} {n0 : Ent} {F F' : Addr → Prop} {φ φ' : List Addr} {C C' : CH} {σd : Env} {σ : L2.St} {H H' : Hp} (z : St0 X n0 F φ C σd σ H) (s : Stp F φ C H F' φ' C' H') (w : Wf X.K X.mg F' φ' C' H') : St0 X n0 F' φ' C' σd σ H' := ⟨w, z.sr.step z.wf s⟩
/-- an expression's reading by the small language -/
def tE (X : Cx) (W : L2.WX) (cb : Cb) (e : E) : TE := fun σ H Q => ∃ n0 F φ C σd, St0 X n0 F φ C σd σ H ∧
  Post X.K X.mg F φ C H (RepR X.K X.mg n0.H H) (fun cls d H' => W cls d σ H') Q (evalE cb e σd C)
def tAs (X : Cx) (W : L2.WX) (cb : Cb) (es : List E) : TA := fun σ H Q => ∃ n0 F φ C σd, St0 X n0 F φ C σd σ H ∧
  Post X.K X.mg F φ C H (fun F φ C H => Paired (RepA X.K X.mg F φ C H)) (fun cls d H' => W cls d σ H') Q (evalAs cb es σd C)
abbrev SimE (X : Cx) (W : L2.WX) (cb : Cb) (e : Expr) (e' : E) : Prop := PE X e (tE X W cb e')
abbrev SimAs (X : Cx) (W : L2.WX) (cb : Cb) (es : List Expr) (es' : List E) : Prop := PA X es (tAs X W cb es')
section
variable {X : Cx} {W : L2.WX} {cb : Cb}
/-- an operand: the reading goes on with the result as an operand -/
theorem opd {e : E} {f : RV → CH → Rs RV} {σ : L2.St} {H : Hp} {n0 : Ent} {F : Addr → Prop} {φ : List Addr} {C : CH} {σd : Env} {Hs : Hp} {Q : VK} {Q1 : VK} (z : St0 X n0 F φ C σd σ H)
    (h : Post X.K X.mg F φ C H (RepR X.K X.mg n0.H Hs) (fun cls d H' => W cls d σ H') Q ((evalE cb e σd C).bnd f))
    (hk : ∀ a C' b H' F' φ', Stp F φ C H F' φ' C' H' → St0 X n0 F' φ' C' σd σ H' → RepA X.K X.mg F' φ' C' H' (opA a) b → (∀ x, a = .v x → Rep X.K X.mg F' H' x b) →
      Post X.K X.mg F' φ' C' H' (RepR X.K X.mg n0.H Hs) (fun cls d H' => W cls d σ H') Q (f a C') → Q1 b H') : tE X W cb e σ H Q1 := by
  refine ⟨n0, F, φ, C, σd, z, Post.bnd h fun a C' b H' F' φ' _ s w r q => ?_⟩
  obtain ⟨F1, s1, w1, r1⟩ := settle s w r
  exact hk a C' b H' F1 φ' s1 (z.step s1 w1) r1 (fun x e => by subst e; exact r1) (Post.rebase s1 q fun _ _ _ _ _ _ h => h)
/-- operands -/
theorem opds {es : List E} {f : List A → CH → Rs RV} {σ : L2.St} {H : Hp} {n0 : Ent} {F : Addr → Prop} {φ : List Addr} {C : CH} {σd : Env} {Hs : Hp} {Q : VK} {Q1 : List V → Hp → Prop} (z : St0 X n0 F φ C σd σ H)
    (h : Post X.K X.mg F φ C H (RepR X.K X.mg n0.H Hs) (fun cls d H' => W cls d σ H') Q ((evalAs cb es σd C).bnd f))
    (hk : ∀ as C' bs H' F' φ', Stp F φ C H F' φ' C' H' → St0 X n0 F' φ' C' σd σ H' → Paired (RepA X.K X.mg F' φ' C' H') as bs →
      Post X.K X.mg F' φ' C' H' (RepR X.K X.mg n0.H Hs) (fun cls d H' => W cls d σ H') Q (f as C') → Q1 bs H') : tAs X W cb es σ H Q1 := by
  refine ⟨n0, F, φ, C, σd, z, Post.bnd h fun as C' bs H' F' φ' _ s w r q => ?_⟩
  exact hk as C' bs H' F' φ' s (z.step s w) r (Post.rebase s q fun _ _ _ _ _ _ h => h)
theorem fr_back {H0 Hs H F φ C} {r : RV} {v : V} {H' : Hp} (hd : ∀ a, Hs a ≠ none → H' a ≠ none) (h : RepR X.K X.mg H0 H' F φ C H r v) : RepR X.K X.mg H0 Hs F φ C H r v := by
  cases r with
  | fr l =>
    obtain ⟨a, xs, e, h1, h2, h3, h4⟩ := h
    refine ⟨a, xs, e, h1, h2, ?_, h4⟩
    by_cases q : Hs a = none
    · exact q
    · exact absurd h3 (hd a q)
  | _ => exact h
theorem sim_as_nil : SimAs X W cb [] [] := PA.imp pa_nil fun σ H Q h => by
  obtain ⟨n0, F, φ, C, σd, z, h⟩ := h
  exact h [] H F φ Stp.refl z.wf .nil
theorem pairedA_step {F F' : Addr → Prop} {φ φ' : List Addr} {C C' : CH} {H H' : Hp} {K mg} (w : Wf K mg F φ C H) (s : Stp F φ C H F' φ' C' H') : ∀ {as : List A} {vs : List V}, Paired (RepA K mg F φ C H) as vs → Paired (RepA K mg F' φ' C' H') as vs
  | _, _, .nil => .nil
  | _, _, .cons h t => .cons (h.step w s) (pairedA_step w s t)
theorem sim_as_cons {e : Expr} {es : List Expr} {e' : E} {es' : List E} (h1 : SimE X W cb e e') (h2 : SimAs X W cb es es') (hs : starEach (e :: es) X.env = (false, eval e X.env) :: starEach es X.env) : SimAs X W cb (e :: es) (e' :: es') :=
  PA.imp (pa_cons h1 h2 hs) fun σ H Q h => by
    obtain ⟨n0, F, φ, C, σd, z, h⟩ := h
    refine ⟨n0, F, φ, C, σd, z, Post.bnd h fun a C' b H' F' φ' _ s w r q => ?_⟩
    obtain ⟨F1, s1, w1, r1⟩ := settle s w r
    have z1 := z.step s1 w1
    refine ⟨n0, F1, φ', C', σd, z1, Post.bnd (Post.rebase s1 q (R' := fun F φ C H => Paired (RepA X.K X.mg F φ C H)) fun _ _ _ _ _ _ h => h) fun as C2 bs H2 F2 φ2 _ s2 w2 r2 q2 => ?_⟩
    exact q2 (b :: bs) H2 F2 φ2 s2 w2 (.cons (r1.step w1 s2) r2)
end
end MP
/-! MP4: expressions, one construct at a time. -/
namespace MP
open PySem PySem.Spec PyProof.Rows L2

theorem char_inj {a b : Char} (h : a.toNat = b.toNat) : a = b := by
  have h1 : a.val = b.val := UInt32.toNat_inj.mp h
  exact Char.ext h1
theorem chars_inj : ∀ {a b : List Char}, a.map Char.toNat = b.map Char.toNat → a = b
  | [], [], _ => rfl
  | [], _ :: _, h => by simp at h
  | _ :: _, [], h => by simp at h
  | x :: xs, y :: ys, h => by
    simp only [List.map_cons, List.cons.injEq] at h
    rw [char_inj h.1, chars_inj h.2]
theorem ofString_inj {a b : String} (h : Str.ofString a = Str.ofString b) : a = b := by
  rw [Str.ofString_eq_toList, Str.ofString_eq_toList] at h
  injection h with h
  have h2 : a.toList.map Char.toNat = b.toList.map Char.toNat := by simpa using h
  exact String.ext (chars_inj h2)
theorem lim_eq : sizeLine = lim := by rw [sizeLine_eq]; rfl
section
variable {K : PySem.W.Frag} {mg : Str → Option Value} {F : Addr → Prop} {φ : List Addr} {C : CH} {H H0 Hs : Hp} {E : XK} {Q : VK}
theorem stp_new {p : Addr} {o : HO} (hp : H p = none) : Stp F φ C H F φ C (upd H p o) where
  grow := fun _ h => h
  new := fun _ h => .inl h
  pre := fun _ _ h => h
  lv := fun _ h => .inl h
  keep := fun a u h _ => by rw [upd_ne (ne_of_none h hp)]; exact h
  dom := fun a h => by
    unfold upd
    split
    · simp
    · exact h
theorem wf_new {p : Addr} {o : HO} (w : Wf K mg F φ C H) (hp : H p = none) : Wf K mg F φ C (upd H p o) where
  dom := fun a h => (stp_new (F := F) (φ := φ) (C := C) hp).dom a (w.dom a h)
  len := w.len
  live := fun n a cl h1 h2 => by
    obtain ⟨q1, q2⟩ := w.live n a cl h1 h2
    refine ⟨q1, q2.mono (fun _ z => z) (fun b u _ z => ?_) fun u z => ?_⟩
    · rw [upd_ne (ne_of_none z hp)]; exact z
    · rw [upd_ne (ne_of_none z hp)]; exact z
  inj := w.inj
theorem notF_new {p : Addr} (w : Wf K mg F φ C H) (hp : H p = none) : ¬ F p := fun z => w.dom p z hp
theorem lv_some (w : Wf K mg F φ C H) {a : Addr} (h : Lv C φ a) : H a ≠ none := by
  obtain ⟨n, cl, h1, h2⟩ := h
  obtain ⟨_, q⟩ := w.live n a cl h1 h2
  cases cl with
  | lst l => obtain ⟨xs, q, _⟩ := q; exact some_ne q
  | ins c ns vs => obtain ⟨_, _, _, q, _⟩ := q; exact some_ne q
theorem notLv_new {p : Addr} (w : Wf K mg F φ C H) (hp : H p = none) : ¬ Lv C φ p := fun z => lv_some w z hp
theorem reps_new {p : Addr} {o : HO} {l : List P} {xs : List V} (hp : H p = none) (w : Wf K mg F φ C H) (h : Reps K mg F H l xs) : Reps K mg F (upd H p o) l xs := (stp_new hp).reps w h
/-- the end of a reading: a value that stands already -/
theorem post_v {x : P} {v : V} (w : Wf K mg F φ C H) (h : Post K mg F φ C H (RepR K mg H0 Hs) E Q (.ok (.v x) C)) (r : Rep K mg F H x v) : Q v H := h v H F φ Stp.refl w r
/-- .. a new list -/
theorem post_fr {l : List P} {xs : List V} (w : Wf K mg F φ C H) (hd : ∀ a, Hs a ≠ none → H a ≠ none) (h : Post K mg F φ C H (RepR K mg H0 Hs) E Q (.ok (.fr l) C)) (r : Reps K mg F H l xs) :
    ∀ p, H p = none → Q (.ref p) (upd H p (.lst xs)) := fun p hp => by
  refine h (.ref p) _ F φ (stp_new hp) (wf_new w hp) ⟨p, xs, rfl, notF_new w hp, notLv_new w hp, ?_, upd_same, reps_new hp w r⟩
  by_cases q : Hs p = none
  · exact q
  · exact absurd hp (hd p q)
/-- .. a new tuple -/
theorem post_tup {l : List P} {xs : List V} (w : Wf K mg F φ C H) (h : Post K mg F φ C H (RepR K mg H0 Hs) E Q (.ok (.v (.tup l)) C)) (r : Reps K mg F H l xs) :
    ∀ p, H p = none → Q (.ref p) (upd H p (.tup xs)) := fun p hp => by
  refine h (.ref p) _ (frz F p) φ ?_ ?_ ⟨p, xs, rfl, .inl ⟨.inr rfl, upd_same⟩, reps_frz (reps_new hp w r)⟩
  · have s := stp_new (F := F) (φ := φ) (C := C) (o := .tup xs) hp
    exact frz_step s (.inl hp)
  · exact frz_wf (wf_new w hp) upd_same (notLv_new w hp)
end

section
variable {X : Cx} {W : L2.WX} {cb : Cb}
/-- a value's domain stays -/
theorem dom_of {H0 : Hp} {F F' : Addr → Prop} {φ φ' : List Addr} {C C' : CH} {H H' : Hp} (s : Stp F φ C H F' φ' C' H') : ∀ a, H a ≠ none → H' a ≠ none := s.dom

/-! ### names and constants -/
theorem sim_var {i : Nat} {x : Str} {pos : Pos} (hN : X.N[i]? = some x) (hv : Vis X.env.scope x) (hd : (x == ("__debug__" : Str)) = false) (hcd : (x == ("__classdict__" : Str)) = false) : SimE X W cb (.Name x pos) (.var i) :=
  PE.imp (pe_var hN hv hd hcd) fun σ H Q h => by
    obtain ⟨n0, F, φ, C, σd, z, h⟩ := h
    unfold evalE at h
    cases e : σd[i]? with
    | none => rw [e] at h; exact h.elim
    | some o =>
      cases o with
      | none => rw [e] at h; exact h.elim
      | some d =>
        obtain ⟨v, h1, h2⟩ := z.sr.at_ i d e
        rw [e] at h
        refine ⟨v, h1, ?_⟩
        cases d with
        | p y => exact h v H F φ Stp.refl z.wf h2
        | own l => exact h v H F φ Stp.refl z.wf h2
        | cell n => exact h v H F φ Stp.refl z.wf h2
/-- a constant that is no object -/
def conV : P → Option V
  | .non => some .non
  | .bl b => some (.bl b)
  | .int i => some (.int i)
  | .str s => some (.str s)
  | _ => none
theorem conV_rep {K mg F H} {x : P} {v : V} (h : conV x = some v) : Rep K mg F H x v := by
  cases x <;> first | (cases h; rfl) | cases h
theorem sim_con {e : Expr} {x : P} {v : V} (he : PE X e (tC v)) (h : conV x = some v) : SimE X W cb e (.con x) :=
  PE.imp he fun σ H Q h' => by
    obtain ⟨n0, F, φ, C, σd, z, h'⟩ := h'
    unfold evalE at h'
    exact post_v z.wf h' (conV_rep h)
/-- a module's constant -/
theorem sim_glo {x : String} {pos : Pos} {v : P} {vv : V} {u : Value} (hg : Gl X (Str.ofString x)) (hm : X.mg (Str.ofString x) = some u) (r : RelV vv u) (hc : cb.con x = some v) (hr : Rep X.K X.mg (fun _ => False) (fun _ => none) v vv)
    (hd : (Str.ofString x == ("__debug__" : Str)) = false) : SimE X W cb (.Name (Str.ofString x) pos) (.glo x) :=
  PE.imp (pe_glob hg hm r hd) fun σ H Q h => by
    obtain ⟨n0, F, φ, C, σd, z, h⟩ := h
    unfold evalE at h
    rw [hc] at h
    exact post_v z.wf h (Rep.mono (fun _ h => h.elim) (fun _ _ h => h.elim) _ _ hr)

/-! ### two operands -/
/-- what an operation on data must show of its reading by values -/
def OpIs (K : PySem.W.Frag) (mg : Str → Option Value) (f : P → P → Option RV) (r : R2) : Prop :=
  ∀ (F : Addr → Prop) (φ : List Addr) (C : CH) (H H0 Hs : Hp) (E : XK) (Q : VK) (x y : P) (v u : V) (rv : RV), Wf K mg F φ C H → (∀ a, Hs a ≠ none → H a ≠ none) → RepV K mg F H x v → RepV K mg F H y u → f x y = some rv →
    Post K mg F φ C H (RepR K mg H0 Hs) E Q (.ok rv C) → r v u H Q
theorem RepV.stp {K mg} {F F' : Addr → Prop} {φ φ' : List Addr} {C C' : CH} {H H' : Hp} (w : Wf K mg F φ C H) (s : Stp F φ C H F' φ' C' H') {p : P} {v : V} (hp : ∀ a xs, v = .ref a → H a = some (.lst xs) → H' a = some (.lst xs)) (h : RepV K mg F H p v) : RepV K mg F' H' p v := by
  cases p with
  | lst l => obtain ⟨a, xs, e, h1, h2⟩ := h; exact ⟨a, xs, e, hp a xs e h1, s.reps w h2⟩
  | _ => exact s.rep w h
theorem two {a b : E} {g : P → P → CH → Rs RV} {r : R2} {σ : L2.St} {H : Hp} {n0 : Ent} {F : Addr → Prop} {φ : List Addr} {C : CH} {σd : Env} {Q : VK} (z : St0 X n0 F φ C σd σ H)
    (h : Post X.K X.mg F φ C H (RepR X.K X.mg n0.H H) (fun cls d H' => W cls d σ H') Q ((evalE cb a σd C).bnd fun x C => (evalE cb b σd C).bnd fun y C =>
      (opt (view C (opA x)) C).bnd fun x C => (opt (view C (opA y)) C).bnd fun y C => g x y C))
    (hk : ∀ x y v u C' H' F' φ', St0 X n0 F' φ' C' σd σ H' → (∀ a, H a ≠ none → H' a ≠ none) → RepV X.K X.mg F' H' x v → RepV X.K X.mg F' H' y u →
      Post X.K X.mg F' φ' C' H' (RepR X.K X.mg n0.H H) (fun cls d H' => W cls d σ H') Q (g x y C') → r v u H' Q) :
    tE X W cb a σ H fun v H1 => tE X W cb b σ H1 fun u H2 => r v u H2 Q := by
  refine opd z h fun ra C1 v H1 F1 φ1 s1 z1 r1 _ q1 => ?_
  refine opd z1 q1 fun rb C2 u H2 F2 φ2 s2 z2 r2 _ q2 => ?_
  have r1' := r1.step z1.wf s2
  cases e1 : view C2 (opA ra) with
  | none => rw [e1] at q2; exact q2.elim
  | some x =>
    rw [e1, opt_some, Rs.bnd_ok] at q2
    cases e2 : view C2 (opA rb) with
    | none => rw [e2] at q2; exact q2.elim
    | some y =>
      rw [e2, opt_some, Rs.bnd_ok] at q2
      exact hk x y v u C2 H2 F2 φ2 z2 (fun a ha => s2.dom a (s1.dom a ha)) (view_ok z2.wf r1' e1) (view_ok z2.wf r2 e2) q2
theorem sim_bin {ea eb : Expr} {a b : E} {op : Bop} {o : Operator} {r : R2} {pos : Pos} (ha : SimE X W cb ea a) (hb : SimE X W cb eb b) (ho : OpR X (binaryOp o) r) (hr : OpIs X.K X.mg (binP op) r) : SimE X W cb (.BinOp ea o eb pos) (.bin op a b) :=
  PE.imp (pe_op ho ha hb) fun σ H Q h => by
    obtain ⟨n0, F, φ, C, σd, z, h⟩ := h
    unfold evalE at h
    refine two z h fun x y v u C' H' F' φ' z' hd r1 r2 q => ?_
    cases e : binP op x y with
    | none => rw [e] at q; exact q.elim
    | some rv => rw [e] at q; exact hr F' φ' C' H' n0.H H _ Q x y v u rv z'.wf hd r1 r2 e q
/-- comparisons -/
def CmpIs (K : PySem.W.Frag) (mg : Str → Option Value) (f : P → P → Option Bool) (r : R2) : Prop :=
  ∀ (F : Addr → Prop) (φ : List Addr) (C : CH) (H : Hp) (Q : VK) (x y : P) (v u : V) (b : Bool), Wf K mg F φ C H → RepV K mg F H x v → RepV K mg F H y u → f x y = some b → Q (.bl b) H → r v u H Q
theorem sim_cmp {ea eb : Expr} {a b : E} {op : Cop} {o : CmpOp} {r : R2} {pos : Pos} (ha : SimE X W cb ea a) (hb : SimE X W cb eb b) (ho : OpR X (compareOp o) r) (hr : CmpIs X.K X.mg (cmpP op) r) (hm : behindInMarks o eb = false) : SimE X W cb (.Compare ea [o] [eb] pos) (.cmp op a b) :=
  PE.imp (pe_cmpR ho ha hb hm) fun σ H Q h => by
    obtain ⟨n0, F, φ, C, σd, z, h⟩ := h
    unfold evalE at h
    refine two z h fun x y v u C' H' F' φ' z' hd r1 r2 q => ?_
    cases e : cmpP op x y with
    | none => rw [e] at q; exact q.elim
    | some k =>
      rw [e] at q
      exact hr F' φ' C' H' Q x y v u k z'.wf r1 r2 e (post_v (x := .bl k) (v := .bl k) z'.wf q rfl)

/-! ### the operations by values -/
theorem binI_int {op : Bop} {x y : P} {i j k : Int} (hx : x = .int i) (hy : y = .int j) (h : binI op i j = some k) : binP op x y = some (.v (.int k)) := by subst hx hy; simp [binP, h]
/-- two ints alone -/
theorem intIs {K mg} {op : Bop} {Cd : Int → Int → Prop} {g : Int → Int → Int} (h1 : ∀ i j k, binI op i j = some k → Cd i j ∧ k = g i j) (h2 : ∀ x y rv, binP op x y = some rv → ∃ i j k, x = .int i ∧ y = .int j ∧ binI op i j = some k ∧ rv = .v (.int k)) :
    OpIs K mg (binP op) (rI Cd fun i j => .int (g i j)) := by
  intro F φ C H H0 Hs E Q x y v u rv w hd r1 r2 e q
  obtain ⟨i, j, k, rfl, rfl, hk, rfl⟩ := h2 x y rv e
  obtain ⟨c, rfl⟩ := h1 i j k hk
  exact ⟨i, j, r1, r2, c, post_v (v := .int _) w q rfl⟩
theorem intIs0 {K mg} {op : Bop} {g : Int → Int → Int} (h1 : ∀ i j k, binI op i j = some k → k = g i j) (h2 : ∀ x y rv, binP op x y = some rv → ∃ i j k, x = .int i ∧ y = .int j ∧ binI op i j = some k ∧ rv = .v (.int k)) :
    OpIs K mg (binP op) (rI0 fun i j => .int (g i j)) := by
  intro F φ C H H0 Hs E Q x y v u rv w hd r1 r2 e q
  obtain ⟨i, j, k, rfl, rfl, hk, rfl⟩ := h2 x y rv e
  have c := h1 i j k hk
  subst c
  exact ⟨i, j, r1, r2, post_v (v := .int _) w q rfl⟩
/-- most operations take ints alone -/
theorem ints_only {op : Bop} (ha : op ≠ .add) (hm : op ≠ .mul) (x y : P) (rv : RV) (h : binP op x y = some rv) : ∃ i j k, x = .int i ∧ y = .int j ∧ binI op i j = some k ∧ rv = .v (.int k) := by
  cases x with
  | int i =>
    cases y with
    | int j =>
      simp only [binP, Option.map_eq_some_iff] at h
      obtain ⟨k, h1, h2⟩ := h
      exact ⟨i, j, k, rfl, rfl, h1, h2.symm⟩
    | _ => simp [binP] at h
  | str s => cases y <;> (cases op <;> simp_all [binP])
  | lst s => cases y <;> (cases op <;> simp_all [binP])
  | tup s => cases y <;> (cases op <;> simp_all [binP])
  | _ => simp [binP] at h
theorem is_sub {K mg} : OpIs K mg (binP .sub) (rI0 fun i j => .int (i - j)) := intIs0 (fun i j k h => (Option.some.inj h).symm) (ints_only (by decide) (by decide))
theorem is_fdiv {K mg} : OpIs K mg (binP .fdiv) (rI CDivW fun i j => .int (i / j)) := intIs (fun i j k h => by
    by_cases hc : divOk j = true
    · have h' : (if divOk j = true then some (i / j) else none) = some k := h
      rw [if_pos hc] at h'
      simp only [divOk, Bool.and_eq_true, decide_eq_true_eq] at hc
      exact ⟨hc, (Option.some.inj h').symm⟩
    · have h' : (if divOk j = true then some (i / j) else none) = some k := h
      rw [if_neg hc] at h'
      cases h') (ints_only (by decide) (by decide))
theorem is_mod {K mg} : OpIs K mg (binP .mod) (rI (fun _ j => 0 < j) fun i j => .int (i % j)) := intIs (fun i j k h => by
    simp only [binI] at h
    split at h
    · rename_i hc
      exact ⟨of_decide_eq_true hc, (Option.some.inj h).symm⟩
    · cases h) (ints_only (by decide) (by decide))
theorem powOk_c {i j : Int} (h : powOk i j = true) : CPow i j := by
  simp only [powOk, Bool.and_eq_true, decide_eq_true_eq] at h
  exact ⟨h.1.1, h.1.2, h.2⟩
theorem is_pow {K mg} : OpIs K mg (binP .pow) (rI CPow fun i j => .int (i ^ j.toNat)) := intIs (fun i j k h => by
    simp only [binI] at h
    split at h
    · rename_i hc
      exact ⟨powOk_c hc, (Option.some.inj h).symm⟩
    · cases h) (ints_only (by decide) (by decide))
theorem is_shl {K mg} : OpIs K mg (binP .shl) (rI CPow fun i j => .int (i * 2 ^ j.toNat)) := intIs (fun i j k h => by
    simp only [binI] at h
    split at h
    · rename_i hc
      exact ⟨powOk_c hc, (Option.some.inj h).symm⟩
    · cases h) (ints_only (by decide) (by decide))
theorem is_shr {K mg} : OpIs K mg (binP .shr) (rI (fun _ j => 0 ≤ j) fun i j => .int (i / 2 ^ j.toNat)) := intIs (fun i j k h => by
    simp only [binI] at h
    split at h
    · rename_i hc
      exact ⟨of_decide_eq_true hc, (Option.some.inj h).symm⟩
    · cases h) (ints_only (by decide) (by decide))
theorem is_band {K mg} : OpIs K mg (binP .band) (rI0 fun i j => .int (Builtin.bitAnd i j)) := intIs0 (fun i j k h => (Option.some.inj h).symm) (ints_only (by decide) (by decide))
theorem is_bor {K mg} : OpIs K mg (binP .bor) (rI0 fun i j => .int (Builtin.bitOr i j)) := intIs0 (fun i j k h => (Option.some.inj h).symm) (ints_only (by decide) (by decide))
theorem is_bxor {K mg} : OpIs K mg (binP .bxor) (rI0 fun i j => .int (Builtin.bitXor i j)) := intIs0 (fun i j k h => (Option.some.inj h).symm) (ints_only (by decide) (by decide))
def rAddAll (K : PySem.W.Frag) : R2 := fun x y H Q => ((rI0 fun i j => .int (i + j)) x y H Q ∨ (∃ i j, x = .str i ∧ y = .str j ∧ i.length + j.length ≤ sizeLine ∧ Q (.str (i ++ j)) H)) ∨ (rCat x y H Q ∨ rCatT K x y H Q)
theorem op_addAll : OpR X (binaryOp .Add) (rAddAll X.K) := (op_add.or op_add_str).or (op_cat.or op_catT)
theorem is_add {K mg} : OpIs K mg (binP .add) (rAddAll K) := by
  intro F φ C H H0 Hs E Q x y v u rv w hd r1 r2 e q
  cases x with
  | int i =>
    cases y with
    | int j =>
      simp only [binP, binI, Option.map_some, Option.some.injEq] at e
      subst e
      exact .inl (.inl ⟨i, j, r1, r2, post_v (v := .int _) w q rfl⟩)
    | _ => simp [binP] at e
  | str a =>
    cases y with
    | str b =>
      simp only [binP] at e
      split at e
      · rename_i hc
        cases e
        exact .inl (.inr ⟨a, b, r1, r2, by rw [lim_eq]; exact of_decide_eq_true hc, post_v (v := .str _) w q rfl⟩)
      · cases e
    | _ => simp [binP] at e
  | lst a =>
    cases y with
    | lst b =>
      simp only [binP] at e
      split at e
      · rename_i hc
        cases e
        obtain ⟨p1, xs, rfl, h1, h2⟩ := r1
        obtain ⟨p2, ys, rfl, h3, h4⟩ := r2
        exact .inr (.inl ⟨p1, p2, xs, ys, rfl, rfl, h1, h3, by rw [lim_eq, ← h2.length, ← h4.length]; exact of_decide_eq_true hc, post_fr w hd q (Reps.app h2 h4)⟩)
      · cases e
    | _ => simp [binP] at e
  | tup a =>
    cases y with
    | tup b =>
      simp only [binP] at e
      split at e
      · rename_i hc
        cases e
        simp only [Bool.and_eq_true, decide_eq_true_eq, Bool.not_eq_true'] at hc
        obtain ⟨p1, xs, rfl, h1, h2⟩ := r1
        obtain ⟨p2, ys, rfl, h3, h4⟩ := r2
        refine .inr (.inr ⟨p1, p2, xs, ys, rfl, rfl, h1.sq, h3.sq, ?_, by rw [lim_eq, ← h2.length, ← h4.length]; exact hc.1, ?_, fun _ => post_tup w q (Reps.app h2 h4)⟩)
        · intro z
          subst z
          have := h2.length
          cases a with
          | nil => simp at hc
          | cons _ _ => simp at this
        · intro z
          subst z
          have : b = [] := List.length_eq_zero_iff.mp (by rw [h4.length]; rfl)
          subst this
          rw [List.append_nil] at q
          exact post_v w q ⟨p1, xs, rfl, h1, h2⟩
      · cases e
    | _ => simp [binP] at e
  | _ => simp [binP] at e
def rMulAll : R2 := fun x y H Q => (rI CMulW fun i j => .int (i * j)) x y H Q ∨ rRep x y H Q
theorem op_mulAll : OpR X (binaryOp .Mult) rMulAll := op_mulW.or op_rep
theorem is_mul {K mg} : OpIs K mg (binP .mul) rMulAll := by
  intro F φ C H H0 Hs E Q x y v u rv w hd r1 r2 e q
  cases x with
  | int i =>
    cases y with
    | int j =>
      simp only [binP, binI] at e
      split at e
      · rename_i hc
        cases e
        exact .inl ⟨i, j, r1, r2, show i.natAbs.log2 + j.natAbs.log2 < 1000000 from of_decide_eq_true hc, post_v (v := .int _) w q rfl⟩
      · cases e
    | _ => simp [binP] at e
  | lst a =>
    cases y with
    | int k =>
      simp only [binP] at e
      split at e
      · rename_i hc
        cases e
        simp only [Bool.and_eq_true, decide_eq_true_eq] at hc
        obtain ⟨p1, xs, rfl, h1, h2⟩ := r1
        exact .inr ⟨p1, k, xs, rfl, r2, h1, hc.1.1, hc.1.2, by rw [lim_eq, ← h2.length]; exact hc.2, post_fr w hd q (Reps.repl h2 _)⟩
      · cases e
    | lst b => simp [binP] at e
    | _ => simp [binP] at e
  | str a => cases y <;> simp [binP] at e
  | tup a => cases y <;> simp [binP] at e
  | _ => simp [binP] at e
end
end MP
/-! MP5: comparisons, places, cuts, by values. -/
namespace MP
open PySem PySem.Spec PyProof.Rows L2
section
variable {K : PySem.W.Frag} {mg : Str → Option Value} {F : Addr → Prop} {H : Hp}
mutual
theorem dat_dp : ∀ (n : Nat) (p : P) (v : V) (d : PyData), dat n p = some d → Rep K mg F H p v → Dp K H v d
  | _, .non, v, d, e, h => by cases e; cases h; exact .non
  | _, .bl b, v, d, e, h => by cases e; cases h; exact .bl b
  | _, .int i, v, d, e, h => by cases e; cases h; exact .int i
  | _, .str s, v, d, e, h => by
    have e' : (if PyData.strOk s then some (PyData.str s) else none) = some d := e
    split at e'
    · cases e'; cases h; exact .str s
    · cases e'
  | 0, .tup l, v, d, e, h => by cases e
  | n + 1, .tup l, v, d, e, h => by
    have e' : (dats n l).map PyData.tuple = some d := e
    obtain ⟨ds, e1, rfl⟩ := Option.map_eq_some_iff.mp e'
    obtain ⟨a, xs, rfl, h1, h2⟩ := h
    exact .tup h1.sq (dats_dp n l xs ds e1 h2)
  | 0, .lst l, v, d, e, h => by cases e
  | n + 1, .lst l, v, d, e, h => by
    have e' : (dats n l).map PyData.list = some d := e
    obtain ⟨ds, e1, rfl⟩ := Option.map_eq_some_iff.mp e'
    obtain ⟨a, xs, rfl, h1, h2⟩ := h
    exact .lst h1.sq (dats_dp n l xs ds e1 h2)
  | _, .obj _ _ _, v, d, e, h => by cases e
  | _, .ro _, v, d, e, h => by cases e
theorem dats_dp : ∀ (n : Nat) (l : List P) (xs : List V) (ds : List PyData), dats n l = some ds → Reps K mg F H l xs → DpAll K H xs ds
  | _, [], xs, ds, e, h => by cases e; cases h; exact .nil
  | n, p :: ps, xs, ds, e, h => by
    have e' : (match dat n p, dats n ps with
      | some d, some ds => some (d :: ds)
      | _, _ => none) = some ds := e
    obtain ⟨x, r, rfl, h1, h2⟩ := h
    split at e'
    · rename_i d ds' e1 e2
      cases e'
      exact .cons (dat_dp n p x d e1 h1) (dats_dp n ps r ds' e2 h2)
    · cases e'
end
mutual
theorem dat_shape : ∀ (n : Nat) (p : P) (d : PyData), dat n p = some d → d.canLay0 = true ∧ d.depth ≤ n
  | _, .non, d, e => by cases e; exact ⟨by simp [PyData.canLay0], by simp [PyData.depth]⟩
  | _, .bl b, d, e => by cases e; exact ⟨by simp [PyData.canLay0], by simp [PyData.depth]⟩
  | _, .int i, d, e => by cases e; exact ⟨by simp [PyData.canLay0], by simp [PyData.depth]⟩
  | _, .str s, d, e => by
    have e' : (if PyData.strOk s then some (PyData.str s) else none) = some d := e
    split at e'
    · rename_i hs
      cases e'
      exact ⟨by simpa [PyData.canLay0] using hs, by simp [PyData.depth]⟩
    · cases e'
  | 0, .tup l, d, e => by cases e
  | n + 1, .tup l, d, e => by
    have e' : (dats n l).map PyData.tuple = some d := e
    obtain ⟨ds, e1, rfl⟩ := Option.map_eq_some_iff.mp e'
    obtain ⟨h1, h2⟩ := dats_shape n l ds e1
    exact ⟨by simpa [PyData.canLay0] using h1, by simp only [PyData.depth]; omega⟩
  | 0, .lst l, d, e => by cases e
  | n + 1, .lst l, d, e => by
    have e' : (dats n l).map PyData.list = some d := e
    obtain ⟨ds, e1, rfl⟩ := Option.map_eq_some_iff.mp e'
    obtain ⟨h1, h2⟩ := dats_shape n l ds e1
    exact ⟨by simpa [PyData.canLay0] using h1, by simp only [PyData.depth]; omega⟩
  | _, .obj _ _ _, d, e => by cases e
  | _, .ro _, d, e => by cases e
theorem dats_shape : ∀ (n : Nat) (l : List P) (ds : List PyData), dats n l = some ds → PyData.canLayAll0 ds = true ∧ PyData.depthAll ds ≤ n
  | _, [], ds, e => by cases e; exact ⟨by simp [PyData.canLayAll0], by simp [PyData.depthAll]⟩
  | n, p :: ps, ds, e => by
    have e' : (match dat n p, dats n ps with
      | some d, some ds => some (d :: ds)
      | _, _ => none) = some ds := e
    split at e'
    · rename_i d ds' e1 e2
      cases e'
      obtain ⟨h1, h2⟩ := dat_shape n p d e1
      obtain ⟨h3, h4⟩ := dats_shape n ps ds' e2
      exact ⟨by simp [PyData.canLayAll0, h1, h3], by simp only [PyData.depthAll]; omega⟩
    · cases e'
end
theorem shaped_of {p : P} {d : PyData} (h : dat 60 p = some d) : SeqAt.shaped d = true := by
  obtain ⟨h1, h2⟩ := dat_shape 60 p d h
  unfold SeqAt.shaped
  rw [h1, decide_eq_true (by omega)]
  rfl
theorem datV_dp {n : Nat} {p : P} {v : V} {d : PyData} (e : dat n p = some d) (h : RepV K mg F H p v) : Dp K H v d := by
  cases p with
  | lst l =>
    cases n with
    | zero => cases e
    | succ n =>
      have e' : (dats n l).map PyData.list = some d := e
      obtain ⟨ds, e1, rfl⟩ := Option.map_eq_some_iff.mp e'
      obtain ⟨a, xs, rfl, h1, h2⟩ := h
      exact .lst (SqL.of h1) (dats_dp n l xs ds e1 h2)
  | _ => exact dat_dp (K := K) (mg := mg) (F := F) n _ v d e h
end
def rEqAll (K : PySem.W.Frag) : R2 := fun x y H Q => rEq x y H Q ∨ rEqD K x y H Q
def rNeAll (K : PySem.W.Frag) : R2 := fun x y H Q => rNe x y H Q ∨ rNeD K x y H Q
section
variable {X : Cx}
theorem op_eqAll (hu : X.A.units + 64 < cLine) : OpR X (compareOp .Eq) (rEqAll X.K) := op_eq.or (op_eqD hu)
theorem op_neAll (hu : X.A.units + 64 < cLine) : OpR X (compareOp .NotEq) (rNeAll X.K) := op_ne.or (op_neD hu)
end
section
variable {K : PySem.W.Frag} {mg : Str → Option Value}
theorem eqP_cases {x y : P} {b : Bool} (h : eqP x y = some b) : (∃ s t, x = .str s ∧ y = .str t ∧ b = (s == t)) ∨ ∃ d e, dat 60 x = some d ∧ dat 60 y = some e ∧ b = PyData.eqv d e := by
  unfold eqP at h
  split at h
  · cases h; exact .inl ⟨_, _, rfl, rfl, rfl⟩
  · split at h
    · rename_i d e h1 h2
      cases h
      exact .inr ⟨d, e, h1, h2, rfl⟩
    · cases h
theorem is_eq : CmpIs K mg (cmpP .eq) (rEqAll K) := by
  intro F φ C H Q x y v u b w r1 r2 e q
  have e' : eqP x y = some b := e
  rcases eqP_cases e' with ⟨s, t, rfl, rfl, rfl⟩ | ⟨d, d', h1, h2, rfl⟩
  · cases r1; cases r2
    exact .inl ⟨rfl, by rw [dec_str]; exact q⟩
  · exact .inr ⟨d, d', datV_dp h1 r1, datV_dp h2 r2, shaped_of h1, shaped_of h2, q⟩
theorem is_ne : CmpIs K mg (cmpP .ne) (rNeAll K) := by
  intro F φ C H Q x y v u b w r1 r2 e q
  have e' : (eqP x y).map (!·) = some b := e
  obtain ⟨c, e1, rfl⟩ := Option.map_eq_some_iff.mp e'
  rcases eqP_cases e1 with ⟨s, t, rfl, rfl, rfl⟩ | ⟨d, d', h1, h2, rfl⟩
  · cases r1; cases r2
    exact .inl ⟨rfl, by rw [dec_str]; exact q⟩
  · exact .inr ⟨d, d', datV_dp h1 r1, datV_dp h2 r2, shaped_of h1, shaped_of h2, q⟩
theorem int_cmp {op : Cop} {g : Int → Int → Bool} (h : ∀ x y b, cmpP op x y = some b → ∃ i j, x = .int i ∧ y = .int j ∧ b = g i j) : CmpIs K mg (cmpP op) (rI0 fun i j => .bl (g i j)) := by
  intro F φ C H Q x y v u b w r1 r2 e q
  obtain ⟨i, j, rfl, rfl, rfl⟩ := h x y b e
  exact ⟨i, j, r1, r2, q⟩
theorem is_lt : CmpIs K mg (cmpP .lt) (rI0 fun i j => .bl (decide (i < j))) := int_cmp fun x y b h => by
  cases x <;> cases y <;> simp [cmpP] at h
  exact ⟨_, _, rfl, rfl, h.symm⟩
theorem is_le : CmpIs K mg (cmpP .le) (rI0 fun i j => .bl (decide (i ≤ j))) := int_cmp fun x y b h => by
  cases x <;> cases y <;> simp [cmpP] at h
  exact ⟨_, _, rfl, rfl, h.symm⟩
theorem is_gt : CmpIs K mg (cmpP .gt) (rI0 fun i j => .bl (decide (j < i))) := int_cmp fun x y b h => by
  cases x <;> cases y <;> simp [cmpP] at h
  exact ⟨_, _, rfl, rfl, h.symm⟩
theorem is_ge : CmpIs K mg (cmpP .ge) (rI0 fun i j => .bl (decide (j ≤ i))) := int_cmp fun x y b h => by
  cases x <;> cases y <;> simp [cmpP] at h
  exact ⟨_, _, rfl, rfl, h.symm⟩
theorem none_iff {F : Addr → Prop} {H : Hp} {x : P} {v : V} (r : RepV K mg F H x v) : decide (v = .non) = isNone x := by
  cases x with
  | non => cases r; rfl
  | bl b => cases r; rfl
  | int b => cases r; rfl
  | str b => cases r; rfl
  | tup l => obtain ⟨a, xs, rfl, _⟩ := r; rfl
  | lst l => obtain ⟨a, xs, rfl, _⟩ := r; rfl
  | ro l => obtain ⟨a, xs, rfl, _⟩ := r; rfl
  | obj c ns vs => obtain ⟨a, C, dx, fs, rfl, _⟩ := r; rfl
theorem is_is : CmpIs K mg (cmpP .is) (fun x y H Q => (y = .non ∧ Q (.bl (decide (x = .non))) H) ∨ ∃ a b, x = .bl a ∧ y = .bl b ∧ Q (.bl (decide (a = b))) H) := by
  intro F φ C H Q x y v u b w r1 r2 e q
  cases y with
  | non =>
    have e' : some (isNone x) = some b := e
    cases e'
    exact .inl ⟨r2, by rw [none_iff r1]; exact q⟩
  | bl t =>
    cases x with
    | bl a =>
      have e' : some (a == t) = some b := e
      cases e'
      refine .inr ⟨a, t, r1, r2, ?_⟩
      have : decide (a = t) = (a == t) := by cases a <;> cases t <;> rfl
      rw [this]
      exact q
    | _ => have e0 : (none : Option Bool) = some b := e; cases e0
  | _ => have e0 : (none : Option Bool) = some b := e; cases e0
theorem is_isn : CmpIs K mg (cmpP .isn) (fun x y H Q => (y = .non ∧ Q (.bl (!decide (x = .non))) H) ∨ ∃ a b, x = .bl a ∧ y = .bl b ∧ Q (.bl (!decide (a = b))) H) := by
  intro F φ C H Q x y v u b w r1 r2 e q
  cases y with
  | non =>
    have e' : some (!isNone x) = some b := e
    cases e'
    exact .inl ⟨r2, by rw [none_iff r1]; exact q⟩
  | bl t =>
    cases x with
    | bl a =>
      have e' : some (!(a == t)) = some b := e
      cases e'
      refine .inr ⟨a, t, r1, r2, ?_⟩
      have : decide (a = t) = (a == t) := by cases a <;> cases t <;> rfl
      rw [this]
      exact q
    | _ => have e0 : (none : Option Bool) = some b := e; cases e0
  | _ => have e0 : (none : Option Bool) = some b := e; cases e0
theorem flat_rep {F : Addr → Prop} {H : Hp} {x : P} {v : V} (f : flatP x = true) (r : Rep K mg F H x v) : flatV v = true := by
  cases x <;> first | (cases r; rfl) | (cases f)
theorem flat_reps {F : Addr → Prop} {H : Hp} : ∀ {l : List P} {xs : List V}, l.all flatP = true → Reps K mg F H l xs → xs.all flatV = true
  | [], _, _, h => by cases h; rfl
  | p :: ps, _, f, ⟨x, r, e, h1, h2⟩ => by
    subst e
    simp only [List.all_cons, Bool.and_eq_true] at f ⊢
    exact ⟨flat_rep f.1 h1, flat_reps f.2 h2⟩
theorem eq_flat {F : Addr → Prop} {H : Hp} {x y : P} {v u : V} (fx : flatP x = true) (fy : flatP y = true) (r : Rep K mg F H x v) (r' : Rep K mg F H y u) : eqV v u = eqFlat x y := by
  cases x <;> cases y <;> first | (exact Bool.noConfusion fx) | (exact Bool.noConfusion fy) | (cases r; cases r'; rfl)
theorem any_flat {F : Addr → Prop} {H : Hp} {x : P} {v : V} (fx : flatP x = true) (r : Rep K mg F H x v) : ∀ {l : List P} {xs : List V}, l.all flatP = true → Reps K mg F H l xs → (xs.any fun y => eqV y v) = l.any fun z => eqFlat z x
  | [], _, _, h => by cases h; rfl
  | p :: ps, _, f, ⟨y, s, e, h1, h2⟩ => by
    subst e
    simp only [List.all_cons, Bool.and_eq_true] at f
    rw [List.any_cons, List.any_cons, eq_flat f.1 fx h1 r, any_flat fx r f.2 h2]
def rInAll (K : PySem.W.Frag) : R2 := fun x y H Q => rIn K false x y H Q ∨ ∃ i j, x = .str i ∧ y = .str j ∧ Q (.bl (!(Builtin.Str.occurrences j i 0 j.length 1).isEmpty)) H
def rNotInAll (K : PySem.W.Frag) : R2 := fun x y H Q => rIn K true x y H Q ∨ ∃ i j, x = .str i ∧ y = .str j ∧ Q (.bl (!(!(Builtin.Str.occurrences j i 0 j.length 1).isEmpty))) H
theorem op_inAll {X : Cx} : OpR X (compareOp .In) (rInAll X.K) := op_in_seq.or op_in_str
theorem op_notInAll {X : Cx} : OpR X (compareOp .NotIn) (rNotInAll X.K) := op_notIn_seq.or op_notin_str
theorem inP_rep {F : Addr → Prop} {H : Hp} {Q : VK} {x y : P} {v u : V} {b : Bool} (neg : Bool) (r1 : RepV K mg F H x v) (r2 : RepV K mg F H y u) (e : inP x y = some b) (q : Q (.bl (if neg then !b else b)) H) :
    rIn K neg v u H Q ∨ ∃ i j, v = .str i ∧ u = .str j ∧ b = (!(Builtin.Str.occurrences j i 0 j.length 1).isEmpty) := by
  have rx : flatP x = true → Rep K mg F H x v := fun f => by cases x <;> first | exact r1 | cases f
  cases y with
  | lst l =>
    have e' : (if flatP x && l.all flatP then some (l.any fun z => eqFlat z x) else none) = some b := e
    split at e'
    · rename_i hf
      simp only [Bool.and_eq_true] at hf
      cases e'
      obtain ⟨a, xs, rfl, h1, h2⟩ := r2
      refine .inl ⟨a, xs, rfl, .inl (SqL.of h1), flat_rep hf.1 (rx hf.1), flat_reps hf.2 h2, ?_⟩
      unfold inV
      rw [any_flat hf.1 (rx hf.1) hf.2 h2]
      exact q
    · cases e'
  | tup l =>
    have e' : (if flatP x && l.all flatP then some (l.any fun z => eqFlat z x) else none) = some b := e
    split at e'
    · rename_i hf
      simp only [Bool.and_eq_true] at hf
      cases e'
      obtain ⟨a, xs, rfl, h1, h2⟩ := r2
      refine .inl ⟨a, xs, rfl, .inr h1.sq, flat_rep hf.1 (rx hf.1), flat_reps hf.2 h2, ?_⟩
      unfold inV
      rw [any_flat hf.1 (rx hf.1) hf.2 h2]
      exact q
    · cases e'
  | str s =>
    cases x with
    | str a => cases r1; cases r2; cases e; exact .inr ⟨a, s, rfl, rfl, rfl⟩
    | _ => cases e
  | _ => cases e
theorem is_in : CmpIs K mg (cmpP .isin) (rInAll K) := by
  intro F φ C H Q x y v u b w r1 r2 e q
  rcases inP_rep (Q := Q) false r1 r2 e q with h | ⟨i, j, h1, h2, h3⟩
  · exact .inl h
  · subst h3; exact .inr ⟨i, j, h1, h2, q⟩
theorem is_nin : CmpIs K mg (cmpP .nin) (rNotInAll K) := by
  intro F φ C H Q x y v u b w r1 r2 e q
  have e' : (inP x y).map (!·) = some b := e
  obtain ⟨c, e1, rfl⟩ := Option.map_eq_some_iff.mp e'
  rcases inP_rep (Q := Q) true r1 r2 e1 q with h | ⟨i, j, h1, h2, h3⟩
  · exact .inl h
  · subst h3; exact .inr ⟨i, j, h1, h2, q⟩

/-! ### places and cuts -/
theorem ixP_eq (n : Nat) (i : Int) : ixP n i = ixN n i := rfl
theorem at_rep {F : Addr → Prop} {H : Hp} {l : List P} {xs : List V} {i : Int} {p : P} (h : Reps K mg F H l xs) (e : ((ixP l.length i).bind fun j => l[j]?) = some p) : ∃ x, atI xs i = some x ∧ Rep K mg F H p x := by
  cases hj : ixP l.length i with
  | none => rw [hj] at e; cases e
  | some j =>
    rw [hj] at e
    obtain ⟨x, h1, h2⟩ := Reps.get h e
    refine ⟨x, ?_, h2⟩
    unfold atI
    rw [← h.length, ← ixP_eq, hj]
    exact h1
end
section
variable {X : Cx} {W : L2.WX} {cb : Cb}
theorem sub_rep {K mg} {F : Addr → Prop} {H : Hp} {Q : VK} {x y p : P} {v u : V} (r1 : RepV K mg F H x v) (r2 : RepV K mg F H y u) (e : subP x y = some p) (q : ∀ z, Rep K mg F H p z → Q z H) : rIx K v u H Q := by
  cases y with
  | int i =>
    cases x with
    | lst l =>
      obtain ⟨a, xs, rfl, h1, h2⟩ := r1
      obtain ⟨z, h3, h4⟩ := at_rep h2 e
      exact .inl ⟨a, xs, i, z, rfl, r2, SqL.of h1, h3, q z h4⟩
    | ro l =>
      obtain ⟨a, xs, rfl, h1, h2⟩ := r1
      obtain ⟨z, h3, h4⟩ := at_rep h2 e
      exact .inl ⟨a, xs, i, z, rfl, r2, h1.sq, h3, q z h4⟩
    | tup l =>
      obtain ⟨a, xs, rfl, h1, h2⟩ := r1
      obtain ⟨z, h3, h4⟩ := at_rep h2 e
      exact .inr (.inl ⟨a, xs, i, z, rfl, r2, h1.sq, h3, q z h4⟩)
    | str s =>
      have e' : (if decide (s.length ≤ lim) then (ixP s.cps.toList.length i).bind fun j => (s.cps.toList[j]?).map fun c => P.str ⟨#[c]⟩ else none) = some p := e
      split at e'
      · rename_i hl
        cases hj : ixP s.cps.toList.length i with
        | none => rw [hj] at e'; cases e'
        | some j =>
          rw [hj] at e'
          obtain ⟨c, h1, rfl⟩ := Option.map_eq_some_iff.mp (show (s.cps.toList[j]?).map (fun c => P.str ⟨#[c]⟩) = some p from e')
          refine .inr (.inr ⟨s, i, c, r1, r2, by rw [lim_eq]; exact of_decide_eq_true hl, ?_, q _ rfl⟩)
          unfold atI
          rw [← ixP_eq, hj]
          exact h1
      · cases e'
    | _ => cases e
  | _ => cases e
theorem sim_sub {ea eb : Expr} {a b : E} {pos : Pos} (ha : SimE X W cb ea a) (hb : SimE X W cb eb b) (hs : PlainIx eb) : SimE X W cb (.Subscript ea eb pos) (.sub a b) :=
  PE.imp (pe_ix ix_seq ha hb hs) fun σ H Q h => by
    obtain ⟨n0, F, φ, C, σd, z, h⟩ := h
    unfold evalE at h
    refine two z h fun x y v u C' H' F' φ' z' hd r1 r2 q => ?_
    cases e : subP x y with
    | none => rw [e] at q; exact q.elim
    | some p =>
      rw [e] at q
      exact sub_rep r1 r2 e fun w hw => post_v z'.wf q hw
end
end MP
/-! MP6: signs, chains, and, or, not, displays, cuts, attributes, built-in calls. -/
namespace MP
open PySem PySem.Spec PyProof.Rows L2

section
variable {X : Cx} {W : L2.WX} {cb : Cb}
theorem sim_neg {e : Expr} {a : E} {pos : Pos} (ha : SimE X W cb e a) : SimE X W cb (.UnaryOp .USub e pos) (.neg a) :=
  PE.imp (pe_un un_neg ha) fun σ H Q h => by
    obtain ⟨n0, F, φ, C, σd, z, h⟩ := h
    unfold evalE at h
    refine opd z h fun ra C1 v H1 F1 φ1 s1 z1 r1 rv q1 => ?_
    cases ra with
    | v x =>
      cases x with
      | int i => exact ⟨i, rv _ rfl, post_v (v := .int _) z1.wf q1 rfl⟩
      | _ => exact q1.elim
    | _ => exact q1.elim
theorem not_val {e : Expr} {a : E} {σ : L2.St} {H : Hp} {n0 : Ent} {F : Addr → Prop} {φ : List Addr} {C : CH} {σd : Env} {Q : VK} (z : St0 X n0 F φ C σd σ H)
    (h : Post X.K X.mg F φ C H (RepR X.K X.mg n0.H H) (fun cls d H' => W cls d σ H') Q (evalE cb (.not a) σd C)) : tE X W cb a σ H fun x H1 => ∃ c, x = .bl c ∧ Q (.bl (!c)) H1 := by
  unfold evalE at h
  refine opd z h fun ra C1 v H1 F1 φ1 s1 z1 r1 rv q1 => ?_
  cases ra with
  | v x =>
    cases x with
    | bl i => exact ⟨i, rv _ rfl, post_v (v := .bl _) z1.wf q1 rfl⟩
    | _ => exact q1.elim
  | _ => exact q1.elim
theorem sim_not {e : Expr} {a : E} {pos : Pos} (ha : SimE X W cb e a) : SimE X W cb (.UnaryOp .Not e pos) (.not a) :=
  PE.imp (pe_not ha) fun σ H Q h => by
    obtain ⟨n0, F, φ, C, σd, z, h⟩ := h
    exact not_val (e := e) z h

/-! ### and, or: a list of operands, each True or False -/
def tAndE (X : Cx) (W : L2.WX) (cb : Cb) (es : List E) : TT := fun σ H Q => ∃ n0 F φ C σd, St0 X n0 F φ C σd σ H ∧
  Post X.K X.mg F φ C H (fun _ _ _ _ (a b : Bool) => a = b) (fun cls d H' => W cls d σ H') Q (evalAnd cb es σd C)
def tOrE (X : Cx) (W : L2.WX) (cb : Cb) (es : List E) : TT := fun σ H Q => ∃ n0 F φ C σd, St0 X n0 F φ C σd σ H ∧
  Post X.K X.mg F φ C H (fun _ _ _ _ (a b : Bool) => a = b) (fun cls d H' => W cls d σ H') Q (evalOr cb es σd C)
/-- a test by its value -/
def tBl (X : Cx) (W : L2.WX) (cb : Cb) (e : E) : TT := fun σ H Q => tE X W cb e σ H fun x H1 => ∃ c, x = .bl c ∧ Q c H1
theorem opdB {e : E} {f : RV → CH → Rs Bool} {σ : L2.St} {H : Hp} {n0 : Ent} {F : Addr → Prop} {φ : List Addr} {C : CH} {σd : Env} {Q : Bool → Hp → Prop} {Q1 : VK} (z : St0 X n0 F φ C σd σ H)
    (h : Post X.K X.mg F φ C H (fun _ _ _ _ (a b : Bool) => a = b) (fun cls d H' => W cls d σ H') Q ((evalE cb e σd C).bnd f))
    (hk : ∀ a C' b H' F' φ', Stp F φ C H F' φ' C' H' → St0 X n0 F' φ' C' σd σ H' → RepA X.K X.mg F' φ' C' H' (opA a) b → (∀ x, a = .v x → Rep X.K X.mg F' H' x b) →
      Post X.K X.mg F' φ' C' H' (fun _ _ _ _ (a b : Bool) => a = b) (fun cls d H' => W cls d σ H') Q (f a C') → Q1 b H') : tE X W cb e σ H Q1 := by
  refine ⟨n0, F, φ, C, σd, z, Post.bnd h fun a C' b H' F' φ' _ s w r q => ?_⟩
  obtain ⟨F1, s1, w1, r1⟩ := settle s w r
  exact hk a C' b H' F1 φ' s1 (z.step s1 w1) r1 (fun x e => by subst e; exact r1) (Post.rebase s1 q fun _ _ _ _ _ _ h => h)
theorem post_b {K mg F φ C H E} {Q : Bool → Hp → Prop} {b : Bool} (w : Wf K mg F φ C H) (h : Post K mg F φ C H (fun _ _ _ _ (a b : Bool) => a = b) E Q (.ok b C)) : Q b H := h b H F φ Stp.refl w rfl
theorem and_cons {a : E} {es : List E} {σ : L2.St} {H : Hp} {Q : Bool → Hp → Prop} (h : tAndE X W cb (a :: es) σ H Q) : tBl X W cb a σ H fun c H1 => if c = true then tAndE X W cb es σ H1 Q else Q false H1 := by
  obtain ⟨n0, F, φ, C, σd, z, h⟩ := h
  unfold evalAnd at h
  refine opdB z h fun ra C1 v H1 F1 φ1 s1 z1 r1 rv q1 => ?_
  cases ra with
  | v x =>
    cases x with
    | bl i =>
      refine ⟨i, rv _ rfl, ?_⟩
      cases i with
      | true => rw [if_pos rfl]; exact ⟨n0, F1, φ1, C1, σd, z1, q1⟩
      | false => rw [if_neg (by decide)]; exact post_b z1.wf q1
    | _ => exact q1.elim
  | _ => exact q1.elim
theorem or_cons {a : E} {es : List E} {σ : L2.St} {H : Hp} {Q : Bool → Hp → Prop} (h : tOrE X W cb (a :: es) σ H Q) : tBl X W cb a σ H fun c H1 => if c = true then Q true H1 else tOrE X W cb es σ H1 Q := by
  obtain ⟨n0, F, φ, C, σd, z, h⟩ := h
  unfold evalOr at h
  refine opdB z h fun ra C1 v H1 F1 φ1 s1 z1 r1 rv q1 => ?_
  cases ra with
  | v x =>
    cases x with
    | bl i =>
      refine ⟨i, rv _ rfl, ?_⟩
      cases i with
      | true => rw [if_pos rfl]; exact post_b z1.wf q1
      | false => rw [if_neg (by decide)]; exact ⟨n0, F1, φ1, C1, σd, z1, q1⟩
    | _ => exact q1.elim
  | _ => exact q1.elim
theorem and_nil {σ : L2.St} {H : Hp} {Q : Bool → Hp → Prop} (h : tAndE X W cb [] σ H Q) : Q true H := by
  obtain ⟨n0, F, φ, C, σd, z, h⟩ := h
  unfold evalAnd at h
  exact post_b z.wf h
theorem or_nil {σ : L2.St} {H : Hp} {Q : Bool → Hp → Prop} (h : tOrE X W cb [] σ H Q) : Q false H := by
  obtain ⟨n0, F, φ, C, σd, z, h⟩ := h
  unfold evalOr at h
  exact post_b z.wf h
/-- and, as a value: the reading of the whole -/
def tAndV' (X : Cx) (W : L2.WX) (cb : Cb) (es : List E) : TE := fun σ H Q => tAndE X W cb es σ H fun c H1 => Q (.bl c) H1
def tOrV' (X : Cx) (W : L2.WX) (cb : Cb) (es : List E) : TE := fun σ H Q => tOrE X W cb es σ H fun c H1 => Q (.bl c) H1
theorem tE_mono {e : E} {σ : L2.St} {H : Hp} {Q Q' : VK} (h : tE X W cb e σ H Q) (hq : ∀ v H, Q v H → Q' v H) : tE X W cb e σ H Q' := by
  obtain ⟨n0, F, φ, C, σd, z, h⟩ := h
  exact ⟨n0, F, φ, C, σd, z, h.mono hq fun _ _ _ h => h⟩
theorem sim_andL : ∀ {es : List Expr} {as : List E} {pos : Pos}, es ≠ [] → Paired (SimE X W cb) es as → PE X (.BoolOp .And es pos) (tAndV' X W cb as)
  | [], _, _, h, _ => absurd rfl h
  | [e], _, pos, _, .cons h1 .nil => PE.imp (pe_one h1) fun σ H Q h => tE_mono (and_cons h) fun v H' ⟨c, e, q⟩ => by
      subst e
      cases c with
      | true => exact and_nil (by rw [if_pos rfl] at q; exact q)
      | false => exact q
  | e :: e2 :: r, _, pos, _, .cons h1 h2 => PE.imp (pe_and h1 (sim_andL (pos := pos) (List.cons_ne_nil _ _) h2)) fun σ H Q h => tE_mono (and_cons h) fun v H' ⟨c, e, q⟩ => by
      subst e
      refine ⟨c, rfl, ?_⟩
      cases c with
      | true => rw [if_pos rfl] at q ⊢; exact q
      | false => exact q
theorem sim_orL : ∀ {es : List Expr} {as : List E} {pos : Pos}, es ≠ [] → Paired (SimE X W cb) es as → PE X (.BoolOp .Or es pos) (tOrV' X W cb as)
  | [], _, _, h, _ => absurd rfl h
  | [e], _, pos, _, .cons h1 .nil => PE.imp (pe_one h1) fun σ H Q h => tE_mono (or_cons h) fun v H' ⟨c, e, q⟩ => by
      subst e
      cases c with
      | true => rw [if_pos rfl] at q; exact q
      | false => exact or_nil (by rw [if_neg (by decide)] at q; exact q)
  | e :: e2 :: r, _, pos, _, .cons h1 h2 => PE.imp (pe_or h1 (sim_orL (pos := pos) (List.cons_ne_nil _ _) h2)) fun σ H Q h => tE_mono (or_cons h) fun v H' ⟨c, e, q⟩ => by
      subst e
      refine ⟨c, rfl, ?_⟩
      cases c with
      | true => rw [if_pos rfl] at q ⊢; exact q
      | false => exact q
theorem sim_and {es : List Expr} {as : List E} {pos : Pos} (hn : es ≠ []) (h : Paired (SimE X W cb) es as) : SimE X W cb (.BoolOp .And es pos) (.and as) :=
  PE.imp (sim_andL hn h) fun σ H Q h => by
    obtain ⟨n0, F, φ, C, σd, z, h⟩ := h
    unfold evalE at h
    refine ⟨n0, F, φ, C, σd, z, Post.bnd h fun b C' c H' F' φ' _ s w e q => ?_⟩
    subst e
    exact q (.bl b) H' F' φ' s w rfl
theorem sim_or {es : List Expr} {as : List E} {pos : Pos} (hn : es ≠ []) (h : Paired (SimE X W cb) es as) : SimE X W cb (.BoolOp .Or es pos) (.or as) :=
  PE.imp (sim_orL hn h) fun σ H Q h => by
    obtain ⟨n0, F, φ, C, σd, z, h⟩ := h
    unfold evalE at h
    refine ⟨n0, F, φ, C, σd, z, Post.bnd h fun b C' c H' F' φ' _ s w e q => ?_⟩
    subst e
    exact q (.bl b) H' F' φ' s w rfl

/-! ### tests -/
/-- what a statement's test asks: the truth of the value -/
def tT (X : Cx) (W : L2.WX) (cb : Cb) (e : E) : TT := fun σ H Q => ∃ n0 F φ C σd, St0 X n0 F φ C σd σ H ∧
  Post X.K X.mg F φ C H (fun _ _ _ _ (a b : Bool) => a = b) (fun cls d H' => W cls d σ H') Q ((evalE cb e σd C).bnd fun x C => opt ((view C (opA x)).bind truP) C)
abbrev SimT (X : Cx) (W : L2.WX) (cb : Cb) (e : Expr) (e' : E) : Prop := PT X e (tT X W cb e')
theorem tru_rep {K mg} {F : Addr → Prop} {H : Hp} {x : P} {v : V} {b : Bool} (r : RepV K mg F H x v) (e : truP x = some b) : TruV K v H b := by
  cases x with
  | bl c => cases r; cases e; exact rfl
  | int i => cases r; cases e; exact rfl
  | lst l =>
    obtain ⟨a, xs, rfl, h1, h2⟩ := r
    cases e
    refine .inl ⟨xs, SqL.of h1, ?_⟩
    have := h2.length
    cases l <;> cases xs <;> first | rfl | (simp at this)
  | tup l =>
    obtain ⟨a, xs, rfl, h1, h2⟩ := r
    cases e
    refine .inr (.inl ⟨xs, h1.sq, ?_⟩)
    have := h2.length
    cases l <;> cases xs <;> first | rfl | (simp at this)
  | _ => cases e
/-- a test of one piece -/
theorem sim_test {e : Expr} {a : E} (ha : SimE X W cb e a) (he : ∀ whole, isTrue e X.env whole = (do let v ← whole; standAt e.pos; holding [v] (truthy v))) : SimT X W cb e a :=
  PT.imp (pt_truth ha he) fun σ H Q h => by
    obtain ⟨n0, F, φ, C, σd, z, h⟩ := h
    refine opdB z h fun ra C1 v H1 F1 φ1 s1 z1 r1 rv q1 => ?_
    cases e1 : view C1 (opA ra) with
    | none => rw [e1] at q1; exact q1.elim
    | some x =>
      rw [e1] at q1
      cases e2 : truP x with
      | none => rw [show (some x).bind truP = none from e2] at q1; exact q1.elim
      | some b =>
        rw [show (some x).bind truP = some b from e2] at q1
        exact ⟨b, tru_rep (view_ok z1.wf r1 e1) e2, post_b z1.wf q1⟩
/-- forms that give True or False alone -/
def isBl : E → Bool
  | .cmp _ _ _ => true
  | .chn _ _ _ _ _ => true
  | .and _ => true
  | .or _ => true
  | .not _ => true
  | .eqo _ _ => true
  | _ => false
theorem bnd_ok {α β : Type} {r : Rs α} {f : α → CH → Rs β} {b : β} {C : CH} (h : r.bnd f = .ok b C) : ∃ a C', r = .ok a C' ∧ f a C' = .ok b C := by
  cases r with
  | ok a C' => exact ⟨a, C', rfl, h⟩
  | ex e C' => cases h
  | no => cases h
theorem opt_ok {α : Type} {o : Option α} {C C' : CH} {a : α} (h : opt o C = .ok a C') : o = some a ∧ C' = C := by
  cases o with
  | none => cases h
  | some b => cases h; exact ⟨rfl, rfl⟩
theorem isBl_ok {a : E} (ha : isBl a = true) {σ : Env} {C C' : CH} {r : RV} (h : evalE cb a σ C = .ok r C') : ∃ b, r = .v (.bl b) := by
  cases a <;> first | (exact Bool.noConfusion ha) | skip
  all_goals unfold evalE at h
  · obtain ⟨_, _, _, h⟩ := bnd_ok h
    obtain ⟨_, _, _, h⟩ := bnd_ok h
    obtain ⟨_, _, _, h⟩ := bnd_ok h
    obtain ⟨_, _, _, h⟩ := bnd_ok h
    obtain ⟨b, _, _, h⟩ := bnd_ok h
    cases h
    exact ⟨b, rfl⟩
  · obtain ⟨_, _, _, h⟩ := bnd_ok h
    obtain ⟨_, _, _, h⟩ := bnd_ok h
    obtain ⟨_, _, _, h⟩ := bnd_ok h
    obtain ⟨_, _, _, h⟩ := bnd_ok h
    obtain ⟨b, _, _, h⟩ := bnd_ok h
    cases b with
    | false => cases h; exact ⟨false, rfl⟩
    | true =>
      obtain ⟨_, _, _, h⟩ := bnd_ok h
      obtain ⟨_, _, _, h⟩ := bnd_ok h
      obtain ⟨b, _, _, h⟩ := bnd_ok h
      cases h
      exact ⟨b, rfl⟩
  · obtain ⟨b, _, _, h⟩ := bnd_ok h
    cases h
    exact ⟨b, rfl⟩
  · obtain ⟨b, _, _, h⟩ := bnd_ok h
    cases h
    exact ⟨b, rfl⟩
  · obtain ⟨b, _, _, h⟩ := bnd_ok h
    split at h
    · cases h; exact ⟨_, rfl⟩
    · cases h
  · obtain ⟨_, _, _, h⟩ := bnd_ok h
    obtain ⟨_, _, _, h⟩ := bnd_ok h
    split at h
    · split at h
      · obtain ⟨_, _, _, h⟩ := bnd_ok h
        split at h
        · cases h; exact ⟨_, rfl⟩
        · cases h
      · cases h
    · cases h
theorem tT_bl {a : E} {σ : L2.St} {H : Hp} {Q : Bool → Hp → Prop} (ha : isBl a = true) (h : tT X W cb a σ H Q) : tBl X W cb a σ H Q := by
  obtain ⟨n0, F, φ, C, σd, z, h⟩ := h
  refine ⟨n0, F, φ, C, σd, z, ?_⟩
  cases e : evalE cb a σd C with
  | no => rw [e] at h; exact h
  | ex e' C' => rw [e] at h; exact h
  | ok r C' =>
    obtain ⟨b, rfl⟩ := isBl_ok ha e
    rw [e] at h
    intro v H' F' φ' s w r
    exact ⟨b, r, h b H' F' φ' s w rfl⟩
/-- a strict test -/
abbrev SimB (X : Cx) (W : L2.WX) (cb : Cb) (e : Expr) (e' : E) : Prop := PT X e (tBl X W cb e')
def plainT : Expr → Bool
  | .BoolOp _ _ _ => false
  | .UnaryOp .Not _ _ => false
  | .Compare _ _ _ _ => false
  | .IfExp _ _ _ _ => false
  | _ => true
theorem plainT_ok {e : Expr} {env : PySem.Env} (h : plainT e = true) : ∀ whole, isTrue e env whole = (do let v ← whole; standAt e.pos; holding [v] (truthy v)) := by
  intro whole
  cases e with
  | UnaryOp op a p => cases op <;> first | rfl | exact Bool.noConfusion h
  | _ => first | rfl | exact Bool.noConfusion h
theorem simB_plain {e : Expr} {a : E} (ha : SimE X W cb e a) (hp : plainT e = true) : SimB X W cb e a := PT.imp (pt_val ha (plainT_ok hp)) fun _ _ _ h => h
theorem simB_not {e : Expr} {a : E} {pos : Pos} (ha : SimB X W cb e a) : SimB X W cb (.UnaryOp .Not e pos) (.not a) :=
  PT.imp (pt_not ha) fun σ H Q h => by
    obtain ⟨n0, F, φ, C, σd, z, h⟩ := h
    refine tE_mono (not_val (e := e) z h) fun v H' ⟨c, e1, d, e2, q⟩ => ⟨c, e1, ?_⟩
    cases e2
    exact q
theorem cmp_imp {a b : E} {op : Cop} {r : R2} (hr : CmpIs X.K X.mg (cmpP op) r) {σ : L2.St} {H : Hp} {Q : VK} (h : tE X W cb (.cmp op a b) σ H Q) : tOp r (tE X W cb a) (tE X W cb b) σ H Q := by
  obtain ⟨n0, F, φ, C, σd, z, h⟩ := h
  unfold evalE at h
  refine two z h fun x y v u C' H' F' φ' z' hd r1 r2 q => ?_
  cases e : cmpP op x y with
  | none => rw [e] at q; exact q.elim
  | some k =>
    rw [e] at q
    exact hr F' φ' C' H' Q x y v u k z'.wf r1 r2 e (post_v (x := .bl k) (v := .bl k) z'.wf q rfl)
theorem simB_cmp {ea eb : Expr} {a b : E} {op : Cop} {o : CmpOp} {r : R2} {pos : Pos} (ha : SimE X W cb ea a) (hb : SimE X W cb eb b) (ho : OpR X (compareOp o) r) (hr : CmpIs X.K X.mg (cmpP op) r) (hm : behindInMarks o eb = false) : SimB X W cb (.Compare ea [o] [eb] pos) (.cmp op a b) :=
  PT.imp (pt_cmpR ho ha hb hm) fun σ H Q h => cmp_imp hr h
theorem simB_andL : ∀ {es : List Expr} {as : List E} {pos : Pos}, es ≠ [] → Paired (SimB X W cb) es as → PW X (.BoolOp .And es pos) (tAndE X W cb as)
  | [], _, _, h, _ => absurd rfl h
  | [e], _, pos, _, .cons h1 .nil => by
      refine ⟨fun wh pins s σ H Q I h => (pw_and1 h1).run wh pins s σ H Q I (tE_mono (and_cons h) fun v H' ⟨c, e, q⟩ => ?_)⟩
      subst e
      refine ⟨c, rfl, ?_⟩
      cases c with
      | true => exact and_nil (by rw [if_pos rfl] at q; exact q)
      | false => exact q
  | e :: e2 :: r, _, pos, _, .cons h1 h2 => ⟨fun wh pins s σ H Q I h => (pw_and h1 (simB_andL (pos := pos) (List.cons_ne_nil _ _) h2)).run wh pins s σ H Q I (and_cons h)⟩
theorem simB_orL : ∀ {es : List Expr} {as : List E} {pos : Pos}, es ≠ [] → Paired (SimB X W cb) es as → PW X (.BoolOp .Or es pos) (tOrE X W cb as)
  | [], _, _, h, _ => absurd rfl h
  | [e], _, pos, _, .cons h1 .nil => by
      refine ⟨fun wh pins s σ H Q I h => (pw_or1 h1).run wh pins s σ H Q I (tE_mono (or_cons h) fun v H' ⟨c, e, q⟩ => ?_)⟩
      subst e
      refine ⟨c, rfl, ?_⟩
      cases c with
      | true => rw [if_pos rfl] at q; exact q
      | false => exact or_nil (by rw [if_neg (by decide)] at q; exact q)
  | e :: e2 :: r, _, pos, _, .cons h1 h2 => ⟨fun wh pins s σ H Q I h => (pw_or h1 (simB_orL (pos := pos) (List.cons_ne_nil _ _) h2)).run wh pins s σ H Q I (or_cons h)⟩
theorem simB_and {es : List Expr} {as : List E} {pos : Pos} (hn : es ≠ []) (h : Paired (SimB X W cb) es as) : SimB X W cb (.BoolOp .And es pos) (.and as) :=
  PT.imp (simB_andL hn h).pt fun σ H Q h => by
    obtain ⟨n0, F, φ, C, σd, z, h⟩ := h
    unfold evalE at h
    refine ⟨n0, F, φ, C, σd, z, Post.bnd h fun b C' c H' F' φ' _ s w e q => ?_⟩
    subst e
    obtain ⟨d, e, q⟩ := q (.bl b) H' F' φ' s w rfl
    cases e
    exact q
theorem simB_or {es : List Expr} {as : List E} {pos : Pos} (hn : es ≠ []) (h : Paired (SimB X W cb) es as) : SimB X W cb (.BoolOp .Or es pos) (.or as) :=
  PT.imp (simB_orL hn h).pt fun σ H Q h => by
    obtain ⟨n0, F, φ, C, σd, z, h⟩ := h
    unfold evalE at h
    refine ⟨n0, F, φ, C, σd, z, Post.bnd h fun b C' c H' F' φ' _ s w e q => ?_⟩
    subst e
    obtain ⟨d, e, q⟩ := q (.bl b) H' F' φ' s w rfl
    cases e
    exact q
/-- two comparisons in a row -/
theorem chn_imp {a b c : E} {o1 o2 : Cop} {r r' : R2} (hr : CmpIs X.K X.mg (cmpP o1) r) (hr' : CmpIs X.K X.mg (cmpP o2) r') {σ : L2.St} {H : Hp} {Q : VK} (h : tE X W cb (.chn o1 o2 a b c) σ H Q) : tChain r r' (tE X W cb a) (tE X W cb b) (tE X W cb c) σ H Q := by
  obtain ⟨n0, F, φ, C, σd, z, h⟩ := h
  unfold evalE at h
  refine opd z h fun ra C1 v H1 F1 φ1 s1 z1 r1 _ q1 => ?_
  refine opd z1 q1 fun rb C2 u H2 F2 φ2 s2 z2 r2 _ q2 => ?_
  have r1' := r1.step z1.wf s2
  cases e1 : view C2 (opA ra) with
  | none => rw [e1] at q2; exact q2.elim
  | some x =>
    rw [e1, opt_some, Rs.bnd_ok] at q2
    cases e2 : view C2 (opA rb) with
    | none => rw [e2] at q2; exact q2.elim
    | some y =>
      rw [e2] at q2
      have q2 : Post X.K X.mg F2 φ2 C2 H2 (RepR X.K X.mg n0.H H) (fun cls d H' => W cls d σ H') Q ((opt (if flatP y then some y else none) C2).bnd fun y C => (opt (cmpP o1 x y) C).bnd fun r C => match r with
        | false => .ok (.v (.bl false)) C
        | true => (evalE cb c σd C).bnd fun z C => (opt (view C (opA z)) C).bnd fun z C => (opt (cmpP o2 y z) C).bnd fun r C => .ok (.v (.bl r)) C) := q2
      by_cases hf : flatP y = true
      rotate_left
      · rw [if_neg hf] at q2; exact q2.elim
      rw [if_pos hf, opt_some, Rs.bnd_ok] at q2
      cases e3 : cmpP o1 x y with
      | none => rw [e3] at q2; exact q2.elim
      | some k =>
        rw [e3, opt_some, Rs.bnd_ok] at q2
        refine hr F2 φ2 C2 H2 _ x y v u k z2.wf (view_ok z2.wf r1' e1) (view_ok z2.wf r2 e2) e3 ⟨k, rfl, ?_⟩
        cases k with
        | false => rw [if_neg (by decide)]; exact post_v (v := .bl false) z2.wf q2 rfl
        | true =>
          rw [if_pos rfl]
          refine opd z2 q2 fun rc C3 t H3 F3 φ3 s3 z3 r3 _ q3 => ?_
          cases e4 : view C3 (opA rc) with
          | none => rw [e4] at q3; exact q3.elim
          | some w =>
            rw [e4, opt_some, Rs.bnd_ok] at q3
            cases e5 : cmpP o2 y w with
            | none => rw [e5] at q3; exact q3.elim
            | some k' =>
              rw [e5, opt_some, Rs.bnd_ok] at q3
              have ry : RepV X.K X.mg F3 H3 y u := by
                have h2 := view_ok z2.wf r2 e2
                cases y with
                | lst l => cases hf
                | _ => exact s3.rep z2.wf h2
              exact hr' F3 φ3 C3 H3 Q y w u t k' z3.wf ry (view_ok z3.wf r3 e4) e5 (post_v (x := .bl k') (v := .bl k') z3.wf q3 rfl)
end
end MP
/-! MP7: chains, a if c else b, displays, cuts, attributes, built-in calls, isinstance. -/
namespace MP
open PySem PySem.Spec PyProof.Rows L2

section
variable {X : Cx} {W : L2.WX} {cb : Cb}
theorem sim_chn {ea eb ec : Expr} {a b c : E} {o1 o2 : Cop} {p1 p2 : CmpOp} {r r' : R2} {pos : Pos} (ha : SimE X W cb ea a) (hb : SimE X W cb eb b) (hc : SimE X W cb ec c) (h1 : OpR X (compareOp p1) r) (h2 : OpR X (compareOp p2) r')
    (hr : CmpIs X.K X.mg (cmpP o1) r) (hr' : CmpIs X.K X.mg (cmpP o2) r') (hm : lastMarks [p1, p2] [eb, ec] = false) : SimE X W cb (.Compare ea [p1, p2] [eb, ec] pos) (.chn o1 o2 a b c) :=
  PE.imp (pe_chain h1 h2 ha hb hc hm) fun σ H Q h => chn_imp hr hr' h
theorem simB_chn {ea eb ec : Expr} {a b c : E} {o1 o2 : Cop} {p1 p2 : CmpOp} {r r' : R2} {pos : Pos} (ha : SimE X W cb ea a) (hb : SimE X W cb eb b) (hc : SimE X W cb ec c) (h1 : OpR X (compareOp p1) r) (h2 : OpR X (compareOp p2) r')
    (hr : CmpIs X.K X.mg (cmpP o1) r) (hr' : CmpIs X.K X.mg (cmpP o2) r') (hm : lastMarks [p1, p2] [eb, ec] = false) : SimB X W cb (.Compare ea [p1, p2] [eb, ec] pos) (.chn o1 o2 a b c) :=
  PT.imp (pt_chain h1 h2 ha hb hc hm) fun σ H Q h => by
    have h' := chn_imp (Q := fun x H' => ∃ c, x = .bl c ∧ Q c H') hr hr' h
    exact h'
theorem simT_bl {e : Expr} {a : E} (h : SimB X W cb e a) (hb : isBl a = true) : SimT X W cb e a := PT.imp h fun σ H Q h => tT_bl hb h
theorem sim_ite {ec ea eb : Expr} {c a b : E} {pos : Pos} (hc : SimT X W cb ec c) (ha : SimE X W cb ea a) (hb : SimE X W cb eb b) : SimE X W cb (.IfExp ec ea eb pos) (.ite c a b) :=
  PE.imp (pe_ifExp hc ha hb) fun σ H Q h => by
    obtain ⟨n0, F, φ, C, σd, z, h⟩ := h
    unfold evalE at h
    have h' : Post X.K X.mg F φ C H (RepR X.K X.mg n0.H H) (fun cls d H' => W cls d σ H') Q (((evalE cb c σd C).bnd fun x C => opt ((view C (opA x)).bind truP) C).bnd fun t C => match t with
        | true => evalE cb a σd C
        | false => evalE cb b σd C) := by
      cases e : evalE cb c σd C with
      | ok r C' => rw [e] at h; exact h
      | ex e' C' => rw [e] at h; exact h
      | no => rw [e] at h; exact h
    refine ⟨n0, F, φ, C, σd, z, Post.bnd h' fun t C' t' H' F' φ' _ s w e q => ?_⟩
    subst e
    have z' := z.step s w
    cases t with
    | true => rw [if_pos rfl]; exact ⟨n0, F', φ', C', σd, z', Post.rebase s q fun _ _ _ _ _ _ h => fr_back s.dom h⟩
    | false => rw [if_neg (by decide)]; exact ⟨n0, F', φ', C', σd, z', Post.rebase s q fun _ _ _ _ _ _ h => fr_back s.dom h⟩

/-! ### displays -/
theorem datA_rep {K mg F φ C H} : ∀ {as : List A} {vs : List V} {xs : List P}, Paired (RepA K mg F φ C H) as vs → datA as = some xs → Reps K mg F H xs vs
  | _, _, _, .nil, e => by cases e; exact Reps.nil
  | a :: as, v :: vs, xs, .cons h t, e => by
    have e' : (match datum a, datA as with
      | some x, some xs => some (x :: xs)
      | _, _ => none) = some xs := e
    split at e'
    · rename_i x ys e1 e2
      cases e'
      exact Reps.cons (datum_ok h e1) (datA_rep t e2)
    · cases e'
theorem sim_tup {es : List Expr} {as : List E} {k : Nat} {pos : Pos} (h : SimAs X W cb es as) : SimE X W cb (.Tuple es k pos) (.tup as) :=
  PE.imp (pe_tup h) fun σ H Q h => by
    obtain ⟨n0, F, φ, C, σd, z, h⟩ := h
    unfold evalE at h
    refine opds z h fun ra C1 vs H1 F1 φ1 s1 z1 r1 q1 => ?_
    cases e : datA ra with
    | none => rw [e] at q1; exact q1.elim
    | some xs =>
      rw [e, opt_some, Rs.bnd_ok] at q1
      by_cases hl : xs.length ≤ lim
      · rw [if_pos (decide_eq_true hl)] at q1
        have rr := datA_rep r1 e
        exact ⟨by rw [← rr.length, lim_eq]; exact hl, post_tup z1.wf q1 rr⟩
      · rw [if_neg (by simpa using hl)] at q1; exact q1.elim
theorem sim_lst {es : List Expr} {as : List E} {pos : Pos} (h : SimAs X W cb es as) : SimE X W cb (.List es pos) (.lst as) :=
  PE.imp (pe_lst h) fun σ H Q h => by
    obtain ⟨n0, F, φ, C, σd, z, h⟩ := h
    unfold evalE at h
    refine opds z h fun ra C1 vs H1 F1 φ1 s1 z1 r1 q1 => ?_
    cases e : datA ra with
    | none => rw [e] at q1; exact q1.elim
    | some xs =>
      rw [e, opt_some, Rs.bnd_ok] at q1
      by_cases hl : xs.length ≤ lim
      · rw [if_pos (decide_eq_true hl)] at q1
        have rr := datA_rep r1 e
        exact ⟨by rw [← rr.length, lim_eq]; exact hl, post_fr z1.wf s1.dom q1 rr⟩
      · rw [if_neg (by simpa using hl)] at q1; exact q1.elim

/-! ### cuts -/
/-- a part of a cut: none or one expression -/
def tPt (X : Cx) (W : L2.WX) (cb : Cb) : List E → TO
  | [] => tNoPart
  | [e] => tPart (tE X W cb e)
  | _ => fun _ _ _ => False
theorem part_ok {lo : List E} {f : Option Int → CH → Rs RV} {σ : L2.St} {H : Hp} {n0 : Ent} {F : Addr → Prop} {φ : List Addr} {C : CH} {σd : Env} {Hs : Hp} {Q : VK} {Q1 : Option Int → Hp → Prop} (z : St0 X n0 F φ C σd σ H) (hlo : lo.length ≤ 1)
    (h : Post X.K X.mg F φ C H (RepR X.K X.mg n0.H Hs) (fun cls d H' => W cls d σ H') Q ((evalAs cb lo σd C).bnd fun l C => (opt ((datA l).bind partP) C).bnd f))
    (hk : ∀ o C' H' F' φ', Stp F φ C H F' φ' C' H' → St0 X n0 F' φ' C' σd σ H' → Post X.K X.mg F' φ' C' H' (RepR X.K X.mg n0.H Hs) (fun cls d H' => W cls d σ H') Q (f o C') → Q1 o H') : tPt X W cb lo σ H Q1 := by
  match lo, hlo with
  | [], _ =>
    unfold evalAs at h
    exact hk none C H F φ Stp.refl z h
  | [e], _ =>
    have h' : Post X.K X.mg F φ C H (RepR X.K X.mg n0.H Hs) (fun cls d H' => W cls d σ H') Q ((evalE cb e σd C).bnd fun x C => (opt ((datA [opA x]).bind partP) C).bnd f) := by
      have e1 : evalAs cb [e] σd C = (evalE cb e σd C).bnd fun x C => .ok [opA x] C := by
        unfold evalAs
        congr 1
      rw [e1] at h
      cases q : evalE cb e σd C with
      | ok r C' => rw [q] at h; exact h
      | ex e' C' => rw [q] at h; exact h
      | no => rw [q] at h; exact h
    refine opd z h' fun ra C1 v H1 F1 φ1 s1 z1 r1 _ q1 => ?_
    cases ra with
    | v x =>
      cases x with
      | int i => exact ⟨i, r1, hk (some i) C1 H1 F1 φ1 s1 z1 q1⟩
      | _ => exact q1.elim
    | fr l => exact q1.elim
    | vw l => exact q1.elim
    | cell n => exact q1.elim
def rSlAll (K : PySem.W.Frag) : V → Option Int → Option Int → Hp → VK → Prop := fun x lo hi H Q => rSlL K x lo hi H Q ∨ rSlT K x lo hi H Q
theorem sl_all : SlR X (rSlAll X.K) := sl_list.or sl_tup
theorem cut_rep {K mg F H} {l : List P} {xs : List V} (h : Reps K mg F H l xs) (lo hi : Option Int) : Reps K mg F H (cutP l lo hi) (cutV xs lo hi) := by
  unfold cutP cutV
  rw [h.length]
  exact Reps.take _ (Reps.drop _ h)
theorem slc_rep {K mg F φ C H H0 Hs E} {Q : VK} {x : P} {v : V} {lo hi : Option Int} {rv : RV} (w : Wf K mg F φ C H) (hd : ∀ a, Hs a ≠ none → H a ≠ none) (r : RepV K mg F H x v) (e : slcP x lo hi = some rv)
    (q : Post K mg F φ C H (RepR K mg H0 Hs) E Q (.ok rv C)) : rSlAll K v lo hi H Q := by
  cases x with
  | lst l =>
    obtain ⟨a, xs, rfl, h1, h2⟩ := r
    cases e
    exact .inl ⟨a, xs, rfl, SqL.of h1, post_fr w hd q (cut_rep h2 lo hi)⟩
  | ro l =>
    obtain ⟨a, xs, rfl, h1, h2⟩ := r
    cases e
    exact .inl ⟨a, xs, rfl, h1.sq, post_fr w hd q (cut_rep h2 lo hi)⟩
  | tup l =>
    obtain ⟨a, xs, rfl, h1, h2⟩ := r
    have e' : (if decide (HT.sIx l.length 0 lo = 0) && decide (HT.sIx l.length l.length hi = l.length) then none else some (RV.v (.tup (cutP l lo hi)))) = some rv := e
    split at e'
    · cases e'
    · rename_i hn
      cases e'
      refine .inr ⟨a, xs, rfl, h1.sq, fun z => hn ?_, post_tup w q (cut_rep h2 lo hi)⟩
      rw [← h2.length] at z
      simp [z.1, z.2]
  | _ => cases e
/-- the optional parts of a cut as they stand in the text -/
inductive SimO (X : Cx) (W : L2.WX) (cb : Cb) : Option Expr → List E → Prop
  | none : SimO X W cb none []
  | some {e : Expr} {a : E} (h : SimE X W cb e a) : SimO X W cb (some e) [a]
theorem SimO.po {o : Option Expr} {l : List E} (h : SimO X W cb o l) : PO X o (tPt X W cb l) := by
  cases h with
  | none => exact po_none
  | some h => exact po_some h
theorem SimO.len {o : Option Expr} {l : List E} (h : SimO X W cb o l) : l.length ≤ 1 := by cases h <;> simp
theorem sim_slc {e : Expr} {a : E} {lo hi : Option Expr} {l u : List E} {p2 pos : Pos} (ha : SimE X W cb e a) (hl : SimO X W cb lo l) (hu : SimO X W cb hi u) : SimE X W cb (.Subscript e (.Slice lo hi none p2) pos) (.slc a l u) :=
  PE.imp (pe_slice sl_all ha hl.po hu.po) fun σ H Q h => by
    obtain ⟨n0, F, φ, C, σd, z, h⟩ := h
    unfold evalE at h
    refine opd z h fun ra C1 v H1 F1 φ1 s1 z1 r1 _ q1 => ?_
    refine part_ok z1 hl.len q1 fun o C2 H2 F2 φ2 s2 z2 q2 => ?_
    refine part_ok z2 hu.len q2 fun o' C3 H3 F3 φ3 s3 z3 q3 => ?_
    have r3 := (r1.step z1.wf s2).step z2.wf s3
    cases e1 : view C3 (opA ra) with
    | none => rw [e1] at q3; exact q3.elim
    | some x =>
      rw [e1, opt_some, Rs.bnd_ok] at q3
      cases e2 : slcP x o o' with
      | none => rw [e2] at q3; exact q3.elim
      | some rv =>
        rw [e2] at q3
        exact slc_rep z3.wf (fun a h => s3.dom a (s2.dom a (s1.dom a h))) (view_ok z3.wf r3 e1) e2 q3

/-! ### attributes -/
theorem fld_rep {K mg F H} {f : String} : ∀ {ns : List String} {vs : List P} {fs : List (Str × V)} {p : P}, fs.map (·.1) = objNames ns → Reps K mg F H vs (fs.map (·.2)) → fld f ns vs = some p → ∃ v, fs.lookup (Str.ofString f) = some v ∧ Rep K mg F H p v
  | [], _, _, _, _, _, e => by simp [fld] at e
  | n :: ns, [], _, _, _, _, e => by simp [fld] at e
  | n :: ns, w :: vs, fs, p, h1, h2, e => by
    cases fs with
    | nil => simp [objNames] at h1
    | cons g fs =>
      obtain ⟨k, x⟩ := g
      simp only [List.map_cons, objNames, List.cons.injEq] at h1
      obtain ⟨x', r, e1, h3, h4⟩ := h2
      simp only [List.map_cons, List.cons.injEq] at e1
      obtain ⟨rfl, rfl⟩ := e1
      obtain ⟨rfl, h5⟩ := h1
      have e' : (if (n == f) = true then some w else fld f ns vs) = some p := e
      by_cases hn : n = f
      · subst hn
        rw [if_pos (by simp)] at e'
        cases e'
        exact ⟨x, by simp [List.lookup], h3⟩
      · rw [if_neg (by simpa using hn)] at e'
        obtain ⟨v, h6, h7⟩ := fld_rep h5 h4 e'
        refine ⟨v, ?_, h7⟩
        have : (Str.ofString f == Str.ofString n) = false := by
          rw [beq_eq_false_iff_ne]
          exact fun q => hn (ofString_inj q).symm
        rw [List.lookup_cons, this]
        exact h6

/-- what the machine's type of a value is -/
def TyN (mg : Str → Option Value) (n : String) (v : Value) : Prop := (mg (Str.ofString n) = none ∧ v = .type n) ∨ ∃ C, mg (Str.ofString n) = some (.ref C) ∧ v = .ref C
def bltNames : List String := ["len", "abs", "min", "max", "sum", "all", "any", "sorted", "list", "tuple", "int", "bool", "str", "range", "enumerate", "zip", "reversed", "isinstance", "NoneType", "super", "ValueError"]
/-- what is known of the text's classes, constants and built-in names -/
structure TxOk (X : Cx) (cb : Cb) : Prop where
  blt : ∀ x ∈ bltNames, X.mg (Str.ofString x) = none
  con : ∀ x v, cb.con x = some v → ∃ u vv, X.mg (Str.ofString x) = some u ∧ RelV vv u ∧ Rep X.K X.mg (fun _ => False) (fun _ => none) v vv
  isi : ∀ a b r, cb.isi a b = some r → ∀ tv uv, TyN X.mg a tv → TyN X.mg b uv → PySem.W.kitOne X.K tv uv = some r
  ins : ∀ a b r, cb.isi a b = some r → ∀ C, X.mg (Str.ofString a) = some (.ref C) → Cls X.K C ∧ PySem.W.findIn X.K (.ref C) "__class__" = some (some (.builtin "object.__class__")) ∧ PySem.W.specialIn X.K (.builtin "object.__class__") "__get__" = some (some (.builtin "getset_descriptor.__get__")) ∧ PySem.W.takesIn X.K (.builtin "object.__class__") = some true ∧ PySem.W.mroIn X.K C (.type "object") = some true
  has : ∀ c f, cb.has c f = true → ∀ C, X.mg (Str.ofString c) = some (.ref C) → Cls X.K C ∧ NoAttr X.K C (Str.ofString f)
def supB (e : Expr) : Bool := match e with
  | .Call (.Name id _) [] [] _ => id != "super"
  | _ => true
theorem attBase {e : Expr} {f : Str} {env : PySem.Env} (h : supB e = true) : attributeBase e f env (eval e env) = eval e env := by
  unfold attributeBase
  cases e with
  | Call fn args kws p =>
    cases fn with
    | Name id q =>
      cases args with
      | nil =>
        cases kws with
        | nil =>
          have h' : (id != "super") = true := h
          simp only [h', Bool.true_or, if_true]
        | cons _ _ => rfl
      | cons _ _ => rfl
    | _ => rfl
  | _ => rfl
theorem sim_att {e : Expr} {a : E} {f : String} {pos : Pos} (T : TxOk X cb) (ha : SimE X W cb e a) (hs : supB e = true) : SimE X W cb (.Attribute e (Str.ofString f) pos) (.att a f) :=
  PE.imp (pe_fld ha (attBase hs)) fun σ H Q h => by
    obtain ⟨n0, F, φ, C, σd, z, h⟩ := h
    unfold evalE at h
    refine opd z h fun ra C1 v H1 F1 φ1 s1 z1 r1 _ q1 => ?_
    cases e1 : attP cb.has C1 (opA ra) f with
    | none => rw [e1] at q1; exact q1.elim
    | some p =>
      rw [e1, opt_some, Rs.bnd_ok] at q1
      cases hA : opA ra with
      | p x =>
        rw [hA] at e1 r1
        cases x with
        | obj c ns vs =>
          have e2 : (if cb.has c f = true then fld f ns vs else none) = some p := e1
          split at e2
          · rename_i hh
            obtain ⟨b, Cc, dx, fs, rfl, h1, h2, h3, h4, h5⟩ := r1
            obtain ⟨w, h6, h7⟩ := fld_rep h4 h5 e2
            obtain ⟨g1, g2⟩ := T.has c f hh Cc h3
            exact ⟨b, Cc, dx, fs, w, rfl, h2, g1, g2, h6, post_v z1.wf q1 h7⟩
          · cases e2
        | _ => cases e1
      | vw l => rw [hA] at e1; cases e1
      | cell n =>
        rw [hA] at e1 r1
        have e2 : (match C1[n]? with
          | some (some (.ins c ns vs)) => if cb.has c f then fld f ns vs else none
          | _ => none) = some p := e1
        split at e2
        · rename_i c ns vs hc
          split at e2
          · rename_i hh
            obtain ⟨b, rfl, hb⟩ := r1
            obtain ⟨_, Cc, dx, fs, h2, h3, h4, h5⟩ := z1.wf.live n b _ hc hb
            obtain ⟨w, h6, h7⟩ := fld_rep h4 h5 e2
            obtain ⟨g1, g2⟩ := T.has c f hh Cc h3
            exact ⟨b, Cc, dx, fs, w, rfl, h2, g1, g2, h6, post_v z1.wf q1 h7⟩
          · cases e2
        · cases e2

/-! ### built-in calls -/
abbrev R1 := List V → Hp → VK → Prop
def CallIs (K : PySem.W.Frag) (mg : Str → Option Value) (f : List P → Option RV) (r : R1) : Prop :=
  ∀ (F : Addr → Prop) (φ : List Addr) (C : CH) (H H0 Hs : Hp) (E : XK) (Q : VK) (xs : List P) (vs : List V) (rv : RV), Wf K mg F φ C H → (∀ a, Hs a ≠ none → H a ≠ none) → Paired (RepV K mg F H) xs vs → f xs = some rv →
    Post K mg F φ C H (RepR K mg H0 Hs) E Q (.ok rv C) → r vs H Q
theorem allA_rep {K mg F φ C H} (w : Wf K mg F φ C H) : ∀ {as : List A} {vs : List V} {xs : List P}, Paired (RepA K mg F φ C H) as vs → allA C as = some xs → Paired (RepV K mg F H) xs vs
  | _, _, _, .nil, e => by cases e; exact .nil
  | a :: as, v :: vs, xs, .cons h t, e => by
    have e' : (match view C a, allA C as with
      | some x, some xs => some (x :: xs)
      | _, _ => none) = some xs := e
    split at e'
    · rename_i x ys e1 e2
      cases e'
      exact .cons (view_ok w h e1) (allA_rep w t e2)
    · cases e'
theorem bi_imp {f : Bi} {as : List E} {r : R1} (hr : CallIs X.K X.mg (biP f) r) {σ : L2.St} {H : Hp} {Q : VK} (h : tE X W cb (.bi f as) σ H Q) : tCB r (tAs X W cb as) σ H Q := by
  obtain ⟨n0, F, φ, C, σd, z, h⟩ := h
  unfold evalE at h
  refine opds z h fun ra C1 vs H1 F1 φ1 s1 z1 r1 q1 => ?_
  cases e : allA C1 ra with
  | none => rw [e] at q1; exact q1.elim
  | some xs =>
    rw [e, opt_some, Rs.bnd_ok] at q1
    cases e2 : biP f xs with
    | none => rw [e2] at q1; exact q1.elim
    | some rv =>
      rw [e2] at q1
      exact hr F1 φ1 C1 H1 n0.H H _ Q xs vs rv z1.wf s1.dom (allA_rep z1.wf r1 e) e2 q1
end
end MP
/-! MP8: built-in calls by values. -/
namespace MP
open PySem PySem.Spec PyProof.Rows L2

/-! ### ints in lists -/
theorem ints_eq : ∀ {l : List P} {ns : List Int}, intsP l = some ns → l = ns.map .int
  | [], _, e => by cases e; rfl
  | .int i :: r, ns, e => by
    have e' : (intsP r).map (i :: ·) = some ns := e
    obtain ⟨ms, e1, rfl⟩ := Option.map_eq_some_iff.mp e'
    rw [ints_eq e1]
    rfl
  | .non :: r, _, e => by cases e
  | .bl _ :: r, _, e => by cases e
  | .str _ :: r, _, e => by cases e
  | .tup _ :: r, _, e => by cases e
  | .lst _ :: r, _, e => by cases e
  | .ro _ :: r, _, e => by cases e
  | .obj _ _ _ :: r, _, e => by cases e
theorem bools_eq : ∀ {l : List P} {ns : List Bool}, boolsP l = some ns → l = ns.map .bl
  | [], _, e => by cases e; rfl
  | .bl i :: r, ns, e => by
    have e' : (boolsP r).map (i :: ·) = some ns := e
    obtain ⟨ms, e1, rfl⟩ := Option.map_eq_some_iff.mp e'
    rw [bools_eq e1]
    rfl
  | .non :: r, _, e => by cases e
  | .int _ :: r, _, e => by cases e
  | .str _ :: r, _, e => by cases e
  | .tup _ :: r, _, e => by cases e
  | .lst _ :: r, _, e => by cases e
  | .ro _ :: r, _, e => by cases e
  | .obj _ _ _ :: r, _, e => by cases e
section
variable {K : PySem.W.Frag} {mg : Str → Option Value} {F : Addr → Prop} {H : Hp}
theorem reps_ints : ∀ {ns : List Int} {xs : List V}, Reps K mg F H (ns.map P.int) xs → xs = ns.map V.int
  | [], _, h => by cases h; rfl
  | n :: ns, _, ⟨x, r, e, h1, h2⟩ => by subst e; cases h1; rw [reps_ints h2]; rfl
theorem reps_of_ints : ∀ ns : List Int, Reps K mg F H (ns.map P.int) (ns.map V.int)
  | [] => Reps.nil
  | n :: ns => Reps.cons rfl (reps_of_ints ns)
theorem reps_bools : ∀ {ns : List Bool} {xs : List V}, Reps K mg F H (ns.map P.bl) xs → xs = ns.map V.bl
  | [], _, h => by cases h; rfl
  | n :: ns, _, ⟨x, r, e, h1, h2⟩ => by subst e; cases h1; rw [reps_bools h2]; rfl
end
theorem minI_le : ∀ (ns : List Int) (y : Int), y ∈ ns → minI ns ≤ y
  | [], y, h => by simp at h
  | [i], y, h => by simp at h; subst h; exact Int.le_refl _
  | i :: j :: r, y, h => by
    have e : minI (i :: j :: r) = if i ≤ minI (j :: r) then i else minI (j :: r) := rfl
    rw [e]
    rcases List.mem_cons.mp h with h | h
    · subst h
      split <;> omega
    · have := minI_le (j :: r) y h
      split <;> omega
theorem minI_mem : ∀ (ns : List Int), ns ≠ [] → minI ns ∈ ns
  | [], h => absurd rfl h
  | [i], _ => by simp [minI]
  | i :: j :: r, _ => by
    have e : minI (i :: j :: r) = if i ≤ minI (j :: r) then i else minI (j :: r) := rfl
    rw [e]
    have := minI_mem (j :: r) (List.cons_ne_nil _ _)
    split
    · exact List.mem_cons_self
    · exact List.mem_cons_of_mem _ this
theorem maxI_le : ∀ (ns : List Int) (y : Int), y ∈ ns → y ≤ maxI ns
  | [], y, h => by simp at h
  | [i], y, h => by simp at h; subst h; exact Int.le_refl _
  | i :: j :: r, y, h => by
    have e : maxI (i :: j :: r) = if maxI (j :: r) ≤ i then i else maxI (j :: r) := rfl
    rw [e]
    rcases List.mem_cons.mp h with h | h
    · subst h
      split <;> omega
    · have := maxI_le (j :: r) y h
      split <;> omega
theorem maxI_mem : ∀ (ns : List Int), ns ≠ [] → maxI ns ∈ ns
  | [], h => absurd rfl h
  | [i], _ => by simp [maxI]
  | i :: j :: r, _ => by
    have e : maxI (i :: j :: r) = if maxI (j :: r) ≤ i then i else maxI (j :: r) := rfl
    rw [e]
    have := maxI_mem (j :: r) (List.cons_ne_nil _ _)
    split
    · exact List.mem_cons_self
    · exact List.mem_cons_of_mem _ this
theorem insI_perm (i : Int) : ∀ l, (insI i l).Perm (i :: l)
  | [] => .refl _
  | j :: r => by
    unfold insI
    split
    · exact .refl _
    · exact ((insI_perm i r).cons j).trans (.swap i j r)
theorem sortI_perm : ∀ l, (sortI l).Perm l
  | [] => .refl _
  | i :: r => (insI_perm i (sortI r)).trans ((sortI_perm r).cons i)
theorem insI_sorted (i : Int) : ∀ l, l.Pairwise (· ≤ ·) → (insI i l).Pairwise (· ≤ ·)
  | [], _ => by simp [insI]
  | j :: r, h => by
    unfold insI
    split
    · rename_i hij
      refine .cons (fun y hy => ?_) h
      rcases List.mem_cons.mp hy with rfl | hy
      · exact hij
      · exact Int.le_trans hij ((List.pairwise_cons.mp h).1 y hy)
    · rename_i hij
      obtain ⟨h1, h2⟩ := List.pairwise_cons.mp h
      refine .cons (fun y hy => ?_) (insI_sorted i r h2)
      rcases List.mem_cons.mp ((insI_perm i r).mem_iff.mp hy) with rfl | hy
      · omega
      · exact h1 y hy
theorem sortI_sorted : ∀ l, (sortI l).Pairwise (· ≤ ·)
  | [] => .nil
  | i :: r => insI_sorted i _ (sortI_sorted r)
theorem sorted_unique : ∀ {a b : List Int}, a.Perm b → a.Pairwise (· ≤ ·) → b.Pairwise (· ≤ ·) → a = b
  | [], b, h, _, _ => h.nil_eq
  | x :: xs, [], h, _, _ => (List.cons_ne_nil _ _ h.eq_nil).elim
  | x :: xs, y :: ys, h, h1, h2 => by
    obtain ⟨p1, p2⟩ := List.pairwise_cons.mp h1
    obtain ⟨q1, q2⟩ := List.pairwise_cons.mp h2
    have e : x = y := by
      have m1 : x ∈ y :: ys := h.mem_iff.mp List.mem_cons_self
      have m2 : y ∈ x :: xs := h.mem_iff.mpr List.mem_cons_self
      rcases List.mem_cons.mp m1 with e | m1
      · exact e
      · rcases List.mem_cons.mp m2 with e | m2
        · exact e.symm
        · exact Int.le_antisymm (p1 y m2) (q1 x m1)
    subst e
    rw [sorted_unique (List.Perm.cons_inv h) p2 q2]
section
variable {K : PySem.W.Frag} {mg : Str → Option Value}
theorem one_arg' {R : P → V → Prop} {xs : List P} {vs : List V} (h : Paired R xs vs) {x : P} (e : xs = [x]) : ∃ v, vs = [v] ∧ R x v := by
  subst e
  cases h with
  | cons h t => cases t; exact ⟨_, rfl, h⟩
theorem two_args' {R : P → V → Prop} {xs : List P} {vs : List V} (h : Paired R xs vs) {x y : P} (e : xs = [x, y]) : ∃ v u, vs = [v, u] ∧ R x v ∧ R y u := by
  subst e
  cases h with
  | cons h t =>
    cases t with
    | cons h' t => cases t; exact ⟨_, _, rfl, h, h'⟩
theorem bi_len : CallIs K mg (biP .len) (fun xs H Q => ∃ x n, xs = [x] ∧ LenV K x H n ∧ Q (.int n) H) := by
  intro F φ C H H0 Hs E Q xs vs rv w hd r e q
  simp only [biP] at e
  split at e
  · rename_i l
    obtain ⟨v, rfl, a, ys, rfl, h1, h2⟩ := one_arg' r rfl
    cases e
    exact ⟨_, l.length, rfl, .inl ⟨ys, SqL.of h1, h2.length⟩, post_v (v := .int _) w q rfl⟩
  · rename_i l
    obtain ⟨v, rfl, a, ys, rfl, h1, h2⟩ := one_arg' r rfl
    cases e
    exact ⟨_, l.length, rfl, .inl ⟨ys, h1.sq, h2.length⟩, post_v (v := .int _) w q rfl⟩
  · rename_i l
    obtain ⟨v, rfl, a, ys, rfl, h1, h2⟩ := one_arg' r rfl
    cases e
    exact ⟨_, l.length, rfl, .inr ⟨ys, h1.sq, h2.length⟩, post_v (v := .int _) w q rfl⟩
  · rename_i s
    split at e
    · rename_i hl
      obtain ⟨v, rfl, hv⟩ := one_arg' r rfl
      cases hv
      cases e
      exact ⟨_, s.length, rfl, ⟨by rw [lim_eq]; exact of_decide_eq_true hl, rfl⟩, post_v (v := .int _) w q rfl⟩
    · cases e
  · cases e
theorem bi_abs : CallIs K mg (biP .abs) (fun xs H Q => ∃ i, xs = [.int i] ∧ Q (.int (if i < 0 then -i else i)) H) := by
  intro F φ C H H0 Hs E Q xs vs rv w hd r e q
  simp only [biP] at e
  split at e
  · obtain ⟨v, rfl, hv⟩ := one_arg' r rfl
    cases hv; cases e
    exact ⟨_, rfl, post_v (v := .int _) w q rfl⟩
  · cases e
theorem bi_min2 : CallIs K mg (biP .min2) (fun xs H Q => ∃ i j, xs = [.int i, .int j] ∧ Q (.int (if j < i then j else i)) H) := by
  intro F φ C H H0 Hs E Q xs vs rv w hd r e q
  simp only [biP] at e
  split at e
  · obtain ⟨v, u, rfl, hv, hu⟩ := two_args' r rfl
    cases hv; cases hu; cases e
    exact ⟨_, _, rfl, post_v (v := .int _) w q rfl⟩
  · cases e
theorem bi_max2 : CallIs K mg (biP .max2) (fun xs H Q => ∃ i j, xs = [.int i, .int j] ∧ Q (.int (if j > i then j else i)) H) := by
  intro F φ C H H0 Hs E Q xs vs rv w hd r e q
  simp only [biP] at e
  split at e
  · obtain ⟨v, u, rfl, hv, hu⟩ := two_args' r rfl
    cases hv; cases hu; cases e
    exact ⟨_, _, rfl, post_v (v := .int _) w q rfl⟩
  · cases e
theorem bi_minl : CallIs K mg (biP .minl) (rMin K) := by
  intro F φ C H H0 Hs E Q xs vs rv w hd r e q
  simp only [biP] at e
  split at e
  · rename_i l
    obtain ⟨v, rfl, a, ys, rfl, h1, h2⟩ := one_arg' r rfl
    obtain ⟨ns, e1, e2⟩ := Option.bind_eq_some_iff.mp e
    have := ints_eq e1
    subst this
    have := reps_ints h2
    subst this
    split at e2
    · cases e2
    · rename_i hne
      cases e2
      have hne' : ns ≠ [] := by simpa using hne
      refine ⟨a, ns, rfl, SqL.of h1, List.length_pos_iff.mpr hne', fun m hm hle => ?_⟩
      have : m = minI ns := Int.le_antisymm (hle _ (minI_mem ns hne')) (minI_le ns m hm)
      subst this
      exact post_v (v := .int _) w q rfl
  · cases e
theorem bi_maxl : CallIs K mg (biP .maxl) (rMax K) := by
  intro F φ C H H0 Hs E Q xs vs rv w hd r e q
  simp only [biP] at e
  split at e
  · rename_i l
    obtain ⟨v, rfl, a, ys, rfl, h1, h2⟩ := one_arg' r rfl
    obtain ⟨ns, e1, e2⟩ := Option.bind_eq_some_iff.mp e
    have := ints_eq e1
    subst this
    have := reps_ints h2
    subst this
    split at e2
    · cases e2
    · rename_i hne
      cases e2
      have hne' : ns ≠ [] := by simpa using hne
      refine ⟨a, ns, rfl, SqL.of h1, List.length_pos_iff.mpr hne', fun m hm hle => ?_⟩
      have : m = maxI ns := Int.le_antisymm (maxI_le ns m hm) (hle _ (maxI_mem ns hne'))
      subst this
      exact post_v (v := .int _) w q rfl
  · cases e
theorem bi_suml : CallIs K mg (biP .suml) (rSum K) := by
  intro F φ C H H0 Hs E Q xs vs rv w hd r e q
  simp only [biP] at e
  split at e
  · rename_i l
    obtain ⟨v, rfl, a, ys, rfl, h1, h2⟩ := one_arg' r rfl
    obtain ⟨ns, e1, rfl⟩ := Option.map_eq_some_iff.mp e
    have := ints_eq e1
    subst this
    have := reps_ints h2
    subst this
    exact ⟨a, ns, rfl, SqL.of h1, post_v (v := .int _) w q rfl⟩
  · cases e
theorem bi_alll : CallIs K mg (biP .alll) (rAll K) := by
  intro F φ C H H0 Hs E Q xs vs rv w hd r e q
  simp only [biP] at e
  split at e
  · rename_i l
    obtain ⟨v, rfl, a, ys, rfl, h1, h2⟩ := one_arg' r rfl
    obtain ⟨ns, e1, rfl⟩ := Option.map_eq_some_iff.mp e
    have := bools_eq e1
    subst this
    have := reps_bools h2
    subst this
    exact ⟨a, ns, rfl, SqL.of h1, post_v (v := .bl _) w q rfl⟩
  · cases e
theorem bi_anyl : CallIs K mg (biP .anyl) (rAny K) := by
  intro F φ C H H0 Hs E Q xs vs rv w hd r e q
  simp only [biP] at e
  split at e
  · rename_i l
    obtain ⟨v, rfl, a, ys, rfl, h1, h2⟩ := one_arg' r rfl
    obtain ⟨ns, e1, rfl⟩ := Option.map_eq_some_iff.mp e
    have := bools_eq e1
    subst this
    have := reps_bools h2
    subst this
    exact ⟨a, ns, rfl, SqL.of h1, post_v (v := .bl _) w q rfl⟩
  · cases e
theorem bi_sortd : CallIs K mg (biP .sortd) (rSortedI K) := by
  intro F φ C H H0 Hs E Q xs vs rv w hd r e q
  simp only [biP] at e
  split at e
  · rename_i l
    obtain ⟨v, rfl, a, ys, rfl, h1, h2⟩ := one_arg' r rfl
    obtain ⟨ns, e1, rfl⟩ := Option.map_eq_some_iff.mp e
    have := ints_eq e1
    subst this
    have := reps_ints h2
    subst this
    refine ⟨a, ns, rfl, SqL.of h1, fun ns' p hp hs hn => ?_⟩
    have : ns' = sortI ns := sorted_unique (hp.trans (sortI_perm ns).symm) hs (sortI_sorted ns)
    subst this
    exact post_fr w hd q (reps_of_ints _) p hn
  · cases e
theorem bi_list : CallIs K mg (biP .list) (fun xs H Q => ∃ p ys, xs = [.ref p] ∧ (SqL K H p ys ∨ SqT K H p ys) ∧ ∀ l, H l = none → Q (.ref l) (upd H l (.lst ys))) := by
  intro F φ C H H0 Hs E Q xs vs rv w hd r e q
  simp only [biP] at e
  split at e
  · rename_i l
    obtain ⟨v, rfl, a, ys, rfl, h1, h2⟩ := one_arg' r rfl
    cases e
    exact ⟨a, ys, rfl, .inl (SqL.of h1), post_fr w hd q h2⟩
  · rename_i l
    obtain ⟨v, rfl, a, ys, rfl, h1, h2⟩ := one_arg' r rfl
    cases e
    exact ⟨a, ys, rfl, .inl h1.sq, post_fr w hd q h2⟩
  · rename_i l
    obtain ⟨v, rfl, a, ys, rfl, h1, h2⟩ := one_arg' r rfl
    cases e
    exact ⟨a, ys, rfl, .inr h1.sq, post_fr w hd q h2⟩
  · cases e
theorem bi_tuple : CallIs K mg (biP .tuple) (fun xs H Q => ∃ p ys, xs = [.ref p] ∧ ((SqL K H p ys ∧ ∀ l, H l = none → Q (.ref l) (upd H l (.tup ys))) ∨ (SqT K H p ys ∧ Q (.ref p) H))) := by
  intro F φ C H H0 Hs E Q xs vs rv w hd r e q
  simp only [biP] at e
  split at e
  · rename_i l
    obtain ⟨v, rfl, a, ys, rfl, h1, h2⟩ := one_arg' r rfl
    cases e
    exact ⟨a, ys, rfl, .inl ⟨SqL.of h1, post_tup w q h2⟩⟩
  · rename_i l
    obtain ⟨v, rfl, a, ys, rfl, h1, h2⟩ := one_arg' r rfl
    cases e
    exact ⟨a, ys, rfl, .inr ⟨h1.sq, post_v w q ⟨a, ys, rfl, h1, h2⟩⟩⟩
  · cases e
theorem bi_int : CallIs K mg (biP .int) (fun xs H Q => (∃ i, xs = [.int i] ∧ Q (.int i) H) ∨ ∃ k, xs = [.bl k] ∧ Q (.int (if k then 1 else 0)) H) := by
  intro F φ C H H0 Hs E Q xs vs rv w hd r e q
  simp only [biP] at e
  split at e
  · obtain ⟨v, rfl, hv⟩ := one_arg' r rfl
    cases hv; cases e
    exact .inl ⟨_, rfl, post_v (v := .int _) w q rfl⟩
  · obtain ⟨v, rfl, hv⟩ := one_arg' r rfl
    cases hv; cases e
    exact .inr ⟨_, rfl, post_v (v := .int _) w q rfl⟩
  · cases e
theorem bi_bool : CallIs K mg (biP .bool) (fun xs H Q => (∃ i, xs = [.int i] ∧ Q (.bl (i != 0)) H) ∨ ∃ k, xs = [.bl k] ∧ Q (.bl k) H) := by
  intro F φ C H H0 Hs E Q xs vs rv w hd r e q
  simp only [biP] at e
  split at e
  · obtain ⟨v, rfl, hv⟩ := one_arg' r rfl
    cases hv; cases e
    exact .inl ⟨_, rfl, post_v (v := .bl _) w q rfl⟩
  · obtain ⟨v, rfl, hv⟩ := one_arg' r rfl
    cases hv; cases e
    exact .inr ⟨_, rfl, post_v (v := .bl _) w q rfl⟩
  · cases e
theorem bi_str : CallIs K mg (biP .str) (fun xs H Q => ∃ i, xs = [.int i] ∧ i.natAbs.log2 < 1920 ∧ Q (.str (toString i)) H) := by
  intro F φ C H H0 Hs E Q xs vs rv w hd r e q
  simp only [biP] at e
  split at e
  · split at e
    · rename_i hl
      obtain ⟨v, rfl, hv⟩ := one_arg' r rfl
      cases hv; cases e
      exact ⟨_, rfl, of_decide_eq_true hl, post_v (v := .str _) w q rfl⟩
    · cases e
  · cases e
end
end MP
/-! MP9: what loops walk, targets, comprehensions. -/
namespace MP
open PySem PySem.Spec PyProof.Rows L2

/-! ### targets -/
def gNs : List Nat → TGs
  | [] => gNil
  | i :: is => gCons (gName i) (gNs is)
def gT (K : PySem.W.Frag) : Tg → TG
  | .nm i => gName i
  | .tp is => gTup K is.length (gNs is)
def slotsT : Tg → List Nat
  | .nm i => [i]
  | .tp is => is
section
variable {K : PySem.W.Frag} {mg : Str → Option Value} {F : Addr → Prop} {φ : List Addr} {C : CH} {H : Hp} {n0 : Ent}
theorem SRel.put {σd : Env} {σ : L2.St} {i : Nat} {d : D} {v : V} (r : SRel K mg n0 F φ C H σd σ) (h : RepD K mg n0.H F φ C H d v) (ho : ∀ l, d = .own l → ∀ a, v = .ref a → ∀ (j : Nat) (m : List P), j ≠ i → σd[j]? = some (some (.own m)) → σ[j]? ≠ some (some (.ref a))) :
    SRel K mg n0 F φ C H (σd.set i (some d)) (σ.set i (some v)) where
  len := by simp [r.len]
  at_ := fun j e h1 => by
    by_cases hj : i = j
    · subst hj
      by_cases hl : i < σd.length
      · rw [List.getElem?_set_self hl] at h1
        cases h1
        exact ⟨v, List.getElem?_set_self (by rw [← r.len]; exact hl), h⟩
      · rw [List.getElem?_eq_none (by simpa using hl)] at h1
        cases h1
    · rw [List.getElem?_set_ne hj] at h1
      obtain ⟨u, h2, h3⟩ := r.at_ j e h1
      exact ⟨u, by rw [List.getElem?_set_ne hj]; exact h2, h3⟩
  apart := fun j k l m a h1 h2 h3 h4 => by
    by_cases hj : i = j
    · by_cases hk : i = k
      · exact hj.symm.trans hk
      · subst hj
        have hl : i < σd.length := by
          by_cases hl : i < σd.length
          · exact hl
          · rw [List.getElem?_eq_none (by simpa using hl)] at h1; cases h1
        rw [List.getElem?_set_self hl] at h1
        rw [List.getElem?_set_self (by rw [← r.len]; exact hl)] at h3
        cases h1; cases h3
        rw [List.getElem?_set_ne hk] at h2 h4
        exact (ho l rfl a rfl k m (Ne.symm hk) h2 h4).elim
    · by_cases hk : i = k
      · subst hk
        have hl : i < σd.length := by
          by_cases hl : i < σd.length
          · exact hl
          · rw [List.getElem?_eq_none (by simpa using hl)] at h2; cases h2
        rw [List.getElem?_set_self hl] at h2
        rw [List.getElem?_set_self (by rw [← r.len]; exact hl)] at h4
        cases h2; cases h4
        rw [List.getElem?_set_ne hj] at h1 h3
        exact (ho m rfl a rfl j l (Ne.symm hj) h1 h3).elim
      · rw [List.getElem?_set_ne hj] at h1 h3
        rw [List.getElem?_set_ne hk] at h2 h4
        exact r.apart j k l m a h1 h2 h3 h4
  ent := r.ent
theorem SRel.putp {σd : Env} {σ : L2.St} {i : Nat} {x : P} {v : V} (r : SRel K mg n0 F φ C H σd σ) (h : Rep K mg F H x v) : SRel K mg n0 F φ C H (σd.set i (some (.p x))) (σ.set i (some v)) := r.put h fun l e => by cases e
/-- several names -/
def putS : List Nat → List V → L2.St → L2.St
  | i :: is, v :: vs, σ => putS is vs (σ.set i (some v))
  | _, _, σ => σ
theorem gNs_ok : ∀ {is : List Nat} {l : List P} {xs : List V} {σd σd' : Env} {σ : L2.St} {Q : L2.St → Hp → Prop}, SRel K mg n0 F φ C H σd σ → Reps K mg F H l xs → putT is l σd = some σd' → (SRel K mg n0 F φ C H σd' (putS is xs σ) → Q (putS is xs σ) H) → gNs is xs σ H Q
  | [], [], _, σd, σd', σ, Q, r, h, e, q => by cases h; cases e; exact ⟨rfl, q r⟩
  | [], _ :: _, _, _, _, _, _, _, _, e, _ => by cases e
  | _ :: _, [], _, _, _, _, _, _, _, e, _ => by cases e
  | i :: is, p :: ps, _, σd, σd', σ, Q, r, ⟨x, xs, e1, h1, h2⟩, e, q => by
    subst e1
    exact ⟨x, xs, rfl, gNs_ok (r.putp h1) h2 e q⟩
theorem putT_len : ∀ {is : List Nat} {l : List P} {σd σd' : Env}, putT is l σd = some σd' → l.length = is.length
  | [], [], _, _, _ => rfl
  | [], _ :: _, _, _, e => by cases e
  | _ :: _, [], _, _, e => by cases e
  | i :: is, p :: ps, σd, σd', e => by
    have e' : putT is ps (σd.set i (some (.p p))) = some σd' := e
    simp [putT_len e']
/-- what a target leaves -/
def tgS (H : Hp) : Tg → V → L2.St → L2.St → Prop
  | .nm i, v, σ, σ' => σ' = σ.set i (some v)
  | .tp is, v, σ, σ' => ∃ xs, σ' = putS is xs σ ∧ xs.length = is.length
theorem gT_ok {t : Tg} {x : P} {v : V} {σd σd' : Env} {σ : L2.St} {Q : L2.St → Hp → Prop} (r : SRel K mg n0 F φ C H σd σ) (h : Rep K mg F H x v) (e : bindT t x σd = some σd') (q : ∀ σ', tgS H t v σ σ' → SRel K mg n0 F φ C H σd' σ' → Q σ' H) : gT K t v σ H Q := by
  cases t with
  | nm i =>
    cases e
    exact q _ rfl (r.putp h)
  | tp is =>
    cases x with
    | tup l =>
      have e' : putT is l σd = some σd' := e
      obtain ⟨a, xs, rfl, h1, h2⟩ := h
      refine ⟨a, xs, rfl, h1.sq, by rw [← h2.length, putT_len e'], gNs_ok r h2 e' fun r' => q _ ⟨xs, rfl, by rw [← h2.length, putT_len e']⟩ r'⟩
    | _ => cases e
end

/-! ### sources -/
/-- from one state of a def's body to a later one: what is frozen stays -/
structure SSt (F : Addr → Prop) (φ : List Addr) (H : Hp) (F' : Addr → Prop) (φ' : List Addr) (H' : Hp) : Prop where
  grow : ∀ a, F a → F' a
  keep : ∀ a o, F a → H a = some o → H' a = some o
  pre : ∀ (n : Nat) (a : Addr), φ[n]? = some a → φ'[n]? = some a
section
variable {K : PySem.W.Frag} {mg : Str → Option Value} {F F' F'' : Addr → Prop} {φ φ' φ'' : List Addr} {C C' : CH} {H H' H'' : Hp}
theorem Stp.sst (w : Wf K mg F φ C H) (s : Stp F φ C H F' φ' C' H') : SSt F φ H F' φ' H' := ⟨s.grow, s.frozen w, s.pre⟩
theorem SSt.refl : SSt F φ H F φ H := ⟨fun _ h => h, fun _ _ _ h => h, fun _ _ h => h⟩
theorem SSt.trans (a : SSt F φ H F' φ' H') (b : SSt F' φ' H' F'' φ'' H'') : SSt F φ H F'' φ'' H'' := ⟨fun x h => b.grow x (a.grow x h), fun x o h e => b.keep x o (a.grow x h) (a.keep x o h e), fun n x h => b.pre n x (a.pre n x h)⟩
/-- the source at hand yields the data ps, one after another, while what is frozen stays -/
def ItOk (K : PySem.W.Frag) (mg : Str → Option Value) (F : Addr → Prop) (φ : List Addr) (H : Hp) (ps : List P) (J : It) : Prop :=
  ps.length ≤ lim ∧ ∀ F' φ' C' H', SSt F φ H F' φ' H' → Wf K mg F' φ' C' H' → (∀ i, i < ps.length → J.go i H' ∧ ∀ x H2, J.yld i H' x H2 → ∃ F2 p, ps[i]? = some p ∧ Stp F' φ' C' H' F2 φ' C' H2 ∧ Wf K mg F2 φ' C' H2 ∧ Rep K mg F2 H2 p x) ∧ J.stop ps.length H'
theorem it_list {l : List P} {a : Addr} {xs : List V} (key : ∀ F' φ' H', SSt F φ H F' φ' H' → SqL K H' a xs) (h3 : Reps K mg F H l xs) (hz : l.length ≤ lim) : ItOk K mg F φ H l (Itl K a) := by
  refine ⟨hz, fun F' φ' C' H' s w => ⟨fun i hi => ?_, ?_⟩⟩
  · have hp : l[i]? = some l[i] := by simp [hi]
    obtain ⟨x, hx, hr⟩ := Reps.get (Reps.mono s.grow s.keep _ _ h3) hp
    refine ⟨⟨xs, x, key _ _ _ s, hx⟩, fun y H2 ⟨e2, hy⟩ => ?_⟩
    subst e2
    have := hy xs (key _ _ _ s)
    rw [hx] at this
    cases this
    exact ⟨F', l[i], hp, Stp.refl, w, hr⟩
  · exact ⟨xs, key _ _ _ s, by rw [← h3.length]; exact Nat.le_refl _⟩
theorem it_tup {l : List P} {v : V} (h : Rep K mg F H (.tup l) v) : ∃ a xs, v = .ref a ∧ SqT K H a xs ∧ l.length = xs.length ∧ (l.length ≤ lim → ItOk K mg F φ H l (Itt K a)) := by
  obtain ⟨a, xs, e, h1, h3⟩ := h
  refine ⟨a, xs, e, h1.sq, h3.length, fun hz => ⟨hz, fun F' φ' C' H' s w => ?_⟩⟩
  have h1' : TupAt K F' H' a xs := h1.mono s.grow s.keep
  refine ⟨fun i hi => ?_, xs, h1'.sq, by rw [← h3.length]; exact Nat.le_refl _⟩
  have hp : l[i]? = some l[i] := by simp [hi]
  obtain ⟨x, hx, hr⟩ := Reps.get (Reps.mono s.grow s.keep _ _ h3) hp
  refine ⟨⟨xs, x, h1'.sq, hx⟩, fun y H2 ⟨e2, hy⟩ => ?_⟩
  subst e2
  have := hy xs h1'.sq
  rw [hx] at this
  cases this
  exact ⟨F', l[i], hp, Stp.refl, w, hr⟩
theorem rngP_get {a b : Int} {i : Nat} (h : i < (b - a).toNat) : (rngP a b)[i]? = some (.int (a + i)) := by
  unfold rngP
  rw [List.getElem?_map, List.getElem?_range h]
  rfl
theorem rngP_len (a b : Int) : (rngP a b).length = (b - a).toNat := by simp [rngP]
theorem it_rng {a b : Int} (h : rngOk a b = true) : ItOk K mg F φ H (rngP a b) (Itr a (b - a).toNat) := by
  simp only [rngOk, Bool.and_eq_true, decide_eq_true_eq] at h
  refine ⟨by rw [rngP_len]; exact h.2, fun F' φ' C' H' s w => ⟨fun i hi => ?_, by rw [rngP_len]; exact Nat.le_refl _⟩⟩
  rw [rngP_len] at hi
  refine ⟨hi, fun x H2 ⟨e1, e2⟩ => ?_⟩
  subst e1
  exact ⟨F', _, rngP_get hi, Stp.refl, w, e2⟩
theorem it_rrng {a b : Int} (h : rngOk a b = true) : ItOk K mg F φ H (rngP a b).reverse (Itc (a + (((b - a).toNat : Nat) : Int) - 1) (-1) (b - a).toNat) := by
  simp only [rngOk, Bool.and_eq_true, decide_eq_true_eq] at h
  refine ⟨by rw [List.length_reverse, rngP_len]; exact h.2, fun F' φ' C' H' s w => ⟨fun i hi => ?_, by rw [List.length_reverse, rngP_len]; exact Nat.le_refl _⟩⟩
  rw [List.length_reverse, rngP_len] at hi
  refine ⟨hi, fun x H2 ⟨e1, e2⟩ => ?_⟩
  subst e1
  refine ⟨F', .int (a + (((b - a).toNat - 1 - i : Nat) : Int)), ?_, Stp.refl, w, ?_⟩
  · rw [List.getElem?_reverse (by rw [rngP_len]; exact hi), rngP_len, rngP_get (by omega)]
  · rw [e2]
    show V.int _ = V.int _
    congr 1
    omega
theorem rng0 (i : Int) : (i - 0).toNat = i.toNat := by simp
end
/-- a source by what it is: a list, or a tuple -/
theorem pi_seq {X : Cx} {tg l : Expr} {tl : TE} (hl : PE X l tl) : PI X tg l (fun σ H R => tl σ H fun x H1 => (∃ a xs, x = .ref a ∧ SqL X.K H1 a xs ∧ (xs.length ≤ sizeLine → R (Itl X.K a) H1)) ∨ (∃ a xs, x = .ref a ∧ SqT X.K H1 a xs ∧ (xs.length ≤ sizeLine → R (Itt X.K a) H1))) := by
  refine ⟨fun pins s σ H R I h => ?_⟩
  refine thn (hl.run pins s σ H _ I h) fun v s1 ⟨x, H1, I1, r1, q1⟩ => ?_
  rcases q1 with ⟨a, xs, e, hq, q⟩ | ⟨a, xs, e, hq, q⟩
  · subst e
    cases r1
    obtain ⟨its, rv, p, hz⟩ := I1.list hq
    refine wpAny_pyIter_list p.isList ?_
    refine ⟨s1.heap.objs.size, [s1.heap.objs.size], _, _, H1, rfl, I1.kept (t' := s1.toks) fun b o e => Heap.get?_push_of_some _ e, turn_list a _, ⟨_, Heap.get?_push_size _ rfl, rfl, rfl⟩, fun b hb => ?_, q hz⟩
    have e : b = s1.heap.objs.size := by simpa using hb
    subst e
    exact I1.fpOk (Nat.le_refl _) (I1.hok.fresh (Nat.le_refl _))
  · subst e
    cases r1
    obtain ⟨its, rv, p, hz⟩ := I1.tuple hq
    refine wpAny_pyIter_tuple (show s1.heap.IsTuple a its.toArray from p) ?_
    refine ⟨s1.heap.objs.size, [s1.heap.objs.size], _, _, H1, rfl, I1.kept (t' := s1.toks) fun b o e => Heap.get?_push_of_some _ e, turn_tuple a _, ⟨_, Heap.get?_push_size _ rfl, rfl, rfl⟩, fun b hb => ?_, q hz⟩
    have e : b = s1.heap.objs.size := by simpa using hb
    subst e
    exact I1.fpOk (Nat.le_refl _) (I1.hok.fresh (Nat.le_refl _))
section
variable {X : Cx} {W : L2.WX} {cb : Cb}
/-- a source's reading by the small language -/
def tIt (X : Cx) (W : L2.WX) (cb : Cb) (k : Ik) (its : List E) : TI := fun σ H R => ∃ n0 F φ C σd, St0 X n0 F φ C σd σ H ∧
  Post X.K X.mg F φ C H (fun F φ _ H ps J => ItOk X.K X.mg F φ H ps J) (fun cls d H' => W cls d σ H') (fun J H => R J H) ((evalAs cb its σd C).bnd fun as C => opt ((datA as).bind (itemsP k)) C)
theorem PI.imp {tg e : Expr} {t t' : TI} (h : PI X tg e t) (hi : ∀ σ H Q, t' σ H Q → t σ H Q) : PI X tg e t' := ⟨fun pins s σ H R I w => h.run pins s σ H R I (hi σ H R w)⟩
/-- operands of a source -/
theorem it_opds {k : Ik} {its : List E} {σ : L2.St} {H : Hp} {R : It → Hp → Prop} {Q1 : List V → Hp → Prop} (h : tIt X W cb k its σ H R)
    (hk : ∀ xs ps vs C' H' F' φ', Wf X.K X.mg F' φ' C' H' → Reps X.K X.mg F' H' xs vs → itemsP k xs = some ps → (∀ J, ItOk X.K X.mg F' φ' H' ps J → R J H') → Q1 vs H') : tAs X W cb its σ H Q1 := by
  obtain ⟨n0, F, φ, C, σd, z, h⟩ := h
  refine ⟨n0, F, φ, C, σd, z, Post.bnd h fun as C' vs H' F' φ' _ s w r q => ?_⟩
  cases e : datA as with
  | none => rw [e] at q; exact q.elim
  | some xs =>
    rw [e] at q
    cases e2 : itemsP k xs with
    | none => rw [show (some xs).bind (itemsP k) = none from e2] at q; exact q.elim
    | some ps =>
      rw [show (some xs).bind (itemsP k) = some ps from e2] at q
      exact hk xs ps vs C' H' F' φ' w (datA_rep r e) e2 fun J hJ => q J H' F' φ' s w hJ
theorem tAs_one {e : E} {σ : L2.St} {H : Hp} {Q : VK} (h : tAs X W cb [e] σ H fun vs H1 => ∀ v, vs = [v] → Q v H1) : tE X W cb e σ H Q := by
  obtain ⟨n0, F, φ, C, σd, z, h⟩ := h
  refine ⟨n0, F, φ, C, σd, z, ?_⟩
  have e1 : evalAs cb [e] σd C = (evalE cb e σd C).bnd fun x C => .ok [opA x] C := by
    unfold evalAs
    congr 1
  rw [e1] at h
  cases q : evalE cb e σd C with
  | no => rw [q] at h; exact h
  | ex e' C' => rw [q] at h; exact h
  | ok r C' =>
    rw [q] at h
    intro v H' F' φ' s w r'
    obtain ⟨F1, s1, w1, r1⟩ := settle s w r'
    exact h [v] H' F1 φ' s1 w1 (.cons r1 .nil) v rfl
theorem reps_one {K mg F H} {x : P} {vs : List V} (h : Reps K mg F H [x] vs) : ∃ v, vs = [v] ∧ Rep K mg F H x v := by
  obtain ⟨v, r, e, h1, h2⟩ := h
  cases h2
  exact ⟨v, e, h1⟩
theorem reps_two {K mg F H} {x y : P} {vs : List V} (h : Reps K mg F H [x, y] vs) : ∃ v u, vs = [v, u] ∧ Rep K mg F H x v ∧ Rep K mg F H y u := by
  obtain ⟨v, r, e, h1, h2⟩ := h
  obtain ⟨u, e2, h3⟩ := reps_one h2
  subst e2
  exact ⟨v, u, e, h1, h3⟩
end
end MP
/-! MP10: sources, comprehensions. -/
namespace MP
open PySem PySem.Spec PyProof.Rows L2
section
variable {X : Cx} {W : L2.WX} {cb : Cb}
theorem src_val {tg e : Expr} {a : E} (h : SimE X W cb e a) : PI X tg e (tIt X W cb .val [a]) :=
  PI.imp (pi_seq h) fun σ H R hh => tAs_one (it_opds hh fun xs ps vs C' H' F' φ' w r e q v ev => by
    subst ev
    simp only [itemsP] at e
    split at e
    · cases e
      obtain ⟨v', e1, h1⟩ := reps_one r
      cases e1
      obtain ⟨b, ys, rfl, ⟨h2, h3⟩, h4⟩ := h1
      exact .inl ⟨b, ys, rfl, .inl (.inl h3), fun hz => q _ (it_list (fun F2 φ2 H2 s => .inl (.inl (s.keep _ _ h2 h3))) h4 (by rw [h4.length, ← lim_eq]; exact hz))⟩
    · cases e
      obtain ⟨v', e1, h1⟩ := reps_one r
      cases e1
      obtain ⟨b, ys, rfl, h2, h4⟩ := h1
      exact .inl ⟨b, ys, rfl, h2.sq, fun hz => q _ (it_list (fun F2 φ2 H2 s => (h2.mono s.grow s.keep : RoAt X.K F2 H2 b ys).sq) h4 (by rw [h4.length, ← lim_eq]; exact hz))⟩
    · cases e
      obtain ⟨v', e1, h1⟩ := reps_one r
      cases e1
      obtain ⟨b, ys, e', h5, h7, h6⟩ := it_tup (φ := φ') h1
      exact .inr ⟨b, ys, e', h5, fun hz => q _ (h6 (by rw [h7, ← lim_eq]; exact hz))⟩
    · cases e)
theorem rngOk_c {a b : Int} (h : rngOk a b = true) : -(2 ^ 62) ≤ a ∧ a < 2 ^ 62 ∧ -(2 ^ 62) ≤ b ∧ b < 2 ^ 62 ∧ (b - a).toNat ≤ lim := by
  simp only [rngOk, Bool.and_eq_true, decide_eq_true_eq] at h
  exact ⟨h.1.1.1.1, h.1.1.1.2, h.1.1.2, h.1.2, h.2⟩
theorem src_rng1 {tg e : Expr} {a : E} {p pos : Pos} (T : TxOk X cb) (hg : Gl X "range") (h : SimAs X W cb [e] [a]) (hs : starEach [e] X.env = [(false, eval e X.env)]) : PI X tg (.Call (.Name "range" p) [e] [] pos) (tIt X W cb .rng1 [a]) :=
  PI.imp (pi_range1 hg (T.blt "range" (by decide)) h hs) fun σ H R hh => it_opds hh fun xs ps vs C' H' F' φ' w r e q => by
    simp only [itemsP] at e
    split at e
    · split at e
      · rename_i i hr
        cases e
        obtain ⟨v', e1, h1⟩ := reps_one r
        cases h1
        obtain ⟨c1, c2, c3, c4, c5⟩ := rngOk_c hr
        refine ⟨i, e1, c3, c4, ?_⟩
        have := q _ (it_rng hr)
        simpa using this
      · cases e
    · cases e
theorem src_rng2 {tg e f : Expr} {a b : E} {p pos : Pos} (T : TxOk X cb) (hg : Gl X "range") (h : SimAs X W cb [e, f] [a, b]) (hs : starEach [e, f] X.env = [(false, eval e X.env), (false, eval f X.env)]) (hs2 : starEach [f] X.env = [(false, eval f X.env)]) :
    PI X tg (.Call (.Name "range" p) [e, f] [] pos) (tIt X W cb .rng2 [a, b]) :=
  PI.imp (pi_range2 hg (T.blt "range" (by decide)) h hs hs2) fun σ H R hh => it_opds hh fun xs ps vs C' H' F' φ' w r e q => by
    simp only [itemsP] at e
    split at e
    · split at e
      · rename_i i j hr
        cases e
        obtain ⟨v', u', e1, h1, h2⟩ := reps_two r
        cases h1; cases h2
        obtain ⟨c1, c2, c3, c4, c5⟩ := rngOk_c hr
        exact ⟨i, j, e1, ⟨c1, c2, c3, c4⟩, q _ (it_rng hr)⟩
      · cases e
    · cases e
end

/-! ### comprehensions -/
section
theorem wipe_set_comm {σ : L2.St} {i : Nat} {v : V} : ∀ {vs : List Nat}, i ∉ vs → wipe (σ.set i (some v)) vs = (wipe σ vs).set i (some v)
  | [], _ => rfl
  | j :: vs, h => by
    simp only [List.mem_cons, not_or] at h
    show (wipe (σ.set i (some v)) vs).set j none = ((wipe σ vs).set j none).set i (some v)
    rw [wipe_set_comm h.2, List.set_comm _ _ h.1]
theorem wipe_put : ∀ {is : List Nat} {xs : List V} {σ : L2.St}, wipe (putS is xs σ) is = wipe σ is
  | [], _, _ => by cases ‹List V› <;> rfl
  | i :: is, [], _ => rfl
  | i :: is, x :: xs, σ => by
    show (wipe (putS is xs (σ.set i (some x))) is).set i none = (wipe σ is).set i none
    rw [wipe_put]
    by_cases hi : i ∈ is
    · have key : ∀ (l : List Nat) (τ : L2.St), i ∈ l → wipe (τ.set i (some x)) l = wipe τ l := by
        intro l
        induction l with
        | nil => intro τ h; simp at h
        | cons j l ih =>
          intro τ h
          show (wipe (τ.set i (some x)) l).set j none = (wipe τ l).set j none
          by_cases hl : i ∈ l
          · rw [ih τ hl]
          · have : i = j := by
              rcases List.mem_cons.mp h with h | h
              · exact h
              · exact absurd h hl
            subst this
            rw [wipe_set_comm hl, List.set_set]
      rw [key is σ hi]
    · rw [wipe_set_comm hi, List.set_set]
theorem put_wipe : ∀ {is : List Nat} {xs : List V} {σ : L2.St}, is.Nodup → xs.length = is.length → putS is xs (wipe σ is) = putS is xs σ
  | [], [], _, _, _ => rfl
  | i :: is, x :: xs, σ, hn, hl => by
    obtain ⟨h1, h2⟩ := List.nodup_cons.mp hn
    show putS is xs (((wipe σ is).set i none).set i (some x)) = putS is xs (σ.set i (some x))
    rw [List.set_set, ← wipe_set_comm h1]
    exact put_wipe h2 (by simpa using hl)
  | [], _ :: _, _, _, hl => by simp at hl
  | _ :: _, [], _, _, hl => by simp at hl
variable {K : PySem.W.Frag} {mg : Str → Option Value} {F : Addr → Prop} {φ : List Addr} {C : CH} {H : Hp} {n0 : Ent}
/-- a target's names in a block where they were forgotten -/
theorem gT_blk {t : Tg} {x : P} {v : V} {σd σd' : Env} {σ : L2.St} {Q : L2.St → Hp → Prop} (hn : (slotsT t).Nodup) (r : SRel K mg n0 F φ C H σd σ) (h : Rep K mg F H x v) (e : bindT t x σd = some σd')
    (q : ∀ σ', wipe σ' (slotsT t) = wipe σ (slotsT t) → SRel K mg n0 F φ C H σd' σ' → Q σ' H) : gT K t v (wipe σ (slotsT t)) H Q := by
  have q' : ∀ σ', tgS H t v σ σ' → SRel K mg n0 F φ C H σd' σ' → Q σ' H := fun σ' h1 h2 => q σ' (by
    cases t with
    | nm i => rw [show σ' = σ.set i (some v) from h1]; show (σ.set i (some v)).set i none = σ.set i none; rw [List.set_set]
    | tp is => obtain ⟨xs, e1, _⟩ := h1; rw [e1]; exact wipe_put) h2
  have g := gT_ok (Q := Q) r h e q'
  cases t with
  | nm i =>
    have g' : Q (σ.set i (some v)) H := g
    show Q ((σ.set i none).set i (some v)) H
    rw [List.set_set]
    exact g'
  | tp is =>
    cases x with
    | tup l =>
      have e' : putT is l σd = some σd' := e
      obtain ⟨a, xs, rfl, h1, h2⟩ := h
      have hl : xs.length = is.length := by rw [← h2.length, putT_len e']
      refine ⟨a, xs, rfl, h1.sq, hl, ?_⟩
      -- the names one after another, from the wiped slots: the same end
      have key : ∀ (is : List Nat) (l : List P) (xs : List V) (σd σd' : Env) (τ : L2.St), xs.length = is.length → (Q (putS is xs τ) H → gNs is xs τ H Q) := by
        intro is
        induction is with
        | nil => intro l xs σd σd' τ hl hq; cases xs with
          | nil => exact ⟨rfl, hq⟩
          | cons _ _ => simp at hl
        | cons i is ih => intro l xs σd σd' τ hl hq; cases xs with
          | nil => simp at hl
          | cons x xs => exact ⟨x, xs, rfl, ih l xs σd σd' _ (by simpa using hl) hq⟩
      refine key is l xs σd σd' _ hl ?_
      show Q (putS is xs (wipe σ is)) H
      rw [put_wipe (is := is) (show is.Nodup from hn) hl]
      refine q' _ ⟨xs, rfl, hl⟩ ?_
      have pp : ∀ {is : List Nat} {l : List P} {xs : List V} {σd σd' : Env} {σ : L2.St}, SRel K mg n0 F φ C H σd σ → Reps K mg F H l xs → putT is l σd = some σd' → SRel K mg n0 F φ C H σd' (putS is xs σ) := by
        intro is
        induction is with
        | nil => intro l xs σd σd' σ r h e; cases l with
          | nil => cases h; cases e; exact r
          | cons _ _ => cases e
        | cons i is ih => intro l xs σd σd' σ r h e; cases l with
          | nil => cases e
          | cons p ps => obtain ⟨x, ys, e1, h3, h4⟩ := h; subst e1; exact ih (r.putp h3) h4 e
      exact pp r h2 e'
    | _ => cases e
end

section
variable {X : Cx} {W : L2.WX} {cb : Cb}
abbrev Wno : L2.WX := fun _ _ _ _ => False
def tCs (X : Cx) (cb : Cb) : List E → TT
  | [] => tYes
  | [c] => tBl X Wno cb c
  | _ => fun _ _ _ => False
theorem nox_post {α β : Type} {K mg F φ C H} {R : (Addr → Prop) → List Addr → CH → Hp → α → β → Prop} {E E' : XK} {Q : β → Hp → Prop} {r : Rs α} (h : Post K mg F φ C H R E Q r.nox) : Post K mg F φ C H R E' Q r := by
  cases r with
  | ok a C' => exact h
  | ex e C' => exact h.elim
  | no => exact h
/-- a run behind one that lets no error out -/
theorem Post.bndx {α β γ δ : Type} {K mg F φ C H} {E E' : XK} {R1 : (Addr → Prop) → List Addr → CH → Hp → α → β → Prop} {R2 : (Addr → Prop) → List Addr → CH → Hp → γ → δ → Prop} {Q : δ → Hp → Prop} {r : Rs α} {f : α → CH → Rs γ} {Q1 : β → Hp → Prop}
    (h : Post K mg F φ C H R2 E Q (r.nox.bnd f)) (hk : ∀ a C' b H' F' φ', r = .ok a C' → Stp F φ C H F' φ' C' H' → Wf K mg F' φ' C' H' → R1 F' φ' C' H' a b → Post K mg F φ C H R2 E Q (f a C') → Q1 b H') : Post K mg F φ C H R1 E' Q1 r := by
  cases r with
  | ok a C' => exact fun b H' F' φ' s' w' r' => hk a C' b H' F' φ' rfl s' w' r' h
  | ex e C' => exact h.elim
  | no => exact h
/-- a run behind one that lets no error out; what is wanted behind both is told of another, earlier world -/
theorem Post.bndx2 {α β γ δ : Type} {K mg F φ C H} {F0 : Addr → Prop} {φ0 : List Addr} {C0 : CH} {H0 : Hp} {E E' : XK} {R1 : (Addr → Prop) → List Addr → CH → Hp → α → β → Prop} {R2 : (Addr → Prop) → List Addr → CH → Hp → γ → δ → Prop} {Q : δ → Hp → Prop} {r : Rs α} {f : α → CH → Rs γ} {Q1 : β → Hp → Prop}
    (h : Post K mg F0 φ0 C0 H0 R2 E Q (r.nox.bnd f)) (hk : ∀ a C' b H' F' φ', r = .ok a C' → Stp F φ C H F' φ' C' H' → Wf K mg F' φ' C' H' → R1 F' φ' C' H' a b → Post K mg F0 φ0 C0 H0 R2 E Q (f a C') → Q1 b H') : Post K mg F φ C H R1 E' Q1 r := by
  cases r with
  | ok a C' => exact fun b H' F' φ' s' w' r' => hk a C' b H' F' φ' rfl s' w' r' h
  | ex e C' => exact h.elim
  | no => exact h
section
variable {K : PySem.W.Frag} {mg : Str → Option Value} {F F0 : Addr → Prop} {φ φ0 : List Addr} {C C0 : CH} {H H0 : Hp} {D : Addr} {o u : HO}
theorem upd_wf (w : Wf K mg F φ C H) (hD : H D = some o) (hF : ¬ F D) (hL : ¬ Lv C φ D) : Wf K mg F φ C (upd H D u) where
  dom := fun a h => by
    unfold upd
    split
    · simp
    · exact w.dom a h
  len := w.len
  live := fun n a cl h1 h2 => by
    obtain ⟨q1, q2⟩ := w.live n a cl h1 h2
    have na : a ≠ D := fun e => hL (e ▸ ⟨n, cl, h1, h2⟩)
    exact ⟨q1, q2.mono (fun _ z => z) (fun b v hb hv => by rw [upd_ne (show b ≠ D from fun e => hF (by rw [← e]; exact hb))]; exact hv) fun v hv => by rw [upd_ne na]; exact hv⟩
  inj := w.inj
theorem upd_stp (s : Stp F0 φ0 C0 H0 F φ C H) (h0 : H0 D = none) : Stp F0 φ0 C0 H0 F φ C (upd H D u) where
  grow := s.grow
  new := s.new
  pre := s.pre
  lv := s.lv
  keep := fun a v ha hl => by rw [upd_ne (fun e => by rw [e, h0] at ha; cases ha)]; exact s.keep a v ha hl
  dom := fun a ha => by
    unfold upd
    split
    · simp
    · exact s.dom a ha
theorem upd_sst (hF : ¬ F D) : SSt F φ H F φ (upd H D u) := ⟨fun _ h => h, fun a v ha hv => by rw [upd_ne (show a ≠ D from fun e => hF (by rw [← e]; exact ha))]; exact hv, fun _ _ h => h⟩
/-- no name holds the list at D as its own -/
def Apart (σd : Env) (σ : L2.St) (D : Addr) : Prop := ∀ (j : Nat) (l : List P) (a : Addr), σd[j]? = some (some (.own l)) → σ[j]? = some (some (V.ref a)) → a ≠ D
theorem upd_srel {n0 : Ent} {σd : Env} {σ : L2.St} (r : SRel K mg n0 F φ C H σd σ) (hF : ¬ F D) (h0 : n0.H D = none) (ha : Apart σd σ D) : SRel K mg n0 F φ C (upd H D u) σd σ where
  len := r.len
  at_ := fun j d h => by
    obtain ⟨v, h1, h2⟩ := r.at_ j d h
    refine ⟨v, h1, ?_⟩
    cases d with
    | p x => exact Rep.mono (fun _ z => z) (upd_sst hF (φ := φ)).keep _ _ h2
    | own l =>
      obtain ⟨a, xs, e, q1, q2, q3, q4, q5⟩ := h2
      subst e
      have na := ha j l a h h1
      exact ⟨a, xs, rfl, q1, q2, q3, by rw [upd_ne na]; exact q4, Reps.mono (fun _ z => z) (upd_sst hF (φ := φ)).keep _ _ q5⟩
    | cell n => exact h2
  apart := r.apart
  ent := upd_stp r.ent h0
end
/-- the invariant of a comprehension behind i items -/
def Cinv (X : Cx) (W : L2.WX) (cb : Cb) (e' : E) (t : Tg) (cs : List E) (n0 : Ent) (σd : Env) (σ : L2.St) (Fs : Addr → Prop) (φs : List Addr) (Cs : CH) (Hs : Hp) (Q : VK) (F0 : Addr → Prop) (φ0 : List Addr) (H1 : Hp) (D : Addr) (ps : List P) (i : Nat) (H : Hp) : Prop :=
  ∃ F φ C acc vacc, St0 X n0 F φ C σd σ H ∧ SSt F0 φ0 H1 F φ H ∧ Stp Fs φs Cs Hs F φ C H ∧ H D = some (.lst vacc) ∧ ¬ F D ∧ ¬ Lv C φ D ∧ Reps X.K X.mg F H acc vacc ∧ acc.length ≤ i ∧
    Post X.K X.mg Fs φs Cs Hs (RepR X.K X.mg n0.H Hs) (fun cls d H' => W cls d σ H') Q (compL (fun σ C => evalE cb e' σ C) (fun σ C => evalAnd cb cs σ C) t σd (ps.drop i) acc C)
theorem comp_imp {e' : E} {t : Tg} {k : Ik} {its cs : List E} {vs : List Nat} (hown : vs = slotsT t) (hsl : (slotsT t).Nodup) (hcs : cs.length ≤ 1) {σ : L2.St} {H : Hp} {Q : VK} (h : tE X W cb (.comp e' t k its cs) σ H Q) :
    tLc (tIt X W cb k its) (gT X.K t) (tCs X cb cs) (tE X Wno cb e') vs σ H Q := by
  subst hown
  obtain ⟨n0, F, φ, C, σd, z, h⟩ := h
  unfold evalE at h
  have h' : Post X.K X.mg F φ C H (RepR X.K X.mg n0.H H) (fun cls d H' => W cls d σ H') Q (((evalAs cb its σd C).bnd fun as C => opt ((datA as).bind (itemsP k)) C).bnd fun xs C => compL (fun σ C => evalE cb e' σ C) (fun σ C => evalAnd cb cs σ C) t σd xs [] C) := by
    cases e : evalAs cb its σd C with
    | ok r C' => rw [e] at h; exact h
    | ex e' C' => rw [e] at h; exact h
    | no => rw [e] at h; exact h
  refine ⟨n0, F, φ, C, σd, z, Post.bnd h' fun ps C1 J H1 F1 φ1 _ s1 w1 it q1 => ?_⟩
  intro D hD
  have z1 := z.step s1 w1
  have hz : H D = none := by
    by_cases q : H D = none
    · exact q
    · exact absurd hD (s1.dom D q)
  have hn : n0.H D = none := by
    by_cases q : n0.H D = none
    · exact q
    · exact absurd hD (z1.sr.ent.dom D q)
  have hap : Apart σd σ D := fun j l a h1 h2 e => by
    obtain ⟨v, h3, b, xs, e1, _, _, _, h4, _⟩ := z1.sr.at_ j _ h1
    rw [h2] at h3
    cases h3
    cases e1
    rw [e, hD] at h4
    cases h4
  refine ⟨fun i m H' => m = ps.length - i ∧ i ≤ ps.length ∧ Cinv X W cb e' t cs n0 σd σ F φ C H Q F1 φ1 H1 D ps i H', ⟨_, rfl, Nat.zero_le _, ?_⟩, ?_⟩
  · have sn := stp_new (F := F1) (φ := φ1) (C := C1) (o := .lst []) hD
    have wn := wf_new (o := .lst []) w1 hD
    exact ⟨F1, φ1, C1, [], [], z1.step sn wn, sn.sst w1, s1.trans sn, upd_same, notF_new w1 hD, notLv_new w1 hD, Reps.nil, Nat.le_refl _, q1⟩
  · rintro i m H2 ⟨rfl, hi, F2, φ2, C2, acc, vacc, z2, ss, sts, hD2, hF2, hL2, hr, hl, q2⟩
    obtain ⟨g1, g2⟩ := it.2 F2 φ2 C2 H2 ss z2.wf
    by_cases hlt : i < ps.length
    · obtain ⟨g3, g4⟩ := g1 i hlt
      refine .inr ⟨g3, Cinv X W cb e' t cs n0 σd σ F φ C H Q F1 φ1 H1 D ps (i + 1), fun H' hp => ⟨_, Nat.sub_succ_lt_self _ _ hlt, rfl, hlt, hp⟩, fun x H3 hy => ?_⟩
      obtain ⟨F3, p, hp, s3, w3, rp⟩ := g4 x H3 hy
      have hdrop : ps.drop i = p :: ps.drop (i + 1) := by
        obtain ⟨hlt', e⟩ := List.getElem?_eq_some_iff.mp hp
        rw [← e]
        exact List.drop_eq_getElem_cons hlt'
      rw [hdrop] at q2
      have z3 := z2.step s3 w3
      have q3' : Post X.K X.mg F φ C H (RepR X.K X.mg n0.H H) (fun cls d H' => W cls d σ H') Q (match bindT t p σd with
        | none => .no
        | some σ' => (evalAnd cb cs σ' C2).nox.bnd fun b C => match b with
          | true => (evalE cb e' σ' C).nox.bnd fun r C => (opt (datum (opA r)) C).bnd fun y C => compL (fun σ C => evalE cb e' σ C) (fun σ C => evalAnd cb cs σ C) t σd (ps.drop (i + 1)) (acc ++ [y]) C
          | false => compL (fun σ C => evalE cb e' σ C) (fun σ C => evalAnd cb cs σ C) t σd (ps.drop (i + 1)) acc C) := q2
      cases eb : bindT t p σd with
      | none => rw [eb] at q3'; exact q3'.elim
      | some σ' =>
        rw [eb] at q3'
        dsimp only at q3'
        refine gT_blk hsl z3.sr rp eb fun τ hw rτ => ⟨hw, ?_⟩
        have zb : St0 X n0 F3 φ2 C2 σ' τ H3 := ⟨w3, rτ⟩
        have hacc : acc.length < sizeLine := by rw [lim_eq]; have := it.1; omega
        have step4 : ∀ (b : Bool) (F4 : Addr → Prop) (φ4 : List Addr) (C4 : CH) (H4 : Hp), Stp F3 φ2 C2 H3 F4 φ4 C4 H4 → Wf X.K X.mg F4 φ4 C4 H4 →
            Post X.K X.mg F φ C H (RepR X.K X.mg n0.H H) (fun cls d H' => W cls d σ H') Q (match b with
              | true => (evalE cb e' σ' C4).nox.bnd fun r C => (opt (datum (opA r)) C).bnd fun y C => compL (fun σ C => evalE cb e' σ C) (fun σ C => evalAnd cb cs σ C) t σd (ps.drop (i + 1)) (acc ++ [y]) C
              | false => compL (fun σ C => evalE cb e' σ C) (fun σ C => evalAnd cb cs σ C) t σd (ps.drop (i + 1)) acc C4) →
            (if b = true then tE X Wno cb e' τ H4 fun y H5 => ∃ acc, H5 D = some (.lst acc) ∧ acc.length < sizeLine ∧ Cinv X W cb e' t cs n0 σd σ F φ C H Q F1 φ1 H1 D ps (i + 1) (upd H5 D (.lst (acc ++ [y]))) else Cinv X W cb e' t cs n0 σd σ F φ C H Q F1 φ1 H1 D ps (i + 1) H4) := by
          intro b F4 φ4 C4 H4 s4 w4 q4
          have s34 := s3.trans s4
          have hD4 : H4 D = some (.lst vacc) := s34.keep _ _ hD2 hL2
          cases b with
          | false =>
            rw [if_neg (by decide)]
            exact ⟨F4, φ4, C4, acc, vacc, z3.step s4 w4, ss.trans (s34.sst z2.wf), sts.trans s34, hD4, notF s34 hD2 hL2 hF2, notLv s34 hD2 hL2, s34.reps z2.wf hr, Nat.le_succ_of_le hl, q4⟩
          | true =>
            rw [if_pos rfl]
            refine ⟨n0, F4, φ4, C4, σ', zb.step s4 w4, Post.bndx2 q4 fun r C5 y H5 F5 φ5 _ s5 w5 rr q5 => ?_⟩
            obtain ⟨F6, s6, w6, r6⟩ := settle s5 w5 rr
            cases ed : datum (opA r) with
            | none => rw [ed] at q5; exact q5.elim
            | some yp =>
              rw [ed, opt_some, Rs.bnd_ok] at q5
              have ry := datum_ok r6 ed
              have s36 := s34.trans s6
              have hD6 : H5 D = some (.lst vacc) := s36.keep _ _ hD2 hL2
              have hF6 := notF s36 hD2 hL2 hF2
              have hL6 := notLv s36 hD2 hL2
              have hv : vacc.length = acc.length := hr.length.symm
              refine ⟨vacc, hD6, by rw [hv]; exact hacc, ?_⟩
              have us := upd_sst (φ := φ5) (H := H5) (u := .lst (vacc ++ [y])) hF6
              refine ⟨F6, φ5, C5, acc ++ [yp], vacc ++ [y], ⟨upd_wf w6 hD6 hF6 hL6, upd_srel (z2.sr.step z2.wf s36) hF6 hn hap⟩, (ss.trans (s36.sst z2.wf)).trans us, upd_stp (sts.trans s36) hz, upd_same, hF6, hL6, ?_, by simp; omega, q5⟩
              exact Reps.mono us.grow us.keep _ _ ((s36.reps z2.wf hr).app (Reps.cons ry Reps.nil))
        match cs, hcs with
        | [], _ => exact step4 true F3 φ2 C2 H3 Stp.refl w3 (by unfold evalAnd at q3'; exact q3')
        | [c], _ =>
          have hq : Post X.K X.mg F φ C H (RepR X.K X.mg n0.H H) (fun cls d H' => W cls d σ H') Q ((evalE cb c σ' C2).nox.bnd fun x C4 => match x with
            | .v (.bl b) => (match b with
              | true => (evalE cb e' σ' C4).nox.bnd fun r C => (opt (datum (opA r)) C).bnd fun y C => compL (fun σ C => evalE cb e' σ C) (fun σ C => evalAnd cb [c] σ C) t σd (ps.drop (i + 1)) (acc ++ [y]) C
              | false => compL (fun σ C => evalE cb e' σ C) (fun σ C => evalAnd cb [c] σ C) t σd (ps.drop (i + 1)) acc C4)
            | _ => .no) := by
            have e1 : evalAnd cb [c] σ' C2 = (evalE cb c σ' C2).bnd fun x C => match x with
              | .v (.bl true) => .ok true C
              | .v (.bl false) => .ok false C
              | _ => .no := by
              unfold evalAnd
              congr 1
            rw [e1] at q3'
            cases e2 : evalE cb c σ' C2 with
            | no => rw [e2] at q3'; exact q3'
            | ex _ _ => rw [e2] at q3'; exact q3'.elim
            | ok x C4 =>
              rw [e2] at q3'
              cases x with
              | v x =>
                cases x with
                | bl b => cases b <;> exact q3'
                | _ => exact q3'.elim
              | _ => exact q3'.elim
          refine ⟨n0, F3, φ2, C2, σ', zb, Post.bndx2 hq fun x C4 v H4 F4 φ4 _ s4 w4 rx q4 => ?_⟩
          cases x with
          | v x =>
            cases x with
            | bl b => exact ⟨b, rx, step4 b F4 φ4 C4 H4 s4 w4 q4⟩
            | _ => exact q4.elim
          | _ => exact q4.elim
    · have : i = ps.length := by omega
      subst this
      refine .inl ⟨g2, ?_⟩
      rw [List.drop_length] at q2
      exact q2 (.ref D) H2 F2 φ2 sts z2.wf ⟨D, vacc, rfl, hF2, hL2, hz, hD2, hr⟩
theorem sim_comp {elt tg iter : Expr} {ifs : List Expr} {scope : Scope} {own : List (Str × Nat)} {pos : Pos} {e' : E} {t : Tg} {k : Ik} {its cs : List E} (hc : X.calm = true) (hN : X.N.Nodup) (ok : BlkOk X.N X.env.scope scope own) (hown : own.map (·.2) = slotsT t) (hsl : (slotsT t).Nodup) (hcs : cs.length ≤ 1)
    (hi : PI X tg iter (tIt X W cb k its)) (hg : ∀ (s : Shared) (H : Hp) (C : Addr) (cl : List (Str × Addr)) (fp : List Addr), PG (X.blk s H scope (compEnvC scope cl C X.env) fp) tg (gT X.K t))
    (ht : ∀ (s : Shared) (H : Hp) (C : Addr) (cl : List (Str × Addr)) (fp : List Addr), PTs (X.blk s H scope (compEnvC scope cl C X.env) fp) ifs (tCs X cb cs))
    (he : ∀ (s : Shared) (H : Hp) (C : Addr) (cl : List (Str × Addr)) (fp : List Addr), PE (X.blk s H scope (compEnvC scope cl C X.env) fp) elt (tE X Wno cb e')) (hf : ∀ x, foldedSetIterable iter X.env x = pure x) :
    SimE X W cb (.ListComp elt [⟨tg, iter, ifs, 0⟩] scope pos) (.comp e' t k its cs) :=
  PE.imp (pe_lc hc hN hi ok hg ht he hf) fun σ H Q h => comp_imp hown hsl hcs h
end
end MP
/-! MP11: calls of the text's own defs. -/
namespace MP
open PySem PySem.Spec PyProof.Rows L2

def noStar : Expr → Bool
  | .Starred .. => false
  | _ => true
theorem star_cons {e : Expr} {es : List Expr} {env : PySem.Env} (h : noStar e = true) : starEach (e :: es) env = (false, eval e env) :: starEach es env := by
  cases e <;> first | rfl | cases h
theorem star_pl {pos : Pos} {env : PySem.Env} : ∀ {es : List Expr}, es.all noStar = true → (backTo pos (starEach es env)).any (·.1) = false
  | [], _ => rfl
  | e :: es, h => by
    simp only [List.all_cons, Bool.and_eq_true] at h
    rw [star_cons h.1]
    show (false || (backTo pos (starEach es env)).any (·.1)) = false
    rw [star_pl h.2]
    rfl

/-- what a def promises: it does what g says -/
def spC (K : PySem.W.Frag) (mg : Str → Option Value) (g : List A → CH → Rs RV) : Sp := fun vs H Q E => ∃ F φ C as, Wf K mg F φ C H ∧ Paired (RepA K mg F φ C H) as vs ∧ Post K mg F φ C H (RepR K mg H H) E Q (g as C)
structure CallOk (X : Cx) (f : String) (g : List A → CH → Rs RV) : Prop where
  ex : ∃ k fa fd ps, FnOk X.prog X.w X.K X.mg X.base (L2.CX X.prog X.w) k fa fd ps (spC X.K X.mg g) ∧ Room k X.A ∧ X.mg (Str.ofString f) = some (.ref fa) ∧ PySem.W.keepIn X.K (.ref fa) = true ∧ Binds X.K fd ps []
theorem rr_weak {K mg} {H0 Hs H1 : Hp} {F φ C H} (h0 : ∀ a, H0 a ≠ none → H1 a ≠ none) (hs : ∀ a, Hs a ≠ none → H1 a ≠ none) {r : RV} {v : V} (h : RepR K mg H1 H1 F φ C H r v) : RepR K mg H0 Hs F φ C H r v := by
  have up : ∀ {H0 : Hp}, (∀ a, H0 a ≠ none → H1 a ≠ none) → ∀ a, H1 a = none → H0 a = none := fun h a e => by
    rename_i H0
    by_cases q : H0 a = none
    · exact q
    · exact absurd e (h a q)
  cases r with
  | v x => exact h
  | fr l => obtain ⟨a, xs, e, h1, h2, h3, h4⟩ := h; exact ⟨a, xs, e, h1, h2, up hs a h3, h4⟩
  | vw l => obtain ⟨a, xs, e, h1, h2, h3, h4⟩ := h; exact ⟨a, xs, e, h1, h2, up h0 a h3, h4⟩
  | cell n => exact h
theorem post_weak {K mg F φ C H} {H0 Hs H1 : Hp} {E : XK} {Q : VK} {r : Rs RV} (h0 : ∀ a, H0 a ≠ none → H1 a ≠ none) (hs : ∀ a, Hs a ≠ none → H1 a ≠ none) (h : Post K mg F φ C H (RepR K mg H0 Hs) E Q r) : Post K mg F φ C H (RepR K mg H1 H1) E Q r :=
  Post.rebase Stp.refl h fun _ _ _ _ _ _ q => rr_weak h0 hs q

section
variable {X : Cx} {CX : CXT} {k : Nat} {f C : Addr} {fd : FuncData} {ps : List Str} {sp : Sp} {E : L2.St → XK} {x m : Str} {p pos apos : Pos} {e o : Expr} {es : List Expr} {ta : TE} {t : TA}
theorem pe_call0S (F : FnOk X.prog X.w X.K X.mg X.base CX k f fd ps sp) (hr : Room k X.A) (hg : Gl X x) (hm : X.mg x = some (.ref f)) (hk : PySem.W.keepIn X.K (.ref f) = true) (hb : Binds X.K fd ps []) (hx : ∀ σ, PassesAt CX X σ (E σ))
    (hdb : (x == ("__debug__" : Str)) = false := by decide) : PE X (.Call (.Name x p) [] [] pos) (tCallS sp E tNil) := by
  refine ⟨fun pins s σ H Q I h => ?_⟩
  refine wpAny_Call_Name_kw (ld_glob I hg hm ?_ hdb)
  exact PySem.W.callWith_K0 I.kIn hk (run_fnS (us := []) F hr hb (hx σ) I .nil h)
def tMakeS (C : Addr) (sp : Sp) (E : L2.St → XK) (t : TA) : TE := fun σ H Q => t σ H fun vs H1 => ∀ x dx, H1 x = none → H1 dx = none → dx ≠ x →
  sp (.ref x :: vs) (upd (upd H1 dx (.own x)) x (.ins C dx [])) (fun v H2 => v = .non ∧ Q (.ref x) H2) (E σ)
def PassesM (CX : CXT) (X : Cx) (E : L2.St → XK) : Prop := ∀ (pins : List (Addr × Obj)) (σ : L2.St) (H : Hp) (s : Shared) (e : Value) (s' : Shared), Inv X pins σ H s → CX X.stack H s (E σ) e s' → X.xe e s'
theorem run_makeS {pins : List (Addr × Obj)} {σ : L2.St} {H : Hp} {s : Shared} {Q : VK} {us : List Value} {vs : List V} (M : Mk X.K C f) (F : FnOk X.prog X.w X.K X.mg X.base CX k f fd ps sp) (hr : Room (k + 1) X.A) (hb : Binds X.K fd ps [])
    (hx : ∀ σ, PassesAt CX X σ (E σ)) (I : Inv X pins σ H s) (r : Vals vs us)
    (h : ∀ x dx, H x = none → H dx = none → dx ≠ x → sp (.ref x :: vs) (upd (upd H dx (.own x)) x (.ins C dx [])) (fun v H2 => v = .non ∧ Q (.ref x) H2) (E σ)) :
    wpAny (model X.prog X.w) X.A (call (.ref C) us) (EP X pins σ Q) X.xe s := by
  have hq := h (s.heap.objs.size + 1) s.heap.objs.size (I.hok.fresh (Nat.le_succ _)) (I.hok.fresh (Nat.le_refl _)) (Nat.ne_of_lt (Nat.lt_succ_self _))
  have I2 := Inv.made (C := C) I
  have r2 : Vals (V.ref (s.heap.objs.size + 1) :: vs) (Value.ref (s.heap.objs.size + 1) :: us) := .cons rfl r
  have hl : (Value.ref (s.heap.objs.size + 1) :: us ++ []).length = ps.length := by
    have e := r2.length
    rw [F.len _ _ _ _ hq] at e
    rw [List.append_nil]
    exact e.symm
  have hbb := hb _ (Value.ref (s.heap.objs.size + 1) :: us) I2.kIn hl
  rw [List.append_nil] at hbb
  refine wpAny_call (make_map (f := f) I.kIn M.makes M.init (beq_iff_eq.mp M.fn) (codeAny_mono (F.run _ X.stack _ _ ⟨Value.ref (s.heap.objs.size + 1) :: us, []⟩ (Value.ref (s.heap.objs.size + 1) :: us) _ _ (E σ) (hr.make C us [])
    (I2.env0.make C us []) hbb r2 hq) fun r s' hq' => ?_))
  cases r with
  | error e => exact hx σ pins _ _ e s' I2 hq'
  | ok fl =>
    cases fl with
    | ret u =>
      obtain ⟨v, H', I3, rv, ev, q3⟩ := I2.after hq'
      subst ev
      exact ⟨rv, ⟨V.ref (s.heap.objs.size + 1), H', I3, rfl, q3⟩⟩
    | next => exact False.elim hq'
    | brk => exact False.elim hq'
    | cont => exact False.elim hq'
theorem pe_makeS (M : Mk X.K C f) (F : FnOk X.prog X.w X.K X.mg X.base CX k f fd ps sp) (hr : Room (k + 1) X.A) (hg : Gl X x) (hm : X.mg x = some (.ref C)) (hb : Binds X.K fd ps []) (hx : ∀ σ, PassesAt CX X σ (E σ))
    (ha : PA X (e :: es) t) (hdb : (x == ("__debug__" : Str)) = false := by decide) (he : starEach (e :: es) X.env = (false, eval e X.env) :: starEach es X.env := by rfl) (hpl : (backTo pos (starEach es X.env)).any (·.1) = false := by rfl) :
    PE X (.Call (.Name x p) (e :: es) [] pos) (tMakeS C sp E t) := by
  refine ⟨fun pins s σ H Q I h => ?_⟩
  refine wpAny_Call_Name_kw (ld_glob I hg hm ?_ hdb)
  refine PySem.W.callWith_K (h₀ := X.base) I.ok.mod.kin M.kp (thn (ha.run pos pins s σ H _ I h) fun us s1 ⟨vs, H1, I1, r, q⟩ => ⟨I1.kIn, ?_⟩) he hpl
  exact run_makeS M F hr hb hx I1 r q
theorem pe_make0S (M : Mk X.K C f) (F : FnOk X.prog X.w X.K X.mg X.base CX k f fd ps sp) (hr : Room (k + 1) X.A) (hg : Gl X x) (hm : X.mg x = some (.ref C)) (hb : Binds X.K fd ps []) (hx : ∀ σ, PassesAt CX X σ (E σ))
    (hdb : (x == ("__debug__" : Str)) = false := by decide) : PE X (.Call (.Name x p) [] [] pos) (tMakeS C sp E tNil) := by
  refine ⟨fun pins s σ H Q I h => ?_⟩
  refine wpAny_Call_Name_kw (ld_glob I hg hm ?_ hdb)
  exact PySem.W.callWith_K0 I.kIn M.kp (run_makeS (us := []) M F hr hb hx I .nil h)
end

section
variable {X : Cx} {W : L2.WX} {cb : Cb}
theorem call_imp {f : String} {as : List E} {σ : L2.St} {H : Hp} {Q : VK} (h : tE X W cb (.call f as) σ H Q) : tCallS (spC X.K X.mg (cb.call f)) (WE W) (tAs X W cb as) σ H Q := by
  obtain ⟨n0, F, φ, C, σd, z, h⟩ := h
  unfold evalE at h
  refine opds z h fun ra C1 vs H1 F1 φ1 s1 z1 r1 q1 => ?_
  exact ⟨F1, φ1, C1, ra, z1.wf, r1, post_weak z1.sr.ent.dom s1.dom q1⟩
theorem as_nil_imp {as : List E} {σ : L2.St} {H : Hp} {Q : List V → Hp → Prop} (e : as = []) (h : tAs X W cb as σ H Q) : tNil σ H Q := by
  subst e
  obtain ⟨n0, F, φ, C, σd, z, h⟩ := h
  exact h [] H F φ Stp.refl z.wf .nil
theorem sim_call {f : String} {es : List Expr} {as : List E} {p pos : Pos} (tk : Takes X W) (ok : CallOk X f (cb.call f)) (hl : as.length = es.length) (hg : Gl X (Str.ofString f)) (ha : SimAs X W cb es as) (hs : es.all noStar = true) (hd : (Str.ofString f == ("__debug__" : Str)) = false) :
    SimE X W cb (.Call (.Name (Str.ofString f) p) es [] pos) (.call f as) := by
  obtain ⟨k, fa, fd, ps, F, hr, hm, hk, hb⟩ := ok.ex
  cases es with
  | nil =>
    have e : as = [] := List.length_eq_zero_iff.mp hl
    exact PE.imp (pe_call0S F hr hg hm hk hb (fun σ => passAt tk σ) hd) fun σ H Q h => as_nil_imp e (call_imp h)
  | cons e es =>
    simp only [List.all_cons, Bool.and_eq_true] at hs
    exact PE.imp (pe_callS F hr hg hm hk hb (fun σ => passAt tk σ) ha hd (star_cons hs.1) (star_pl hs.2)) fun σ H Q h => call_imp h

/-! ### borrowing -/
/-- the lists among the operands, frozen while the call runs -/
def lendF (F : Addr → Prop) (H : Hp) (vs : List V) : Addr → Prop := fun a => F a ∨ (V.ref a ∈ vs ∧ ∃ xs, H a = some (.lst xs))
theorem lend_rep {K mg F H} {vs vs' : List V} (hs : ∀ v ∈ vs, v ∈ vs') : ∀ {xs : List P} {us : List V}, Paired (RepV K mg F H) xs us → (∀ v ∈ us, v ∈ vs) → Paired (RepA K mg (lendF F H vs') [] [] H) (xs.map .p) us
  | _, _, .nil, _ => .nil
  | x :: xs, v :: us, .cons h t, hv => .cons (by
      show Rep K mg (lendF F H vs') H x v
      cases x with
      | lst l =>
        obtain ⟨a, ys, e, h1, h2⟩ := h
        exact ⟨a, ys, e, ⟨.inr ⟨by rw [← e]; exact hs _ (hv v (by simp)), ys, h1⟩, h1⟩, Reps.mono (fun _ z => .inl z) (fun _ _ _ z => z) _ _ h2⟩
      | _ => exact Rep.mono (fun _ z => .inl z) (fun _ _ _ z => z) _ _ h) (lend_rep hs t fun w hw => hv w (by simp [hw]))
theorem lend_wf {K mg F φ C H} {vs : List V} (w : Wf K mg F φ C H) : Wf K mg (lendF F H vs) [] [] H where
  dom := fun a h => by
    rcases h with h | ⟨_, xs, h⟩
    · exact w.dom a h
    · exact some_ne h
  len := rfl
  live := fun n a cl h => by simp at h
  inj := fun n m a cl cl' h => by simp at h
/-- what a borrower made, behind the call: not what it borrowed -/
def backF (F F' : Addr → Prop) (H : Hp) : Addr → Prop := fun a => F a ∨ (F' a ∧ H a = none)
mutual
theorem flat_back {K mg F F' H H'} {vs : List V} {φ' C'} (s : Stp (lendF F H vs) [] [] H F' φ' C' H') : ∀ (x : P) (v : V), flatAll x = true → Rep K mg F' H' x v → Rep K mg (backF F F' H) H' x v
  | .non, _, _, h => h
  | .bl _, _, _, h => h
  | .int _, _, _, h => h
  | .str _, _, _, h => h
  | .tup l, v, e, h => by
    obtain ⟨a, xs, e1, h1, h2⟩ := h
    refine ⟨a, xs, e1, ?_, flats_back s l xs (by unfold flatAll at e; exact e) h2⟩
    rcases h1 with ⟨h1, h3⟩ | h1
    · refine .inl ⟨?_, h3⟩
      rcases s.new a h1 with q | q | ⟨n, cl, q, _⟩
      · rcases q with q | ⟨_, ys, q⟩
        · exact .inl q
        · have := s.keep a _ q (fun ⟨n, cl, q, _⟩ => by simp at q)
          rw [h3] at this
          cases this
      · exact .inr ⟨h1, q⟩
      · simp at q
    · exact .inr h1
  | .lst _, _, e, _ => by unfold flatAll at e; cases e
  | .obj _ _ _, _, e, _ => by unfold flatAll at e; cases e
  | .ro _, _, e, _ => by unfold flatAll at e; cases e
theorem flats_back {K mg F F' H H'} {vs : List V} {φ' C'} (s : Stp (lendF F H vs) [] [] H F' φ' C' H') : ∀ (x : List P) (v : List V), flatAlls x = true → Reps K mg F' H' x v → Reps K mg (backF F F' H) H' x v
  | [], _, _, h => h
  | x :: xs, v, e, h => by
    obtain ⟨y, r, e1, h1, h2⟩ := h
    unfold flatAlls at e
    simp only [Bool.and_eq_true] at e
    exact ⟨y, r, e1, flat_back s x y e.1 h1, flats_back s xs r e.2 h2⟩
end
theorem back_stp {F F' H H'} {vs : List V} {φ φ' C C'} (s : Stp (lendF F H vs) [] [] H F' φ' C' H') : Stp F φ C H (backF F F' H) φ C H' where
  grow := fun a h => .inl h
  new := fun a h => by
    rcases h with h | ⟨_, h⟩
    · exact .inl h
    · exact .inr (.inl h)
  pre := fun n a h => h
  lv := fun a h => .inl h
  keep := fun a o h _ => s.keep a o h fun ⟨n, cl, q, _⟩ => by simp at q
  dom := s.dom
theorem back_wf {K mg F F' H H'} {vs : List V} {φ φ' C C'} (w : Wf K mg F φ C H) (s : Stp (lendF F H vs) [] [] H F' φ' C' H') (w' : Wf K mg F' φ' C' H') : Wf K mg (backF F F' H) φ C H' where
  dom := fun a h => by
    rcases h with h | ⟨h, _⟩
    · exact s.dom a (w.dom a h)
    · exact w'.dom a h
  len := w.len
  live := fun n a cl h1 h2 => by
    obtain ⟨q1, q2⟩ := w.live n a cl h1 h2
    have hk : ∀ a o, H a = some o → H' a = some o := fun a o h => s.keep a o h fun ⟨n, cl, q, _⟩ => by simp at q
    have hne : H a ≠ none := by
      cases cl with
      | lst l => obtain ⟨xs, h3, _⟩ := q2; exact some_ne h3
      | ins c ns vs => obtain ⟨_, _, _, h3, _⟩ := q2; exact some_ne h3
    refine ⟨fun z => ?_, q2.mono (fun _ z => .inl z) (fun b o _ z => hk b o z) fun o z => hk _ o z⟩
    rcases z with z | ⟨_, z⟩
    · exact q1 z
    · exact hne z
  inj := w.inj
theorem callb_imp {f : String} {as : List E} {σ : L2.St} {H : Hp} {Q : VK} (h : tE X W cb (.callb f as) σ H Q) : tCallS (spC X.K X.mg (cb.call f)) (WE W) (tAs X W cb as) σ H Q := by
  obtain ⟨n0, F, φ, C, σd, z, h⟩ := h
  unfold evalE at h
  refine opds z h fun ra C1 vs H1 F1 φ1 s1 z1 r1 q1 => ?_
  cases e1 : allA C1 ra with
  | none => rw [e1] at q1; exact q1.elim
  | some xs =>
    rw [e1, opt_some, Rs.bnd_ok] at q1
    refine ⟨lendF F1 H1 vs, [], [], xs.map .p, lend_wf z1.wf, lend_rep (fun v hv => hv) (allA_rep z1.wf r1 e1) (fun v hv => hv), ?_⟩
    cases e2 : cb.call f (xs.map .p) [] with
    | no => rw [e2] at q1; exact q1
    | ex e C2 =>
      rw [e2] at q1
      have q2 : Post X.K X.mg F1 φ1 C1 H1 (RepR X.K X.mg n0.H H) (fun cls d H' => W cls d σ H') Q (if flatAlls e.vs = true then .ex e C1 else .no) := q1
      split at q2
      · rename_i hf
        intro cls d H' F' φ' s2 w2 er
        refine q2 cls d H' _ φ1 (back_stp s2) (back_wf z1.wf s2 w2) ⟨er.1, ?_⟩
        rcases er.2 with er | ⟨dd, fs, ed, h1, h2, h3, h4⟩
        · exact .inl er
        · refine .inr ⟨dd, fs, ed, ?_, h2, h3, flats_back s2 _ _ hf h4⟩
          rcases s2.new dd h1 with q | q | ⟨n, cl, q, _⟩
          · rcases q with q | ⟨_, ys, q⟩
            · exact .inl q
            · have := s2.keep dd _ q (fun ⟨n, cl, q, _⟩ => by simp at q)
              rw [h2] at this
              cases this
          · exact .inr ⟨h1, q⟩
          · simp at q
      · exact q2.elim
    | ok r C2 =>
      rw [e2] at q1
      cases r with
      | v x =>
        have q2 : Post X.K X.mg F1 φ1 C1 H1 (RepR X.K X.mg n0.H H) (fun cls d H' => W cls d σ H') Q (if flatAll x = true then .ok (.v x) C1 else .no) := q1
        split at q2
        · rename_i hf
          intro v H' F' φ' s2 w2 rr
          exact q2 v H' _ φ1 (back_stp s2) (back_wf z1.wf s2 w2) (flat_back s2 x v hf rr)
        · exact q2.elim
      | _ => exact q1.elim
theorem sim_callb {f : String} {es : List Expr} {as : List E} {p pos : Pos} (tk : Takes X W) (ok : CallOk X f (cb.call f)) (hl : as.length = es.length) (hg : Gl X (Str.ofString f)) (ha : SimAs X W cb es as) (hs : es.all noStar = true) (hd : (Str.ofString f == ("__debug__" : Str)) = false) :
    SimE X W cb (.Call (.Name (Str.ofString f) p) es [] pos) (.callb f as) := by
  obtain ⟨k, fa, fd, ps, F, hr, hm, hk, hb⟩ := ok.ex
  cases es with
  | nil =>
    have e : as = [] := List.length_eq_zero_iff.mp hl
    exact PE.imp (pe_call0S F hr hg hm hk hb (fun σ => passAt tk σ) hd) fun σ H Q h => as_nil_imp e (callb_imp h)
  | cons e es =>
    simp only [List.all_cons, Bool.and_eq_true] at hs
    exact PE.imp (pe_callS F hr hg hm hk hb (fun σ => passAt tk σ) ha hd (star_cons hs.1) (star_pl hs.2)) fun σ H Q h => callb_imp h
end
end MP
/-! MP12: instances made, methods. -/
namespace MP
open PySem PySem.Spec PyProof.Rows L2

structure NewOk (X : Cx) (c : String) (g : List A → CH → Rs RV) : Prop where
  ex : ∃ k Ca fa fd ps, Mk X.K Ca fa ∧ FnOk X.prog X.w X.K X.mg X.base (L2.CX X.prog X.w) k fa fd ps (spC X.K X.mg g) ∧ Room (k + 1) X.A ∧ X.mg (Str.ofString c) = some (.ref Ca) ∧ Binds X.K fd ps []
section
variable {K : PySem.W.Frag} {mg : Str → Option Value} {F F' : Addr → Prop} {φ φ' : List Addr} {C C' : CH} {H H' : Hp} {x dx Ca : Addr} {c : String}
theorem made_wf (w : Wf K mg F φ C H) (hx : H x = none) (hd : H dx = none) (hne : dx ≠ x) (hm : mg (Str.ofString c) = some (.ref Ca)) : Wf K mg F (φ ++ [x]) (C ++ [some (.ins c [] [])]) (upd (upd H dx (.own x)) x (.ins Ca dx [])) := by
  have keep : ∀ a o, H a = some o → upd (upd H dx (.own x)) x (.ins Ca dx []) a = some o := fun a o h => by
    rw [upd_ne (show a ≠ x from fun e => by rw [e, hx] at h; cases h), upd_ne (show a ≠ dx from fun e => by rw [e, hd] at h; cases h)]
    exact h
  have old : ∀ {n : Nat} {a : Addr} {cl : Cl}, C[n]? = some (some cl) → φ[n]? = some a → H a ≠ none := fun h1 h2 => by
    rename_i n a cl
    obtain ⟨_, q2⟩ := w.live _ _ _ h1 h2
    cases cl with
    | lst l => obtain ⟨xs, h3, _⟩ := q2; exact some_ne h3
    | ins c ns vs => obtain ⟨_, _, _, h3, _⟩ := q2; exact some_ne h3
  have cases' : ∀ {n : Nat} {a : Addr} {cl : Cl}, (C ++ [some (Cl.ins c [] [])])[n]? = some (some cl) → (φ ++ [x])[n]? = some a → (C[n]? = some (some cl) ∧ φ[n]? = some a) ∨ (n = C.length ∧ a = x ∧ cl = .ins c [] []) := fun {n a cl} h1 h2 => by
    by_cases hn : n < C.length
    · rw [List.getElem?_append_left hn] at h1
      rw [List.getElem?_append_left (by rw [w.len]; exact hn)] at h2
      exact .inl ⟨h1, h2⟩
    · by_cases e : n = C.length
      · subst e
        rw [List.getElem?_append_right (Nat.le_refl _)] at h1
        rw [List.getElem?_append_right (by rw [w.len]; exact Nat.le_refl _)] at h2
        simp [w.len] at h1 h2
        exact .inr ⟨rfl, h2.symm, h1.symm⟩
      · rw [List.getElem?_eq_none (by simp; omega)] at h1
        cases h1
  refine ⟨fun a h => ?_, by simp [w.len], fun n a cl h1 h2 => ?_, fun n m a cl cl' h1 h2 h3 h4 => ?_⟩
  · obtain ⟨o, ho⟩ := ne_some (w.dom a h)
    exact some_ne (keep a o ho)
  · rcases cases' h1 h2 with ⟨h1, h2⟩ | ⟨e1, e2, e3⟩
    · obtain ⟨q1, q2⟩ := w.live _ _ _ h1 h2
      exact ⟨q1, q2.mono (fun _ z => z) (fun b o _ z => keep b o z) fun o z => keep _ o z⟩
    · subst e2; subst e3
      exact ⟨fun z => w.dom _ z hx, Ca, dx, [], upd_same, hm, rfl, Reps.nil⟩
  · rcases cases' h1 h3 with ⟨g1, g2⟩ | ⟨e1, e2, e3⟩ <;> rcases cases' h2 h4 with ⟨g3, g4⟩ | ⟨e4, e5, e6⟩
    · exact w.inj n m a cl cl' g1 g3 g2 g4
    · exact absurd hx (by rw [← e5]; exact old g1 g2)
    · exact absurd hx (by rw [← e2]; exact old g3 g4)
    · rw [e1, e4]
theorem made_stp (w : Wf K mg F φ C H) (hx : H x = none) (hd : H dx = none) : Stp F φ C H F (φ ++ [x]) (C ++ [some (.ins c [] [])]) (upd (upd H dx (.own x)) x (.ins Ca dx [])) where
  grow := fun _ h => h
  new := fun _ h => .inl h
  pre := fun n a h => by
    have : n < φ.length := by
      by_cases q : n < φ.length
      · exact q
      · rw [List.getElem?_eq_none (by omega)] at h; cases h
    rw [List.getElem?_append_left this]
    exact h
  lv := fun a ⟨n, cl, h1, h2⟩ => by
    by_cases hn : n < C.length
    · rw [List.getElem?_append_left hn] at h1
      rw [List.getElem?_append_left (by rw [w.len]; exact hn)] at h2
      exact .inl ⟨n, cl, h1, h2⟩
    · by_cases e : n = C.length
      · subst e
        rw [List.getElem?_append_right (by rw [w.len]; exact Nat.le_refl _)] at h2
        simp [w.len] at h2
        exact .inr (by rw [← h2]; exact hx)
      · rw [List.getElem?_eq_none (by simp; omega)] at h1
        cases h1
  keep := fun a o h _ => by
    rw [upd_ne (show a ≠ x from fun e => by rw [e, hx] at h; cases h), upd_ne (show a ≠ dx from fun e => by rw [e, hd] at h; cases h)]
    exact h
  dom := fun a h => by
    unfold upd
    split
    · simp
    · split
      · simp
      · exact h
theorem take_wf (w : Wf K mg F φ C H) (k : Nat) : Wf K mg F (φ.take k) (C.take k) H where
  dom := w.dom
  len := by simp [w.len]
  live := fun n a cl h1 h2 => by
    rw [List.getElem?_take] at h1 h2
    split at h1
    · rename_i hn
      rw [if_pos hn] at h2
      exact w.live n a cl h1 h2
    · cases h1
  inj := fun n m a cl cl' h1 h2 h3 h4 => by
    rw [List.getElem?_take] at h1 h2 h3 h4
    split at h1
    · rename_i hn
      rw [if_pos hn] at h3
      split at h2
      · rename_i hm
        rw [if_pos hm] at h4
        exact w.inj n m a cl cl' h1 h2 h3 h4
      · cases h2
    · cases h1
theorem take_lv {k : Nat} {a : Addr} (h : Lv (C.take k) (φ.take k) a) : ∃ n cl, n < k ∧ C[n]? = some (some cl) ∧ φ[n]? = some a := by
  obtain ⟨n, cl, h1, h2⟩ := h
  rw [List.getElem?_take] at h1 h2
  split at h1
  · rename_i hn
    rw [if_pos hn] at h2
    exact ⟨n, cl, hn, h1, h2⟩
  · cases h1
theorem take_stp {k : Nat} (hk : φ.length = k) (s : Stp F φ C H F' φ' C' H') : Stp F φ C H F' (φ'.take k) (C'.take k) H' where
  grow := s.grow
  new := s.new
  pre := fun n a h => by
    have hn : n < φ.length := by
      by_cases q : n < φ.length
      · exact q
      · rw [List.getElem?_eq_none (by omega)] at h; cases h
    rw [List.getElem?_take, if_pos (by omega)]
    exact s.pre n a h
  lv := fun a h => by
    obtain ⟨n, cl, _, h1, h2⟩ := take_lv h
    exact s.lv a ⟨n, cl, h1, h2⟩
  keep := s.keep
  dom := s.dom
end
section
variable {X : Cx} {W : L2.WX} {cb : Cb}
theorem new_imp {c : String} {g : List A → CH → Rs RV} {Ca : Addr} (hm : X.mg (Str.ofString c) = some (.ref Ca)) (hg : ∀ as C, cb.new c as C = mkNew c g as C) {as : List E} {σ : L2.St} {H : Hp} {Q : VK} (h : tE X W cb (.new c as) σ H Q) : tMakeS Ca (spC X.K X.mg g) (WE W) (tAs X W cb as) σ H Q := by
  obtain ⟨n0, F, φ, C, σd, z, h⟩ := h
  unfold evalE at h
  refine opds z h fun ra C1 vs H1 F1 φ1 s1 z1 r1 q1 => ?_
  intro x dx hx hd hne
  have w2 := made_wf (c := c) (Ca := Ca) z1.wf hx hd hne hm
  have s2 := made_stp (c := c) (Ca := Ca) z1.wf hx hd
  refine ⟨F1, φ1 ++ [x], C1 ++ [some (.ins c [] [])], .cell C1.length :: ra, w2, .cons ⟨x, rfl, by rw [List.getElem?_append_right (by rw [z1.wf.len]; exact Nat.le_refl _)]; simp [z1.wf.len]⟩ (pairedA_step z1.wf s2 r1), ?_⟩
  rw [hg] at q1
  unfold mkNew at q1
  have hx2 : (φ1 ++ [x])[C1.length]? = some x := by rw [List.getElem?_append_right (by rw [z1.wf.len]; exact Nat.le_refl _)]; simp [z1.wf.len]
  cases e : g (.cell C1.length :: ra) (C1 ++ [some (.ins c [] [])]) with
  | no => rw [e] at q1; exact q1
  | ex ee C3 =>
    rw [e] at q1
    intro cls d H' F' φ' s3 w3 er
    exact q1 cls d H' F' (φ'.take C1.length) (take_stp z1.wf.len (s2.trans s3)) (take_wf w3 _) er
  | ok r C3 =>
    rw [e] at q1
    cases r with
    | v y =>
      cases y with
      | non =>
        dsimp only at q1
        split at q1
        · rename_i c' ns vs' hc
          split at q1
          · rename_i hl
            intro v H' F' φ' s3 w3 rr
            refine ⟨rr, ?_⟩
            have hφ : φ'[C1.length]? = some x := s3.pre _ _ hx2
            obtain ⟨hF, Cc, dx', fs, g1, g2, g3, g4⟩ := w3.live _ _ _ hc hφ
            have nl : ¬ Lv (C3.take C1.length) (φ'.take C1.length) x := fun hlv => by
              obtain ⟨n, cl, hn, h1, h2⟩ := take_lv hlv
              have := w3.inj n C1.length x cl _ h1 hc h2 hφ
              omega
            have ws := take_wf w3 C1.length
            have st := take_stp (k := C1.length) z1.wf.len (s2.trans s3)
            exact q1 (.ref x) H' (frz F' x) (φ'.take C1.length) (frz_step st (.inl hx)) (frz_wf ws g1 nl) ⟨x, Cc, dx', fs, rfl, .inr rfl, g1, g2, g3, reps_frz g4⟩
          · exact q1.elim
        · exact q1.elim
      | _ => exact q1.elim
    | _ => exact q1.elim
theorem sim_new {c : String} {g : List A → CH → Rs RV} {es : List Expr} {as : List E} {p pos : Pos} (tk : Takes X W) (ok : NewOk X c g) (he : ∀ as C, cb.new c as C = mkNew c g as C) (hl : as.length = es.length) (hg : Gl X (Str.ofString c)) (ha : SimAs X W cb es as) (hs : es.all noStar = true) (hd : (Str.ofString c == ("__debug__" : Str)) = false) :
    SimE X W cb (.Call (.Name (Str.ofString c) p) es [] pos) (.new c as) := by
  obtain ⟨k, Ca, fa, fd, ps, M, F, hr, hm, hb⟩ := ok.ex
  cases es with
  | nil =>
    have e : as = [] := List.length_eq_zero_iff.mp hl
    exact PE.imp (pe_make0S M F hr hg hm hb (fun σ => passAt tk σ) hd) fun σ H Q h => as_nil_imp e (new_imp hm he h)
  | cons e es =>
    simp only [List.all_cons, Bool.and_eq_true] at hs
    exact PE.imp (pe_makeS M F hr hg hm hb (fun σ => passAt tk σ) ha hd (star_cons hs.1) (star_pl hs.2)) fun σ H Q h => new_imp hm he h

/-! ### methods -/
structure MthOk (X : Cx) (c m : String) (g : List A → CH → Rs RV) : Prop where
  ex : ∃ k Ca fa fd ps, Cls X.K Ca ∧ Meth X.K Ca (Str.ofString m) fa ∧ FnOk X.prog X.w X.K X.mg X.base (L2.CX X.prog X.w) k fa fd ps (spC X.K X.mg g) ∧ Room k X.A ∧ X.mg (Str.ofString c) = some (.ref Ca) ∧ Binds X.K fd ps []
def tMethS (X : Cx) (m : Str) (W : L2.WX) (ta : TE) (t : TA) : TE := fun σ H Q => ta σ H fun x H1 => ∃ a dx fs k C f fd ps sp, x = .ref a ∧ H1 a = some (.ins C dx fs) ∧ fs.lookup m = none ∧ Cls X.K C ∧ Meth X.K C m f ∧ FnOk X.prog X.w X.K X.mg X.base (L2.CX X.prog X.w) k f fd ps sp ∧ Room k X.A ∧ Binds X.K fd ps [] ∧
  t σ H1 fun vs H2 => sp (x :: vs) H2 Q (WE W σ)
theorem meth_eval {o : Expr} {m : Str} {args : List Expr} {apos pos : Pos} {env : PySem.Env} (hb : attributeBase o m env (eval o env) = eval o env) (hs : args.all noStar = true) (hn : args.length < 30) (hl : (apos.endLine == pos.line) = true) :
    eval (.Call (.Attribute o m apos) args [] pos) env = (do
      let ov ← eval o env
      standAt apos.atName
      let (f, first) ← holding [ov] (getMethod ov m (do return (← importBound o env).getD true))
      callWith pos f first (backTo pos (starEach args env)) (backToKw pos (keywordEach [] env))) := by
  have hst : (backTo pos (starEach args env)).all (!·.1) = true := by
    have := star_pl (pos := pos) (env := env) hs
    rw [List.any_eq_false] at this
    rw [List.all_eq_true]
    intro x hx
    have := this x hx
    simpa using this
  have hf : methodCallForm (args.length + ([] : List Keyword).length) (backTo pos (starEach args env)) (backToKw pos (keywordEach [] env)) = true := by
    unfold methodCallForm
    rw [hst]
    simp [backToKw, keywordEach]
    exact hn
  show (do
    let ov ← attributeBase o m env (eval o env)
    standAt apos.atName
    methodCall o m apos pos env ov (args.length + ([] : List Keyword).length) (backTo pos (starEach args env)) (backToKw pos (keywordEach [] env))) = _
  rw [hb]
  congr 1
  funext ov
  congr 1
  funext _
  unfold methodCall
  rw [hf]
  have hp : methodCallPos true o env apos pos = pure pos := by
    unfold methodCallPos
    rw [hl]
    rfl
  rw [hp]
  rfl
theorem pe_methS {o : Expr} {m : Str} {es : List Expr} {ta : TE} {t : TA} {apos pos : Pos} (tk : Takes X W) (he : PE X o ta) (ha : PA X es t) (h0 : es = [] → ∀ σ H Q, t σ H Q → Q [] H) (hb : attributeBase o m X.env (eval o X.env) = eval o X.env) (hs : es.all noStar = true) (hn : es.length < 30) (hl : (apos.endLine == pos.line) = true) :
    PE X (.Call (.Attribute o m apos) es [] pos) (tMethS X m W ta t) := by
  have ht := meth_eval hb hs hn hl
  cases es with
  | nil =>
    refine ⟨fun pins s σ H Q I h => ?_⟩
    refine PySem.W.methodCall_KW (thn (he.run pins s σ H _ I h) fun u s1 ⟨x, H1, I1, rx, a, dx, fs, k, C, f, fd, ps, sp, ex, ea, l, c, hm, F, hr, hb, q⟩ => ?_) ht
    subst ex
    obtain rfl : u = Value.ref a := rx
    refine getmeth_ok I1 ea c hm l ?_
    exact PySem.W.callWith_K0 (first := [.ref a]) I1.kIn hm.kp (run_fnS (E := WE W) (us := [.ref a]) (vs := [.ref a]) F hr hb (passAt tk σ) I1 (.cons rfl .nil) (h0 rfl _ _ _ q))
  | cons e es =>
    simp only [List.all_cons, Bool.and_eq_true] at hs
    refine ⟨fun pins s σ H Q I h => ?_⟩
    refine PySem.W.methodCall_KW (thn (he.run pins s σ H _ I h) fun u s1 ⟨x, H1, I1, rx, a, dx, fs, k, C, f, fd, ps, sp, ex, ea, l, c, hm, F, hr, hb, q⟩ => ?_) ht
    subst ex
    obtain rfl : u = Value.ref a := rx
    refine getmeth_ok I1 ea c hm l ?_
    refine PySem.W.callWith_K (first := [.ref a]) (h₀ := X.base) I.ok.mod.kin hm.kp (thn (ha.run pos pins s1 σ H1 _ I1 q) fun us s2 ⟨vs, H2, I2, r, q2⟩ => ⟨I2.kIn, ?_⟩) (star_cons hs.1) (star_pl hs.2)
    exact run_fnS (E := WE W) (us := .ref a :: us) (vs := .ref a :: vs) F hr hb (passAt tk σ) I2 (.cons rfl r) q2
theorem lookup_none {m : String} : ∀ {ns : List String} {fs : List (Str × V)}, fs.map (·.1) = objNames ns → ns.contains m = false → fs.lookup (Str.ofString m) = none
  | [], fs, h, _ => by
    cases fs with
    | nil => rfl
    | cons _ _ => simp [objNames] at h
  | n :: ns, fs, h, hc => by
    cases fs with
    | nil => rfl
    | cons g fs =>
      obtain ⟨k, x⟩ := g
      simp only [List.map_cons, objNames, List.cons.injEq] at h
      obtain ⟨rfl, h5⟩ := h
      have hc' : (m == n) = false ∧ ns.contains m = false := by simpa [List.contains_cons] using hc
      have : (Str.ofString m == Str.ofString n) = false := by
        rw [beq_eq_false_iff_ne]
        exact fun q => by have := ofString_inj q; subst this; simp at hc'
      rw [List.lookup_cons, this]
      exact lookup_none h5 hc'.2
theorem sim_mth {m : String} {o : Expr} {es : List Expr} {a : E} {as : List E} {apos pos : Pos} (tk : Takes X W) (ok : ∀ c, cb.mok c m = true → MthOk X c m (cb.mth c m)) (he : SimE X W cb o a) (hl : as.length = es.length) (ha : SimAs X W cb es as) (hsu : supB o = true) (hs : es.all noStar = true) (hn : es.length < 30) (hli : (apos.endLine == pos.line) = true) :
    SimE X W cb (.Call (.Attribute o (Str.ofString m) apos) es [] pos) (.mth a m as) := by
  refine PE.imp (pe_methS (m := Str.ofString m) tk he ha (fun e σ H Q h => ?_) (attBase hsu) hs hn hli) fun σ H Q h => ?_
  · subst e
    exact as_nil_imp (List.length_eq_zero_iff.mp hl) h
  · obtain ⟨n0, F, φ, C, σd, z, h⟩ := h
    unfold evalE at h
    refine opd z h fun ra C1 v H1 F1 φ1 s1 z1 r1 rv q1 => ?_
    cases ra with
    | v x =>
      cases x with
      | obj c ns vs =>
        dsimp only at q1
        split at q1
        · exact q1.elim
        · rename_i hns
          simp only [Bool.or_eq_true, Bool.not_eq_true', not_or, Bool.not_eq_true, Bool.not_eq_false] at hns
          obtain ⟨k, Ca, fa, fd, ps, hc, hm, F', hr, hmg, hbd⟩ := (ok c hns.2).ex
          obtain ⟨b, Cc, dx, fs, rfl, h1, h2, h3, h4, h5⟩ := rv _ rfl
          rw [hmg] at h3
          cases h3
          refine ⟨b, dx, fs, k, Ca, fa, fd, ps, _, rfl, h2, lookup_none h4 hns.1, hc, hm, F', hr, hbd, ?_⟩
          refine opds z1 q1 fun ra2 C2 vs2 H2 F2 φ2 s2 z2 r2 q2 => ?_
          refine ⟨F2, φ2, C2, .p (.obj c ns vs) :: ra2, z2.wf, .cons (s2.rep z1.wf (show Rep X.K X.mg F1 H1 (.obj c ns vs) _ from ⟨b, Ca, dx, fs, rfl, h1, h2, hmg, h4, h5⟩)) r2, ?_⟩
          exact post_weak z2.sr.ent.dom (fun a h => s2.dom a (s1.dom a h)) q2
      | _ => exact q1.elim
    | _ => exact q1.elim
end
end MP
/-! MP13: more sources: reversed, enumerate, zip; list(range), isinstance. -/
namespace PySem
open Sem (wp)
open AutoSeq1 (wpAny_loadPart')
theorem mp_meets_enumerate_newT (l : Addr) (items : Array Value) :
    Meets (Builtin.«enumerate.__new__» ⟨[.type "enumerate", .ref l], []⟩) (fun _ R s => s.heap.IsTuple l items ∧
      R (.ok (.ret (.ref (s.heap.push { cls := .type "tuple_iterator", data := .fields #[.ref l, .int 0 0] }).objs.size)))
        { s with heap := (s.heap.push { cls := .type "tuple_iterator", data := .fields #[.ref l, .int 0 0] }).push { cls := .type "enumerate", data := .fields #[.none, .bool false, .ref s.heap.objs.size, rawInt 0, .none, .none] } }) :=
  .of_wp fun prog w A R s h => by
    obtain ⟨hp, g, d, tk, os⟩ := s; obtain ⟨hl, h⟩ := h
    have hsub := sub_enumerate
    have hL : Heap.IsTuple (Shared.heap ⟨hp, g, d, tk, os⟩) l items := hl
    wp_walk
    refine wpAny_stack_any fun st => wpAny_pure ?_
    split
    · rename_i c _ _ _ _ _
      cases (c == Value.type "enumerate")
      · wp_walk using wpAny_pyIter_tuple hL
        exact ⟨_, rfl, h⟩
      · wp_walk using wpAny_pyIter_tuple hL
        exact ⟨_, rfl, h⟩
    · wp_walk using wpAny_pyIter_tuple hL
      exact ⟨_, rfl, h⟩
section
variable {prog : Program} {w : World} {A : Around} {E : Value → Shared → Prop} {s : Shared}
theorem mp_call_enumerate_tuple {l : Addr} {items : Array Value} {Q : Value → Shared → Prop} (hL : s.heap.IsTuple l items)
    (h : ∀ h', IsEnum h' (s.heap.objs.size + 1) s.heap.objs.size 0 .none → h'.IsTupleIter s.heap.objs.size l 0 → h'.objs.size = s.heap.objs.size + 2 →
      (∀ b o, s.heap.get? b = some o → h'.get? b = some o) → Q (.ref (s.heap.objs.size + 1)) { s with heap := h' }) :
    wpAny (model prog w) A (call (.type "enumerate") [.ref l]) Q E s := by
  refine callType_new F.called_enumerate (by decide) (F.typeCall_enumerate_1 _) (F.newCall_enumerate_1 _) (fun obj => F.args_object_init_2 obj _) F.entry_enumerate_new
    (mp_meets_enumerate_newT l items) ⟨hL, ?_⟩
  have hz : (s.heap.push { cls := .type "tuple_iterator", data := .fields #[.ref l, .int 0 0] }).objs.size = s.heap.objs.size + 1 := Heap.size_push ..
  show _ ∧ _
  rw [hz]
  have he : IsEnum ((s.heap.push { cls := .type "tuple_iterator", data := .fields #[.ref l, .int 0 0] }).push
      { cls := .type "enumerate", data := .fields #[.none, .bool false, .ref s.heap.objs.size, rawInt 0, .none, .none] }) (s.heap.objs.size + 1) s.heap.objs.size 0 .none := by
    have := Heap.get?_push_size (s.heap.push { cls := .type "tuple_iterator", data := .fields #[.ref l, .int 0 0] })
      (o := { cls := .type "enumerate", data := .fields #[.none, .bool false, .ref s.heap.objs.size, rawInt 0, .none, .none] }) rfl
    rw [hz] at this; exact this
  refine ⟨⟨_, he, rfl⟩, h _ he ⟨_, Heap.get?_push_of_some _ (Heap.get?_push_size _ rfl), rfl, rfl⟩ (by rw [Heap.size_push, hz]) fun b o x => Heap.get?_push_of_some _ (Heap.get?_push_of_some _ x)⟩
end
end PySem
namespace MP
open PySem PySem.Spec PyProof.Rows L2
def IteT (K : PySem.W.Frag) (a : Addr) : It :=
  ⟨fun i H => ∃ (xs : List V) (x : V), SqT K H a xs ∧ xs[i]? = some x, fun i H v H' => ∃ T x, v = .ref T ∧ H T = none ∧ H' = upd H T (.tup [.int (i : Nat), x]) ∧ ∀ xs, SqT K H a xs → xs[i]? = some x, fun i H => ∃ xs : List V, SqT K H a xs ∧ xs.length = i⟩
theorem turn_enumT {P : Program} {w : World} {K : PySem.W.Frag} {elts : List Expr} {kk : Nat} {tpos : Pos} (a e it : Addr) :
    Turn P w K (.Tuple elts kk tpos) (IteT K a) [e, it] e (fun i h => (∃ old, IsEnum h e it ((i : Nat) : Int) old) ∧ h.IsTupleIter it a i ∧ e ≠ it ∧ a ≠ it ∧ a ≠ e) where
  mem := by simp
  obj := fun i h st b hb => by
    obtain ⟨⟨old, he⟩, ⟨o, ho, hc, hd⟩, _⟩ := st
    have e' : b = e ∨ b = it := by simpa using hb
    rcases e' with z | z
    · rw [z]; exact ⟨_, he, fun v q => nomatch q⟩
    · rw [z]; exact ⟨o, ho, fun v q => by rw [hd] at q; cases q⟩
  keep := fun i h h' st k => let ⟨⟨old, he⟩, hi, hne⟩ := st; ⟨⟨old, k e (by simp) _ he⟩, hi.at fun o q => k it (by simp) o q, hne⟩
  item := by
    intro X hP hw hK hc i pins s σ H E I hf st hg
    subst hP hw hK
    obtain ⟨⟨old, he⟩, hit, hne, hai, hae⟩ := st
    obtain ⟨xs, x, hq, hx⟩ := hg
    obtain ⟨its, rv, p, hz⟩ := I.tuple hq
    obtain ⟨u, hu, ru⟩ := rv.get hx
    have hel : e < s.heap.objs.size := Heap.lt_size he
    have hil : it < s.heap.objs.size := by obtain ⟨_, q, _⟩ := hit; exact Heap.lt_size q
    have D := Draws.tuple (prog := X.prog) (w := X.w) (A := X.A.in1) (by rw [show X.A.in1.handled = X.A.handled from rfl]; exact I.ok.hd hc) it a hai its.toArray
    have hlt : i < its.toArray.size := by
      have := (List.getElem?_eq_some_iff.mp hu).1
      simpa using this
    refine wpAny_pyNext_enum_itemD D he ⟨hit, p⟩ hlt hne (by simp; exact ⟨hne, fun q => hae q.symm⟩) fun x' h' tk hP ho hst' hT hsz hk => ?_
    have ex : x' = u := by
      have : its.toArray[i]? = some u := by simpa using hu
      rw [hP] at this
      exact Option.some.inj this
    subst ex
    refine ⟨_, rfl, wpAny_letOwnedTupleGo_enum (s := { s with heap := h', toks := tk + 1 }) ho fun h'' he' sb => ?_⟩
    have hT2 : h''.get? s.heap.objs.size = some { cls := .type "tuple", data := .seq #[.int i tk, x'] } := (sb.2 _ (Nat.ne_of_gt hel)).trans hT
    have new : ObjOk X.prog X.w (upd H s.heap.objs.size (.tup [.int (i : Nat), x])) h'' s.heap.objs.size (.tup [.int (i : Nat), x]) :=
      ⟨by show 2 ≤ sizeLine; decide, [.int i tk, x'], .cons ⟨_, rfl⟩ (.cons ru .nil), ⟨_, hT2, rfl, _, rfl⟩⟩
    have I1 : Inv X pins σ (upd H s.heap.objs.size (.tup [.int (i : Nat), x])) { s with heap := h'', toks := tk + 1 } :=
      I.turnedNew (ch := [e, it]) (fun b ob hb q => (sb.2 b (fun z => hb (by simp [z]))).trans (hk b ob (fun z => hb (by simp [z])) (fun z => hb (by simp [z])) q)) hf (Nat.le_refl _) new
    refine ⟨.ref s.heap.objs.size, _, I1, rfl, ⟨_, x, rfl, I.hok.fresh (Nat.le_refl _), rfl, fun ys hy => by rw [I.tuple_inj hy hq]; exact hx⟩, ⟨⟨x', ?_⟩, hst'.1.at fun o q => (sb.2 it (Ne.symm hne)).trans q, hne, hai, hae⟩, fun b hb => ?_⟩
    · have e1 : ((i + 1 : Nat) : Int) = (i : Int) + 1 := by omega
      rw [e1]; exact he'
    · have hb' : b < s.heap.objs.size := by
        have e' : b = e ∨ b = it := by simpa using hb
        rcases e' with z | z
        · rw [z]; exact hel
        · rw [z]; exact hil
      rw [upd_ne (Nat.ne_of_lt hb')]
      exact (hf b hb).1
  done := by
    intro X hP hw hK hc i pins s σ H E I hf st hg
    subst hP hw hK
    obtain ⟨⟨old, he⟩, hit, hne, hai, hae⟩ := st
    obtain ⟨xs, hq, hx⟩ := hg
    obtain ⟨its, rv, p, hz⟩ := I.tuple hq
    obtain ⟨f0, f1, f2, f3, f4, f5⟩ := hf it (by simp)
    have hl := rv.length
    have D := Draws.tuple (prog := X.prog) (w := X.w) (A := X.A.in1) (by rw [show X.A.in1.handled = X.A.handled from rfl]; exact I.ok.hd hc) it a hai its.toArray
    have hi : i = its.toArray.size := by rw [List.size_toArray]; omega
    rw [hi] at hit
    exact wpAny_pyNext_enum_endD D he ⟨hit, p⟩ fun h' eb => ⟨rfl, I.turned (t' := s.toks) (fun b o hb q => eb b o hb q) f0 f1 f3 f4 f5⟩
  self := fun A i s Q E st h => let ⟨⟨_, he⟩, _⟩ := st; wpAny_pyIter_enum he h
/-- enumerate of a list or a tuple -/
def iEnumA (K : PySem.W.Frag) (ta : TA) : TI := fun σ H R => ta σ H fun vs H1 => ∃ a xs, vs = [.ref a] ∧ ((SqL K H1 a xs ∧ R (Ite K a) H1) ∨ (SqT K H1 a xs ∧ R (IteT K a) H1))
theorem pi_enumA {X : Cx} {e : Expr} {ta : TA} {p pos tpos : Pos} {elts : List Expr} {kk : Nat} (hg : Gl X "enumerate") (hm : X.mg "enumerate" = none) (ha : PA X [e] ta) (hs : starEach [e] X.env = [(false, eval e X.env)]) :
    PI X (.Tuple elts kk tpos) (.Call (.Name "enumerate" p) [e] [] pos) (iEnumA X.K ta) := by
  refine ⟨fun pins s σ H R I h => ?_⟩
  refine Call_ (ld_blt I hg hm boot_enumerate (PyProof.Rows.callWith_type1 (thn (ha.run pos pins s σ H _ I h) fun us s1 ⟨vs, H1, I1, r1, q1⟩ => ?_) hs rfl))
  obtain ⟨a, xs, ex, q⟩ := q1
  subst ex
  cases r1 with
  | cons r rr =>
    cases rr
    cases r
    have fresh2 : ∀ b, b ∈ [s1.heap.objs.size + 1, s1.heap.objs.size] → FpOk X pins H1 b := fun b hb => by
      have e' : b = s1.heap.objs.size + 1 ∨ b = s1.heap.objs.size := by simpa using hb
      have hle : s1.heap.objs.size ≤ b := by
        rcases e' with z | z
        · rw [z]; exact Nat.le_add_right _ _
        · rw [z]; exact Nat.le_refl _
      exact I1.fpOk hle (I1.hok.fresh hle)
    rcases q with ⟨hq, q⟩ | ⟨hq, q⟩
    · obtain ⟨its, rv, p', hz⟩ := I1.list hq
      refine call_enumerate_list p'.isList fun h' he hit hsz hk => wpAny_pyIter_enum he ?_
      have I2 : Inv X pins σ H1 { s1 with heap := h' } := I1.kept (t' := s1.toks) hk
      exact ⟨s1.heap.objs.size + 1, [s1.heap.objs.size + 1, s1.heap.objs.size], _, _, H1, rfl, I2, turn_enum a (s1.heap.objs.size + 1) s1.heap.objs.size, ⟨⟨.none, he⟩, hit, Nat.succ_ne_self _⟩, fresh2, q⟩
    · obtain ⟨its, rv, p', hz⟩ := I1.tuple hq
      have la : a < s1.heap.objs.size := by obtain ⟨o, ho, _⟩ := id p'; exact Heap.lt_size ho
      refine mp_call_enumerate_tuple p' fun h' he hit hsz hk => wpAny_pyIter_enum he ?_
      have I2 : Inv X pins σ H1 { s1 with heap := h' } := I1.kept (t' := s1.toks) hk
      exact ⟨s1.heap.objs.size + 1, [s1.heap.objs.size + 1, s1.heap.objs.size], _, _, H1, rfl, I2, turn_enumT a (s1.heap.objs.size + 1) s1.heap.objs.size, ⟨⟨.none, he⟩, hit, Nat.succ_ne_self _, Nat.ne_of_lt la, Nat.ne_of_lt (Nat.lt_succ_of_lt la)⟩, fresh2, q⟩

/-! ### what a source yields is no longer than a list may be -/
def LenOk (K : PySem.W.Frag) (H : Hp) : Prop := ∀ a xs, SqL K H a xs ∨ SqT K H a xs → xs.length ≤ sizeLine
theorem PI.len {X : Cx} {tg e : Expr} {t : TI} (h : PI X tg e t) : PI X tg e (fun σ H R => t σ H fun J H1 => LenOk X.K H1 → R J H1) := by
  refine ⟨fun pins s σ H R I w => ?_⟩
  refine thn (h.run pins s σ H _ I w) fun v s1 h1 => thn h1 fun u s2 h2 => ?_
  obtain ⟨it, fp, St, J, H1, e, I1, t1, st, fr, q⟩ := h2
  refine ⟨it, fp, St, J, H1, e, I1, t1, st, fr, q fun a xs hq => ?_⟩
  rcases hq with hq | hq
  · obtain ⟨_, _, _, hz⟩ := I1.list hq; exact hz
  · obtain ⟨_, _, _, hz⟩ := I1.tuple hq; exact hz

/-! ### the sources as ItOk -/
theorem enumP_len : ∀ (l : List P) (k : Nat), (enumP k l).length = l.length
  | [], _ => rfl
  | x :: l, k => by simp [enumP, enumP_len l]
theorem enumP_get : ∀ (l : List P) (k i : Nat), (enumP k l)[i]? = (l[i]?).map fun x => .tup [.int ((k + i : Nat) : Int), x]
  | [], k, i => by simp [enumP]
  | x :: l, k, 0 => by simp [enumP]
  | x :: l, k, i + 1 => by
    simp only [enumP, List.getElem?_cons_succ]
    rw [enumP_get l (k + 1) i]
    have : k + 1 + i = k + (i + 1) := by omega
    rw [this]
theorem zipP_len : ∀ (l m : List P), (zipP l m).length = min l.length m.length
  | [], m => by simp [zipP]
  | x :: l, [] => by simp [zipP]
  | x :: l, y :: m => by simp [zipP, zipP_len l m]
theorem zipP_get : ∀ (l m : List P) (i : Nat) (x y : P), l[i]? = some x → m[i]? = some y → (zipP l m)[i]? = some (.tup [x, y])
  | [], m, i, x, y, h, _ => by simp at h
  | _ :: _, [], i, x, y, _, h => by simp at h
  | a :: l, b :: m, 0, x, y, h1, h2 => by simp at h1 h2; subst h1; subst h2; rfl
  | a :: l, b :: m, i + 1, x, y, h1, h2 => by
    simp only [zipP, List.getElem?_cons_succ]
    exact zipP_get l m i x y (by simpa using h1) (by simpa using h2)
section
variable {K : PySem.W.Frag} {mg : Str → Option Value} {F F' F'' : Addr → Prop} {φ φ' φ'' : List Addr} {C C' : CH} {H H' H'' : Hp}
/-- a new tuple is frozen -/
theorem new_tup {T : Addr} {xs : List V} {l : List P} (w : Wf K mg F φ C H) (hT : H T = none) (r : Reps K mg F H l xs) :
    ∃ F2, Stp F φ C H F2 φ C (upd H T (.tup xs)) ∧ Wf K mg F2 φ C (upd H T (.tup xs)) ∧ Rep K mg F2 (upd H T (.tup xs)) (.tup l) (.ref T) := by
  have s1 := stp_new (F := F) (φ := φ) (C := C) (o := .tup xs) hT
  have w1 := wf_new (o := .tup xs) w hT
  refine ⟨frz F T, frz_step s1 (.inl hT), frz_wf w1 upd_same (notLv_new w hT), T, xs, rfl, .inl ⟨.inr rfl, upd_same⟩, reps_frz (s1.reps w r)⟩
theorem frz_all {a : Addr} {xs ys : List V} {H : Hp} (h : H a = some (.lst xs) ∨ ∃ o, H a = some (.frz o (.lst xs))) (k : H a = some (.lst ys) ∨ ∃ o, H a = some (.frz o (.lst ys))) : ys = xs := by
  rcases h with h | ⟨o, h⟩ <;> rcases k with q | ⟨o', q⟩ <;> rw [h] at q <;> cases q <;> rfl
theorem it_enumL {l : List P} {v : V} (h : ∃ a xs, v = .ref a ∧ F a ∧ H a = some (.lst xs) ∧ Reps K mg F H l xs) (hz : l.length ≤ lim) : ∃ a xs, v = .ref a ∧ SqL K H a xs ∧ ItOk K mg F φ H (enumP 0 l) (Ite K a) := by
  obtain ⟨a, xs, e, h1, h2, h3⟩ := h
  refine ⟨a, xs, e, .inl (.inl h2), by rw [enumP_len]; exact hz, fun F' φ' C' H' s w => ⟨fun i hi => ?_, ?_⟩⟩
  · rw [enumP_len] at hi
    have hk := s.keep a _ h1 h2
    have hp : l[i]? = some l[i] := by simp [hi]
    obtain ⟨x, hx, hr⟩ := Reps.get (Reps.mono s.grow s.keep _ _ h3) hp
    refine ⟨⟨xs, x, .inl (.inl hk), hx⟩, fun y H2 ⟨T, x', e1, e2, e3, e4⟩ => ?_⟩
    have := e4 xs (.inl (.inl hk))
    rw [hx] at this
    cases this
    subst e3
    subst e1
    obtain ⟨F2, s2, w2, r2⟩ := new_tup (l := [.int ((i : Nat) : Int), l[i]]) w e2 (Reps.cons rfl (Reps.cons hr Reps.nil))
    refine ⟨F2, .tup [.int ((i : Nat) : Int), l[i]], ?_, s2, w2, r2⟩
    rw [enumP_get, hp]
    simp
  · exact ⟨xs, .inl (.inl (s.keep a _ h1 h2)), by rw [enumP_len, h3.length]; exact Nat.le_refl _⟩
theorem it_enumT {l : List P} {v : V} (h : Rep K mg F H (.tup l) v) (hz : l.length ≤ lim) : ∃ a xs, v = .ref a ∧ SqT K H a xs ∧ ItOk K mg F φ H (enumP 0 l) (IteT K a) := by
  obtain ⟨a, xs, e, h1, h3⟩ := h
  refine ⟨a, xs, e, h1.sq, by rw [enumP_len]; exact hz, fun F' φ' C' H' s w => ?_⟩
  have hk : TupAt K F' H' a xs := h1.mono s.grow s.keep
  refine ⟨fun i hi => ?_, xs, hk.sq, by rw [enumP_len, h3.length]⟩
  rw [enumP_len] at hi
  have hp : l[i]? = some l[i] := by simp [hi]
  obtain ⟨x, hx, hr⟩ := Reps.get (Reps.mono s.grow s.keep _ _ h3) hp
  refine ⟨⟨xs, x, hk.sq, hx⟩, fun y H2 ⟨T, x', e1, e2, e3, e4⟩ => ?_⟩
  have := e4 xs hk.sq
  rw [hx] at this
  cases this
  subst e3
  subst e1
  obtain ⟨F2, s2, w2, r2⟩ := new_tup (l := [.int ((i : Nat) : Int), l[i]]) w e2 (Reps.cons rfl (Reps.cons hr Reps.nil))
  refine ⟨F2, .tup [.int ((i : Nat) : Int), l[i]], ?_, s2, w2, r2⟩
  rw [enumP_get, hp]
  simp
theorem it_zipL {l m : List P} {v u : V} (h : ∃ a xs, v = .ref a ∧ F a ∧ H a = some (.lst xs) ∧ Reps K mg F H l xs) (h' : ∃ a xs, u = .ref a ∧ F a ∧ H a = some (.lst xs) ∧ Reps K mg F H m xs) (hz : l.length ≤ lim) :
    ∃ a b xs ys, v = .ref a ∧ u = .ref b ∧ SqL K H a xs ∧ SqL K H b ys ∧ ItOk K mg F φ H (zipP l m) (Itz K a b) := by
  obtain ⟨a, xs, e, h1, h2, h3⟩ := h
  obtain ⟨b, ys, e', h1', h2', h3'⟩ := h'
  refine ⟨a, b, xs, ys, e, e', .inl (.inl h2), .inl (.inl h2'), by rw [zipP_len]; omega, fun F' φ' C' H' s w => ⟨fun i hi => ?_, ?_⟩⟩
  · rw [zipP_len] at hi
    have hk := s.keep a _ h1 h2
    have hk' := s.keep b _ h1' h2'
    have i1 : i < l.length := by omega
    have i2 : i < m.length := by omega
    have hp : l[i]? = some l[i] := by simp [i1]
    have hp' : m[i]? = some m[i] := by simp [i2]
    obtain ⟨x, hx, hr⟩ := Reps.get (Reps.mono s.grow s.keep _ _ h3) hp
    obtain ⟨y, hy, hr'⟩ := Reps.get (Reps.mono s.grow s.keep _ _ h3') hp'
    refine ⟨⟨xs, ys, x, y, .inl (.inl hk), .inl (.inl hk'), hx, hy⟩, fun z H2 ⟨T, x', y', e1, e2, e3, e4, e5⟩ => ?_⟩
    have q1 := e4 xs (.inl (.inl hk))
    have q2 := e5 ys (.inl (.inl hk'))
    rw [hx] at q1
    rw [hy] at q2
    cases q1
    cases q2
    subst e3
    subst e1
    obtain ⟨F2, s2, w2, r2⟩ := new_tup (l := [l[i], m[i]]) w e2 (Reps.cons hr (Reps.cons hr' Reps.nil))
    exact ⟨F2, .tup [l[i], m[i]], zipP_get l m i _ _ hp hp', s2, w2, r2⟩
  · refine ⟨xs, ys, .inl (.inl (s.keep a _ h1 h2)), .inl (.inl (s.keep b _ h1' h2')), ?_⟩
    rw [zipP_len]
    have := h3.length
    have := h3'.length
    omega
theorem it_zipT {l m : List P} {v u : V} (h : Rep K mg F H (.tup l) v) (h' : Rep K mg F H (.tup m) u) (hz : l.length ≤ lim) :
    ∃ a b xs ys, v = .ref a ∧ u = .ref b ∧ SqT K H a xs ∧ SqT K H b ys ∧ ItOk K mg F φ H (zipP l m) (RZ.ItzT K a b) := by
  obtain ⟨a, xs, e, h1, h3⟩ := h
  obtain ⟨b, ys, e', h1', h3'⟩ := h'
  refine ⟨a, b, xs, ys, e, e', h1.sq, h1'.sq, by rw [zipP_len]; omega, fun F' φ' C' H' s w => ⟨fun i hi => ?_, ?_⟩⟩
  · rw [zipP_len] at hi
    have hk : TupAt K F' H' a xs := h1.mono s.grow s.keep
    have hk' : TupAt K F' H' b ys := h1'.mono s.grow s.keep
    have i1 : i < l.length := by omega
    have i2 : i < m.length := by omega
    have hp : l[i]? = some l[i] := by simp [i1]
    have hp' : m[i]? = some m[i] := by simp [i2]
    obtain ⟨x, hx, hr⟩ := Reps.get (Reps.mono s.grow s.keep _ _ h3) hp
    obtain ⟨y, hy, hr'⟩ := Reps.get (Reps.mono s.grow s.keep _ _ h3') hp'
    refine ⟨⟨xs, ys, x, y, hk.sq, hk'.sq, hx, hy⟩, fun z H2 ⟨T, x', y', e1, e2, e3, e4, e5⟩ => ?_⟩
    have q1 := e4 xs hk.sq
    have q2 := e5 ys hk'.sq
    rw [hx] at q1
    rw [hy] at q2
    cases q1
    cases q2
    subst e3
    subst e1
    obtain ⟨F2, s2, w2, r2⟩ := new_tup (l := [l[i], m[i]]) w e2 (Reps.cons hr (Reps.cons hr' Reps.nil))
    exact ⟨F2, .tup [l[i], m[i]], zipP_get l m i _ _ hp hp', s2, w2, r2⟩
  · refine ⟨xs, ys, (h1.mono s.grow s.keep : TupAt K F' H' a xs).sq, (h1'.mono s.grow s.keep : TupAt K F' H' b ys).sq, ?_⟩
    rw [zipP_len]
    have := h3.length
    have := h3'.length
    omega
theorem it_revL {l : List P} {a : Addr} {xs : List V} (h1 : F a) (h2 : H a = some (.lst xs)) (h3 : Reps K mg F H l xs) (hz : l.length ≤ lim) : ItOk K mg F φ H l.reverse (Itv K a xs.length) := by
  refine ⟨by rw [List.length_reverse]; exact hz, fun F' φ' C' H' s w => ⟨fun i hi => ?_, ?_⟩⟩
  · rw [List.length_reverse] at hi
    have hk := s.keep a _ h1 h2
    have hl := h3.length
    have hj : l.length - 1 - i < l.length := by omega
    have hp : l[l.length - 1 - i]? = some l[l.length - 1 - i] := by simp [hj]
    obtain ⟨x, hx, hr⟩ := Reps.get (Reps.mono s.grow s.keep _ _ h3) hp
    rw [hl] at hx
    refine ⟨⟨by omega, xs, x, .inl (.inl hk), hx⟩, fun y H2 ⟨e2, hy⟩ => ?_⟩
    subst e2
    have := hy xs (.inl (.inl hk))
    rw [hx] at this
    cases this
    exact ⟨F', _, by rw [List.getElem?_reverse hi, hp], Stp.refl, w, hr⟩
  · show xs.length ≤ _
    rw [List.length_reverse, h3.length]
    exact Nat.le_refl _
theorem it_revT {l : List P} {a : Addr} {xs : List V} (h1 : TupAt K F H a xs) (h3 : Reps K mg F H l xs) (hz : l.length ≤ lim) : ItOk K mg F φ H l.reverse (RT.ItvT K a xs.length) := by
  refine ⟨by rw [List.length_reverse]; exact hz, fun F' φ' C' H' s w => ⟨fun i hi => ?_, ?_⟩⟩
  · rw [List.length_reverse] at hi
    have hk : TupAt K F' H' a xs := h1.mono s.grow s.keep
    have hl := h3.length
    have hj : l.length - 1 - i < l.length := by omega
    have hp : l[l.length - 1 - i]? = some l[l.length - 1 - i] := by simp [hj]
    obtain ⟨x, hx, hr⟩ := Reps.get (Reps.mono s.grow s.keep _ _ h3) hp
    rw [hl] at hx
    refine ⟨⟨by omega, xs, x, hk.sq, hx⟩, fun y H2 ⟨e2, hy⟩ => ?_⟩
    subst e2
    have := hy xs hk.sq
    rw [hx] at this
    cases this
    exact ⟨F', _, by rw [List.getElem?_reverse hi, hp], Stp.refl, w, hr⟩
  · show xs.length ≤ _
    rw [List.length_reverse, h3.length]
    exact Nat.le_refl _
end
section
variable {X : Cx} {W : L2.WX} {cb : Cb}
theorem lenOk_lim {K H a} {xs : List V} {l : List P} (h : LenOk K H) (hq : SqL K H a xs ∨ SqT K H a xs) (hl : l.length = xs.length) : l.length ≤ lim := by
  rw [hl, ← lim_eq]
  exact h a xs hq
theorem src_enum {e : Expr} {a : E} {elts : List Expr} {kk : Nat} {p pos tpos : Pos} (T : TxOk X cb) (hg : Gl X "enumerate") (h : SimAs X W cb [e] [a]) (hs : starEach [e] X.env = [(false, eval e X.env)]) : PI X (.Tuple elts kk tpos) (.Call (.Name "enumerate" p) [e] [] pos) (tIt X W cb .enum [a]) :=
  PI.imp (PI.len (pi_enumA hg (T.blt "enumerate" (by decide)) h hs)) fun σ H R hh => it_opds hh fun xs ps vs C' H' F' φ' w r e q => by
    simp only [itemsP] at e
    split at e
    · rename_i l
      cases e
      obtain ⟨v, rfl, b, ys, rfl, ⟨h2, h3⟩, h4⟩ := reps_one r
      refine ⟨b, ys, rfl, .inl ⟨.inl (.inl h3), fun hz => q _ ?_⟩⟩
      obtain ⟨b', ys', e', _, h6⟩ := it_enumL (φ := φ') (K := X.K) (mg := X.mg) (v := .ref b) ⟨b, ys, rfl, h2, h3, h4⟩ (lenOk_lim hz (.inl (.inl (.inl h3))) h4.length)
      cases e'
      exact h6
    · rename_i l
      cases e
      obtain ⟨v, rfl, hr⟩ := reps_one r
      obtain ⟨b, ys, e1, h1, h4⟩ := id hr
      subst e1
      refine ⟨b, ys, rfl, .inr ⟨h1.sq, fun hz => q _ ?_⟩⟩
      obtain ⟨b', ys', e', _, h6⟩ := it_enumT (φ := φ') hr (lenOk_lim hz (.inr h1.sq) h4.length)
      cases e'
      exact h6
    · cases e
theorem src_zip {e f : Expr} {a b : E} {elts : List Expr} {kk : Nat} {p pos tpos : Pos} (T : TxOk X cb) (hg : Gl X "zip") (h : SimAs X W cb [e, f] [a, b]) (hs : starEach [e, f] X.env = (false, eval e X.env) :: starEach [f] X.env) (hpl : (backTo pos (starEach [f] X.env)).any (·.1) = false) :
    PI X (.Tuple elts kk tpos) (.Call (.Name "zip" p) [e, f] [] pos) (tIt X W cb .zip [a, b]) :=
  PI.imp (PI.len (RZ.pi_zipA hg (T.blt "zip" (by decide)) h hs hpl)) fun σ H R hh => it_opds hh fun xs ps vs C' H' F' φ' w r e q => by
    simp only [itemsP] at e
    split at e
    · rename_i l m
      cases e
      obtain ⟨v, u, rfl, ⟨b, ys, rfl, ⟨h2, h3⟩, h4⟩, ⟨b2, ys2, rfl, ⟨h2', h3'⟩, h4'⟩⟩ := reps_two r
      refine ⟨b, b2, ys, ys2, rfl, .inl ⟨.inl (.inl h3), .inl (.inl h3'), fun hz => q _ ?_⟩⟩
      obtain ⟨_, _, _, _, e', e2, _, _, h6⟩ := it_zipL (φ := φ') (K := X.K) (mg := X.mg) (v := .ref b) (u := .ref b2) ⟨b, ys, rfl, h2, h3, h4⟩ ⟨b2, ys2, rfl, h2', h3', h4'⟩ (lenOk_lim hz (.inl (.inl (.inl h3))) h4.length)
      cases e'; cases e2
      exact h6
    · rename_i l m
      cases e
      obtain ⟨v, u, rfl, hr, hr'⟩ := reps_two r
      obtain ⟨b, ys, e1, h1, h4⟩ := id hr
      obtain ⟨b2, ys2, e1', h1', h4'⟩ := id hr'
      subst e1
      subst e1'
      refine ⟨b, b2, ys, ys2, rfl, .inr ⟨h1.sq, h1'.sq, fun hz => q _ ?_⟩⟩
      obtain ⟨_, _, _, _, e', e2, _, _, h6⟩ := it_zipT (φ := φ') hr hr' (lenOk_lim hz (.inr h1.sq) h4.length)
      cases e'; cases e2
      exact h6
    · cases e
theorem src_rev {tg e : Expr} {a : E} {p pos : Pos} (T : TxOk X cb) (hg : Gl X "reversed") (h : SimE X W cb e a) (hs : starEach [e] X.env = (false, eval e X.env) :: starEach [] X.env) : PI X tg (.Call (.Name "reversed" p) [e] [] pos) (tIt X W cb .rev [a]) :=
  PI.imp (PI.len (RT.pi_revA hg (T.blt "reversed" (by decide)) h hs)) fun σ H R hh => tAs_one (it_opds hh fun xs ps vs C' H' F' φ' w r e q v ev => by
    subst ev
    simp only [itemsP] at e
    split at e
    · rename_i l
      cases e
      obtain ⟨v', e1, b, ys, rfl, ⟨h2, h3⟩, h4⟩ := reps_one r
      cases e1
      refine ⟨b, ys, rfl, .inl ⟨.inl (.inl h3), fun hz => q _ ?_⟩⟩
      exact it_revL h2 h3 h4 (lenOk_lim hz (.inl (.inl (.inl h3))) h4.length)
    · rename_i l
      cases e
      obtain ⟨v', e1, b, ys, rfl, h1, h4⟩ := reps_one r
      cases e1
      exact ⟨b, ys, rfl, .inr ⟨h1.sq, fun hz => q _ (it_revT h1 h4 (lenOk_lim hz (.inr h1.sq) h4.length))⟩⟩
    · cases e)
theorem tAs_two {e f : E} {σ : L2.St} {H : Hp} {Q : V → V → Hp → Prop} (h : tAs X W cb [e, f] σ H fun vs H1 => ∀ v u, vs = [v, u] → Q v u H1) : tE X W cb e σ H fun v H1 => tE X W cb f σ H1 fun u H2 => Q v u H2 := by
  obtain ⟨n0, F, φ, C, σd, z, h⟩ := h
  refine ⟨n0, F, φ, C, σd, z, ?_⟩
  have e1 : evalAs cb [e, f] σd C = (evalE cb e σd C).bnd fun x C => (evalE cb f σd C).bnd fun y C => .ok [opA x, opA y] C := by
    unfold evalAs
    congr 1
    funext x C
    unfold evalAs
    cases evalE cb f σd C with
    | ok r C' => rfl
    | ex _ _ => rfl
    | no => rfl
  rw [e1] at h
  cases q : evalE cb e σd C with
  | no => rw [q] at h; exact h
  | ex e' C' => rw [q] at h; exact h
  | ok r C' =>
    rw [q] at h
    intro v H' F' φ' s w r'
    obtain ⟨F1, s1, w1, r1⟩ := settle s w r'
    have z1 := z.step s1 w1
    refine ⟨n0, F1, φ', C', σd, z1, ?_⟩
    have h2 := Post.rebase (R' := fun F φ C H => Paired (RepA X.K X.mg F φ C H)) s1 h fun _ _ _ _ _ _ h => h
    rw [Rs.bnd_ok] at h2
    cases q2 : evalE cb f σd C' with
    | no => rw [q2] at h2; exact h2
    | ex e' C' => rw [q2] at h2; exact h2
    | ok r2 C2 =>
      rw [q2] at h2
      intro u H2 F2 φ2 s2 w2 r2'
      obtain ⟨F3, s3, w3, r3⟩ := settle s2 w2 r2'
      exact h2 [v, u] H2 F3 φ2 s3 w3 (.cons (r1.step w1 s3) (.cons r3 .nil)) v u rfl
theorem src_rrng1 {tg e : Expr} {a : E} {p pos p2 pos2 : Pos} (T : TxOk X cb) (hg : Gl X "range") (hg2 : Gl X "reversed") (h : SimE X W cb e a) (hs : starEach [e] X.env = (false, eval e X.env) :: starEach [] X.env) :
    PI X tg (.Call (.Name "reversed" p2) [.Call (.Name "range" p) [e] [] pos] [] pos2) (tIt X W cb .rrng1 [a]) :=
  PI.imp (pi_revR hg2 (T.blt "reversed" (by decide)) (prg_1 hg (T.blt "range" (by decide)) h hs)) fun σ H R hh => tAs_one (it_opds hh fun xs ps vs C' H' F' φ' w r e q v ev => by
    subst ev
    simp only [itemsP] at e
    split at e
    · split at e
      · rename_i hk
        cases e
        obtain ⟨v', e1, h1⟩ := reps_one r
        cases e1
        have hk' := rngOk_c hk
        exact ⟨_, h1, hk'.1, hk'.2.1, hk'.2.2.1, hk'.2.2.2.1, q _ (it_rrng hk)⟩
      · cases e
    · cases e)
theorem src_rrng2 {tg e f : Expr} {a b : E} {p pos p2 pos2 : Pos} (T : TxOk X cb) (hg : Gl X "range") (hg2 : Gl X "reversed") (h : SimE X W cb e a) (h' : SimE X W cb f b) (hs : starEach [e, f] X.env = (false, eval e X.env) :: starEach [f] X.env) (hs2 : starEach [f] X.env = (false, eval f X.env) :: starEach [] X.env) (hpl : (backTo pos (starEach [f] X.env)).any (·.1) = false) :
    PI X tg (.Call (.Name "reversed" p2) [.Call (.Name "range" p) [e, f] [] pos] [] pos2) (tIt X W cb .rrng2 [a, b]) :=
  PI.imp (pi_revR hg2 (T.blt "reversed" (by decide)) (prg_2 hg (T.blt "range" (by decide)) h h' hs hs2 hpl)) fun σ H R hh => by
    have := tAs_two (Q := fun v u H1 => ∃ i j, v = .int i ∧ u = .int j ∧ (-(2 ^ 62) ≤ i ∧ i < 2 ^ 62 ∧ -(2 ^ 62) ≤ j ∧ j < 2 ^ 62 ∧ R (Itc (i + (((j - i).toNat : Nat) : Int) - 1) (-1) (j - i).toNat) H1)) (it_opds hh fun xs ps vs C' H' F' φ' w r e q v u ev => by
      subst ev
      simp only [itemsP] at e
      split at e
      · split at e
        · rename_i hk
          cases e
          obtain ⟨v', u', e1, h1, h2⟩ := reps_two r
          cases e1
          have hk' := rngOk_c hk
          exact ⟨_, _, h1, h2, hk'.1, hk'.2.1, hk'.2.2.1, hk'.2.2.2.1, q _ (it_rrng hk)⟩
        · cases e
      · cases e)
    exact this

/-! ### list(range(..)), x[::-1] -/
theorem rg_rep {K mg F H} (a b : Int) : Reps K mg F H (rngP a b) (rgV a b) := by
  unfold rngP rgV
  generalize List.range (b - a).toNat = l
  induction l with
  | nil => exact Reps.nil
  | cons i l ih => exact Reps.cons rfl ih
theorem bi_ex {f : Bi} {as : List E} {σ : L2.St} {H : Hp} {Q : VK} {Q1 : List V → Hp → Prop} (h : tE X W cb (.bi f as) σ H Q)
    (hk : ∀ xs vs rv n0 C' H' F' φ', Wf X.K X.mg F' φ' C' H' → (∀ a, H a ≠ none → H' a ≠ none) → Paired (RepV X.K X.mg F' H') xs vs → biP f xs = some rv → Post X.K X.mg F' φ' C' H' (RepR X.K X.mg n0 H) (fun cls d H' => W cls d σ H') Q (.ok rv C') → Q1 vs H') : tAs X W cb as σ H Q1 := by
  obtain ⟨n0, F, φ, C, σd, z, h⟩ := h
  unfold evalE at h
  refine opds z h fun ra C1 vs H1 F1 φ1 s1 z1 r1 q1 => ?_
  cases e : allA C1 ra with
  | none => rw [e] at q1; exact q1.elim
  | some xs =>
    rw [e, opt_some, Rs.bnd_ok] at q1
    cases e2 : biP f xs with
    | none => rw [e2] at q1; exact q1.elim
    | some rv =>
      rw [e2] at q1
      exact hk xs vs rv n0.H C1 H1 F1 φ1 z1.wf s1.dom (allA_rep z1.wf r1 e) e2 q1
theorem rgOk_of {a b : Int} (h : rngOk a b = true) : RgOk a b := by
  have := rngOk_c h
  exact ⟨this.1, this.2.1, this.2.2.1, this.2.2.2.1, this.2.2.2.2⟩
theorem sim_lrange1 {e : Expr} {a : E} {p pos p2 pos2 : Pos} (hc : X.calm = true) (T : TxOk X cb) (hg : Gl X "range") (hg2 : Gl X "list") (h : SimE X W cb e a) (hs : starEach [e] X.env = (false, eval e X.env) :: starEach [] X.env) :
    SimE X W cb (.Call (.Name "list" p2) [.Call (.Name "range" p) [e] [] pos] [] pos2) (.bi .lrange1 [a]) :=
  PE.imp (pe_listRg hc hg2 (T.blt "list" (by decide)) (prg_1 hg (T.blt "range" (by decide)) h hs) (star_cons rfl)) fun σ H Q hh => tAs_one (bi_ex hh fun xs vs rv n0 C' H' F' φ' w hd r e q v ev => by
    subst ev
    simp only [biP] at e
    split at e
    · split at e
      · rename_i hk
        cases e
        obtain ⟨v', e1, hv⟩ := one_arg' r rfl
        cases e1
        exact ⟨_, hv, rgOk_of hk, post_fr w hd q (rg_rep _ _)⟩
      · cases e
    · cases e)
theorem sim_lrange2 {e f : Expr} {a b : E} {p pos p2 pos2 : Pos} (hc : X.calm = true) (T : TxOk X cb) (hg : Gl X "range") (hg2 : Gl X "list") (h : SimE X W cb e a) (h' : SimE X W cb f b) (hs : starEach [e, f] X.env = (false, eval e X.env) :: starEach [f] X.env) (hs2 : starEach [f] X.env = (false, eval f X.env) :: starEach [] X.env) (hpl : (backTo pos (starEach [f] X.env)).any (·.1) = false) :
    SimE X W cb (.Call (.Name "list" p2) [.Call (.Name "range" p) [e, f] [] pos] [] pos2) (.bi .lrange2 [a, b]) :=
  PE.imp (pe_listRg hc hg2 (T.blt "list" (by decide)) (prg_2 hg (T.blt "range" (by decide)) h h' hs hs2 hpl) (star_cons rfl)) fun σ H Q hh => by
    have := tAs_two (Q := fun v u H1 => ∃ i j, v = .int i ∧ u = .int j ∧ RgOk i j ∧ ∀ q, H1 q = none → Q (.ref q) (upd H1 q (.lst (rgV i j)))) (bi_ex hh fun xs vs rv n0 C' H' F' φ' w hd r e q v u ev => by
      subst ev
      simp only [biP] at e
      split at e
      · split at e
        · rename_i hk
          cases e
          obtain ⟨v', u', e1, hv, hu⟩ := two_args' r rfl
          cases e1
          exact ⟨_, _, hv, hu, rgOk_of hk, post_fr w hd q (rg_rep _ _)⟩
        · cases e
      · cases e)
    exact this
theorem sim_rev {e : Expr} {a : E} {k : Nat} {p1 p2 p3 pos : Pos} (h : SimE X W cb e a) : SimE X W cb (.Subscript e (.Slice none none (some (.UnaryOp .USub (.Constant (.int 1) k p1) p2)) p3) pos) (.rev a) :=
  PE.imp (pe_revL h) fun σ H Q hh => by
    obtain ⟨n0, F, φ, C, σd, z, hh⟩ := hh
    unfold evalE at hh
    refine opd z hh fun ra C1 v H1 F1 φ1 s1 z1 r1 _ q1 => ?_
    cases e1 : view C1 (opA ra) with
    | none => rw [e1] at q1; exact q1.elim
    | some x =>
      rw [e1, opt_some, Rs.bnd_ok] at q1
      have rx := view_ok z1.wf r1 e1
      cases x with
      | lst l =>
        obtain ⟨b, xs, rfl, h1, h2⟩ := rx
        exact ⟨b, xs, rfl, .inl (.inl h1), post_fr z1.wf s1.dom q1 h2.rev⟩
      | ro l =>
        obtain ⟨b, xs, rfl, h1, h2⟩ := rx
        exact ⟨b, xs, rfl, h1.sq, post_fr z1.wf s1.dom q1 h2.rev⟩
      | _ => exact q1.elim
end
end MP
/-! MP14: isinstance. -/
namespace MP
open PySem PySem.Spec PyProof.Rows L2
def tyNames : List String := ["int", "bool", "str", "list", "tuple"]
theorem tyNames_boot : ∀ t ∈ tyNames, bootBuiltins (Str.ofString t) = some (.type t) ∧ Str.ofString t ≠ "__name__" ∧ (Str.ofString t == ("__debug__" : Str)) = false ∧ t ∈ bltNames := by
  intro t ht
  simp only [tyNames, List.mem_cons, List.not_mem_nil, or_false] at ht
  rcases ht with rfl | rfl | rfl | rfl | rfl
  · exact ⟨boot_int, by decide, by decide, by decide⟩
  · exact ⟨boot_bool, by decide, by decide, by decide⟩
  · exact ⟨boot_str, by decide, by decide, by decide⟩
  · exact ⟨boot_list, by decide, by decide, by decide⟩
  · exact ⟨boot_tuple, by decide, by decide, by decide⟩
/-- the name of a class, as a value -/
def NameT (X : Cx) (t : String) (e : Expr) : Prop := ∃ v u, PE X e (tC v) ∧ ClsV v u ∧ TyN X.mg t u
section
variable {X : Cx} {W : L2.WX} {cb : Cb}
theorem nameT_blt {t : String} {p : Pos} (T : TxOk X cb) (ht : t ∈ tyNames) (hg : Gl X (Str.ofString t)) : NameT X t (.Name (Str.ofString t) p) := by
  obtain ⟨h1, h2, h3, h4⟩ := tyNames_boot t ht
  exact ⟨.ty t, .type t, pe_bltn hg (T.blt t h4) h1 rfl h2 h3, .ty t, .inl ⟨T.blt t h4, rfl⟩⟩
theorem nameT_own {t : String} {C : Addr} {p : Pos} (hg : Gl X (Str.ofString t)) (hm : X.mg (Str.ofString t) = some (.ref C)) (hd : (Str.ofString t == ("__debug__" : Str)) = false) : NameT X t (.Name (Str.ofString t) p) :=
  ⟨.ref C, .ref C, pe_glob hg hm rfl hd, .own C, .inr ⟨C, hm, rfl⟩⟩
theorem ty_of {F : Addr → Prop} {φ : List Addr} {C : CH} {H : Hp} {x : P} {v : V} {b : String} {r : Bool} (T : TxOk X cb) (w : Wf X.K X.mg F φ C H) (h : RepV X.K X.mg F H x v) (e : cb.isi (tyName x) b = some r) (hq : ∀ l, x ≠ .ro l) : ∃ tv, TyX X.K H v tv ∧ TyN X.mg (tyName x) tv := by
  cases x with
  | non => cases h; exact ⟨_, .base .non, .inl ⟨T.blt "NoneType" (by decide), rfl⟩⟩
  | bl y => cases h; exact ⟨_, .base (.bl y), .inl ⟨T.blt "bool" (by decide), rfl⟩⟩
  | int i => cases h; exact ⟨_, .base (.int i), .inl ⟨T.blt "int" (by decide), rfl⟩⟩
  | str s => cases h; exact ⟨_, .base (.str s), .inl ⟨T.blt "str" (by decide), rfl⟩⟩
  | tup l =>
    obtain ⟨a, xs, rfl, h1, _⟩ := h.tup
    rcases h1 with ⟨_, h1⟩ | ⟨o, its, n, h1, h2, _⟩
    · exact ⟨_, .base (.tup h1), .inl ⟨T.blt "tuple" (by decide), rfl⟩⟩
    · exact ⟨_, .kTuple h1 h2, .inl ⟨T.blt "tuple" (by decide), rfl⟩⟩
  | lst l =>
    obtain ⟨a, xs, rfl, h1, _⟩ := h.lst
    exact ⟨_, .base (.lst h1), .inl ⟨T.blt "list" (by decide), rfl⟩⟩
  | obj c ns vs =>
    obtain ⟨a, Ca, dx, fs, rfl, _, h1, h2, _⟩ := h
    obtain ⟨g1, g2, g3, g4, g5⟩ := T.ins c b r e Ca h2
    exact ⟨_, .base (.ins h1 g1 g2 g3 g4 g5), .inr ⟨Ca, h2, rfl⟩⟩
  | ro l => exact absurd rfl (hq l)
theorem tyx_mono {K : PySem.W.Frag} {H H2 : Hp} (hk : ∀ a o, H a = some o → H2 a = some o) {v : V} {t : Value} (h : TyX K H v t) : TyX K H2 v t := by
  cases h with
  | base h =>
    refine .base ?_
    cases h with
    | non => exact .non
    | bl x => exact .bl x
    | int i => exact .int i
    | str x => exact .str x
    | flt x => exact .flt x
    | lst e => exact .lst (hk _ _ e)
    | frz e => exact .frz (hk _ _ e)
    | tup e => exact .tup (hk _ _ e)
    | dK e => exact .dK (hk _ _ e)
    | dT e => exact .dT (hk _ _ e)
    | ins e cl ha hn htk hm => exact .ins (hk _ _ e) cl ha hn htk hm
  | byt b => exact .byt b
  | set e => exact .set (hk _ _ e)
  | kList e c => exact .kList e c
  | kTuple e c => exact .kTuple e c
  | kDict e c => exact .kDict e c
  | fTuple e => exact .fTuple (hk _ _ e)
  | fDict e => exact .fDict (hk _ _ e)
theorem isi_ex {a : E} {ts : List String} {σ : L2.St} {H : Hp} {Q : VK} {Q1 : V → Hp → Prop} (h : tE X W cb (.isi a ts) σ H Q)
    (hk : ∀ x v b C' H' F' φ', Wf X.K X.mg F' φ' C' H' → RepV X.K X.mg F' H' x v → isis cb x ts = some b → (∀ H2, (∀ a o, H' a = some o → H2 a = some o) → (∀ a, H' a ≠ none → H2 a ≠ none) → Q (.bl b) H2) → Q1 v H') : tE X W cb a σ H Q1 := by
  obtain ⟨n0, F, φ, C, σd, z, h⟩ := h
  unfold evalE at h
  refine opd z h fun ra C1 v H1 F1 φ1 s1 z1 r1 _ q1 => ?_
  cases e : view C1 (opA ra) with
  | none => rw [e] at q1; exact q1.elim
  | some x =>
    rw [e, opt_some, Rs.bnd_ok] at q1
    cases e2 : isis cb x ts with
    | none => rw [e2] at q1; exact q1.elim
    | some b =>
      rw [e2, opt_some, Rs.bnd_ok] at q1
      have rx := view_ok z1.wf r1 e
      refine hk x v b C1 H1 F1 φ1 z1.wf rx e2 fun H2 g1 g2 => ?_
      have s2 : Stp F1 φ1 C1 H1 F1 φ1 C1 H2 := ⟨fun _ h => h, fun _ h => .inl h, fun _ _ h => h, fun _ h => .inl h, fun a o h _ => g1 a o h, g2⟩
      have w2 : Wf X.K X.mg F1 φ1 C1 H2 := ⟨fun a h => g2 a (z1.wf.dom a h), z1.wf.len, fun n a cl h1 h2 => let ⟨q1, q2⟩ := z1.wf.live n a cl h1 h2; ⟨q1, q2.mono (fun _ z => z) (fun b o _ z => g1 b o z) fun o z => g1 _ o z⟩, z1.wf.inj⟩
      exact q1 (.bl b) H2 F1 φ1 s2 w2 rfl
theorem kit_eq {x : P} {tv : Value} (T : TxOk X cb) (ht : TyN X.mg (tyName x) tv) : ∀ {ts : List String} {us : List Value} {b : Bool}, Paired (TyN X.mg) ts us → isis cb x ts = some b → PySem.W.kitAny X.K tv us = some b
  | _, _, _, .nil, e => by cases e; rfl
  | t :: ts, u :: us, b, .cons h k, e => by
    have e' : (match cb.isi (tyName x) t, isis cb x ts with
      | some a, some b => some (a || b)
      | _, _ => none) = some b := e
    split at e'
    · rename_i a b' e1 e2
      cases e'
      have h1 := T.isi _ _ _ e1 tv u ht h
      unfold PySem.W.kitAny
      rw [h1]
      cases a with
      | true => rfl
      | false => rw [Bool.false_or]; exact kit_eq T ht k e2
    · cases e'
theorem ro_no {x : P} {ts : List String} {b : Bool} (T : ∀ t r, cb.isi "?" t ≠ some r) (hn : ts ≠ []) (e : isis cb x ts = some b) : ∀ l, x ≠ .ro l := fun l e' => by
  subst e'
  cases ts with
  | nil => exact hn rfl
  | cons t ts =>
    have e' : (match cb.isi "?" t, isis cb (.ro l) ts with
      | some a, some b => some (a || b)
      | _, _ => none) = some b := e
    split at e'
    · rename_i a b' e1 e2; exact T _ _ e1
    · cases e'
theorem isi_first {x : P} {t : String} {ts : List String} {b : Bool} (e : isis cb x (t :: ts) = some b) : ∃ r, cb.isi (tyName x) t = some r := by
  have e' : (match cb.isi (tyName x) t, isis cb x ts with
    | some a, some b => some (a || b)
    | _, _ => none) = some b := e
  split at e'
  · rename_i a b' e1 e2; exact ⟨a, e1⟩
  · cases e'
theorem sim_isi1 {e k : Expr} {a : E} {t : String} {p pos : Pos} (T : TxOk X cb) (hro : ∀ t r, cb.isi "?" t ≠ some r) (hg : Gl X "isinstance") (h : SimE X W cb e a) (hk : NameT X t k) (hs : starEach [e, k] X.env = (false, eval e X.env) :: starEach [k] X.env) (hs2 : starEach [k] X.env = (false, eval k X.env) :: starEach [] X.env) (hpl : (backTo pos (starEach [k] X.env)).any (·.1) = false) :
    SimE X W cb (.Call (.Name "isinstance" p) [e, k] [] pos) (.isi a [t]) := by
  obtain ⟨v0, u0, hp, hv, hu⟩ := hk
  refine PE.imp (pe_callB call_isi hg (T.blt "isinstance" (by decide)) boot_isinstance (pa_cons h (pa_cons hp pa_nil hs2) hs) (by decide) (by decide) hs hpl) fun σ H Q hh => ?_
  refine isi_ex hh fun x v b C' H' F' φ' w r e q => ?_
  obtain ⟨r1, er⟩ := isi_first e
  obtain ⟨tv, h1, h2⟩ := ty_of T w r er (ro_no hro (by simp) e)
  refine ⟨v, v0, tv, u0, b, rfl, hv, h1, ?_, q H' (fun _ _ h => h) fun _ h => h⟩
  have := kit_eq (x := x) T h2 (.cons hu .nil) e
  unfold PySem.W.kitAny at this
  split at this
  · rename_i hq; rw [hq]; exact this
  · rename_i hq; rw [hq]; exact this
  · cases this
theorem sim_isiT {e : Expr} {ks : List Expr} {a : E} {ts : List String} {kk : Nat} {p pos pos2 : Pos} (T : TxOk X cb) (hro : ∀ t r, cb.isi "?" t ≠ some r) (hn : ts ≠ []) (hl : ks.length ≤ 100) (hg : Gl X "isinstance") (h : SimE X W cb e a) (hk : Paired (NameT X) ts ks) (hst : ks.all noStar = true) (hs : starEach [e, .Tuple ks kk pos2] X.env = (false, eval e X.env) :: starEach [.Tuple ks kk pos2] X.env) :
    SimE X W cb (.Call (.Name "isinstance" p) [e, .Tuple ks kk pos2] [] pos) (.isi a ts) := by
  have key : ∀ {ts : List String} {ks : List Expr}, Paired (NameT X) ts ks → ks.all noStar = true → ∃ vs us, PA X ks (fun σ H Q => Q vs H) ∧ Paired ClsV vs us ∧ Paired (TyN X.mg) ts us ∧ vs.length = ks.length := by
    intro ts ks hk hst
    induction hk with
    | nil => exact ⟨[], [], pa_nil, .nil, .nil, rfl⟩
    | cons h t ih =>
      simp only [List.all_cons, Bool.and_eq_true] at hst
      obtain ⟨vs, us, h1, h2, h3, h4⟩ := ih hst.2
      obtain ⟨v0, u0, hp, hv, hu⟩ := h
      exact ⟨v0 :: vs, u0 :: us, pa_cons hp h1 (star_cons hst.1), .cons hv h2, .cons hu h3, by simp [h4]⟩
  obtain ⟨vs, us, h1, h2, h3, h4⟩ := key hk hst
  refine PE.imp (pe_callB call_isiT hg (T.blt "isinstance" (by decide)) boot_isinstance (pa_cons h (pa_cons (pe_tup h1) pa_nil (star_cons rfl)) hs) (by decide) (by decide) hs (by rw [star_cons (show noStar (.Tuple ks kk pos2) = true from rfl)]; rfl)) fun σ H Q hh => ?_
  refine isi_ex hh fun x v b C' H' F' φ' w r e q => ?_
  have hne : ∃ t0 r1, cb.isi (tyName x) t0 = some r1 := by
    cases ts with
    | nil => exact absurd rfl hn
    | cons t0 ts => obtain ⟨r1, er⟩ := isi_first e; exact ⟨t0, r1, er⟩
  obtain ⟨t0, r1, er⟩ := hne
  obtain ⟨tv, g1, g2⟩ := ty_of T w r er (ro_no hro hn e)
  refine ⟨by rw [h4, sizeLine_eq]; omega, fun q0 hq0 => ⟨v, q0, vs, tv, us, b, rfl, upd_same, h2, ?_, kit_eq (x := x) T g2 h3 e, q _ (fun a o ha => ?_) fun a ha => ?_⟩⟩
  · exact tyx_mono (fun a o ha => by rw [upd_ne (fun e => by rw [e, hq0] at ha; cases ha)]; exact ha) g1
  · rw [upd_ne (fun e => by rw [e, hq0] at ha; cases ha)]; exact ha
  · unfold upd
    split
    · simp
    · exact ha

/-! ### == by the class's own __eq__ -/
def rEqO (X : Cx) : R2 := fun x y H Q => ∃ (a b C dx dy : Addr) (fs gs : List (Str × V)) (k : Nat) (f : Addr) (fd : FuncData) (ps : List Str) (g : List A → CH → Rs RV), x = .ref a ∧ y = .ref b ∧ H a = some (.ins C dx fs) ∧ H b = some (.ins C dy gs) ∧ Meth X.K C "__eq__" f ∧
  FnOk X.prog X.w X.K X.mg X.base (L2.CX X.prog X.w) k f fd ps (spC X.K X.mg g) ∧ Room k X.A ∧ Binds X.K fd ps [] ∧ spC X.K X.mg g [x, y] H (fun v H' => ∃ t, v = .bl t ∧ Q v H') (fun _ _ _ => False)
theorem cx_no {Pg : Program} {w : World} {outer : List PySem.Env} {H : Hp} {s : Shared} {e : Value} {s' : Shared} (h : L2.CX Pg w outer H s (fun _ _ _ => False) e s') : False := by
  obtain ⟨_, _, _, _, _, _, _, _, _, _, _, _, q⟩ := h
  exact q
theorem op_eqO : OpR X (compareOp .Eq) (rEqO X) := by
  intro pins s σ H x y v u Q I rx ry h
  obtain ⟨a, b, C, dx, dy, fs, gs, k, f, fd, ps, g, rfl, rfl, ha, hb', hm, F, hr, hb, hsp⟩ := h
  cases rx
  cases ry
  show wpAny (model X.prog X.w) X.A (richCompare .Eq (.ref a) (.ref b)) (EP X pins σ Q) X.xe s
  obtain ⟨mA, J, _⟩ := ins_get I.hok ha
  obtain ⟨mB, J', _⟩ := ins_get I.hok hb'
  obtain ⟨od, J, _⟩ := J.look
  obtain ⟨od', J', _⟩ := J'.look
  obtain ⟨m, hF⟩ := I.fr
  refine PySem.W.cmp_K (op := .Eq) (tb := .ref C) hr.units0 hF I.ok.mod.kin J J'.type (by simp [PySem.W.notFirst]) hm.at_ hm.fn ?_
  have hl := F.len _ _ _ _ hsp
  have r2 : Vals [V.ref a, V.ref b] [Value.ref a, Value.ref b] := .cons rfl (.cons rfl .nil)
  refine wpAny_call (codeAny_mono (F.run X.A X.stack s H ⟨[.ref a, .ref b], []⟩ [.ref a, .ref b] [.ref a, .ref b] _ _ hr I.env0 (by
    have := hb s [.ref a, .ref b] I.kIn (by simpa using hl)
    simpa using this) r2 hsp) fun r s' hq => ?_)
  cases r with
  | error e => exact (cx_no hq).elim
  | ok fl =>
    cases fl with
    | ret w =>
      obtain ⟨z, H', I', rz, t, ez, q⟩ := I.after hq
      subst ez
      cases rz
      exact ⟨.bl t, H', I', rfl, q⟩
    | next => exact False.elim hq
    | brk => exact False.elim hq
    | cont => exact False.elim hq
theorem eqo_imp {a b : E} (ok : ∀ c, cb.mok c "__eq__" = true → MthOk X c "__eq__" (cb.mth c "__eq__")) {σ : L2.St} {H : Hp} {Q : VK} (h : tE X W cb (.eqo a b) σ H Q) : tOp (rEqO X) (tE X W cb a) (tE X W cb b) σ H Q := by
  obtain ⟨n0, F, φ, C, σd, z, h⟩ := h
  unfold evalE at h
  refine opd z h fun ra C1 v H1 F1 φ1 s1 z1 r1 rv1 q1 => ?_
  refine opd z1 q1 fun rb C2 u H2 F2 φ2 s2 z2 r2 rv2 q2 => ?_
  split at q2
  · rename_i c ns vs c' ns' vs'
    split at q2
    · rename_i hc
      simp only [Bool.and_eq_true, beq_iff_eq] at hc
      obtain ⟨rfl, hc⟩ := hc
      obtain ⟨k, Ca, fa, fd, ps, hcl, hm, F', hr, hmg, hbd⟩ := (ok c hc).ex
      have x1 := s2.rep z1.wf (rv1 _ rfl)
      have x2 := rv2 _ rfl
      obtain ⟨a1, C1', dx, fs, rfl, g1, g2, g3, g4, g5⟩ := id x1
      obtain ⟨a2, C2', dy, gs, rfl, k1, k2, k3, k4, k5⟩ := id x2
      rw [hmg] at g3 k3
      cases g3
      cases k3
      refine ⟨a1, a2, Ca, dx, dy, fs, gs, k, fa, fd, ps, _, rfl, rfl, g2, k2, hm, F', hr, hbd, F2, φ2, C2, [.p (.obj c ns vs), .p (.obj c ns' vs')], z2.wf, .cons x1 (.cons x2 .nil), ?_⟩
      cases e : cb.mth c "__eq__" [.p (.obj c ns vs), .p (.obj c ns' vs')] C2 with
      | no => rw [e] at q2; exact q2
      | ex ee C' => rw [e] at q2; exact q2.elim
      | ok r C' =>
        rw [e] at q2
        intro w H' F'' φ'' s3 w3 rr
        cases r with
        | v y =>
          cases y with
          | bl t => exact ⟨t, rr, q2 w H' F'' φ'' s3 w3 rr⟩
          | _ => exact q2.elim
        | _ => exact q2.elim
    · exact q2.elim
  · exact q2.elim
theorem sim_eqo {ea eb : Expr} {a b : E} {pos : Pos} (ok : ∀ c, cb.mok c "__eq__" = true → MthOk X c "__eq__" (cb.mth c "__eq__")) (ha : SimE X W cb ea a) (hb : SimE X W cb eb b) (hm : behindInMarks .Eq eb = false) : SimE X W cb (.Compare ea [.Eq] [eb] pos) (.eqo a b) :=
  PE.imp (pe_cmpR op_eqO ha hb hm) fun σ H Q h => eqo_imp ok h
theorem simB_eqo {ea eb : Expr} {a b : E} {pos : Pos} (ok : ∀ c, cb.mok c "__eq__" = true → MthOk X c "__eq__" (cb.mth c "__eq__")) (ha : SimE X W cb ea a) (hb : SimE X W cb eb b) (hm : behindInMarks .Eq eb = false) : SimB X W cb (.Compare ea [.Eq] [eb] pos) (.eqo a b) :=
  PT.imp (pt_cmpR op_eqO ha hb hm) fun σ H Q h => eqo_imp ok h
end
end MP
/-! MP15: statements. -/
namespace MP
open PySem PySem.Spec PyProof.Rows L2

/-- what is wanted behind statements -/
def PoS (X : Cx) (W : L2.WX) (n0 : Ent) (F : Addr → Prop) (φ : List Addr) (H : Hp) (D : Ends) : Fl → Prop
  | .nx σd C' => ∀ σ' H' F' φ', SSt F φ H F' φ' H' → St0 X n0 F' φ' C' σd σ' H' → D.nx σ' H'
  | .bk σd C' => ∀ σ' H' F' φ', SSt F φ H F' φ' H' → St0 X n0 F' φ' C' σd σ' H' → D.bk σ' H'
  | .ct σd C' => ∀ σ' H' F' φ', SSt F φ H F' φ' H' → St0 X n0 F' φ' C' σd σ' H' → D.ct σ' H'
  | .rt r C' => ∀ v H' F' φ', Stp n0.F n0.φ n0.C n0.H F' φ' C' H' → Wf X.K X.mg F' φ' C' H' → RepR X.K X.mg n0.H n0.H F' φ' C' H' r v → D.rt v H'
  | .ex e σd C' => ∀ cls d σ' H' F' φ', SSt F φ H F' φ' H' → St0 X n0 F' φ' C' σd σ' H' → ExRep X.K X.mg e cls d F' H' → W cls d σ' H'
  | .no => False
def tS (X : Cx) (W : L2.WX) (cb : Cb) (s : S) : TS := fun D σ H => ∃ n0 F φ C σd, St0 X n0 F φ C σd σ H ∧ PoS X W n0 F φ H D (runS cb s σd C)
def tBk (X : Cx) (W : L2.WX) (cb : Cb) (s : List S) : TS := fun D σ H => ∃ n0 F φ C σd, St0 X n0 F φ C σd σ H ∧ PoS X W n0 F φ H D (runB cb s σd C)
section
variable {X : Cx} {W : L2.WX} {cb : Cb} {n0 : Ent} {F F' F1 : Addr → Prop} {φ φ' φ1 : List Addr} {C C' C1 : CH} {H H' H1 : Hp} {D D' : Ends} {σ : L2.St} {σd : Env}
theorem PoS.rebase {r : Fl} (s : SSt F φ H F1 φ1 H1) (h : PoS X W n0 F φ H D r) : PoS X W n0 F1 φ1 H1 D r := by
  cases r with
  | nx σd C' => exact fun σ' H' F' φ' s' z => h σ' H' F' φ' (s.trans s') z
  | bk σd C' => exact fun σ' H' F' φ' s' z => h σ' H' F' φ' (s.trans s') z
  | ct σd C' => exact fun σ' H' F' φ' s' z => h σ' H' F' φ' (s.trans s') z
  | rt r C' => exact h
  | ex e σd C' => exact fun cls d σ' H' F' φ' s' z => h cls d σ' H' F' φ' (s.trans s') z
  | no => exact h
/-- an expression ahead -/
theorem fl_e {e : E} {f : RV → CH → Fl} {Q1 : VK} (z : St0 X n0 F φ C σd σ H) (h : PoS X W n0 F φ H D ((evalE cb e σd C).fl σd f))
    (hk : ∀ r C' v H' F' φ', Stp F φ C H F' φ' C' H' → St0 X n0 F' φ' C' σd σ H' → RepR X.K X.mg n0.H H F' φ' C' H' r v → PoS X W n0 F' φ' H' D (f r C') → Q1 v H') : tE X W cb e σ H Q1 := by
  refine ⟨n0, F, φ, C, σd, z, ?_⟩
  cases q : evalE cb e σd C with
  | no => rw [q] at h; exact h
  | ex ee C' =>
    rw [q] at h
    exact fun cls d H' F' φ' s w er => h cls d σ H' F' φ' (s.sst z.wf) (z.step s w) er
  | ok r C' =>
    rw [q] at h
    exact fun v H' F' φ' s w rr => hk r C' v H' F' φ' s (z.step s w) rr (PoS.rebase (s.sst z.wf) h)
/-- operands ahead -/
theorem fl_as {es : List E} {f : List A → CH → Fl} {Q1 : List V → Hp → Prop} (z : St0 X n0 F φ C σd σ H) (h : PoS X W n0 F φ H D ((evalAs cb es σd C).fl σd f))
    (hk : ∀ as C' vs H' F' φ', Stp F φ C H F' φ' C' H' → St0 X n0 F' φ' C' σd σ H' → Paired (RepA X.K X.mg F' φ' C' H') as vs → PoS X W n0 F' φ' H' D (f as C') → Q1 vs H') : tAs X W cb es σ H Q1 := by
  refine ⟨n0, F, φ, C, σd, z, ?_⟩
  cases q : evalAs cb es σd C with
  | no => rw [q] at h; exact h
  | ex ee C' =>
    rw [q] at h
    exact fun cls d H' F' φ' s w er => h cls d σ H' F' φ' (s.sst z.wf) (z.step s w) er
  | ok r C' =>
    rw [q] at h
    exact fun v H' F' φ' s w rr => hk r C' v H' F' φ' s (z.step s w) rr (PoS.rebase (s.sst z.wf) h)
/-- an operand ahead -/
theorem fl_a {e : E} {f : RV → CH → Fl} {Q1 : VK} (z : St0 X n0 F φ C σd σ H) (h : PoS X W n0 F φ H D ((evalE cb e σd C).fl σd f))
    (hk : ∀ r C' v H' F' φ', Stp F φ C H F' φ' C' H' → St0 X n0 F' φ' C' σd σ H' → RepA X.K X.mg F' φ' C' H' (opA r) v → (∀ x, r = .v x → Rep X.K X.mg F' H' x v) → PoS X W n0 F' φ' H' D (f r C') → Q1 v H') : tE X W cb e σ H Q1 := by
  refine ⟨n0, F, φ, C, σd, z, ?_⟩
  cases q : evalE cb e σd C with
  | no => rw [q] at h; exact h
  | ex ee C' =>
    rw [q] at h
    exact fun cls d H' F' φ' s w er => h cls d σ H' F' φ' (s.sst z.wf) (z.step s w) er
  | ok r C' =>
    rw [q] at h
    intro v H' F' φ' s w rr
    obtain ⟨F2, s2, w2, r2⟩ := settle s w rr
    exact hk r C' v H' F2 φ' s2 (z.step s2 w2) r2 (fun x e => by subst e; exact r2) (PoS.rebase (s2.sst z.wf) h)

/-! ### names -/
theorem own_ne {i : Nat} {l : List P} {a b : Addr} (z : St0 X n0 F φ C σd σ H) (hn : H a = none) (h : σd[i]? = some (some (.own l))) (h' : σ[i]? = some (some (V.ref b))) : b ≠ a := fun e => by
  obtain ⟨v, h1, c, xs, e1, _, _, _, h4, _⟩ := z.sr.at_ i _ h
  rw [h'] at h1
  cases h1
  cases e1
  rw [e, hn] at h4
  cases h4
theorem frz_sst {a : Addr} : SSt F φ H (frz F a) φ H := ⟨fun _ h => .inl h, fun _ _ _ h => h, fun _ _ h => h⟩
/-- a list that no name holds is frozen -/
theorem frz_st0 {a : Addr} {o : HO} (z : St0 X n0 F φ C σd σ H) (h : H a = some o) (hl : ¬ Lv C φ a) (hn : n0.H a = none) (ha : Apart σd σ a) : St0 X n0 (frz F a) φ C σd σ H where
  wf := frz_wf z.wf h hl
  sr := {
    len := z.sr.len
    at_ := fun j d hd => by
      obtain ⟨v, h1, h2⟩ := z.sr.at_ j d hd
      refine ⟨v, h1, ?_⟩
      cases d with
      | p x => exact Rep.mono (fun _ q => .inl q) (fun _ _ _ q => q) _ _ h2
      | own l =>
        obtain ⟨b, xs, e, q1, q2, q3, q4, q5⟩ := h2
        subst e
        refine ⟨b, xs, rfl, fun q => ?_, q2, q3, q4, reps_frz q5⟩
        rcases q with q | q
        · exact q1 q
        · exact ha j l b hd h1 q
      | cell n => exact h2
    apart := z.sr.apart
    ent := frz_step z.sr.ent (.inl hn) }
theorem up_none {a : Addr} (z : St0 X n0 F φ C σd σ H) (hn : H a = none) : n0.H a = none := by
  by_cases q : n0.H a = none
  · exact q
  · exact absurd hn (z.sr.ent.dom a q)
theorem apart_new {a : Addr} (z : St0 X n0 F φ C σd σ H) (hn : H a = none) : Apart σd σ a := fun j l b h1 h2 => own_ne z hn h1 h2
theorem set_imp {i : Nat} {e : E} (h : tS X W cb (.set i e) D σ H) : tAsg (tE X W cb e) (gName i) D σ H := by
  obtain ⟨n0, F, φ, C, σd, z, h⟩ := h
  unfold runS at h
  refine fl_e z h fun r C' v H' F' φ' s z' rr q => ?_
  show D.nx (σ.set i (some v)) H'
  cases r with
  | v x => exact q _ H' F' φ' SSt.refl ⟨z'.wf, z'.sr.putp rr⟩
  | fr l =>
    obtain ⟨a, xs, e1, hF, hL, hn, hH, hr⟩ := rr
    subst e1
    have z2 := frz_st0 z' hH hL (up_none z hn) (apart_new z hn)
    exact q _ H' _ φ' frz_sst ⟨z2.wf, z2.sr.putp (show Rep X.K X.mg (frz F' a) H' (.lst l) _ from ⟨a, xs, rfl, ⟨.inr rfl, hH⟩, reps_frz hr⟩)⟩
  | vw l => exact q.elim
  | cell n => exact q _ H' F' φ' SSt.refl ⟨z'.wf, z'.sr.put (d := .cell n) rr fun l e => by cases e⟩
theorem own_imp {i : Nat} {e : E} (h : tS X W cb (.own i e) D σ H) : tAsg (tE X W cb e) (gName i) D σ H := by
  obtain ⟨n0, F, φ, C, σd, z, h⟩ := h
  unfold runS at h
  refine fl_e z h fun r C' v H' F' φ' s z' rr q => ?_
  show D.nx (σ.set i (some v)) H'
  cases r with
  | fr l =>
    obtain ⟨a, xs, e1, hF, hL, hn, hH, hr⟩ := rr
    subst e1
    refine q _ H' F' φ' SSt.refl ⟨z'.wf, z'.sr.put (d := .own l) ⟨a, xs, rfl, hF, hL, up_none z hn, hH, hr⟩ fun m e b eb j m' hj h1 h2 => ?_⟩
    cases eb
    exact own_ne z hn h1 h2 rfl
  | _ => exact q.elim
theorem cellA_wf {a : Addr} {cl : Cl} (w : Wf X.K X.mg F φ C H) (hF : ¬ F a) (hL : ¬ Lv C φ a) (hc : CellAt' X.K X.mg F H a cl) : Wf X.K X.mg F (φ ++ [a]) (C ++ [some cl]) H := by
  have cases' : ∀ {n : Nat} {b : Addr} {c : Cl}, (C ++ [some cl])[n]? = some (some c) → (φ ++ [a])[n]? = some b → (C[n]? = some (some c) ∧ φ[n]? = some b) ∨ (n = C.length ∧ b = a ∧ c = cl) := fun {n b c} h1 h2 => by
    by_cases hn : n < C.length
    · rw [List.getElem?_append_left hn] at h1
      rw [List.getElem?_append_left (by rw [w.len]; exact hn)] at h2
      exact .inl ⟨h1, h2⟩
    · by_cases e : n = C.length
      · subst e
        rw [List.getElem?_append_right (Nat.le_refl _)] at h1
        rw [List.getElem?_append_right (by rw [w.len]; exact Nat.le_refl _)] at h2
        simp [w.len] at h1 h2
        exact .inr ⟨rfl, h2.symm, h1.symm⟩
      · rw [List.getElem?_eq_none (by simp; omega)] at h1
        cases h1
  refine ⟨w.dom, by simp [w.len], fun n b c h1 h2 => ?_, fun n m b c c' h1 h2 h3 h4 => ?_⟩
  · rcases cases' h1 h2 with ⟨h1, h2⟩ | ⟨_, e2, e3⟩
    · exact w.live _ _ _ h1 h2
    · subst e2; subst e3; exact ⟨hF, hc⟩
  · rcases cases' h1 h3 with ⟨g1, g2⟩ | ⟨e1, e2, e3⟩ <;> rcases cases' h2 h4 with ⟨g3, g4⟩ | ⟨e4, e5, e6⟩
    · exact w.inj n m b c c' g1 g3 g2 g4
    · exact absurd ⟨n, c, g1, by rw [← e5]; exact g2⟩ hL
    · exact absurd ⟨m, c', g3, by rw [← e2]; exact g4⟩ hL
    · rw [e1, e4]
theorem app_lv {a b : Addr} {cl : Cl} (hl : φ.length = C.length) (h : Lv (C ++ [some cl]) (φ ++ [a]) b) : Lv C φ b ∨ b = a := by
  obtain ⟨n, c, h1, h2⟩ := h
  by_cases hn : n < C.length
  · rw [List.getElem?_append_left hn] at h1
    rw [List.getElem?_append_left (by rw [hl]; exact hn)] at h2
    exact .inl ⟨n, c, h1, h2⟩
  · by_cases e : n = C.length
    · subst e
      rw [List.getElem?_append_right (by rw [hl]; exact Nat.le_refl _)] at h2
      simp [hl] at h2
      exact .inr h2.symm
    · rw [List.getElem?_eq_none (by simp; omega)] at h1
      cases h1
theorem app_pre {n : Nat} {a b : Addr} (h : φ[n]? = some b) : (φ ++ [a])[n]? = some b := by
  have hn : n < φ.length := by
    by_cases q : n < φ.length
    · exact q
    · rw [List.getElem?_eq_none (by omega)] at h; cases h
  rw [List.getElem?_append_left hn]
  exact h
theorem setc_imp {i : Nat} {e : E} (h : tS X W cb (.setc i e) D σ H) : tAsg (tE X W cb e) (gName i) D σ H := by
  obtain ⟨n0, F, φ, C, σd, z, h⟩ := h
  unfold runS at h
  refine fl_e z h fun r C' v H' F' φ' s z' rr q => ?_
  show D.nx (σ.set i (some v)) H'
  cases r with
  | fr l =>
    obtain ⟨a, xs, e1, hF, hL, hn, hH, hr⟩ := rr
    subst e1
    have w2 := cellA_wf (cl := .lst l) z'.wf hF hL ⟨xs, hH, hr⟩
    have sr2 : SRel X.K X.mg n0 F' (φ' ++ [a]) (C' ++ [some (.lst l)]) H' σd σ := {
      len := z'.sr.len
      at_ := fun j d hd => by
        obtain ⟨v, h1, h2⟩ := z'.sr.at_ j d hd
        refine ⟨v, h1, ?_⟩
        cases d with
        | p x => exact h2
        | own m =>
          obtain ⟨b, ys, e, q1, q2, q3, q4, q5⟩ := h2
          subst e
          refine ⟨b, ys, rfl, q1, fun hlv => ?_, q3, q4, q5⟩
          rcases app_lv z'.wf.len hlv with k | k
          · exact q2 k
          · exact own_ne z hn hd h1 k
        | cell n => obtain ⟨b, e, hb⟩ := h2; exact ⟨b, e, app_pre hb⟩
      apart := z'.sr.apart
      ent := {
        grow := z'.sr.ent.grow
        new := z'.sr.ent.new
        pre := fun n b hb => app_pre (z'.sr.ent.pre n b hb)
        lv := fun b hb => by
          rcases app_lv z'.wf.len hb with k | k
          · exact z'.sr.ent.lv b k
          · exact .inr (by rw [k]; exact up_none z hn)
        keep := z'.sr.ent.keep
        dom := z'.sr.ent.dom } }
    refine q _ H' F' (φ' ++ [a]) ⟨fun _ h => h, fun _ _ _ h => h, fun _ _ h => app_pre h⟩ ⟨w2, sr2.put (d := .cell C'.length) ⟨a, rfl, ?_⟩ fun l e => by cases e⟩
    rw [List.getElem?_append_right (by rw [z'.wf.len]; exact Nat.le_refl _)]
    simp [z'.wf.len]
  | _ => exact q.elim
theorem par_imp {i j : Nat} {a b : E} (h : tS X W cb (.par i j a b) D σ H) : tPar i j (tAs X W cb [a, b]) D σ H := by
  obtain ⟨n0, F, φ, C, σd, z, h⟩ := h
  unfold runS at h
  refine fl_as z h fun as C' vs H' F' φ' s z' rr q => ?_
  split at q
  · cases rr with
    | cons h1 t =>
      cases t with
      | cons h2 t =>
        cases t
        exact ⟨_, _, rfl, q _ H' F' φ' SSt.refl ⟨z'.wf, (z'.sr.putp h1).putp h2⟩⟩
  · exact q.elim
theorem unp_imp {is : List Nat} {e : E} (h : tS X W cb (.unp is e) D σ H) : tAsg (tE X W cb e) (gT X.K (.tp is)) D σ H := by
  obtain ⟨n0, F, φ, C, σd, z, h⟩ := h
  unfold runS at h
  refine fl_e z h fun r C' v H' F' φ' s z' rr q => ?_
  cases r with
  | v x =>
    dsimp only at q
    split at q
    · rename_i σ2 e2
      exact gT_ok z'.sr rr e2 fun σ' _ sr' => q σ' H' F' φ' SSt.refl ⟨z'.wf, sr'⟩
    · exact q.elim
  | _ => exact q.elim
/-- the name's list is data from here on -/
theorem frz_imp {i : Nat} {rest : List S} (h : tBk X W cb (.frz i :: rest) D σ H) : tBk X W cb rest D σ H := by
  obtain ⟨n0, F, φ, C, σd, z, h⟩ := h
  unfold runB at h
  unfold runS at h
  cases hl : σd[i]? with
  | none => rw [hl] at h; exact h.elim
  | some o => cases o with
    | none => rw [hl] at h; exact h.elim
    | some d => cases d with
     | p x => rw [hl] at h; exact ⟨n0, F, φ, C, _, z, h⟩
     | cell n => rw [hl] at h; exact h.elim
     | own l =>
      rw [hl] at h
      dsimp only at h
      obtain ⟨v, h1, a, xs, e, q1, q2, q3, q4, q5⟩ := z.sr.at_ i _ hl
      subst e
      have sr2 : SRel X.K X.mg n0 (frz F a) φ C H (σd.set i (some (.p (.lst l)))) σ := {
        len := by rw [List.length_set]; exact z.sr.len
        at_ := fun j d hd => by
          by_cases hj : i = j
          · subst hj
            have hlt : i < σd.length := by
              by_cases q : i < σd.length
              · exact q
              · rw [List.getElem?_eq_none (by omega)] at hl; cases hl
            rw [List.getElem?_set_self hlt] at hd
            cases hd
            exact ⟨_, h1, a, xs, rfl, ⟨.inr rfl, q4⟩, reps_frz q5⟩
          · rw [List.getElem?_set_ne hj] at hd
            obtain ⟨u, g1, g2⟩ := z.sr.at_ j d hd
            refine ⟨u, g1, ?_⟩
            cases d with
            | p x => exact Rep.mono (fun _ q => .inl q) (fun _ _ _ q => q) _ _ g2
            | own m =>
              obtain ⟨b, ys, e, k1, k2, k3, k4, k5⟩ := g2
              subst e
              refine ⟨b, ys, rfl, fun q => ?_, k2, k3, k4, reps_frz k5⟩
              rcases q with q | q
              · exact k1 q
              · subst q; exact hj (z.sr.apart i j l m b hl hd h1 g1)
            | cell n => exact g2
        apart := fun j k l' m' b g1 g2 g3 g4 => by
          have hj : i ≠ j := fun e => by
            subst e
            by_cases q : i < σd.length
            · rw [List.getElem?_set_self q] at g1; cases g1
            · rw [List.getElem?_eq_none (by simpa using q)] at g1; cases g1
          have hk : i ≠ k := fun e => by
            subst e
            by_cases q : i < σd.length
            · rw [List.getElem?_set_self q] at g2; cases g2
            · rw [List.getElem?_eq_none (by simpa using q)] at g2; cases g2
          rw [List.getElem?_set_ne hj] at g1
          rw [List.getElem?_set_ne hk] at g2
          exact z.sr.apart j k l' m' b g1 g2 g3 g4
        ent := frz_step z.sr.ent (.inl q3) }
      exact ⟨n0, frz F a, φ, C, _, ⟨frz_wf z.wf q4 q2, sr2⟩, PoS.rebase frz_sst h⟩
/-- the name is forgotten from here on -/
theorem drop_imp {i : Nat} {rest : List S} (h : tBk X W cb (.drop i :: rest) D σ H) : tBk X W cb rest D σ H := by
  obtain ⟨n0, F, φ, C, σd, z, h⟩ := h
  unfold runB at h
  unfold runS at h
  have sub : ∀ {j : Nat} {d : MP.D}, (σd.set i none)[j]? = some (some d) → σd[j]? = some (some d) := fun {j d} q => by
    by_cases hj : i = j
    · subst hj
      by_cases hl : i < σd.length
      · rw [List.getElem?_set_self hl] at q; cases q
      · rw [List.getElem?_eq_none (by simpa using hl)] at q; cases q
    · rw [List.getElem?_set_ne hj] at q; exact q
  have sr2 : SRel X.K X.mg n0 F φ C H (σd.set i none) σ := {
    len := by rw [List.length_set]; exact z.sr.len
    at_ := fun j d hd => z.sr.at_ j d (sub hd)
    apart := fun j k l' m' b g1 g2 g3 g4 => z.sr.apart j k l' m' b (sub g1) (sub g2) g3 g4
    ent := z.sr.ent }
  exact ⟨n0, F, φ, C, _, ⟨z.wf, sr2⟩, h⟩
end
end MP
/-! MP16: stores into lists and instances. -/
namespace MP
open PySem PySem.Spec PyProof.Rows L2
section
variable {X : Cx} {W : L2.WX} {cb : Cb} {n0 : Ent} {F F' F1 : Addr → Prop} {φ φ' φ1 : List Addr} {C C' C1 : CH} {H H' H1 : Hp} {D D' : Ends} {σ : L2.St} {σd : Env}
theorem isLst_ok {i : Nat} (z : St0 X n0 F φ C σd σ H) (h : isLst σd C i = true) : ∃ a xs, σ[i]? = some (some (V.ref a)) ∧ H a = some (.lst xs) := by
  unfold isLst at h
  split at h
  · rename_i l hl
    obtain ⟨v, h1, a, xs, e, _, _, _, h4, _⟩ := z.sr.at_ i _ hl
    subst e
    exact ⟨a, xs, h1, h4⟩
  · rename_i n hl
    obtain ⟨v, h1, a, e, h2⟩ := z.sr.at_ i _ hl
    subst e
    unfold cellL at h
    split at h
    · rename_i l hc
      obtain ⟨_, xs, q1, _⟩ := z.wf.live n a _ hc h2
      exact ⟨a, xs, h1, q1⟩
    · cases h
  · cases h
theorem set_lv {n : Nat} {c c' : Cl} {a : Addr} (hc : C[n]? = some (some c)) (h : Lv (C.set n (some c')) φ a) : Lv C φ a := by
  obtain ⟨m, cl, h1, h2⟩ := h
  by_cases e : n = m
  · subst e; exact ⟨n, c, hc, h2⟩
  · rw [List.getElem?_set_ne e] at h1
    exact ⟨m, cl, h1, h2⟩
/-- a cell's object is written -/
theorem setcell_wf {n : Nat} {c c' : Cl} {a : Addr} {u : HO} (w : Wf X.K X.mg F φ C H) (hc : C[n]? = some (some c)) (ha : φ[n]? = some a) (hn : CellAt' X.K X.mg F (upd H a u) a c') : Wf X.K X.mg F φ (C.set n (some c')) (upd H a u) where
  dom := fun b h => by
    unfold upd
    split
    · simp
    · exact w.dom b h
  len := by rw [List.length_set]; exact w.len
  live := fun m b cl h1 h2 => by
    by_cases e : n = m
    · subst e
      rw [List.getElem?_set_self (by obtain ⟨q, _⟩ := List.getElem?_eq_some_iff.mp hc; exact q)] at h1
      cases h1
      rw [ha] at h2
      cases h2
      exact ⟨(w.live n _ c hc ha).1, hn⟩
    · rw [List.getElem?_set_ne e] at h1
      obtain ⟨q1, q2⟩ := w.live m b cl h1 h2
      have nb : b ≠ a := fun eb => e (w.inj n m a c cl hc h1 ha (by rw [← eb]; exact h2))
      exact ⟨q1, q2.mono (fun _ z => z) (fun x o hx ho => by rw [upd_ne (show x ≠ a from fun ex => (w.live n a c hc ha).1 (by rw [← ex]; exact hx))]; exact ho) fun o ho => by rw [upd_ne nb]; exact ho⟩
  inj := fun m k b cl cl' h1 h2 h3 h4 => by
    have old : ∀ {m : Nat} {cl : Cl}, (C.set n (some c'))[m]? = some (some cl) → ∃ cl0, C[m]? = some (some cl0) := fun {m cl} h => by
      by_cases e : n = m
      · subst e; exact ⟨c, hc⟩
      · rw [List.getElem?_set_ne e] at h; exact ⟨cl, h⟩
    obtain ⟨c1, g1⟩ := old h1
    obtain ⟨c2, g2⟩ := old h2
    exact w.inj m k b c1 c2 g1 g2 h3 h4
theorem setcell_sr {n : Nat} {c c' : Cl} {a : Addr} {u : HO} (z : St0 X n0 F φ C σd σ H) (hc : C[n]? = some (some c)) (ha : φ[n]? = some a) : SRel X.K X.mg n0 F φ (C.set n (some c')) (upd H a u) σd σ := by
  have hF := (z.wf.live n a c hc ha).1
  have keep : ∀ x o, F x → H x = some o → upd H a u x = some o := fun x o hx ho => by rw [upd_ne (show x ≠ a from fun ex => hF (by rw [← ex]; exact hx))]; exact ho
  refine ⟨z.sr.len, fun j d hd => ?_, z.sr.apart, ?_⟩
  · obtain ⟨v, h1, h2⟩ := z.sr.at_ j d hd
    refine ⟨v, h1, ?_⟩
    cases d with
    | p x => exact Rep.mono (fun _ q => q) keep _ _ h2
    | own l =>
      obtain ⟨b, xs, e, q1, q2, q3, q4, q5⟩ := h2
      subst e
      have nb : b ≠ a := fun eb => q2 ⟨n, c, hc, by rw [eb]; exact ha⟩
      exact ⟨b, xs, rfl, q1, fun k => q2 (set_lv hc k), q3, by rw [upd_ne nb]; exact q4, Reps.mono (fun _ q => q) keep _ _ q5⟩
    | cell m => exact h2
  · refine ⟨z.sr.ent.grow, z.sr.ent.new, z.sr.ent.pre, fun b hb => z.sr.ent.lv b (set_lv hc hb), fun b o hb hl => ?_, fun b hb => ?_⟩
    · have nb : b ≠ a := fun eb => by
        subst eb
        rcases z.sr.ent.lv b ⟨n, c, hc, ha⟩ with q | q
        · exact hl q
        · rw [hb] at q; cases q
      rw [upd_ne nb]
      exact z.sr.ent.keep b o hb hl
    · unfold upd
      split
      · simp
      · exact z.sr.ent.dom b hb
theorem cell_sst {n : Nat} {c : Cl} {a : Addr} {u : HO} (w : Wf X.K X.mg F φ C H) (hc : C[n]? = some (some c)) (ha : φ[n]? = some a) : SSt F φ H F φ (upd H a u) :=
  ⟨fun _ h => h, fun x o hx ho => by rw [upd_ne (show x ≠ a from fun ex => (w.live n a c hc ha).1 (by rw [← ex]; exact hx))]; exact ho, fun _ _ h => h⟩
/-- the list that a name holds is written -/
theorem updL_ok {i : Nat} {f : List P → Option (List P)} (z : St0 X n0 F φ C σd σ H) (h : PoS X W n0 F φ H D (updL i σd C f)) :
    ∃ a l xs r, σ[i]? = some (some (V.ref a)) ∧ H a = some (.lst xs) ∧ Reps X.K X.mg F H l xs ∧ f l = some r ∧ ∀ ys, Reps X.K X.mg F H r ys → D.nx σ (upd H a (.lst ys)) := by
  unfold updL at h
  split at h
  · rename_i l hl
    split at h
    · rename_i r hr
      obtain ⟨v, h1, a, xs, e, q1, q2, q3, q4, q5⟩ := z.sr.at_ i _ hl
      subst e
      refine ⟨a, l, xs, r, h1, q4, q5, hr, fun ys hy => h σ _ F φ (upd_sst (φ := φ) q1) ⟨upd_wf z.wf q4 q1 q2, ?_⟩⟩
      have ss := upd_sst (φ := φ) (H := H) (u := .lst ys) q1
      have hlt : i < σd.length := by obtain ⟨q, _⟩ := List.getElem?_eq_some_iff.mp hl; exact q
      refine ⟨by rw [List.length_set]; exact z.sr.len, fun j d hd => ?_, fun j k l' m' b g1 g2 g3 g4 => ?_, upd_stp z.sr.ent q3⟩
      · by_cases hj : i = j
        · subst hj
          rw [List.getElem?_set_self hlt] at hd
          cases hd
          exact ⟨_, h1, a, ys, rfl, q1, q2, q3, upd_same, Reps.mono ss.grow ss.keep _ _ hy⟩
        · rw [List.getElem?_set_ne hj] at hd
          obtain ⟨v, g1, g2⟩ := z.sr.at_ j d hd
          refine ⟨v, g1, ?_⟩
          cases d with
          | p x => exact Rep.mono ss.grow ss.keep _ _ g2
          | own m =>
            obtain ⟨b, zs, e, k1, k2, k3, k4, k5⟩ := g2
            subst e
            have nb : b ≠ a := fun eb => by subst eb; exact hj (z.sr.apart i j l m b hl hd h1 g1)
            exact ⟨b, zs, rfl, k1, k2, k3, by rw [upd_ne nb]; exact k4, Reps.mono ss.grow ss.keep _ _ k5⟩
          | cell n => exact g2
      · have back : ∀ {j : Nat} {l' : List P}, (σd.set i (some (.own r)))[j]? = some (some (.own l')) → ∃ l0, σd[j]? = some (some (.own l0)) := fun {j l'} g => by
          by_cases hj : i = j
          · subst hj; exact ⟨l, hl⟩
          · rw [List.getElem?_set_ne hj] at g; exact ⟨l', g⟩
        obtain ⟨l1, g1'⟩ := back g1
        obtain ⟨l2, g2'⟩ := back g2
        exact z.sr.apart j k l1 l2 b g1' g2' g3 g4
    · exact h.elim
  · rename_i n hl
    split at h
    · rename_i l hcl
      split at h
      · rename_i r hr
        obtain ⟨v, h1, a, e, h2⟩ := z.sr.at_ i _ hl
        subst e
        have hc : C[n]? = some (some (.lst l)) := by
          unfold cellL at hcl
          split at hcl
          · rename_i l' hc; cases hcl; exact hc
          · cases hcl
        obtain ⟨hF, xs, q1, q2⟩ := z.wf.live n a _ hc h2
        refine ⟨a, l, xs, r, h1, q1, q2, hr, fun ys hy => h σ _ F φ (cell_sst z.wf hc h2) ⟨setcell_wf z.wf hc h2 ⟨ys, upd_same, ?_⟩, setcell_sr z hc h2⟩⟩
        have ss := cell_sst (u := .lst ys) z.wf hc h2
        exact Reps.mono ss.grow ss.keep _ _ hy
      · exact h.elim
    · exact h.elim
  · exact h.elim

/-! ### methods of lists -/
def LmIs (K : PySem.W.Frag) (mg : Str → Option Value) (m : Lm) (r : V → List V → Hp → VK → Prop) : Prop := ∀ (F : Addr → Prop) (H : Hp) (a : Addr) (l ps res : List P) (xs vs : List V) (Q : VK), H a = some (.lst xs) → Reps K mg F H l xs → Reps K mg F H ps vs → lmP m l ps = some res →
  (∀ ys, Reps K mg F H res ys → Q .non (upd H a (.lst ys))) → r (.ref a) vs H Q
theorem lm_append {K mg} : LmIs K mg .append rAppend := by
  intro F H a l ps res xs vs Q h1 h2 h3 h4 q
  simp only [lmP] at h4
  split at h4
  · split at h4
    · rename_i x hl
      cases h4
      obtain ⟨v, rfl, hv⟩ := reps_one h3
      refine ⟨a, xs, v, rfl, rfl, h1, ?_, q _ (h2.app (Reps.cons hv Reps.nil))⟩
      rw [← h2.length, lim_eq]
      exact of_decide_eq_true hl
    · cases h4
  · cases h4
theorem lm_extend {K mg} : LmIs K mg .extend rExtend := by
  intro F H a l ps res xs vs Q h1 h2 h3 h4 q
  simp only [lmP] at h4
  split at h4
  · split at h4
    · rename_i r hl
      cases h4
      obtain ⟨v, rfl, b, zs, rfl, ⟨hb, hc⟩, hr⟩ := reps_one h3
      refine ⟨a, b, xs, zs, rfl, rfl, h1, hc, ?_, q _ (h2.app hr)⟩
      rw [← h2.length, ← hr.length, lim_eq]
      exact of_decide_eq_true hl
    · cases h4
  · cases h4
theorem lm_clear {K mg} : LmIs K mg .clear rClear := by
  intro F H a l ps res xs vs Q h1 h2 h3 h4 q
  simp only [lmP] at h4
  split at h4
  · cases h4
    cases h3
    exact ⟨a, xs, rfl, rfl, h1, q _ Reps.nil⟩
  · cases h4
theorem lm_reverse {K mg} : LmIs K mg .reverse rReverse := by
  intro F H a l ps res xs vs Q h1 h2 h3 h4 q
  simp only [lmP] at h4
  split at h4
  · cases h4
    cases h3
    exact ⟨a, xs, rfl, rfl, h1, q _ h2.rev⟩
  · cases h4
theorem lm_insert {K mg} : LmIs K mg .insert (fun x vs H Q => ∃ (l : Addr) (xs : List V) (i : Int) (y : V), x = .ref l ∧ vs = [.int i, y] ∧ H l = some (.lst xs) ∧ xs.length < sizeLine ∧ 0 ≤ i ∧ i < 2 ^ 63 ∧
    Q .non (upd H l (.lst (xs.take i.toNat ++ [y] ++ xs.drop i.toNat)))) := by
  intro F H a l ps res xs vs Q h1 h2 h3 h4 q
  simp only [lmP] at h4
  split at h4
  · split at h4
    · rename_i i x hl
      cases h4
      obtain ⟨v, u, rfl, hv, hu⟩ := reps_two h3
      cases hv
      simp only [Bool.and_eq_true, decide_eq_true_eq] at hl
      have hlen := h2.length
      refine ⟨a, xs, i, u, rfl, rfl, h1, ?_, hl.1.2, ?_, q _ ?_⟩
      · rw [← h2.length, lim_eq]; exact hl.1.1
      · have := hl.2
        have := hl.1.1
        unfold lim at this
        omega
      · rw [List.append_assoc]
        exact (h2.take _).app (Reps.cons hu (h2.drop _))
    · cases h4
  · cases h4
theorem lm_imp {m : Lm} {i : Nat} {l : List E} {r : V → List V → Hp → VK → Prop} (hr : LmIs X.K X.mg m r) (h : tS X W cb (.lm m i l) D σ H) : tDrop (tBM X.K "list" r (tVar i) (tAs X W cb l)) D σ H := by
  obtain ⟨n0, F, φ, C, σd, z, h⟩ := h
  unfold runS at h
  split at h
  · exact h.elim
  · rename_i hi
    obtain ⟨a, xs, h1, h2⟩ := isLst_ok z (by simpa using hi)
    refine ⟨_, h1, .inl ⟨rfl, xs, .inl (.inl h2)⟩, fl_as z h fun as C' vs H' F' φ' s z' rr q => ?_⟩
    cases e : datA as with
    | none => rw [e] at q; exact q.elim
    | some ps =>
      rw [e] at q
      obtain ⟨a', l', xs', res, g1, g2, g3, g4, g5⟩ := updL_ok z' q
      rw [h1] at g1
      cases g1
      exact hr F' H' a l' ps res xs' vs _ g2 g3 (datA_rep rr e) g4 g5
theorem tBM0_of {r : V → List V → Hp → VK → Prop} {i : Nat} (h : tDrop (tBM X.K "list" r (tVar i) (tAs X W cb [])) D σ H) : tDrop (tBM0 X.K "list" r (tVar i)) D σ H := by
  obtain ⟨v, h1, h2, h3⟩ := h
  exact ⟨v, h1, h2, as_nil_imp rfl h3⟩

/-! ### xs[i] = y -/
theorem sti_imp {o : Nat} {i e : E} (h : tS X W cb (.sti o i e) D σ H) : tAsg (tE X W cb e) (gSub (tVar o) (tE X W cb i) rSetL) D σ H := by
  obtain ⟨n0, F, φ, C, σd, z, h⟩ := h
  unfold runS at h
  refine fl_a z h fun r C' v H' F' φ' s z' rr rv q => ?_
  cases e1 : datum (opA r) with
  | none => rw [e1] at q; exact q.elim
  | some y =>
    rw [e1] at q
    dsimp only at q
    split at q
    · exact q.elim
    · rename_i hi
      obtain ⟨a, xs, h1, h2⟩ := isLst_ok z' (by simpa using hi)
      refine ⟨_, h1, fl_a z' q fun rk C2 k H2 F2 φ2 s2 z2 rrk rvk q2 => ?_⟩
      cases e2 : datum (opA rk) with
      | none => rw [e2] at q2; exact q2.elim
      | some kx =>
        rw [e2] at q2
        obtain ⟨a', l', xs', res, g1, g2, g3, g4, g5⟩ := updL_ok z2 q2
        rw [h1] at g1
        cases g1
        have rk := datum_ok rrk e2
        have ry := datum_ok (rr.step z'.wf s2) e1
        unfold stiP at g4
        split at g4
        · rename_i ki
          cases rk
          cases e3 : ixP l'.length ki with
          | none => rw [e3] at g4; cases g4
          | some j =>
            rw [e3] at g4
            cases g4
            refine ⟨a, xs', ki, j, rfl, rfl, g2, ?_, g5 _ (Reps.set ry j g3)⟩
            rw [← g3.length]
            exact e3
        · cases g4

/-! ### name op= e, xs[i] op= e -/
def AugIs (op : Bop) (r : R2) : Prop := ∀ (i j k : Int) (H : Hp) (Q : VK), augI op i j = some k → Q (.int k) H → r (.int i) (.int j) H Q
theorem aug_add : AugIs .add (rI0 fun i j => .int (i + j)) := fun i j k H Q e q => by cases e; exact ⟨i, j, rfl, rfl, q⟩
theorem aug_sub : AugIs .sub (rI0 fun i j => .int (i - j)) := fun i j k H Q e q => by cases e; exact ⟨i, j, rfl, rfl, q⟩
theorem aug_band : AugIs .band (rI0 fun i j => .int (Builtin.bitAnd i j)) := fun i j k H Q e q => by cases e; exact ⟨i, j, rfl, rfl, q⟩
theorem aug_bor : AugIs .bor (rI0 fun i j => .int (Builtin.bitOr i j)) := fun i j k H Q e q => by cases e; exact ⟨i, j, rfl, rfl, q⟩
theorem aug_bxor : AugIs .bxor (rI0 fun i j => .int (Builtin.bitXor i j)) := fun i j k H Q e q => by cases e; exact ⟨i, j, rfl, rfl, q⟩
theorem aug_mul : AugIs .mul (rI CMul fun i j => .int (i * j)) := fun i j k H Q e q => by
  simp only [augI] at e
  split at e
  · rename_i hc
    cases e
    refine ⟨i, j, rfl, rfl, ?_, q⟩
    simp only [Bool.or_eq_true, decide_eq_true_eq] at hc
    rcases hc with hc | hc
    · exact .inl ⟨by omega, by omega⟩
    · exact .inr ⟨by omega, by omega⟩
  · cases e
theorem aug_fdiv : AugIs .fdiv (rI CDiv fun i j => .int (i / j)) := fun i j k H Q e q => by
  simp only [augI] at e
  split at e
  · rename_i hc
    cases e
    simp only [Bool.and_eq_true, decide_eq_true_eq] at hc
    exact ⟨i, j, rfl, rfl, hc, q⟩
  · cases e
theorem aug_mod : AugIs .mod (rI (fun _ j => 0 < j) fun i j => .int (i % j)) := fun i j k H Q e q => by
  simp only [augI] at e
  split at e
  · rename_i hc
    cases e
    exact ⟨i, j, rfl, rfl, of_decide_eq_true hc, q⟩
  · cases e
theorem aug_shl : AugIs .shl (rI CPow fun i j => .int (i * 2 ^ j.toNat)) := fun i j k H Q e q => by
  simp only [augI] at e
  split at e
  · rename_i hc
    cases e
    exact ⟨i, j, rfl, rfl, powOk_c hc, q⟩
  · cases e
theorem aug_shr : AugIs .shr (rI (fun _ j => 0 ≤ j) fun i j => .int (i / 2 ^ j.toNat)) := fun i j k H Q e q => by
  simp only [augI] at e
  split at e
  · rename_i hc
    cases e
    exact ⟨i, j, rfl, rfl, of_decide_eq_true hc, q⟩
  · cases e
theorem aug_imp {i : Nat} {op : Bop} {e : E} {r : R2} (hr : AugIs op r) (h : tS X W cb (.aug i op e) D σ H) : tAug i (tE X W cb e) r D σ H := by
  obtain ⟨n0, F, φ, C, σd, z, h⟩ := h
  unfold runS at h
  split at h
  · rename_i a hl
    obtain ⟨v, h1, h2⟩ := z.sr.at_ i _ hl
    cases h2
    refine ⟨_, h1, fl_e z h fun rr C' v H' F' φ' s z' r' q => ?_⟩
    split at q
    · rename_i b
      cases r'
      split at q
      · rename_i k hk
        exact hr a b k H' _ hk (q _ H' F' φ' SSt.refl ⟨z'.wf, z'.sr.putp rfl⟩)
      · exact q.elim
    · exact q.elim
  · exact h.elim
def rGetL (K : PySem.W.Frag) : V → V → Hp → VK → Prop := rIxL K
theorem get_list : PGet X (rGetL X.K) := by
  intro pins s σ H x y v u Q I rx ry h
  obtain ⟨p, xs, i, z, rfl, rfl, hq, he, q⟩ := h
  cases rx
  obtain ⟨t, rfl⟩ := ry
  obtain ⟨its, r, pl, hz⟩ := I.list hq
  obtain ⟨j, h1, h2, h3, h4, h5⟩ := atI_get he
  obtain ⟨w, ew, rw'⟩ := r.get h2
  have hl := r.length
  have hn := line63
  have fin : EP X pins σ Q w s := ⟨z, H, I, rw', q⟩
  by_cases h0 : 0 ≤ i
  · have hj : i.toNat = j := by
      rw [seqIndex_of h0 h5] at h1
      exact Option.some.inj h1
    exact wpAny_getItem_list pl.isList h0 (by omega) (by rw [hj]; simpa using ew) fin
  · have hj : (i + (its.toArray.size : Int)).toNat = j := by
      rw [seqIndex_neg (by omega) h4] at h1
      rw [List.size_toArray, ← hl]
      exact Option.some.inj h1
    exact wpAny_getItem_list_neg pl.isList (by omega) (by rw [List.size_toArray] <;> omega) (by omega) (by rw [hj]; simpa using ew) fin
theorem augi_imp {o : Nat} {op : Bop} {i e : E} {r : R2} (hr : AugIs op r) (h : tS X W cb (.augi o i op e) D σ H) : tAugS (tVar o) (tE X W cb i) (tE X W cb e) (rGetL X.K) r rSetL D σ H := by
  obtain ⟨n0, F, φ, C, σd, z, h⟩ := h
  unfold runS at h
  split at h
  · rename_i l hl
    obtain ⟨v, h1, a, xs, e1, q1, q2, q3, q4, q5⟩ := z.sr.at_ o _ hl
    subst e1
    refine ⟨_, h1, fl_e z h fun rr C' k H' F' φ' s z' r' q => ?_⟩
    split at q
    · rename_i ki
      cases r'
      split at q
      · rename_i av hs
        have hH' : H' a = some (.lst xs) := s.keep _ _ q4 q2
        have hs' : (ixP l.length ki).bind (fun j => l[j]?) = some (.int av) := hs
        cases e3 : ixP l.length ki with
        | none => rw [e3] at hs'; cases hs'
        | some j =>
          rw [e3] at hs'
          have hs2 : l[j]? = some (.int av) := hs'
          obtain ⟨x, g1, g2⟩ := Reps.get (s.reps z.wf q5) hs2
          cases g2
          refine ⟨a, xs, ki, .int av, rfl, rfl, .inl (.inl hH'), ?_, fl_e z' q fun rb C2 b H2 F2 φ2 s2 z2 rb' q' => ?_⟩
          · show (ixN xs.length ki).bind (fun j => xs[j]?) = _
            rw [← q5.length, show ixN l.length ki = some j from e3]
            exact g1
          · split at q'
            · rename_i bv
              cases rb'
              split at q'
              · rename_i zv hz
                refine hr av bv zv H2 _ hz ?_
                obtain ⟨a', l', xs', res, k1, k2, k3, k4, k5⟩ := updL_ok z2 q'
                rw [h1] at k1
                cases k1
                unfold stiP at k4
                dsimp only at k4
                cases e4 : ixP l'.length ki with
                | none => rw [e4] at k4; cases k4
                | some j' =>
                  rw [e4] at k4
                  cases k4
                  refine ⟨a, xs', ki, j', rfl, rfl, k2, ?_, k5 _ (Reps.set (show Rep X.K X.mg F2 H2 (.int zv) (.int zv) from rfl) j' k3)⟩
                  rw [← k3.length]
                  exact e4
              · exact q'.elim
            · exact q'.elim
      · exact q.elim
    · exact q.elim
  · exact h.elim

/-! ### self.f = e -/
theorem putF_rep {K mg} {F : Addr → Prop} {H : Hp} {f : String} {y : P} {v : V} (hy : Rep K mg F H y v) : ∀ {ns : List String} {vs : List P} {fs : List (Str × V)}, fs.map (·.1) = objNames ns → Reps K mg F H vs (fs.map (·.2)) →
    (putF (Str.ofString f) v fs).map (·.1) = objNames (putN f y ns vs).1 ∧ Reps K mg F H (putN f y ns vs).2 ((putF (Str.ofString f) v fs).map (·.2))
  | [], vs, fs, h1, h2 => by
    cases fs with
    | cons _ _ => simp [objNames] at h1
    | nil =>
      have := h2.length
      simp at this
      subst this
      exact ⟨rfl, Reps.cons hy Reps.nil⟩
  | n :: ns, vs, [], h1, h2 => by simp [objNames] at h1
  | n :: ns, vs, (k, x) :: fs, h1, h2 => by
    simp only [List.map_cons, objNames, List.cons.injEq] at h1
    obtain ⟨rfl, h5⟩ := h1
    cases vs with
    | nil => cases h2
    | cons w vs =>
      obtain ⟨x', r, e1, h3, h4⟩ := h2
      simp only [List.map_cons, List.cons.injEq] at e1
      obtain ⟨rfl, rfl⟩ := e1
      by_cases hn : n = f
      · subst hn
        have e1 : putF (Str.ofString n) v ((Str.ofString n, x) :: fs) = (Str.ofString n, v) :: fs := if_pos rfl
        have e2 : putN n y (n :: ns) (w :: vs) = (n :: ns, y :: vs) := if_pos (by simp)
        rw [e1, e2]
        exact ⟨by simp only [List.map_cons, objNames]; rw [← h5]; try rfl, Reps.cons hy h4⟩
      · have e1 : putF (Str.ofString f) v ((Str.ofString n, x) :: fs) = (Str.ofString n, x) :: putF (Str.ofString f) v fs := if_neg fun q => hn (ofString_inj q)
        have e2 : putN f y (n :: ns) (w :: vs) = (n :: (putN f y ns vs).1, w :: (putN f y ns vs).2) := if_neg (by simpa using hn)
        rw [e1, e2]
        obtain ⟨g1, g2⟩ := putF_rep hy h5 h4
        exact ⟨by simp only [List.map_cons, objNames]; rw [g1]; try rfl, Reps.cons h3 g2⟩
theorem sta_imp {o : Nat} {f : String} {e : E} (T : TxOk X cb) (h : tS X W cb (.sta o f e) D σ H) : sFld X.K (tVar o) (tE X W cb e) (Str.ofString f) D σ H := by
  obtain ⟨n0, F, φ, C, σd, z, h⟩ := h
  unfold runS at h
  refine fl_a z h fun r C' v H' F' φ' s z' rr rv q => ?_
  cases e1 : datum (opA r) with
  | none => rw [e1] at q; exact q.elim
  | some y =>
    rw [e1] at q
    dsimp only at q
    split at q
    · rename_i n hl
      split at q
      · rename_i c ns vs hc
        split at q
        · rename_i hh
          simp only [Bool.and_eq_true, decide_eq_true_eq] at hh
          obtain ⟨u, h1, a, e2, h2⟩ := z'.sr.at_ o _ hl
          subst e2
          obtain ⟨hF, Ca, dx, fs, g1, g2, g3, g4⟩ := z'.wf.live n a _ hc h2
          obtain ⟨t1, t2⟩ := T.has c f hh.1 Ca g2
          have ry := datum_ok rr e1
          obtain ⟨p1, p2⟩ := putF_rep (f := f) ry g3 g4
          refine ⟨_, h1, a, Ca, dx, fs, rfl, g1, t1, t2, ?_, q σ _ F' φ' (cell_sst z'.wf hc h2) ⟨setcell_wf z'.wf hc h2 ⟨Ca, dx, _, upd_same, g2, p1, ?_⟩, setcell_sr z' hc h2⟩⟩
          · have : fs.length = ns.length := by
              have := congrArg List.length g3
              simpa [objNames] using this
            omega
          · have ss := cell_sst (u := .ins Ca dx (putF (Str.ofString f) v fs)) z'.wf hc h2
            exact Reps.mono ss.grow ss.keep _ _ p2
        · exact q.elim
      · exact q.elim
    · exact q.elim
end
end MP
/-! MP17: tests, loops, ends. -/
namespace MP
open PySem PySem.Spec PyProof.Rows L2
section
variable {X : Cx} {W : L2.WX} {cb : Cb} {n0 : Ent} {F F' F1 : Addr → Prop} {φ φ' φ1 : List Addr} {C C' C1 : CH} {H H' H1 : Hp} {D D' : Ends} {σ : L2.St} {σd : Env}
theorem PoS.ends {r : Fl} (hn : ∀ σ H, D.nx σ H → D'.nx σ H) (hr : ∀ v H, D.rt v H → D'.rt v H) (hb : ∀ σ H, D.bk σ H → D'.bk σ H) (hc : ∀ σ H, D.ct σ H → D'.ct σ H) (h : PoS X W n0 F φ H1 D r) : PoS X W n0 F φ H1 D' r := by
  cases r with
  | nx σd C' => exact fun σ' H' F' φ' s' z => hn _ _ (h σ' H' F' φ' s' z)
  | bk σd C' => exact fun σ' H' F' φ' s' z => hb _ _ (h σ' H' F' φ' s' z)
  | ct σd C' => exact fun σ' H' F' φ' s' z => hc _ _ (h σ' H' F' φ' s' z)
  | rt r C' => exact fun v H' F' φ' s w r => hr _ _ (h v H' F' φ' s w r)
  | ex e σd C' => exact h
  | no => exact h
/-- a test ahead -/
theorem fl_t {e : E} {f : Bool → CH → Fl} {Q1 : Bool → Hp → Prop} (z : St0 X n0 F φ C σd σ H) (h : PoS X W n0 F φ H D ((evalE cb e σd C).fl σd fun r C => match (view C (opA r)).bind truP with
      | some b => f b C
      | none => .no))
    (hk : ∀ b C' H' F' φ', Stp F φ C H F' φ' C' H' → St0 X n0 F' φ' C' σd σ H' → PoS X W n0 F' φ' H' D (f b C') → Q1 b H') : tT X W cb e σ H Q1 := by
  refine ⟨n0, F, φ, C, σd, z, ?_⟩
  cases q : evalE cb e σd C with
  | no => rw [q] at h; exact h
  | ex ee C' =>
    rw [q] at h
    exact fun cls d H' F' φ' s w er => h cls d σ H' F' φ' (s.sst z.wf) (z.step s w) er
  | ok r C' =>
    rw [q, Rs.fl_ok] at h
    rw [Rs.bnd_ok]
    cases e2 : (view C' (opA r)).bind truP with
    | none => rw [e2] at h; exact h
    | some b =>
      rw [e2] at h
      exact fun b' H' F' φ' s w e => by subst e; exact hk _ C' H' F' φ' s (z.step s w) (PoS.rebase (s.sst z.wf) h)
theorem nil_imp (h : tBk X W cb [] D σ H) : tNext D σ H := by
  obtain ⟨n0, F, φ, C, σd, z, h⟩ := h
  exact h σ H F φ SSt.refl z
theorem cons_imp {s : S} {r : List S} (h : tBk X W cb (s :: r) D σ H) : tSeq (tS X W cb s) (tBk X W cb r) D σ H := by
  obtain ⟨n0, F, φ, C, σd, z, h⟩ := h
  unfold runB at h
  refine ⟨n0, F, φ, C, σd, z, ?_⟩
  cases q : runS cb s σd C with
  | nx σ2 C2 =>
    rw [q] at h
    exact fun σ' H' F' φ' s' z' => ⟨n0, F', φ', C2, σ2, z', PoS.rebase s' h⟩
  | bk σ2 C2 => rw [q] at h; exact h
  | ct σ2 C2 => rw [q] at h; exact h
  | rt r C2 => rw [q] at h; exact h
  | ex e σ2 C2 => rw [q] at h; exact h
  | no => rw [q] at h; exact h
theorem ifs_imp {c : E} {a b : List S} (h : tS X W cb (.ifs c a b) D σ H) : tIfS (tT X W cb c) (tBk X W cb a) (tBk X W cb b) D σ H := by
  obtain ⟨n0, F, φ, C, σd, z, h⟩ := h
  unfold runS at h
  have h' : PoS X W n0 F φ H D ((evalE cb c σd C).fl σd fun r C => match (view C (opA r)).bind truP with
      | some t => (match t with
        | true => runB cb a σd C
        | false => runB cb b σd C)
      | none => .no) := by
    cases q : evalE cb c σd C with
    | no => rw [q] at h; exact h
    | ex ee C' => rw [q] at h; exact h
    | ok r C' =>
      rw [q, Rs.fl_ok] at h
      rw [Rs.fl_ok]
      cases e2 : (view C' (opA r)).bind truP with
      | none => rw [e2] at h; exact h
      | some t =>
        rw [e2] at h
        cases t <;> exact h
  refine fl_t (f := fun t C => match t with
        | true => runB cb a σd C
        | false => runB cb b σd C) z h' fun t C' H' F' φ' s z' q => ?_
  cases t with
  | true => rw [if_pos rfl]; exact ⟨n0, F', φ', C', σd, z', q⟩
  | false => rw [if_neg (by decide)]; exact ⟨n0, F', φ', C', σd, z', q⟩
theorem ret_imp {e : E} (h : tS X W cb (.ret e) D σ H) : tRet (tE X W cb e) D σ H := by
  obtain ⟨n0, F, φ, C, σd, z, h⟩ := h
  unfold runS at h
  refine fl_e z h fun r C' v H' F' φ' s z' rr q => ?_
  cases r with
  | v x => exact q v H' F' φ' z'.sr.ent z'.wf rr
  | fr l =>
    obtain ⟨a, xs, e1, hF, hL, hn, hH, hr⟩ := rr
    exact q v H' F' φ' z'.sr.ent z'.wf ⟨a, xs, e1, hF, hL, up_none z hn, hH, hr⟩
  | vw l => exact q v H' F' φ' z'.sr.ent z'.wf rr
  | cell n => exact q v H' F' φ' z'.sr.ent z'.wf rr
theorem rtn_imp (h : tS X W cb .rtn D σ H) : tRetN D σ H := by
  obtain ⟨n0, F, φ, C, σd, z, h⟩ := h
  unfold runS at h
  exact h .non H F φ z.sr.ent z.wf rfl
theorem exp_imp {e : E} (h : tS X W cb (.exp e) D σ H) : tDrop (tE X W cb e) D σ H := by
  obtain ⟨n0, F, φ, C, σd, z, h⟩ := h
  unfold runS at h
  exact fl_e z h fun r C' v H' F' φ' s z' rr q => q σ H' F' φ' SSt.refl z'
theorem brk_imp (h : tS X W cb .brk D σ H) : tBreak D σ H := by
  obtain ⟨n0, F, φ, C, σd, z, h⟩ := h
  unfold runS at h
  exact h σ H F φ SSt.refl z
theorem cnt_imp (h : tS X W cb .cnt D σ H) : tCont D σ H := by
  obtain ⟨n0, F, φ, C, σd, z, h⟩ := h
  unfold runS at h
  exact h σ H F φ SSt.refl z
theorem pas_imp (h : tS X W cb .pas D σ H) : tNext D σ H := by
  obtain ⟨n0, F, φ, C, σd, z, h⟩ := h
  unfold runS at h
  exact h σ H F φ SSt.refl z
theorem nev_imp (h : tS X W cb .nev D σ H) : tNever D σ H := by
  obtain ⟨n0, F, φ, C, σd, z, h⟩ := h
  unfold runS at h
  exact h
/-! ### loops -/
theorem for_imp {t : Tg} {k : Ik} {its : List E} {b : List S} (h : tS X W cb (.fr t k its b) D σ H) : tFor (tIt X W cb k its) (gT X.K t) (tBk X W cb b) D σ H := by
  obtain ⟨n0, F, φ, C, σd, z, h⟩ := h
  unfold runS at h
  refine ⟨n0, F, φ, C, σd, z, ?_⟩
  cases q : evalAs cb its σd C with
  | no => rw [q] at h; exact h
  | ex ee C' =>
    rw [q] at h
    exact fun cls d H' F' φ' s w er => h cls d σ H' F' φ' (s.sst z.wf) (z.step s w) er
  | ok as C' =>
    rw [q, Rs.fl_ok] at h
    rw [Rs.bnd_ok]
    cases e2 : (datA as).bind (itemsP k) with
    | none => rw [e2] at h; exact h
    | some ps =>
      rw [e2] at h
      intro J H1 F1 φ1 s1 w1 it
      have z1 := z.step s1 w1
      have h1 := PoS.rebase (s1.sst z.wf) h
      refine ⟨fun i m σ' H' => m = ps.length - i ∧ i ≤ ps.length ∧ ∃ F2 φ2 C2 σd2, SSt F1 φ1 H1 F2 φ2 H' ∧ St0 X n0 F2 φ2 C2 σd2 σ' H' ∧ PoS X W n0 F2 φ2 H' D (loopF (fun σ C => runB cb b σ C) t (ps.drop i) σd2 C2), ⟨_, rfl, Nat.zero_le _, F1, φ1, C', σd, SSt.refl, z1, h1⟩, ?_⟩
      rintro i m σ' H' ⟨rfl, hi, F2, φ2, C2, σd2, ss, z2, h2⟩
      obtain ⟨g1, g2⟩ := it.2 F2 φ2 C2 H' ss z2.wf
      by_cases hlt : i < ps.length
      · obtain ⟨g3, g4⟩ := g1 i hlt
        refine .inr ⟨g3, fun σ' H' => ∃ F2 φ2 C2 σd2, SSt F1 φ1 H1 F2 φ2 H' ∧ St0 X n0 F2 φ2 C2 σd2 σ' H' ∧ PoS X W n0 F2 φ2 H' D (loopF (fun σ C => runB cb b σ C) t (ps.drop (i + 1)) σd2 C2), fun σ'' H'' hp => ⟨_, Nat.sub_succ_lt_self _ _ hlt, rfl, hlt, hp⟩, fun x H3 hy => ?_⟩
        obtain ⟨F3, p, hp, s3, w3, rp⟩ := g4 x H3 hy
        have hdrop : ps.drop i = p :: ps.drop (i + 1) := by
          obtain ⟨hlt', e⟩ := List.getElem?_eq_some_iff.mp hp
          rw [← e]
          exact List.drop_eq_getElem_cons hlt'
        rw [hdrop] at h2
        have z3 := z2.step s3 w3
        have h3 := PoS.rebase (s3.sst z2.wf) h2
        unfold loopF at h3
        cases eb : bindT t p σd2 with
        | none => rw [eb] at h3; exact h3.elim
        | some σb =>
          rw [eb] at h3
          dsimp only at h3
          refine gT_ok z3.sr rp eb fun τ _ rτ => ⟨n0, F3, φ2, C2, σb, ⟨w3, rτ⟩, ?_⟩
          have ss3 : SSt F1 φ1 H1 F3 φ2 H3 := ss.trans (s3.sst z2.wf)
          cases qb : runB cb b σb C2 with
          | nx σ4 C4 => rw [qb] at h3; exact fun σ' H' F' φ' s' z' => ⟨F', φ', C4, σ4, ss3.trans s', z', PoS.rebase s' h3⟩
          | ct σ4 C4 => rw [qb] at h3; exact fun σ' H' F' φ' s' z' => ⟨F', φ', C4, σ4, ss3.trans s', z', PoS.rebase s' h3⟩
          | bk σ4 C4 => rw [qb] at h3; exact h3
          | rt r C4 => rw [qb] at h3; exact h3
          | ex e σ4 C4 => rw [qb] at h3; exact h3
          | no => rw [qb] at h3; exact h3
      · have : i = ps.length := by omega
        subst this
        rw [List.drop_length] at h2
        exact .inl ⟨g2, h2 σ' H' F2 φ2 SSt.refl z2⟩
theorem whl_imp {c : E} {b : List S} (h : tS X W cb (.whl c b) D σ H) : tWhile (tT X W cb c) (tBk X W cb b) D σ H := by
  obtain ⟨n0, F, φ, C, σd, z, h⟩ := h
  unfold runS at h
  unfold whileF at h
  split at h
  · rename_i hx
    generalize hr : Classical.choose (Classical.choose_spec hx) = r at h
    have hk : ∃ k, whileN (fun σ C => (evalE cb c σ C).bnd fun r C => opt ((view C (opA r)).bind truP) C) (fun σ C => runB cb b σ C) k σd C = some r := ⟨_, by rw [← hr]; exact Classical.choose_spec (Classical.choose_spec hx)⟩
    obtain ⟨k, hk⟩ := hk
    refine ⟨fun m σ' H' => ∃ F2 φ2 C2 σd2, SSt F φ H F2 φ2 H' ∧ St0 X n0 F2 φ2 C2 σd2 σ' H' ∧ whileN (fun σ C => (evalE cb c σ C).bnd fun r C => opt ((view C (opA r)).bind truP) C) (fun σ C => runB cb b σ C) m σd2 C2 = some r, ⟨k, F, φ, C, σd, SSt.refl, z, hk⟩, ?_⟩
    rintro m σ' H' ⟨F2, φ2, C2, σd2, ss, z2, hw⟩
    have h2 := PoS.rebase ss h
    cases m with
    | zero => cases hw
    | succ m =>
      unfold whileN at hw
      refine ⟨n0, F2, φ2, C2, σd2, z2, ?_⟩
      cases q : (evalE cb c σd2 C2).bnd fun r C => opt ((view C (opA r)).bind truP) C with
      | no => rw [q] at hw; cases hw; exact h2
      | ex e C3 =>
        rw [q] at hw
        cases hw
        exact fun cls d H' F' φ' s w er => h2 cls d σ' H' F' φ' (s.sst z2.wf) (z2.step s w) er
      | ok t C3 =>
        rw [q] at hw
        intro t' H3 F3 φ3 s3 w3 et
        subst et
        have z3 := z2.step s3 w3
        have ss3 := ss.trans (s3.sst z2.wf)
        have h3 := PoS.rebase (s3.sst z2.wf) h2
        cases t with
        | false =>
          cases hw
          rw [if_neg (by decide)]
          exact h3 σ' H3 F3 φ3 SSt.refl z3
        | true =>
          rw [if_pos rfl]
          refine ⟨fun σ' H' => ∃ F2 φ2 C2 σd2, SSt F φ H F2 φ2 H' ∧ St0 X n0 F2 φ2 C2 σd2 σ' H' ∧ whileN (fun σ C => (evalE cb c σ C).bnd fun r C => opt ((view C (opA r)).bind truP) C) (fun σ C => runB cb b σ C) m σd2 C2 = some r, fun σ'' H'' hp => ⟨m, Nat.lt_succ_self _, hp⟩, ⟨n0, F3, φ3, C3, σd2, z3, ?_⟩⟩
          dsimp only at hw
          cases qb : runB cb b σd2 C3 with
          | nx σ4 C4 => rw [qb] at hw; exact fun σ' H' F' φ' s' z' => ⟨F', φ', C4, σ4, ss3.trans s', z', hw⟩
          | ct σ4 C4 => rw [qb] at hw; exact fun σ' H' F' φ' s' z' => ⟨F', φ', C4, σ4, ss3.trans s', z', hw⟩
          | bk σ4 C4 => rw [qb] at hw; cases hw; exact h3
          | rt r C4 => rw [qb] at hw; cases hw; exact h3
          | ex e σ4 C4 => rw [qb] at hw; cases hw; exact h3
          | no => rw [qb] at hw; cases hw; exact h3
  · exact h.elim
end
end MP
/-! MP18: does the text stand as the small language says? Expressions. -/
namespace MP
open PySem PySem.Spec PyProof.Rows L2

/-- what is known of the text's own names -/
structure Gx where
  N : List Str
  fn : String → Bool
  nw : String → Bool
  cl : String → Bool
  con : String → Bool
def visB (sc : Scope) (x : Str) : Bool := match sc.names.lookup x with
  | some .local => true
  | some .cell => true
  | some .free => true
  | _ => false
def locB (sc : Scope) (x : Str) : Bool := match sc.names.lookup x with
  | some .local => true
  | some .cell => true
  | _ => false
def glB (sc : Scope) (x : Str) : Bool := sc.names.lookup x == some .globalImplicit
def relS (scope sc : Scope) : Scope := { scope with names := scope.names.map fun (n, k) => if (k == NameKind.free && sc.kind == .function && sc.names.lookup n == some .cell) then (n, NameKind.cell) else (n, k) }
def dbg : Str := "__debug__"
def okName (x : Str) : Bool := !(x == dbg) && !(x == ("__classdict__" : Str))
def conE : P → Expr → Bool
  | .non, .Constant .none _ _ => true
  | .bl b, .Constant (.bool c) _ _ => b == c
  | .int i, .Constant (.int j) _ _ => i == j
  | .str s, .Constant (.str t) _ _ => s == t
  | _, _ => false
def bopE : Bop → Operator → Bool
  | .add, .Add => true
  | .sub, .Sub => true
  | .mul, .Mult => true
  | .fdiv, .FloorDiv => true
  | .mod, .Mod => true
  | .pow, .Pow => true
  | .shl, .LShift => true
  | .shr, .RShift => true
  | .band, .BitAnd => true
  | .bor, .BitOr => true
  | .bxor, .BitXor => true
  | _, _ => false
def copE : Cop → CmpOp → Bool
  | .eq, .Eq => true
  | .ne, .NotEq => true
  | .lt, .Lt => true
  | .le, .LtE => true
  | .gt, .Gt => true
  | .ge, .GtE => true
  | .is, .Is => true
  | .isn, .IsNot => true
  | .isin, .In => true
  | .nin, .NotIn => true
  | _, _ => false
def biName : Bi → String
  | .len => "len"
  | .abs => "abs"
  | .min2 => "min"
  | .max2 => "max"
  | .minl => "min"
  | .maxl => "max"
  | .suml => "sum"
  | .alll => "all"
  | .anyl => "any"
  | .sortd => "sorted"
  | .list => "list"
  | .tuple => "tuple"
  | .int => "int"
  | .bool => "bool"
  | .str => "str"
  | .lrange1 => "list"
  | .lrange2 => "list"
def isRg : Bi → Nat
  | .lrange1 => 1
  | .lrange2 => 2
  | _ => 0
def plainIx : Expr → Bool
  | .Slice _ _ _ _ => false
  | _ => true
def isTupE : Expr → Bool
  | .Tuple _ _ _ => true
  | _ => false
def isSetE : Expr → Bool
  | .Set _ _ _ => true
  | _ => false
def isLc : Expr → Bool
  | .ListComp _ _ _ _ => true
  | .SetComp _ _ _ _ => true
  | .DictComp _ _ _ _ _ => true
  | _ => false
/-- a source -/
def chkI (sc : Scope) (ces : List Expr → Bool) (k : Ik) (tg iter : Expr) : Bool := match k with
  | .val => ces [iter] && !isSetE iter
  | .rng1 => match iter with
    | .Call (.Name x _) [e] [] _ => x == ("range" : Str) && glB sc x && ces [e]
    | _ => false
  | .rng2 => match iter with
    | .Call (.Name x _) [e, f] [] _ => x == ("range" : Str) && glB sc x && ces [e, f]
    | _ => false
  | .enum => isTupE tg && match iter with
    | .Call (.Name x _) [e] [] _ => x == ("enumerate" : Str) && glB sc x && ces [e]
    | _ => false
  | .zip => isTupE tg && match iter with
    | .Call (.Name x _) [e, f] [] _ => x == ("zip" : Str) && glB sc x && ces [e, f]
    | _ => false
  | .rrng1 => match iter with
    | .Call (.Name y _) [.Call (.Name x _) [e] [] _] [] _ => y == ("reversed" : Str) && glB sc y && x == ("range" : Str) && glB sc x && ces [e]
    | _ => false
  | .rrng2 => match iter with
    | .Call (.Name y _) [.Call (.Name x _) [e, f] [] _] [] _ => y == ("reversed" : Str) && glB sc y && x == ("range" : Str) && glB sc x && ces [e, f]
    | _ => false
  | .rev => match iter with
    | .Call (.Name y _) [e] [] _ => y == ("reversed" : Str) && glB sc y && ces [e]
    | _ => false
def nmE (N : List Str) (ok : Str → Bool) : List Nat → List Expr → Bool
  | [], [] => true
  | i :: is, .Name x _ :: es => decide (N[i]? = some x) && ok x && nmE N ok is es
  | _, _ => false
def chkTg (N : List Str) (ok : Str → Bool) : Tg → Expr → Bool
  | .nm i, .Name x _ => decide (N[i]? = some x) && ok x
  | .tp is, .Tuple es _ _ => nmE N ok is es
  | _, _ => false
def ownE : List Nat → List Expr → List (Str × Nat)
  | i :: is, .Name x _ :: es => (x, i) :: ownE is es
  | _, _ => []
def ownT : Tg → Expr → List (Str × Nat)
  | .nm i, .Name x _ => [(x, i)]
  | .tp is, .Tuple es _ _ => ownE is es
  | _, _ => []
def clE (G : Gx) (sc : Scope) (t : String) (e : Expr) : Bool := match e with
  | .Name x _ => x == Str.ofString t && glB sc x && okName x && (tyNames.contains t || G.cl t)
  | _ => false
def clEs (G : Gx) (sc : Scope) : List String → List Expr → Bool
  | [], [] => true
  | t :: ts, e :: es => clE G sc t e && clEs G sc ts es
  | _, _ => false
mutual
def tstB : E → Bool
  | .ite _ _ _ => false
  | .not a => tstB a
  | .and l => tstBs l
  | .or l => tstBs l
  | _ => true
def tstBs : List E → Bool
  | [] => true
  | a :: l => tstB a && tstBs l
end
/-- a test of a statement -/
def tstS (a : E) (e : Expr) : Bool := plainT e || (isBl a && tstB a)
mutual
def chkE (G : Gx) (sc : Scope) : E → Expr → Bool
  | .var i, e => match e with
    | .Name x _ => decide (G.N[i]? = some x) && visB sc x && okName x
    | _ => false
  | .con p, e => conE p e
  | .glo x, e => match e with
    | .Name y _ => y == Str.ofString x && glB sc y && okName y && G.con x
    | _ => false
  | .bin op a b, e => match e with
    | .BinOp l o r _ => bopE op o && chkE G sc a l && chkE G sc b r
    | _ => false
  | .neg a, e => match e with
    | .UnaryOp .USub l _ => chkE G sc a l
    | _ => false
  | .cmp op a b, e => match e with
    | .Compare l [o] [r] _ => copE op o && chkE G sc a l && chkE G sc b r && !behindInMarks o r
    | _ => false
  | .chn o1 o2 a b c, e => match e with
    | .Compare l [p1, p2] [m, r] _ => copE o1 p1 && copE o2 p2 && chkE G sc a l && chkE G sc b m && chkE G sc c r && !lastMarks [p1, p2] [m, r]
    | _ => false
  | .and l, e => match e with
    | .BoolOp .And es _ => !es.isEmpty && chkEs G sc l es
    | _ => false
  | .or l, e => match e with
    | .BoolOp .Or es _ => !es.isEmpty && chkEs G sc l es
    | _ => false
  | .not a, e => match e with
    | .UnaryOp .Not l _ => chkE G sc a l
    | _ => false
  | .ite c a b, e => match e with
    | .IfExp t l r _ => chkE G sc c t && tstS c t && chkE G sc a l && chkE G sc b r
    | _ => false
  | .tup l, e => match e with
    | .Tuple es _ _ => chkEs G sc l es
    | _ => false
  | .lst l, e => match e with
    | .List es _ => chkEs G sc l es
    | _ => false
  | .sub a i, e => match e with
    | .Subscript l r _ => chkE G sc a l && chkE G sc i r && plainIx r
    | _ => false
  | .slc a lo hi, e => match e with
    | .Subscript l (.Slice lo' hi' none _) _ => chkE G sc a l && chkEs G sc lo lo'.toList && chkEs G sc hi hi'.toList
    | _ => false
  | .rev a, e => match e with
    | .Subscript l (.Slice none none (some (.UnaryOp .USub (.Constant (.int i) _ _) _)) _) _ => i == 1 && chkE G sc a l
    | _ => false
  | .att a f, e => match e with
    | .Attribute l g _ => g == Str.ofString f && chkE G sc a l && supB l
    | _ => false
  | .call f l, e => match e with
    | .Call (.Name x _) es [] _ => x == Str.ofString f && glB sc x && okName x && G.fn f && chkEs G sc l es
    | _ => false
  | .callb f l, e => match e with
    | .Call (.Name x _) es [] _ => x == Str.ofString f && glB sc x && okName x && G.fn f && chkEs G sc l es
    | _ => false
  | .new c l, e => match e with
    | .Call (.Name x _) es [] _ => x == Str.ofString c && glB sc x && okName x && G.nw c && chkEs G sc l es
    | _ => false
  | .mth a m l, e => match e with
    | .Call (.Attribute o x ap) es [] p => x == Str.ofString m && chkE G sc a o && supB o && decide (es.length < 30) && (ap.endLine == p.line) && chkEs G sc l es
    | _ => false
  | .bi f l, e => match e with
    | .Call (.Name x _) es [] _ => x == Str.ofString (biName f) && glB sc x && (match isRg f with
      | 0 => !es.isEmpty && chkEs G sc l es
      | 1 => (match es with
        | [.Call (.Name y _) [e] [] _] => y == ("range" : Str) && glB sc y && chkEs G sc l [e]
        | _ => false)
      | _ => (match es with
        | [.Call (.Name y _) [e, f] [] _] => y == ("range" : Str) && glB sc y && chkEs G sc l [e, f]
        | _ => false))
    | _ => false
  | .isi a ts, e => match e with
    | .Call (.Name x _) [o, k] [] _ => x == ("isinstance" : Str) && glB sc x && chkE G sc a o && noStar o && noStar k && (match k with
      | .Tuple ks _ _ => !ts.isEmpty && decide (ks.length ≤ 100) && ks.all noStar && clEs G sc ts ks
      | k => (match ts with
        | [t] => clE G sc t k
        | _ => false))
    | _ => false
  | .eqo a b, e => match e with
    | .Compare l [.Eq] [r] _ => chkE G sc a l && chkE G sc b r && !behindInMarks .Eq r
    | _ => false
  | .comp elt t k its cs, e => match e with
    | .ListComp el [⟨tg, iter, ifs, 0⟩] scope _ => chkE G (relS scope sc) elt el && chkEs G (relS scope sc) cs ifs && tstBs cs && decide (cs.length ≤ 1) && chkI sc (fun es => chkEs G sc its es) k tg iter &&
        chkTg G.N (locB scope) t tg && blkC G.N sc scope (ownT t tg) && decide (slotsT t).Nodup
    | _ => false
def chkEs (G : Gx) (sc : Scope) : List E → List Expr → Bool
  | [], [] => true
  | a :: l, e :: es => chkE G sc a e && noStar e && chkEs G sc l es
  | _, _ => false
end
end MP
/-! MP19: a text that passes chkE does what the small language says. -/
namespace MP
open PySem PySem.Spec PyProof.Rows L2

structure Cxt (G : Gx) (sc : Scope) (X : Cx) (W : L2.WX) (cb : Cb) : Prop where
  sc_ : X.env.scope = sc
  N_ : X.N = G.N
  nd : X.N.Nodup
  calm : X.calm = true
  tk : Takes X W
  tx : TxOk X cb
  ro : ∀ t r, cb.isi "?" t ≠ some r
  un : X.A.units + 64 < cLine
  call : ∀ f, G.fn f = true → CallOk X f (cb.call f)
  new : ∀ c, G.nw c = true → ∃ g, NewOk X c g ∧ ∀ as C, cb.new c as C = mkNew c g as C
  mth : ∀ c m, cb.mok c m = true → MthOk X c m (cb.mth c m)
  con : ∀ x, G.con x = true → ∃ v, cb.con x = some v
  cls : ∀ t, G.cl t = true → ∃ C, X.mg (Str.ofString t) = some (.ref C)
theorem visB_ok {sc : Scope} {x : Str} (h : visB sc x = true) : Vis sc x := by
  unfold visB at h
  split at h
  · rename_i e; exact .inl e
  · rename_i e; exact .inr (.inl e)
  · rename_i e; exact .inr (.inr e)
  · cases h
theorem locB_ok {sc : Scope} {x : Str} (h : locB sc x = true) : Loc sc x := by
  unfold locB at h
  split at h
  · rename_i e; exact .inl e
  · rename_i e; exact .inr e
  · cases h
theorem relS_eq (scope : Scope) (env : PySem.Env) : relabel scope env = relS scope env.scope := rfl
theorem relS_local {scope sc : Scope} {x : Str} (h : scope.names.lookup x = some .local) : (relS scope sc).names.lookup x = some .local :=
  lookup_relabel_local (env := { (default : PySem.Env) with scope := sc }) h
theorem relS_cell {scope sc : Scope} {x : Str} (h : scope.names.lookup x = some .cell) : (relS scope sc).names.lookup x = some .cell := by
  show (scope.names.map fun (n, k) => if (k == NameKind.free && sc.kind == .function && sc.names.lookup n == some .cell) then (n, NameKind.cell) else (n, k)).lookup x = some .cell
  generalize scope.names = names at h
  induction names with
  | nil => simp at h
  | cons q r ih =>
    obtain ⟨n, k⟩ := q
    rw [List.map_cons]
    show List.lookup x ((if (k == NameKind.free && sc.kind == .function && sc.names.lookup n == some .cell) = true then (n, NameKind.cell) else (n, k)) :: _) = _
    cases hx : x == n with
    | true =>
      simp only [List.lookup_cons, hx] at h
      cases h
      simp [List.lookup_cons, hx]
    | false =>
      simp only [List.lookup_cons, hx] at h
      by_cases hc : (k == NameKind.free && sc.kind == .function && sc.names.lookup n == some .cell) = true
      · rw [if_pos hc]; simp only [List.lookup_cons, hx]; exact ih h
      · rw [if_neg hc]; simp only [List.lookup_cons, hx]; exact ih h
theorem okName_ok {x : Str} (h : okName x = true) : (x == ("__debug__" : Str)) = false ∧ (x == ("__classdict__" : Str)) = false := by
  unfold okName dbg at h
  simp only [Bool.and_eq_true, Bool.not_eq_true'] at h
  exact h
theorem tE_cg {X Y : Cx} {W : L2.WX} {cb : Cb} {e : E} {σ : L2.St} {H : Hp} {Q : VK} (hK : Y.K = X.K) (hm : Y.mg = X.mg) (h : tE X W cb e σ H Q) : tE Y W cb e σ H Q := by
  obtain ⟨n0, F, φ, C, σd, z, h⟩ := h
  refine ⟨n0, F, φ, C, σd, ⟨by rw [hK, hm]; exact z.wf, by rw [hK, hm]; exact z.sr⟩, ?_⟩
  rw [hK, hm]
  exact h
theorem tBl_cg {X Y : Cx} {W : L2.WX} {cb : Cb} {e : E} {σ : L2.St} {H : Hp} {Q : Bool → Hp → Prop} (hK : Y.K = X.K) (hm : Y.mg = X.mg) (h : tBl X W cb e σ H Q) : tBl Y W cb e σ H Q := tE_cg hK hm h
theorem gl_of {G sc X W cb} (c : Cxt G sc X W cb) {x : Str} (h : glB sc x = true) : Gl X x := by
  have : sc.names.lookup x = some .globalImplicit := by simpa [glB] using h
  show X.env.scope.names.lookup x = _
  rw [c.sc_]
  exact this
/-- inside a comprehension -/
theorem Cxt.blk {G sc X W cb} (c : Cxt G sc X W cb) (s : Shared) (H : Hp) (scope : Scope) (C : Addr) (cl : List (Str × Addr)) (fp : List Addr) : Cxt G (relS scope sc) (X.blk s H scope (compEnvC scope cl C X.env) fp) Wno cb where
  sc_ := by show relabel scope X.env = _; rw [relS_eq, c.sc_]
  N_ := c.N_
  nd := c.nd
  calm := c.calm
  tk := fun u s' ⟨a, B, sI, pins, σ, H, cls, d, e, I, nb, up, sky, na, os, ag, w⟩ => w
  tx := ⟨c.tx.blt, c.tx.con, c.tx.isi, c.tx.ins, c.tx.has⟩
  ro := c.ro
  un := c.un
  call := fun f h => ⟨(c.call f h).ex⟩
  new := fun f h => let ⟨g, h1, h2⟩ := c.new f h; ⟨g, ⟨h1.ex⟩, h2⟩
  mth := fun f m h => ⟨(c.mth f m h).ex⟩
  con := c.con
  cls := c.cls
/-- a comprehension's parts -/
def LcOk (X : Cx) (W : L2.WX) (cb : Cb) (e : Expr) (elt : E) (t : Tg) (k : Ik) (its cs : List E) : Prop :=
  ∃ el tg iter ifs scope pos own, e = .ListComp el [⟨tg, iter, ifs, 0⟩] scope pos ∧ BlkOk X.N X.env.scope scope own ∧ own.map (·.2) = slotsT t ∧ (slotsT t).Nodup ∧ cs.length ≤ 1 ∧ PI X tg iter (tIt X W cb k its) ∧
    (∀ (s : Shared) (H : Hp) (C : Addr) (cl : List (Str × Addr)) (fp : List Addr), PG (X.blk s H scope (compEnvC scope cl C X.env) fp) tg (gT X.K t)) ∧
    (∀ (s : Shared) (H : Hp) (C : Addr) (cl : List (Str × Addr)) (fp : List Addr), PTs (X.blk s H scope (compEnvC scope cl C X.env) fp) ifs (tCs X cb cs)) ∧
    (∀ (s : Shared) (H : Hp) (C : Addr) (cl : List (Str × Addr)) (fp : List Addr), PE (X.blk s H scope (compEnvC scope cl C X.env) fp) el (tE X Wno cb elt)) ∧ ∀ x, foldedSetIterable iter X.env x = pure x
def Sim3 (X : Cx) (W : L2.WX) (cb : Cb) (e : Expr) (a : E) : Prop := SimE X W cb e a ∧ (tstB a = true → SimB X W cb e a) ∧ (∀ elt t k its cs, a = .comp elt t k its cs → LcOk X W cb e elt t k its cs)
section
variable {G : Gx} {sc : Scope} {X : Cx} {W : L2.WX} {cb : Cb}
theorem s3_plain {e : Expr} {a : E} (h : SimE X W cb e a) (hp : plainT e = true) (hc : ∀ elt t k its cs, a ≠ .comp elt t k its cs) : Sim3 X W cb e a := ⟨h, fun _ => simB_plain h hp, fun elt t k its cs e' => absurd e' (hc elt t k its cs)⟩
theorem bop_ok {ea eb : Expr} {a b : E} {op : Bop} {o : Operator} {pos : Pos} (h : bopE op o = true) (ha : SimE X W cb ea a) (hb : SimE X W cb eb b) : SimE X W cb (.BinOp ea o eb pos) (.bin op a b) := by
  cases op <;> cases o <;> first | cases h | skip
  · exact sim_bin ha hb op_addAll is_add
  · exact sim_bin ha hb op_sub is_sub
  · exact sim_bin ha hb op_mulAll is_mul
  · exact sim_bin ha hb op_fdivW is_fdiv
  · exact sim_bin ha hb op_mod is_mod
  · exact sim_bin ha hb op_pow is_pow
  · exact sim_bin ha hb op_shl is_shl
  · exact sim_bin ha hb op_shr is_shr
  · exact sim_bin ha hb op_and is_band
  · exact sim_bin ha hb op_or is_bor
  · exact sim_bin ha hb op_xor is_bxor
theorem cop_ok (c : Cxt G sc X W cb) {op : Cop} {o : CmpOp} (h : copE op o = true) : ∃ r, OpR X (compareOp o) r ∧ CmpIs X.K X.mg (cmpP op) r := by
  cases op <;> cases o <;> first | cases h | skip
  · exact ⟨_, op_eqAll c.un, is_eq⟩
  · exact ⟨_, op_neAll c.un, is_ne⟩
  · exact ⟨_, op_lt, is_lt⟩
  · exact ⟨_, op_le, is_le⟩
  · exact ⟨_, op_gt, is_gt⟩
  · exact ⟨_, op_ge, is_ge⟩
  · exact ⟨_, op_isN.or op_is_bl, is_is⟩
  · exact ⟨_, op_notN.or op_isnot_bl, is_isn⟩
  · exact ⟨_, op_inAll, is_in⟩
  · exact ⟨_, op_notInAll, is_nin⟩
theorem bi_ok (c : Cxt G sc X W cb) {f : Bi} {e : Expr} {es : List Expr} {as : List E} {p pos : Pos} (hr : isRg f = 0) (hg : Gl X (Str.ofString (biName f))) (ha : SimAs X W cb (e :: es) as) (he : starEach (e :: es) X.env = (false, eval e X.env) :: starEach es X.env) (hpl : (backTo pos (starEach es X.env)).any (·.1) = false) :
    SimE X W cb (.Call (.Name (Str.ofString (biName f)) p) (e :: es) [] pos) (.bi f as) := by
  have cm := c.calm
  have bl := c.tx.blt
  cases f with
  | len => exact PE.imp (pe_callB call_len hg (bl "len" (by decide)) boot_len ha (by decide) (by decide) he hpl) fun σ H Q h => bi_imp bi_len h
  | abs => exact PE.imp (pe_callB call_abs hg (bl "abs" (by decide)) boot_abs ha (by decide) (by decide) he hpl) fun σ H Q h => bi_imp bi_abs h
  | min2 => exact PE.imp (pe_callB (call_min2 cm) hg (bl "min" (by decide)) boot_min ha (by decide) (by decide) he hpl) fun σ H Q h => bi_imp bi_min2 h
  | max2 => exact PE.imp (pe_callB (call_max2 cm) hg (bl "max" (by decide)) boot_max ha (by decide) (by decide) he hpl) fun σ H Q h => bi_imp bi_max2 h
  | minl => exact PE.imp (pe_callB (cr_min cm) hg (bl "min" (by decide)) boot_min ha (by decide) (by decide) he hpl) fun σ H Q h => bi_imp bi_minl h
  | maxl => exact PE.imp (pe_callB (cr_max cm) hg (bl "max" (by decide)) boot_max ha (by decide) (by decide) he hpl) fun σ H Q h => bi_imp bi_maxl h
  | suml => exact PE.imp (pe_callB (cr_sum cm) hg (bl "sum" (by decide)) boot_sum ha (by decide) (by decide) he hpl) fun σ H Q h => bi_imp bi_suml h
  | alll => exact PE.imp (pe_callB (cr_all cm) hg (bl "all" (by decide)) boot_all ha (by decide) (by decide) he hpl) fun σ H Q h => bi_imp bi_alll h
  | anyl => exact PE.imp (pe_callB (cr_any cm) hg (bl "any" (by decide)) boot_any ha (by decide) (by decide) he hpl) fun σ H Q h => bi_imp bi_anyl h
  | sortd => exact PE.imp (pe_callB cr_sortedI hg (bl "sorted" (by decide)) boot_sorted ha (by decide) (by decide) he hpl) fun σ H Q h => bi_imp bi_sortd h
  | list => exact PE.imp (pe_callTy call_list_of hg (bl "list" (by decide)) boot_list ha (by decide) (by decide) he hpl) fun σ H Q h => bi_imp bi_list h
  | tuple => exact PE.imp (pe_callTy call_tuple_of hg (bl "tuple" (by decide)) boot_tuple ha (by decide) (by decide) he hpl) fun σ H Q h => bi_imp bi_tuple h
  | int => exact PE.imp (pe_callTy call_int1 hg (bl "int" (by decide)) boot_int ha (by decide) (by decide) he hpl) fun σ H Q h => bi_imp bi_int h
  | bool => exact PE.imp (pe_callTy call_bool1 hg (bl "bool" (by decide)) boot_bool ha (by decide) (by decide) he hpl) fun σ H Q h => bi_imp bi_bool h
  | str => exact PE.imp (pe_callTy call_str_int hg (bl "str" (by decide)) boot_str ha (by decide) (by decide) he hpl) fun σ H Q h => bi_imp bi_str h
  | lrange1 => cases hr
  | lrange2 => cases hr
end
end MP
/-! MP20: expressions, the induction. -/
namespace MP
open PySem PySem.Spec PyProof.Rows L2
section
variable {G : Gx} {sc : Scope} {X : Cx} {W : L2.WX} {cb : Cb}
/-- operands, each by itself and as a row -/
def SimL (X : Cx) (W : L2.WX) (cb : Cb) (es : List Expr) (l : List E) : Prop := Paired (Sim3 X W cb) es l ∧ es.all noStar = true
theorem SimL.as : ∀ {es : List Expr} {l : List E}, Paired (Sim3 X W cb) es l → es.all noStar = true → SimAs X W cb es l
  | _, _, .nil, _ => sim_as_nil
  | _, _, .cons h t, hs => by
    simp only [List.all_cons, Bool.and_eq_true] at hs
    exact sim_as_cons h.1 (SimL.as t hs.2) (star_cons hs.1)
theorem SimL.len {es : List Expr} {l : List E} (h : Paired (Sim3 X W cb) es l) : l.length = es.length := by
  induction h with
  | nil => rfl
  | cons _ _ ih => simp [ih]
theorem SimL.sims {es : List Expr} {l : List E} (h : Paired (Sim3 X W cb) es l) : Paired (SimE X W cb) es l := by
  induction h with
  | nil => exact .nil
  | cons h _ ih => exact .cons h.1 ih
theorem SimL.tests : ∀ {es : List Expr} {l : List E}, Paired (Sim3 X W cb) es l → tstBs l = true → Paired (SimB X W cb) es l
  | _, _, .nil, _ => .nil
  | _, _, .cons h t, hb => by
    unfold tstBs at hb
    simp only [Bool.and_eq_true] at hb
    exact .cons (h.2.1 hb.1) (SimL.tests t hb.2)
theorem star1 {e : Expr} {env : PySem.Env} (h : noStar e = true) : starEach [e] env = [(false, eval e env)] := star_cons h
theorem all1 {e : Expr} (h : [e].all noStar = true) : noStar e = true := by simpa using h
theorem all2 {e f : Expr} (h : [e, f].all noStar = true) : noStar e = true ∧ noStar f = true := by simpa using h
theorem folded_no {iter : Expr} {env : PySem.Env} (h : isSetE iter = false) : ∀ x, foldedSetIterable iter env x = pure x := by
  intro x
  cases iter <;> first | rfl | cases h
theorem chkI_ok (c : Cxt G sc X W cb) {ces : List Expr → Bool} {k : Ik} {its : List E} {tg iter : Expr} (hces : ∀ es, ces es = true → SimL X W cb es its) (h : chkI sc ces k tg iter = true) :
    PI X tg iter (tIt X W cb k its) ∧ ∀ x, foldedSetIterable iter X.env x = pure x := by
  have T := c.tx
  cases k with
  | val =>
    simp only [chkI, Bool.and_eq_true, Bool.not_eq_true'] at h
    obtain ⟨h1, h2⟩ := hces _ h.1
    cases h1 with
    | cons q t => cases t; exact ⟨src_val q.1, folded_no h.2⟩
  | rng1 =>
    simp only [chkI] at h
    split at h
    · simp only [Bool.and_eq_true, beq_iff_eq] at h
      obtain ⟨⟨rfl, hg⟩, h3⟩ := h
      obtain ⟨h1, h2⟩ := hces _ h3
      have hs := all1 h2
      have ha := SimL.as h1 h2
      cases h1 with
      | cons q t => cases t; exact ⟨src_rng1 T (gl_of c hg) ha (star1 hs), folded_no rfl⟩
    · cases h
  | rng2 =>
    simp only [chkI] at h
    split at h
    · simp only [Bool.and_eq_true, beq_iff_eq] at h
      obtain ⟨⟨rfl, hg⟩, h3⟩ := h
      obtain ⟨h1, h2⟩ := hces _ h3
      have ha := SimL.as h1 h2
      have hs := all2 h2
      cases h1 with
      | cons q t => cases t with
        | cons q' t => cases t; exact ⟨src_rng2 T (gl_of c hg) ha (by rw [star_cons hs.1, star1 hs.2]) (star1 hs.2), folded_no rfl⟩
    · cases h
  | enum =>
    simp only [chkI, Bool.and_eq_true] at h
    obtain ⟨h0, h⟩ := h
    cases tg <;> first | cases h0 | skip
    split at h
    · simp only [Bool.and_eq_true, beq_iff_eq] at h
      obtain ⟨⟨rfl, hg⟩, h3⟩ := h
      obtain ⟨h1, h2⟩ := hces _ h3
      have ha := SimL.as h1 h2
      have hs := all1 h2
      cases h1 with
      | cons q t => cases t; exact ⟨src_enum T (gl_of c hg) ha (star1 hs), folded_no rfl⟩
    · cases h
  | zip =>
    simp only [chkI, Bool.and_eq_true] at h
    obtain ⟨h0, h⟩ := h
    cases tg <;> first | cases h0 | skip
    split at h
    · simp only [Bool.and_eq_true, beq_iff_eq] at h
      obtain ⟨⟨rfl, hg⟩, h3⟩ := h
      obtain ⟨h1, h2⟩ := hces _ h3
      have ha := SimL.as h1 h2
      have hs := all2 h2
      cases h1 with
      | cons q t => cases t with
        | cons q' t => cases t; exact ⟨src_zip T (gl_of c hg) ha (star_cons hs.1) (star_pl (by simp [hs.2])), folded_no rfl⟩
    · cases h
  | rrng1 =>
    simp only [chkI] at h
    split at h
    · simp only [Bool.and_eq_true, beq_iff_eq] at h
      obtain ⟨⟨⟨⟨rfl, hg2⟩, rfl⟩, hg⟩, h3⟩ := h
      obtain ⟨h1, h2⟩ := hces _ h3
      have hs := all1 h2
      cases h1 with
      | cons q t => cases t; exact ⟨src_rrng1 T (gl_of c hg) (gl_of c hg2) q.1 (star1 hs), folded_no rfl⟩
    · cases h
  | rrng2 =>
    simp only [chkI] at h
    split at h
    · simp only [Bool.and_eq_true, beq_iff_eq] at h
      obtain ⟨⟨⟨⟨rfl, hg2⟩, rfl⟩, hg⟩, h3⟩ := h
      obtain ⟨h1, h2⟩ := hces _ h3
      have hs := all2 h2
      cases h1 with
      | cons q t => cases t with
        | cons q' t => cases t; exact ⟨src_rrng2 T (gl_of c hg) (gl_of c hg2) q.1 q'.1 (star_cons hs.1) (star1 hs.2) (star_pl (by simp [hs.2])), folded_no rfl⟩
    · cases h
  | rev =>
    simp only [chkI] at h
    split at h
    · simp only [Bool.and_eq_true, beq_iff_eq] at h
      obtain ⟨⟨rfl, hg2⟩, h3⟩ := h
      obtain ⟨h1, h2⟩ := hces _ h3
      have hs := all1 h2
      cases h1 with
      | cons q t => cases t; exact ⟨src_rev T (gl_of c hg2) q.1 (star1 hs), folded_no rfl⟩
    · cases h

/-! ### targets -/
theorem nmE_pgs {Y : Cx} {ok : Str → Bool} (hN : Y.N.Nodup) (hok : ∀ x, ok x = true → Loc Y.env.scope x ∧ (Y.fn x = true ∨ Y.env.scope.names.lookup x = some .local)) : ∀ {is : List Nat} {es : List Expr}, nmE Y.N ok is es = true →
    PGs Y es (gNs is) ∧ (assignEach es Y.env).length = is.length ∧ (assignEach es Y.env).findIdx? (·.1) = none
  | [], [], _ => ⟨pgs_nil, rfl, rfl⟩
  | [], _ :: _, h => by cases h
  | i :: is, [], h => by cases h
  | i :: is, e :: es, h => by
    cases e with
    | Name x p =>
      have h' : (decide (Y.N[i]? = some x) && ok x && nmE Y.N ok is es) = true := h
      simp only [Bool.and_eq_true, decide_eq_true_eq] at h'
      obtain ⟨⟨h1, h2⟩, h3⟩ := h'
      obtain ⟨g1, g2, g3⟩ := nmE_pgs hN hok h3
      obtain ⟨k1, k2⟩ := hok x h2
      refine ⟨pgs_cons (pg_name hN h1 k1 k2) g1 rfl, ?_, ?_⟩
      · show (assignEach es Y.env).length + 1 = is.length + 1
        rw [g2]
      · show ((false, assign (.Name x p) Y.env) :: assignEach es Y.env).findIdx? (·.1) = none
        rw [List.findIdx?_cons, g3]
        rfl
    | _ => cases h
theorem chkTg_pg {Y : Cx} {ok : Str → Bool} (hc : Y.calm = true) (hN : Y.N.Nodup) (hok : ∀ x, ok x = true → Loc Y.env.scope x ∧ (Y.fn x = true ∨ Y.env.scope.names.lookup x = some .local)) {t : Tg} {tg : Expr} (h : chkTg Y.N ok t tg = true) : PG Y tg (gT Y.K t) := by
  cases t with
  | nm i =>
    cases tg with
    | Name x p =>
      have h' : (decide (Y.N[i]? = some x) && ok x) = true := h
      simp only [Bool.and_eq_true, decide_eq_true_eq] at h'
      obtain ⟨k1, k2⟩ := hok x h'.2
      exact pg_name hN h'.1 k1 k2
    | _ => cases h
  | tp is =>
    cases tg with
    | Tuple es k p =>
      obtain ⟨g1, g2, g3⟩ := nmE_pgs hN hok (show nmE Y.N ok is es = true from h)
      exact pg_tup hc g1 g2 g3
    | _ => cases h
theorem ownE_snd {N : List Str} {ok : Str → Bool} : ∀ {is : List Nat} {es : List Expr}, nmE N ok is es = true → (ownE is es).map (·.2) = is
  | [], [], _ => rfl
  | [], _ :: _, h => by cases h
  | i :: is, [], h => by cases h
  | i :: is, e :: es, h => by
    cases e with
    | Name x p =>
      have h' : (decide (N[i]? = some x) && ok x && nmE N ok is es) = true := h
      simp only [Bool.and_eq_true] at h'
      show i :: (ownE is es).map (·.2) = i :: is
      rw [ownE_snd h'.2]
    | _ => cases h
theorem ownT_snd {N : List Str} {ok : Str → Bool} {t : Tg} {tg : Expr} (h : chkTg N ok t tg = true) : (ownT t tg).map (·.2) = slotsT t := by
  cases t with
  | nm i =>
    cases tg with
    | Name x p => rfl
    | _ => cases h
  | tp is =>
    cases tg with
    | Tuple es k p => exact ownE_snd (show nmE N ok is es = true from h)
    | _ => cases h

theorem clE_ok (c : Cxt G sc X W cb) {t : String} {e : Expr} (h : clE G sc t e = true) : NameT X t e := by
  unfold clE at h
  split at h
  · rename_i x p
    simp only [Bool.and_eq_true, beq_iff_eq, Bool.or_eq_true] at h
    obtain ⟨⟨⟨rfl, hg⟩, hn⟩, h4⟩ := h
    rcases h4 with h4 | h4
    · exact nameT_blt c.tx (by simpa using h4) (gl_of c hg)
    · obtain ⟨C, hC⟩ := c.cls t h4
      exact nameT_own (gl_of c hg) hC (okName_ok hn).1
  · cases h
theorem clEs_ok (c : Cxt G sc X W cb) : ∀ {ts : List String} {es : List Expr}, clEs G sc ts es = true → Paired (NameT X) ts es
  | [], [], _ => .nil
  | [], _ :: _, h => by cases h
  | _ :: _, [], h => by cases h
  | t :: ts, e :: es, h => by
    have h' : (clE G sc t e && clEs G sc ts es) = true := h
    simp only [Bool.and_eq_true] at h'
    exact .cons (clE_ok c h'.1) (clEs_ok c h'.2)
theorem tst_ok {e : Expr} {a : E} (h : Sim3 X W cb e a) (ht : tstS a e = true) : SimT X W cb e a := by
  unfold tstS at ht
  simp only [Bool.or_eq_true, Bool.and_eq_true] at ht
  rcases ht with ht | ht
  · exact sim_test h.1 (plainT_ok ht)
  · exact simT_bl (h.2.1 ht.2) ht.1
theorem simO_ok {o : Option Expr} {l : List E} (h : SimL X W cb o.toList l) : SimO X W cb o l := by
  obtain ⟨h, _⟩ := h
  cases o with
  | none => cases h; exact .none
  | some e => cases h with
    | cons q t => cases t; exact .some q.1
end
end MP
/-! MP21: expressions, the induction. -/
namespace MP
open PySem PySem.Spec PyProof.Rows L2
set_option maxHeartbeats 1000000
theorem con_ok {X : Cx} {W : L2.WX} {cb : Cb} {p : P} {e : Expr} (h : conE p e = true) : Sim3 X W cb e (.con p) := by
  unfold conE at h
  split at h
  · exact s3_plain (sim_con pe_non rfl) rfl (by intros; exact fun q => nomatch q)
  · rw [beq_iff_eq] at h; subst h; exact s3_plain (sim_con pe_bl rfl) rfl (by intros; exact fun q => nomatch q)
  · rw [beq_iff_eq] at h; subst h; exact s3_plain (sim_con pe_int rfl) rfl (by intros; exact fun q => nomatch q)
  · rw [beq_iff_eq] at h; subst h; exact s3_plain (sim_con pe_str rfl) rfl (by intros; exact fun q => nomatch q)
  · cases h
mutual
theorem chkE_ok {G : Gx} {cb : Cb} : ∀ (a : E) (e : Expr) {sc : Scope} {X : Cx} {W : L2.WX}, Cxt G sc X W cb → chkE G sc a e = true → Sim3 X W cb e a
  | .var i, e, sc, X, W, c, h => by
    unfold chkE at h
    split at h
    · simp only [Bool.and_eq_true, decide_eq_true_eq] at h
      obtain ⟨⟨h1, h2⟩, h3⟩ := h
      obtain ⟨d1, d2⟩ := okName_ok h3
      refine s3_plain (sim_var (by rw [c.N_]; exact h1) (by rw [c.sc_]; exact visB_ok h2) d1 d2) rfl (by intros; exact fun q => nomatch q)
    · cases h
  | .con p, e, sc, X, W, c, h => by
    unfold chkE at h
    exact con_ok h
  | .glo x, e, sc, X, W, c, h => by
    unfold chkE at h
    split at h
    · simp only [Bool.and_eq_true, beq_iff_eq] at h
      obtain ⟨⟨⟨rfl, hg⟩, hn⟩, hc⟩ := h
      obtain ⟨v, hv⟩ := c.con x hc
      obtain ⟨u, vv, g1, g2, g3⟩ := c.tx.con x v hv
      exact s3_plain (sim_glo (gl_of c hg) g1 g2 hv g3 (okName_ok hn).1) rfl (by intros; exact fun q => nomatch q)
    · cases h
  | .bin op a b, e, sc, X, W, c, h => by
    unfold chkE at h
    split at h
    · simp only [Bool.and_eq_true] at h
      exact s3_plain (bop_ok h.1.1 (chkE_ok a _ c h.1.2).1 (chkE_ok b _ c h.2).1) rfl (by intros; exact fun q => nomatch q)
    · cases h
  | .neg a, e, sc, X, W, c, h => by
    unfold chkE at h
    split at h
    · exact s3_plain (sim_neg (chkE_ok a _ c h).1) rfl (by intros; exact fun q => nomatch q)
    · cases h
  | .cmp op a b, e, sc, X, W, c, h => by
    unfold chkE at h
    split at h
    · simp only [Bool.and_eq_true, Bool.not_eq_true'] at h
      obtain ⟨⟨⟨h1, h2⟩, h3⟩, h4⟩ := h
      obtain ⟨r, g1, g2⟩ := cop_ok c h1
      exact ⟨sim_cmp (chkE_ok a _ c h2).1 (chkE_ok b _ c h3).1 g1 g2 h4, fun _ => simB_cmp (chkE_ok a _ c h2).1 (chkE_ok b _ c h3).1 g1 g2 h4, by intros _ _ _ _ _ q; cases q⟩
    · cases h
  | .chn o1 o2 a b d, e, sc, X, W, c, h => by
    unfold chkE at h
    split at h
    · simp only [Bool.and_eq_true, Bool.not_eq_true'] at h
      obtain ⟨⟨⟨⟨⟨h1, h2⟩, h3⟩, h4⟩, h5⟩, h6⟩ := h
      obtain ⟨r, g1, g2⟩ := cop_ok c h1
      obtain ⟨r', g3, g4⟩ := cop_ok c h2
      exact ⟨sim_chn (chkE_ok a _ c h3).1 (chkE_ok b _ c h4).1 (chkE_ok d _ c h5).1 g1 g3 g2 g4 h6, fun _ => simB_chn (chkE_ok a _ c h3).1 (chkE_ok b _ c h4).1 (chkE_ok d _ c h5).1 g1 g3 g2 g4 h6, by intros _ _ _ _ _ q; cases q⟩
    · cases h
  | .and l, e, sc, X, W, c, h => by
    unfold chkE at h
    split at h
    · rename_i es _
      simp only [Bool.and_eq_true, Bool.not_eq_true'] at h
      obtain ⟨g1, g2⟩ := chkEs_ok l es c h.2
      have hn : es ≠ [] := by rintro rfl; simp at h
      exact ⟨sim_and hn (SimL.sims g1), fun hb => simB_and hn (SimL.tests g1 (by unfold tstB at hb; exact hb)), by intros _ _ _ _ _ q; cases q⟩
    · cases h
  | .or l, e, sc, X, W, c, h => by
    unfold chkE at h
    split at h
    · rename_i es _
      simp only [Bool.and_eq_true, Bool.not_eq_true'] at h
      obtain ⟨g1, g2⟩ := chkEs_ok l es c h.2
      have hn : es ≠ [] := by rintro rfl; simp at h
      exact ⟨sim_or hn (SimL.sims g1), fun hb => simB_or hn (SimL.tests g1 (by unfold tstB at hb; exact hb)), by intros _ _ _ _ _ q; cases q⟩
    · cases h
  | .not a, e, sc, X, W, c, h => by
    unfold chkE at h
    split at h
    · have g := chkE_ok a _ c h
      exact ⟨sim_not g.1, fun hb => simB_not (g.2.1 (by unfold tstB at hb; exact hb)), by intros _ _ _ _ _ q; cases q⟩
    · cases h
  | .ite t a b, e, sc, X, W, c, h => by
    unfold chkE at h
    split at h
    · simp only [Bool.and_eq_true] at h
      obtain ⟨⟨⟨h1, h2⟩, h3⟩, h4⟩ := h
      exact ⟨sim_ite (tst_ok (chkE_ok t _ c h1) h2) (chkE_ok a _ c h3).1 (chkE_ok b _ c h4).1, fun (hb : tstB (.ite t a b) = true) => (by unfold tstB at hb; cases hb), by intros _ _ _ _ _ q; cases q⟩
    · cases h
  | .tup l, e, sc, X, W, c, h => by
    unfold chkE at h
    split at h
    · obtain ⟨g1, g2⟩ := chkEs_ok l _ c h
      exact s3_plain (sim_tup (SimL.as g1 g2)) rfl (by intros; exact fun q => nomatch q)
    · cases h
  | .lst l, e, sc, X, W, c, h => by
    unfold chkE at h
    split at h
    · obtain ⟨g1, g2⟩ := chkEs_ok l _ c h
      exact s3_plain (sim_lst (SimL.as g1 g2)) rfl (by intros; exact fun q => nomatch q)
    · cases h
  | .sub a i, e, sc, X, W, c, h => by
    unfold chkE at h
    split at h
    · rename_i l r _
      simp only [Bool.and_eq_true] at h
      refine s3_plain (sim_sub (chkE_ok a _ c h.1.1).1 (chkE_ok i _ c h.1.2).1 ?_) rfl (by intros; exact fun q => nomatch q)
      have h2 := h.2
      intro o i
      cases r <;> first | rfl | cases h2
    · cases h
  | .slc a lo hi, e, sc, X, W, c, h => by
    unfold chkE at h
    split at h
    · simp only [Bool.and_eq_true] at h
      exact s3_plain (sim_slc (chkE_ok a _ c h.1.1).1 (simO_ok (chkEs_ok lo _ c h.1.2)) (simO_ok (chkEs_ok hi _ c h.2))) rfl (by intros; exact fun q => nomatch q)
    · cases h
  | .rev a, e, sc, X, W, c, h => by
    unfold chkE at h
    split at h
    · simp only [Bool.and_eq_true, beq_iff_eq] at h
      obtain ⟨rfl, h⟩ := h
      exact s3_plain (sim_rev (chkE_ok a _ c h).1) rfl (by intros; exact fun q => nomatch q)
    · cases h
  | .att a f, e, sc, X, W, c, h => by
    unfold chkE at h
    split at h
    · simp only [Bool.and_eq_true, beq_iff_eq] at h
      obtain ⟨⟨rfl, h1⟩, h2⟩ := h
      exact s3_plain (sim_att c.tx (chkE_ok a _ c h1).1 h2) rfl (by intros; exact fun q => nomatch q)
    · cases h
  | .call f l, e, sc, X, W, c, h => by
    unfold chkE at h
    split at h
    · simp only [Bool.and_eq_true, beq_iff_eq] at h
      obtain ⟨⟨⟨⟨rfl, hg⟩, hn⟩, hf⟩, h5⟩ := h
      obtain ⟨g1, g2⟩ := chkEs_ok l _ c h5
      exact s3_plain (sim_call c.tk (c.call f hf) (SimL.len g1) (gl_of c hg) (SimL.as g1 g2) g2 (okName_ok hn).1) rfl (by intros; exact fun q => nomatch q)
    · cases h
  | .callb f l, e, sc, X, W, c, h => by
    unfold chkE at h
    split at h
    · simp only [Bool.and_eq_true, beq_iff_eq] at h
      obtain ⟨⟨⟨⟨rfl, hg⟩, hn⟩, hf⟩, h5⟩ := h
      obtain ⟨g1, g2⟩ := chkEs_ok l _ c h5
      exact s3_plain (sim_callb c.tk (c.call f hf) (SimL.len g1) (gl_of c hg) (SimL.as g1 g2) g2 (okName_ok hn).1) rfl (by intros; exact fun q => nomatch q)
    · cases h
  | .new k l, e, sc, X, W, c, h => by
    unfold chkE at h
    split at h
    · simp only [Bool.and_eq_true, beq_iff_eq] at h
      obtain ⟨⟨⟨⟨rfl, hg⟩, hn⟩, hf⟩, h5⟩ := h
      obtain ⟨g1, g2⟩ := chkEs_ok l _ c h5
      obtain ⟨g, k1, k2⟩ := c.new k hf
      exact s3_plain (sim_new c.tk k1 k2 (SimL.len g1) (gl_of c hg) (SimL.as g1 g2) g2 (okName_ok hn).1) rfl (by intros; exact fun q => nomatch q)
    · cases h
  | .mth a m l, e, sc, X, W, c, h => by
    unfold chkE at h
    split at h
    · simp only [Bool.and_eq_true, beq_iff_eq, decide_eq_true_eq] at h
      obtain ⟨⟨⟨⟨⟨rfl, h1⟩, h2⟩, h3⟩, h4⟩, h5⟩ := h
      obtain ⟨g1, g2⟩ := chkEs_ok l _ c h5
      exact s3_plain (sim_mth c.tk (fun k hk => c.mth k m hk) (chkE_ok a _ c h1).1 (SimL.len g1) (SimL.as g1 g2) h2 g2 h3 (by rw [beq_iff_eq]; exact h4)) rfl (by intros; exact fun q => nomatch q)
    · cases h
  | .bi f l, e, sc, X, W, c, h => by
    unfold chkE at h
    split at h
    · rename_i x p es pos
      simp only [Bool.and_eq_true, beq_iff_eq] at h
      obtain ⟨⟨rfl, hg⟩, h3⟩ := h
      split at h3
      · rename_i hr
        simp only [Bool.and_eq_true, Bool.not_eq_true'] at h3
        obtain ⟨g1, g2⟩ := chkEs_ok l es c h3.2
        cases es with
        | nil => simp at h3
        | cons e es =>
          have g2' := g2
          simp only [List.all_cons, Bool.and_eq_true] at g2'
          exact s3_plain (bi_ok c hr (gl_of c hg) (SimL.as g1 g2) (star_cons g2'.1) (star_pl g2'.2)) rfl (by intros; exact fun q => nomatch q)
      · rename_i hr
        split at h3
        · rename_i y p2 e1 p3
          simp only [Bool.and_eq_true, beq_iff_eq] at h3
          obtain ⟨⟨rfl, hg2⟩, h4⟩ := h3
          obtain ⟨g1, g2⟩ := chkEs_ok l _ c h4
          have hs := all1 g2
          cases f <;> first | (exact absurd hr (by decide)) | skip
          cases g1 with
          | cons q t => cases t; exact s3_plain (sim_lrange1 c.calm c.tx (gl_of c hg2) (gl_of c hg) q.1 (star1 hs)) rfl (by intros; exact fun q => nomatch q)
        · cases h3
      · rename_i hr0 hr1
        split at h3
        · rename_i y p2 e1 e2 p3
          simp only [Bool.and_eq_true, beq_iff_eq] at h3
          obtain ⟨⟨rfl, hg2⟩, h4⟩ := h3
          obtain ⟨g1, g2⟩ := chkEs_ok l _ c h4
          have hs := all2 g2
          cases f <;> first | (exact absurd rfl hr0) | (exact absurd rfl hr1) | skip
          cases g1 with
          | cons q t => cases t with
            | cons q' t => cases t; exact s3_plain (sim_lrange2 c.calm c.tx (gl_of c hg2) (gl_of c hg) q.1 q'.1 (star_cons hs.1) (star1 hs.2) (star_pl (by simp [hs.2]))) rfl (by intros; exact fun q => nomatch q)
        · cases h3
    · cases h
  | .isi a ts, e, sc, X, W, c, h => by
    unfold chkE at h
    split at h
    · rename_i x p o k pos
      simp only [Bool.and_eq_true, beq_iff_eq] at h
      obtain ⟨⟨⟨⟨⟨rfl, hg⟩, h1⟩, h2⟩, h3⟩, h4⟩ := h
      have g := (chkE_ok a o c h1).1
      split at h4
      · rename_i ks kk p2
        simp only [Bool.and_eq_true, Bool.not_eq_true', decide_eq_true_eq] at h4
        obtain ⟨⟨⟨h5, h6⟩, h7⟩, h8⟩ := h4
        exact s3_plain (sim_isiT c.tx c.ro (by rintro rfl; simp at h5) h6 (gl_of c hg) g (clEs_ok c h8) h7 (star_cons h2)) rfl (by intros; exact fun q => nomatch q)
      · split at h4
        · exact s3_plain (sim_isi1 c.tx c.ro (gl_of c hg) g (clE_ok c h4) (star_cons h2) (star1 h3) (star_pl (by simp [h3]))) rfl (by intros; exact fun q => nomatch q)
        · cases h4
    · cases h
  | .eqo a b, e, sc, X, W, c, h => by
    unfold chkE at h
    split at h
    · simp only [Bool.and_eq_true, Bool.not_eq_true'] at h
      exact ⟨sim_eqo (fun k hk => c.mth k "__eq__" hk) (chkE_ok a _ c h.1.1).1 (chkE_ok b _ c h.1.2).1 h.2, fun _ => simB_eqo (fun k hk => c.mth k "__eq__" hk) (chkE_ok a _ c h.1.1).1 (chkE_ok b _ c h.1.2).1 h.2, by intros _ _ _ _ _ q; cases q⟩
    · cases h
  | .comp elt t k its cs, e, sc, X, W, c, h => by
    unfold chkE at h
    split at h
    · rename_i el tg iter ifs scope pos
      simp only [Bool.and_eq_true, decide_eq_true_eq] at h
      obtain ⟨⟨⟨⟨⟨⟨⟨h1, h2⟩, h3⟩, h4⟩, h5⟩, h6⟩, h7⟩, h8⟩ := h
      obtain ⟨g1, g2⟩ := chkI_ok c (its := its) (fun es he => chkEs_ok its es c he) h5
      have ok : BlkOk X.N X.env.scope scope (ownT t tg) := by rw [c.N_, c.sc_]; exact blkOk_by h7
      have hg : ∀ (s : Shared) (H : Hp) (C : Addr) (cl : List (Str × Addr)) (fp : List Addr), PG (X.blk s H scope (compEnvC scope cl C X.env) fp) tg (gT X.K t) := fun s H C cl fp => by
        refine chkTg_pg (Y := X.blk s H scope (compEnvC scope cl C X.env) fp) (ok := locB scope) c.calm c.nd (fun x hx => ?_) (by show chkTg X.N _ t tg = true; rw [c.N_]; exact h6)
        show Loc (relabel scope X.env) x ∧ ((scope.names.lookup x == some .cell) = true ∨ (relabel scope X.env).names.lookup x = some .local)
        rw [relS_eq]
        rcases locB_ok hx with q | q
        · exact ⟨.inl (relS_local q), .inr (relS_local q)⟩
        · exact ⟨.inr (relS_cell q), .inl (by rw [q]; rfl)⟩
      have ht : ∀ (s : Shared) (H : Hp) (C : Addr) (cl : List (Str × Addr)) (fp : List Addr), PTs (X.blk s H scope (compEnvC scope cl C X.env) fp) ifs (tCs X cb cs) := fun s H C cl fp => by
        obtain ⟨k1, k2⟩ := chkEs_ok cs ifs (c.blk s H scope C cl fp) h2
        have k3 := SimL.tests k1 h3
        match cs, ifs, k3, h4 with
        | [], [], _, _ => exact pts_nil
        | [c1], [i1], .cons q .nil, _ => exact pts_one (PT.imp q fun σ H Q hh => tBl_cg (X := X) rfl rfl (show tBl X Wno cb c1 σ _ Q from hh))
      have he : ∀ (s : Shared) (H : Hp) (C : Addr) (cl : List (Str × Addr)) (fp : List Addr), PE (X.blk s H scope (compEnvC scope cl C X.env) fp) el (tE X Wno cb elt) := fun s H C cl fp =>
        PE.imp (chkE_ok elt el (c.blk s H scope C cl fp) h1).1 fun σ H Q hh => tE_cg (X := X) rfl rfl hh
      have lc : LcOk X W cb (.ListComp el [⟨tg, iter, ifs, 0⟩] scope pos) elt t k its cs := ⟨el, tg, iter, ifs, scope, pos, ownT t tg, rfl, ok, ownT_snd h6, h8, h4, g1, hg, ht, he, g2⟩
      have se : SimE X W cb (.ListComp el [⟨tg, iter, ifs, 0⟩] scope pos) (.comp elt t k its cs) := sim_comp c.calm c.nd ok (ownT_snd h6) h8 h4 g1 hg ht he g2
      exact ⟨se, fun _ => simB_plain se rfl, fun elt' t' k' its' cs' q => by cases q; exact lc⟩
    · cases h
theorem chkEs_ok {G : Gx} {cb : Cb} : ∀ (l : List E) (es : List Expr) {sc : Scope} {X : Cx} {W : L2.WX}, Cxt G sc X W cb → chkEs G sc l es = true → SimL X W cb es l
  | [], [], _, _, _, _, _ => ⟨.nil, rfl⟩
  | [], _ :: _, _, _, _, _, h => by unfold chkEs at h; cases h
  | _ :: _, [], _, _, _, _, h => by unfold chkEs at h; cases h
  | a :: l, e :: es, sc, X, W, c, h => by
    unfold chkEs at h
    simp only [Bool.and_eq_true] at h
    obtain ⟨g1, g2⟩ := chkEs_ok l es c h.2
    exact ⟨.cons (chkE_ok a e c h.1.1) g1, by simp [h.1.2, g2]⟩
end
end MP
/-! MP22: statements that pass chkS do what the small language says. -/
namespace MP
open PySem PySem.Spec PyProof.Rows L2
def storeB (G : Gx) (sc : Scope) (i : Nat) (x : Str) : Bool := decide (G.N[i]? = some x) && locB sc x
def readB (G : Gx) (sc : Scope) (i : Nat) (x : Str) : Bool := decide (G.N[i]? = some x) && visB sc x && okName x
def isStar : Expr → Bool
  | .Starred _ _ => true
  | _ => false
def swN (es : List Expr) (e : Expr) : Bool := match e with
  | .Tuple vs _ _ => !(es.length == 2 || es.length == 3) || vs.length != es.length || (vs.all (foldedForSure 8))
  | _ => true
def augE : Bop → Operator → Bool
  | .add, .Add => true
  | .sub, .Sub => true
  | .mul, .Mult => true
  | .fdiv, .FloorDiv => true
  | .mod, .Mod => true
  | .shl, .LShift => true
  | .shr, .RShift => true
  | .band, .BitAnd => true
  | .bor, .BitOr => true
  | .bxor, .BitXor => true
  | _, _ => false
def lmName : Lm → String
  | .append => "append"
  | .extend => "extend"
  | .insert => "insert"
  | .clear => "clear"
  | .pop => "pop"
  | .remove => "remove"
  | .reverse => "reverse"
  | .sort => "sort"
def lmB (m : Lm) (n : Nat) : Bool := match m with
  | .append => n == 1
  | .extend => n == 1
  | .insert => n == 2
  | .clear => n == 0
  | .reverse => n == 0
  | _ => false
mutual
def chkS (G : Gx) (sc : Scope) : S → Stmt → Bool
  | .set i a, st => match st with
    | .Assign [.Name x _] e _ => storeB G sc i x && chkE G sc a e
    | _ => false
  | .own i a, st => match st with
    | .Assign [.Name x _] e _ => storeB G sc i x && chkE G sc a e
    | _ => false
  | .setc i a, st => match st with
    | .Assign [.Name x _] e _ => storeB G sc i x && chkE G sc a e
    | _ => false
  | .frz _, _ => false
  | .drop _, _ => false
  | .par i j a b, st => match st with
    | .Assign [.Tuple [.Name x px, .Name y py] _ _] (.Tuple [e, f] _ _) _ => decide (G.N[i]? = some x) && decide (G.N[j]? = some y) && decide (i ≠ j) && (sc.names.lookup x == some .local) && (sc.names.lookup y == some .local) && (py.line == px.line) && (!(x == y)) &&
        !([e, f].all (foldedForSure 8)) && !([e, f].all (constantsAlone 8)) && chkEs G sc [a, b] [e, f]
    | _ => false
  | .unp is a, st => match st with
    | .Assign [.Tuple es _ _] e _ => nmE G.N (locB sc) is es && swN es e && chkE G sc a e
    | _ => false
  | .lm m i l, st => match st with
    | .Expr (.Call (.Attribute (.Name x _) f ap) es [] cp) _ => readB G sc i x && f == Str.ofString (lmName m) && lmB m es.length && (ap.endLine == cp.line) && chkEs G sc l es
    | _ => false
  | .sti o i a, st => match st with
    | .Assign [.Subscript (.Name x _) ix _] e _ => readB G sc o x && plainIx ix && chkE G sc i ix && chkE G sc a e
    | _ => false
  | .sta o f a, st => match st with
    | .Assign [.Attribute (.Name x _) g _] e _ => readB G sc o x && g == Str.ofString f && chkE G sc a e
    | _ => false
  | .aug i op a, st => match st with
    | .AugAssign (.Name x _) oo e _ => storeB G sc i x && augE op oo && chkE G sc a e
    | _ => false
  | .augi o i op a, st => match st with
    | .AugAssign (.Subscript (.Name x _) ix _) oo e _ => readB G sc o x && plainIx ix && augE op oo && chkE G sc i ix && chkE G sc a e
    | _ => false
  | .ifs c a b, st => match st with
    | .If t x y _ => chkE G sc c t && tstS c t && chkB G sc a x && chkB G sc b y
    | _ => false
  | .fr t k its b, st => match st with
    | .For tg iter body [] _ => chkI sc (fun es => chkEs G sc its es) k tg iter && chkTg G.N (locB sc) t tg && chkB G sc b body
    | _ => false
  | .whl c b, st => match st with
    | .While t body [] _ => chkE G sc c t && tstS c t && chkB G sc b body
    | _ => false
  | .ret a, st => match st with
    | .Return (some e) _ => chkE G sc a e
    | _ => false
  | .rtn, st => match st with
    | .Return none _ => true
    | _ => false
  | .exp a, st => match st with
    | .Expr e _ => chkE G sc a e && !isLc e
    | _ => false
  | .brk, st => match st with
    | .Break _ => true
    | _ => false
  | .cnt, st => match st with
    | .Continue _ => true
    | _ => false
  | .pas, st => match st with
    | .Pass _ => true
    | .Expr (.Constant (.str _) _ _) _ => true
    | _ => false
  | .nev, _ => true
  | .rse _ _, _ => false
def chkB (G : Gx) (sc : Scope) : List S → List Stmt → Bool
  | [], sts => sts.isEmpty
  | s :: r, sts => match s with
    | .frz _ => chkB G sc r sts
    | .drop _ => chkB G sc r sts
    | _ => match sts with
      | st :: sts => chkS G sc s st && chkB G sc r sts
      | [] => false
end
/-- a def's body -/
structure Cxs (G : Gx) (sc : Scope) (X : Cx) (W : L2.WX) (cb : Cb) : Prop where
  c : Cxt G sc X W cb
  po : PassesOwn (model X.prog X.w) X.A X.env X.xe
  fn : ∀ x, X.fn x = true
  kind : sc.kind = .function
section
variable {G : Gx} {sc : Scope} {X : Cx} {W : L2.WX} {cb : Cb}
theorem readB_ok (c : Cxt G sc X W cb) {i : Nat} {x : Str} {p : Pos} (h : readB G sc i x = true) : PE X (.Name x p) (tVar i) := by
  unfold readB at h
  simp only [Bool.and_eq_true, decide_eq_true_eq] at h
  obtain ⟨d1, d2⟩ := okName_ok h.2
  exact pe_var (by rw [c.N_]; exact h.1.1) (by rw [c.sc_]; exact visB_ok h.1.2) d1 d2
theorem isLc_sw {e : Expr} {t : Option Expr} {l : Nat} {env : PySem.Env} (h : isLc e = false) : swapsWith e t l env = pure false := by
  cases e <;> first | rfl | cases h
theorem other_sw {e t : Expr} {l : Nat} {env : PySem.Env} (h : ∀ x p, t ≠ .Name x p) : swapsWith e (some t) l env = pure false := by
  cases t with
  | Name x p => exact absurd rfl (h x p)
  | _ => cases e <;> rfl
theorem store_ps (z : Cxs G sc X W cb) {i : Nat} {x : Str} {e : Expr} {a : E} {st : S} {p pos : Pos} (hs : storeB G sc i x = true) (h : Sim3 X W cb e a) (hlc : isLc e = true → ∃ elt t k its cs, a = .comp elt t k its cs)
    (imp : ∀ D σ H, tS X W cb st D σ H → tAsg (tE X W cb a) (gName i) D σ H) : PS X (.Assign [.Name x p] e pos) (tS X W cb st) := by
  have c := z.c
  unfold storeB at hs
  simp only [Bool.and_eq_true, decide_eq_true_eq] at hs
  have hN : X.N[i]? = some x := by rw [c.N_]; exact hs.1
  have hL : Loc X.env.scope x := by rw [c.sc_]; exact locB_ok hs.2
  have plain : swapsWith e (some (.Name x p)) pos.line X.env = pure false → PS X (.Assign [.Name x p] e pos) (tS X W cb st) := fun q =>
    PS.imp (ps_set c.nd hN hL h.1 q (.inl (z.fn x))) imp
  by_cases hl : isLc e = true
  · obtain ⟨elt, t, k, its, cs, rfl⟩ := hlc hl
    obtain ⟨el, tg, iter, ifs, scope, pos', own, rfl, ok, hown, hsl, hcs, hi, hg, ht, he, hf⟩ := h.2.2 _ _ _ _ _ rfl
    have hsw : swapsWith (.ListComp el [⟨tg, iter, ifs, 0⟩] scope pos') (some (.Name x p)) pos.line X.env = pure (X.env.blockKind == .function && X.env.kindOf x == some .local && p.line == pos'.line && !(scope.names.any fun (n, k) => n == x && (k == .local || k == .cell))) := rfl
    generalize hb : (X.env.blockKind == .function && X.env.kindOf x == some .local && p.line == pos'.line && !(scope.names.any fun (n, k) => n == x && (k == .local || k == .cell))) = b at hsw
    cases b with
    | false => exact plain hsw
    | true =>
      simp only [Bool.and_eq_true, beq_iff_eq] at hb
      exact PS.imp (ps_setLc c.calm c.nd hN hb.1.1.2 hsw hi ok hg ht he hf) fun D σ H hh => comp_imp hown hsl hcs (imp D σ H hh)
  · exact plain (isLc_sw (by simpa using hl))
theorem chkE_lc {a : E} {e : Expr} (h : chkE G sc a e = true) (hl : isLc e = true) : ∃ elt t k its cs, a = .comp elt t k its cs := by
  cases a <;> first | exact ⟨_, _, _, _, _, rfl⟩ | skip
  all_goals
    exfalso
    unfold chkE at h
    first
      | (cases e <;> first | (cases hl; done) | (cases h; done))
      | (unfold conE at h; split at h <;> first | (cases hl; done) | (cases h; done))
theorem swN_ok {es : List Expr} {e : Expr} {k : Nat} {p : Pos} {env : PySem.Env} (h : swN es e = true) : swappedStores [.Tuple es k p] e env = pure none := by
  unfold swappedStores
  cases e with
  | Tuple vs k2 p2 =>
    have h' : (!(es.length == 2 || es.length == 3) || vs.length != es.length || (vs.all (foldedForSure 8))) = true := h
    dsimp only
    split
    · rfl
    · rename_i hn
      have hf : vs.all (foldedForSure 8) = true := by
        simp only [Bool.or_eq_true, not_or, Bool.not_eq_true] at hn h'
        rcases h' with (q | q) | q
        · rw [hn.1.1] at q; cases q
        · rw [hn.1.2] at q; cases q
        · exact q
      split
      · rfl
      · split
        · rfl
        · first | rfl | rw [if_pos hf]
  | _ => rfl
theorem aug_ok {op : Bop} {o : Operator} (h : augE op o = true) : ∃ r : R2, OpR X (inplaceOp o) r ∧ AugIs op r := by
  cases op <;> cases o <;> first | cases h | skip
  · exact ⟨_, iop_add, aug_add⟩
  · exact ⟨_, iop_sub, aug_sub⟩
  · exact ⟨_, iop_mul, aug_mul⟩
  · exact ⟨_, iop_fdiv, aug_fdiv⟩
  · exact ⟨_, iop_mod, aug_mod⟩
  · exact ⟨_, iop_shl, aug_shl⟩
  · exact ⟨_, iop_shr, aug_shr⟩
  · exact ⟨_, iop_and, aug_band⟩
  · exact ⟨_, iop_or, aug_bor⟩
  · exact ⟨_, iop_xor, aug_bxor⟩
theorem lm_ok (c : Cxt G sc X W cb) {m : Lm} {i : Nat} {x : Str} {l : List E} {es : List Expr} {q ap cp pos : Pos} (ho : PE X (.Name x q) (tVar i)) (hm : lmB m es.length = true) (hl : (ap.endLine == cp.line) = true) (g1 : Paired (Sim3 X W cb) es l) (g2 : es.all noStar = true) :
    PS X (.Expr (.Call (.Attribute (.Name x q) (Str.ofString (lmName m)) ap) es [] cp) pos) (tS X W cb (.lm m i l)) := by
  have few : ∀ {e : Expr} {es : List Expr}, es.length < 3 → (e :: es).all noStar = true → ((backTo cp (starEach (e :: es) X.env)).all (fun x => !x.1) && (backToKw cp (keywordEach [] X.env)).all (fun x => x.1.isSome)
      && decide ((e :: es).length + ([] : List Keyword).length + (if ([] : List Keyword).isEmpty then 0 else 1) < 30)) = true := fun {e es} hn hs => by
    have h1 := star_pl (pos := cp) (env := X.env) hs
    rw [List.any_eq_false] at h1
    have h2 : (backTo cp (starEach (e :: es) X.env)).all (fun x => !x.1) = true := by
      rw [List.all_eq_true]
      intro x hx
      have := h1 x hx
      simpa using this
    rw [h2]
    simp [backToKw, keywordEach]
    omega
  have one : ∀ {e : Expr} {es : List Expr}, (e :: es).all noStar = true → starEach (e :: es) X.env = (false, eval e X.env) :: starEach es X.env ∧ (backTo cp (starEach es X.env)).any (·.1) = false := fun {e es} hs => by
    simp only [List.all_cons, Bool.and_eq_true] at hs
    exact ⟨star_cons hs.1, star_pl hs.2⟩
  have ha := SimL.as g1 g2
  cases m with
  | append =>
    have hn : es.length = 1 := by simpa [lmB] using hm
    match es, hn with
    | [e], _ => exact PS.imp (ps_expr (pe_bm F.plainAttrs_list F.slot_list_append F.type_list_append mt_append ho ha rfl (few (by simp) g2) hl (one g2).1 (one g2).2) rfl) fun D σ H h => lm_imp lm_append h
  | extend =>
    have hn : es.length = 1 := by simpa [lmB] using hm
    match es, hn with
    | [e], _ => exact PS.imp (ps_expr (pe_bm F.plainAttrs_list F.slot_list_extend F.type_list_extend mt_extend ho ha rfl (few (by simp) g2) hl (one g2).1 (one g2).2) rfl) fun D σ H h => lm_imp lm_extend h
  | insert =>
    have hn : es.length = 2 := by simpa [lmB] using hm
    match es, hn with
    | [e, f], _ => exact PS.imp (ps_expr (pe_bm F.plainAttrs_list F.slot_list_insert F.type_list_insert mt_insert ho ha rfl (few (by simp) g2) hl (one g2).1 (one g2).2) rfl) fun D σ H h => lm_imp lm_insert h
  | clear =>
    have hn : es.length = 0 := by simpa [lmB] using hm
    match es, hn with
    | [], _ =>
      cases g1
      exact PS.imp (ps_expr (pe_bm0 F.plainAttrs_list F.slot_list_clear F.type_list_clear mt_clear ho rfl hl) rfl) fun D σ H h => tBM0_of (lm_imp lm_clear h)
  | reverse =>
    have hn : es.length = 0 := by simpa [lmB] using hm
    match es, hn with
    | [], _ =>
      cases g1
      exact PS.imp (ps_expr (pe_bm0 F.plainAttrs_list F.slot_list_reverse F.type_list_reverse mt_reverse ho rfl hl) rfl) fun D σ H h => tBM0_of (lm_imp lm_reverse h)
  | _ => cases hm
theorem swP_ok {x y : Str} {e f : Expr} {px py p p2 : Pos} {k k2 : Nat} {env : PySem.Env} (hk : env.scope.kind = .function) (hx : env.scope.names.lookup x = some .local) (hy : env.scope.names.lookup y = some .local) (hl : py.line = px.line) (hxy : (x == y) = false)
    (h1 : [e, f].all (foldedForSure 8) = false) (h2 : [e, f].all (constantsAlone 8) = false) (hs : [e, f].all noStar = true) : swappedStores [.Tuple [.Name x px, .Name y py] k p] (.Tuple [e, f] k2 p2) env = pure (some [x, y]) := by
  have kx : env.kindOf x = some .local := hx
  have ky : env.kindOf y = some .local := hy
  have hb : env.blockKind = .function := by unfold Env.blockKind; rw [hk]; rfl
  obtain ⟨s1, s2⟩ := all2 hs
  unfold swappedStores
  dsimp only
  split
  · rename_i hq; simp [hb] at hq
  · split
    · rename_i hq
      exfalso
      simp only [List.any_cons, List.any_nil, Bool.or_false, Bool.or_eq_true] at hq
      rcases hq with hq | hq
      · cases e <;> first | (cases s1; done) | (cases hq; done)
      · cases f <;> first | (cases s2; done) | (cases hq; done)
    · have hyx : ¬ y = x := fun q => by subst q; simp at hxy
      have hxy' : ¬ x = y := fun q => hyx q.symm
      simp only [List.filterMap, kx, ky, hl, Expr.pos, List.head?, Option.map, Option.getD, beq_self_eq_true, Bool.and_self, if_true]
      rw [if_neg (by simp [List.eraseDups_cons, hyx, hxy'])]
      rw [if_neg (by rw [h1]; decide), if_neg (by rw [h2]; decide)]
end
end MP
/-! MP23: statements, the induction. -/
namespace MP
open PySem PySem.Spec PyProof.Rows L2
set_option maxHeartbeats 1000000
theorem frz_psb {X : Cx} {W : L2.WX} {cb : Cb} {i : Nat} {r : List S} {sts : List Stmt} (h : PSs X sts (tBk X W cb r)) : PSs X sts (tBk X W cb (.frz i :: r)) := PSs.imp h fun D σ H hh => frz_imp hh
theorem drop_psb {X : Cx} {W : L2.WX} {cb : Cb} {i : Nat} {r : List S} {sts : List Stmt} (h : PSs X sts (tBk X W cb r)) : PSs X sts (tBk X W cb (.drop i :: r)) := PSs.imp h fun D σ H hh => drop_imp hh
theorem cons_psb {X : Cx} {W : L2.WX} {cb : Cb} {s : S} {r : List S} {st : Stmt} {sts : List Stmt} (h1 : PS X st (tS X W cb s)) (h2 : PSs X sts (tBk X W cb r)) : PSs X (st :: sts) (tBk X W cb (s :: r)) := PSs.imp (pss_cons h1 h2) fun D σ H hh => cons_imp hh
mutual
theorem chkS_ok {G : Gx} {cb : Cb} {sc : Scope} {X : Cx} {W : L2.WX} (z : Cxs G sc X W cb) : ∀ (s : S) (st : Stmt), chkS G sc s st = true → PS X st (tS X W cb s)
  | .set i a, st, h => by
    unfold chkS at h
    split at h
    · simp only [Bool.and_eq_true] at h
      exact store_ps z h.1 (chkE_ok a _ z.c h.2) (fun hl => chkE_lc h.2 hl) fun D σ H hh => set_imp hh
    · cases h
  | .own i a, st, h => by
    unfold chkS at h
    split at h
    · simp only [Bool.and_eq_true] at h
      exact store_ps z h.1 (chkE_ok a _ z.c h.2) (fun hl => chkE_lc h.2 hl) fun D σ H hh => own_imp hh
    · cases h
  | .setc i a, st, h => by
    unfold chkS at h
    split at h
    · simp only [Bool.and_eq_true] at h
      exact store_ps z h.1 (chkE_ok a _ z.c h.2) (fun hl => chkE_lc h.2 hl) fun D σ H hh => setc_imp hh
    · cases h
  | .frz _, st, h => by unfold chkS at h; cases h
  | .drop _, st, h => by unfold chkS at h; cases h
  | .par i j a b, st, h => by
    unfold chkS at h
    split at h
    · simp only [Bool.and_eq_true, decide_eq_true_eq, beq_iff_eq, Bool.not_eq_true'] at h
      obtain ⟨⟨⟨⟨⟨⟨⟨⟨⟨h1, h2⟩, h3⟩, h4⟩, h5⟩, h6⟩, h7⟩, h8⟩, h9⟩, h10⟩ := h
      obtain ⟨g1, g2⟩ := chkEs_ok [a, b] _ z.c h10
      have hk : X.env.scope.kind = .function := by rw [z.c.sc_]; exact z.kind
      exact PS.imp (ps_par z.c.calm z.c.nd (by rw [z.c.N_]; exact h1) (by rw [z.c.N_]; exact h2) h3 (by rw [z.c.sc_]; exact h4) (by rw [z.c.sc_]; exact h5) (SimL.as g1 g2)
        (swP_ok hk (by rw [z.c.sc_]; exact h4) (by rw [z.c.sc_]; exact h5) h6 h7 h8 h9 g2) rfl) fun D σ H hh => par_imp hh
    · cases h
  | .unp is a, st, h => by
    unfold chkS at h
    split at h
    · rename_i es k tp e pos
      simp only [Bool.and_eq_true] at h
      obtain ⟨⟨h1, h2⟩, h3⟩ := h
      have hpg : PG X (.Tuple es k tp) (gT X.K (.tp is)) := chkTg_pg (Y := X) (ok := locB sc) z.c.calm z.c.nd (fun x hx => ⟨by rw [z.c.sc_]; exact locB_ok hx, .inl (z.fn x)⟩) (by show nmE X.N _ is es = true; rw [z.c.N_]; exact h1)
      exact PS.imp (ps_asg (chkE_ok a e z.c h3).1 hpg (show swapsWith e (some (.Tuple es k tp)) pos.line X.env = pure false from other_sw (by intro x p q; cases q)) (swN_ok h2) rfl) fun D σ H hh => unp_imp hh
    · cases h
  | .lm m i l, st, h => by
    unfold chkS at h
    split at h
    · simp only [Bool.and_eq_true, beq_iff_eq] at h
      obtain ⟨⟨⟨⟨h1, rfl⟩, h3⟩, h4⟩, h5⟩ := h
      obtain ⟨g1, g2⟩ := chkEs_ok l _ z.c h5
      exact lm_ok z.c (readB_ok z.c h1) h3 (by rw [beq_iff_eq]; exact h4) g1 g2
    · cases h
  | .sti o i a, st, h => by
    unfold chkS at h
    split at h
    · rename_i x q ix sp e pos
      simp only [Bool.and_eq_true] at h
      obtain ⟨⟨⟨h1, h2⟩, h3⟩, h4⟩ := h
      exact PS.imp (ps_asg (chkE_ok a e z.c h4).1 (pg_sub (readB_ok z.c h1) (chkE_ok i ix z.c h3).1 set_list (by intro v; cases ix <;> first | rfl | cases h2)) (show swapsWith e (some (.Subscript (.Name x q) ix sp)) pos.line X.env = pure false from other_sw (by intro x p q; cases q)) rfl rfl) fun D σ H hh => sti_imp hh
    · cases h
  | .sta o f a, st, h => by
    unfold chkS at h
    split at h
    · simp only [Bool.and_eq_true, beq_iff_eq] at h
      obtain ⟨⟨h1, rfl⟩, h3⟩ := h
      exact PS.imp (ps_fld (readB_ok z.c h1) (chkE_ok a _ z.c h3).1 (other_sw (by intro x p q; cases q))) fun D σ H hh => sta_imp z.c.tx hh
    · cases h
  | .aug i op a, st, h => by
    unfold chkS at h
    split at h
    · simp only [Bool.and_eq_true] at h
      obtain ⟨⟨h1, h2⟩, h3⟩ := h
      obtain ⟨r, g1, g2⟩ := aug_ok (X := X) h2
      unfold storeB at h1
      simp only [Bool.and_eq_true, decide_eq_true_eq] at h1
      exact PS.imp (ps_aug z.c.nd (by rw [z.c.N_]; exact h1.1) (by rw [z.c.sc_]; exact locB_ok h1.2) (chkE_ok a _ z.c h3).1 g1 (.inl (z.fn _))) fun D σ H hh => aug_imp g2 hh
    · cases h
  | .augi o i op a, st, h => by
    unfold chkS at h
    split at h
    · rename_i x q ix tp oo e pos
      simp only [Bool.and_eq_true] at h
      obtain ⟨⟨⟨⟨h1, h2⟩, h3⟩, h4⟩, h5⟩ := h
      obtain ⟨r, g1, g2⟩ := aug_ok (X := X) h3
      exact PS.imp (ps_augS (readB_ok z.c h1) (chkE_ok i ix z.c h4).1 get_list (chkE_ok a e z.c h5).1 g1 set_list (by intro ov iv new; cases ix <;> first | rfl | cases h2)) fun D σ H hh => augi_imp g2 hh
    · cases h
  | .ifs c a b, st, h => by
    unfold chkS at h
    split at h
    · simp only [Bool.and_eq_true] at h
      obtain ⟨⟨⟨h1, h2⟩, h3⟩, h4⟩ := h
      exact PS.imp (ps_if (tst_ok (chkE_ok c _ z.c h1) h2) (chkB_ok z a _ h3) (chkB_ok z b _ h4)) fun D σ H hh => ifs_imp hh
    · cases h
  | .fr t k its b, st, h => by
    unfold chkS at h
    split at h
    · simp only [Bool.and_eq_true] at h
      obtain ⟨⟨h1, h2⟩, h3⟩ := h
      obtain ⟨g1, g2⟩ := chkI_ok z.c (its := its) (fun es he => chkEs_ok its es z.c he) h1
      have hpg := chkTg_pg (Y := X) (ok := locB sc) z.c.calm z.c.nd (fun x hx => ⟨by rw [z.c.sc_]; exact locB_ok hx, .inl (z.fn x)⟩) (by rw [z.c.N_]; exact h2)
      exact PS.imp (ps_for z.po z.c.calm g1 hpg (chkB_ok z b _ h3) g2) fun D σ H hh => for_imp hh
    · cases h
  | .whl c b, st, h => by
    unfold chkS at h
    split at h
    · simp only [Bool.and_eq_true] at h
      obtain ⟨⟨h1, h2⟩, h3⟩ := h
      exact PS.imp (ps_while z.po (tst_ok (chkE_ok c _ z.c h1) h2) (chkB_ok z b _ h3)) fun D σ H hh => whl_imp hh
    · cases h
  | .ret a, st, h => by
    unfold chkS at h
    split at h
    · exact PS.imp (ps_ret (chkE_ok a _ z.c h).1) fun D σ H hh => ret_imp hh
    · cases h
  | .rtn, st, h => by
    unfold chkS at h
    split at h
    · exact PS.imp ps_retN fun D σ H hh => rtn_imp hh
    · cases h
  | .exp a, st, h => by
    unfold chkS at h
    split at h
    · simp only [Bool.and_eq_true, Bool.not_eq_true'] at h
      exact PS.imp (ps_expr (chkE_ok a _ z.c h.1).1 (isLc_sw h.2)) fun D σ H hh => exp_imp hh
    · cases h
  | .brk, st, h => by
    unfold chkS at h
    split at h
    · exact PS.imp ps_break fun D σ H hh => brk_imp hh
    · cases h
  | .cnt, st, h => by
    unfold chkS at h
    split at h
    · exact PS.imp ps_continue fun D σ H hh => cnt_imp hh
    · cases h
  | .pas, st, h => by
    unfold chkS at h
    split at h
    · exact PS.imp ps_pass fun D σ H hh => pas_imp hh
    · exact PS.imp ps_doc fun D σ H hh => pas_imp hh
    · cases h
  | .nev, st, h => PS.imp ps_never fun D σ H hh => nev_imp hh
  | .rse _ _, st, h => by unfold chkS at h; cases h
theorem chkB_ok {G : Gx} {cb : Cb} {sc : Scope} {X : Cx} {W : L2.WX} (z : Cxs G sc X W cb) : ∀ (l : List S) (sts : List Stmt), chkB G sc l sts = true → PSs X sts (tBk X W cb l)
  | [], sts, h => by
    unfold chkB at h
    have : sts = [] := by simpa using h
    subst this
    exact PSs.imp pss_nil fun D σ H hh => nil_imp hh
  | s :: r, sts, h => by
    unfold chkB at h
    split at h
    · exact frz_psb (chkB_ok z r sts h)
    · exact drop_psb (chkB_ok z r sts h)
    · split at h
      · simp only [Bool.and_eq_true] at h
        exact cons_psb (chkS_ok z s _ h.1) (chkB_ok z r _ h.2)
      · cases h
end
end MP
/-! MP24: defs keep their promises, calls at most n deep. -/
namespace MP
open PySem PySem.Spec PyProof.Rows L2
theorem zip_lookup : ∀ (l : List Str) (us : List Value), us.length = l.length → ∀ n ∈ l, ((l.zip us).lookup n).isNone = false
  | [], _, _, n, h => by simp at h
  | x :: l, [], hl, _, _ => by simp at hl
  | x :: l, u :: us, hl, n, h => by
    rw [List.zip_cons_cons, List.lookup_cons]
    by_cases e : n = x
    · subst e; simp
    · have : (n == x) = false := by simpa using e
      rw [this]
      exact zip_lookup l us (by simpa using hl) n (by simpa [e] using h)
theorem filterMap_cg {α β : Type} {f g : α → Option β} : ∀ (l : List α), (∀ x ∈ l, f x = g x) → l.filterMap f = l.filterMap g
  | [], _ => rfl
  | x :: l, h => by
    simp only [List.filterMap_cons]
    rw [h x (by simp), filterMap_cg l fun y hy => h y (by simp [hy])]
theorem zip_all : ∀ (l : List Str) (us : List Value), us.length = l.length → l.Nodup → (l.filterMap fun n => ((l.zip us).lookup n).map (n, ·)) = l.zip us
  | [], us, _, _ => by simp
  | x :: l, [], hl, _ => by simp at hl
  | x :: l, u :: us, hl, hn => by
    obtain ⟨h1, h2⟩ := List.nodup_cons.mp hn
    rw [List.zip_cons_cons, List.filterMap_cons]
    have e1 : ((x, u) :: l.zip us).lookup x = some u := by simp [List.lookup_cons]
    rw [e1]
    show (x, u) :: _ = _
    congr 1
    rw [← zip_all l us (by simpa using hl) h2]
    refine filterMap_cg l fun n hm => ?_
    have hne : (n == x) = false := by
      have : n ≠ x := fun e => h1 (e ▸ hm)
      simpa using this
    rw [List.lookup_cons, hne, zip_all l us (by simpa using hl) h2]
theorem bind_plain {args : List Arg} {x qual : Str} {body : List Stmt} {scope : Scope} {kV doc pm cdv ct : Value} {an : Option Addr} {us : List Value} (hl : us.length = args.length) (hn : (args.map (·.arg)).Nodup) :
    bindArgs (PySem.W.fnOf x qual ⟨[], args, none, [], [], none, []⟩ body scope .none kV doc pm an cdv ct) ⟨us, []⟩ = pure ((args.map (·.arg)).zip us) := by
  have h1 : (args.map (·.arg)).filter (fun n => (((args.map (·.arg)).zip us).lookup n).isNone) = [] := by
    rw [List.filter_eq_nil_iff]
    intro n hn
    have := zip_lookup (args.map (·.arg)) us (by simpa using hl) n hn
    simp [this]
  have h2 := zip_all (args.map (·.arg)) us (by simpa using hl) hn
  have e1 : notAStandIn Value.none = pure () := rfl
  have h3 : (args.map (·.arg)).take args.length = args.map (·.arg) := by rw [List.take_of_length_le]; simp
  unfold bindArgs
  simp [PySem.W.fnOf, seqItems?, hl, e1, h1, h3]
  rw [← List.filterMap_map, h2]

/-! ### the text's defs -/
/-- a def: its name (a class and a method), the statement, the names, what the small language says -/
structure Dn where
  f : String
  m : Option String
  st : Stmt
  N : List Str
  fd : FD
def Dn.at_ (d : Dn) : Str × Option Str := (Str.ofString d.f, d.m.map Str.ofString)
def Dn.nm (d : Dn) : Str := match d.m with
  | none => Str.ofString d.f
  | some m => Str.ofString m
def Dn.qual (d : Dn) : Str := match d.m with
  | none => Str.ofString d.f
  | some m => Str.ofString (d.f ++ "." ++ m)
def Dn.dd (d : Dn) : He.DefD := ⟨d.at_, d.nm, d.qual, defArgs d.st, defBody d.st, defScope d.st, [], []⟩
def mkT (l : List Dn) (cons : List (String × P)) (kits : List ((String × String) × Bool)) (flds : List (String × String)) (exns : List (String × Nat × List (String × Nat))) : Tbl where
  fns := l.filterMap fun d => match d.m with
    | none => some (d.f, d.fd)
    | some _ => none
  mths := l.filterMap fun d => match d.m with
    | none => none
    | some m => some (d.f, m, d.fd)
  cons := cons
  kits := kits
  flds := flds
  exns := exns
def Dn.ps (d : Dn) : List Str := d.N.take d.fd.params
def plainA (a : Arguments) (ps : List Str) : Bool := a.posonlyargs.isEmpty && a.vararg.isNone && a.kwonlyargs.isEmpty && a.kw_defaults.isEmpty && a.kwarg.isNone && a.defaults.isEmpty && decide (a.args.map (·.arg) = ps)
def scB (N ps : List Str) (sc : Scope) : Bool := (sc.kind == .function) && !sc.isCoroutine && !sc.isGenerator && decide N.Nodup && decide (N.take ps.length = ps) && ps.all (fun x => locB sc x) && sc.names.all (fun y => !(y.2 == .free))
def Tbl.g (T : Tbl) (cls : List String) (N : List Str) : Gx := ⟨N, fun f => (T.fn f).isSome, fun c => (T.mth c "__init__").isSome, fun c => cls.contains c, fun x => (T.con x).isSome⟩
/-- a def's text stands as it should -/
def Dn.chk (T : Tbl) (cls : List String) (d : Dn) : Bool := chkB (T.g cls d.N) (defScope d.st) d.fd.body (defBody d.st) && scB d.N d.ps (defScope d.st) && plainA (defArgs d.st) d.ps && decide (d.fd.params ≤ d.N.length) && decide (d.N.length = d.fd.slots)
theorem scB_ok {N ps : List Str} {sc : Scope} (h : scB N ps sc = true) : FnScope N ps sc := by
  unfold scB at h
  simp only [Bool.and_eq_true, beq_iff_eq, Bool.not_eq_true', decide_eq_true_eq, List.all_eq_true] at h
  obtain ⟨⟨⟨⟨⟨⟨h1, h2⟩, h3⟩, h4⟩, h5⟩, h6⟩, h7⟩ := h
  refine ⟨h1, h2, h3, h4, h5, fun x hx => locB_ok (h6 x hx), fun y hy e => ?_⟩
  have := h7 y hy
  rw [e] at this
  cases this
theorem plainA_ok {a : Arguments} {ps : List Str} (h : plainA a ps = true) : ∃ args, a = ⟨[], args, none, [], [], none, []⟩ ∧ args.map (·.arg) = ps := by
  obtain ⟨a1, a2, a3, a4, a5, a6, a7⟩ := a
  unfold plainA at h
  simp only [Bool.and_eq_true, decide_eq_true_eq, List.isEmpty_iff, Option.isNone_iff_eq_none] at h
  obtain ⟨⟨⟨⟨⟨⟨rfl, rfl⟩, rfl⟩, rfl⟩, rfl⟩, rfl⟩, h7⟩ := h
  exact ⟨a2, rfl, h7⟩
/-- a def of the text, at its object -/
theorem dn_binds {T : Tbl} {cls : List String} {d : Dn} {K : PySem.W.Frag} {f : Addr} {fd : FuncData} (h : d.chk T cls = true) (F : FunD K d.nm d.qual (defArgs d.st) (defBody d.st) (defScope d.st) [] [] f fd) : Binds K fd d.ps [] := by
  unfold Dn.chk at h
  simp only [Bool.and_eq_true, decide_eq_true_eq] at h
  obtain ⟨args, ha, hp⟩ := plainA_ok h.1.1.2
  have sc := scB_ok h.1.1.1.2
  refine FunD.bindsN F fun kV doc pm an cdv ct us hl => ?_
  rw [ha, ← hp]
  refine bind_plain (by rw [hl, ← hp]; simp) ?_
  rw [hp, ← sc.pre]
  exact sc.nd.sublist (List.take_sublist _ _)
theorem dn_bindsA {T : Tbl} {cls : List String} {d : Dn} {K : PySem.W.Frag} {f : Addr} {fd : FuncData} (h : d.chk T cls = true) (F : FunD K d.nm d.qual (defArgs d.st) (defBody d.st) (defScope d.st) [] [] f fd) (s : Shared) (us : List Value) (hl : us.length = d.ps.length) : BindsTo s fd ⟨us, []⟩ (d.ps.zip us) := by
  unfold Dn.chk at h
  simp only [Bool.and_eq_true, decide_eq_true_eq] at h
  obtain ⟨args, ha, hp⟩ := plainA_ok h.1.1.2
  have sc := scB_ok h.1.1.1.2
  refine FunD.bindsA (ps := d.ps) F (fun kV doc pm an cdv ct us hl => ?_) s us hl
  rw [ha, ← hp]
  refine bind_plain (by rw [hl, ← hp]; simp) ?_
  rw [hp, ← sc.pre]
  exact sc.nd.sublist (List.take_sublist _ _)
theorem argD_len : ∀ {as : List A} {ds : List D}, argD as = some ds → ds.length = as.length
  | [], _, e => by cases e; rfl
  | a :: r, ds, e => by
    have e' : (match a.d, argD r with
      | some x, some xs => some (x :: xs)
      | _, _ => none) = some ds := e
    split at e'
    · rename_i x xs e1 e2
      cases e'
      simp [argD_len e2]
    · cases e'
theorem argD_get {K mg F φ C H H0} : ∀ {as : List A} {vs : List V} {ds : List D}, Paired (RepA K mg F φ C H) as vs → argD as = some ds → ∀ (i : Nat) (d : D), ds[i]? = some d → ∃ v, vs[i]? = some v ∧ RepD K mg H0 F φ C H d v ∧ ∀ l, d ≠ .own l
  | _, _, _, .nil, e, i, d, h => by cases e; simp at h
  | a :: as, v :: vs, ds, .cons h t, e, i, d, hd => by
    have e' : (match a.d, argD as with
      | some x, some xs => some (x :: xs)
      | _, _ => none) = some ds := e
    split at e'
    · rename_i x xs e1 e2
      cases e'
      cases i with
      | zero =>
        simp at hd
        subst hd
        refine ⟨v, rfl, ?_⟩
        cases a with
        | p y => cases e1; exact ⟨h, fun l q => by cases q⟩
        | cell n => cases e1; exact ⟨h, fun l q => by cases q⟩
        | vw l => cases e1
      | succ i => exact argD_get t e2 i d (by simpa using hd)
    · cases e'
/-- the fuel's promise -/
structure Lvl (P : Program) (w : World) (K : PySem.W.Frag) (mg : Str → Option Value) (base : Heap) (k : Nat) (cb : Cb) (l : List Dn) : Prop where
  fns : ∀ d ∈ l, d.m = none → ∃ fd, FnOk P w K mg base (L2.CX P w) k (He.ga K (Str.ofString d.f)) fd d.ps (spC K mg (cb.call d.f)) ∧ Binds K fd d.ps [] ∧ PySem.W.keepIn K (.ref (He.ga K (Str.ofString d.f))) = true
theorem body_ok {P : Program} {w : World} {K : PySem.W.Frag} {mg : Str → Option Value} {base : Heap} {k : Nat} {cb : Cb} {T : Tbl} {cls : List String} {d : Dn} {f : Addr} {fd : FuncData} (hd : d.chk T cls = true) (F : FunD K d.nm d.qual (defArgs d.st) (defBody d.st) (defScope d.st) [] [] f fd)
    (hc : ∀ (X : Cx) (W : L2.WX), X.prog = P → X.w = w → X.K = K → X.mg = mg → X.base = base → Room k X.A → X.env.scope = defScope d.st → X.N = d.N → X.N.Nodup → X.calm = true → Takes X W → Cxt (T.g cls d.N) (defScope d.st) X W cb) :
    FnOk P w K mg base (L2.CX P w) (k + 1) f fd d.ps (spC K mg (runFD cb d.fd)) := by
  unfold Dn.chk at hd
  simp only [Bool.and_eq_true, decide_eq_true_eq] at hd
  obtain ⟨⟨⟨⟨h1, h2⟩, h3⟩, h4⟩, h5⟩ := hd
  have sc := scB_ok h2
  have hps : d.ps.length = d.fd.params := by show (d.N.take d.fd.params).length = _; rw [List.length_take]; omega
  have plen : ∀ {α β : Type} {R : α → β → Prop} {as : List α} {vs : List β}, Paired R as vs → as.length = vs.length := fun {α β R as vs} h => by
    induction h with
    | nil => rfl
    | cons _ _ ih => simp [ih]
  refine F.ok sc (fun vs H Q E h => ?_) fun cdv A outer s H vs Q E hr h => ?_
  · obtain ⟨F0, φ, C, as, wf, rp, post⟩ := h
    unfold runFD at post
    split at post
    · exact post.elim
    · rename_i ds e
      split at post
      · rename_i hl
        rw [hps, ← hl, argD_len e, plen rp]
      · exact post.elim
  · let X := cxOf (L2.CX P w) P w K mg base d.N d.qual (defScope d.st) f cdv A outer s H E
    have tk : Takes X (fun cls d _ H => E cls d H) := takes_of (X := X) rfl rfl rfl rfl
    have c := hc X (fun cls d _ H => E cls d H) rfl rfl rfl rfl rfl hr rfl rfl sc.nd rfl tk
    have z : Cxs (T.g cls d.N) (defScope d.st) X (fun cls d _ H => E cls d H) cb := ⟨c, passes_of (X := X) rfl, fun _ => rfl, sc.kind⟩
    refine ⟨_, chkB_ok z d.fd.body (defBody d.st) h1, ?_⟩
    obtain ⟨F0, φ, C, as, wf, rp, post⟩ := h
    unfold runFD at post
    split at post
    · exact post.elim
    · rename_i ds e
      split at post
      · rename_i hl
        have hvs : vs.length = ds.length := by rw [argD_len e, plen rp]
        have sr : SRel K mg ⟨F0, φ, C, H⟩ F0 φ C H (ds.map some ++ List.replicate (d.fd.slots - d.fd.params) none) (L2.start d.N vs) := by
          have get1 : ∀ (i : Nat) (x : D), (ds.map some ++ List.replicate (d.fd.slots - d.fd.params) none)[i]? = some (some x) → ds[i]? = some x := fun i x hx => by
            by_cases hi : i < ds.length
            · rw [List.getElem?_append_left (by simpa using hi), List.getElem?_map] at hx
              simpa using hx
            · rw [List.getElem?_append_right (by simpa using hi), List.getElem?_replicate] at hx
              split at hx <;> cases hx
          refine ⟨?_, fun i x hx => ?_, fun i j l m a g1 _ _ _ => ?_, Stp.refl⟩
          · unfold L2.start
            simp only [List.length_append, List.length_map, List.length_replicate]
            omega
          · obtain ⟨v, g1, g2, _⟩ := argD_get (H0 := H) rp e i x (get1 i x hx)
            refine ⟨v, ?_, g2⟩
            unfold L2.start
            have hi : i < vs.length := by obtain ⟨q, _⟩ := List.getElem?_eq_some_iff.mp g1; exact q
            rw [List.getElem?_append_left (by simpa using hi), List.getElem?_map, g1]
            rfl
          · obtain ⟨v, _, _, g⟩ := argD_get (H0 := H) rp e i _ (get1 i _ g1)
            exact absurd rfl (g l)
        refine ⟨⟨F0, φ, C, H⟩, F0, φ, C, _, ⟨wf, sr⟩, ?_⟩
        cases q : runB cb d.fd.body (ds.map some ++ List.replicate (d.fd.slots - d.fd.params) none) C with
        | nx σd C' =>
          rw [q] at post
          exact fun σ' H' F' φ' s' z' => post .non H' F' φ' z'.sr.ent z'.wf rfl
        | rt r C' =>
          rw [q] at post
          exact fun v H' F' φ' s' w' rr => post v H' F' φ' s' w' rr
        | ex ee σd C' =>
          rw [q] at post
          exact fun cl dd σ' H' F' φ' s' z' er => post cl dd H' F' φ' z'.sr.ent z'.wf er
        | bk σd C' => rw [q] at post; exact post.elim
        | ct σd C' => rw [q] at post; exact post.elim
        | no => rw [q] at post; exact post.elim
      · exact post.elim
end MP
/-! MP25: the whole text. -/
namespace MP
open PySem PySem.Spec PyProof.Rows L2
/-- a text as the small language has it -/
structure Lw where
  l : List Dn
  cls : List String
  cons : List (String × P)
  kits : List ((String × String) × Bool)
  flds : List (String × String)
  exns : List (String × Nat × List (String × Nat)) := []
def Lw.T (L : Lw) : Tbl := mkT L.l L.cons L.kits L.flds L.exns
def dvOf : P → Option He.Dv
  | .non => some .non
  | .bl b => some (.bl b)
  | .int i => some (.int i)
  | .str s => some (.str s)
  | _ => none
def dvsOf : List P → Option (List He.Dv)
  | [] => some []
  | x :: r => match dvOf x, dvsOf r with
    | some d, some ds => some (d :: ds)
    | _, _ => none
/-! ### facts -/
def conF (K : PySem.W.Frag) (x : String) (v : P) : Bool := match v with
  | .int i => (He.Fa.int (Str.ofString x) i).ok K
  | .str s => (He.Fa.str (Str.ofString x) s).ok K
  | .tup l => match dvsOf l with
    | some ds => (He.Fa.glo (Str.ofString x)).ok K && He.tupB K (Str.ofString x) ds
    | none => false
  | _ => false
def tval (K : PySem.W.Frag) (cls : List String) (a : String) : Value := if cls.contains a then .ref (He.ga K (Str.ofString a)) else .type a
def kitF (K : PySem.W.Frag) (cls : List String) (q : (String × String) × Bool) : Bool := (cls.contains q.1.1 || bltNames.contains q.1.1) && (cls.contains q.1.2 || bltNames.contains q.1.2) && decide (q.1.1 ≠ "?") && decide (PySem.W.kitOne K (tval K cls q.1.1) (tval K cls q.1.2) = some q.2)
def insF (K : PySem.W.Frag) (a : String) : Bool := (He.Fa.cls (Str.ofString a)).ok K && decide (PySem.W.findIn K (.ref (He.ga K (Str.ofString a))) "__class__" = some (some (.builtin "object.__class__"))) &&
  decide (PySem.W.specialIn K (.builtin "object.__class__") "__get__" = some (some (.builtin "getset_descriptor.__get__"))) && decide (PySem.W.takesIn K (.builtin "object.__class__") = some true) && decide (PySem.W.mroIn K (He.ga K (Str.ofString a)) (.type "object") = some true)
def dnF (K : PySem.W.Frag) (cls : List String) (d : Dn) : Bool := match d.m with
  | none => (He.Fa.glo (Str.ofString d.f)).ok K
  | some m => cls.contains d.f && (if m == "__init__" then (He.Fa.mkr (Str.ofString d.f)).ok K else (He.Fa.meth (Str.ofString d.f) (Str.ofString m)).ok K && (He.Fa.cls (Str.ofString d.f)).ok K)
def Lw.ex (L : Lw) (K : PySem.W.Frag) : Bool := (L.l.all fun d => dnF K L.cls d) && (L.cls.all fun c => (He.Fa.glo (Str.ofString c)).ok K) &&
  (L.flds.all fun q => L.cls.contains q.1 && (He.Fa.cls (Str.ofString q.1)).ok K && (He.Fa.noat (Str.ofString q.1) (Str.ofString q.2)).ok K) && (bltNames.all fun x => (He.Fa.free (Str.ofString x)).ok K) &&
  (L.cons.all fun q => conF K q.1 q.2) && (L.kits.all fun q => kitF K L.cls q && (!L.cls.contains q.1.1 || insF K q.1.1))
/-! ### the Hook -/
def obsM (L : Lw) (K : PySem.W.Frag) : He.AlD := (L.ex K && (L.l.map Dn.dd).all fun d => d.ok K, (L.l.map Dn.dd).map fun d => He.fnW K d.at_)
def valM (L : Lw) : He.AlD := (true, (L.l.map Dn.dd).map He.DefD.val)
def obsMG (n : Nat) (L : Lw) (g : Addr → Option Obj) : He.AlD := obsM L (He.frG g (He.asD g n))
def hookM (n : Nat) (L : Lw) : PySem.W.Hook where
  α := He.AlD
  obs := fun s => obsMG n L s.heap.get?
  val := fun _ => valM L
  says := fun _ h => ∃ K : PySem.W.Frag, K.In h ∧ obsM L K = valM L
  of := fun _ _ e => ⟨_, He.frG_in, e⟩
  keeps := fun _ _ _ ⟨K, hK, c⟩ k => ⟨K, PySem.W.Frag.In.keeps hK k, c⟩
theorem obsMG_eq {n : Nat} {L : Lw} {g : Addr → Option Obj} {s : Shared} (h : ∀ a, g a = s.heap.get? a) : obsMG n L g = (hookM n L).obs s := by
  have e : g = s.heap.get? := funext h
  rw [e] <;> rfl
section
variable {L : Lw} {K : PySem.W.Frag}
theorem says_ex (c : obsM L K = valM L) : L.ex K = true := by
  have := congrArg (fun z : He.AlD => z.1) c
  exact (He.ba (show (L.ex K && (L.l.map Dn.dd).all fun d => d.ok K) = true from this)).1
theorem says_def (c : obsM L K = valM L) {d : Dn} (hd : d ∈ L.l) : ∃ fd, FunD K d.nm d.qual (defArgs d.st) (defBody d.st) (defScope d.st) [] [] (He.fAd K d.at_) fd := by
  have h1 := (He.ba (show (L.ex K && (L.l.map Dn.dd).all fun d => d.ok K) = true from congrArg (fun z : He.AlD => z.1) c)).2
  have h2 : (L.l.map Dn.dd).map (fun d => He.fnW K d.at_) = (L.l.map Dn.dd).map He.DefD.val := congrArg (fun z : He.AlD => z.2) c
  have hm : d.dd ∈ L.l.map Dn.dd := List.mem_map.mpr ⟨d, hd, rfl⟩
  have h3 : He.fnW K d.dd.at_ = d.dd.val := by
    have : ∀ {l : List He.DefD}, l.map (fun d => He.fnW K d.at_) = l.map He.DefD.val → ∀ x ∈ l, He.fnW K x.at_ = x.val := by
      intro l
      induction l with
      | nil => intro _ x hx; cases hx
      | cons y l ih =>
        intro e x hx
        simp only [List.map_cons, List.cons.injEq] at e
        rcases List.mem_cons.mp hx with rfl | hx
        · exact e.1
        · exact ih e.2 x hx
    exact this h2 _ hm
  exact He.DefD.funD h3 (List.all_eq_true.mp h1 _ hm)
end
/-! ### lookups -/
theorem fn_mem {L : Lw} {f : String} {fd : FD} (h : L.T.fn f = some fd) : ∃ d ∈ L.l, d.m = none ∧ d.f = f ∧ d.fd = fd := by
  have h' : List.lookup f (L.l.filterMap fun d => match d.m with
    | none => some (d.f, d.fd)
    | some _ => none) = some fd := h
  generalize L.l = l at h'
  induction l with
  | nil => cases h'
  | cons d l ih =>
    rw [List.filterMap_cons] at h'
    cases hm : d.m with
    | some m =>
      rw [hm] at h'
      obtain ⟨d', g1, g2⟩ := ih h'
      exact ⟨d', by simp [g1], g2⟩
    | none =>
      rw [hm] at h'
      dsimp only at h'
      rw [List.lookup_cons] at h'
      by_cases e : f = d.f
      · subst e
        simp at h'
        exact ⟨d, by simp, hm, rfl, h'⟩
      · have : (f == d.f) = false := by simpa using e
        rw [this] at h'
        obtain ⟨d', g1, g2⟩ := ih h'
        exact ⟨d', by simp [g1], g2⟩
theorem mth_mem {L : Lw} {c m : String} {fd : FD} (h : L.T.mth c m = some fd) : ∃ d ∈ L.l, d.m = some m ∧ d.f = c ∧ d.fd = fd := by
  unfold Tbl.mth at h
  split at h
  · rename_i q hq
    cases h
    have h1 := List.mem_of_find?_eq_some hq
    have h2 := List.find?_some hq
    simp only [Bool.and_eq_true, beq_iff_eq] at h2
    have h3 : q ∈ L.l.filterMap (fun d => match d.m with
      | none => none
      | some m => some (d.f, m, d.fd)) := h1
    rw [List.mem_filterMap] at h3
    obtain ⟨d, hd, e⟩ := h3
    split at e
    · cases e
    · rename_i m' hm
      cases e
      exact ⟨d, hd, by rw [hm]; simpa using h2.2, h2.1, rfl⟩
  · cases h
section
variable {L : Lw} {Pg : Program} {w : World} {K : PySem.W.Frag} {h : Heap} {mg : Str → Option Value} {base : Heap}
theorem sq_none {a : Addr} {xs : List V} (hq : SqT K (fun _ => none) a xs) (F : Addr → Prop) (H : Hp) : TupAt K F H a xs := by
  rcases hq with (hq | ⟨o, hq⟩) | hq
  · cases hq
  · cases hq
  · exact .inr hq
theorem dvs_rep {l : List P} {ds : List He.Dv} (e : dvsOf l = some ds) : Reps K mg (fun _ => False) (fun _ => none) l (ds.map (He.Dv.v K)) := by
  induction l generalizing ds with
  | nil => cases e; exact Reps.nil
  | cons x l ih =>
    have e' : (match dvOf x, dvsOf l with
      | some d, some ds => some (d :: ds)
      | _, _ => none) = some ds := e
    split at e'
    · rename_i d ds' e1 e2
      cases e'
      refine Reps.cons ?_ (ih e2)
      cases x <;> first | (cases e1; rfl) | cases e1
    · cases e'
theorem tx_of (KX : K.In h) (G : h.Ns mainGlobals mg) (hx : L.ex K = true) (X : Cx) (hK : X.K = K) (hm : X.mg = mg) (cb : Cb) (h1 : cb.con = L.T.con) (h2 : cb.isi = L.T.isi) (h3 : cb.has = L.T.has) : TxOk X cb := by
  subst hK hm
  unfold Lw.ex at hx
  simp only [Bool.and_eq_true, List.all_eq_true] at hx
  obtain ⟨⟨⟨⟨⟨x1, x2⟩, x3⟩, x4⟩, x5⟩, x6⟩ := hx
  have blt : ∀ x ∈ bltNames, X.mg (Str.ofString x) = none := fun x hx => He.free_ok KX G (x4 x hx)
  have clsg : ∀ c, L.cls.contains c = true → X.mg (Str.ofString c) = some (.ref (He.ga X.K (Str.ofString c))) := fun c hc => He.glo_ok KX G (x2 c (by simpa using hc))
  have lk : ∀ {a b r}, List.lookup (a, b) L.kits = some r → ((a, b), r) ∈ L.kits := fun {a b r} e => by
    have key : ∀ {l : List ((String × String) × Bool)}, List.lookup (a, b) l = some r → ((a, b), r) ∈ l := by
      intro l
      induction l with
      | nil => intro e; cases e
      | cons q l ih =>
        intro e
        obtain ⟨q1, q2⟩ := q
        rw [List.lookup_cons] at e
        by_cases hq : (a, b) = q1
        · subst hq; simp at e; subst e; simp
        · have : ((a, b) == q1) = false := by simpa using hq
          rw [this] at e
          exact List.mem_cons_of_mem _ (ih e)
    exact key e
  have tv : ∀ {a : String} {v : Value}, (L.cls.contains a || bltNames.contains a) = true → TyN X.mg a v → v = tval X.K L.cls a := fun {a v} ha t => by
    rcases t with ⟨t1, t2⟩ | ⟨C, t1, t2⟩
    · have : L.cls.contains a = false := by
        cases q : L.cls.contains a with
        | false => rfl
        | true => rw [clsg a q] at t1; cases t1
      unfold tval
      rw [this]
      exact t2
    · cases q : L.cls.contains a with
      | true =>
        rw [clsg a q] at t1
        cases t1
        unfold tval
        rw [q]
        exact t2
      | false =>
        rw [q, Bool.false_or] at ha
        rw [blt a (by simpa using ha)] at t1
        cases t1
  refine ⟨blt, fun x v hv => ?_, fun a b r hr t u ht hu => ?_, fun a b r hr C hC => ?_, fun c f hf C hC => ?_⟩
  · rw [h1] at hv
    have hm : (x, v) ∈ L.cons := by
      have key : ∀ {l : List (String × P)}, List.lookup x l = some v → (x, v) ∈ l := by
        intro l
        induction l with
        | nil => intro e; cases e
        | cons q l ih =>
          intro e
          obtain ⟨q1, q2⟩ := q
          rw [List.lookup_cons] at e
          by_cases hq : x = q1
          · subst hq; simp at e; subst e; simp
          · have : (x == q1) = false := by simpa using hq
            rw [this] at e
            exact List.mem_cons_of_mem _ (ih e)
      exact key hv
    have hc := x5 _ hm
    dsimp only at hc
    unfold conF at hc
    split at hc
    · rename_i i
      obtain ⟨t, e⟩ := He.int_ok KX G hc
      exact ⟨_, .int i, e, ⟨t, rfl⟩, rfl⟩
    · rename_i s
      obtain ⟨t, e⟩ := He.str_ok KX G hc
      exact ⟨_, .str s, e, ⟨t, rfl⟩, rfl⟩
    · rename_i l
      split at hc
      · rename_i ds e
        simp only [Bool.and_eq_true] at hc
        exact ⟨_, .ref _, He.glo_ok KX G hc.1, rfl, _, _, rfl, sq_none (He.tupB_ok hc.2 _) _ _, dvs_rep e⟩
      · cases hc
    · cases hc
  · rw [h2] at hr
    have hc := x6 _ (lk hr)
    simp only [Bool.and_eq_true] at hc
    have hk := hc.1
    unfold kitF at hk
    simp only [Bool.and_eq_true, decide_eq_true_eq] at hk
    rw [tv hk.1.1.1 ht, tv hk.1.1.2 hu]
    exact hk.2
  · rw [h2] at hr
    have hc := x6 _ (lk hr)
    simp only [Bool.and_eq_true, Bool.or_eq_true, Bool.not_eq_true'] at hc
    have hk := hc.1
    unfold kitF at hk
    simp only [Bool.and_eq_true, decide_eq_true_eq] at hk
    have hin : L.cls.contains a = true := by
      cases q : L.cls.contains a with
      | true => rfl
      | false =>
        have ha := hk.1.1.1
        try dsimp only at ha
        rw [q, Bool.false_or] at ha
        rw [blt a (by simpa using ha)] at hC
        cases hC
    rw [clsg a hin] at hC
    cases hC
    rcases hc.2 with q | q
    · try dsimp only at q
      rw [hin] at q; cases q
    · unfold insF at q
      simp only [Bool.and_eq_true, decide_eq_true_eq] at q
      obtain ⟨⟨⟨⟨q1, q2⟩, q3⟩, q4⟩, q5⟩ := q
      exact ⟨He.cls_ok q1, q2, q3, q4, q5⟩
  · rw [h3] at hf
    have hm : (c, f) ∈ L.flds := by simpa using (show L.flds.contains (c, f) = true from hf)
    have hc := x3 _ hm
    simp only [Bool.and_eq_true] at hc
    rw [clsg c hc.1.1] at hC
    cases hC
    exact ⟨He.cls_ok hc.1.2, He.noat_ok hc.2⟩
end
end MP
/-! MP26: the fuel's induction, the law. -/
namespace MP
open PySem PySem.Spec PyProof.Rows L2
section
variable {L : Lw} {Pg : Program} {w : World} {K : PySem.W.Frag} {h : Heap} {mg : Str → Option Value} {base : Heap}
/-- every def, with calls at most n deep -/
def RunOk (L : Lw) (Pg : Program) (w : World) (K : PySem.W.Frag) (mg : Str → Option Value) (base : Heap) (n : Nat) : Prop :=
  ∀ d ∈ L.l, ∃ fd, FnOk Pg w K mg base (L2.CX Pg w) (2 * n + 2) (He.fAd K d.at_) fd d.ps (spC K mg (runFD (cbN L.T n) d.fd)) ∧ Binds K fd d.ps [] ∧ PySem.W.keepIn K (.ref (He.fAd K d.at_)) = true
theorem no_fn {k : Nat} {f : Addr} {fd : FuncData} {ps : List Str} : FnOk Pg w K mg base (L2.CX Pg w) k f fd ps (spC K mg fun _ _ => .no) :=
  ⟨fun vs H Q E ⟨_, _, _, _, _, _, q⟩ => q.elim, fun A outer s H args us vs Q E hr he hb hv ⟨_, _, _, _, _, _, q⟩ => q.elim⟩
theorem con_some {T : Tbl} {x : String} (h : (T.con x).isSome = true) : ∃ v, T.con x = some v := Option.isSome_iff_exists.mp h
theorem cxt_of (hchk : ∀ d ∈ L.l, d.chk L.T L.cls = true) (KX : K.In h) (G : h.Ns mainGlobals mg) (c : obsM L K = valM L) (n : Nat) (prev : n = 0 ∨ ∃ m, n = m + 1 ∧ RunOk L Pg w K mg base m) {N : List Str} {sc : Scope} (X : Cx) (W : L2.WX) (e1 : X.prog = Pg) (e2 : X.w = w) (e3 : X.K = K) (e4 : X.mg = mg) (e5 : X.base = base) (hr : Room (2 * n + 1) X.A)
    (e6 : X.env.scope = sc) (e7 : X.N = N) (nd : X.N.Nodup) (cm : X.calm = true) (tk : Takes X W) : Cxt (L.T.g L.cls N) sc X W (cbN L.T n) := by
  have hx := says_ex c
  have cn : (cbN L.T n).con = L.T.con := by cases n <;> rfl
  have ci : (cbN L.T n).isi = L.T.isi := by cases n <;> rfl
  have ch : (cbN L.T n).has = L.T.has := by cases n <;> rfl
  have tx := tx_of KX G hx X e3 e4 (cbN L.T n) cn ci ch
  have hx2 := hx
  unfold Lw.ex at hx2
  simp only [Bool.and_eq_true, List.all_eq_true] at hx2
  obtain ⟨⟨⟨⟨⟨x1, x2⟩, x3⟩, x4⟩, x5⟩, x6⟩ := hx2
  have glc : ∀ c, L.cls.contains c = true → mg (Str.ofString c) = some (.ref (He.ga K (Str.ofString c))) := fun c hc => He.glo_ok KX G (x2 c (by simpa using hc))
  subst e1 e2 e3 e4 e5
  refine ⟨e6, e7, nd, cm, tk, tx, fun t r q => ?_, hr.units, fun f hf => ⟨?_⟩, fun k hk => ?_, fun k m hm => ⟨?_⟩, fun x hx => ?_, fun t ht => ⟨_, glc t ht⟩⟩
  · rw [ci] at q
    have lk : (("?", t), r) ∈ L.kits := by
      have key : ∀ {l : List ((String × String) × Bool)}, List.lookup ("?", t) l = some r → (("?", t), r) ∈ l := by
        intro l
        induction l with
        | nil => intro e; cases e
        | cons q l ih =>
          intro e
          obtain ⟨q1, q2⟩ := q
          rw [List.lookup_cons] at e
          by_cases hq : ("?", t) = q1
          · subst hq; simp at e; subst e; simp
          · have : (("?", t) == q1) = false := by simpa using hq
            rw [this] at e
            exact List.mem_cons_of_mem _ (ih e)
      exact key q
    have hk := x6 _ lk
    simp only [Bool.and_eq_true] at hk
    have hk := hk.1
    unfold kitF at hk
    simp at hk
  · obtain ⟨fd0, hfd⟩ := Option.isSome_iff_exists.mp (show (L.T.fn f).isSome = true from hf)
    obtain ⟨d, hd, hm, rfl, rfl⟩ := fn_mem hfd
    have hat : He.fAd X.K d.at_ = He.ga X.K (Str.ofString d.f) := by unfold Dn.at_; rw [hm]; rfl
    have hg : X.mg (Str.ofString d.f) = some (.ref (He.ga X.K (Str.ofString d.f))) := by
      have := x1 d hd
      unfold dnF at this
      rw [hm] at this
      exact He.glo_ok KX G this
    rcases prev with rfl | ⟨m, rfl, R⟩
    · obtain ⟨fd, F⟩ := says_def c hd
      exact ⟨0, _, fd, d.ps, no_fn, hr.mono (by omega), hg, by rw [← hat]; exact F.kp, dn_binds (hchk d hd) F⟩
    · obtain ⟨fd, F, hb, kp⟩ := R d hd
      have ec : (cbN L.T (m + 1)).call d.f = runFD (cbN L.T m) d.fd := by
        funext as C
        show (match L.T.fn d.f with
          | some d => runFD (cbN L.T m) d as C
          | none => .no) = _
        rw [hfd]
      rw [hat] at F kp
      exact ⟨2 * m + 2, _, fd, d.ps, by rw [ec]; exact F, hr.mono (by omega), hg, kp, hb⟩
  · obtain ⟨fd0, hfd⟩ := Option.isSome_iff_exists.mp (show (L.T.mth k "__init__").isSome = true from hk)
    obtain ⟨d, hd, hm, rfl, rfl⟩ := mth_mem hfd
    have hat : He.fAd X.K d.at_ = He.ma X.K (He.ga X.K (Str.ofString d.f)) "__init__" := by unfold Dn.at_; rw [hm]; rfl
    have hf := x1 d hd
    unfold dnF at hf
    rw [hm] at hf
    have hf' : (L.cls.contains d.f && (He.Fa.mkr (Str.ofString d.f)).ok X.K) = true := hf
    simp only [Bool.and_eq_true] at hf'
    rcases prev with rfl | ⟨m, rfl, R⟩
    · obtain ⟨fd, F⟩ := says_def c hd
      exact ⟨fun _ _ => .no, ⟨⟨0, _, _, fd, d.ps, He.mkr_ok hf'.2, no_fn, hr.mono (by omega), glc _ hf'.1, dn_binds (hchk d hd) F⟩⟩, fun as C => rfl⟩
    · obtain ⟨fd, F, hb, kp⟩ := R d hd
      rw [hat] at F
      refine ⟨runFD (cbN L.T m) d.fd, ⟨⟨2 * m + 2, _, _, fd, d.ps, He.mkr_ok hf'.2, F, hr.mono (by omega), glc _ hf'.1, hb⟩⟩, fun as C => ?_⟩
      show (match L.T.mth d.f "__init__" with
        | some e => mkNew d.f (runFD (cbN L.T m) e) as C
        | none => .no) = _
      rw [hfd]
  · rcases prev with rfl | ⟨j, rfl, R⟩
    · cases hm
    · have hm' : (m != "__init__" && (L.T.mth k m).isSome) = true := hm
      simp only [Bool.and_eq_true] at hm'
      obtain ⟨fd0, hfd⟩ := Option.isSome_iff_exists.mp hm'.2
      obtain ⟨d, hd, hdm, rfl, rfl⟩ := mth_mem hfd
      have hat : He.fAd X.K d.at_ = He.ma X.K (He.ga X.K (Str.ofString d.f)) (Str.ofString m) := by unfold Dn.at_; rw [hdm]; rfl
      have hf := x1 d hd
      unfold dnF at hf
      rw [hdm] at hf
      have hne : (m == "__init__") = false := by have := hm'.1; simpa using this
      have hf' : (L.cls.contains d.f && (if m == "__init__" then (He.Fa.mkr (Str.ofString d.f)).ok X.K else (He.Fa.meth (Str.ofString d.f) (Str.ofString m)).ok X.K && (He.Fa.cls (Str.ofString d.f)).ok X.K)) = true := hf
      rw [hne, if_neg (by decide)] at hf'
      simp only [Bool.and_eq_true] at hf'
      obtain ⟨fd, F, hb, kp⟩ := R d hd
      rw [hat] at F
      have ec : (cbN L.T (j + 1)).mth d.f m = runFD (cbN L.T j) d.fd := by
        funext as C
        show (match L.T.mth d.f m with
          | some e => runFD (cbN L.T j) e as C
          | none => .no) = _
        rw [hfd]
      exact ⟨2 * j + 2, _, _, fd, d.ps, He.cls_ok hf'.2.2, He.meth_ok hf'.2.1, by rw [ec]; exact F, hr.mono (by omega), glc _ hf'.1, hb⟩
  · obtain ⟨v, hv⟩ := con_some (T := L.T) hx
    exact ⟨v, by rw [cn]; exact hv⟩
theorem run_all (hchk : ∀ d ∈ L.l, d.chk L.T L.cls = true) (KX : K.In h) (G : h.Ns mainGlobals mg) (c : obsM L K = valM L) : ∀ n, RunOk L Pg w K mg base n
  | 0 => fun d hd => by
    obtain ⟨fd, F⟩ := says_def c hd
    exact ⟨fd, body_ok (hchk d hd) F fun X W e1 e2 e3 e4 e5 hr e6 e7 nd cm tk => cxt_of (base := base) (Pg := Pg) (w := w) hchk KX G c 0 (.inl rfl) X W e1 e2 e3 e4 e5 hr e6 e7 nd cm tk, dn_binds (hchk d hd) F, F.kp⟩
  | n + 1 => fun d hd => by
    have R := run_all hchk KX G c n
    obtain ⟨fd, F⟩ := says_def c hd
    exact ⟨fd, body_ok (hchk d hd) F fun X W e1 e2 e3 e4 e5 hr e6 e7 nd cm tk => cxt_of (base := base) (Pg := Pg) (w := w) hchk KX G c (n + 1) (.inr ⟨n, rfl, R⟩) X W e1 e2 e3 e4 e5 hr e6 e7 nd cm tk, dn_binds (hchk d hd) F, F.kp⟩
/-- THE LAW: what the small language says of the script -/
theorem law_facts (hchk : ∀ d ∈ L.l, d.chk L.T L.cls = true) {d : Dn} (hd : d ∈ L.l) (hm : d.m = none) {x : Str} (hps : d.ps = [x]) {m : Nat} (KX : K.In h) (G : h.Ns mainGlobals mg) (c : obsM L K = valM L) {fa : Addr} (hfa : mg (Str.ofString d.f) = some (.ref fa))
    (pure_ : ∀ ns : List Int, ns.length ≤ m → (∀ z ∈ ns, Builtin.Int.intBits z ≤ 1048576) → ∃ C, runFD (cbN L.T 100) d.fd [.p (.ro (ns.map .int))] [] = .ok (.v (.bl true)) C) :
    ∃ (K : PySem.W.Frag) (fd : FuncData) (sp : Sp), K.In h ∧ (∀ (s : Shared) (u : Value), BindsTo s fd ⟨[u], []⟩ [(x, u)]) ∧
        (∀ (H : Hp) (a : Addr) (ns : List Int), ns.length ≤ m → (∀ z ∈ ns, Builtin.Int.intBits z ≤ 1048576) → Only H → SqL K H a (ns.map V.int) → sp [.ref a] H (fun v _ => v = .bl true) fun _ _ _ => False) ∧
        ∀ base : Heap, K.In base → base.Ns mainGlobals mg → FnOk Pg w K mg base (L2.CX Pg w) 202 fa fd [x] sp := by
  have hat : He.fAd K d.at_ = He.ga K (Str.ofString d.f) := by unfold Dn.at_; rw [hm]; rfl
  have hx := says_ex c
  unfold Lw.ex at hx
  simp only [Bool.and_eq_true, List.all_eq_true] at hx
  have hg := hx.1.1.1.1.1 d hd
  unfold dnF at hg
  rw [hm] at hg
  have hg2 := hfa.symm.trans (He.glo_ok KX G hg)
  cases hg2
  obtain ⟨fd0, F0⟩ := says_def c hd
  obtain ⟨fd, F⟩ : ∃ fd, FunD K d.nm d.qual (defArgs d.st) (defBody d.st) (defScope d.st) [] [] (He.fAd K d.at_) fd := ⟨fd0, F0⟩
  have one : ∀ base : Heap, K.In base → base.Ns mainGlobals mg → ∃ fd', FnOk Pg w K mg base (L2.CX Pg w) 202 (He.ga K (Str.ofString d.f)) fd' [x] (spC K mg (runFD (cbN L.T 100) d.fd)) ∧ fd' = fd := fun base hb1 hb2 => by
    have R : RunOk L Pg w K mg base 99 := run_all hchk KX G c 99
    refine ⟨fd, ?_, rfl⟩
    have := body_ok (base := base) (P := Pg) (w := w) (k := 201) (mg := mg) (cb := cbN L.T 100) (hchk d hd) F fun X W e1 e2 e3 e4 e5 hr e6 e7 nd cm tk => cxt_of (base := base) (Pg := Pg) (w := w) hchk KX G c 100 (.inr ⟨99, rfl, R⟩) X W e1 e2 e3 e4 e5 hr e6 e7 nd cm tk
    rw [hat, hps] at this
    exact this
  refine ⟨K, fd, spC K mg (runFD (cbN L.T 100) d.fd), KX, fun s u => ?_, fun H a ns hl hbt hO hS => ?_, fun base hb1 hb2 => ?_⟩
  · have := dn_bindsA (hchk d hd) F s [u] (by rw [hps]; rfl)
    rw [hps] at this
    exact this
  · obtain ⟨C, hC⟩ := pure_ ns hl hbt
    refine ⟨fun b => b = a ∧ H b ≠ none, [], [], [.p (.ro (ns.map .int))], ⟨fun b hb => hb.2, rfl, fun n b cl q => by simp at q, fun n m b cl cl' q => by simp at q⟩, .cons ?_ .nil, ?_⟩
    · refine ⟨a, ns.map V.int, rfl, ?_, ?_⟩
      · rcases hS with (hS | ⟨o, hS⟩) | hS
        · rcases hO a with q | ⟨o, xs, q⟩
          · rw [q] at hS; cases hS
          · rw [q] at hS; cases hS
        · exact .inl ⟨⟨rfl, some_ne hS⟩, o, hS⟩
        · exact .inr hS
      · clear hl hbt hC hS
        induction ns with
        | nil => exact Reps.nil
        | cons i ns ih => exact Reps.cons rfl (ih)
    · rw [hC]
      exact fun b H' F' φ' _ _ r => r
  · obtain ⟨fd', F', rfl⟩ := one base hb1 hb2
    exact F'
theorem cx_none {H : Hp} {s : Shared} {e : Value} {s' : Shared} (h : L2.CX Pg w [] H s (fun _ _ _ => False) e s') : False := by
  obtain ⟨_, _, _, _, _, _, _, _, _, _, _, _, q⟩ := h
  exact q
end
/-- the law's call: what its def promises, at every script, the ints no wider than they may be -/
theorem walk_mp {r : PySem.W.OpenLaw} {m k : Nat} {v : Program} {ls : List Str} {XQ : (Str → Option Value) → Heap → Prop} {YQ : World → Heap → Prop} {dr : DefRec} {x : Str} (hm : r.most = some m) (hm2 : m ≤ sizeLine) (hdf : dr.params.defaults = []) (hr : Room k callerA)
    (Fx : ∀ (w : World) (g : Str → Option Value) (fa : Addr) (h : Heap), YQ w h → h.Ns mainGlobals g → g dr.name = some (.ref fa) →
      ∃ (K : PySem.W.Frag) (fd : FuncData) (sp : Sp), K.In h ∧ (∀ (s : Shared) (u : Value), BindsTo s fd ⟨[u], []⟩ [(x, u)]) ∧
        (∀ (H : Hp) (a : Addr) (ns : List Int), ns.length ≤ m → (∀ z ∈ ns, Builtin.Int.intBits z ≤ 1048576) → Only H → SqL K H a (ns.map V.int) → sp [.ref a] H (fun v _ => v = .bl true) fun _ _ _ => False) ∧
        ∀ base : Heap, K.In base → base.Ns mainGlobals g → FnOk r.prog w K g base (L2.CX r.prog w) k fa fd [x] sp) :
    PySem.W.WalkO v ls XQ YQ r.row.toRowW dr [] (fun f vs => PySem.call f vs) := by
  refine Att.attach_callB hm hdf ?_
  intro w s₀ s₁ g mb fa o pm cd doc a vs ns G Y ho hd hcd hmg hobj hints hlen hbits hg
  obtain ⟨K, fd, sp, KX, hb, hsp, hF⟩ := Fx w g fa _ Y G.T.g hmg
  refine law_call KX G.T.g G.T.b G.T.builtins G.T.nolimit hg hobj hints (Nat.le_trans hlen hm2) hr hF hb ?_ ?_
  · exact fun H hO hS => hsp H a ns hlen hbits hO hS
  · exact fun H e s' hc => cx_none hc
end MP
/-! the text of law_k52_whole_floor_papers in the small language -/
namespace MP
open PySem
/-- left_weights: 0=table 1=many 2=size 3=sums 4=test 5=weight 6=stops 7=index -/
def F_left_weights_ea7d : FD := ⟨1, 8,
  [.set 1 (.bi .len [(.att (.var 0) "costs")]),
   .set 2 (.bin .shl (.con (.int 1)) (.var 1)),
   .own 3 (.bin .mul (.lst [(.con (.int 0))]) (.var 2)),
   .fr (.tp [5, 6]) .val [(.att (.var 0) "rows")]
    [.set 7 (.bi .suml [(.comp (.bin .shl (.con (.int 1)) (.var 4)) (.nm 4) .val [(.var 6)] [])]),
     .augi 3 (.var 7) .add (.var 5),
     .drop 5,
     .drop 6,
     .drop 7],
   .fr (.nm 4) .rng1 [(.var 1)]
    [.fr (.nm 7) .rng1 [(.var 2)]
      [.ifs (.cmp .eq (.bin .band (.bin .shr (.var 7) (.var 4)) (.con (.int 1))) (.con (.int 1)))
        [.augi 3 (.var 7) .add (.sub (.var 3) (.bin .sub (.var 7) (.bin .shl (.con (.int 1)) (.var 4))))]
        [],
       .drop 7],
     .drop 4,
     .drop 7],
   .ret (.comp (.sub (.var 3) (.bin .sub (.bin .sub (.var 2) (.con (.int 1))) (.var 7))) (.nm 7) .rng1 [(.var 2)] [])]⟩
/-- price: 0=table 1=lefts 2=least 3=index 4=test -/
def F_price_6314 : FD := ⟨5, 5,
  [.ret (.bin .add (.bin .mul (.sub (.att (.var 0) "costs") (.var 4)) (.sub (.var 1) (.var 3))) (.sub (.var 2) (.bin .add (.var 3) (.bin .shl (.con (.int 1)) (.var 4)))))]⟩
/-- least_rests: 0=table 1=lefts 2=many 3=size 4=least 5=index 6=rest 7=test -/
def F_least_rests_670c : FD := ⟨2, 8,
  [.set 2 (.bi .len [(.att (.var 0) "costs")]),
   .set 3 (.bin .shl (.con (.int 1)) (.var 2)),
   .own 4 (.bin .mul (.lst [(.con (.int 0))]) (.var 3)),
   .fr (.nm 5) .rrng1 [(.bin .sub (.var 3) (.con (.int 1)))]
    [.set 6 (.comp (.var 7) (.nm 7) .rng1 [(.var 2)] [(.cmp .eq (.bin .band (.bin .shr (.var 5) (.var 7)) (.con (.int 1))) (.con (.int 0)))]),
     .sti 4 (.var 5) (.bi .minl [(.comp (.bi .int [(.callb "price" [(.var 0), (.var 1), (.var 4), (.var 5), (.var 7)])]) (.nm 7) .val [(.var 6)] [])]),
     .drop 5,
     .drop 6],
   .ret (.var 4)]⟩
/-- cheapest: 0=table 1=lefts 2=least 3=order 4=index 5=test 6=free -/
def F_cheapest_0b4d : FD := ⟨1, 7,
  [.set 1 (.call "left_weights" [(.var 0)]),
   .set 2 (.call "least_rests" [(.var 0), (.var 1)]),
   .own 3 (.lst []),
   .set 4 (.con (.int 0)),
   .whl (.cmp .lt (.bi .len [(.var 3)]) (.bi .len [(.att (.var 0) "costs")]))
    [.fr (.nm 5) .rng1 [(.bi .len [(.att (.var 0) "costs")])]
      [.set 6 (.cmp .eq (.bin .band (.bin .shr (.var 4) (.var 5)) (.con (.int 1))) (.con (.int 0))),
       .ifs (.and [(.var 6), (.cmp .eq (.call "price" [(.var 0), (.var 1), (.var 2), (.var 4), (.var 5)]) (.sub (.var 2) (.var 4)))])
        [.lm .append 3 [(.var 5)],
         .aug 4 .add (.bin .shl (.con (.int 1)) (.var 5)),
         .drop 5,
         .drop 6,
         .brk]
        [],
       .drop 5,
       .drop 6],
     .drop 5,
     .drop 6],
   .ret (.tup [(.sub (.var 2) (.con (.int 0))), (.bi .tuple [(.var 3)])])]⟩
/-- check_few: 0=table -/
def F_check_few_102a : FD := ⟨1, 1,
  [.ifs (.cmp .gt (.bi .len [(.att (.var 0) "costs")]) (.glo "MOST_TESTS_floors"))
    [.nev]
    []]⟩
/-- floor_paper: 0=table -/
def F_floor_paper_c296 : FD := ⟨1, 1,
  [.exp (.call "check_few" [(.var 0)]),
   .ret (.call "least_rests" [(.var 0), (.call "left_weights" [(.var 0)])])]⟩
/-- judge_floor: 0=table 1=numbers 2=value 3=many 4=size 5=lefts 6=index 7=test 8=number -/
def F_judge_floor_0458 : FD := ⟨3, 9,
  [.exp (.call "check_few" [(.var 0)]),
   .set 3 (.bi .len [(.att (.var 0) "costs")]),
   .set 4 (.bin .shl (.con (.int 1)) (.var 3)),
   .ifs (.or [(.not (.isi (.var 1) ["list", "tuple"])), (.cmp .ne (.bi .len [(.var 1)]) (.var 4))])
    [.ret (.con (.bl false))]
    [],
   .ifs (.not (.bi .alll [(.comp (.and [(.isi (.var 8) ["int"]), (.cmp .ge (.var 8) (.con (.int 0)))]) (.nm 8) .val [(.var 1)] [])]))
    [.ret (.con (.bl false))]
    [],
   .ifs (.or [(.cmp .ne (.sub (.var 1) (.neg (.con (.int 1)))) (.con (.int 0))), (.cmp .lt (.sub (.var 1) (.con (.int 0))) (.var 2))])
    [.ret (.con (.bl false))]
    [],
   .set 5 (.call "left_weights" [(.var 0)]),
   .fr (.nm 6) .rng1 [(.var 4)]
    [.fr (.nm 7) .rng1 [(.var 3)]
      [.ifs (.and [(.cmp .eq (.bin .band (.bin .shr (.var 6) (.var 7)) (.con (.int 1))) (.con (.int 0))), (.cmp .gt (.sub (.var 1) (.var 6)) (.call "price" [(.var 0), (.var 5), (.var 1), (.var 6), (.var 7)]))])
        [.ret (.con (.bl false))]
        [],
       .drop 7],
     .drop 6,
     .drop 7],
   .ret (.con (.bl true))]⟩
/-- check_costs: 0=costs 1=cost -/
def F_check_costs_5016 : FD := ⟨1, 2,
  [.ifs (.cmp .eq (.bi .len [(.var 0)]) (.con (.int 0)))
    [.nev]
    [],
   .ifs (.cmp .gt (.bi .len [(.var 0)]) (.glo "MOST_TESTS_tables"))
    [.nev]
    [],
   .fr (.nm 1) .val [(.var 0)]
    [.ifs (.not (.chn .le .le (.con (.int 1)) (.var 1) (.glo "LARGEST")))
      [.nev]
      [],
     .drop 1],
   .ret (.bi .tuple [(.var 0)])]⟩
/-- check_row: 0=row 1=many 2=seen 3=test 4=weight 5=stops -/
def F_check_row_4529 : FD := ⟨2, 6,
  [.unp [4, 5] (.var 0),
   .ifs (.not (.chn .le .le (.con (.int 1)) (.var 4) (.glo "LARGEST")))
    [.nev]
    [],
   .own 2 (.lst []),
   .fr (.nm 3) .val [(.var 5)]
    [.ifs (.not (.chn .le .lt (.con (.int 0)) (.var 3) (.var 1)))
      [.nev]
      [],
     .ifs (.cmp .isin (.var 3) (.var 2))
      [.nev]
      [],
     .lm .append 2 [(.var 3)],
     .drop 3],
   .ret (.tup [(.var 4), (.bi .tuple [(.comp (.var 3) (.nm 3) .rng1 [(.var 1)] [(.cmp .isin (.var 3) (.var 2))])])])]⟩
/-- Table.__init__: 0=self 1=costs 2=rows 3=row -/
def F_Table_init_e0c5 : FD := ⟨3, 4,
  [.sta 0 "costs" (.call "check_costs" [(.var 1)]),
   .ifs (.cmp .eq (.bi .len [(.var 2)]) (.con (.int 0)))
    [.nev]
    [],
   .ifs (.cmp .gt (.bi .len [(.var 2)]) (.glo "MOST_ROWS"))
    [.nev]
    [],
   .sta 0 "rows" (.bi .tuple [(.comp (.call "check_row" [(.var 3), (.bi .len [(.att (.var 0) "costs")])]) (.nm 3) .val [(.var 2)] [])])]⟩
/-- _law_box: 0=_law_script -/
def F_law_box_eba1 : FD := ⟨1, 1,
  [.ret (.lst [(.bi .list [(.slc (.var 0) [] [(.con (.int 63))])]), (.con (.int 0)), (.con (.int 0)), (.con (.int 7))])]⟩
/-- _law_draw: 0=_law_box_here 1=_law_limit 2=_law_value 3=_law_cell -/
def F_law_draw_4bf9 : FD := ⟨2, 4,
  [.ifs (.cmp .eq (.sub (.var 0) (.con (.int 2))) (.con (.int 0)))
    [.set 3 (.con (.int 0)),
     .ifs (.cmp .lt (.sub (.var 0) (.con (.int 1))) (.bi .len [(.sub (.var 0) (.con (.int 0)))]))
      [.set 3 (.bi .abs [(.bi .int [(.sub (.sub (.var 0) (.con (.int 0))) (.sub (.var 0) (.con (.int 1))))])])]
      [],
     .sti 0 (.con (.int 1)) (.bin .add (.sub (.var 0) (.con (.int 1))) (.con (.int 1))),
     .ifs (.cmp .lt (.var 3) (.bin .pow (.con (.int 10)) (.con (.int 18))))
      [.sti 0 (.con (.int 3)) (.bin .mod (.bin .add (.bin .add (.bin .mul (.bi .int [(.sub (.var 0) (.con (.int 3)))]) (.con (.int 48271))) (.bin .mul (.bin .mod (.bi .int [(.var 3)]) (.con (.int 2147483647))) (.con (.int 69621)))) (.bin .mul (.bi .int [(.sub (.var 0) (.con (.int 1)))]) (.con (.int 8191)))) (.con (.int 2147483647))),
       .ret (.bin .mod (.bin .fdiv (.bin .add (.bin .mul (.bi .int [(.sub (.var 0) (.con (.int 3)))]) (.con (.int 16807))) (.bin .mul (.bi .int [(.sub (.var 0) (.con (.int 1)))]) (.bi .int [(.sub (.var 0) (.con (.int 1)))]))) (.con (.int 8192))) (.var 1))]
      [],
     .sti 0 (.con (.int 2)) (.var 3),
     .drop 3]
    [.drop 3],
   .set 2 (.bin .mod (.bi .int [(.sub (.var 0) (.con (.int 2)))]) (.var 1)),
   .sti 0 (.con (.int 2)) (.bin .fdiv (.sub (.var 0) (.con (.int 2))) (.var 1)),
   .ret (.var 2)]⟩
/-- _law_table: 0=_law_box_here 1=_law_most_tests 2=_law_most_rows 3=_law_reach 4=_law_many 5=_law_costs 6=_law_rows 7=_law_k 8=_law_number 9=_law_stops 10=_law_test -/
def F_law_table_03cc : FD := ⟨4, 11,
  [.set 4 (.bin .add (.con (.int 1)) (.call "_law_draw" [(.var 0), (.var 1)])),
   .set 5 (.comp (.bin .add (.con (.int 1)) (.call "_law_draw" [(.var 0), (.var 3)])) (.nm 7) .rng1 [(.var 4)] []),
   .own 6 (.lst []),
   .fr (.nm 7) .rng1 [(.bin .add (.con (.int 1)) (.call "_law_draw" [(.var 0), (.var 2)]))]
    [.set 8 (.call "_law_draw" [(.var 0), (.bin .pow (.con (.int 2)) (.con (.int 12)))]),
     .own 9 (.lst []),
     .fr (.nm 10) .rng1 [(.var 4)]
      [.ifs (.cmp .eq (.bin .mod (.bi .int [(.var 8)]) (.con (.int 2))) (.con (.int 1)))
        [.lm .append 9 [(.var 10)]]
        [],
       .set 8 (.bin .fdiv (.var 8) (.con (.int 2))),
       .drop 10],
     .ifs (.cmp .eq (.call "_law_draw" [(.var 0), (.con (.int 2))]) (.con (.int 0)))
      [.own 9 (.slc (.var 9) [] [(.bin .add (.con (.int 1)) (.call "_law_draw" [(.var 0), (.con (.int 2))]))])]
      [],
     .lm .append 6 [(.tup [(.bin .add (.con (.int 1)) (.call "_law_draw" [(.var 0), (.var 3)])), (.rev (.var 9))])],
     .drop 7,
     .drop 8,
     .drop 9,
     .drop 10],
   .frz 6,
   .ret (.lst [(.var 5), (.var 6)])]⟩
/-- _law_left: 0=_law_rows 1=_law_done 2=_law_weight 3=_law_stops 4=_law_test -/
def F_law_left_6b46 : FD := ⟨2, 5,
  [.ret (.bi .suml [(.comp (.var 2) (.tp [2, 3]) .val [(.var 0)] [(.cmp .eq (.comp (.var 4) (.nm 4) .val [(.var 3)] [(.cmp .isin (.var 4) (.var 1))]) (.lst []))])])]⟩
/-- _law_made: 0=_law_table_here 1=_law_weight 2=_law_stops -/
def F_law_made_e7df : FD := ⟨1, 3,
  [.ret (.new "Table" [(.bi .list [(.sub (.var 0) (.con (.int 0)))]), (.comp (.tup [(.var 1), (.bi .list [(.var 2)])]) (.tp [1, 2]) .val [(.sub (.var 0) (.con (.int 1)))] [])])]⟩
/-- _law_perms: 0=_law_tests 1=_law_found 2=_law_k 3=_law_longer 4=_law_order 5=_law_test -/
def F_law_perms_4cd7 : FD := ⟨1, 6,
  [.set 1 (.lst [(.lst [])]),
   .fr (.nm 2) .rng1 [(.bi .len [(.var 0)])]
    [.set 3 (.lst []),
     .fr (.nm 4) .val [(.var 1)]
      [.set 3 (.bin .add (.var 3) (.comp (.bin .add (.var 4) (.lst [(.var 5)])) (.nm 5) .val [(.var 0)] [(.cmp .nin (.var 5) (.var 4))])),
       .drop 4],
     .set 1 (.var 3),
     .drop 2,
     .drop 3,
     .drop 4],
   .ret (.comp (.bi .tuple [(.var 4)]) (.nm 4) .val [(.var 1)] [])]⟩
/-- _law_behind: 0=_law_table_here 1=_law_done 2=_law_order 3=_law_total 4=_law_k -/
def F_law_behind_4cd3 : FD := ⟨3, 5,
  [.set 3 (.con (.int 0)),
   .fr (.nm 4) .rng1 [(.bi .len [(.var 2)])]
    [.set 3 (.bin .add (.var 3) (.bin .mul (.sub (.sub (.var 0) (.con (.int 0))) (.sub (.var 2) (.var 4))) (.call "_law_left" [(.sub (.var 0) (.con (.int 1))), (.bin .add (.var 1) (.bi .list [(.slc (.var 2) [] [(.var 4)])]))]))),
     .drop 4],
   .ret (.var 3)]⟩
/-- _law_due: 0=_law_table_here 1=_law_many 2=_law_due_here 3=_law_index 4=_law_done 5=_law_rest 6=_law_test 7=_law_order -/
def F_law_due_e19d : FD := ⟨1, 8,
  [.set 1 (.bi .len [(.sub (.var 0) (.con (.int 0)))]),
   .own 2 (.lst []),
   .fr (.nm 3) .rng1 [(.bin .pow (.con (.int 2)) (.con (.int 5)))]
    [.ifs (.cmp .lt (.var 3) (.bin .shl (.con (.int 1)) (.var 1)))
      [.set 4 (.comp (.var 6) (.nm 6) .rng1 [(.var 1)] [(.cmp .eq (.bin .band (.bin .shr (.var 3) (.var 6)) (.con (.int 1))) (.con (.int 1)))]),
       .set 5 (.comp (.var 6) (.nm 6) .rng1 [(.var 1)] [(.cmp .nin (.var 6) (.var 4))]),
       .lm .append 2 [(.bi .minl [(.comp (.bi .int [(.call "_law_behind" [(.var 0), (.var 4), (.var 7)])]) (.nm 7) .val [(.call "_law_perms" [(.var 5)])] [])])],
       .drop 4,
       .drop 5]
      [.drop 4,
       .drop 5],
     .drop 3,
     .drop 4,
     .drop 5],
   .ret (.var 2)]⟩
/-- law: 0=_law_script 1=_law_box_here 2=_law_reach 3=_law_table_here 4=_law_made_here 5=_law_due_here 6=_law_told 7=_law_less 8=_law_value -/
def F_law_fcf4 : FD := ⟨1, 9,
  [.setc 1 (.call "_law_box" [(.var 0)]),
   .set 2 (.sub (.lst [(.con (.int 4)), (.con (.int 1000)), (.con (.int 1000))]) (.call "_law_draw" [(.var 1), (.con (.int 3))])),
   .set 3 (.call "_law_table" [(.var 1), (.con (.int 5)), (.con (.int 12)), (.var 2)]),
   .set 4 (.call "_law_made" [(.var 3)]),
   .set 5 (.call "_law_due" [(.var 3)]),
   .own 6 (.call "floor_paper" [(.var 4)]),
   .ifs (.or [(.not (.isi (.var 6) ["list"])), (.cmp .ne (.var 6) (.var 5)), (.cmp .ne (.sub (.call "cheapest" [(.var 4)]) (.con (.int 0))) (.sub (.var 5) (.con (.int 0))))])
    [.ret (.con (.bl false))]
    [],
   .set 7 (.call "_law_draw" [(.var 1), (.bin .add (.sub (.var 5) (.con (.int 0))) (.con (.int 1)))]),
   .fr (.nm 8) .val [(.tup [(.sub (.var 5) (.con (.int 0))), (.var 7), (.con (.int 0))])]
    [.ifs (.or [(.cmp .isn (.callb "judge_floor" [(.var 4), (.var 6), (.var 8)]) (.con (.bl true))), (.cmp .isn (.call "judge_floor" [(.var 4), (.bi .tuple [(.var 6)]), (.var 8)]) (.con (.bl true)))])
      [.ret (.con (.bl false))]
      [],
     .drop 8],
   .ifs (.or [(.cmp .isn (.callb "judge_floor" [(.var 4), (.var 6), (.bin .add (.sub (.var 5) (.con (.int 0))) (.con (.int 1)))]) (.con (.bl false))), (.cmp .isn (.call "judge_floor" [(.var 4), (.slc (.var 6) [] [(.neg (.con (.int 1)))]), (.con (.int 0))]) (.con (.bl false)))])
    [.ret (.con (.bl false))]
    [],
   .sti 6 (.con (.int 0)) (.con (.int 0)),
   .ret (.and [(.cmp .eq (.call "floor_paper" [(.var 4)]) (.var 5)), (.cmp .is (.call "judge_floor" [(.var 4), (.var 5), (.sub (.var 5) (.con (.int 0)))]) (.con (.bl true)))])]⟩
def T : Tbl where
  fns := [("left_weights", F_left_weights_ea7d), ("price", F_price_6314), ("least_rests", F_least_rests_670c), ("cheapest", F_cheapest_0b4d), ("check_few", F_check_few_102a), ("floor_paper", F_floor_paper_c296), ("judge_floor", F_judge_floor_0458), ("check_costs", F_check_costs_5016), ("check_row", F_check_row_4529), ("_law_box", F_law_box_eba1), ("_law_draw", F_law_draw_4bf9), ("_law_table", F_law_table_03cc), ("_law_left", F_law_left_6b46), ("_law_made", F_law_made_e7df), ("_law_perms", F_law_perms_4cd7), ("_law_behind", F_law_behind_4cd3), ("_law_due", F_law_due_e19d), ("law", F_law_fcf4)]
  mths := [("Table", "__init__", F_Table_init_e0c5)]
  cons := [("LARGEST", (.int 1000)), ("MOST_ROWS", (.int 200)), ("MOST_TESTS_floors", (.int 8)), ("MOST_TESTS_tables", (.int 12))]
  kits := [(("NoneType", "int"), false), (("bool", "int"), true), (("int", "int"), true), (("str", "int"), false), (("tuple", "int"), false), (("list", "int"), false), (("Table", "int"), false), (("NoneType", "list"), false), (("bool", "list"), false), (("int", "list"), false), (("str", "list"), false), (("tuple", "list"), false), (("list", "list"), true), (("Table", "list"), false), (("NoneType", "tuple"), false), (("bool", "tuple"), false), (("int", "tuple"), false), (("str", "tuple"), false), (("tuple", "tuple"), true), (("list", "tuple"), false), (("Table", "tuple"), false)]
  flds := [("Table", "costs"), ("Table", "rows")]
  exns := []
end MP
/-! SH1: plain Lean functions for what the small language computes: results, expressions. -/
namespace MP
open PySem
/-- what a def gives: a value, an error, or nothing that is known -/
inductive M (α : Type) where
  | ok (a : α)
  | ex (e : Exn)
  | no
def M.bind {α β : Type} (m : M α) (f : α → M β) : M β := match m with
  | .ok a => f a
  | .ex e => .ex e
  | .no => .no
def M.nox {α : Type} (m : M α) : M α := match m with
  | .ok a => .ok a
  | .ex _ => .no
  | .no => .no
@[simp] theorem M.bind_ok {α β : Type} (a : α) (f : α → M β) : (M.ok a).bind f = f a := rfl
@[simp] theorem M.bind_ex {α β : Type} (e : Exn) (f : α → M β) : (M.ex e : M α).bind f = .ex e := rfl
@[simp] theorem M.bind_no {α β : Type} (f : α → M β) : (M.no : M α).bind f = .no := rfl
@[simp] theorem M.nox_ok {α : Type} (a : α) : (M.ok a).nox = .ok a := rfl
@[simp] theorem M.nox_ex {α : Type} (e : Exn) : (M.ex e : M α).nox = .no := rfl
@[simp] theorem M.nox_no {α : Type} : (M.no : M α).nox = .no := rfl
/-- r does what m says -/
def Im {ρ α : Type} (r : Rs ρ) (C0 : CH → Prop) (m : M α) (η : α → ρ × CH) : Prop := match m with
  | .ok a => r = .ok (η a).1 (η a).2
  | .ex e => ∃ C1, C0 C1 ∧ r = .ex e C1
  | .no => True
section
variable {ρ ρ' α β γ δ : Type} {C0 C1 : CH → Prop} {C : CH}
theorem Im.bnd {r : Rs ρ} {f : ρ → CH → Rs ρ'} {m : M α} {η : α → ρ × CH} {k : α → M β} {η' : β → ρ' × CH} (h : Im r C0 m η) (hk : ∀ a, Im (f (η a).1 (η a).2) C0 (k a) η') : Im (r.bnd f) C0 (m.bind k) η' := by
  cases m with
  | ok a => rw [show r = .ok (η a).1 (η a).2 from h]; exact hk a
  | ex e => obtain ⟨C1, h1, h2⟩ := h; rw [h2]; exact ⟨C1, h1, rfl⟩
  | no => exact trivial
theorem Im.nox {r : Rs ρ} {m : M α} {η : α → ρ × CH} (h : Im r C1 m η) : Im r C0 m.nox η := by
  cases m with
  | ok a => exact h
  | ex e => exact trivial
  | no => exact trivial
theorem Im.up {r : Rs ρ} {m : M α} {η : α → ρ × CH} (h : Im r (fun D => D = C) m η) (hc : C0 C) : Im r C0 m η := by
  cases m with
  | ok a => exact h
  | ex e => obtain ⟨C1, h1, h2⟩ := h; exact ⟨C1, by rw [h1]; exact hc, h2⟩
  | no => exact trivial
theorem Im.noxl {r : Rs ρ} {m : M α} {η : α → ρ × CH} (h : Im r C1 m η) : Im r.nox C0 m.nox η := by
  cases m with
  | ok a => rw [show r = .ok (η a).1 (η a).2 from h]; exact rfl
  | ex e => exact trivial
  | no => exact trivial
/-- the result carries what the store holds -/
theorem Im.wth {r : Rs ρ} {m : M α} {enc : α → ρ} {κ : β → CH} {b : β} (h : Im r C0 m (fun a => (enc a, κ b))) : Im r C0 (m.bind fun a => .ok (a, b)) (fun p : α × β => (enc p.1, κ p.2)) := by
  cases m with
  | ok a => exact h
  | ex e => exact h
  | no => exact trivial
theorem Im.opt {o : Option ρ} {m : M α} {enc : α → ρ} (h : match m with
    | .ok a => o = some (enc a)
    | .ex _ => False
    | .no => True) : Im (opt o C) C0 m (fun a => (enc a, C)) := by
  cases m with
  | ok a => rw [show o = some (enc a) from h]; exact rfl
  | ex e => exact h.elim
  | no => exact trivial
end

/-! ### expressions -/
section
variable {cb : Cb} {σ : Env} {C0 : CH → Prop} {C : CH} {α β γ δ : Type}
theorem ev_var (enc : α → P) (a : α) {i : Nat} (h : σ[i]? = some (some (.p (enc a)))) : Im (evalE cb (.var i) σ C) C0 (.ok a) (fun a => (.v (enc a), C)) := by
  show evalE cb (.var i) σ C = .ok (.v (enc a)) C
  unfold evalE
  rw [h]
theorem ev_own (enc : α → List P) (a : α) {i : Nat} (h : σ[i]? = some (some (.own (enc a)))) : Im (evalE cb (.var i) σ C) C0 (.ok a) (fun a => (.vw (enc a), C)) := by
  show evalE cb (.var i) σ C = .ok (.vw (enc a)) C
  unfold evalE
  rw [h]
theorem ev_cell (n : Nat) {i : Nat} (h : σ[i]? = some (some (.cell n))) : Im (evalE cb (.var i) σ C) C0 (.ok ()) (fun _ => (.cell n, C)) := by
  show evalE cb (.var i) σ C = .ok (.cell n) C
  unfold evalE
  rw [h]
theorem ev_con (enc : α → P) (a : α) : Im (evalE cb (.con (enc a)) σ C) C0 (.ok a) (fun a => (.v (enc a), C)) := by
  show evalE cb (.con (enc a)) σ C = .ok (.v (enc a)) C
  unfold evalE
  rfl
theorem ev_glo (enc : α → P) (a : α) {x : String} (h : cb.con x = some (enc a)) : Im (evalE cb (.glo x) σ C) C0 (.ok a) (fun a => (.v (enc a), C)) := by
  show evalE cb (.glo x) σ C = .ok (.v (enc a)) C
  unfold evalE
  rw [h]
  rfl
theorem ev_bin {op : Bop} {a b : E} {m1 : M α} {η1 : α → RV × CH} {m2 : α → M β} {η2 : α → β → RV × CH} {p1 : α → β → P} {p2 : α → β → P} {m3 : α → β → M γ} {η3 : γ → RV × CH}
    (h1 : Im (evalE cb a σ C) C0 m1 η1) (h2 : ∀ x, Im (evalE cb b σ (η1 x).2) C0 (m2 x) (η2 x))
    (v1 : ∀ x y, view (η2 x y).2 (opA (η1 x).1) = some (p1 x y)) (v2 : ∀ x y, view (η2 x y).2 (opA (η2 x y).1) = some (p2 x y)) (h3 : ∀ x y, Im (opt (binP op (p1 x y) (p2 x y)) (η2 x y).2) C0 (m3 x y) η3) :
    Im (evalE cb (.bin op a b) σ C) C0 (m1.bind fun x => (m2 x).bind fun y => m3 x y) η3 := by
  unfold evalE
  refine Im.bnd h1 fun x => Im.bnd (h2 x) fun y => ?_
  rw [v1 x y, opt_some, Rs.bnd_ok, v2 x y, opt_some, Rs.bnd_ok]
  exact h3 x y
theorem ev_cmp {op : Cop} {a b : E} {m1 : M α} {η1 : α → RV × CH} {m2 : α → M β} {η2 : α → β → RV × CH} {p1 : α → β → P} {p2 : α → β → P} {m3 : α → β → M Bool}
    (h1 : Im (evalE cb a σ C) C0 m1 η1) (h2 : ∀ x, Im (evalE cb b σ (η1 x).2) C0 (m2 x) (η2 x)) (v1 : ∀ x y, view (η2 x y).2 (opA (η1 x).1) = some (p1 x y)) (v2 : ∀ x y, view (η2 x y).2 (opA (η2 x y).1) = some (p2 x y))
    (h3 : ∀ x y, Im (opt (cmpP op (p1 x y) (p2 x y)) C) C0 (m3 x y) (fun t => (t, C))) (hc : ∀ x y, (η2 x y).2 = C) : Im (evalE cb (.cmp op a b) σ C) C0 (m1.bind fun x => (m2 x).bind fun y => m3 x y) (fun t => (.v (.bl t), C)) := by
  unfold evalE
  refine Im.bnd h1 fun x => Im.bnd (h2 x) fun y => ?_
  rw [v1 x y, opt_some, Rs.bnd_ok, v2 x y, opt_some, Rs.bnd_ok, hc x y]
  have h := h3 x y
  revert h
  cases m3 x y with
  | ok t => intro h; show Rs.bnd _ _ = _; rw [show opt _ C = .ok t C from h]; rfl
  | ex e => intro h; obtain ⟨C1, h1, h2⟩ := h; exact ⟨C1, h1, by rw [h2]; rfl⟩
  | no => intro h; exact trivial
/-- with a store that changes -/
theorem ev_cmpB {op : Cop} {a b : E} {m1 : M α} {η1 : α → RV × CH} {m2 : α → M β} {η2 : α → β → RV × CH} {p1 : α → β → P} {p2 : α → β → P} {t : α → β → Bool} {κ : δ → CH} {d : α → β → δ}
    (h1 : Im (evalE cb a σ C) C0 m1 η1) (h2 : ∀ x, Im (evalE cb b σ (η1 x).2) C0 (m2 x) (η2 x)) (v1 : ∀ x y, view (η2 x y).2 (opA (η1 x).1) = some (p1 x y)) (v2 : ∀ x y, view (η2 x y).2 (opA (η2 x y).1) = some (p2 x y))
    (h3 : ∀ x y, cmpP op (p1 x y) (p2 x y) = some (t x y)) (hc : ∀ x y, (η2 x y).2 = κ (d x y)) : Im (evalE cb (.cmp op a b) σ C) C0 (m1.bind fun x => (m2 x).bind fun y => .ok (t x y, d x y)) (fun t => (.v (.bl t.1), κ t.2)) := by
  unfold evalE
  refine Im.bnd h1 fun x => Im.bnd (h2 x) fun y => ?_
  rw [v1 x y, opt_some, Rs.bnd_ok, v2 x y, opt_some, Rs.bnd_ok, hc x y]
  show Rs.bnd _ _ = _
  rw [h3 x y]
  rfl
theorem ev_chn {o1 o2 : Cop} {a b c : E} {s t : Bool} {α' β' γ' : Type} {u : α'} {v : β'} {w : γ'} {e1 : α' → P} {e2 : β' → P} {e3 : γ' → P} (h1 : Im (evalE cb a σ C) C0 (.ok u) (fun a => (.v (e1 a), C))) (h2 : Im (evalE cb b σ C) C0 (.ok v) (fun a => (.v (e2 a), C))) (h3 : Im (evalE cb c σ C) C0 (.ok w) (fun a => (.v (e3 a), C)))
    (hf : flatP (e2 v) = true) (c1 : cmpP o1 (e1 u) (e2 v) = some s) (c2 : cmpP o2 (e2 v) (e3 w) = some t) : Im (evalE cb (.chn o1 o2 a b c) σ C) C0 (.ok (s && t)) (fun t => (.v (.bl t), C)) := by
  show evalE cb (.chn o1 o2 a b c) σ C = .ok (.v (.bl (s && t))) C
  unfold evalE
  rw [show evalE cb a σ C = .ok (.v (e1 u)) C from h1, Rs.bnd_ok, show evalE cb b σ C = .ok (.v (e2 v)) C from h2]
  simp only [Rs.bnd_ok, opA, view, Option.bind_some, hf, if_true, opt_some, c1, show evalE cb c σ C = .ok (.v (e3 w)) C from h3]
  cases s <;> simp [c2]
theorem ev_neg {a : E} {m : M α} {i : α → Int} {κ : α → CH} (h : Im (evalE cb a σ C) C0 m (fun x => (.v (.int (i x)), κ x))) (hc : ∀ x, κ x = C) : Im (evalE cb (.neg a) σ C) C0 (m.bind fun x => .ok (-(i x))) (fun z => (.v (.int z), C)) := by
  unfold evalE
  exact Im.bnd h fun x => by show Rs.ok _ (κ x) = _; rw [hc]
theorem ev_not {a : E} {m : M α} {t : α → Bool} {κ : α → CH} (h : Im (evalE cb a σ C) C0 m (fun x => (.v (.bl (t x)), κ x))) (hc : ∀ x, κ x = C) : Im (evalE cb (.not a) σ C) C0 (m.bind fun x => .ok (!(t x))) (fun z => (.v (.bl z), C)) := by
  unfold evalE
  exact Im.bnd h fun x => by show Rs.ok _ (κ x) = _; rw [hc]
theorem ev_notB {a : E} {m : M (Bool × δ)} {κ : δ → CH} (h : Im (evalE cb a σ C) C0 m (fun x => (.v (.bl x.1), κ x.2))) : Im (evalE cb (.not a) σ C) C0 (m.bind fun x => .ok (!x.1, x.2)) (fun z => (.v (.bl z.1), κ z.2)) := by
  unfold evalE
  exact Im.bnd h fun x => rfl
/-- and, or: the store as it was -/
theorem an_nil : Im (evalAnd cb [] σ C) C0 (.ok true) (fun t => (t, C)) := by
  show evalAnd cb [] σ C = .ok true C
  unfold evalAnd; rfl
theorem an_cons {e : E} {es : List E} {m1 m2 : M Bool} (h1 : Im (evalE cb e σ C) C0 m1 (fun t => (.v (.bl t), C))) (h2 : Im (evalAnd cb es σ C) C0 m2 (fun t => (t, C))) : Im (evalAnd cb (e :: es) σ C) C0 (m1.bind fun t => if t then m2 else .ok false) (fun t => (t, C)) := by
  unfold evalAnd
  refine Im.bnd h1 fun t => ?_
  cases t with
  | true => exact h2
  | false => exact rfl
theorem an_consP {e : E} {es : List E} {s t : Bool} (h1 : Im (evalE cb e σ C) C0 (.ok s) (fun t => (.v (.bl t), C))) (h2 : Im (evalAnd cb es σ C) C0 (.ok t) (fun t => (t, C))) : Im (evalAnd cb (e :: es) σ C) C0 (.ok (s && t)) (fun t => (t, C)) := by
  show evalAnd cb (e :: es) σ C = _
  unfold evalAnd
  rw [show evalE cb e σ C = .ok (.v (.bl s)) C from h1]
  cases s with
  | true => exact h2
  | false => exact rfl
theorem an_one {e : E} {m : M Bool} (h1 : Im (evalE cb e σ C) C0 m (fun t => (.v (.bl t), C))) : Im (evalAnd cb [e] σ C) C0 m (fun t => (t, C)) := by
  cases m with
  | ok t =>
    show evalAnd cb [e] σ C = _
    unfold evalAnd
    rw [show evalE cb e σ C = .ok (.v (.bl t)) C from h1]
    cases t with
    | true => unfold evalAnd; rfl
    | false => rfl
  | ex x =>
    obtain ⟨D1, g1, g2⟩ := h1
    exact ⟨D1, g1, by unfold evalAnd; rw [g2]; rfl⟩
  | no => exact trivial
theorem orr_one {e : E} {m : M Bool} (h1 : Im (evalE cb e σ C) C0 m (fun t => (.v (.bl t), C))) : Im (evalOr cb [e] σ C) C0 m (fun t => (t, C)) := by
  cases m with
  | ok t =>
    show evalOr cb [e] σ C = _
    unfold evalOr
    rw [show evalE cb e σ C = .ok (.v (.bl t)) C from h1]
    cases t with
    | false => unfold evalOr; rfl
    | true => rfl
  | ex x =>
    obtain ⟨D1, g1, g2⟩ := h1
    exact ⟨D1, g1, by unfold evalOr; rw [g2]; rfl⟩
  | no => exact trivial
theorem orr_cons {e : E} {es : List E} {m1 m2 : M Bool} (h1 : Im (evalE cb e σ C) C0 m1 (fun t => (.v (.bl t), C))) (h2 : Im (evalOr cb es σ C) C0 m2 (fun t => (t, C))) : Im (evalOr cb (e :: es) σ C) C0 (m1.bind fun t => if t then .ok true else m2) (fun t => (t, C)) := by
  unfold evalOr
  refine Im.bnd h1 fun t => ?_
  cases t with
  | false => exact h2
  | true => exact rfl
theorem orr_consP {e : E} {es : List E} {s t : Bool} (h1 : Im (evalE cb e σ C) C0 (.ok s) (fun t => (.v (.bl t), C))) (h2 : Im (evalOr cb es σ C) C0 (.ok t) (fun t => (t, C))) : Im (evalOr cb (e :: es) σ C) C0 (.ok (s || t)) (fun t => (t, C)) := by
  show evalOr cb (e :: es) σ C = _
  unfold evalOr
  rw [show evalE cb e σ C = .ok (.v (.bl s)) C from h1]
  cases s with
  | false => exact h2
  | true => exact rfl
theorem ev_and {es : List E} {m : M Bool} (h : Im (evalAnd cb es σ C) C0 m (fun t => (t, C))) : Im (evalE cb (.and es) σ C) C0 m (fun t => (.v (.bl t), C)) := by
  unfold evalE
  cases m with
  | ok t => show Rs.bnd _ _ = _; rw [show evalAnd cb es σ C = .ok t C from h]; rfl
  | ex e => obtain ⟨D1, g1, g2⟩ := h; rw [g2]; exact ⟨D1, g1, rfl⟩
  | no => exact trivial
theorem ev_or {es : List E} {m : M Bool} (h : Im (evalOr cb es σ C) C0 m (fun t => (t, C))) : Im (evalE cb (.or es) σ C) C0 m (fun t => (.v (.bl t), C)) := by
  unfold evalE
  cases m with
  | ok t => show Rs.bnd _ _ = _; rw [show evalOr cb es σ C = .ok t C from h]; rfl
  | ex e => obtain ⟨D1, g1, g2⟩ := h; rw [g2]; exact ⟨D1, g1, rfl⟩
  | no => exact trivial
theorem ev_ite {c a b : E} {m : M α} {η : α → RV × CH} {t : α → Bool} {k1 k2 : α → M β} {η' : β → RV × CH} (h : Im (evalE cb c σ C) C0 m η) (ht : ∀ x, (view (η x).2 (opA (η x).1)).bind truP = some (t x)) (h1 : ∀ x, Im (evalE cb a σ (η x).2) C0 (k1 x) η') (h2 : ∀ x, Im (evalE cb b σ (η x).2) C0 (k2 x) η') :
    Im (evalE cb (.ite c a b) σ C) C0 (m.bind fun x => if t x then k1 x else k2 x) η' := by
  unfold evalE
  refine Im.bnd h fun x => ?_
  rw [ht x]
  show Im (match t x with
    | true => evalE cb a σ (η x).2
    | false => evalE cb b σ (η x).2) C0 _ _
  cases t x with
  | true => exact h1 x
  | false => exact h2 x
/-- both arms hold plain values -/
theorem ev_iteP {c a b : E} {t : Bool} {x y : α} {enc : α → RV} (h : Im (evalE cb c σ C) C0 (.ok t) (fun t => (.v (.bl t), C))) (h1 : Im (evalE cb a σ C) C0 (.ok x) (fun a => (enc a, C))) (h2 : Im (evalE cb b σ C) C0 (.ok y) (fun a => (enc a, C))) :
    Im (evalE cb (.ite c a b) σ C) C0 (.ok (if t then x else y)) (fun a => (enc a, C)) := by
  show evalE cb (.ite c a b) σ C = _
  unfold evalE
  rw [show evalE cb c σ C = .ok (.v (.bl t)) C from h]
  cases t with
  | true => exact h1
  | false => exact h2
/-! operands -/
theorem es_nil : Im (evalAs cb [] σ C) C0 (.ok ()) (fun _ => ([], C)) := by
  show evalAs cb [] σ C = .ok [] C
  unfold evalAs; rfl
theorem es_nilB {κ : δ → CH} (d : δ) (h : C = κ d) : Im (evalAs cb [] σ C) C0 (.ok d) (fun d => ([], κ d)) := by
  show evalAs cb [] σ C = .ok [] (κ d)
  unfold evalAs; rw [h]
theorem es_cons {e : E} {es : List E} {m1 : M α} {η1 : α → RV × CH} {m2 : α → M β} {η2 : α → β → List A × CH} (h1 : Im (evalE cb e σ C) C0 m1 η1) (h2 : ∀ x, Im (evalAs cb es σ (η1 x).2) C0 (m2 x) (η2 x)) :
    Im (evalAs cb (e :: es) σ C) C0 (m1.bind fun x => (m2 x).bind fun y => .ok (x, y)) (fun p => (opA (η1 p.1).1 :: (η2 p.1 p.2).1, (η2 p.1 p.2).2)) := by
  unfold evalAs
  exact Im.bnd h1 fun x => Im.bnd (h2 x) fun y => rfl
theorem ev_tup {l : List E} {m : M α} {η : α → List A × CH} {xs : α → List P} (h : Im (evalAs cb l σ C) C0 m η) (hd : ∀ a, datA (η a).1 = some (xs a)) (hl : ∀ a, decide ((xs a).length ≤ lim) = true) : Im (evalE cb (.tup l) σ C) C0 m (fun a => (.v (.tup (xs a)), (η a).2)) := by
  unfold evalE
  have q : Im ((evalAs cb l σ C).bnd fun as C => (opt (datA as) C).bnd fun xs C => if decide (xs.length ≤ lim) = true then .ok (RV.v (.tup xs)) C else .no) C0 (m.bind .ok) (fun a => (.v (.tup (xs a)), (η a).2)) := Im.bnd h fun a => by
    show Rs.bnd (opt (datA _) _) _ = _
    rw [hd a]
    simp only [opt_some, Rs.bnd_ok, hl a, if_true]
  revert q
  cases m with
  | ok a => exact fun q => q
  | ex e => exact fun q => q
  | no => exact fun q => q
theorem ev_lst {l : List E} {m : M α} {η : α → List A × CH} {xs : α → List P} (h : Im (evalAs cb l σ C) C0 m η) (hd : ∀ a, datA (η a).1 = some (xs a)) (hl : ∀ a, decide ((xs a).length ≤ lim) = true) : Im (evalE cb (.lst l) σ C) C0 m (fun a => (.fr (xs a), (η a).2)) := by
  unfold evalE
  have q : Im ((evalAs cb l σ C).bnd fun as C => (opt (datA as) C).bnd fun xs C => if decide (xs.length ≤ lim) = true then .ok (RV.fr xs) C else .no) C0 (m.bind .ok) (fun a => (.fr (xs a), (η a).2)) := Im.bnd h fun a => by
    show Rs.bnd (opt (datA _) _) _ = _
    rw [hd a]
    simp only [opt_some, Rs.bnd_ok, hl a, if_true]
  revert q
  cases m with
  | ok a => exact fun q => q
  | ex e => exact fun q => q
  | no => exact fun q => q
/-- a result said anew -/
theorem Im.re {ρ : Type} {r : Rs ρ} {m : M α} {η : α → ρ × CH} {g : α → β} {η' : β → ρ × CH} (h : Im r C0 m η) (hg : ∀ a, η a = η' (g a)) : Im r C0 (m.bind fun a => .ok (g a)) η' := by
  cases m with
  | ok a => rw [show r = .ok (η a).1 (η a).2 from h, hg a]; exact rfl
  | ex e => exact h
  | no => exact trivial
theorem ev_sub {a b : E} {m1 : M α} {η1 : α → RV × CH} {m2 : α → M β} {η2 : α → β → RV × CH} {p1 : α → β → P} {p2 : α → β → P} {m3 : α → β → M γ} {η3 : γ → RV × CH}
    (h1 : Im (evalE cb a σ C) C0 m1 η1) (h2 : ∀ x, Im (evalE cb b σ (η1 x).2) C0 (m2 x) (η2 x))
    (v1 : ∀ x y, view (η2 x y).2 (opA (η1 x).1) = some (p1 x y)) (v2 : ∀ x y, view (η2 x y).2 (opA (η2 x y).1) = some (p2 x y)) (h3 : ∀ x y, Im ((opt (subP (p1 x y) (p2 x y)) (η2 x y).2).bnd fun r C => .ok (.v r) C) C0 (m3 x y) η3) :
    Im (evalE cb (.sub a b) σ C) C0 (m1.bind fun x => (m2 x).bind fun y => m3 x y) η3 := by
  unfold evalE
  refine Im.bnd h1 fun x => Im.bnd (h2 x) fun y => ?_
  rw [v1 x y, opt_some, Rs.bnd_ok, v2 x y, opt_some, Rs.bnd_ok]
  exact h3 x y
theorem ev_subc {a : E} {i : Int} {m1 : M α} {η1 : α → RV × CH} {p1 : α → P} {m3 : α → M γ} {η3 : γ → RV × CH}
    (h1 : Im (evalE cb a σ C) C0 m1 η1) (v1 : ∀ x, view (η1 x).2 (opA (η1 x).1) = some (p1 x)) (h3 : ∀ x, Im ((opt (subP (p1 x) (.int i)) (η1 x).2).bnd fun r C => .ok (.v r) C) C0 (m3 x) η3) :
    Im (evalE cb (.sub a (.con (.int i))) σ C) C0 (m1.bind m3) η3 := by
  unfold evalE
  refine Im.bnd h1 fun x => ?_
  rw [show evalE cb (.con (.int i)) σ (η1 x).2 = .ok (.v (.int i)) (η1 x).2 by unfold evalE; rfl, Rs.bnd_ok, v1 x, opt_some, Rs.bnd_ok]
  exact h3 x
theorem ev_slc {a : E} {lo hi : List E} {m1 : M α} {η1 : α → RV × CH} {m2 : α → M β} {η2 : α → β → List A × CH} {l2 : α → β → Option Int} {m3 : α → β → M γ} {η3 : α → β → γ → List A × CH} {l3 : α → β → γ → Option Int} {p : α → β → γ → P} {m4 : α → β → γ → M δ} {η4 : δ → RV × CH}
    (h1 : Im (evalE cb a σ C) C0 m1 η1) (h2 : ∀ x, Im (evalAs cb lo σ (η1 x).2) C0 (m2 x) (η2 x)) (q2 : ∀ x y, (datA (η2 x y).1).bind partP = some (l2 x y)) (h3 : ∀ x y, Im (evalAs cb hi σ (η2 x y).2) C0 (m3 x y) (η3 x y)) (q3 : ∀ x y z, (datA (η3 x y z).1).bind partP = some (l3 x y z))
    (v1 : ∀ x y z, view (η3 x y z).2 (opA (η1 x).1) = some (p x y z)) (h4 : ∀ x y z, Im (opt (slcP (p x y z) (l2 x y) (l3 x y z)) (η3 x y z).2) C0 (m4 x y z) η4) :
    Im (evalE cb (.slc a lo hi) σ C) C0 (m1.bind fun x => (m2 x).bind fun y => (m3 x y).bind fun z => m4 x y z) η4 := by
  unfold evalE
  refine Im.bnd h1 fun x => Im.bnd (h2 x) fun y => ?_
  rw [q2 x y, opt_some, Rs.bnd_ok]
  refine Im.bnd (h3 x y) fun z => ?_
  rw [q3 x y z, opt_some, Rs.bnd_ok, v1 x y z, opt_some, Rs.bnd_ok]
  exact h4 x y z
theorem ev_rev {a : E} {m1 : M α} {η1 : α → RV × CH} {p : α → P} {l : α → List P} (h1 : Im (evalE cb a σ C) C0 m1 η1) (v1 : ∀ x, view (η1 x).2 (opA (η1 x).1) = some (p x)) (h4 : ∀ x, revP (p x) = some (.fr (l x))) : Im (evalE cb (.rev a) σ C) C0 m1 (fun x => (.fr (l x), (η1 x).2)) := by
  unfold evalE
  cases m1 with
  | ok x =>
    show Rs.bnd _ _ = _
    rw [show evalE cb a σ C = .ok (η1 x).1 (η1 x).2 from h1]
    show (opt (view (η1 x).2 (opA (η1 x).1)) (η1 x).2).bnd _ = _
    rw [v1 x]
    show opt (revP (p x)) (η1 x).2 = _
    rw [h4 x]
    rfl
  | ex e => obtain ⟨D1, g1, g2⟩ := h1; rw [g2]; exact ⟨D1, g1, rfl⟩
  | no => exact trivial
theorem ev_att {a : E} {f : String} {m1 : M α} {η1 : α → RV × CH} {g : α → β} {enc : β → P} (h1 : Im (evalE cb a σ C) C0 m1 η1) (h2 : ∀ x, attP cb.has (η1 x).2 (opA (η1 x).1) f = some (enc (g x))) (hc : ∀ x, (η1 x).2 = C) : Im (evalE cb (.att a f) σ C) C0 (m1.bind fun x => .ok (g x)) (fun z => (.v (enc z), C)) := by
  unfold evalE
  refine Im.bnd h1 fun x => ?_
  rw [h2 x, hc x]
  exact rfl
theorem ev_call {f : String} {l : List E} {m : M α} {η : α → List A × CH} {k : α → M β} {η' : β → RV × CH} (h : Im (evalAs cb l σ C) C0 m η) (hf : ∀ g, Im (cb.call f (η g).1 (η g).2) C0 (k g) η') : Im (evalE cb (.call f l) σ C) C0 (m.bind k) η' := by
  unfold evalE
  exact Im.bnd h hf
theorem ev_new {f : String} {l : List E} {m : M α} {η : α → List A × CH} {k : α → M β} {η' : β → RV × CH} (h : Im (evalAs cb l σ C) C0 m η) (hf : ∀ g, Im (cb.new f (η g).1 (η g).2) C0 (k g) η') : Im (evalE cb (.new f l) σ C) C0 (m.bind k) η' := by
  unfold evalE
  exact Im.bnd h hf
theorem ev_callb {f : String} {l : List E} {m : M α} {η : α → List A × CH} {ps : α → List P} {k : α → M β} {enc : β → P} (h : Im (evalAs cb l σ C) C0 m η) (hv : ∀ g, allA (η g).2 (η g).1 = some (ps g)) (hf : ∀ g, Im (cb.call f ((ps g).map .p) []) (fun D => D = []) (k g) (fun a => (.v (enc a), []))) (hl : ∀ a, flatAll (enc a) = true) (hc : ∀ g, (η g).2 = C) :
    Im (evalE cb (.callb f l) σ C) C0 (m.bind fun g => (k g).nox) (fun a => (.v (enc a), C)) := by
  unfold evalE
  refine Im.bnd h fun g => ?_
  rw [hv g]
  show Im (lend (η g).2 (cb.call f ((ps g).map .p) [])) C0 _ _
  have q := hf g
  revert q
  cases k g with
  | ok a =>
    intro q
    rw [show cb.call f ((ps g).map .p) [] = .ok (.v (enc a)) [] from q]
    show (if flatAll (enc a) = true then Rs.ok (RV.v (enc a)) (η g).2 else .no) = _
    rw [hl a, hc g]
    rfl
  | ex e => exact fun _ => trivial
  | no => exact fun _ => trivial
theorem ev_bi {f : Bi} {l : List E} {m : M α} {η : α → List A × CH} {ps : α → List P} {k : α → M β} {η' : β → RV × CH} (h : Im (evalAs cb l σ C) C0 m η) (hv : ∀ g, allA (η g).2 (η g).1 = some (ps g)) (hf : ∀ g, Im (opt (biP f (ps g)) (η g).2) C0 (k g) η') : Im (evalE cb (.bi f l) σ C) C0 (m.bind k) η' := by
  unfold evalE
  refine Im.bnd h fun g => ?_
  rw [hv g]
  exact hf g
theorem ev_isi {a : E} {ts : List String} {m : M α} {η : α → RV × CH} {p : α → P} {t : α → Bool} (h : Im (evalE cb a σ C) C0 m η) (hv : ∀ x, view (η x).2 (opA (η x).1) = some (p x)) (ht : ∀ x, isis cb (p x) ts = some (t x)) (hc : ∀ x, (η x).2 = C) : Im (evalE cb (.isi a ts) σ C) C0 (m.bind fun x => .ok (t x)) (fun z => (.v (.bl z), C)) := by
  unfold evalE
  refine Im.bnd h fun x => ?_
  rw [hv x, hc x]
  show ((opt (isis cb (p x) ts) C).bnd fun b C => Rs.ok (RV.v (P.bl b)) C) = _
  rw [ht x]
  rfl
end
end MP
/-! SH2: statements. -/
namespace MP
open PySem
/-- an option's plain value -/
def OpI {γ δ : Type} (o : Option γ) (m : M δ) (f : δ → γ) : Prop := match m with
  | .ok z => o = some (f z)
  | .ex _ => False
  | .no => True
/-- how a block ends -/
inductive Lo (S R : Type) where
  | nx (s : S)
  | ct (s : S)
  | bk (s : S)
  | rt (r : R)
  | ex (e : Exn)
  | no
/-- a def's result -/
def flRs : Fl → Rs RV
  | .nx _ C => .ok (.v .non) C
  | .rt r C => .ok r C
  | .ex e _ C => .ex e C
  | _ => .no
/-- a sort of blocks: what it means that a block does what a plain value says -/
structure Srt (C0 : CH → Prop) (R : Type) (ηR : R → RV × CH) (X : Type) where
  J : Fl → X → Prop
  ex : Exn → X
  no : X
  rt : R → X
  hex : ∀ e σ C, C0 C → J (.ex e σ C) (ex e)
  hno : ∀ fl, J fl no
  hrt : ∀ r, J (.rt (ηR r).1 (ηR r).2) (rt r)
/-- a def's body -/
def sF (C0 : CH → Prop) {R : Type} (ηR : R → RV × CH) : Srt C0 R ηR (M R) where
  J := fun fl m => Im (flRs fl) C0 m ηR
  ex := .ex
  no := .no
  rt := .ok
  hex := fun _ _ C h => ⟨C, h, rfl⟩
  hno := fun _ => trivial
  hrt := fun _ => rfl
/-- a loop's body -/
def sL (C0 : CH → Prop) {R S : Type} (ηR : R → RV × CH) (ρ : S → Env × CH) : Srt C0 R ηR (Lo S R) where
  J := fun fl r => match r with
    | .nx s => fl = .nx (ρ s).1 (ρ s).2
    | .ct s => fl = .ct (ρ s).1 (ρ s).2
    | .bk s => fl = .bk (ρ s).1 (ρ s).2
    | .rt r => fl = .rt (ηR r).1 (ηR r).2
    | .ex e => ∃ σ C, C0 C ∧ fl = .ex e σ C
    | .no => True
  ex := .ex
  no := .no
  rt := .rt
  hex := fun _ σ C h => ⟨σ, C, h, rfl⟩
  hno := fun _ => trivial
  hrt := fun _ => rfl
/-- a block that goes on -/
def sN (C0 : CH → Prop) {S : Type} (ρ : S → Env × CH) : Srt C0 Empty (fun r => nomatch r) (M S) where
  J := fun fl r => match r with
    | .ok s => fl = .nx (ρ s).1 (ρ s).2
    | .ex e => ∃ σ C, C0 C ∧ fl = .ex e σ C
    | .no => True
  ex := .ex
  no := .no
  rt := fun r => nomatch r
  hex := fun _ σ C h => ⟨σ, C, h, rfl⟩
  hno := fun _ => trivial
  hrt := fun r => nomatch r
def Srt.bind {C0 : CH → Prop} {R X α : Type} {ηR : R → RV × CH} (K : Srt C0 R ηR X) (m : M α) (f : α → X) : X := match m with
  | .ok a => f a
  | .ex e => K.ex e
  | .no => K.no
/-- behind a loop -/
def Srt.seq {C0 : CH → Prop} {R X S : Type} {ηR : R → RV × CH} (K : Srt C0 R ηR X) (r : Lo S R) (f : S → X) : X := match r with
  | .nx s => f s
  | .ct s => f s
  | .bk s => f s
  | .rt r => K.rt r
  | .ex e => K.ex e
  | .no => K.no
def loopO {X S R : Type} (f : X → S → Lo S R) : List X → S → Lo S R
  | [], s => .nx s
  | x :: xs, s => match f x s with
    | .nx s => loopO f xs s
    | .ct s => loopO f xs s
    | .bk s => .nx s
    | .rt r => .rt r
    | .ex e => .ex e
    | .no => .no
def loopM {X S : Type} (f : X → S → M S) : List X → S → M S
  | [], s => .ok s
  | x :: xs, s => (f x s).bind fun s => loopM f xs s
def whileK {S R : Type} (c : S → M Bool) (f : S → Lo S R) : Nat → S → Option (Lo S R)
  | 0, _ => none
  | k + 1, s => match c s with
    | .no => some .no
    | .ex e => some (.ex e)
    | .ok false => some (.nx s)
    | .ok true => match f s with
      | .nx s => whileK c f k s
      | .ct s => whileK c f k s
      | .bk s => some (.nx s)
      | .rt r => some (.rt r)
      | .ex e => some (.ex e)
      | .no => some .no
open Classical in
noncomputable def whileO {S R : Type} (c : S → M Bool) (f : S → Lo S R) (s : S) : Lo S R :=
  if h : ∃ k r, whileK c f k s = some r then Classical.choose (Classical.choose_spec h) else .no
theorem whileK_mono {S R : Type} {c : S → M Bool} {f : S → Lo S R} : ∀ {k j : Nat} {s : S} {r : Lo S R}, whileK c f k s = some r → k ≤ j → whileK c f j s = some r
  | 0, _, _, _, h, _ => by cases h
  | k + 1, 0, _, _, _, hj => by omega
  | k + 1, j + 1, s, r, h, hj => by
    unfold whileK at h ⊢
    revert h
    cases c s with
    | no => exact fun h => h
    | ex e => exact fun h => h
    | ok b =>
      cases b with
      | false => exact fun h => h
      | true =>
        dsimp only
        cases f s <;> first | exact fun h => h | exact fun h => whileK_mono h (by omega)
theorem whileO_of {S R : Type} {c : S → M Bool} {f : S → Lo S R} {s : S} {k : Nat} {r : Lo S R} (h : whileK c f k s = some r) : whileO c f s = r := by
  have hh : ∃ k r, whileK c f k s = some r := ⟨k, r, h⟩
  unfold whileO
  rw [dif_pos hh]
  have q := Classical.choose_spec (Classical.choose_spec hh)
  have a := whileK_mono (j := k + Classical.choose hh) h (by omega)
  have b := whileK_mono (j := k + Classical.choose hh) q (by omega)
  rw [a] at b
  exact (Option.some.inj b).symm
theorem whileF_of {c : Env → CH → Rs Bool} {b : Env → CH → Fl} {σ : Env} {C : CH} {k : Nat} {r : Fl} (h : whileN c b k σ C = some r) : whileF c b σ C = r := by
  have mono : ∀ {k j : Nat} {σ : Env} {C : CH} {r : Fl}, whileN c b k σ C = some r → k ≤ j → whileN c b j σ C = some r := by
    intro k
    induction k with
    | zero => intro j σ C r h _; cases h
    | succ k ih =>
      intro j σ C r h hj
      cases j with
      | zero => omega
      | succ j =>
        unfold whileN at h ⊢
        revert h
        cases c σ C with
        | no => exact fun h => h
        | ex e C => exact fun h => h
        | ok t C =>
          cases t with
          | false => exact fun h => h
          | true =>
            dsimp only
            cases b σ C <;> first | exact fun h => h | exact fun h => ih h (by omega)
  have hh : ∃ k r, whileN c b k σ C = some r := ⟨k, r, h⟩
  unfold whileF
  rw [dif_pos hh]
  have q := Classical.choose_spec (Classical.choose_spec hh)
  have a := mono (j := k + Classical.choose hh) h (by omega)
  have d := mono (j := k + Classical.choose hh) q (by omega)
  rw [a] at d
  exact (Option.some.inj d).symm

section
variable {cb : Cb} {σ : Env} {C0 : CH → Prop} {C : CH} {R X α β γ S : Type} {ηR : R → RV × CH} (K : Srt C0 R ηR X) {rest : List S'}
end
section
variable {cb : Cb} {σ : Env} {C0 : CH → Prop} {C : CH} {R X α β γ S : Type} {ηR : R → RV × CH} {K : Srt C0 R ηR X} {rest : List MP.S}
theorem bd_fl {r : Rs ρ} {m : M α} {η : α → ρ × CH} {f : ρ → CH → Fl} {g : Fl → Fl} {k : α → X} (h : Im r C0 m η) (hg : ∀ e σ C, g (.ex e σ C) = .ex e σ C) (hk : ∀ a, K.J (g (f (η a).1 (η a).2)) (k a)) : K.J (g (r.fl σ f)) (K.bind m k) := by
  cases m with
  | ok a => rw [show r = .ok (η a).1 (η a).2 from h]; exact hk a
  | ex e => obtain ⟨C1, h1, h2⟩ := h; rw [h2]; show K.J (g (.ex e σ C1)) _; rw [hg]; exact K.hex e σ C1 h1
  | no => exact K.hno _
/-- the rest of a block -/
noncomputable def thn (cb : Cb) (rest : List MP.S) : Fl → Fl
  | .nx σ C => runB cb rest σ C
  | o => o
theorem runB_cons {s : MP.S} : runB cb (s :: rest) σ C = thn cb rest (runS cb s σ C) := by
  rw [runB]
  cases runS cb s σ C <;> rfl
theorem thn_ex {e : Exn} {σ : Env} {C : CH} : thn cb rest (.ex e σ C) = .ex e σ C := rfl
/-- what a name holds behind an assignment -/
def setD : RV → Option D
  | .v x => some (.p x)
  | .fr l => some (.p (.lst l))
  | .cell n => some (.cell n)
  | .vw _ => none
theorem st_set {i : Nat} {e : E} {m : M α} {η : α → RV × CH} {d : α → D} {k : α → X} (h : Im (evalE cb e σ C) C0 m η) (hd : ∀ a, setD (η a).1 = some (d a)) (hk : ∀ a, K.J (runB cb rest (σ.set i (some (d a))) (η a).2) (k a)) : K.J (runB cb (.set i e :: rest) σ C) (K.bind m k) := by
  rw [runB_cons]
  unfold runS
  refine bd_fl h (fun _ _ _ => rfl) fun a => ?_
  have q := hd a
  have z := hk a
  revert q z
  generalize (η a).1 = r
  cases r <;> intro q z <;> first | (cases q; done) | skip
  all_goals
    have q' := Option.some.inj q
    rw [← q'] at z
    exact z
theorem st_own {i : Nat} {e : E} {m : M α} {η : α → RV × CH} {l : α → List P} {k : α → X} (h : Im (evalE cb e σ C) C0 m η) (hd : ∀ a, (η a).1 = .fr (l a)) (hk : ∀ a, K.J (runB cb rest (σ.set i (some (.own (l a)))) (η a).2) (k a)) : K.J (runB cb (.own i e :: rest) σ C) (K.bind m k) := by
  rw [runB_cons]
  unfold runS
  refine bd_fl h (fun _ _ _ => rfl) fun a => ?_
  rw [hd a]
  exact hk a
theorem st_setc {i : Nat} {e : E} {m : M α} {η : α → RV × CH} {l : α → List P} {k : α → X} (h : Im (evalE cb e σ C) C0 m η) (hd : ∀ a, (η a).1 = .fr (l a)) (hk : ∀ a, K.J (runB cb rest (σ.set i (some (.cell (η a).2.length))) ((η a).2 ++ [some (.lst (l a))])) (k a)) : K.J (runB cb (.setc i e :: rest) σ C) (K.bind m k) := by
  rw [runB_cons]
  unfold runS
  refine bd_fl h (fun _ _ _ => rfl) fun a => ?_
  rw [hd a]
  exact hk a
theorem st_frz {i : Nat} {l : List P} {x : X} (h : σ[i]? = some (some (.own l))) (hk : K.J (runB cb rest (σ.set i (some (.p (.lst l)))) C) x) : K.J (runB cb (.frz i :: rest) σ C) x := by
  rw [runB_cons]
  unfold runS
  rw [h]
  exact hk
theorem st_frzp {i : Nat} {p : P} {x : X} (h : σ[i]? = some (some (.p p))) (hk : K.J (runB cb rest σ C) x) : K.J (runB cb (.frz i :: rest) σ C) x := by
  rw [runB_cons]
  unfold runS
  rw [h]
  exact hk
theorem st_drop {i : Nat} {x : X} (hk : K.J (runB cb rest (σ.set i none) C) x) : K.J (runB cb (.drop i :: rest) σ C) x := by
  rw [runB_cons]
  unfold runS
  exact hk
theorem st_par {i j : Nat} {a b : E} {m : M α} {η : α → List A × CH} {x y : α → P} {k : α → X} (h : Im (evalAs cb [a, b] σ C) C0 m η) (hd : ∀ a, (η a).1 = [.p (x a), .p (y a)]) (hk : ∀ a, K.J (runB cb rest ((σ.set i (some (.p (x a)))).set j (some (.p (y a)))) (η a).2) (k a)) : K.J (runB cb (.par i j a b :: rest) σ C) (K.bind m k) := by
  rw [runB_cons]
  unfold runS
  refine bd_fl h (fun _ _ _ => rfl) fun a => ?_
  rw [hd a]
  exact hk a
theorem st_unp {is : List Nat} {e : E} {m : M α} {η : α → RV × CH} {x : α → P} {σ' : α → Env} {k : α → X} (h : Im (evalE cb e σ C) C0 m η) (hd : ∀ a, (η a).1 = .v (x a)) (hb : ∀ a, bindT (.tp is) (x a) σ = some (σ' a)) (hk : ∀ a, K.J (runB cb rest (σ' a) (η a).2) (k a)) : K.J (runB cb (.unp is e :: rest) σ C) (K.bind m k) := by
  rw [runB_cons]
  unfold runS
  refine bd_fl h (fun _ _ _ => rfl) fun a => ?_
  rw [hd a]
  dsimp only
  rw [hb a]
  exact hk a
theorem st_exp {e : E} {m : M α} {η : α → RV × CH} {k : α → X} (h : Im (evalE cb e σ C) C0 m η) (hk : ∀ a, K.J (runB cb rest σ (η a).2) (k a)) : K.J (runB cb (.exp e :: rest) σ C) (K.bind m k) := by
  rw [runB_cons]
  unfold runS
  exact bd_fl h (fun _ _ _ => rfl) hk
theorem st_pas {x : X} (hk : K.J (runB cb rest σ C) x) : K.J (runB cb (.pas :: rest) σ C) x := by
  rw [runB_cons]
  unfold runS
  exact hk
theorem st_nev : K.J (runB cb (.nev :: rest) σ C) K.no := K.hno _
theorem st_ret {e : E} {m : M R} (h : Im (evalE cb e σ C) C0 m ηR) (hv : ∀ a l, (ηR a).1 ≠ .vw l) : K.J (runB cb (.ret e :: rest) σ C) (K.bind m K.rt) := by
  rw [runB_cons]
  unfold runS
  refine bd_fl h (fun _ _ _ => rfl) fun a => ?_
  have q := hv a
  have z := K.hrt a
  revert q z
  generalize (ηR a).1 = r
  cases r with
  | vw l => intro q; exact absurd rfl (q l)
  | _ => exact fun _ z => z
theorem st_retv {e : E} {m : M R} {l : R → List P} {κ : R → CH} {K : Srt C0 R (fun a => (.fr (l a), κ a)) X} (h : Im (evalE cb e σ C) C0 m (fun a => (.vw (l a), κ a))) : K.J (runB cb (.ret e :: rest) σ C) (K.bind m K.rt) := by
  rw [runB_cons]
  unfold runS
  exact bd_fl h (fun _ _ _ => rfl) fun a => K.hrt a
theorem st_rtn {r : R} (h : ηR r = (.v .non, C)) : K.J (runB cb (.rtn :: rest) σ C) (K.rt r) := by
  rw [runB_cons]
  unfold runS
  have z := K.hrt r
  rw [h] at z
  exact z
/-- a block's end -/
theorem en_f {R : Type} {ηR : R → RV × CH} {r : R} (h : ηR r = (.v .non, C)) : (sF C0 ηR).J (runB cb [] σ C) (.ok r) := by
  show Im (flRs (runB cb [] σ C)) C0 (.ok r) ηR
  unfold runB
  show Rs.ok _ _ = Rs.ok _ _
  rw [h]
theorem en_l {ρ : S → Env × CH} {ηR : R → RV × CH} {s : S} (h : ρ s = (σ, C)) : (sL C0 ηR ρ).J (runB cb [] σ C) (.nx s) := by
  show runB cb [] σ C = .nx (ρ s).1 (ρ s).2
  unfold runB
  rw [h]
theorem ct_l {ρ : S → Env × CH} {ηR : R → RV × CH} {s : S} (h : ρ s = (σ, C)) : (sL C0 ηR ρ).J (runB cb (.cnt :: rest) σ C) (.ct s) := by
  show runB cb _ σ C = .ct (ρ s).1 (ρ s).2
  rw [runB_cons]
  unfold runS
  rw [h]
  rfl
theorem bk_l {ρ : S → Env × CH} {ηR : R → RV × CH} {s : S} (h : ρ s = (σ, C)) : (sL C0 ηR ρ).J (runB cb (.brk :: rest) σ C) (.bk s) := by
  show runB cb _ σ C = .bk (ρ s).1 (ρ s).2
  rw [runB_cons]
  unfold runS
  rw [h]
  rfl
theorem en_n {ρ : S → Env × CH} {s : S} (h : ρ s = (σ, C)) : (sN C0 ρ).J (runB cb [] σ C) (.ok s) := by
  show runB cb [] σ C = .nx (ρ s).1 (ρ s).2
  unfold runB
  rw [h]
/-! lists -/
theorem st_lm {mm : Lm} {i : Nat} {l : List E} {m : M α} {η : α → List A × CH} {cur : List P} {xs : α → List P} {m2 : α → M β} {out : β → List P} {k : α → β → X} (ho : σ[i]? = some (some (.own cur))) (h : Im (evalAs cb l σ C) C0 m η) (hd : ∀ a, datA (η a).1 = some (xs a))
    (hm : ∀ a, OpI (lmP mm cur (xs a)) (m2 a) out) (hk : ∀ a b, K.J (runB cb rest (σ.set i (some (.own (out b)))) (η a).2) (k a b)) : K.J (runB cb (.lm mm i l :: rest) σ C) (K.bind m fun a => K.bind (m2 a) (k a)) := by
  rw [runB_cons]
  unfold runS
  have hl : isLst σ C i = true := by unfold isLst; rw [ho]
  rw [hl]
  simp only [Bool.not_true, Bool.false_eq_true, if_false]
  refine bd_fl h (fun _ _ _ => rfl) fun a => ?_
  rw [hd a]
  dsimp only
  unfold updL
  rw [ho]
  dsimp only
  have q := hm a
  revert q
  cases m2 a with
  | ok b => intro q; rw [show lmP mm cur (xs a) = some (out b) from q]; exact hk a b
  | ex e => intro q; exact q.elim
  | no => exact fun _ => K.hno _
theorem st_sti {o : Nat} {i e : E} {m1 : M α} {η1 : α → RV × CH} {y : α → P} {m2 : α → M β} {η2 : α → β → RV × CH} {kk : α → β → P} {cur : List P} {m3 : α → β → M γ} {out : γ → List P} {k : α → β → γ → X} (ho : σ[o]? = some (some (.own cur)))
    (h1 : Im (evalE cb e σ C) C0 m1 η1) (d1 : ∀ a, datum (opA (η1 a).1) = some (y a)) (h2 : ∀ a, Im (evalE cb i σ (η1 a).2) C0 (m2 a) (η2 a)) (d2 : ∀ a b, datum (opA (η2 a b).1) = some (kk a b))
    (hm : ∀ a b, OpI (stiP (kk a b) (y a) cur) (m3 a b) out) (hk : ∀ a b z, K.J (runB cb rest (σ.set o (some (.own (out z)))) (η2 a b).2) (k a b z)) : K.J (runB cb (.sti o i e :: rest) σ C) (K.bind m1 fun a => K.bind (m2 a) fun b => K.bind (m3 a b) (k a b)) := by
  rw [runB_cons]
  unfold runS
  refine bd_fl h1 (fun _ _ _ => rfl) fun a => ?_
  rw [d1 a]
  dsimp only
  have hl : isLst σ (η1 a).2 o = true := by unfold isLst; rw [ho]
  rw [hl]
  simp only [Bool.not_true, Bool.false_eq_true, if_false]
  refine bd_fl (h2 a) (fun _ _ _ => rfl) fun b => ?_
  rw [d2 a b]
  dsimp only
  unfold updL
  rw [ho]
  dsimp only
  have q := hm a b
  revert q
  cases m3 a b with
  | ok z => intro q; rw [show stiP (kk a b) (y a) cur = some (out z) from q]; exact hk a b z
  | ex e => intro q; exact q.elim
  | no => exact fun _ => K.hno _
/-- an int changed in its place -/
theorem st_aug {i : Nat} {op : Bop} {e : E} {a : Int} {m : M β} {y : β → Int} {κ : β → CH} {m2 : β → M Int} {k : β → Int → X} (ho : σ[i]? = some (some (.p (.int a)))) (h : Im (evalE cb e σ C) C0 m (fun b => (.v (.int (y b)), κ b)))
    (hm : ∀ b, OpI (augI op a (y b)) (m2 b) id) (hk : ∀ b z, K.J (runB cb rest (σ.set i (some (.p (.int z)))) (κ b)) (k b z)) : K.J (runB cb (.aug i op e :: rest) σ C) (K.bind m fun b => K.bind (m2 b) (k b)) := by
  rw [runB_cons]
  unfold runS
  rw [ho]
  dsimp only
  refine bd_fl h (fun _ _ _ => rfl) fun b => ?_
  dsimp only
  have q := hm b
  revert q
  cases m2 b with
  | ok z => intro q; rw [show augI op a (y b) = some z from q]; exact hk b z
  | ex e => intro q; exact q.elim
  | no => exact fun _ => K.hno _
/-- an int of a list changed in its place -/
theorem st_augi {o : Nat} {op : Bop} {i e : E} {cur : List Int} {m1 : M α} {j : α → Int} {κ1 : α → CH} {m2 : α → M Int} {m3 : α → Int → M β} {y : α → Int → β → Int} {κ3 : α → Int → β → CH} {m4 : α → Int → β → M Int} {m5 : α → Int → β → Int → M (List Int)} {k : α → Int → β → Int → List Int → X}
    (ho : σ[o]? = some (some (.own (cur.map .int)))) (h1 : Im (evalE cb i σ C) C0 m1 (fun b => (.v (.int (j b)), κ1 b)))
    (h2 : ∀ b, OpI (subP (.lst (cur.map .int)) (.int (j b))) (m2 b) P.int) (h3 : ∀ b a, Im (evalE cb e σ (κ1 b)) C0 (m3 b a) (fun z => (.v (.int (y b a z)), κ3 b a z)))
    (h4 : ∀ b a z, OpI (augI op a (y b a z)) (m4 b a z) id)
    (h5 : ∀ b a z w, OpI (stiP (.int (j b)) (.int w) (cur.map .int)) (m5 b a z w) (List.map P.int))
    (hk : ∀ b a z w l, K.J (runB cb rest (σ.set o (some (.own (l.map .int)))) (κ3 b a z)) (k b a z w l)) :
    K.J (runB cb (.augi o i op e :: rest) σ C) (K.bind m1 fun b => K.bind (m2 b) fun a => K.bind (m3 b a) fun z => K.bind (m4 b a z) fun w => K.bind (m5 b a z w) (k b a z w)) := by
  rw [runB_cons]
  unfold runS
  rw [ho]
  dsimp only
  refine bd_fl h1 (fun _ _ _ => rfl) fun b => ?_
  dsimp only
  have q2 := h2 b
  revert q2
  cases m2 b with
  | ex e => intro q; exact q.elim
  | no => exact fun _ => K.hno _
  | ok a =>
    intro q2
    rw [show subP (.lst (cur.map .int)) (.int (j b)) = some (.int a) from q2]
    dsimp only
    show K.J _ (K.bind (m3 b a) _)
    refine bd_fl (h3 b a) (fun _ _ _ => rfl) fun z => ?_
    dsimp only
    have q4 := h4 b a z
    revert q4
    cases m4 b a z with
    | ex e => intro q; exact q.elim
    | no => exact fun _ => K.hno _
    | ok w =>
      intro q4
      rw [show augI op a (y b a z) = some w from q4]
      dsimp only
      unfold updL
      rw [ho]
      show K.J _ (K.bind (m5 b a z w) (k b a z w))
      dsimp only
      have q5 := h5 b a z w
      revert q5
      cases m5 b a z w with
      | ex e => intro q; exact q.elim
      | no => exact fun _ => K.hno _
      | ok l =>
        intro q5
        rw [show stiP (.int (j b)) (.int w) (cur.map .int) = some (l.map .int) from q5]
        exact hk b a z w l
/-! branches -/
theorem thn_thn {s t : List MP.S} {f : Fl} : thn cb t (thn cb s f) = thn cb (s ++ t) f := by
  cases f with
  | nx σ C =>
    show thn cb t (runB cb s σ C) = runB cb (s ++ t) σ C
    induction s generalizing σ C with
    | nil => rw [show runB cb [] σ C = .nx σ C by unfold runB; rfl]; rfl
    | cons a s ih =>
      rw [List.cons_append, runB_cons, runB_cons]
      cases runS cb a σ C with
      | nx σ' C' => exact ih _ _
      | _ => rfl
  | _ => rfl
theorem thn_run {s t : List MP.S} : thn cb t (runB cb s σ C) = runB cb (s ++ t) σ C := thn_thn (f := .nx σ C)
theorem st_ifs {c : E} {a b : List MP.S} {m : M α} {η : α → RV × CH} {t : α → Bool} {k1 k2 : α → X} (h : Im (evalE cb c σ C) C0 m η) (ht : ∀ x, (view (η x).2 (opA (η x).1)).bind truP = some (t x)) (h1 : ∀ x, K.J (runB cb (a ++ rest) σ (η x).2) (k1 x)) (h2 : ∀ x, K.J (runB cb (b ++ rest) σ (η x).2) (k2 x)) :
    K.J (runB cb (.ifs c a b :: rest) σ C) (K.bind m fun x => if t x then k1 x else k2 x) := by
  rw [runB_cons]
  unfold runS
  refine bd_fl h (fun _ _ _ => rfl) fun x => ?_
  rw [ht x]
  cases hb : t x with
  | true => show K.J (thn cb rest (runB cb a σ _)) _; rw [thn_run]; exact h1 x
  | false => show K.J (thn cb rest (runB cb b σ _)) _; rw [thn_run]; exact h2 x
theorem nj {ρ : S → Env × CH} {m : M S} {fl : Fl} {k : S → X} (h : (sN C0 ρ).J fl m) (hk : ∀ s, K.J (runB cb rest (ρ s).1 (ρ s).2) (k s)) : K.J (thn cb rest fl) (K.bind m k) := by
  cases m with
  | ok s => rw [show fl = .nx (ρ s).1 (ρ s).2 from h]; exact hk s
  | ex e => obtain ⟨σ, C1, h1, e⟩ := h; rw [e]; exact K.hex _ _ _ h1
  | no => exact K.hno _
/-- both branches go on -/
theorem st_ifj {c : E} {a b : List MP.S} {m : M α} {η : α → RV × CH} {t : α → Bool} {ρ : S → Env × CH} {m1 m2 : α → M S} {k : S → X} (h : Im (evalE cb c σ C) C0 m η) (ht : ∀ x, (view (η x).2 (opA (η x).1)).bind truP = some (t x))
    (h1 : ∀ x, (sN C0 ρ).J (runB cb a σ (η x).2) (m1 x)) (h2 : ∀ x, (sN C0 ρ).J (runB cb b σ (η x).2) (m2 x)) (hk : ∀ s, K.J (runB cb rest (ρ s).1 (ρ s).2) (k s)) :
    K.J (runB cb (.ifs c a b :: rest) σ C) (K.bind m fun x => K.bind (if t x then m1 x else m2 x) k) := by
  rw [runB_cons]
  unfold runS
  refine bd_fl h (fun _ _ _ => rfl) fun x => ?_
  rw [ht x]
  cases hb : t x with
  | true => exact nj (h1 x) hk
  | false => exact nj (h2 x) hk
/-! loops -/
theorem lp_o {t : Tg} {b : List MP.S} {Y : Type} {ex : Y → P} {ρ : S → Env × CH} {σ' : Y → S → Env} {f : Y → S → Lo S R} (hb : ∀ x s, bindT t (ex x) (ρ s).1 = some (σ' x s)) (h : ∀ x s, (sL C0 ηR ρ).J (runB cb b (σ' x s) (ρ s).2) (f x s)) :
    ∀ (xs : List Y) (s : S), (sL C0 ηR ρ).J (loopF (fun σ C => runB cb b σ C) t (xs.map ex) (ρ s).1 (ρ s).2) (loopO f xs s)
  | [], s => rfl
  | x :: xs, s => by
    have q := h x s
    unfold loopO
    show (sL C0 ηR ρ).J (match bindT t (ex x) (ρ s).1 with
      | none => Fl.no
      | some σ' => match runB cb b σ' (ρ s).2 with
        | .nx σ C => loopF (fun σ C => runB cb b σ C) t (xs.map ex) σ C
        | .ct σ C => loopF (fun σ C => runB cb b σ C) t (xs.map ex) σ C
        | .bk σ C => .nx σ C
        | .rt r C => .rt r C
        | .ex e σ C => .ex e σ C
        | .no => .no) _
    rw [hb x s]
    dsimp only
    revert q
    cases f x s with
    | nx s' => intro q; rw [show runB cb b (σ' x s) (ρ s).2 = .nx (ρ s').1 (ρ s').2 from q]; exact lp_o hb h xs s'
    | ct s' => intro q; rw [show runB cb b (σ' x s) (ρ s).2 = .ct (ρ s').1 (ρ s').2 from q]; exact lp_o hb h xs s'
    | bk s' => intro q; rw [show runB cb b (σ' x s) (ρ s).2 = .bk (ρ s').1 (ρ s').2 from q]; exact rfl
    | rt r => intro q; rw [show runB cb b (σ' x s) (ρ s).2 = .rt (ηR r).1 (ηR r).2 from q]; exact rfl
    | ex e => intro q; obtain ⟨σ2, C2, g2, q⟩ := q; rw [q]; exact ⟨σ2, C2, g2, rfl⟩
    | no => exact fun _ => trivial
theorem lp_m {t : Tg} {b : List MP.S} {Y : Type} {ex : Y → P} {ρ : S → Env × CH} {σ' : Y → S → Env} {f : Y → S → M S} (hb : ∀ x s, bindT t (ex x) (ρ s).1 = some (σ' x s)) (h : ∀ x s, (sN C0 ρ).J (runB cb b (σ' x s) (ρ s).2) (f x s)) :
    ∀ (xs : List Y) (s : S), (sN C0 ρ).J (loopF (fun σ C => runB cb b σ C) t (xs.map ex) (ρ s).1 (ρ s).2) (loopM f xs s)
  | [], s => rfl
  | x :: xs, s => by
    have q := h x s
    unfold loopM
    show (sN C0 ρ).J (match bindT t (ex x) (ρ s).1 with
      | none => Fl.no
      | some σ' => match runB cb b σ' (ρ s).2 with
        | .nx σ C => loopF (fun σ C => runB cb b σ C) t (xs.map ex) σ C
        | .ct σ C => loopF (fun σ C => runB cb b σ C) t (xs.map ex) σ C
        | .bk σ C => .nx σ C
        | .rt r C => .rt r C
        | .ex e σ C => .ex e σ C
        | .no => .no) _
    rw [hb x s]
    dsimp only
    revert q
    cases f x s with
    | ok s' => intro q; rw [show runB cb b (σ' x s) (ρ s).2 = .nx (ρ s').1 (ρ s').2 from q]; exact lp_m hb h xs s'
    | ex e => intro q; obtain ⟨σ2, C2, g2, q⟩ := q; rw [q]; exact ⟨σ2, C2, g2, rfl⟩
    | no => exact fun _ => trivial
/-- what a loop walks -/
def ItIs {Y : Type} (o : Option (List P)) (m : M (List Y)) (ex : Y → P) : Prop := match m with
  | .ok xs => o = some (xs.map ex)
  | .ex _ => False
  | .no => True
theorem st_for {t : Tg} {kk : Ik} {its : List E} {b : List MP.S} {Y : Type} {ex : Y → P} {ρ : S → Env × CH} {σ' : Y → S → Env} {f : Y → S → Lo S R} {m : M α} {η : α → List A × CH} {mx : α → M (List Y)} {s0 : α → S} {k : S → X} (h : Im (evalAs cb its σ C) C0 m η) (hi : ∀ a, ItIs ((datA (η a).1).bind (itemsP kk)) (mx a) ex)
    (h0 : ∀ a, ρ (s0 a) = (σ, (η a).2)) (hb : ∀ x s, bindT t (ex x) (ρ s).1 = some (σ' x s)) (hf : ∀ x s, (sL C0 ηR ρ).J (runB cb b (σ' x s) (ρ s).2) (f x s)) (hk : ∀ s, K.J (runB cb rest (ρ s).1 (ρ s).2) (k s)) :
    K.J (runB cb (.fr t kk its b :: rest) σ C) (K.bind m fun a => K.bind (mx a) fun xs => K.seq (loopO f xs (s0 a)) k) := by
  rw [runB_cons]
  unfold runS
  refine bd_fl h (fun _ _ _ => rfl) fun a => ?_
  have q := hi a
  revert q
  cases mx a with
  | ok xs =>
    intro q
    rw [show (datA (η a).1).bind (itemsP kk) = some (xs.map ex) from q]
    dsimp only
    have z := lp_o (C0 := C0) (ηR := ηR) hb hf xs (s0 a)
    rw [h0 a] at z
    dsimp only at z
    revert z
    show _ → K.J (thn cb rest _) (K.seq (loopO f xs (s0 a)) k)
    cases loopO f xs (s0 a) with
    | nx s => intro z; rw [show loopF _ t _ σ _ = .nx (ρ s).1 (ρ s).2 from z]; exact hk s
    | rt r => intro z; rw [show loopF _ t _ σ _ = .rt (ηR r).1 (ηR r).2 from z]; exact K.hrt r
    | ex e => intro z; obtain ⟨σ2, C2, g2, z⟩ := z; rw [z]; exact K.hex _ _ _ g2
    | no => exact fun _ => K.hno _
    | ct s =>
      intro z
      exfalso
      have nc : ∀ (l : List P) (σ : Env) (C : CH) (σ1 : Env) (C1 : CH), loopF (fun σ C => runB cb b σ C) t l σ C ≠ .ct σ1 C1 := by
        intro l
        induction l with
        | nil => intro σ C σ1 C1 q; cases q
        | cons x l ih =>
          intro σ C σ1 C1 q
          unfold loopF at q
          split at q
          · cases q
          · split at q <;> first | (cases q; done) | exact ih _ _ _ _ q
      exact nc _ _ _ _ _ z
    | bk s =>
      intro z
      exfalso
      have nc : ∀ (l : List P) (σ : Env) (C : CH) (σ1 : Env) (C1 : CH), loopF (fun σ C => runB cb b σ C) t l σ C ≠ .bk σ1 C1 := by
        intro l
        induction l with
        | nil => intro σ C σ1 C1 q; cases q
        | cons x l ih =>
          intro σ C σ1 C1 q
          unfold loopF at q
          split at q
          · cases q
          · split at q <;> first | (cases q; done) | exact ih _ _ _ _ q
      exact nc _ _ _ _ _ z
  | ex e => intro q; exact q.elim
  | no => exact fun _ => K.hno _
theorem st_forM {t : Tg} {kk : Ik} {its : List E} {b : List MP.S} {Y : Type} {ex : Y → P} {ρ : S → Env × CH} {σ' : Y → S → Env} {f : Y → S → M S} {m : M α} {η : α → List A × CH} {mx : α → M (List Y)} {s0 : α → S} {k : S → X} (h : Im (evalAs cb its σ C) C0 m η) (hi : ∀ a, ItIs ((datA (η a).1).bind (itemsP kk)) (mx a) ex)
    (h0 : ∀ a, ρ (s0 a) = (σ, (η a).2)) (hb : ∀ x s, bindT t (ex x) (ρ s).1 = some (σ' x s)) (hf : ∀ x s, (sN C0 ρ).J (runB cb b (σ' x s) (ρ s).2) (f x s)) (hk : ∀ s, K.J (runB cb rest (ρ s).1 (ρ s).2) (k s)) :
    K.J (runB cb (.fr t kk its b :: rest) σ C) (K.bind m fun a => K.bind (mx a) fun xs => K.bind (loopM f xs (s0 a)) k) := by
  rw [runB_cons]
  unfold runS
  refine bd_fl h (fun _ _ _ => rfl) fun a => ?_
  have q := hi a
  revert q
  cases mx a with
  | ok xs =>
    intro q
    rw [show (datA (η a).1).bind (itemsP kk) = some (xs.map ex) from q]
    dsimp only
    have z := lp_m (C0 := C0) hb hf xs (s0 a)
    rw [h0 a] at z
    show K.J (thn cb rest _) (K.bind (loopM f xs (s0 a)) k)
    exact nj z hk
  | ex e => intro q; exact q.elim
  | no => exact fun _ => K.hno _
/-- a while -/
theorem st_whl {c : E} {b : List MP.S} {ρ : S → Env × CH} {cc : S → M α} {ηc : S → α → RV × CH} {tc : S → α → Bool} {f : S → Lo S R} {s0 : S} {k : S → X} (h0 : ρ s0 = (σ, C)) (hc : ∀ s, Im (evalE cb c (ρ s).1 (ρ s).2) C0 (cc s) (ηc s)) (ht : ∀ s a, (view (ηc s a).2 (opA (ηc s a).1)).bind truP = some (tc s a)) (hs : ∀ s a, (ηc s a).2 = (ρ s).2)
    (hf : ∀ s, (sL C0 ηR ρ).J (runB cb b (ρ s).1 (ρ s).2) (f s)) (hk : ∀ s, K.J (runB cb rest (ρ s).1 (ρ s).2) (k s)) :
    K.J (runB cb (.whl c b :: rest) σ C) (K.seq (whileO (fun s => (cc s).bind fun a => .ok (tc s a)) f s0) k) := by
  rw [runB_cons]
  unfold runS
  have h0a : (ρ s0).1 = σ := by rw [h0]
  have h0b : (ρ s0).2 = C := by rw [h0]
  rw [← h0a, ← h0b]
  generalize s0 = s
  clear h0 h0a h0b
  let cE : Env → CH → Rs Bool := fun σ C => (evalE cb c σ C).bnd fun r C => opt ((view C (opA r)).bind truP) C
  let cS : S → M Bool := fun s => (cc s).bind fun a => .ok (tc s a)
  have hcc : ∀ s, Im (cE (ρ s).1 (ρ s).2) C0 (cS s) (fun t => (t, (ρ s).2)) := fun s => Im.bnd (hc s) fun a => by
    show opt _ _ = _
    rw [ht s a, hs s a]
    rfl
  have key : ∀ (n : Nat) (s : S) (r : Lo S R), whileK cS f n s = some r → r = .no ∨ ∃ fl, whileN cE (fun σ C => runB cb b σ C) n (ρ s).1 (ρ s).2 = some fl ∧ (sL C0 ηR ρ).J fl r ∧ (∀ s, r ≠ .ct s) ∧ (∀ s, r ≠ .bk s) := by
    intro n
    induction n with
    | zero => intro s r q; cases q
    | succ n ih =>
      intro s r q
      unfold whileK at q
      unfold whileN
      have z := hcc s
      revert q z
      cases cS s with
      | no => intro q _; exact .inl (Option.some.inj q).symm
      | ex e =>
        intro q z
        cases Option.some.inj q
        obtain ⟨C2, g2, z⟩ := z
        rw [z]
        exact .inr ⟨_, rfl, ⟨_, C2, g2, rfl⟩, by simp, by simp⟩
      | ok t =>
        intro q z
        rw [show cE (ρ s).1 (ρ s).2 = .ok t (ρ s).2 from z]
        cases t with
        | false =>
          cases Option.some.inj q
          exact .inr ⟨_, rfl, rfl, by simp, by simp⟩
        | true =>
          dsimp only at q ⊢
          have y := hf s
          revert q y
          cases f s with
          | nx s' => intro q y; rw [show runB cb b (ρ s).1 (ρ s).2 = .nx (ρ s').1 (ρ s').2 from y]; exact ih s' r q
          | ct s' => intro q y; rw [show runB cb b (ρ s).1 (ρ s).2 = .ct (ρ s').1 (ρ s').2 from y]; exact ih s' r q
          | bk s' => intro q y; cases Option.some.inj q; rw [show runB cb b (ρ s).1 (ρ s).2 = .bk (ρ s').1 (ρ s').2 from y]; exact .inr ⟨_, rfl, rfl, by simp, by simp⟩
          | rt r' => intro q y; cases Option.some.inj q; rw [show runB cb b (ρ s).1 (ρ s).2 = .rt (ηR r').1 (ηR r').2 from y]; exact .inr ⟨_, rfl, rfl, by simp, by simp⟩
          | ex e => intro q y; obtain ⟨σ2, C2, g2, y⟩ := y; cases Option.some.inj q; rw [y]; exact .inr ⟨_, rfl, ⟨_, C2, g2, rfl⟩, by simp, by simp⟩
          | no => intro q _; exact .inl (Option.some.inj q).symm
  by_cases hh : ∃ n r, whileK cS f n s = some r
  · obtain ⟨n, r, hr⟩ := hh
    rw [show whileO (fun s => (cc s).bind fun a => .ok (tc s a)) f s = r from whileO_of hr]
    rcases key n s r hr with rfl | ⟨fl, h1, h2, h3, h4⟩
    · exact K.hno _
    · rw [show whileF _ _ (ρ s).1 (ρ s).2 = fl from whileF_of h1]
      revert h2 h3 h4
      cases r with
      | nx s' => intro h2 _ _; rw [show fl = .nx (ρ s').1 (ρ s').2 from h2]; exact hk s'
      | ct s' => intro _ h3 _; exact absurd rfl (h3 s')
      | bk s' => intro _ _ h4; exact absurd rfl (h4 s')
      | rt r' => intro h2 _ _; rw [show fl = .rt (ηR r').1 (ηR r').2 from h2]; exact K.hrt r'
      | ex e => intro h2 _ _; obtain ⟨σ2, C2, g2, h2⟩ := h2; rw [h2]; exact K.hex _ _ _ g2
      | no => intro _ _ _; exact K.hno _
  · unfold whileO
    rw [dif_neg hh]
    exact K.hno _
end
end MP
/-! SH3: operators, built-ins, sources, comprehensions on plain Lean values. -/
namespace MP
open PySem
section
variable {C : CH} {C0 : CH → Prop} {α β γ δ : Type}
/-! ### ints -/
def rngB (a b : Int) : Bool := Nat.ble a.natAbs 2305843009213693952 && Nat.ble b.natAbs 2305843009213693952 && Nat.ble (b - a).toNat lim
def powB (i j : Int) : Bool := decide (0 ≤ j) && Nat.ble j.natAbs 1000000 && Nat.ble i.natAbs 18446744073709551615
theorem rngB_ok {a b : Int} (h : rngB a b = true) : rngOk a b = true := by
  unfold rngB at h
  simp only [Bool.and_eq_true, Nat.ble_eq] at h
  unfold rngOk
  simp only [Bool.and_eq_true, decide_eq_true_eq]
  omega
theorem powB_ok {i j : Int} (h : powB i j = true) : powOk i j = true := by
  unfold powB at h
  simp only [Bool.and_eq_true, Nat.ble_eq, decide_eq_true_eq] at h
  unfold powOk
  simp only [Bool.and_eq_true, decide_eq_true_eq]
  omega
@[irreducible] def mulM (i j : Int) : M Int := if mulOk i j then .ok (i * j) else .no
@[irreducible] def fdivM (i j : Int) : M Int := if divOk j then .ok (i / j) else .no
@[irreducible] def modM (i j : Int) : M Int := if decide (0 < j) then .ok (i % j) else .no
@[irreducible] def powM (i j : Int) : M Int := if powB i j then .ok (i ^ j.toNat) else .no
@[irreducible] def shlM (i j : Int) : M Int := if powB i j then .ok (i * 2 ^ j.toNat) else .no
@[irreducible] def shrM (i j : Int) : M Int := if decide (0 ≤ j) then .ok (i / 2 ^ j.toNat) else .no
@[irreducible] def amulM (i j : Int) : M Int := if decide (i.natAbs < 2 ^ 63) || decide (j.natAbs < 2 ^ 63) then .ok (i * j) else .no
@[irreducible] def afdivM (i j : Int) : M Int := if decide (0 < j) && Nat.ble j.natAbs 1073741823 then .ok (i / j) else .no
theorem bi_add {i j : Int} : Im (opt (binP .add (.int i) (.int j)) C) C0 (.ok (i + j)) (fun z => (.v (.int z), C)) := rfl
theorem bi_sub {i j : Int} : Im (opt (binP .sub (.int i) (.int j)) C) C0 (.ok (i - j)) (fun z => (.v (.int z), C)) := rfl
theorem bi_band {i j : Int} : Im (opt (binP .band (.int i) (.int j)) C) C0 (.ok (Builtin.bitAnd i j)) (fun z => (.v (.int z), C)) := rfl
theorem bi_mul {i j : Int} : Im (opt (binP .mul (.int i) (.int j)) C) C0 (mulM i j) (fun z => (.v (.int z), C)) := by
  unfold mulM
  by_cases h : mulOk i j = true
  · rw [if_pos h]
    show opt ((if mulOk i j then some (i * j) else none).map fun k => RV.v (.int k)) C = _
    rw [if_pos h]; rfl
  · rw [if_neg h]; exact trivial
theorem bi_fdiv {i j : Int} : Im (opt (binP .fdiv (.int i) (.int j)) C) C0 (fdivM i j) (fun z => (.v (.int z), C)) := by
  unfold fdivM
  by_cases h : divOk j = true
  · rw [if_pos h]
    show opt ((if divOk j then some (i / j) else none).map fun k => RV.v (.int k)) C = _
    rw [if_pos h]; rfl
  · rw [if_neg h]; exact trivial
theorem bi_mod {i j : Int} : Im (opt (binP .mod (.int i) (.int j)) C) C0 (modM i j) (fun z => (.v (.int z), C)) := by
  unfold modM
  by_cases h : decide (0 < j) = true
  · rw [if_pos h]
    show opt ((if decide (0 < j) then some (i % j) else none).map fun k => RV.v (.int k)) C = _
    rw [if_pos h]; rfl
  · rw [if_neg h]; exact trivial
theorem bi_pow {i j : Int} : Im (opt (binP .pow (.int i) (.int j)) C) C0 (powM i j) (fun z => (.v (.int z), C)) := by
  unfold powM
  by_cases h : powB i j = true
  · rw [if_pos h]
    replace h := powB_ok h
    show opt ((if powOk i j then some (i ^ j.toNat) else none).map fun k => RV.v (.int k)) C = _
    rw [if_pos h]; rfl
  · rw [if_neg h]; exact trivial
theorem bi_shl {i j : Int} : Im (opt (binP .shl (.int i) (.int j)) C) C0 (shlM i j) (fun z => (.v (.int z), C)) := by
  unfold shlM
  by_cases h : powB i j = true
  · rw [if_pos h]
    replace h := powB_ok h
    show opt ((if powOk i j then some (i * 2 ^ j.toNat) else none).map fun k => RV.v (.int k)) C = _
    rw [if_pos h]; rfl
  · rw [if_neg h]; exact trivial
theorem bi_shr {i j : Int} : Im (opt (binP .shr (.int i) (.int j)) C) C0 (shrM i j) (fun z => (.v (.int z), C)) := by
  unfold shrM
  by_cases h : decide (0 ≤ j) = true
  · rw [if_pos h]
    show opt ((if decide (0 ≤ j) then some (i / 2 ^ j.toNat) else none).map fun k => RV.v (.int k)) C = _
    rw [if_pos h]; rfl
  · rw [if_neg h]; exact trivial
theorem au_add {i j : Int} : OpI (augI .add i j) (.ok (i + j)) id := rfl
theorem au_sub {i j : Int} : OpI (augI .sub i j) (.ok (i - j)) id := rfl
theorem au_mul {i j : Int} : OpI (augI .mul i j) (amulM i j) id := by
  unfold amulM
  show OpI (if (decide (i.natAbs < 2 ^ 63) || decide (j.natAbs < 2 ^ 63)) = true then some (i * j) else none) _ _
  split
  · rfl
  · exact trivial
theorem au_fdiv {i j : Int} : OpI (augI .fdiv i j) (afdivM i j) id := by
  unfold afdivM
  show OpI (if (decide (0 < j) && decide (j < 1073741824)) = true then some (i / j) else none) _ _
  by_cases h : (decide (0 < j) && Nat.ble j.natAbs 1073741823) = true
  · rw [if_pos h]
    simp only [Bool.and_eq_true, Nat.ble_eq, decide_eq_true_eq] at h
    rw [if_pos (by simp only [Bool.and_eq_true, decide_eq_true_eq]; omega)]
    rfl
  · rw [if_neg h]; exact trivial
theorem au_mod {i j : Int} : OpI (augI .mod i j) (modM i j) id := by
  unfold modM
  show OpI (if decide (0 < j) = true then some (i % j) else none) _ _
  split
  · rfl
  · exact trivial
/-! ### lists -/
abbrev eL (e : α → P) (l : List α) : P := .lst (l.map e)
abbrev eT (e : α → P) (l : List α) : P := .tup (l.map e)
abbrev eR (e : α → P) (l : List α) : P := .ro (l.map e)
abbrev e2 (a : α → P) (b : β → P) (x : α × β) : P := .tup [a x.1, b x.2]
abbrev e3 (a : α → P) (b : β → P) (c : γ → P) (x : α × β × γ) : P := .tup [a x.1, b x.2.1, c x.2.2]
abbrev f2 (a : α → P) (b : β → P) (x : α × β) : P := .lst [a x.1, b x.2]
def eO (e : α → P) : Option α → P
  | none => .non
  | some a => e a
@[irreducible] def catM (l m : List α) : M (List α) := if decide (l.length + m.length ≤ lim) then .ok (l ++ m) else .no
theorem bi_cat {e : α → P} {l m : List α} : Im (opt (binP .add (eL e l) (eL e m)) C) C0 (catM l m) (fun z => (.fr (z.map e), C)) := by
  unfold catM
  by_cases h : decide (l.length + m.length ≤ lim) = true
  · rw [if_pos h]
    show opt (if decide ((l.map e).length + (m.map e).length ≤ lim) = true then some (RV.fr (l.map e ++ m.map e)) else none) C = _
    rw [List.length_map, List.length_map, if_pos h, ← List.map_append]; rfl
  · rw [if_neg h]; exact trivial
@[irreducible] def catT (l m : List α) : M (List α) := if decide (l.length + m.length ≤ lim) && !l.isEmpty then .ok (l ++ m) else .no
theorem bi_catT {e : α → P} {l m : List α} : Im (opt (binP .add (eT e l) (eT e m)) C) C0 (catT l m) (fun z => (.v (eT e z), C)) := by
  unfold catT
  by_cases h : (decide (l.length + m.length ≤ lim) && !l.isEmpty) = true
  · rw [if_pos h]
    show opt (if (decide ((l.map e).length + (m.map e).length ≤ lim) && !(l.map e).isEmpty) = true then some (RV.v (.tup (l.map e ++ m.map e))) else none) C = _
    rw [List.length_map, List.length_map, show (l.map e).isEmpty = l.isEmpty by cases l <;> rfl, if_pos h, ← List.map_append]; rfl
  · rw [if_neg h]; exact trivial
@[irreducible] def repM (l : List α) (k : Int) : M (List α) := if Nat.ble k.natAbs 4611686018427387904 && Nat.ble (l.length * k.toNat) lim then .ok (List.replicate k.toNat l).flatten else .no
theorem bi_rep {e : α → P} {l : List α} {k : Int} : Im (opt (binP .mul (eL e l) (.int k)) C) C0 (repM l k) (fun z => (.fr (z.map e), C)) := by
  unfold repM
  by_cases h : (Nat.ble k.natAbs 4611686018427387904 && Nat.ble (l.length * k.toNat) lim) = true
  · rw [if_pos h]
    replace h : (decide (-(2 ^ 63) ≤ k) && decide (k < 2 ^ 63) && decide (l.length * k.toNat ≤ lim)) = true := by
      simp only [Bool.and_eq_true, Nat.ble_eq, decide_eq_true_eq] at h ⊢
      omega
    show opt (if (decide (-(2 ^ 63) ≤ k) && decide (k < 2 ^ 63) && decide ((l.map e).length * k.toNat ≤ lim)) = true then some (RV.fr (List.replicate k.toNat (l.map e)).flatten) else none) C = _
    rw [List.length_map, if_pos h]
    show Rs.ok (RV.fr _) C = Rs.ok (RV.fr _) C
    rw [List.map_flatten, List.map_replicate]
  · rw [if_neg h]; exact trivial
@[irreducible] def getI (l : List α) (i : Int) : M α := match (ixP l.length i).bind fun j => l[j]? with
  | some a => .ok a
  | none => .no
theorem get_map {e : α → P} {l : List α} {n : Nat} {i : Int} (h : n = l.length) : ((ixP n i).bind fun j => (l.map e)[j]?) = ((ixP l.length i).bind fun j => l[j]?).map e := by
  subst h
  cases ixP l.length i with
  | none => rfl
  | some j => show (l.map e)[j]? = (l[j]?).map e; rw [List.getElem?_map]
theorem sb_lst {e : α → P} {l : List α} {i : Int} : Im ((opt (subP (eL e l) (.int i)) C).bnd fun r C => Rs.ok (RV.v r) C) C0 (getI l i) (fun a => (.v (e a), C)) := by
  unfold getI
  show Im ((opt ((ixP (l.map e).length i).bind fun j => (l.map e)[j]?) C).bnd fun r C => Rs.ok (RV.v r) C) _ _ _
  rw [get_map (by simp)]
  cases (ixP l.length i).bind fun j => l[j]? with
  | none => exact trivial
  | some a => rfl
theorem sb_tup {e : α → P} {l : List α} {i : Int} : Im ((opt (subP (eT e l) (.int i)) C).bnd fun r C => Rs.ok (RV.v r) C) C0 (getI l i) (fun a => (.v (e a), C)) := by
  unfold getI
  show Im ((opt ((ixP (l.map e).length i).bind fun j => (l.map e)[j]?) C).bnd fun r C => Rs.ok (RV.v r) C) _ _ _
  rw [get_map (by simp)]
  cases (ixP l.length i).bind fun j => l[j]? with
  | none => exact trivial
  | some a => rfl
theorem sb_ro {e : α → P} {l : List α} {i : Int} : Im ((opt (subP (eR e l) (.int i)) C).bnd fun r C => Rs.ok (RV.v r) C) C0 (getI l i) (fun a => (.v (e a), C)) := by
  unfold getI
  show Im ((opt ((ixP (l.map e).length i).bind fun j => (l.map e)[j]?) C).bnd fun r C => Rs.ok (RV.v r) C) _ _ _
  rw [get_map (by simp)]
  cases (ixP l.length i).bind fun j => l[j]? with
  | none => exact trivial
  | some a => rfl
theorem sg_lst {l : List Int} {i : Int} : OpI (subP (.lst (l.map .int)) (.int i)) (getI l i) P.int := by
  unfold getI
  show OpI ((ixP (l.map P.int).length i).bind fun j => (l.map P.int)[j]?) _ _
  rw [get_map (by simp)]
  cases (ixP l.length i).bind fun j => l[j]? with
  | none => exact trivial
  | some a => rfl
@[irreducible] def setI (l : List α) (i : Int) (v : α) : M (List α) := match ixP l.length i with
  | some j => .ok (l.set j v)
  | none => .no
theorem ss_lst {e : α → P} {l : List α} {i : Int} {v : α} : OpI (stiP (.int i) (e v) (l.map e)) (setI l i v) (List.map e) := by
  unfold setI
  show OpI ((ixP (l.map e).length i).map fun j => (l.map e).set j (e v)) _ _
  rw [List.length_map]
  cases ixP l.length i with
  | none => exact trivial
  | some j => show some _ = some _; rw [List.map_set]
def cutI (l : List α) (lo hi : Option Int) : List α := (l.drop (HT.sIx l.length 0 lo)).take (HT.sIx l.length l.length hi - HT.sIx l.length 0 lo)
theorem cut_map {e : α → P} {l : List α} {lo hi : Option Int} : cutP (l.map e) lo hi = (cutI l lo hi).map e := by
  unfold cutP cutI
  rw [List.length_map, List.map_take, List.map_drop]
theorem sl_lst {e : α → P} {l : List α} {lo hi : Option Int} : Im (opt (slcP (eL e l) lo hi) C) C0 (.ok (cutI l lo hi)) (fun z => (.fr (z.map e), C)) := by
  show opt (some (RV.fr (cutP (l.map e) lo hi))) C = _
  rw [cut_map]; rfl
theorem sl_ro {e : α → P} {l : List α} {lo hi : Option Int} : Im (opt (slcP (eR e l) lo hi) C) C0 (.ok (cutI l lo hi)) (fun z => (.fr (z.map e), C)) := by
  show opt (some (RV.fr (cutP (l.map e) lo hi))) C = _
  rw [cut_map]; rfl
@[irreducible] def cutT (l : List α) (lo hi : Option Int) : M (List α) := if decide (HT.sIx l.length 0 lo = 0) && decide (HT.sIx l.length l.length hi = l.length) then .no else .ok (cutI l lo hi)
theorem sl_tup {e : α → P} {l : List α} {lo hi : Option Int} : Im (opt (slcP (eT e l) lo hi) C) C0 (cutT l lo hi) (fun z => (.v (eT e z), C)) := by
  unfold cutT
  show Im (opt (if (decide (HT.sIx (l.map e).length 0 lo = 0) && decide (HT.sIx (l.map e).length (l.map e).length hi = (l.map e).length)) = true then none else some (RV.v (.tup (cutP (l.map e) lo hi)))) C) _ _ _
  rw [List.length_map, cut_map]
  by_cases h : (decide (HT.sIx l.length 0 lo = 0) && decide (HT.sIx l.length l.length hi = l.length)) = true
  · rw [if_pos h, if_pos h]; exact trivial
  · rw [if_neg h, if_neg h]; rfl
theorem rv_lst {e : α → P} {l : List α} : revP (eL e l) = some (RV.fr (l.reverse.map e)) := by
  show some (RV.fr (l.map e).reverse) = _
  rw [← List.map_reverse]
theorem rv_ro {e : α → P} {l : List α} : revP (eR e l) = some (RV.fr (l.reverse.map e)) := by
  show some (RV.fr (l.map e).reverse) = _
  rw [← List.map_reverse]
@[irreducible] def appM (l : List α) (x : α) : M (List α) := if decide (l.length < lim) then .ok (l ++ [x]) else .no
theorem lmm_append {e : α → P} {l : List α} {x : α} : OpI (lmP .append (l.map e) [e x]) (appM l x) (List.map e) := by
  unfold appM
  show OpI (if decide ((l.map e).length < lim) = true then some (l.map e ++ [e x]) else none) _ _
  rw [List.length_map]
  by_cases h : decide (l.length < lim) = true
  · rw [if_pos h, if_pos h]; show some _ = some _; rw [List.map_append]; rfl
  · rw [if_neg h, if_neg h]; exact trivial
theorem lmm_extend {e : α → P} {l x : List α} : OpI (lmP .extend (l.map e) [eL e x]) (catM l x) (List.map e) := by
  unfold catM
  show OpI (if decide ((l.map e).length + (x.map e).length ≤ lim) = true then some (l.map e ++ x.map e) else none) _ _
  rw [List.length_map, List.length_map]
  by_cases h : decide (l.length + x.length ≤ lim) = true
  · rw [if_pos h, if_pos h]; show some _ = some _; rw [List.map_append]
  · rw [if_neg h, if_neg h]; exact trivial
@[irreducible] def insM (l : List α) (i : Int) (x : α) : M (List α) := if decide (l.length < lim) && decide (0 ≤ i) && decide (i ≤ l.length) then .ok (l.take i.toNat ++ x :: l.drop i.toNat) else .no
theorem lmm_insert {e : α → P} {l : List α} {i : Int} {x : α} : OpI (lmP .insert (l.map e) [.int i, e x]) (insM l i x) (List.map e) := by
  unfold insM
  show OpI (if (decide ((l.map e).length < lim) && decide (0 ≤ i) && decide (i ≤ (l.map e).length)) = true then some ((l.map e).take i.toNat ++ e x :: (l.map e).drop i.toNat) else none) _ _
  rw [List.length_map]
  by_cases h : (decide (l.length < lim) && decide (0 ≤ i) && decide (i ≤ l.length)) = true
  · rw [if_pos h, if_pos h]; show some _ = some _; rw [List.map_append, List.map_cons, List.map_take, List.map_drop]
  · rw [if_neg h, if_neg h]; exact trivial
theorem lmm_reverse {e : α → P} {l : List α} : OpI (lmP .reverse (l.map e) []) (.ok l.reverse) (List.map e) := by
  show some (l.map e).reverse = some _
  rw [← List.map_reverse]
/-! ### built-in calls -/
theorem bc_len {e : α → P} {l : List α} : Im (opt (biP .len [eL e l]) C) C0 (.ok (l.length : Int)) (fun z => (.v (.int z), C)) := by
  show Rs.ok (RV.v (.int ((l.map e).length : Int))) C = _
  rw [List.length_map]
theorem bc_lenT {e : α → P} {l : List α} : Im (opt (biP .len [eT e l]) C) C0 (.ok (l.length : Int)) (fun z => (.v (.int z), C)) := by
  show Rs.ok (RV.v (.int ((l.map e).length : Int))) C = _
  rw [List.length_map]
theorem bc_lenR {e : α → P} {l : List α} : Im (opt (biP .len [eR e l]) C) C0 (.ok (l.length : Int)) (fun z => (.v (.int z), C)) := by
  show Rs.ok (RV.v (.int ((l.map e).length : Int))) C = _
  rw [List.length_map]
theorem bc_lenf {l : List P} : Im (opt (biP .len [.lst l]) C) C0 (.ok (l.length : Int)) (fun z => (.v (.int z), C)) := rfl
theorem bc_lentf {l : List P} : Im (opt (biP .len [.tup l]) C) C0 (.ok (l.length : Int)) (fun z => (.v (.int z), C)) := rfl
def absI (i : Int) : Int := if i < 0 then -i else i
theorem bc_abs {i : Int} : Im (opt (biP .abs [.int i]) C) C0 (.ok (absI i)) (fun z => (.v (.int z), C)) := rfl
def min2I (i j : Int) : Int := if j < i then j else i
def max2I (i j : Int) : Int := if j > i then j else i
theorem bc_min2 {i j : Int} : Im (opt (biP .min2 [.int i, .int j]) C) C0 (.ok (min2I i j)) (fun z => (.v (.int z), C)) := rfl
theorem bc_max2 {i j : Int} : Im (opt (biP .max2 [.int i, .int j]) C) C0 (.ok (max2I i j)) (fun z => (.v (.int z), C)) := rfl
theorem intsP_map : ∀ l : List Int, intsP (l.map P.int) = some l
  | [] => rfl
  | i :: l => by show (intsP (l.map P.int)).map (i :: ·) = _; rw [intsP_map l]; rfl
theorem boolsP_map' : ∀ l : List Bool, boolsP (l.map P.bl) = some l
  | [] => rfl
  | i :: l => by show (boolsP (l.map P.bl)).map (i :: ·) = _; rw [boolsP_map' l]; rfl
@[irreducible] def minlM (l : List Int) : M Int := if l.isEmpty then .no else .ok (minI l)
@[irreducible] def maxlM (l : List Int) : M Int := if l.isEmpty then .no else .ok (maxI l)
theorem bc_minl {l : List Int} : Im (opt (biP .minl [eL P.int l]) C) C0 (minlM l) (fun z => (.v (.int z), C)) := by
  unfold minlM
  show Im (opt ((intsP (l.map P.int)).bind fun ns => if ns.isEmpty then none else some (RV.v (.int (minI ns)))) C) _ _ _
  rw [intsP_map]
  show Im (opt (if l.isEmpty then none else some (RV.v (.int (minI l)))) C) _ _ _
  split
  · exact trivial
  · rfl
theorem bc_maxl {l : List Int} : Im (opt (biP .maxl [eL P.int l]) C) C0 (maxlM l) (fun z => (.v (.int z), C)) := by
  unfold maxlM
  show Im (opt ((intsP (l.map P.int)).bind fun ns => if ns.isEmpty then none else some (RV.v (.int (maxI ns)))) C) _ _ _
  rw [intsP_map]
  show Im (opt (if l.isEmpty then none else some (RV.v (.int (maxI l)))) C) _ _ _
  split
  · exact trivial
  · rfl
theorem bc_suml {l : List Int} : Im (opt (biP .suml [eL P.int l]) C) C0 (.ok l.sum) (fun z => (.v (.int z), C)) := by
  show opt ((intsP (l.map P.int)).map fun ns => RV.v (.int ns.sum)) C = _
  rw [intsP_map]; rfl
theorem bc_alll {l : List Bool} : Im (opt (biP .alll [eL P.bl l]) C) C0 (.ok (l.all id)) (fun z => (.v (.bl z), C)) := by
  show opt ((boolsP (l.map P.bl)).map fun ns => RV.v (.bl (ns.all id))) C = _
  rw [boolsP_map']; rfl
theorem bc_anyl {l : List Bool} : Im (opt (biP .anyl [eL P.bl l]) C) C0 (.ok (l.any id)) (fun z => (.v (.bl z), C)) := by
  show opt ((boolsP (l.map P.bl)).map fun ns => RV.v (.bl (ns.any id))) C = _
  rw [boolsP_map']; rfl
theorem bc_sortd {l : List Int} : Im (opt (biP .sortd [eL P.int l]) C) C0 (.ok (sortI l)) (fun z => (.fr (z.map P.int), C)) := by
  show opt ((intsP (l.map P.int)).map fun ns => RV.fr ((sortI ns).map P.int)) C = _
  rw [intsP_map]; rfl
theorem bc_list {e : α → P} {l : List α} : Im (opt (biP .list [eL e l]) C) C0 (.ok l) (fun z => (.fr (z.map e), C)) := rfl
theorem bc_listT {e : α → P} {l : List α} : Im (opt (biP .list [eT e l]) C) C0 (.ok l) (fun z => (.fr (z.map e), C)) := rfl
theorem bc_listR {e : α → P} {l : List α} : Im (opt (biP .list [eR e l]) C) C0 (.ok l) (fun z => (.fr (z.map e), C)) := rfl
theorem bc_tuple {e : α → P} {l : List α} : Im (opt (biP .tuple [eL e l]) C) C0 (.ok l) (fun z => (.v (eT e z), C)) := rfl
theorem bc_tupleT {e : α → P} {l : List α} : Im (opt (biP .tuple [eT e l]) C) C0 (.ok l) (fun z => (.v (eT e z), C)) := rfl
theorem bc_int {i : Int} : Im (opt (biP .int [.int i]) C) C0 (.ok i) (fun z => (.v (.int z), C)) := rfl
theorem bc_intb {b : Bool} : Im (opt (biP .int [.bl b]) C) C0 (.ok (if b then (1 : Int) else 0)) (fun z => (.v (.int z), C)) := rfl
theorem bc_bool {i : Int} : Im (opt (biP .bool [.int i]) C) C0 (.ok (i != 0)) (fun z => (.v (.bl z), C)) := rfl
theorem bc_boolb {b : Bool} : Im (opt (biP .bool [.bl b]) C) C0 (.ok b) (fun z => (.v (.bl z), C)) := rfl
def rngI (a b : Int) : List Int := (List.range (b - a).toNat).map fun i => a + ((i : Nat) : Int)
@[irreducible] def rngM (a b : Int) : M (List Int) := if rngB a b then .ok (rngI a b) else .no
theorem rng_map {a b : Int} : rngP a b = (rngI a b).map P.int := by
  unfold rngP rngI
  rw [List.map_map]; rfl
theorem bc_lrange1 {i : Int} : Im (opt (biP .lrange1 [.int i]) C) C0 (rngM 0 i) (fun z => (.fr (z.map P.int), C)) := by
  unfold rngM
  show Im (opt (if rngOk 0 i then some (RV.fr (rngP 0 i)) else none) C) _ _ _
  rw [rng_map]
  by_cases h : rngB 0 i = true
  · rw [if_pos h, if_pos (rngB_ok h)]; rfl
  · rw [if_neg h]; exact trivial
theorem bc_lrange2 {i j : Int} : Im (opt (biP .lrange2 [.int i, .int j]) C) C0 (rngM i j) (fun z => (.fr (z.map P.int), C)) := by
  unfold rngM
  show Im (opt (if rngOk i j then some (RV.fr (rngP i j)) else none) C) _ _ _
  rw [rng_map]
  by_cases h : rngB i j = true
  · rw [if_pos h, if_pos (rngB_ok h)]; rfl
  · rw [if_neg h]; exact trivial
/-! ### sources -/
theorem itt_lst {e : α → P} {l : List α} : ItIs ((some [eL e l]).bind (itemsP .val)) (.ok l) e := rfl
theorem itt_tup {e : α → P} {l : List α} : ItIs ((some [eT e l]).bind (itemsP .val)) (.ok l) e := rfl
theorem itt_ro {e : α → P} {l : List α} : ItIs ((some [eR e l]).bind (itemsP .val)) (.ok l) e := rfl
theorem itt_rng1 {i : Int} : ItIs ((some [.int i]).bind (itemsP .rng1)) (rngM 0 i) P.int := by
  unfold rngM
  show ItIs (if rngOk 0 i then some (rngP 0 i) else none) _ _
  rw [rng_map]
  by_cases h : rngB 0 i = true
  · rw [if_pos h, if_pos (rngB_ok h)]; rfl
  · rw [if_neg h]; exact trivial
theorem itt_rng2 {i j : Int} : ItIs ((some [.int i, .int j]).bind (itemsP .rng2)) (rngM i j) P.int := by
  unfold rngM
  show ItIs (if rngOk i j then some (rngP i j) else none) _ _
  rw [rng_map]
  by_cases h : rngB i j = true
  · rw [if_pos h, if_pos (rngB_ok h)]; rfl
  · rw [if_neg h]; exact trivial
@[irreducible] def rrngM (a b : Int) : M (List Int) := if rngB a b then .ok (rngI a b).reverse else .no
theorem itt_rrng1 {i : Int} : ItIs ((some [.int i]).bind (itemsP .rrng1)) (rrngM 0 i) P.int := by
  unfold rrngM
  show ItIs (if rngOk 0 i then some (rngP 0 i).reverse else none) _ _
  rw [rng_map]
  by_cases h : rngB 0 i = true
  · rw [if_pos h, if_pos (rngB_ok h)]; show some _ = some _; rw [List.map_reverse]
  · rw [if_neg h]; exact trivial
theorem itt_rrng2 {i j : Int} : ItIs ((some [.int i, .int j]).bind (itemsP .rrng2)) (rrngM i j) P.int := by
  unfold rrngM
  show ItIs (if rngOk i j then some (rngP i j).reverse else none) _ _
  rw [rng_map]
  by_cases h : rngB i j = true
  · rw [if_pos h, if_pos (rngB_ok h)]; show some _ = some _; rw [List.map_reverse]
  · rw [if_neg h]; exact trivial
def enumI : Nat → List α → List (Int × α)
  | _, [] => []
  | i, x :: r => ((i : Int), x) :: enumI (i + 1) r
theorem enum_map {e : α → P} : ∀ (i : Nat) (l : List α), enumP i (l.map e) = (enumI i l).map (e2 P.int e)
  | _, [] => rfl
  | i, x :: r => by
    show P.tup [.int i, e x] :: enumP (i + 1) (r.map e) = _
    rw [enum_map (i + 1) r]; rfl
theorem itt_enum {e : α → P} {l : List α} : ItIs ((some [eL e l]).bind (itemsP .enum)) (.ok (enumI 0 l)) (e2 P.int e) := by
  show some (enumP 0 (l.map e)) = some _
  rw [enum_map]
theorem itt_enumT {e : α → P} {l : List α} : ItIs ((some [eT e l]).bind (itemsP .enum)) (.ok (enumI 0 l)) (e2 P.int e) := by
  show some (enumP 0 (l.map e)) = some _
  rw [enum_map]
theorem zip_map {e : α → P} {f : β → P} : ∀ (l : List α) (m : List β), zipP (l.map e) (m.map f) = (l.zip m).map (e2 e f)
  | [], m => by cases m <;> rfl
  | x :: r, [] => rfl
  | x :: r, y :: s => by
    show P.tup [e x, f y] :: zipP (r.map e) (s.map f) = _
    rw [zip_map r s]; rfl
theorem itt_zip {e : α → P} {f : β → P} {l : List α} {m : List β} : ItIs ((some [eL e l, eL f m]).bind (itemsP .zip)) (.ok (l.zip m)) (e2 e f) := by
  show some (zipP (l.map e) (m.map f)) = some _
  rw [zip_map]
theorem itt_zipT {e : α → P} {f : β → P} {l : List α} {m : List β} : ItIs ((some [eT e l, eT f m]).bind (itemsP .zip)) (.ok (l.zip m)) (e2 e f) := by
  show some (zipP (l.map e) (m.map f)) = some _
  rw [zip_map]
theorem itt_rev {e : α → P} {l : List α} : ItIs ((some [eL e l]).bind (itemsP .rev)) (.ok l.reverse) e := by
  show some (l.map e).reverse = some _
  rw [List.map_reverse]
theorem itt_revT {e : α → P} {l : List α} : ItIs ((some [eT e l]).bind (itemsP .rev)) (.ok l.reverse) e := by
  show some (l.map e).reverse = some _
  rw [List.map_reverse]
/-! ### comparisons -/
theorem cp_lt {i j : Int} : cmpP .lt (.int i) (.int j) = some (decide (i < j)) := rfl
theorem cp_le {i j : Int} : cmpP .le (.int i) (.int j) = some (decide (i ≤ j)) := rfl
theorem cp_gt {i j : Int} : cmpP .gt (.int i) (.int j) = some (decide (j < i)) := rfl
theorem cp_ge {i j : Int} : cmpP .ge (.int i) (.int j) = some (decide (j ≤ i)) := rfl
theorem cp_isN {x : P} : cmpP .is x .non = some (isNone x) := rfl
theorem cp_isnN {x : P} : cmpP .isn x .non = some (!isNone x) := rfl
theorem im_cmp {op : Cop} {x y : P} {t : Bool} (h : cmpP op x y = some t) : Im (opt (cmpP op x y) C) C0 (.ok t) (fun t => (t, C)) := by
  show opt (cmpP op x y) C = _
  rw [h]; rfl
/-- data that are equal as the library's own -/
structure DE (n : Nat) (e : α → P) (d : α → PyData) [DecidableEq α] : Prop where
  t : ∀ m, n ≤ m → ∀ a, dat m (e a) = some (d a)
  q : ∀ a b, PyData.eqv (d a) (d b) = decide (a = b)
theorem de_int : DE 0 P.int PyData.int := ⟨fun m _ a => by cases m <;> rfl, fun a b => by unfold PyData.eqv; rfl⟩
theorem de_bool : DE 0 P.bl PyData.bool := ⟨fun m _ a => by cases m <;> rfl, fun a b => by unfold PyData.eqv; cases a <;> cases b <;> rfl⟩
theorem dats_map [DecidableEq α] {n : Nat} {e : α → P} {d : α → PyData} (h : DE n e d) {m : Nat} (hm : n ≤ m) : ∀ l : List α, dats m (l.map e) = some (l.map d)
  | [] => by cases m <;> rfl
  | a :: l => by
    have q : dats m ((a :: l).map e) = (match dat m (e a), dats m (l.map e) with
      | some d, some ds => some (d :: ds)
      | _, _ => none) := by cases m <;> rfl
    rw [q, dats_map h hm l, h.t m hm a]; rfl
theorem eqvAll_map [DecidableEq α] {n : Nat} {e : α → P} {d : α → PyData} (h : DE n e d) : ∀ l m : List α, PyData.eqvAll (l.map d) (m.map d) = decide (l = m)
  | [], [] => by unfold PyData.eqvAll; rfl
  | [], _ :: _ => by unfold PyData.eqvAll; simp
  | _ :: _, [] => by unfold PyData.eqvAll; simp
  | i :: l, j :: m => by
    have q : PyData.eqvAll ((i :: l).map d) ((j :: m).map d) = (PyData.eqv (d i) (d j) && PyData.eqvAll (l.map d) (m.map d)) := by
      rw [List.map_cons, List.map_cons]
      conv => lhs; unfold PyData.eqvAll
    rw [q, eqvAll_map h l m, h.q i j]
    by_cases w : i = j
    · subst w; simp
    · simp [w]
theorem de_lst [DecidableEq α] {n : Nat} {e : α → P} {d : α → PyData} (h : DE n e d) : DE (n + 1) (eL e) (fun l => .list (l.map d)) := ⟨fun m hm l => by
    cases m with
    | zero => omega
    | succ m => show (dats m (l.map e)).map _ = _; rw [dats_map h (by omega)]; rfl, fun a b => by
    conv => lhs; unfold PyData.eqv
    exact eqvAll_map h a b⟩
theorem de_tup [DecidableEq α] {n : Nat} {e : α → P} {d : α → PyData} (h : DE n e d) : DE (n + 1) (eT e) (fun l => .tuple (l.map d)) := ⟨fun m hm l => by
    cases m with
    | zero => omega
    | succ m => show (dats m (l.map e)).map _ = _; rw [dats_map h (by omega)]; rfl, fun a b => by
    conv => lhs; unfold PyData.eqv
    exact eqvAll_map h a b⟩
theorem eqvAll2 {a b c d : PyData} : PyData.eqvAll [a, b] [c, d] = (PyData.eqv a c && PyData.eqv b d) := by
  unfold PyData.eqvAll
  unfold PyData.eqvAll
  unfold PyData.eqvAll
  simp
theorem de_2 [DecidableEq α] [DecidableEq β] {n k : Nat} {e : α → P} {d : α → PyData} {f : β → P} {g : β → PyData} (h : DE n e d) (h' : DE k f g) : DE (n + k + 1) (e2 e f) (fun x => .tuple [d x.1, g x.2]) := ⟨fun m hm x => by
    cases m with
    | zero => omega
    | succ m =>
      show (dats m [e x.1, f x.2]).map PyData.tuple = _
      have q : dats m [e x.1, f x.2] = (match dat m (e x.1), (match dat m (f x.2), dats m [] with
        | some d, some ds => some (d :: ds)
        | _, _ => none) with
        | some d, some ds => some (d :: ds)
        | _, _ => none) := by cases m <;> rfl
      rw [q, h.t m (by omega), h'.t m (by omega), show dats m [] = some [] by cases m <;> rfl]; rfl, fun a b => by
    conv => lhs; unfold PyData.eqv
    rw [eqvAll2, h.q, h'.q]
    obtain ⟨a1, a2⟩ := a
    obtain ⟨b1, b2⟩ := b
    by_cases w1 : a1 = b1 <;> by_cases w2 : a2 = b2 <;> simp [w1, w2]⟩
theorem eqP_de [DecidableEq α] {n : Nat} {e : α → P} {d : α → PyData} (h : DE n e d) (hn : n ≤ 60) (a b : α) : eqP (e a) (e b) = some (decide (a = b)) := by
  have h1 := h.t 60 hn a
  have h2 := h.t 60 hn b
  have q := h.q a b
  have key : (match dat 60 (e a), dat 60 (e b) with
    | some d, some e => some (PyData.eqv d e)
    | _, _ => none) = some (decide (a = b)) := by rw [h1, h2, ← q]
  revert key h1 h2
  cases e a <;> cases e b <;> intro h1 h2 key <;> first | exact key | skip
  rename_i s t
  show some (s == t) = _
  have g : ∀ {s : Str} {x : PyData}, dat 60 (.str s) = some x → x = .str s := fun {s x} hh => by
    have hh' : (if PyData.strOk s then some (PyData.str s) else none) = some x := hh
    split at hh'
    · exact (Option.some.inj hh').symm
    · cases hh'
  rw [← q, g h1, g h2]
  unfold PyData.eqv
  rfl
theorem cp_eq [DecidableEq α] {n : Nat} {e : α → P} {d : α → PyData} (h : DE n e d) (hn : n ≤ 60) {a b : α} : cmpP .eq (e a) (e b) = some (decide (a = b)) := eqP_de h hn a b
theorem cp_ne [DecidableEq α] {n : Nat} {e : α → P} {d : α → PyData} (h : DE n e d) (hn : n ≤ 60) {a b : α} : cmpP .ne (e a) (e b) = some (!decide (a = b)) := by
  show (eqP (e a) (e b)).map (!·) = _
  rw [eqP_de h hn a b]; rfl
theorem cp_eqS {a b : Str} : cmpP .eq (.str a) (.str b) = some (a == b) := rfl
theorem cp_neS {a b : Str} : cmpP .ne (.str a) (.str b) = some (!(a == b)) := rfl
/-- flat data -/
structure FE (e : α → P) [DecidableEq α] : Prop where
  f : ∀ a, flatP (e a) = true
  q : ∀ a b, eqFlat (e a) (e b) = decide (a = b)
theorem fe_int : FE P.int := ⟨fun _ => rfl, fun a b => rfl⟩
theorem fe_str : FE P.str := ⟨fun _ => rfl, fun a b => by show (a == b) = _; by_cases h : a = b <;> simp [h]⟩
theorem in_any [DecidableEq α] {e : α → P} (h : FE e) (a : α) : ∀ l : List α, ((l.map e).any fun z => eqFlat z (e a)) = decide (a ∈ l)
  | [] => by simp
  | b :: l => by
    rw [List.map_cons, List.any_cons, in_any h a l, h.q b a]
    by_cases w : a = b
    · subst w; simp
    · have : ¬ b = a := fun q => w q.symm
      simp [w, this]
theorem in_all [DecidableEq α] {e : α → P} (h : FE e) : ∀ l : List α, (l.map e).all flatP = true
  | [] => rfl
  | b :: l => by rw [List.map_cons, List.all_cons, h.f b, in_all h l]; rfl
theorem inP_lst [DecidableEq α] {e : α → P} (h : FE e) {a : α} {l : List α} : inP (e a) (eL e l) = some (decide (a ∈ l)) := by
  have q : inP (e a) (eL e l) = if flatP (e a) && (l.map e).all flatP then some ((l.map e).any fun z => eqFlat z (e a)) else none := by cases e a <;> rfl
  rw [q, h.f, in_all h, in_any h]; rfl
theorem inP_tup [DecidableEq α] {e : α → P} (h : FE e) {a : α} {l : List α} : inP (e a) (eT e l) = some (decide (a ∈ l)) := by
  have q : inP (e a) (eT e l) = if flatP (e a) && (l.map e).all flatP then some ((l.map e).any fun z => eqFlat z (e a)) else none := by cases e a <;> rfl
  rw [q, h.f, in_all h, in_any h]; rfl
theorem cp_in [DecidableEq α] {e : α → P} (h : FE e) {a : α} {l : List α} : cmpP .isin (e a) (eL e l) = some (decide (a ∈ l)) := inP_lst h
theorem cp_nin [DecidableEq α] {e : α → P} (h : FE e) {a : α} {l : List α} : cmpP .nin (e a) (eL e l) = some (!decide (a ∈ l)) := by
  show (inP _ _).map (!·) = _
  rw [inP_lst h]; rfl
theorem cp_inT [DecidableEq α] {e : α → P} (h : FE e) {a : α} {l : List α} : cmpP .isin (e a) (eT e l) = some (decide (a ∈ l)) := inP_tup h
theorem cp_ninT [DecidableEq α] {e : α → P} (h : FE e) {a : α} {l : List α} : cmpP .nin (e a) (eT e l) = some (!decide (a ∈ l)) := by
  show (inP _ _).map (!·) = _
  rw [inP_tup h]; rfl
end
/-! ### comprehensions -/
def compM {X Y : Type} (g : X → M Bool) (f : X → M Y) : List X → M (List Y)
  | [] => .ok []
  | x :: xs => (g x).nox.bind fun t => if t then (f x).nox.bind fun y => (compM g f xs).bind fun ys => .ok (y :: ys) else compM g f xs
/-- with a store -/
def compB {X Y D : Type} (f : X → D → M (Y × D)) : List X → D → M (List Y × D)
  | [], d => .ok ([], d)
  | x :: xs, d => (f x d).nox.bind fun p => (compB f xs p.2).bind fun q => .ok (p.1 :: q.1, q.2)
theorem compM_pure {X Y : Type} {g : X → Bool} {f : X → Y} : ∀ xs : List X, compM (fun x => .ok (g x)) (fun x => .ok (f x)) xs = .ok ((xs.filter g).map f)
  | [] => rfl
  | x :: xs => by
    show (if g x = true then (compM _ _ xs).bind _ else compM _ _ xs) = _
    rw [compM_pure xs]
    cases h : g x <;> simp [h]
theorem compM_all {X Y : Type} {f : X → Y} (xs : List X) : compM (fun _ => .ok true) (fun x => .ok (f x)) xs = .ok (xs.map f) := by
  have := compM_pure (g := fun _ => true) (f := f) xs
  rw [this, List.filter_eq_self.mpr (by simp)]
section
variable {cb : Cb} {σ : Env} {C0 : CH → Prop} {C : CH} {α β γ δ X Y Z : Type}
theorem cl_im {t : Tg} {cs : List E} {elt : E} {ex : X → P} {ez : Z → P} {σ' : X → Env} {g : X → M Bool} {f : X → M Z} {ηf : Z → RV × CH} (hb : ∀ x, bindT t (ex x) σ = some (σ' x)) (hg : ∀ x, Im (evalAnd cb cs (σ' x) C) C0 (g x) (fun t => (t, C)))
    (hf : ∀ x, Im (evalE cb elt (σ' x) C) C0 (f x) ηf) (hd : ∀ a, datum (opA (ηf a).1) = some (ez a)) (hc : ∀ a, (ηf a).2 = C) :
    ∀ (xs : List X) (acc : List P), Im (compL (fun σ C => evalE cb elt σ C) (fun σ C => evalAnd cb cs σ C) t σ (xs.map ex) acc C) C0 (compM g f xs) (fun ys => (.fr (acc ++ ys.map ez), C))
  | [], acc => by
    show Rs.ok (RV.fr acc) C = Rs.ok (RV.fr (acc ++ [])) C
    rw [List.append_nil]
  | x :: xs, acc => by
    show Im (match bindT t (ex x) σ with
      | none => Rs.no
      | some σ' => (evalAnd cb cs σ' C).nox.bnd fun b C => match b with
        | true => (evalE cb elt σ' C).nox.bnd fun r C => (opt (datum (opA r)) C).bnd fun y C => compL (fun σ C => evalE cb elt σ C) (fun σ C => evalAnd cb cs σ C) t σ (xs.map ex) (acc ++ [y]) C
        | false => compL (fun σ C => evalE cb elt σ C) (fun σ C => evalAnd cb cs σ C) t σ (xs.map ex) acc C) C0 ((g x).nox.bind fun t => if t then (f x).nox.bind fun y => (compM g f xs).bind fun ys => .ok (y :: ys) else compM g f xs) _
    rw [hb x]
    refine Im.bnd (hg x).noxl fun b => ?_
    cases b with
    | false => exact cl_im hb hg hf hd hc xs acc
    | true =>
      refine Im.bnd (hf x).noxl fun a => ?_
      rw [hd a, hc a]
      show Im (compL _ _ t σ (xs.map ex) (acc ++ [ez a]) C) C0 _ _
      have q := cl_im hb hg hf hd hc xs (acc ++ [ez a])
      have e : ∀ ys : List Z, ((RV.fr (acc ++ [ez a] ++ ys.map ez), C) : RV × CH) = (fun ys => (RV.fr (acc ++ ys.map ez), C)) (a :: ys) := fun ys => by simp
      exact q.re e
theorem ev_comp {t : Tg} {kk : Ik} {its cs : List E} {elt : E} {ex : X → P} {ez : Z → P} {σ' : X → Env} {g : X → M Bool} {f : X → M Z} {ηf : Z → RV × CH} {m : M α} {η : α → List A × CH} {mx : α → M (List X)} (h : Im (evalAs cb its σ C) C0 m η) (hi : ∀ a, ItIs ((datA (η a).1).bind (itemsP kk)) (mx a) ex) (hs : ∀ a, (η a).2 = C)
    (hb : ∀ x, bindT t (ex x) σ = some (σ' x)) (hg : ∀ x, Im (evalAnd cb cs (σ' x) C) C0 (g x) (fun t => (t, C))) (hf : ∀ x, Im (evalE cb elt (σ' x) C) C0 (f x) ηf) (hd : ∀ a, datum (opA (ηf a).1) = some (ez a)) (hc : ∀ a, (ηf a).2 = C) :
    Im (evalE cb (.comp elt t kk its cs) σ C) C0 (m.bind fun a => (mx a).bind fun xs => compM g f xs) (fun ys => (.fr (ys.map ez), C)) := by
  unfold evalE
  refine Im.bnd h fun a => ?_
  have q := hi a
  revert q
  cases mx a with
  | ok xs =>
    intro q
    rw [show (datA (η a).1).bind (itemsP kk) = some (xs.map ex) from q, hs a]
    have z := cl_im (C0 := C0) hb hg hf hd hc xs []
    simp only [List.nil_append] at z
    exact z
  | ex e => intro q; exact q.elim
  | no => exact fun _ => trivial
/-- element and test are plain -/
theorem ev_compP {t : Tg} {kk : Ik} {its cs : List E} {elt : E} {ex : X → P} {ez : Z → P} {σ' : X → Env} {g : X → Bool} {f : X → Z} {ηf : Z → RV × CH} {m : M α} {η : α → List A × CH} {mx : α → M (List X)} (h : Im (evalAs cb its σ C) C0 m η) (hi : ∀ a, ItIs ((datA (η a).1).bind (itemsP kk)) (mx a) ex) (hs : ∀ a, (η a).2 = C)
    (hb : ∀ x, bindT t (ex x) σ = some (σ' x)) (hg : ∀ x, Im (evalAnd cb cs (σ' x) C) C0 (.ok (g x)) (fun t => (t, C))) (hf : ∀ x, Im (evalE cb elt (σ' x) C) C0 (.ok (f x)) ηf) (hd : ∀ a, datum (opA (ηf a).1) = some (ez a)) (hc : ∀ a, (ηf a).2 = C) :
    Im (evalE cb (.comp elt t kk its cs) σ C) C0 (m.bind fun a => (mx a).bind fun xs => .ok ((xs.filter g).map f)) (fun ys => (.fr (ys.map ez), C)) := by
  have q := ev_comp (C0 := C0) h hi hs hb hg hf hd hc
  have e : (fun a => (mx a).bind fun xs => compM (fun x => .ok (g x)) (fun x => .ok (f x)) xs) = (fun a => (mx a).bind fun xs => .ok ((xs.filter g).map f)) := by
    funext a
    congr 1
    funext xs
    exact compM_pure xs
  rw [e] at q
  exact q
theorem ev_compA {t : Tg} {kk : Ik} {its : List E} {elt : E} {ex : X → P} {ez : Z → P} {σ' : X → Env} {f : X → Z} {ηf : Z → RV × CH} {m : M α} {η : α → List A × CH} {mx : α → M (List X)} (h : Im (evalAs cb its σ C) C0 m η) (hi : ∀ a, ItIs ((datA (η a).1).bind (itemsP kk)) (mx a) ex) (hs : ∀ a, (η a).2 = C)
    (hb : ∀ x, bindT t (ex x) σ = some (σ' x)) (hf : ∀ x, Im (evalE cb elt (σ' x) C) C0 (.ok (f x)) ηf) (hd : ∀ a, datum (opA (ηf a).1) = some (ez a)) (hc : ∀ a, (ηf a).2 = C) :
    Im (evalE cb (.comp elt t kk its []) σ C) C0 (m.bind fun a => (mx a).bind fun xs => .ok (xs.map f)) (fun ys => (.fr (ys.map ez), C)) := by
  have q := ev_comp (C0 := C0) h hi hs hb (g := fun _ => .ok true) (fun x => an_nil) hf hd hc
  have e : (fun a => (mx a).bind fun xs => compM (fun _ => .ok true) (fun x => .ok (f x)) xs) = (fun a => (mx a).bind fun xs => .ok (xs.map f)) := by
    funext a
    congr 1
    funext xs
    exact compM_all xs
  rw [e] at q
  exact q
/-- a comprehension whose element changes the store -/
theorem clb_im {t : Tg} {elt : E} {ex : X → P} {ez : Z → P} {σ' : X → Env} {κ : δ → CH} {f : X → δ → M (Z × δ)} {ηf : Z × δ → RV × CH} (hb : ∀ x, bindT t (ex x) σ = some (σ' x)) 
    (hf : ∀ x d, Im (evalE cb elt (σ' x) (κ d)) C0 (f x d) ηf) (hd : ∀ a, datum (opA (ηf a).1) = some (ez a.1)) (hc : ∀ a, (ηf a).2 = κ a.2) :
    ∀ (xs : List X) (d : δ) (acc : List P), Im (compL (fun σ C => evalE cb elt σ C) (fun σ C => evalAnd cb [] σ C) t σ (xs.map ex) acc (κ d)) C0 (compB f xs d) (fun ys => (.fr (acc ++ ys.1.map ez), κ ys.2))
  | [], d, acc => by
    show Rs.ok (RV.fr acc) (κ d) = Rs.ok (RV.fr (acc ++ [])) (κ d)
    rw [List.append_nil]
  | x :: xs, d, acc => by
    show Im (match bindT t (ex x) σ with
      | none => Rs.no
      | some σ' => (evalAnd cb [] σ' (κ d)).nox.bnd fun b C => match b with
        | true => (evalE cb elt σ' C).nox.bnd fun r C => (opt (datum (opA r)) C).bnd fun y C => compL (fun σ C => evalE cb elt σ C) (fun σ C => evalAnd cb [] σ C) t σ (xs.map ex) (acc ++ [y]) C
        | false => compL (fun σ C => evalE cb elt σ C) (fun σ C => evalAnd cb [] σ C) t σ (xs.map ex) acc C) C0 ((f x d).nox.bind fun p => (compB f xs p.2).bind fun q => .ok (p.1 :: q.1, q.2)) _
    rw [hb x]
    dsimp only
    rw [show evalAnd cb [] (σ' x) (κ d) = .ok true (κ d) by unfold evalAnd; rfl, Rs.nox_ok, Rs.bnd_ok]
    dsimp only
    refine Im.bnd (hf x d).noxl fun a => ?_
    rw [hd a, hc a]
    show Im (compL _ _ t σ (xs.map ex) (acc ++ [ez a.1]) (κ a.2)) C0 _ _
    have q := clb_im hb hf hd hc xs a.2 (acc ++ [ez a.1])
    exact q.re (g := fun q => (a.1 :: q.1, q.2)) (η' := fun ys => (.fr (acc ++ ys.1.map ez), κ ys.2)) fun ys => by simp
theorem ev_compB {t : Tg} {kk : Ik} {its : List E} {elt : E} {ex : X → P} {ez : Z → P} {σ' : X → Env} {κ : δ → CH} {f : X → δ → M (Z × δ)} {ηf : Z × δ → RV × CH} {m : M α} {η : α → List A × CH} {mx : α → M (List X)} {d0 : α → δ} (h : Im (evalAs cb its σ C) C0 m η) (hi : ∀ a, ItIs ((datA (η a).1).bind (itemsP kk)) (mx a) ex) (hs : ∀ a, (η a).2 = κ (d0 a))
    (hb : ∀ x, bindT t (ex x) σ = some (σ' x)) (hf : ∀ x d, Im (evalE cb elt (σ' x) (κ d)) C0 (f x d) ηf) (hd : ∀ a, datum (opA (ηf a).1) = some (ez a.1)) (hc : ∀ a, (ηf a).2 = κ a.2) :
    Im (evalE cb (.comp elt t kk its []) σ C) C0 (m.bind fun a => (mx a).bind fun xs => compB f xs (d0 a)) (fun ys => (.fr (ys.1.map ez), κ ys.2)) := by
  unfold evalE
  refine Im.bnd h fun a => ?_
  have q := hi a
  revert q
  cases mx a with
  | ok xs =>
    intro q
    rw [show (datA (η a).1).bind (itemsP kk) = some (xs.map ex) from q, hs a]
    have z := clb_im (C0 := C0) hb hf hd hc xs (d0 a) []
    simp only [List.nil_append] at z
    exact z
  | ex e => intro q; exact q.elim
  | no => exact fun _ => trivial
end
end MP
/-! SH4: options, fixed lists, instances, calls. -/
namespace MP
open PySem
abbrev eN (_ : Unit) : P := .non
section
variable {α β γ δ ε : Type}
abbrev e4 (a : α → P) (b : β → P) (c : γ → P) (d : δ → P) (x : α × β × γ × δ) : P := .tup [a x.1, b x.2.1, c x.2.2.1, d x.2.2.2]
abbrev k2 (a : α → P) (b : β → P) (x : α × β) : List P := [a x.1, b x.2]
abbrev k3 (a : α → P) (b : β → P) (c : γ → P) (x : α × β × γ) : List P := [a x.1, b x.2.1, c x.2.2]
abbrev k4 (a : α → P) (b : β → P) (c : γ → P) (d : δ → P) (x : α × β × γ × δ) : List P := [a x.1, b x.2.1, c x.2.2.1, d x.2.2.2]
abbrev k5 (a : α → P) (b : β → P) (c : γ → P) (d : δ → P) (e : ε → P) (x : α × β × γ × δ × ε) : List P := [a x.1, b x.2.1, c x.2.2.1, d x.2.2.2.1, e x.2.2.2.2]
abbrev f3 (a : α → P) (b : β → P) (c : γ → P) (x : α × β × γ) : P := .lst [a x.1, b x.2.1, c x.2.2]
abbrev f4 (a : α → P) (b : β → P) (c : γ → P) (d : δ → P) (x : α × β × γ × δ) : P := .lst [a x.1, b x.2.1, c x.2.2.1, d x.2.2.2]
end
def M.lo {α S R : Type} (m : M α) (f : α → Lo S R) : Lo S R := match m with
  | .ok a => f a
  | .ex e => .ex e
  | .no => .no
@[simp] theorem M.lo_ok {α S R : Type} (a : α) (f : α → Lo S R) : (M.ok a).lo f = f a := rfl
@[simp] theorem M.lo_ex {α S R : Type} (e : Exn) (f : α → Lo S R) : (M.ex e : M α).lo f = .ex e := rfl
@[simp] theorem M.lo_no {α S R : Type} (f : α → Lo S R) : (M.no : M α).lo f = .no := rfl
def Lo.thn {S R : Type} (r : Lo S R) (f : S → M R) : M R := match r with
  | .nx s => f s
  | .ct s => f s
  | .bk s => f s
  | .rt r => .ok r
  | .ex e => .ex e
  | .no => .no
def Lo.thnE {S X : Type} (r : Lo S Empty) (f : S → M X) : M X := match r with
  | .nx s => f s
  | .ct s => f s
  | .bk s => f s
  | .rt r => nomatch r
  | .ex e => .ex e
  | .no => .no
def Lo.sq {S S' R : Type} (r : Lo S R) (f : S → Lo S' R) : Lo S' R := match r with
  | .nx s => f s
  | .ct s => f s
  | .bk s => f s
  | .rt r => .rt r
  | .ex e => .ex e
  | .no => .no
@[simp] theorem Lo.thn_nx {S R : Type} (s : S) (f : S → M R) : (Lo.nx s).thn f = f s := rfl
@[simp] theorem Lo.thn_rt {S R : Type} (r : R) (f : S → M R) : (Lo.rt r : Lo S R).thn f = .ok r := rfl
@[simp] theorem Lo.sq_nx {S S' R : Type} (s : S) (f : S → Lo S' R) : (Lo.nx s).sq f = f s := rfl
@[simp] theorem Lo.sq_rt {S S' R : Type} (r : R) (f : S → Lo S' R) : (Lo.rt r : Lo S R).sq f = .rt r := rfl
@[simp] theorem Lo.thnE_nx {S X : Type} (s : S) (f : S → M X) : (Lo.nx s).thnE f = f s := rfl
theorem M.lo_assoc {α β S R : Type} (m : M α) (f : α → M β) (g : β → Lo S R) : (m.bind f).lo g = m.lo fun a => (f a).lo g := by cases m <;> rfl
theorem M.bind_assoc {α β γ : Type} (m : M α) (f : α → M β) (g : β → M γ) : (m.bind f).bind g = m.bind fun a => (f a).bind g := by cases m <;> rfl
def unO {α : Type} : Option α → M α
  | some a => .ok a
  | none => .no
section
variable {C : CH} {C0 : CH → Prop} {α β : Type}
theorem nvw {α : Type} {x : α → P} {κ : α → CH} : ∀ (a : α) (l : List P), ((fun a => (RV.v (x a), κ a)) a).1 ≠ RV.vw l := fun _ _ h => by cases h
theorem nvf {α : Type} {x : α → List P} {κ : α → CH} : ∀ (a : α) (l : List P), ((fun a => (RV.fr (x a), κ a)) a).1 ≠ RV.vw l := fun _ _ h => by cases h
theorem im_ok (enc : α → P) (a : α) {r : Rs RV} (h : r = .ok (.v (enc a)) C) : Im r C0 (.ok a) (fun a => (.v (enc a), C)) := h
theorem cp_isB {a b : Bool} : cmpP .is (.bl a) (.bl b) = some (a == b) := rfl
theorem cp_isnB {a b : Bool} : cmpP .isn (.bl a) (.bl b) = some (!(a == b)) := rfl
theorem isis_two {cb : Cb} {x : P} {a b : String} {s t : Bool} (h1 : isis cb x [a] = some s) (h2 : isis cb x [b] = some t) : isis cb x [a, b] = some (s || t) := by
  unfold isis at h1 ⊢
  rw [h2]
  revert h1
  cases cb.isi (tyName x) a with
  | none => intro h; cases h
  | some u =>
    intro h
    have e : some (u || false) = some s := h
    rw [Bool.or_false] at e
    cases e
    rfl
theorem cp_isO {e : α → P} (h : ∀ a, isNone (e a) = false) {o : Option α} : cmpP .is (eO e o) .non = some o.isNone := by
  cases o with
  | none => rfl
  | some a => show some (isNone (e a)) = _; rw [h]; rfl
theorem cp_isnO {e : α → P} (h : ∀ a, isNone (e a) = false) {o : Option α} : cmpP .isn (eO e o) .non = some (!o.isNone) := by
  cases o with
  | none => rfl
  | some a => show some (!isNone (e a)) = _; rw [h]; rfl
theorem cp_ltO {i : Int} {o : Option Int} : Im (opt (cmpP .lt (.int i) (eO P.int o)) C) C0 ((unO o).bind fun z => .ok (decide (i < z))) (fun t => (t, C)) := by
  cases o with
  | none => exact trivial
  | some a => rfl
theorem cp_leO {i : Int} {o : Option Int} : Im (opt (cmpP .le (.int i) (eO P.int o)) C) C0 ((unO o).bind fun z => .ok (decide (i ≤ z))) (fun t => (t, C)) := by
  cases o with
  | none => exact trivial
  | some a => rfl
theorem de_opt [DecidableEq α] {n : Nat} {e : α → P} {d : α → PyData} (h : DE n e d) (h1 : ∀ a, PyData.eqv (d a) .none = false) (h2 : ∀ a, PyData.eqv .none (d a) = false) : DE n (eO e) (fun o => match o with
    | none => PyData.none
    | some a => d a) := ⟨fun m hm o => by
    cases o with
    | none => cases m <;> rfl
    | some a => exact h.t m hm a, fun a b => by
    cases a with
    | none =>
      cases b with
      | none => show PyData.eqv .none .none = _; unfold PyData.eqv; rfl
      | some b => show PyData.eqv .none (d b) = _; rw [h2]; simp
    | some a =>
      cases b with
      | none => show PyData.eqv (d a) .none = _; rw [h1]; simp
      | some b => show PyData.eqv (d a) (d b) = _; rw [h.q]; simp⟩
end
section
variable {cb : Cb} {σ : Env} {C0 : CH → Prop} {C : CH} {R X α β γ S : Type} {ηR : R → RV × CH} {K : Srt C0 R ηR X} {rest : List MP.S}
section
variable {α : Type} {ρ : S → Env × CH} {C0 : CH → Prop}
theorem sF_bind {m : M α} {f : α → M R} : (sF C0 ηR).bind m f = m.bind f := rfl
theorem sF_no : (sF C0 ηR).no = .no := rfl
theorem sF_rt : (sF C0 ηR).rt = M.ok := rfl
theorem sF_seq {r : Lo S R} {f : S → M R} : (sF C0 ηR).seq r f = r.thn f := by cases r <;> rfl
theorem sL_bind {m : M α} {f : α → Lo S R} : (sL C0 ηR ρ).bind m f = m.lo f := rfl
theorem sL_no : (sL C0 ηR ρ).no = .no := rfl
theorem sL_rt : (sL C0 ηR ρ).rt = Lo.rt := rfl
theorem sL_seq {S' : Type} {r : Lo S' R} {f : S' → Lo S R} : (sL C0 ηR ρ).seq r f = r.sq f := by cases r <;> rfl
theorem sN_bind {m : M α} {f : α → M S} : (sN C0 ρ).bind m f = m.bind f := rfl
theorem sN_no : (sN C0 ρ).no = .no := rfl
theorem sN_seq {S' : Type} {r : Lo S' Empty} {f : S' → M S} : (sN C0 ρ).seq r f = r.thnE f := by cases r <;> rfl
end
/-- a def's names at its begin -/
def fdEnv (d : FD) (as : List A) : Option Env := match argD as with
  | none => none
  | some ds => if ds.length = d.params then some (ds.map some ++ List.replicate (d.slots - d.params) none) else none
theorem fd_fl {d : FD} {as : List A} {σ : Env} {C : CH} (h : fdEnv d as = some σ) : runFD cb d as C = flRs (runB cb d.body σ C) := by
  revert h
  unfold fdEnv runFD
  cases argD as with
  | none => intro h; cases h
  | some ds =>
    intro h
    dsimp only at h ⊢
    by_cases hl : ds.length = d.params
    · rw [if_pos hl] at h ⊢
      rw [Option.some.inj h]
      cases runB cb d.body σ C <;> rfl
    · rw [if_neg hl] at h
      cases h
theorem fd_im {R : Type} {ηR : R → RV × CH} {d : FD} {as : List A} {σ : Env} {C : CH} {m : M R} (h : fdEnv d as = some σ) (hj : (sF C0 ηR).J (runB cb d.body σ C) m) : Im (runFD cb d as C) C0 m ηR := by
  rw [fd_fl h]
  exact hj
theorem jx {fl : Fl} {m m' : X} (h : K.J fl m) (e : m = m') : K.J fl m' := e ▸ h
/-- a place of a cell's list -/
theorem st_stiC {o n : Nat} {i e : E} {m1 : M α} {η1 : α → RV × CH} {y : α → P} {j : Int} {cur : List P} {out : α → List P} {k : α → X} (ho : σ[o]? = some (some (.cell n))) (hcur : cellL C n = some cur)
    (h1 : Im (evalE cb e σ C) C0 m1 η1) (d1 : ∀ a, datum (opA (η1 a).1) = some (y a)) (h2 : Im (evalE cb i σ C) C0 (.ok j) (fun z => (.v (.int z), C)))
    (hm : ∀ a, stiP (.int j) (y a) cur = some (out a)) (hc : ∀ a, (η1 a).2 = C) (hk : ∀ a, K.J (runB cb rest σ (C.set n (some (.lst (out a))))) (k a)) : K.J (runB cb (.sti o i e :: rest) σ C) (K.bind m1 k) := by
  rw [runB_cons]
  unfold runS
  refine bd_fl h1 (fun _ _ _ => rfl) fun a => ?_
  rw [d1 a, hc a]
  dsimp only
  have hl : isLst σ C o = true := by unfold isLst; rw [ho]; dsimp only; rw [hcur]; rfl
  rw [hl]
  simp only [Bool.not_true, Bool.false_eq_true, if_false]
  rw [show evalE cb i σ C = .ok (.v (.int j)) C from h2]
  show K.J (thn cb rest (updL o σ C (stiP (.int j) (y a)))) (k a)
  unfold updL
  rw [ho]
  dsimp only
  rw [hcur]
  dsimp only
  rw [hm a]
  exact hk a
/-- an instance that is made -/
def sI (C : CH) (c : String) {α : Type} (ns : α → List String) (vs : α → List P) : Srt (fun D => ∃ x, D = C ++ [x]) Empty (fun r => nomatch r) (M α) where
  J := fun fl m => match m with
    | .ok r => ∃ σ, fl = .nx σ (C ++ [some (.ins c (ns r) (vs r))])
    | .ex e => ∃ σ x, fl = .ex e σ (C ++ [x])
    | .no => True
  ex := .ex
  no := .no
  rt := fun r => nomatch r
  hex := fun e σ D h => by obtain ⟨x, rfl⟩ := h; exact ⟨σ, x, rfl⟩
  hno := fun _ => trivial
  hrt := fun r => nomatch r
theorem en_init {c : String} {ns : α → List String} {vs : α → List P} {n1 : List String} {v1 : List P} (r : α) (h1 : n1 = ns r) (h2 : v1 = vs r) : (sI C c ns vs).J (runB cb [] σ (C ++ [some (.ins c n1 v1)])) (.ok r) := by
  show ∃ σ', runB cb [] σ _ = .nx σ' _
  refine ⟨σ, ?_⟩
  unfold runB
  rw [h1, h2]
theorem sI_bind {β : Type} {c : String} {ns : α → List String} {vs : α → List P} {m : M β} {f : β → M α} : (sI C c ns vs).bind m f = m.bind f := rfl
theorem sI_no {c : String} {ns : α → List String} {vs : α → List P} : (sI C c ns vs).no = .no := rfl
theorem mkNew_im {c : String} {ns : α → List String} {vs : α → List P} {m : M α} {fl : Fl} {g : List A → CH → Rs RV} {as : List A} (hC : C0 C) (h : (sI C c ns vs).J fl m) (hr : g (.cell C.length :: as) (C ++ [some (.ins c [] [])]) = flRs fl) : Im (mkNew c g as C) C0 m (fun r => (.v (.obj c (ns r) (vs r)), C)) := by
  unfold mkNew
  rw [hr]
  cases m with
  | ok r =>
    obtain ⟨σ, e⟩ := h
    rw [e]
    have e1 : (C ++ [some (Cl.ins c (ns r) (vs r))])[C.length]? = some (some (Cl.ins c (ns r) (vs r))) := by rw [List.getElem?_append_right (Nat.le_refl _)]; simp
    show _ = Rs.ok (RV.v (P.obj c (ns r) (vs r))) C
    simp only [flRs, e1]
    simp
  | ex e =>
    obtain ⟨σ, x, q⟩ := h
    rw [q]
    refine ⟨C, hC, ?_⟩
    show Rs.ex e ((C ++ [x]).take C.length) = _
    simp
  | no => exact trivial
theorem ev_selfatt {c : String} {ns : List String} {vs : List P} {i : Nat} {f : String} {enc : α → P} {a : α} (h : σ[i]? = some (some (.cell C.length))) (hf : cb.has c f = true) (hv : fld f ns vs = some (enc a)) : Im (evalE cb (.att (.var i) f) σ (C ++ [some (.ins c ns vs)])) C0 (.ok a) (fun a => (.v (enc a), C ++ [some (.ins c ns vs)])) := by
  show evalE cb (.att (.var i) f) σ _ = _
  unfold evalE
  unfold evalE
  rw [h]
  have e : attP cb.has (C ++ [some (Cl.ins c ns vs)]) (opA (.cell C.length)) f = some (enc a) := by
    show (match (C ++ [some (Cl.ins c ns vs)])[C.length]? with
      | some (some (.ins c ns vs)) => if cb.has c f then fld f ns vs else none
      | _ => none) = _
    rw [List.getElem?_append_right (Nat.le_refl _)]
    simp [hf, hv]
  rw [Rs.bnd_ok, e]
  rfl
theorem st_sta {c : String} {ns : List String} {vs : List P} {o : Nat} {f : String} {e : E} {m : M α} {η : α → RV × CH} {y : α → P} {ns2 : List String} {vs2 : α → List P} {k : α → X} (ho : σ[o]? = some (some (.cell C.length))) (hf : cb.has c f = true) (hn : ns.length < 1000)
    (h : Im (evalE cb e σ (C ++ [some (.ins c ns vs)])) C0 m η) (hd : ∀ a, datum (opA (η a).1) = some (y a)) (hc : ∀ a, (η a).2 = C ++ [some (.ins c ns vs)]) (hp : ∀ a, putN f (y a) ns vs = (ns2, vs2 a)) (hk : ∀ a, K.J (runB cb rest σ (C ++ [some (.ins c ns2 (vs2 a))])) (k a)) :
    K.J (runB cb (.sta o f e :: rest) σ (C ++ [some (.ins c ns vs)])) (K.bind m k) := by
  rw [runB_cons]
  unfold runS
  refine bd_fl h (fun _ _ _ => rfl) fun a => ?_
  rw [hd a, hc a]
  dsimp only
  rw [ho]
  dsimp only
  rw [List.getElem?_append_right (Nat.le_refl _)]
  simp only [Nat.sub_self, List.getElem?_cons_zero, hf, decide_eq_true hn, Bool.and_self, if_true, hp a]
  rw [List.set_append_right _ _ (Nat.le_refl _)]
  simp only [Nat.sub_self, List.set_cons_zero]
  exact hk a
theorem cb_has {T : Tbl} {n : Nat} : (cbN T (n + 1)).has = T.has := rfl
theorem cb_con {T : Tbl} {n : Nat} : (cbN T (n + 1)).con = T.con := rfl
theorem cb_isi {T : Tbl} {n : Nat} : (cbN T (n + 1)).isi = T.isi := rfl
theorem cb_mok {T : Tbl} {n : Nat} {c m : String} : (cbN T (n + 1)).mok c m = (m != "__init__" && (T.mth c m).isSome) := rfl
theorem cl_fn {T : Tbl} {f : String} {d : FD} (h : T.fn f = some d) {n : Nat} {as : List A} : (cbN T (n + 1)).call f as C = runFD (cbN T n) d as C := by
  show (match T.fn f with
    | some d => runFD (cbN T n) d as C
    | none => .no) = _
  rw [h]
theorem cl_new {T : Tbl} {f : String} {d : FD} (h : T.mth f "__init__" = some d) {n : Nat} {as : List A} : (cbN T (n + 1)).new f as C = mkNew f (runFD (cbN T n) d) as C := by
  show (match T.mth f "__init__" with
    | some d => mkNew f (runFD (cbN T n) d) as C
    | none => .no) = _
  rw [h]
theorem cl_mth {T : Tbl} {f m : String} {d : FD} (h : T.mth f m = some d) {n : Nat} {as : List A} : (cbN T (n + 1)).mth f m as C = runFD (cbN T n) d as C := by
  show (match T.mth f m with
    | some d => runFD (cbN T n) d as C
    | none => .no) = _
  rw [h]
theorem ev_eqo {a b : E} {c : String} {m1 : M α} {η1 : α → RV × CH} {m2 : α → M β} {η2 : α → β → RV × CH} {n1 : α → List String} {v1 : α → List P} {n2 : α → β → List String} {v2 : α → β → List P} {k : α → β → M Bool} {C1 : CH → Prop} (h1 : Im (evalE cb a σ C) C0 m1 η1) (h2 : ∀ x, Im (evalE cb b σ (η1 x).2) C0 (m2 x) (η2 x))
    (o1 : ∀ x y, (((η1 x).1, (η2 x y).2) : RV × CH) = (.v (.obj c (n1 x) (v1 x)), C)) (o2 : ∀ x y, (η2 x y).1 = .v (.obj c (n2 x y) (v2 x y))) (hm : cb.mok c "__eq__" = true) (hf : ∀ x y, Im (cb.mth c "__eq__" [.p (.obj c (n1 x) (v1 x)), .p (.obj c (n2 x y) (v2 x y))] C) C1 (k x y) (fun t => (.v (.bl t), C))) :
    Im (evalE cb (.eqo a b) σ C) C0 (m1.bind fun x => (m2 x).bind fun y => (k x y).nox) (fun t => (.v (.bl t), C)) := by
  unfold evalE
  refine Im.bnd h1 fun x => Im.bnd (h2 x) fun y => ?_
  have q := o1 x y
  have q1 : (η1 x).1 = .v (.obj c (n1 x) (v1 x)) := congrArg Prod.fst q
  have q2 : (η2 x y).2 = C := congrArg Prod.snd q
  rw [q1, o2 x y, q2]
  dsimp only
  rw [if_pos (by rw [hm]; simp)]
  have z := hf x y
  revert z
  cases k x y with
  | ok t => intro z; rw [show cb.mth c "__eq__" _ C = .ok (.v (.bl t)) C from z]; exact rfl
  | ex e => exact fun _ => trivial
  | no => exact fun _ => trivial
end
end MP
/-! what the defs of law_k52_whole_floor_papers compute -/
namespace MP
open PySem
structure Table where
  costs : (List Int)
  rows : (List (Int × (List Int)))
abbrev eTable (x : Table) : P := .obj "Table" ["costs", "rows"] [(eT P.int) x.costs, (eT (e2 P.int (eT P.int))) x.rows]
theorem has_Table_costs (n : Nat) : (cbN T (n + 1)).has "Table" "costs" = true := by
  rw [cb_has]
  decide +kernel
theorem att_Table_costs (n : Nat) (x : Table) {C : CH} : attP (cbN T (n + 1)).has C (.p (eTable x)) "costs" = some ((eT P.int) x.costs) := by
  unfold attP
  dsimp only
  rw [has_Table_costs]
  simp [fld]
theorem has_Table_rows (n : Nat) : (cbN T (n + 1)).has "Table" "rows" = true := by
  rw [cb_has]
  decide +kernel
theorem att_Table_rows (n : Nat) (x : Table) {C : CH} : attP (cbN T (n + 1)).has C (.p (eTable x)) "rows" = some ((eT (e2 P.int (eT P.int))) x.rows) := by
  unfold attP
  dsimp only
  rw [has_Table_rows]
  simp [fld]
theorem con_LARGEST (n : Nat) : (cbN T (n + 1)).con "LARGEST" = some (P.int 1000) := by
  rw [cb_con]
  simp [Tbl.con, T, List.lookup]
theorem con_MOST_ROWS (n : Nat) : (cbN T (n + 1)).con "MOST_ROWS" = some (P.int 200) := by
  rw [cb_con]
  simp [Tbl.con, T, List.lookup]
theorem con_MOST_TESTS_floors (n : Nat) : (cbN T (n + 1)).con "MOST_TESTS_floors" = some (P.int 8) := by
  rw [cb_con]
  simp [Tbl.con, T, List.lookup]
theorem con_MOST_TESTS_tables (n : Nat) : (cbN T (n + 1)).con "MOST_TESTS_tables" = some (P.int 12) := by
  rw [cb_con]
  simp [Tbl.con, T, List.lookup]
theorem isi_NoneType_int (n : Nat) {x : P} (h : tyName x = "NoneType" := by rfl) : isis (cbN T (n + 1)) x ["int"] = some false := by
  unfold isis isis
  rw [h]
  have e : (cbN T (n + 1)).isi "NoneType" "int" = some false := by
    rw [cb_isi]
    decide +kernel
  rw [e]
  rfl
theorem isi_bool_int (n : Nat) {x : P} (h : tyName x = "bool" := by rfl) : isis (cbN T (n + 1)) x ["int"] = some true := by
  unfold isis isis
  rw [h]
  have e : (cbN T (n + 1)).isi "bool" "int" = some true := by
    rw [cb_isi]
    decide +kernel
  rw [e]
  rfl
theorem isi_int_int (n : Nat) {x : P} (h : tyName x = "int" := by rfl) : isis (cbN T (n + 1)) x ["int"] = some true := by
  unfold isis isis
  rw [h]
  have e : (cbN T (n + 1)).isi "int" "int" = some true := by
    rw [cb_isi]
    decide +kernel
  rw [e]
  rfl
theorem isi_str_int (n : Nat) {x : P} (h : tyName x = "str" := by rfl) : isis (cbN T (n + 1)) x ["int"] = some false := by
  unfold isis isis
  rw [h]
  have e : (cbN T (n + 1)).isi "str" "int" = some false := by
    rw [cb_isi]
    decide +kernel
  rw [e]
  rfl
theorem isi_tuple_int (n : Nat) {x : P} (h : tyName x = "tuple" := by rfl) : isis (cbN T (n + 1)) x ["int"] = some false := by
  unfold isis isis
  rw [h]
  have e : (cbN T (n + 1)).isi "tuple" "int" = some false := by
    rw [cb_isi]
    decide +kernel
  rw [e]
  rfl
theorem isi_list_int (n : Nat) {x : P} (h : tyName x = "list" := by rfl) : isis (cbN T (n + 1)) x ["int"] = some false := by
  unfold isis isis
  rw [h]
  have e : (cbN T (n + 1)).isi "list" "int" = some false := by
    rw [cb_isi]
    decide +kernel
  rw [e]
  rfl
theorem isi_Table_int (n : Nat) {x : P} (h : tyName x = "Table" := by rfl) : isis (cbN T (n + 1)) x ["int"] = some false := by
  unfold isis isis
  rw [h]
  have e : (cbN T (n + 1)).isi "Table" "int" = some false := by
    rw [cb_isi]
    decide +kernel
  rw [e]
  rfl
theorem isi_NoneType_list (n : Nat) {x : P} (h : tyName x = "NoneType" := by rfl) : isis (cbN T (n + 1)) x ["list"] = some false := by
  unfold isis isis
  rw [h]
  have e : (cbN T (n + 1)).isi "NoneType" "list" = some false := by
    rw [cb_isi]
    decide +kernel
  rw [e]
  rfl
theorem isi_bool_list (n : Nat) {x : P} (h : tyName x = "bool" := by rfl) : isis (cbN T (n + 1)) x ["list"] = some false := by
  unfold isis isis
  rw [h]
  have e : (cbN T (n + 1)).isi "bool" "list" = some false := by
    rw [cb_isi]
    decide +kernel
  rw [e]
  rfl
theorem isi_int_list (n : Nat) {x : P} (h : tyName x = "int" := by rfl) : isis (cbN T (n + 1)) x ["list"] = some false := by
  unfold isis isis
  rw [h]
  have e : (cbN T (n + 1)).isi "int" "list" = some false := by
    rw [cb_isi]
    decide +kernel
  rw [e]
  rfl
theorem isi_str_list (n : Nat) {x : P} (h : tyName x = "str" := by rfl) : isis (cbN T (n + 1)) x ["list"] = some false := by
  unfold isis isis
  rw [h]
  have e : (cbN T (n + 1)).isi "str" "list" = some false := by
    rw [cb_isi]
    decide +kernel
  rw [e]
  rfl
theorem isi_tuple_list (n : Nat) {x : P} (h : tyName x = "tuple" := by rfl) : isis (cbN T (n + 1)) x ["list"] = some false := by
  unfold isis isis
  rw [h]
  have e : (cbN T (n + 1)).isi "tuple" "list" = some false := by
    rw [cb_isi]
    decide +kernel
  rw [e]
  rfl
theorem isi_list_list (n : Nat) {x : P} (h : tyName x = "list" := by rfl) : isis (cbN T (n + 1)) x ["list"] = some true := by
  unfold isis isis
  rw [h]
  have e : (cbN T (n + 1)).isi "list" "list" = some true := by
    rw [cb_isi]
    decide +kernel
  rw [e]
  rfl
theorem isi_Table_list (n : Nat) {x : P} (h : tyName x = "Table" := by rfl) : isis (cbN T (n + 1)) x ["list"] = some false := by
  unfold isis isis
  rw [h]
  have e : (cbN T (n + 1)).isi "Table" "list" = some false := by
    rw [cb_isi]
    decide +kernel
  rw [e]
  rfl
theorem isi_NoneType_tuple (n : Nat) {x : P} (h : tyName x = "NoneType" := by rfl) : isis (cbN T (n + 1)) x ["tuple"] = some false := by
  unfold isis isis
  rw [h]
  have e : (cbN T (n + 1)).isi "NoneType" "tuple" = some false := by
    rw [cb_isi]
    decide +kernel
  rw [e]
  rfl
theorem isi_bool_tuple (n : Nat) {x : P} (h : tyName x = "bool" := by rfl) : isis (cbN T (n + 1)) x ["tuple"] = some false := by
  unfold isis isis
  rw [h]
  have e : (cbN T (n + 1)).isi "bool" "tuple" = some false := by
    rw [cb_isi]
    decide +kernel
  rw [e]
  rfl
theorem isi_int_tuple (n : Nat) {x : P} (h : tyName x = "int" := by rfl) : isis (cbN T (n + 1)) x ["tuple"] = some false := by
  unfold isis isis
  rw [h]
  have e : (cbN T (n + 1)).isi "int" "tuple" = some false := by
    rw [cb_isi]
    decide +kernel
  rw [e]
  rfl
theorem isi_str_tuple (n : Nat) {x : P} (h : tyName x = "str" := by rfl) : isis (cbN T (n + 1)) x ["tuple"] = some false := by
  unfold isis isis
  rw [h]
  have e : (cbN T (n + 1)).isi "str" "tuple" = some false := by
    rw [cb_isi]
    decide +kernel
  rw [e]
  rfl
theorem isi_tuple_tuple (n : Nat) {x : P} (h : tyName x = "tuple" := by rfl) : isis (cbN T (n + 1)) x ["tuple"] = some true := by
  unfold isis isis
  rw [h]
  have e : (cbN T (n + 1)).isi "tuple" "tuple" = some true := by
    rw [cb_isi]
    decide +kernel
  rw [e]
  rfl
theorem isi_list_tuple (n : Nat) {x : P} (h : tyName x = "list" := by rfl) : isis (cbN T (n + 1)) x ["tuple"] = some false := by
  unfold isis isis
  rw [h]
  have e : (cbN T (n + 1)).isi "list" "tuple" = some false := by
    rw [cb_isi]
    decide +kernel
  rw [e]
  rfl
theorem isi_Table_tuple (n : Nat) {x : P} (h : tyName x = "Table" := by rfl) : isis (cbN T (n + 1)) x ["tuple"] = some false := by
  unfold isis isis
  rw [h]
  have e : (cbN T (n + 1)).isi "Table" "tuple" = some false := by
    rw [cb_isi]
    decide +kernel
  rw [e]
  rfl
theorem tf_left_weights : T.fn "left_weights" = some F_left_weights_ea7d := by simp [Tbl.fn, T, List.lookup]
theorem tf_price : T.fn "price" = some F_price_6314 := by simp [Tbl.fn, T, List.lookup]
theorem tf_least_rests : T.fn "least_rests" = some F_least_rests_670c := by simp [Tbl.fn, T, List.lookup]
theorem tf_cheapest : T.fn "cheapest" = some F_cheapest_0b4d := by simp [Tbl.fn, T, List.lookup]
theorem tf_check_few : T.fn "check_few" = some F_check_few_102a := by simp [Tbl.fn, T, List.lookup]
theorem tf_floor_paper : T.fn "floor_paper" = some F_floor_paper_c296 := by simp [Tbl.fn, T, List.lookup]
theorem tf_judge_floor : T.fn "judge_floor" = some F_judge_floor_0458 := by simp [Tbl.fn, T, List.lookup]
theorem tf_check_costs : T.fn "check_costs" = some F_check_costs_5016 := by simp [Tbl.fn, T, List.lookup]
theorem tf_check_row : T.fn "check_row" = some F_check_row_4529 := by simp [Tbl.fn, T, List.lookup]
theorem tf_Table_init : T.mth "Table" "__init__" = some F_Table_init_e0c5 := by simp [Tbl.mth, T]
theorem tf_law_box : T.fn "_law_box" = some F_law_box_eba1 := by simp [Tbl.fn, T, List.lookup]
theorem tf_law_draw : T.fn "_law_draw" = some F_law_draw_4bf9 := by simp [Tbl.fn, T, List.lookup]
theorem tf_law_table : T.fn "_law_table" = some F_law_table_03cc := by simp [Tbl.fn, T, List.lookup]
theorem tf_law_left : T.fn "_law_left" = some F_law_left_6b46 := by simp [Tbl.fn, T, List.lookup]
theorem tf_law_made : T.fn "_law_made" = some F_law_made_e7df := by simp [Tbl.fn, T, List.lookup]
theorem tf_law_perms : T.fn "_law_perms" = some F_law_perms_4cd7 := by simp [Tbl.fn, T, List.lookup]
theorem tf_law_behind : T.fn "_law_behind" = some F_law_behind_4cd3 := by simp [Tbl.fn, T, List.lookup]
theorem tf_law_due : T.fn "_law_due" = some F_law_due_e19d := by simp [Tbl.fn, T, List.lookup]
theorem tf_law : T.fn "law" = some F_law_fcf4 := by simp [Tbl.fn, T, List.lookup]
abbrev kap (R : CH) (b : ((List Int) × Int × Int × Int)) : CH := some (.lst ((k4 (eL P.int) P.int P.int P.int) b)) :: R
/-- left_weights -/
def g_left_weights (table : Table) : M (List Int) :=
  let v3 : Int := (table.costs.length : Int)
  (shlM (1 : Int) v3).bind fun v6 =>
  (repM ([(0 : Int)]) v6).bind fun v11 =>
  (loopM (fun y15 s14 =>
    (((compM (fun _ => M.ok true) (fun y18 => shlM (1 : Int) y18) y15.2).bind fun x21 => M.ok (x21, ())).bind fun g22 => M.ok g22.1.sum).bind fun v23 =>
    (getI s14 v23).bind fun x25 =>
    (setI s14 v23 (x25 + y15.1)).bind fun l28 =>
    M.ok l28) table.rows v11).bind fun s29 =>
  (rngM 0 v3).bind fun l70 =>
  (loopM (fun y33 s32 =>
    (rngM 0 v6).bind fun l58 =>
    (loopM (fun y37 s36 =>
      (((shrM y37 y33).bind fun x40 => M.ok (Builtin.bitAnd x40 (1 : Int))).bind fun x42 => M.ok (decide (x42 = (1 : Int)))).bind fun c44 =>
      (if c44 then
        (getI s36 y37).bind fun x46 =>
        (((shlM (1 : Int) y33).bind fun x51 => M.ok (y37 - x51)).bind fun x52 => getI s36 x52).bind fun x53 =>
        (setI s36 y37 (x46 + x53)).bind fun l55 =>
        M.ok l55
      else
        M.ok s36).bind fun s56 =>
      M.ok s56) l58 s32).bind fun s57 =>
    M.ok s57) l70 s29).bind fun s59 =>
  ((rngM 0 v6).bind fun l69 => compM (fun _ => M.ok true) (fun y62 => getI s59 ((v6 - (1 : Int)) - y62)) l69).bind M.ok
theorem ok_left_weights (k : Nat) (table : Table) {C : CH} {C0 : CH → Prop} (hC : C0 C) : Im (runFD (cbN T (k + 1)) F_left_weights_ea7d [.p (eTable table)] C) C0 (g_left_weights table) (fun r => (RV.fr ((List.map P.int) r), C)) := by
  refine fd_im (σ := [some (.p (eTable table)), none, none, none, none, none, none, none]) rfl ?_
  apply jx (K := sF C0 (fun r : (List Int) => (RV.fr ((List.map P.int) r), C)))
  · have hh1 := ev_var (cb := cbN T (k + 1)) (σ := [some (.p (eTable table)), none, none, none, none, none, none, none]) (C := C) (C0 := C0) (i := 0) eTable table rfl
    have hh2 := ev_att (f := "costs") (enc := (eT P.int)) (g := fun z : Table => z.costs) hh1 (fun _ => att_Table_costs _ _) (fun _ => rfl)
    have hh3 := es_nil (cb := cbN T (k + 1)) (σ := [some (.p (eTable table)), none, none, none, none, none, none, none]) (C := C) (C0 := C0)
    have hh4 := es_cons hh2 (fun _ => hh3)
    have hh5 := ev_bi (f := .len) hh4 (fun _ => rfl) (fun g2 => (bc_lenT (C := C) (e := P.int)))
    apply st_set (σ := [some (.p (eTable table)), none, none, none, none, none, none, none]) (C := C) hh5 (fun _ => rfl)
    intro v3
    have hh6 := ev_con (cb := cbN T (k + 1)) (σ := [some (.p (eTable table)), some (.p (P.int v3)), none, none, none, none, none, none]) (C := C) (C0 := C0) P.int 1
    have hh7 := ev_var (cb := cbN T (k + 1)) (σ := [some (.p (eTable table)), some (.p (P.int v3)), none, none, none, none, none, none]) (C := C) (C0 := C0) (i := 1) P.int v3 rfl
    have hh8 := ev_bin (op := .shl) hh6 (fun _ => hh7) (fun _ _ => rfl) (fun _ _ => rfl) (fun x4 x5 => (bi_shl (C := C)))
    apply st_set (σ := [some (.p (eTable table)), some (.p (P.int v3)), none, none, none, none, none, none]) (C := C) hh8 (fun _ => rfl)
    intro v6
    have hh9 := ev_con (cb := cbN T (k + 1)) (σ := [some (.p (eTable table)), some (.p (P.int v3)), some (.p (P.int v6)), none, none, none, none, none]) (C := C) (C0 := C0) P.int 0
    have hh10 := es_nil (cb := cbN T (k + 1)) (σ := [some (.p (eTable table)), some (.p (P.int v3)), some (.p (P.int v6)), none, none, none, none, none]) (C := C) (C0 := C0)
    have hh11 := es_cons hh9 (fun _ => hh10)
    have hh12 := ev_lst hh11 (fun _ => rfl) (fun _ => rfl)
    have hh13 := Im.re (g := fun g8 => [g8.1]) (η' := fun p : (List Int) => (RV.fr ((List.map P.int) p), C)) hh12 (fun _ => rfl)
    have hh14 := ev_var (cb := cbN T (k + 1)) (σ := [some (.p (eTable table)), some (.p (P.int v3)), some (.p (P.int v6)), none, none, none, none, none]) (C := C) (C0 := C0) (i := 2) P.int v6 rfl
    have hh15 := ev_bin (op := .mul) hh13 (fun _ => hh14) (fun _ _ => rfl) (fun _ _ => rfl) (fun x9 x10 => (bi_rep (C := C) (e := P.int)))
    apply st_own (σ := [some (.p (eTable table)), some (.p (P.int v3)), some (.p (P.int v6)), none, none, none, none, none]) (C := C) hh15 (fun _ => rfl)
    intro v11
    have hh16 := ev_var (cb := cbN T (k + 1)) (σ := [some (.p (eTable table)), some (.p (P.int v3)), some (.p (P.int v6)), some (.own ((List.map P.int) v11)), none, none, none, none]) (C := C) (C0 := C0) (i := 0) eTable table rfl
    have hh17 := ev_att (f := "rows") (enc := (eT (e2 P.int (eT P.int)))) (g := fun z : Table => z.rows) hh16 (fun _ => att_Table_rows _ _) (fun _ => rfl)
    have hh18 := es_nil (cb := cbN T (k + 1)) (σ := [some (.p (eTable table)), some (.p (P.int v3)), some (.p (P.int v6)), some (.own ((List.map P.int) v11)), none, none, none, none]) (C := C) (C0 := C0)
    have hh19 := es_cons hh17 (fun _ => hh18)
    apply st_forM (σ := [some (.p (eTable table)), some (.p (P.int v3)), some (.p (P.int v6)), some (.own ((List.map P.int) v11)), none, none, none, none]) (C := C) (s0 := fun g13 => v11) (ex := (e2 P.int (eT P.int))) (ρ := fun s14 : (List Int) => ([some (.p (eTable table)), some (.p (P.int v3)), some (.p (P.int v6)), some (.own ((List.map P.int) s14)), none, none, none, none], C)) hh19 (fun g13 => (itt_tup (e := (e2 P.int (eT P.int))))) (fun _ => rfl) (fun _ _ => rfl)
    · intro y15 s14
      have hh20 := ev_var (cb := cbN T (k + 1)) (σ := [some (.p (eTable table)), some (.p (P.int v3)), some (.p (P.int v6)), some (.own ((List.map P.int) s14)), none, some (.p (P.int y15.1)), some (.p ((eT P.int) y15.2)), none]) (C := C) (C0 := C0) (i := 6) (eT P.int) y15.2 rfl
      have hh21 := es_nil (cb := cbN T (k + 1)) (σ := [some (.p (eTable table)), some (.p (P.int v3)), some (.p (P.int v6)), some (.own ((List.map P.int) s14)), none, some (.p (P.int y15.1)), some (.p ((eT P.int) y15.2)), none]) (C := C) (C0 := C0)
      have hh22 := es_cons hh20 (fun _ => hh21)
      have hh23 := fun (y18 : Int) => ev_con (cb := cbN T (k + 1)) (σ := [some (.p (eTable table)), some (.p (P.int v3)), some (.p (P.int v6)), some (.own ((List.map P.int) s14)), some (.p (P.int y18)), some (.p (P.int y15.1)), some (.p ((eT P.int) y15.2)), none]) (C := C) (C0 := C0) P.int 1
      have hh24 := fun (y18 : Int) => ev_var (cb := cbN T (k + 1)) (σ := [some (.p (eTable table)), some (.p (P.int v3)), some (.p (P.int v6)), some (.own ((List.map P.int) s14)), some (.p (P.int y18)), some (.p (P.int y15.1)), some (.p ((eT P.int) y15.2)), none]) (C := C) (C0 := C0) (i := 4) P.int y18 rfl
      have hh25 := fun (y18 : Int) => ev_bin (op := .shl) (hh23 y18) (fun _ => (hh24 y18)) (fun _ _ => rfl) (fun _ _ => rfl) (fun x19 x20 => (bi_shl (C := C)))
      have hh26 := fun (y18 : Int) => an_nil (cb := cbN T (k + 1)) (σ := [some (.p (eTable table)), some (.p (P.int v3)), some (.p (P.int v6)), some (.own ((List.map P.int) s14)), some (.p (P.int y18)), some (.p (P.int y15.1)), some (.p ((eT P.int) y15.2)), none]) (C := C) (C0 := C0)
      have hh27 := ev_comp (X := Int) (t := (.nm 4)) (kk := .val) (ez := P.int) (σ' := fun y18 => [some (.p (eTable table)), some (.p (P.int v3)), some (.p (P.int v6)), some (.own ((List.map P.int) s14)), some (.p (P.int y18)), some (.p (P.int y15.1)), some (.p ((eT P.int) y15.2)), none]) hh22 (fun g17 => (itt_tup (e := P.int))) (fun _ => rfl) (fun _ => rfl) (fun y18 => (hh26 y18)) (fun y18 => (hh25 y18)) (fun _ => rfl) (fun _ => rfl)
      have hh28 := es_nil (cb := cbN T (k + 1)) (σ := [some (.p (eTable table)), some (.p (P.int v3)), some (.p (P.int v6)), some (.own ((List.map P.int) s14)), none, some (.p (P.int y15.1)), some (.p ((eT P.int) y15.2)), none]) (C := C) (C0 := C0)
      have hh29 := es_cons hh27 (fun _ => hh28)
      have hh30 := ev_bi (f := .suml) hh29 (fun _ => rfl) (fun g22 => (bc_suml (C := C)))
      apply st_set (σ := [some (.p (eTable table)), some (.p (P.int v3)), some (.p (P.int v6)), some (.own ((List.map P.int) s14)), none, some (.p (P.int y15.1)), some (.p ((eT P.int) y15.2)), none]) (C := C) hh30 (fun _ => rfl)
      intro v23
      have hh31 := ev_var (cb := cbN T (k + 1)) (σ := [some (.p (eTable table)), some (.p (P.int v3)), some (.p (P.int v6)), some (.own ((List.map P.int) s14)), none, some (.p (P.int y15.1)), some (.p ((eT P.int) y15.2)), some (.p (P.int v23))]) (C := C) (C0 := C0) (i := 7) P.int v23 rfl
      have hh32 := ev_var (cb := cbN T (k + 1)) (σ := [some (.p (eTable table)), some (.p (P.int v3)), some (.p (P.int v6)), some (.own ((List.map P.int) s14)), none, some (.p (P.int y15.1)), some (.p ((eT P.int) y15.2)), some (.p (P.int v23))]) (C := C) (C0 := C0) (i := 5) P.int y15.1 rfl
      apply st_augi (σ := [some (.p (eTable table)), some (.p (P.int v3)), some (.p (P.int v6)), some (.own ((List.map P.int) s14)), none, some (.p (P.int y15.1)), some (.p ((eT P.int) y15.2)), some (.p (P.int v23))]) (C := C) (j := fun z => z) (y := fun _ _ z => z) rfl hh31 (fun _ => sg_lst) (fun x24 x25 => hh32) (fun _ _ _ => au_add) (fun _ _ _ _ => (ss_lst (e := P.int)))
      intro x24 x25 x26 x27 l28
      apply st_drop (σ := [some (.p (eTable table)), some (.p (P.int v3)), some (.p (P.int v6)), some (.own ((List.map P.int) l28)), none, some (.p (P.int y15.1)), some (.p ((eT P.int) y15.2)), some (.p (P.int v23))]) (C := C) 
      apply st_drop (σ := [some (.p (eTable table)), some (.p (P.int v3)), some (.p (P.int v6)), some (.own ((List.map P.int) l28)), none, none, some (.p ((eT P.int) y15.2)), some (.p (P.int v23))]) (C := C) 
      apply st_drop (σ := [some (.p (eTable table)), some (.p (P.int v3)), some (.p (P.int v6)), some (.own ((List.map P.int) l28)), none, none, none, some (.p (P.int v23))]) (C := C) 
      exact en_n (s := l28) rfl
    · intro s29
      have hh33 := ev_var (cb := cbN T (k + 1)) (σ := [some (.p (eTable table)), some (.p (P.int v3)), some (.p (P.int v6)), some (.own ((List.map P.int) s29)), none, none, none, none]) (C := C) (C0 := C0) (i := 1) P.int v3 rfl
      have hh34 := es_nil (cb := cbN T (k + 1)) (σ := [some (.p (eTable table)), some (.p (P.int v3)), some (.p (P.int v6)), some (.own ((List.map P.int) s29)), none, none, none, none]) (C := C) (C0 := C0)
      have hh35 := es_cons hh33 (fun _ => hh34)
      apply st_forM (σ := [some (.p (eTable table)), some (.p (P.int v3)), some (.p (P.int v6)), some (.own ((List.map P.int) s29)), none, none, none, none]) (C := C) (s0 := fun g31 => s29) (ex := P.int) (ρ := fun s32 : (List Int) => ([some (.p (eTable table)), some (.p (P.int v3)), some (.p (P.int v6)), some (.own ((List.map P.int) s32)), none, none, none, none], C)) hh35 (fun g31 => itt_rng1) (fun _ => rfl) (fun _ _ => rfl)
      · intro y33 s32
        have hh36 := ev_var (cb := cbN T (k + 1)) (σ := [some (.p (eTable table)), some (.p (P.int v3)), some (.p (P.int v6)), some (.own ((List.map P.int) s32)), some (.p (P.int y33)), none, none, none]) (C := C) (C0 := C0) (i := 2) P.int v6 rfl
        have hh37 := es_nil (cb := cbN T (k + 1)) (σ := [some (.p (eTable table)), some (.p (P.int v3)), some (.p (P.int v6)), some (.own ((List.map P.int) s32)), some (.p (P.int y33)), none, none, none]) (C := C) (C0 := C0)
        have hh38 := es_cons hh36 (fun _ => hh37)
        apply st_forM (σ := [some (.p (eTable table)), some (.p (P.int v3)), some (.p (P.int v6)), some (.own ((List.map P.int) s32)), some (.p (P.int y33)), none, none, none]) (C := C) (s0 := fun g35 => s32) (ex := P.int) (ρ := fun s36 : (List Int) => ([some (.p (eTable table)), some (.p (P.int v3)), some (.p (P.int v6)), some (.own ((List.map P.int) s36)), some (.p (P.int y33)), none, none, none], C)) hh38 (fun g35 => itt_rng1) (fun _ => rfl) (fun _ _ => rfl)
        · intro y37 s36
          have hh39 := ev_var (cb := cbN T (k + 1)) (σ := [some (.p (eTable table)), some (.p (P.int v3)), some (.p (P.int v6)), some (.own ((List.map P.int) s36)), some (.p (P.int y33)), none, none, some (.p (P.int y37))]) (C := C) (C0 := C0) (i := 7) P.int y37 rfl
          have hh40 := ev_var (cb := cbN T (k + 1)) (σ := [some (.p (eTable table)), some (.p (P.int v3)), some (.p (P.int v6)), some (.own ((List.map P.int) s36)), some (.p (P.int y33)), none, none, some (.p (P.int y37))]) (C := C) (C0 := C0) (i := 4) P.int y33 rfl
          have hh41 := ev_bin (op := .shr) hh39 (fun _ => hh40) (fun _ _ => rfl) (fun _ _ => rfl) (fun x38 x39 => (bi_shr (C := C)))
          have hh42 := ev_con (cb := cbN T (k + 1)) (σ := [some (.p (eTable table)), some (.p (P.int v3)), some (.p (P.int v6)), some (.own ((List.map P.int) s36)), some (.p (P.int y33)), none, none, some (.p (P.int y37))]) (C := C) (C0 := C0) P.int 1
          have hh43 := ev_bin (op := .band) hh41 (fun _ => hh42) (fun _ _ => rfl) (fun _ _ => rfl) (fun x40 x41 => (bi_band (C := C)))
          have hh44 := ev_con (cb := cbN T (k + 1)) (σ := [some (.p (eTable table)), some (.p (P.int v3)), some (.p (P.int v6)), some (.own ((List.map P.int) s36)), some (.p (P.int y33)), none, none, some (.p (P.int y37))]) (C := C) (C0 := C0) P.int 1
          have hh45 := ev_cmp (op := .eq) hh43 (fun _ => hh44) (fun _ _ => rfl) (fun _ _ => rfl) (fun x42 x43 => (im_cmp (C := C) (cp_eq (a := x42) (b := x43) de_int (by decide)))) (fun _ _ => rfl)
          apply st_ifj (σ := [some (.p (eTable table)), some (.p (P.int v3)), some (.p (P.int v6)), some (.own ((List.map P.int) s36)), some (.p (P.int y33)), none, none, some (.p (P.int y37))]) (C := C) (ρ := fun s56 : (List Int) => ([some (.p (eTable table)), some (.p (P.int v3)), some (.p (P.int v6)), some (.own ((List.map P.int) s56)), some (.p (P.int y33)), none, none, some (.p (P.int y37))], C)) hh45 (fun _ => rfl)
          · intro c44
            have hh54 := ev_var (cb := cbN T (k + 1)) (σ := [some (.p (eTable table)), some (.p (P.int v3)), some (.p (P.int v6)), some (.own ((List.map P.int) s36)), some (.p (P.int y33)), none, none, some (.p (P.int y37))]) (C := C) (C0 := C0) (i := 7) P.int y37 rfl
            have hh55 := ev_own (cb := cbN T (k + 1)) (σ := [some (.p (eTable table)), some (.p (P.int v3)), some (.p (P.int v6)), some (.own ((List.map P.int) s36)), some (.p (P.int y33)), none, none, some (.p (P.int y37))]) (C := C) (C0 := C0) (i := 3) (List.map P.int) s36 rfl
            have hh56 := ev_var (cb := cbN T (k + 1)) (σ := [some (.p (eTable table)), some (.p (P.int v3)), some (.p (P.int v6)), some (.own ((List.map P.int) s36)), some (.p (P.int y33)), none, none, some (.p (P.int y37))]) (C := C) (C0 := C0) (i := 7) P.int y37 rfl
            have hh57 := ev_con (cb := cbN T (k + 1)) (σ := [some (.p (eTable table)), some (.p (P.int v3)), some (.p (P.int v6)), some (.own ((List.map P.int) s36)), some (.p (P.int y33)), none, none, some (.p (P.int y37))]) (C := C) (C0 := C0) P.int 1
            have hh58 := ev_var (cb := cbN T (k + 1)) (σ := [some (.p (eTable table)), some (.p (P.int v3)), some (.p (P.int v6)), some (.own ((List.map P.int) s36)), some (.p (P.int y33)), none, none, some (.p (P.int y37))]) (C := C) (C0 := C0) (i := 4) P.int y33 rfl
            have hh59 := ev_bin (op := .shl) hh57 (fun _ => hh58) (fun _ _ => rfl) (fun _ _ => rfl) (fun x49 x50 => (bi_shl (C := C)))
            have hh60 := ev_bin (op := .sub) hh56 (fun _ => hh59) (fun _ _ => rfl) (fun _ _ => rfl) (fun x48 x51 => (bi_sub (C := C)))
            have hh61 := ev_sub hh55 (fun _ => hh60) (fun _ _ => rfl) (fun _ _ => rfl) (fun x47 x52 => (sb_lst (C := C) (e := P.int)))
            apply st_augi (σ := [some (.p (eTable table)), some (.p (P.int v3)), some (.p (P.int v6)), some (.own ((List.map P.int) s36)), some (.p (P.int y33)), none, none, some (.p (P.int y37))]) (C := C) (j := fun z => z) (y := fun _ _ z => z) rfl hh54 (fun _ => sg_lst) (fun x45 x46 => hh61) (fun _ _ _ => au_add) (fun _ _ _ _ => (ss_lst (e := P.int)))
            intro x45 x46 x53 x54 l55
            exact en_n (s := l55) rfl
          · intro c44
            exact en_n (s := s36) rfl
          · intro s56
            apply st_drop (σ := [some (.p (eTable table)), some (.p (P.int v3)), some (.p (P.int v6)), some (.own ((List.map P.int) s56)), some (.p (P.int y33)), none, none, some (.p (P.int y37))]) (C := C) 
            exact en_n (s := s56) rfl
        · intro s57
          apply st_drop (σ := [some (.p (eTable table)), some (.p (P.int v3)), some (.p (P.int v6)), some (.own ((List.map P.int) s57)), some (.p (P.int y33)), none, none, none]) (C := C) 
          apply st_drop (σ := [some (.p (eTable table)), some (.p (P.int v3)), some (.p (P.int v6)), some (.own ((List.map P.int) s57)), none, none, none, none]) (C := C) 
          exact en_n (s := s57) rfl
      · intro s59
        have hh62 := ev_var (cb := cbN T (k + 1)) (σ := [some (.p (eTable table)), some (.p (P.int v3)), some (.p (P.int v6)), some (.own ((List.map P.int) s59)), none, none, none, none]) (C := C) (C0 := C0) (i := 2) P.int v6 rfl
        have hh63 := es_nil (cb := cbN T (k + 1)) (σ := [some (.p (eTable table)), some (.p (P.int v3)), some (.p (P.int v6)), some (.own ((List.map P.int) s59)), none, none, none, none]) (C := C) (C0 := C0)
        have hh64 := es_cons hh62 (fun _ => hh63)
        have hh65 := fun (y62 : Int) => ev_own (cb := cbN T (k + 1)) (σ := [some (.p (eTable table)), some (.p (P.int v3)), some (.p (P.int v6)), some (.own ((List.map P.int) s59)), none, none, none, some (.p (P.int y62))]) (C := C) (C0 := C0) (i := 3) (List.map P.int) s59 rfl
        have hh66 := fun (y62 : Int) => ev_var (cb := cbN T (k + 1)) (σ := [some (.p (eTable table)), some (.p (P.int v3)), some (.p (P.int v6)), some (.own ((List.map P.int) s59)), none, none, none, some (.p (P.int y62))]) (C := C) (C0 := C0) (i := 2) P.int v6 rfl
        have hh67 := fun (y62 : Int) => ev_con (cb := cbN T (k + 1)) (σ := [some (.p (eTable table)), some (.p (P.int v3)), some (.p (P.int v6)), some (.own ((List.map P.int) s59)), none, none, none, some (.p (P.int y62))]) (C := C) (C0 := C0) P.int 1
        have hh68 := fun (y62 : Int) => ev_bin (op := .sub) (hh66 y62) (fun _ => (hh67 y62)) (fun _ _ => rfl) (fun _ _ => rfl) (fun x64 x65 => (bi_sub (C := C)))
        have hh69 := fun (y62 : Int) => ev_var (cb := cbN T (k + 1)) (σ := [some (.p (eTable table)), some (.p (P.int v3)), some (.p (P.int v6)), some (.own ((List.map P.int) s59)), none, none, none, some (.p (P.int y62))]) (C := C) (C0 := C0) (i := 7) P.int y62 rfl
        have hh70 := fun (y62 : Int) => ev_bin (op := .sub) (hh68 y62) (fun _ => (hh69 y62)) (fun _ _ => rfl) (fun _ _ => rfl) (fun x66 x67 => (bi_sub (C := C)))
        have hh71 := fun (y62 : Int) => ev_sub (hh65 y62) (fun _ => (hh70 y62)) (fun _ _ => rfl) (fun _ _ => rfl) (fun x63 x68 => (sb_lst (C := C) (e := P.int)))
        have hh72 := fun (y62 : Int) => an_nil (cb := cbN T (k + 1)) (σ := [some (.p (eTable table)), some (.p (P.int v3)), some (.p (P.int v6)), some (.own ((List.map P.int) s59)), none, none, none, some (.p (P.int y62))]) (C := C) (C0 := C0)
        have hh73 := ev_comp (X := Int) (t := (.nm 7)) (kk := .rng1) (ez := P.int) (σ' := fun y62 => [some (.p (eTable table)), some (.p (P.int v3)), some (.p (P.int v6)), some (.own ((List.map P.int) s59)), none, none, none, some (.p (P.int y62))]) hh64 (fun g61 => itt_rng1) (fun _ => rfl) (fun _ => rfl) (fun y62 => (hh72 y62)) (fun y62 => (hh71 y62)) (fun _ => rfl) (fun _ => rfl)
        exact st_ret hh73 nvf
  · simp -implicitDefEqProofs only [g_left_weights, sF_bind, sF_no, sF_rt, sF_seq, sL_bind, sL_no, sL_rt, sL_seq, sN_bind, sN_no, sN_seq, sI_bind, sI_no, compM_pure, compM_all, M.bind_ok, M.bind_assoc, M.lo_ok, M.lo_assoc]
theorem okc_left_weights (k : Nat) (table : Table) {C : CH} {C0 : CH → Prop} (hC : C0 C) : Im ((cbN T (k + 2)).call "left_weights" [.p (eTable table)] C) C0 (g_left_weights table) (fun r => (RV.fr ((List.map P.int) r), C)) := by
  rw [cl_fn tf_left_weights]
  exact ok_left_weights k table hC
/-- price -/
def g_price (table : Table) (lefts : (List Int)) (least : (List Int)) (index : Int) (test : Int) : M Int :=
  (((getI table.costs test).bind fun x3 => (getI lefts index).bind fun x6 => mulM x3 x6).bind fun x7 => (((shlM (1 : Int) test).bind fun x12 => M.ok (index + x12)).bind fun x13 => getI least x13).bind fun x14 => M.ok (x7 + x14)).bind M.ok
theorem ok_price (k : Nat) (table : Table) (lefts : (List Int)) (least : (List Int)) (index : Int) (test : Int) {C : CH} {C0 : CH → Prop} (hC : C0 C) : Im (runFD (cbN T (k + 1)) F_price_6314 [.p (eTable table), .p ((eL P.int) lefts), .p ((eL P.int) least), .p (P.int index), .p (P.int test)] C) C0 (g_price table lefts least index test) (fun r => (RV.v (P.int r), C)) := by
  refine fd_im (σ := [some (.p (eTable table)), some (.p ((eL P.int) lefts)), some (.p ((eL P.int) least)), some (.p (P.int index)), some (.p (P.int test))]) rfl ?_
  apply jx (K := sF C0 (fun r : Int => (RV.v (P.int r), C)))
  · have hh1 := ev_var (cb := cbN T (k + 1)) (σ := [some (.p (eTable table)), some (.p ((eL P.int) lefts)), some (.p ((eL P.int) least)), some (.p (P.int index)), some (.p (P.int test))]) (C := C) (C0 := C0) (i := 0) eTable table rfl
    have hh2 := ev_att (f := "costs") (enc := (eT P.int)) (g := fun z : Table => z.costs) hh1 (fun _ => att_Table_costs _ _) (fun _ => rfl)
    have hh3 := ev_var (cb := cbN T (k + 1)) (σ := [some (.p (eTable table)), some (.p ((eL P.int) lefts)), some (.p ((eL P.int) least)), some (.p (P.int index)), some (.p (P.int test))]) (C := C) (C0 := C0) (i := 4) P.int test rfl
    have hh4 := ev_sub hh2 (fun _ => hh3) (fun _ _ => rfl) (fun _ _ => rfl) (fun x1 x2 => (sb_tup (C := C) (e := P.int)))
    have hh5 := ev_var (cb := cbN T (k + 1)) (σ := [some (.p (eTable table)), some (.p ((eL P.int) lefts)), some (.p ((eL P.int) least)), some (.p (P.int index)), some (.p (P.int test))]) (C := C) (C0 := C0) (i := 1) (eL P.int) lefts rfl
    have hh6 := ev_var (cb := cbN T (k + 1)) (σ := [some (.p (eTable table)), some (.p ((eL P.int) lefts)), some (.p ((eL P.int) least)), some (.p (P.int index)), some (.p (P.int test))]) (C := C) (C0 := C0) (i := 3) P.int index rfl
    have hh7 := ev_sub hh5 (fun _ => hh6) (fun _ _ => rfl) (fun _ _ => rfl) (fun x4 x5 => (sb_lst (C := C) (e := P.int)))
    have hh8 := ev_bin (op := .mul) hh4 (fun _ => hh7) (fun _ _ => rfl) (fun _ _ => rfl) (fun x3 x6 => (bi_mul (C := C)))
    have hh9 := ev_var (cb := cbN T (k + 1)) (σ := [some (.p (eTable table)), some (.p ((eL P.int) lefts)), some (.p ((eL P.int) least)), some (.p (P.int index)), some (.p (P.int test))]) (C := C) (C0 := C0) (i := 2) (eL P.int) least rfl
    have hh10 := ev_var (cb := cbN T (k + 1)) (σ := [some (.p (eTable table)), some (.p ((eL P.int) lefts)), some (.p ((eL P.int) least)), some (.p (P.int index)), some (.p (P.int test))]) (C := C) (C0 := C0) (i := 3) P.int index rfl
    have hh11 := ev_con (cb := cbN T (k + 1)) (σ := [some (.p (eTable table)), some (.p ((eL P.int) lefts)), some (.p ((eL P.int) least)), some (.p (P.int index)), some (.p (P.int test))]) (C := C) (C0 := C0) P.int 1
    have hh12 := ev_var (cb := cbN T (k + 1)) (σ := [some (.p (eTable table)), some (.p ((eL P.int) lefts)), some (.p ((eL P.int) least)), some (.p (P.int index)), some (.p (P.int test))]) (C := C) (C0 := C0) (i := 4) P.int test rfl
    have hh13 := ev_bin (op := .shl) hh11 (fun _ => hh12) (fun _ _ => rfl) (fun _ _ => rfl) (fun x10 x11 => (bi_shl (C := C)))
    have hh14 := ev_bin (op := .add) hh10 (fun _ => hh13) (fun _ _ => rfl) (fun _ _ => rfl) (fun x9 x12 => (bi_add (C := C)))
    have hh15 := ev_sub hh9 (fun _ => hh14) (fun _ _ => rfl) (fun _ _ => rfl) (fun x8 x13 => (sb_lst (C := C) (e := P.int)))
    have hh16 := ev_bin (op := .add) hh8 (fun _ => hh15) (fun _ _ => rfl) (fun _ _ => rfl) (fun x7 x14 => (bi_add (C := C)))
    exact st_ret hh16 nvw
  · simp -implicitDefEqProofs only [g_price, sF_bind, sF_no, sF_rt, sF_seq, sL_bind, sL_no, sL_rt, sL_seq, sN_bind, sN_no, sN_seq, sI_bind, sI_no, compM_pure, compM_all, M.bind_ok, M.bind_assoc, M.lo_ok, M.lo_assoc]
theorem okc_price (k : Nat) (table : Table) (lefts : (List Int)) (least : (List Int)) (index : Int) (test : Int) {C : CH} {C0 : CH → Prop} (hC : C0 C) : Im ((cbN T (k + 2)).call "price" [.p (eTable table), .p ((eL P.int) lefts), .p ((eL P.int) least), .p (P.int index), .p (P.int test)] C) C0 (g_price table lefts least index test) (fun r => (RV.v (P.int r), C)) := by
  rw [cl_fn tf_price]
  exact ok_price k table lefts least index test hC
/-- price.t -/
def g_price_t (table : Table) (lefts : (List Int)) (least : (List Int)) (index : Int) (test : Int) : M Int :=
  (((getI table.costs test).bind fun x3 => (getI lefts index).bind fun x6 => mulM x3 x6).bind fun x7 => (((shlM (1 : Int) test).bind fun x12 => M.ok (index + x12)).bind fun x13 => getI least x13).bind fun x14 => M.ok (x7 + x14)).bind M.ok
theorem ok_price_t (k : Nat) (table : Table) (lefts : (List Int)) (least : (List Int)) (index : Int) (test : Int) {C : CH} {C0 : CH → Prop} (hC : C0 C) : Im (runFD (cbN T (k + 1)) F_price_6314 [.p (eTable table), .p ((eL P.int) lefts), .p ((eT P.int) least), .p (P.int index), .p (P.int test)] C) C0 (g_price_t table lefts least index test) (fun r => (RV.v (P.int r), C)) := by
  refine fd_im (σ := [some (.p (eTable table)), some (.p ((eL P.int) lefts)), some (.p ((eT P.int) least)), some (.p (P.int index)), some (.p (P.int test))]) rfl ?_
  apply jx (K := sF C0 (fun r : Int => (RV.v (P.int r), C)))
  · have hh1 := ev_var (cb := cbN T (k + 1)) (σ := [some (.p (eTable table)), some (.p ((eL P.int) lefts)), some (.p ((eT P.int) least)), some (.p (P.int index)), some (.p (P.int test))]) (C := C) (C0 := C0) (i := 0) eTable table rfl
    have hh2 := ev_att (f := "costs") (enc := (eT P.int)) (g := fun z : Table => z.costs) hh1 (fun _ => att_Table_costs _ _) (fun _ => rfl)
    have hh3 := ev_var (cb := cbN T (k + 1)) (σ := [some (.p (eTable table)), some (.p ((eL P.int) lefts)), some (.p ((eT P.int) least)), some (.p (P.int index)), some (.p (P.int test))]) (C := C) (C0 := C0) (i := 4) P.int test rfl
    have hh4 := ev_sub hh2 (fun _ => hh3) (fun _ _ => rfl) (fun _ _ => rfl) (fun x1 x2 => (sb_tup (C := C) (e := P.int)))
    have hh5 := ev_var (cb := cbN T (k + 1)) (σ := [some (.p (eTable table)), some (.p ((eL P.int) lefts)), some (.p ((eT P.int) least)), some (.p (P.int index)), some (.p (P.int test))]) (C := C) (C0 := C0) (i := 1) (eL P.int) lefts rfl
    have hh6 := ev_var (cb := cbN T (k + 1)) (σ := [some (.p (eTable table)), some (.p ((eL P.int) lefts)), some (.p ((eT P.int) least)), some (.p (P.int index)), some (.p (P.int test))]) (C := C) (C0 := C0) (i := 3) P.int index rfl
    have hh7 := ev_sub hh5 (fun _ => hh6) (fun _ _ => rfl) (fun _ _ => rfl) (fun x4 x5 => (sb_lst (C := C) (e := P.int)))
    have hh8 := ev_bin (op := .mul) hh4 (fun _ => hh7) (fun _ _ => rfl) (fun _ _ => rfl) (fun x3 x6 => (bi_mul (C := C)))
    have hh9 := ev_var (cb := cbN T (k + 1)) (σ := [some (.p (eTable table)), some (.p ((eL P.int) lefts)), some (.p ((eT P.int) least)), some (.p (P.int index)), some (.p (P.int test))]) (C := C) (C0 := C0) (i := 2) (eT P.int) least rfl
    have hh10 := ev_var (cb := cbN T (k + 1)) (σ := [some (.p (eTable table)), some (.p ((eL P.int) lefts)), some (.p ((eT P.int) least)), some (.p (P.int index)), some (.p (P.int test))]) (C := C) (C0 := C0) (i := 3) P.int index rfl
    have hh11 := ev_con (cb := cbN T (k + 1)) (σ := [some (.p (eTable table)), some (.p ((eL P.int) lefts)), some (.p ((eT P.int) least)), some (.p (P.int index)), some (.p (P.int test))]) (C := C) (C0 := C0) P.int 1
    have hh12 := ev_var (cb := cbN T (k + 1)) (σ := [some (.p (eTable table)), some (.p ((eL P.int) lefts)), some (.p ((eT P.int) least)), some (.p (P.int index)), some (.p (P.int test))]) (C := C) (C0 := C0) (i := 4) P.int test rfl
    have hh13 := ev_bin (op := .shl) hh11 (fun _ => hh12) (fun _ _ => rfl) (fun _ _ => rfl) (fun x10 x11 => (bi_shl (C := C)))
    have hh14 := ev_bin (op := .add) hh10 (fun _ => hh13) (fun _ _ => rfl) (fun _ _ => rfl) (fun x9 x12 => (bi_add (C := C)))
    have hh15 := ev_sub hh9 (fun _ => hh14) (fun _ _ => rfl) (fun _ _ => rfl) (fun x8 x13 => (sb_tup (C := C) (e := P.int)))
    have hh16 := ev_bin (op := .add) hh8 (fun _ => hh15) (fun _ _ => rfl) (fun _ _ => rfl) (fun x7 x14 => (bi_add (C := C)))
    exact st_ret hh16 nvw
  · simp -implicitDefEqProofs only [g_price_t, sF_bind, sF_no, sF_rt, sF_seq, sL_bind, sL_no, sL_rt, sL_seq, sN_bind, sN_no, sN_seq, sI_bind, sI_no, compM_pure, compM_all, M.bind_ok, M.bind_assoc, M.lo_ok, M.lo_assoc]
theorem okc_price_t (k : Nat) (table : Table) (lefts : (List Int)) (least : (List Int)) (index : Int) (test : Int) {C : CH} {C0 : CH → Prop} (hC : C0 C) : Im ((cbN T (k + 2)).call "price" [.p (eTable table), .p ((eL P.int) lefts), .p ((eT P.int) least), .p (P.int index), .p (P.int test)] C) C0 (g_price_t table lefts least index test) (fun r => (RV.v (P.int r), C)) := by
  rw [cl_fn tf_price]
  exact ok_price_t k table lefts least index test hC
/-- check_few -/
def g_check_few (table : Table) : M Unit :=
  if (decide ((8 : Int) < (table.costs.length : Int))) then
    M.no
  else
    M.ok ()
theorem ok_check_few (k : Nat) (table : Table) {C : CH} {C0 : CH → Prop} (hC : C0 C) : Im (runFD (cbN T (k + 1)) F_check_few_102a [.p (eTable table)] C) C0 (g_check_few table) (fun r => (RV.v (eN r), C)) := by
  refine fd_im (σ := [some (.p (eTable table))]) rfl ?_
  apply jx (K := sF C0 (fun r : Unit => (RV.v (eN r), C)))
  · have hh1 := ev_var (cb := cbN T (k + 1)) (σ := [some (.p (eTable table))]) (C := C) (C0 := C0) (i := 0) eTable table rfl
    have hh2 := ev_att (f := "costs") (enc := (eT P.int)) (g := fun z : Table => z.costs) hh1 (fun _ => att_Table_costs _ _) (fun _ => rfl)
    have hh3 := es_nil (cb := cbN T (k + 1)) (σ := [some (.p (eTable table))]) (C := C) (C0 := C0)
    have hh4 := es_cons hh2 (fun _ => hh3)
    have hh5 := ev_bi (f := .len) hh4 (fun _ => rfl) (fun g2 => (bc_lenT (C := C) (e := P.int)))
    have hh6 := ev_glo (cb := cbN T (k + 1)) (σ := [some (.p (eTable table))]) (C := C) (C0 := C0) P.int 8 (con_MOST_TESTS_floors _)
    have hh7 := ev_cmp (op := .gt) hh5 (fun _ => hh6) (fun _ _ => rfl) (fun _ _ => rfl) (fun x3 x4 => (im_cmp (C := C) cp_gt)) (fun _ _ => rfl)
    apply st_ifs (σ := [some (.p (eTable table))]) (C := C) hh7 (fun _ => rfl)
    · intro c5
      exact st_nev
    · intro c5
      exact en_f (r := ()) rfl
  · simp -implicitDefEqProofs only [g_check_few, sF_bind, sF_no, sF_rt, sF_seq, sL_bind, sL_no, sL_rt, sL_seq, sN_bind, sN_no, sN_seq, sI_bind, sI_no, compM_pure, compM_all, M.bind_ok, M.bind_assoc, M.lo_ok, M.lo_assoc]
theorem okc_check_few (k : Nat) (table : Table) {C : CH} {C0 : CH → Prop} (hC : C0 C) : Im ((cbN T (k + 2)).call "check_few" [.p (eTable table)] C) C0 (g_check_few table) (fun r => (RV.v (eN r), C)) := by
  rw [cl_fn tf_check_few]
  exact ok_check_few k table hC
/-- check_costs -/
def g_check_costs (costs : (List Int)) : M (List Int) :=
  if (decide ((costs.length : Int) = (0 : Int))) then
    M.no
  else
    if (decide ((12 : Int) < (costs.length : Int))) then
      M.no
    else
      (loopM (fun y14 s13 =>
        if (!(decide ((1 : Int) ≤ y14) && decide (y14 ≤ (1000 : Int)))) then
          M.no
        else
          M.ok ()) costs ()).bind fun s16 =>
      M.ok costs
theorem ok_check_costs (k : Nat) (costs : (List Int)) {C : CH} {C0 : CH → Prop} (hC : C0 C) : Im (runFD (cbN T (k + 1)) F_check_costs_5016 [.p ((eL P.int) costs)] C) C0 (g_check_costs costs) (fun r => (RV.v ((eT P.int) r), C)) := by
  refine fd_im (σ := [some (.p ((eL P.int) costs)), none]) rfl ?_
  apply jx (K := sF C0 (fun r : (List Int) => (RV.v ((eT P.int) r), C)))
  · have hh1 := ev_var (cb := cbN T (k + 1)) (σ := [some (.p ((eL P.int) costs)), none]) (C := C) (C0 := C0) (i := 0) (eL P.int) costs rfl
    have hh2 := es_nil (cb := cbN T (k + 1)) (σ := [some (.p ((eL P.int) costs)), none]) (C := C) (C0 := C0)
    have hh3 := es_cons hh1 (fun _ => hh2)
    have hh4 := ev_bi (f := .len) hh3 (fun _ => rfl) (fun g2 => (bc_len (C := C) (e := P.int)))
    have hh5 := ev_con (cb := cbN T (k + 1)) (σ := [some (.p ((eL P.int) costs)), none]) (C := C) (C0 := C0) P.int 0
    have hh6 := ev_cmp (op := .eq) hh4 (fun _ => hh5) (fun _ _ => rfl) (fun _ _ => rfl) (fun x3 x4 => (im_cmp (C := C) (cp_eq (a := x3) (b := x4) de_int (by decide)))) (fun _ _ => rfl)
    apply st_ifs (σ := [some (.p ((eL P.int) costs)), none]) (C := C) hh6 (fun _ => rfl)
    · intro c5
      exact st_nev
    · intro c5
      have hh7 := ev_var (cb := cbN T (k + 1)) (σ := [some (.p ((eL P.int) costs)), none]) (C := C) (C0 := C0) (i := 0) (eL P.int) costs rfl
      have hh8 := es_nil (cb := cbN T (k + 1)) (σ := [some (.p ((eL P.int) costs)), none]) (C := C) (C0 := C0)
      have hh9 := es_cons hh7 (fun _ => hh8)
      have hh10 := ev_bi (f := .len) hh9 (fun _ => rfl) (fun g7 => (bc_len (C := C) (e := P.int)))
      have hh11 := ev_glo (cb := cbN T (k + 1)) (σ := [some (.p ((eL P.int) costs)), none]) (C := C) (C0 := C0) P.int 12 (con_MOST_TESTS_tables _)
      have hh12 := ev_cmp (op := .gt) hh10 (fun _ => hh11) (fun _ _ => rfl) (fun _ _ => rfl) (fun x8 x9 => (im_cmp (C := C) cp_gt)) (fun _ _ => rfl)
      apply st_ifs (σ := [some (.p ((eL P.int) costs)), none]) (C := C) hh12 (fun _ => rfl)
      · intro c10
        exact st_nev
      · intro c10
        have hh13 := ev_var (cb := cbN T (k + 1)) (σ := [some (.p ((eL P.int) costs)), none]) (C := C) (C0 := C0) (i := 0) (eL P.int) costs rfl
        have hh14 := es_nil (cb := cbN T (k + 1)) (σ := [some (.p ((eL P.int) costs)), none]) (C := C) (C0 := C0)
        have hh15 := es_cons hh13 (fun _ => hh14)
        apply st_forM (σ := [some (.p ((eL P.int) costs)), none]) (C := C) (s0 := fun g12 => ()) (ex := P.int) (ρ := fun s13 : Unit => ([some (.p ((eL P.int) costs)), none], C)) hh15 (fun g12 => (itt_lst (e := P.int))) (fun _ => rfl) (fun _ _ => rfl)
        · intro y14 s13
          have hh16 := ev_con (cb := cbN T (k + 1)) (σ := [some (.p ((eL P.int) costs)), some (.p (P.int y14))]) (C := C) (C0 := C0) P.int 1
          have hh17 := ev_var (cb := cbN T (k + 1)) (σ := [some (.p ((eL P.int) costs)), some (.p (P.int y14))]) (C := C) (C0 := C0) (i := 1) P.int y14 rfl
          have hh18 := ev_glo (cb := cbN T (k + 1)) (σ := [some (.p ((eL P.int) costs)), some (.p (P.int y14))]) (C := C) (C0 := C0) P.int 1000 (con_LARGEST _)
          have hh19 := ev_chn (o1 := .le) (o2 := .le) (u := (1 : Int)) (v := y14) (w := (1000 : Int)) (e1 := P.int) (e2 := P.int) (e3 := P.int) hh16 hh17 hh18 rfl cp_le cp_le
          have hh20 := ev_not hh19 (fun _ => rfl)
          apply st_ifs (σ := [some (.p ((eL P.int) costs)), some (.p (P.int y14))]) (C := C) hh20 (fun _ => rfl)
          · intro c15
            exact st_nev
          · intro c15
            apply st_drop (σ := [some (.p ((eL P.int) costs)), some (.p (P.int y14))]) (C := C) 
            exact en_n (s := ()) rfl
        · intro s16
          have hh21 := ev_var (cb := cbN T (k + 1)) (σ := [some (.p ((eL P.int) costs)), none]) (C := C) (C0 := C0) (i := 0) (eL P.int) costs rfl
          have hh22 := es_nil (cb := cbN T (k + 1)) (σ := [some (.p ((eL P.int) costs)), none]) (C := C) (C0 := C0)
          have hh23 := es_cons hh21 (fun _ => hh22)
          have hh24 := ev_bi (f := .tuple) hh23 (fun _ => rfl) (fun g18 => (bc_tuple (C := C) (e := P.int)))
          exact st_ret hh24 nvw
  · simp -implicitDefEqProofs only [g_check_costs, sF_bind, sF_no, sF_rt, sF_seq, sL_bind, sL_no, sL_rt, sL_seq, sN_bind, sN_no, sN_seq, sI_bind, sI_no, compM_pure, compM_all, M.bind_ok, M.bind_assoc, M.lo_ok, M.lo_assoc]
theorem okc_check_costs (k : Nat) (costs : (List Int)) {C : CH} {C0 : CH → Prop} (hC : C0 C) : Im ((cbN T (k + 2)).call "check_costs" [.p ((eL P.int) costs)] C) C0 (g_check_costs costs) (fun r => (RV.v ((eT P.int) r), C)) := by
  rw [cl_fn tf_check_costs]
  exact ok_check_costs k costs hC
/-- check_row -/
def g_check_row (row : (Int × (List Int))) (many : Int) : M (Int × (List Int)) :=
  if (!(decide ((1 : Int) ≤ row.1) && decide (row.1 ≤ (1000 : Int)))) then
    M.no
  else
    let v3 : (List Int) := ([] : (List Int))
    (loopM (fun y7 s6 =>
      if (!(decide ((0 : Int) ≤ y7) && decide (y7 < many))) then
        M.no
      else
        if (decide (y7 ∈ s6)) then
          M.no
        else
          (appM s6 y7).bind fun l14 =>
          M.ok l14) row.2 v3).bind fun s15 =>
    ((((((rngM 0 many).bind fun l22 => M.ok ((l22.filter fun y19 => decide (y19 ∈ s15)).map fun y19 => y19)).bind fun x23 => M.ok (x23, ())).bind fun g24 => M.ok g24.1).bind fun x25 => M.ok (row.1, x25, ())).bind fun g26 => M.ok (g26.1, g26.2.1)).bind M.ok
theorem ok_check_row (k : Nat) (row : (Int × (List Int))) (many : Int) {C : CH} {C0 : CH → Prop} (hC : C0 C) : Im (runFD (cbN T (k + 1)) F_check_row_4529 [.p ((e2 P.int (eL P.int)) row), .p (P.int many)] C) C0 (g_check_row row many) (fun r => (RV.v ((e2 P.int (eT P.int)) r), C)) := by
  refine fd_im (σ := [some (.p ((e2 P.int (eL P.int)) row)), some (.p (P.int many)), none, none, none, none]) rfl ?_
  apply jx (K := sF C0 (fun r : (Int × (List Int)) => (RV.v ((e2 P.int (eT P.int)) r), C)))
  · have hh1 := ev_var (cb := cbN T (k + 1)) (σ := [some (.p ((e2 P.int (eL P.int)) row)), some (.p (P.int many)), none, none, none, none]) (C := C) (C0 := C0) (i := 0) (e2 P.int (eL P.int)) row rfl
    apply st_unp (σ := [some (.p ((e2 P.int (eL P.int)) row)), some (.p (P.int many)), none, none, none, none]) (C := C) hh1 (fun _ => rfl) (fun _ => rfl)
    intro v1
    have hh2 := ev_con (cb := cbN T (k + 1)) (σ := [some (.p ((e2 P.int (eL P.int)) row)), some (.p (P.int many)), none, none, some (.p (P.int v1.1)), some (.p ((eL P.int) v1.2))]) (C := C) (C0 := C0) P.int 1
    have hh3 := ev_var (cb := cbN T (k + 1)) (σ := [some (.p ((e2 P.int (eL P.int)) row)), some (.p (P.int many)), none, none, some (.p (P.int v1.1)), some (.p ((eL P.int) v1.2))]) (C := C) (C0 := C0) (i := 4) P.int v1.1 rfl
    have hh4 := ev_glo (cb := cbN T (k + 1)) (σ := [some (.p ((e2 P.int (eL P.int)) row)), some (.p (P.int many)), none, none, some (.p (P.int v1.1)), some (.p ((eL P.int) v1.2))]) (C := C) (C0 := C0) P.int 1000 (con_LARGEST _)
    have hh5 := ev_chn (o1 := .le) (o2 := .le) (u := (1 : Int)) (v := v1.1) (w := (1000 : Int)) (e1 := P.int) (e2 := P.int) (e3 := P.int) hh2 hh3 hh4 rfl cp_le cp_le
    have hh6 := ev_not hh5 (fun _ => rfl)
    apply st_ifs (σ := [some (.p ((e2 P.int (eL P.int)) row)), some (.p (P.int many)), none, none, some (.p (P.int v1.1)), some (.p ((eL P.int) v1.2))]) (C := C) hh6 (fun _ => rfl)
    · intro c2
      exact st_nev
    · intro c2
      have hh7 := es_nil (cb := cbN T (k + 1)) (σ := [some (.p ((e2 P.int (eL P.int)) row)), some (.p (P.int many)), none, none, some (.p (P.int v1.1)), some (.p ((eL P.int) v1.2))]) (C := C) (C0 := C0)
      have hh8 := ev_lst hh7 (fun _ => rfl) (fun _ => rfl)
      have hh9 := Im.re (g := fun _ => ([] : (List Int))) (η' := fun l : (List Int) => (RV.fr ((List.map P.int) l), C)) hh8 (fun _ => rfl)
      apply st_own (σ := [some (.p ((e2 P.int (eL P.int)) row)), some (.p (P.int many)), none, none, some (.p (P.int v1.1)), some (.p ((eL P.int) v1.2))]) (C := C) hh9 (fun _ => rfl)
      intro v3
      have hh10 := ev_var (cb := cbN T (k + 1)) (σ := [some (.p ((e2 P.int (eL P.int)) row)), some (.p (P.int many)), some (.own ((List.map P.int) v3)), none, some (.p (P.int v1.1)), some (.p ((eL P.int) v1.2))]) (C := C) (C0 := C0) (i := 5) (eL P.int) v1.2 rfl
      have hh11 := es_nil (cb := cbN T (k + 1)) (σ := [some (.p ((e2 P.int (eL P.int)) row)), some (.p (P.int many)), some (.own ((List.map P.int) v3)), none, some (.p (P.int v1.1)), some (.p ((eL P.int) v1.2))]) (C := C) (C0 := C0)
      have hh12 := es_cons hh10 (fun _ => hh11)
      apply st_forM (σ := [some (.p ((e2 P.int (eL P.int)) row)), some (.p (P.int many)), some (.own ((List.map P.int) v3)), none, some (.p (P.int v1.1)), some (.p ((eL P.int) v1.2))]) (C := C) (s0 := fun g5 => v3) (ex := P.int) (ρ := fun s6 : (List Int) => ([some (.p ((e2 P.int (eL P.int)) row)), some (.p (P.int many)), some (.own ((List.map P.int) s6)), none, some (.p (P.int v1.1)), some (.p ((eL P.int) v1.2))], C)) hh12 (fun g5 => (itt_lst (e := P.int))) (fun _ => rfl) (fun _ _ => rfl)
      · intro y7 s6
        have hh13 := ev_con (cb := cbN T (k + 1)) (σ := [some (.p ((e2 P.int (eL P.int)) row)), some (.p (P.int many)), some (.own ((List.map P.int) s6)), some (.p (P.int y7)), some (.p (P.int v1.1)), some (.p ((eL P.int) v1.2))]) (C := C) (C0 := C0) P.int 0
        have hh14 := ev_var (cb := cbN T (k + 1)) (σ := [some (.p ((e2 P.int (eL P.int)) row)), some (.p (P.int many)), some (.own ((List.map P.int) s6)), some (.p (P.int y7)), some (.p (P.int v1.1)), some (.p ((eL P.int) v1.2))]) (C := C) (C0 := C0) (i := 3) P.int y7 rfl
        have hh15 := ev_var (cb := cbN T (k + 1)) (σ := [some (.p ((e2 P.int (eL P.int)) row)), some (.p (P.int many)), some (.own ((List.map P.int) s6)), some (.p (P.int y7)), some (.p (P.int v1.1)), some (.p ((eL P.int) v1.2))]) (C := C) (C0 := C0) (i := 1) P.int many rfl
        have hh16 := ev_chn (o1 := .le) (o2 := .lt) (u := (0 : Int)) (v := y7) (w := many) (e1 := P.int) (e2 := P.int) (e3 := P.int) hh13 hh14 hh15 rfl cp_le cp_lt
        have hh17 := ev_not hh16 (fun _ => rfl)
        apply st_ifs (σ := [some (.p ((e2 P.int (eL P.int)) row)), some (.p (P.int many)), some (.own ((List.map P.int) s6)), some (.p (P.int y7)), some (.p (P.int v1.1)), some (.p ((eL P.int) v1.2))]) (C := C) hh17 (fun _ => rfl)
        · intro c8
          exact st_nev
        · intro c8
          have hh18 := ev_var (cb := cbN T (k + 1)) (σ := [some (.p ((e2 P.int (eL P.int)) row)), some (.p (P.int many)), some (.own ((List.map P.int) s6)), some (.p (P.int y7)), some (.p (P.int v1.1)), some (.p ((eL P.int) v1.2))]) (C := C) (C0 := C0) (i := 3) P.int y7 rfl
          have hh19 := ev_own (cb := cbN T (k + 1)) (σ := [some (.p ((e2 P.int (eL P.int)) row)), some (.p (P.int many)), some (.own ((List.map P.int) s6)), some (.p (P.int y7)), some (.p (P.int v1.1)), some (.p ((eL P.int) v1.2))]) (C := C) (C0 := C0) (i := 2) (List.map P.int) s6 rfl
          have hh20 := ev_cmp (op := .isin) hh18 (fun _ => hh19) (fun _ _ => rfl) (fun _ _ => rfl) (fun x9 x10 => (im_cmp (C := C) (cp_in fe_int))) (fun _ _ => rfl)
          apply st_ifs (σ := [some (.p ((e2 P.int (eL P.int)) row)), some (.p (P.int many)), some (.own ((List.map P.int) s6)), some (.p (P.int y7)), some (.p (P.int v1.1)), some (.p ((eL P.int) v1.2))]) (C := C) hh20 (fun _ => rfl)
          · intro c11
            exact st_nev
          · intro c11
            have hh21 := ev_var (cb := cbN T (k + 1)) (σ := [some (.p ((e2 P.int (eL P.int)) row)), some (.p (P.int many)), some (.own ((List.map P.int) s6)), some (.p (P.int y7)), some (.p (P.int v1.1)), some (.p ((eL P.int) v1.2))]) (C := C) (C0 := C0) (i := 3) P.int y7 rfl
            have hh22 := es_nil (cb := cbN T (k + 1)) (σ := [some (.p ((e2 P.int (eL P.int)) row)), some (.p (P.int many)), some (.own ((List.map P.int) s6)), some (.p (P.int y7)), some (.p (P.int v1.1)), some (.p ((eL P.int) v1.2))]) (C := C) (C0 := C0)
            have hh23 := es_cons hh21 (fun _ => hh22)
            apply st_lm (σ := [some (.p ((e2 P.int (eL P.int)) row)), some (.p (P.int many)), some (.own ((List.map P.int) s6)), some (.p (P.int y7)), some (.p (P.int v1.1)), some (.p ((eL P.int) v1.2))]) (C := C) (out := (List.map P.int)) rfl hh23 (fun _ => rfl) (fun g13 => (lmm_append (e := P.int)))
            intro g13 l14
            apply st_drop (σ := [some (.p ((e2 P.int (eL P.int)) row)), some (.p (P.int many)), some (.own ((List.map P.int) l14)), some (.p (P.int y7)), some (.p (P.int v1.1)), some (.p ((eL P.int) v1.2))]) (C := C) 
            exact en_n (s := l14) rfl
      · intro s15
        have hh24 := ev_var (cb := cbN T (k + 1)) (σ := [some (.p ((e2 P.int (eL P.int)) row)), some (.p (P.int many)), some (.own ((List.map P.int) s15)), none, some (.p (P.int v1.1)), some (.p ((eL P.int) v1.2))]) (C := C) (C0 := C0) (i := 4) P.int v1.1 rfl
        have hh25 := ev_var (cb := cbN T (k + 1)) (σ := [some (.p ((e2 P.int (eL P.int)) row)), some (.p (P.int many)), some (.own ((List.map P.int) s15)), none, some (.p (P.int v1.1)), some (.p ((eL P.int) v1.2))]) (C := C) (C0 := C0) (i := 1) P.int many rfl
        have hh26 := es_nil (cb := cbN T (k + 1)) (σ := [some (.p ((e2 P.int (eL P.int)) row)), some (.p (P.int many)), some (.own ((List.map P.int) s15)), none, some (.p (P.int v1.1)), some (.p ((eL P.int) v1.2))]) (C := C) (C0 := C0)
        have hh27 := es_cons hh25 (fun _ => hh26)
        have hh28 := fun (y19 : Int) => ev_var (cb := cbN T (k + 1)) (σ := [some (.p ((e2 P.int (eL P.int)) row)), some (.p (P.int many)), some (.own ((List.map P.int) s15)), some (.p (P.int y19)), some (.p (P.int v1.1)), some (.p ((eL P.int) v1.2))]) (C := C) (C0 := C0) (i := 3) P.int y19 rfl
        have hh29 := fun (y19 : Int) => ev_var (cb := cbN T (k + 1)) (σ := [some (.p ((e2 P.int (eL P.int)) row)), some (.p (P.int many)), some (.own ((List.map P.int) s15)), some (.p (P.int y19)), some (.p (P.int v1.1)), some (.p ((eL P.int) v1.2))]) (C := C) (C0 := C0) (i := 3) P.int y19 rfl
        have hh30 := fun (y19 : Int) => ev_own (cb := cbN T (k + 1)) (σ := [some (.p ((e2 P.int (eL P.int)) row)), some (.p (P.int many)), some (.own ((List.map P.int) s15)), some (.p (P.int y19)), some (.p (P.int v1.1)), some (.p ((eL P.int) v1.2))]) (C := C) (C0 := C0) (i := 2) (List.map P.int) s15 rfl
        have hh31 := fun (y19 : Int) => ev_cmp (op := .isin) (hh29 y19) (fun _ => (hh30 y19)) (fun _ _ => rfl) (fun _ _ => rfl) (fun x20 x21 => (im_cmp (C := C) (cp_in fe_int))) (fun _ _ => rfl)
        have hh32 := fun (y19 : Int) => an_one (hh31 y19)
        have hh33 := ev_compP (X := Int) (t := (.nm 3)) (kk := .rng1) (ez := P.int) (σ' := fun y19 => [some (.p ((e2 P.int (eL P.int)) row)), some (.p (P.int many)), some (.own ((List.map P.int) s15)), some (.p (P.int y19)), some (.p (P.int v1.1)), some (.p ((eL P.int) v1.2))]) (g := fun y19 => decide (y19 ∈ s15)) (f := fun y19 => y19) hh27 (fun g18 => itt_rng1) (fun _ => rfl) (fun _ => rfl) (fun y19 => (hh32 y19)) (fun y19 => (hh28 y19)) (fun _ => rfl) (fun _ => rfl)
        have hh34 := es_nil (cb := cbN T (k + 1)) (σ := [some (.p ((e2 P.int (eL P.int)) row)), some (.p (P.int many)), some (.own ((List.map P.int) s15)), none, some (.p (P.int v1.1)), some (.p ((eL P.int) v1.2))]) (C := C) (C0 := C0)
        have hh35 := es_cons hh33 (fun _ => hh34)
        have hh36 := ev_bi (f := .tuple) hh35 (fun _ => rfl) (fun g24 => (bc_tuple (C := C) (e := P.int)))
        have hh37 := es_nil (cb := cbN T (k + 1)) (σ := [some (.p ((e2 P.int (eL P.int)) row)), some (.p (P.int many)), some (.own ((List.map P.int) s15)), none, some (.p (P.int v1.1)), some (.p ((eL P.int) v1.2))]) (C := C) (C0 := C0)
        have hh38 := es_cons hh36 (fun _ => hh37)
        have hh39 := es_cons hh24 (fun _ => hh38)
        have hh40 := ev_tup hh39 (fun _ => rfl) (fun _ => rfl)
        have hh41 := Im.re (g := fun g26 => (g26.1, g26.2.1)) (η' := fun p : (Int × (List Int)) => (RV.v ((e2 P.int (eT P.int)) p), C)) hh40 (fun _ => rfl)
        exact st_ret hh41 nvw
  · simp -implicitDefEqProofs only [g_check_row, sF_bind, sF_no, sF_rt, sF_seq, sL_bind, sL_no, sL_rt, sL_seq, sN_bind, sN_no, sN_seq, sI_bind, sI_no, compM_pure, compM_all, M.bind_ok, M.bind_assoc, M.lo_ok, M.lo_assoc]
theorem okc_check_row (k : Nat) (row : (Int × (List Int))) (many : Int) {C : CH} {C0 : CH → Prop} (hC : C0 C) : Im ((cbN T (k + 2)).call "check_row" [.p ((e2 P.int (eL P.int)) row), .p (P.int many)] C) C0 (g_check_row row many) (fun r => (RV.v ((e2 P.int (eT P.int)) r), C)) := by
  rw [cl_fn tf_check_row]
  exact ok_check_row k row many hC
/-- _law_box -/
def g_law_box (script : (List Int)) : M ((List Int) × Int × Int × Int) :=
  M.ok ((cutI script none (some (63 : Int))), (0 : Int), (0 : Int), (7 : Int))
theorem ok_law_box (k : Nat) (script : (List Int)) {C : CH} {C0 : CH → Prop} (hC : C0 C) : Im (runFD (cbN T (k + 1)) F_law_box_eba1 [.p ((eR P.int) script)] C) C0 (g_law_box script) (fun r => (RV.fr ((k4 (eL P.int) P.int P.int P.int) r), C)) := by
  refine fd_im (σ := [some (.p ((eR P.int) script))]) rfl ?_
  apply jx (K := sF C0 (fun r : ((List Int) × Int × Int × Int) => (RV.fr ((k4 (eL P.int) P.int P.int P.int) r), C)))
  · have hh1 := ev_var (cb := cbN T (k + 1)) (σ := [some (.p ((eR P.int) script))]) (C := C) (C0 := C0) (i := 0) (eR P.int) script rfl
    have hh2 := es_nil (cb := cbN T (k + 1)) (σ := [some (.p ((eR P.int) script))]) (C := C) (C0 := C0)
    have hh3 := ev_con (cb := cbN T (k + 1)) (σ := [some (.p ((eR P.int) script))]) (C := C) (C0 := C0) P.int 63
    have hh4 := es_nil (cb := cbN T (k + 1)) (σ := [some (.p ((eR P.int) script))]) (C := C) (C0 := C0)
    have hh5 := es_cons hh3 (fun _ => hh4)
    have hh6 := ev_slc (l2 := fun x1 x3 => none) (l3 := fun x1 x3 x4 => (some x4.1)) hh1 (fun _ => hh2) (fun _ _ => rfl) (fun _ _ => hh5) (fun _ _ _ => rfl) (fun _ _ _ => rfl) (fun x1 x3 x4 => (sl_ro (C := C) (e := P.int)))
    have hh7 := es_nil (cb := cbN T (k + 1)) (σ := [some (.p ((eR P.int) script))]) (C := C) (C0 := C0)
    have hh8 := es_cons hh6 (fun _ => hh7)
    have hh9 := ev_bi (f := .list) hh8 (fun _ => rfl) (fun g6 => (bc_list (C := C) (e := P.int)))
    have hh10 := ev_con (cb := cbN T (k + 1)) (σ := [some (.p ((eR P.int) script))]) (C := C) (C0 := C0) P.int 0
    have hh11 := ev_con (cb := cbN T (k + 1)) (σ := [some (.p ((eR P.int) script))]) (C := C) (C0 := C0) P.int 0
    have hh12 := ev_con (cb := cbN T (k + 1)) (σ := [some (.p ((eR P.int) script))]) (C := C) (C0 := C0) P.int 7
    have hh13 := es_nil (cb := cbN T (k + 1)) (σ := [some (.p ((eR P.int) script))]) (C := C) (C0 := C0)
    have hh14 := es_cons hh12 (fun _ => hh13)
    have hh15 := es_cons hh11 (fun _ => hh14)
    have hh16 := es_cons hh10 (fun _ => hh15)
    have hh17 := es_cons hh9 (fun _ => hh16)
    have hh18 := ev_lst hh17 (fun _ => rfl) (fun _ => rfl)
    have hh19 := Im.re (g := fun g11 => (g11.1, g11.2.1, g11.2.2.1, g11.2.2.2.1)) (η' := fun p : ((List Int) × Int × Int × Int) => (RV.fr ((k4 (eL P.int) P.int P.int P.int) p), C)) hh18 (fun _ => rfl)
    exact st_ret hh19 nvf
  · simp -implicitDefEqProofs only [g_law_box, sF_bind, sF_no, sF_rt, sF_seq, sL_bind, sL_no, sL_rt, sL_seq, sN_bind, sN_no, sN_seq, sI_bind, sI_no, compM_pure, compM_all, M.bind_ok, M.bind_assoc, M.lo_ok, M.lo_assoc]
theorem okc_law_box (k : Nat) (script : (List Int)) {C : CH} {C0 : CH → Prop} (hC : C0 C) : Im ((cbN T (k + 2)).call "_law_box" [.p ((eR P.int) script)] C) C0 (g_law_box script) (fun r => (RV.fr ((k4 (eL P.int) P.int P.int P.int) r), C)) := by
  rw [cl_fn tf_law_box]
  exact ok_law_box k script hC
/-- _law_draw -/
def g_law_draw (b : ((List Int) × Int × Int × Int)) (limit : Int) : M (Int × ((List Int) × Int × Int × Int)) :=
  if (decide (b.2.2.1 = (0 : Int))) then
    (if (decide (b.2.1 < (b.1.length : Int))) then
      (((((getI b.1 b.2.1).bind fun x17 => M.ok (x17, ())).bind fun g18 => M.ok g18.1).bind fun x19 => M.ok (x19, ())).bind fun g20 => M.ok (absI g20.1)).bind fun v21 =>
      M.ok v21
    else
      M.ok (0 : Int)).bind fun s22 =>
    let v26 : Int := b.2.1 + (1 : Int)
    ((powM (10 : Int) (18 : Int)).bind fun x30 => M.ok (decide (s22 < x30))).bind fun c31 =>
    if c31 then
      ((((mulM ((b.1, v26, b.2.2.1, b.2.2.2).2.2.2) (48271 : Int)).bind fun x37 => ((modM s22 (2147483647 : Int)).bind fun x42 => mulM x42 (69621 : Int)).bind fun x44 => M.ok (x37 + x44)).bind fun x45 => (mulM ((b.1, v26, b.2.2.1, b.2.2.2).2.1) (8191 : Int)).bind fun x51 => M.ok (x45 + x51)).bind fun x52 => modM x52 (2147483647 : Int)).bind fun v54 =>
      ((((mulM (((b.1, v26, b.2.2.1, b.2.2.2).1, (b.1, v26, b.2.2.1, b.2.2.2).2.1, (b.1, v26, b.2.2.1, b.2.2.2).2.2.1, v54).2.2.2) (16807 : Int)).bind fun x60 => (mulM (((b.1, v26, b.2.2.1, b.2.2.2).1, (b.1, v26, b.2.2.1, b.2.2.2).2.1, (b.1, v26, b.2.2.1, b.2.2.2).2.2.1, v54).2.1) (((b.1, v26, b.2.2.1, b.2.2.2).1, (b.1, v26, b.2.2.1, b.2.2.2).2.1, (b.1, v26, b.2.2.1, b.2.2.2).2.2.1, v54).2.1)).bind fun x69 => M.ok (x60 + x69)).bind fun x70 => fdivM x70 (8192 : Int)).bind fun x72 => modM x72 limit).bind fun x74 => M.ok (x74, ((b.1, v26, b.2.2.1, b.2.2.2).1, (b.1, v26, b.2.2.1, b.2.2.2).2.1, (b.1, v26, b.2.2.1, b.2.2.2).2.2.1, v54))
    else
      let v75 : Int := s22
      (modM (((b.1, v26, b.2.2.1, b.2.2.2).1, (b.1, v26, b.2.2.1, b.2.2.2).2.1, v75, (b.1, v26, b.2.2.1, b.2.2.2).2.2.2).2.2.1) limit).bind fun v81 =>
      (fdivM (((b.1, v26, b.2.2.1, b.2.2.2).1, (b.1, v26, b.2.2.1, b.2.2.2).2.1, v75, (b.1, v26, b.2.2.1, b.2.2.2).2.2.2).2.2.1) limit).bind fun v85 =>
      M.ok (v81, (((b.1, v26, b.2.2.1, b.2.2.2).1, (b.1, v26, b.2.2.1, b.2.2.2).2.1, v75, (b.1, v26, b.2.2.1, b.2.2.2).2.2.2).1, ((b.1, v26, b.2.2.1, b.2.2.2).1, (b.1, v26, b.2.2.1, b.2.2.2).2.1, v75, (b.1, v26, b.2.2.1, b.2.2.2).2.2.2).2.1, v85, ((b.1, v26, b.2.2.1, b.2.2.2).1, (b.1, v26, b.2.2.1, b.2.2.2).2.1, v75, (b.1, v26, b.2.2.1, b.2.2.2).2.2.2).2.2.2))
  else
    (modM b.2.2.1 limit).bind fun v91 =>
    (fdivM b.2.2.1 limit).bind fun v95 =>
    M.ok (v91, (b.1, b.2.1, v95, b.2.2.2))
theorem ok_law_draw (k : Nat) (R : CH) (b : ((List Int) × Int × Int × Int)) (limit : Int) {C0 : CH → Prop} : Im (runFD (cbN T (k + 1)) F_law_draw_4bf9 [.cell 0, .p (P.int limit)] (kap R b)) C0 (g_law_draw b limit) (fun r => (RV.v (P.int r.1), kap R r.2)) := by
  refine fd_im (σ := [some (.cell 0), some (.p (P.int limit)), none, none]) rfl ?_
  apply jx (K := sF C0 (fun r : (Int × ((List Int) × Int × Int × Int)) => (RV.v (P.int r.1), kap R r.2)))
  · have hh1 := ev_cell (cb := cbN T (k + 1)) (σ := [some (.cell 0), some (.p (P.int limit)), none, none]) (C := (kap R b)) (C0 := C0) (i := 0) 0 rfl
    have hh2 := ev_subc (i := 2) hh1 (fun _ => rfl) (fun _ => im_ok (C := (kap R b)) P.int b.2.2.1 rfl)
    have hh3 := ev_con (cb := cbN T (k + 1)) (σ := [some (.cell 0), some (.p (P.int limit)), none, none]) (C := (kap R b)) (C0 := C0) P.int 0
    have hh4 := ev_cmp (op := .eq) hh2 (fun _ => hh3) (fun _ _ => rfl) (fun _ _ => rfl) (fun x2 x3 => (im_cmp (C := (kap R b)) (cp_eq (a := x2) (b := x3) de_int (by decide)))) (fun _ _ => rfl)
    apply st_ifs (σ := [some (.cell 0), some (.p (P.int limit)), none, none]) (C := (kap R b)) hh4 (fun _ => rfl)
    · intro c4
      have hh5 := ev_con (cb := cbN T (k + 1)) (σ := [some (.cell 0), some (.p (P.int limit)), none, none]) (C := (kap R b)) (C0 := C0) P.int 0
      apply st_set (σ := [some (.cell 0), some (.p (P.int limit)), none, none]) (C := (kap R b)) hh5 (fun _ => rfl)
      intro v5
      have hh6 := ev_cell (cb := cbN T (k + 1)) (σ := [some (.cell 0), some (.p (P.int limit)), none, some (.p (P.int v5))]) (C := (kap R b)) (C0 := C0) (i := 0) 0 rfl
      have hh7 := ev_subc (i := 1) hh6 (fun _ => rfl) (fun _ => im_ok (C := (kap R b)) P.int b.2.1 rfl)
      have hh8 := ev_cell (cb := cbN T (k + 1)) (σ := [some (.cell 0), some (.p (P.int limit)), none, some (.p (P.int v5))]) (C := (kap R b)) (C0 := C0) (i := 0) 0 rfl
      have hh9 := ev_subc (i := 0) hh8 (fun _ => rfl) (fun _ => im_ok (C := (kap R b)) (eL P.int) b.1 rfl)
      have hh10 := es_nil (cb := cbN T (k + 1)) (σ := [some (.cell 0), some (.p (P.int limit)), none, some (.p (P.int v5))]) (C := (kap R b)) (C0 := C0)
      have hh11 := es_cons hh9 (fun _ => hh10)
      have hh12 := ev_bi (f := .len) hh11 (fun _ => rfl) (fun g10 => (bc_len (C := (kap R b)) (e := P.int)))
      have hh13 := ev_cmp (op := .lt) hh7 (fun _ => hh12) (fun _ _ => rfl) (fun _ _ => rfl) (fun x7 x11 => (im_cmp (C := (kap R b)) cp_lt)) (fun _ _ => rfl)
      apply st_ifj (σ := [some (.cell 0), some (.p (P.int limit)), none, some (.p (P.int v5))]) (C := (kap R b)) (ρ := fun s22 : Int => ([some (.cell 0), some (.p (P.int limit)), none, some (.p (P.int s22))], (kap R b))) hh13 (fun _ => rfl)
      · intro c12
        have hh25 := ev_cell (cb := cbN T (k + 1)) (σ := [some (.cell 0), some (.p (P.int limit)), none, some (.p (P.int v5))]) (C := (kap R b)) (C0 := C0) (i := 0) 0 rfl
        have hh26 := ev_subc (i := 0) hh25 (fun _ => rfl) (fun _ => im_ok (C := (kap R b)) (eL P.int) b.1 rfl)
        have hh27 := ev_cell (cb := cbN T (k + 1)) (σ := [some (.cell 0), some (.p (P.int limit)), none, some (.p (P.int v5))]) (C := (kap R b)) (C0 := C0) (i := 0) 0 rfl
        have hh28 := ev_subc (i := 1) hh27 (fun _ => rfl) (fun _ => im_ok (C := (kap R b)) P.int b.2.1 rfl)
        have hh29 := ev_sub hh26 (fun _ => hh28) (fun _ _ => rfl) (fun _ _ => rfl) (fun x14 x16 => (sb_lst (C := (kap R b)) (e := P.int)))
        have hh30 := es_nil (cb := cbN T (k + 1)) (σ := [some (.cell 0), some (.p (P.int limit)), none, some (.p (P.int v5))]) (C := (kap R b)) (C0 := C0)
        have hh31 := es_cons hh29 (fun _ => hh30)
        have hh32 := ev_bi (f := .int) hh31 (fun _ => rfl) (fun g18 => (bc_int (C := (kap R b))))
        have hh33 := es_nil (cb := cbN T (k + 1)) (σ := [some (.cell 0), some (.p (P.int limit)), none, some (.p (P.int v5))]) (C := (kap R b)) (C0 := C0)
        have hh34 := es_cons hh32 (fun _ => hh33)
        have hh35 := ev_bi (f := .abs) hh34 (fun _ => rfl) (fun g20 => (bc_abs (C := (kap R b))))
        apply st_set (σ := [some (.cell 0), some (.p (P.int limit)), none, some (.p (P.int v5))]) (C := (kap R b)) hh35 (fun _ => rfl)
        intro v21
        exact en_n (s := v21) rfl
      · intro c12
        exact en_n (s := v5) rfl
      · intro s22
        have hh36 := ev_cell (cb := cbN T (k + 1)) (σ := [some (.cell 0), some (.p (P.int limit)), none, some (.p (P.int s22))]) (C := (kap R b)) (C0 := C0) (i := 0) 0 rfl
        have hh37 := ev_subc (i := 1) hh36 (fun _ => rfl) (fun _ => im_ok (C := (kap R b)) P.int b.2.1 rfl)
        have hh38 := ev_con (cb := cbN T (k + 1)) (σ := [some (.cell 0), some (.p (P.int limit)), none, some (.p (P.int s22))]) (C := (kap R b)) (C0 := C0) P.int 1
        have hh39 := ev_bin (op := .add) hh37 (fun _ => hh38) (fun _ _ => rfl) (fun _ _ => rfl) (fun x24 x25 => (bi_add (C := (kap R b))))
        apply st_stiC (σ := [some (.cell 0), some (.p (P.int limit)), none, some (.p (P.int s22))]) (C := (kap R b)) (cur := (k4 (eL P.int) P.int P.int P.int) b) (out := fun v26 => (k4 (eL P.int) P.int P.int P.int) (b.1, v26, b.2.2.1, b.2.2.2)) rfl rfl hh39 (fun _ => rfl) (ev_con P.int 1) (fun _ => rfl) (fun _ => rfl)
        intro v26
        have hh40 := ev_var (cb := cbN T (k + 1)) (σ := [some (.cell 0), some (.p (P.int limit)), none, some (.p (P.int s22))]) (C := (kap R (b.1, v26, b.2.2.1, b.2.2.2))) (C0 := C0) (i := 3) P.int s22 rfl
        have hh41 := ev_con (cb := cbN T (k + 1)) (σ := [some (.cell 0), some (.p (P.int limit)), none, some (.p (P.int s22))]) (C := (kap R (b.1, v26, b.2.2.1, b.2.2.2))) (C0 := C0) P.int 10
        have hh42 := ev_con (cb := cbN T (k + 1)) (σ := [some (.cell 0), some (.p (P.int limit)), none, some (.p (P.int s22))]) (C := (kap R (b.1, v26, b.2.2.1, b.2.2.2))) (C0 := C0) P.int 18
        have hh43 := ev_bin (op := .pow) hh41 (fun _ => hh42) (fun _ _ => rfl) (fun _ _ => rfl) (fun x28 x29 => (bi_pow (C := (kap R (b.1, v26, b.2.2.1, b.2.2.2)))))
        have hh44 := ev_cmp (op := .lt) hh40 (fun _ => hh43) (fun _ _ => rfl) (fun _ _ => rfl) (fun x27 x30 => (im_cmp (C := (kap R (b.1, v26, b.2.2.1, b.2.2.2))) cp_lt)) (fun _ _ => rfl)
        apply st_ifs (σ := [some (.cell 0), some (.p (P.int limit)), none, some (.p (P.int s22))]) (C := (kap R (b.1, v26, b.2.2.1, b.2.2.2))) hh44 (fun _ => rfl)
        · intro c31
          have hh45 := ev_cell (cb := cbN T (k + 1)) (σ := [some (.cell 0), some (.p (P.int limit)), none, some (.p (P.int s22))]) (C := (kap R (b.1, v26, b.2.2.1, b.2.2.2))) (C0 := C0) (i := 0) 0 rfl
          have hh46 := ev_subc (i := 3) hh45 (fun _ => rfl) (fun _ => im_ok (C := (kap R (b.1, v26, b.2.2.1, b.2.2.2))) P.int ((b.1, v26, b.2.2.1, b.2.2.2).2.2.2) rfl)
          have hh47 := es_nil (cb := cbN T (k + 1)) (σ := [some (.cell 0), some (.p (P.int limit)), none, some (.p (P.int s22))]) (C := (kap R (b.1, v26, b.2.2.1, b.2.2.2))) (C0 := C0)
          have hh48 := es_cons hh46 (fun _ => hh47)
          have hh49 := ev_bi (f := .int) hh48 (fun _ => rfl) (fun g34 => (bc_int (C := (kap R (b.1, v26, b.2.2.1, b.2.2.2)))))
          have hh50 := ev_con (cb := cbN T (k + 1)) (σ := [some (.cell 0), some (.p (P.int limit)), none, some (.p (P.int s22))]) (C := (kap R (b.1, v26, b.2.2.1, b.2.2.2))) (C0 := C0) P.int 48271
          have hh51 := ev_bin (op := .mul) hh49 (fun _ => hh50) (fun _ _ => rfl) (fun _ _ => rfl) (fun x35 x36 => (bi_mul (C := (kap R (b.1, v26, b.2.2.1, b.2.2.2)))))
          have hh52 := ev_var (cb := cbN T (k + 1)) (σ := [some (.cell 0), some (.p (P.int limit)), none, some (.p (P.int s22))]) (C := (kap R (b.1, v26, b.2.2.1, b.2.2.2))) (C0 := C0) (i := 3) P.int s22 rfl
          have hh53 := es_nil (cb := cbN T (k + 1)) (σ := [some (.cell 0), some (.p (P.int limit)), none, some (.p (P.int s22))]) (C := (kap R (b.1, v26, b.2.2.1, b.2.2.2))) (C0 := C0)
          have hh54 := es_cons hh52 (fun _ => hh53)
          have hh55 := ev_bi (f := .int) hh54 (fun _ => rfl) (fun g39 => (bc_int (C := (kap R (b.1, v26, b.2.2.1, b.2.2.2)))))
          have hh56 := ev_con (cb := cbN T (k + 1)) (σ := [some (.cell 0), some (.p (P.int limit)), none, some (.p (P.int s22))]) (C := (kap R (b.1, v26, b.2.2.1, b.2.2.2))) (C0 := C0) P.int 2147483647
          have hh57 := ev_bin (op := .mod) hh55 (fun _ => hh56) (fun _ _ => rfl) (fun _ _ => rfl) (fun x40 x41 => (bi_mod (C := (kap R (b.1, v26, b.2.2.1, b.2.2.2)))))
          have hh58 := ev_con (cb := cbN T (k + 1)) (σ := [some (.cell 0), some (.p (P.int limit)), none, some (.p (P.int s22))]) (C := (kap R (b.1, v26, b.2.2.1, b.2.2.2))) (C0 := C0) P.int 69621
          have hh59 := ev_bin (op := .mul) hh57 (fun _ => hh58) (fun _ _ => rfl) (fun _ _ => rfl) (fun x42 x43 => (bi_mul (C := (kap R (b.1, v26, b.2.2.1, b.2.2.2)))))
          have hh60 := ev_bin (op := .add) hh51 (fun _ => hh59) (fun _ _ => rfl) (fun _ _ => rfl) (fun x37 x44 => (bi_add (C := (kap R (b.1, v26, b.2.2.1, b.2.2.2)))))
          have hh61 := ev_cell (cb := cbN T (k + 1)) (σ := [some (.cell 0), some (.p (P.int limit)), none, some (.p (P.int s22))]) (C := (kap R (b.1, v26, b.2.2.1, b.2.2.2))) (C0 := C0) (i := 0) 0 rfl
          have hh62 := ev_subc (i := 1) hh61 (fun _ => rfl) (fun _ => im_ok (C := (kap R (b.1, v26, b.2.2.1, b.2.2.2))) P.int ((b.1, v26, b.2.2.1, b.2.2.2).2.1) rfl)
          have hh63 := es_nil (cb := cbN T (k + 1)) (σ := [some (.cell 0), some (.p (P.int limit)), none, some (.p (P.int s22))]) (C := (kap R (b.1, v26, b.2.2.1, b.2.2.2))) (C0 := C0)
          have hh64 := es_cons hh62 (fun _ => hh63)
          have hh65 := ev_bi (f := .int) hh64 (fun _ => rfl) (fun g48 => (bc_int (C := (kap R (b.1, v26, b.2.2.1, b.2.2.2)))))
          have hh66 := ev_con (cb := cbN T (k + 1)) (σ := [some (.cell 0), some (.p (P.int limit)), none, some (.p (P.int s22))]) (C := (kap R (b.1, v26, b.2.2.1, b.2.2.2))) (C0 := C0) P.int 8191
          have hh67 := ev_bin (op := .mul) hh65 (fun _ => hh66) (fun _ _ => rfl) (fun _ _ => rfl) (fun x49 x50 => (bi_mul (C := (kap R (b.1, v26, b.2.2.1, b.2.2.2)))))
          have hh68 := ev_bin (op := .add) hh60 (fun _ => hh67) (fun _ _ => rfl) (fun _ _ => rfl) (fun x45 x51 => (bi_add (C := (kap R (b.1, v26, b.2.2.1, b.2.2.2)))))
          have hh69 := ev_con (cb := cbN T (k + 1)) (σ := [some (.cell 0), some (.p (P.int limit)), none, some (.p (P.int s22))]) (C := (kap R (b.1, v26, b.2.2.1, b.2.2.2))) (C0 := C0) P.int 2147483647
          have hh70 := ev_bin (op := .mod) hh68 (fun _ => hh69) (fun _ _ => rfl) (fun _ _ => rfl) (fun x52 x53 => (bi_mod (C := (kap R (b.1, v26, b.2.2.1, b.2.2.2)))))
          apply st_stiC (σ := [some (.cell 0), some (.p (P.int limit)), none, some (.p (P.int s22))]) (C := (kap R (b.1, v26, b.2.2.1, b.2.2.2))) (cur := (k4 (eL P.int) P.int P.int P.int) (b.1, v26, b.2.2.1, b.2.2.2)) (out := fun v54 => (k4 (eL P.int) P.int P.int P.int) ((b.1, v26, b.2.2.1, b.2.2.2).1, (b.1, v26, b.2.2.1, b.2.2.2).2.1, (b.1, v26, b.2.2.1, b.2.2.2).2.2.1, v54)) rfl rfl hh70 (fun _ => rfl) (ev_con P.int 3) (fun _ => rfl) (fun _ => rfl)
          intro v54
          have hh71 := ev_cell (cb := cbN T (k + 1)) (σ := [some (.cell 0), some (.p (P.int limit)), none, some (.p (P.int s22))]) (C := (kap R ((b.1, v26, b.2.2.1, b.2.2.2).1, (b.1, v26, b.2.2.1, b.2.2.2).2.1, (b.1, v26, b.2.2.1, b.2.2.2).2.2.1, v54))) (C0 := C0) (i := 0) 0 rfl
          have hh72 := ev_subc (i := 3) hh71 (fun _ => rfl) (fun _ => im_ok (C := (kap R ((b.1, v26, b.2.2.1, b.2.2.2).1, (b.1, v26, b.2.2.1, b.2.2.2).2.1, (b.1, v26, b.2.2.1, b.2.2.2).2.2.1, v54))) P.int (((b.1, v26, b.2.2.1, b.2.2.2).1, (b.1, v26, b.2.2.1, b.2.2.2).2.1, (b.1, v26, b.2.2.1, b.2.2.2).2.2.1, v54).2.2.2) rfl)
          have hh73 := es_nil (cb := cbN T (k + 1)) (σ := [some (.cell 0), some (.p (P.int limit)), none, some (.p (P.int s22))]) (C := (kap R ((b.1, v26, b.2.2.1, b.2.2.2).1, (b.1, v26, b.2.2.1, b.2.2.2).2.1, (b.1, v26, b.2.2.1, b.2.2.2).2.2.1, v54))) (C0 := C0)
          have hh74 := es_cons hh72 (fun _ => hh73)
          have hh75 := ev_bi (f := .int) hh74 (fun _ => rfl) (fun g57 => (bc_int (C := (kap R ((b.1, v26, b.2.2.1, b.2.2.2).1, (b.1, v26, b.2.2.1, b.2.2.2).2.1, (b.1, v26, b.2.2.1, b.2.2.2).2.2.1, v54)))))
          have hh76 := ev_con (cb := cbN T (k + 1)) (σ := [some (.cell 0), some (.p (P.int limit)), none, some (.p (P.int s22))]) (C := (kap R ((b.1, v26, b.2.2.1, b.2.2.2).1, (b.1, v26, b.2.2.1, b.2.2.2).2.1, (b.1, v26, b.2.2.1, b.2.2.2).2.2.1, v54))) (C0 := C0) P.int 16807
          have hh77 := ev_bin (op := .mul) hh75 (fun _ => hh76) (fun _ _ => rfl) (fun _ _ => rfl) (fun x58 x59 => (bi_mul (C := (kap R ((b.1, v26, b.2.2.1, b.2.2.2).1, (b.1, v26, b.2.2.1, b.2.2.2).2.1, (b.1, v26, b.2.2.1, b.2.2.2).2.2.1, v54)))))
          have hh78 := ev_cell (cb := cbN T (k + 1)) (σ := [some (.cell 0), some (.p (P.int limit)), none, some (.p (P.int s22))]) (C := (kap R ((b.1, v26, b.2.2.1, b.2.2.2).1, (b.1, v26, b.2.2.1, b.2.2.2).2.1, (b.1, v26, b.2.2.1, b.2.2.2).2.2.1, v54))) (C0 := C0) (i := 0) 0 rfl
          have hh79 := ev_subc (i := 1) hh78 (fun _ => rfl) (fun _ => im_ok (C := (kap R ((b.1, v26, b.2.2.1, b.2.2.2).1, (b.1, v26, b.2.2.1, b.2.2.2).2.1, (b.1, v26, b.2.2.1, b.2.2.2).2.2.1, v54))) P.int (((b.1, v26, b.2.2.1, b.2.2.2).1, (b.1, v26, b.2.2.1, b.2.2.2).2.1, (b.1, v26, b.2.2.1, b.2.2.2).2.2.1, v54).2.1) rfl)
          have hh80 := es_nil (cb := cbN T (k + 1)) (σ := [some (.cell 0), some (.p (P.int limit)), none, some (.p (P.int s22))]) (C := (kap R ((b.1, v26, b.2.2.1, b.2.2.2).1, (b.1, v26, b.2.2.1, b.2.2.2).2.1, (b.1, v26, b.2.2.1, b.2.2.2).2.2.1, v54))) (C0 := C0)
          have hh81 := es_cons hh79 (fun _ => hh80)
          have hh82 := ev_bi (f := .int) hh81 (fun _ => rfl) (fun g63 => (bc_int (C := (kap R ((b.1, v26, b.2.2.1, b.2.2.2).1, (b.1, v26, b.2.2.1, b.2.2.2).2.1, (b.1, v26, b.2.2.1, b.2.2.2).2.2.1, v54)))))
          have hh83 := ev_cell (cb := cbN T (k + 1)) (σ := [some (.cell 0), some (.p (P.int limit)), none, some (.p (P.int s22))]) (C := (kap R ((b.1, v26, b.2.2.1, b.2.2.2).1, (b.1, v26, b.2.2.1, b.2.2.2).2.1, (b.1, v26, b.2.2.1, b.2.2.2).2.2.1, v54))) (C0 := C0) (i := 0) 0 rfl
          have hh84 := ev_subc (i := 1) hh83 (fun _ => rfl) (fun _ => im_ok (C := (kap R ((b.1, v26, b.2.2.1, b.2.2.2).1, (b.1, v26, b.2.2.1, b.2.2.2).2.1, (b.1, v26, b.2.2.1, b.2.2.2).2.2.1, v54))) P.int (((b.1, v26, b.2.2.1, b.2.2.2).1, (b.1, v26, b.2.2.1, b.2.2.2).2.1, (b.1, v26, b.2.2.1, b.2.2.2).2.2.1, v54).2.1) rfl)
          have hh85 := es_nil (cb := cbN T (k + 1)) (σ := [some (.cell 0), some (.p (P.int limit)), none, some (.p (P.int s22))]) (C := (kap R ((b.1, v26, b.2.2.1, b.2.2.2).1, (b.1, v26, b.2.2.1, b.2.2.2).2.1, (b.1, v26, b.2.2.1, b.2.2.2).2.2.1, v54))) (C0 := C0)
          have hh86 := es_cons hh84 (fun _ => hh85)
          have hh87 := ev_bi (f := .int) hh86 (fun _ => rfl) (fun g67 => (bc_int (C := (kap R ((b.1, v26, b.2.2.1, b.2.2.2).1, (b.1, v26, b.2.2.1, b.2.2.2).2.1, (b.1, v26, b.2.2.1, b.2.2.2).2.2.1, v54)))))
          have hh88 := ev_bin (op := .mul) hh82 (fun _ => hh87) (fun _ _ => rfl) (fun _ _ => rfl) (fun x64 x68 => (bi_mul (C := (kap R ((b.1, v26, b.2.2.1, b.2.2.2).1, (b.1, v26, b.2.2.1, b.2.2.2).2.1, (b.1, v26, b.2.2.1, b.2.2.2).2.2.1, v54)))))
          have hh89 := ev_bin (op := .add) hh77 (fun _ => hh88) (fun _ _ => rfl) (fun _ _ => rfl) (fun x60 x69 => (bi_add (C := (kap R ((b.1, v26, b.2.2.1, b.2.2.2).1, (b.1, v26, b.2.2.1, b.2.2.2).2.1, (b.1, v26, b.2.2.1, b.2.2.2).2.2.1, v54)))))
          have hh90 := ev_con (cb := cbN T (k + 1)) (σ := [some (.cell 0), some (.p (P.int limit)), none, some (.p (P.int s22))]) (C := (kap R ((b.1, v26, b.2.2.1, b.2.2.2).1, (b.1, v26, b.2.2.1, b.2.2.2).2.1, (b.1, v26, b.2.2.1, b.2.2.2).2.2.1, v54))) (C0 := C0) P.int 8192
          have hh91 := ev_bin (op := .fdiv) hh89 (fun _ => hh90) (fun _ _ => rfl) (fun _ _ => rfl) (fun x70 x71 => (bi_fdiv (C := (kap R ((b.1, v26, b.2.2.1, b.2.2.2).1, (b.1, v26, b.2.2.1, b.2.2.2).2.1, (b.1, v26, b.2.2.1, b.2.2.2).2.2.1, v54)))))
          have hh92 := ev_var (cb := cbN T (k + 1)) (σ := [some (.cell 0), some (.p (P.int limit)), none, some (.p (P.int s22))]) (C := (kap R ((b.1, v26, b.2.2.1, b.2.2.2).1, (b.1, v26, b.2.2.1, b.2.2.2).2.1, (b.1, v26, b.2.2.1, b.2.2.2).2.2.1, v54))) (C0 := C0) (i := 1) P.int limit rfl
          have hh93 := ev_bin (op := .mod) hh91 (fun _ => hh92) (fun _ _ => rfl) (fun _ _ => rfl) (fun x72 x73 => (bi_mod (C := (kap R ((b.1, v26, b.2.2.1, b.2.2.2).1, (b.1, v26, b.2.2.1, b.2.2.2).2.1, (b.1, v26, b.2.2.1, b.2.2.2).2.2.1, v54)))))
          exact st_ret (Im.wth (κ := kap R) (b := ((b.1, v26, b.2.2.1, b.2.2.2).1, (b.1, v26, b.2.2.1, b.2.2.2).2.1, (b.1, v26, b.2.2.1, b.2.2.2).2.2.1, v54)) hh93) nvw
        · intro c31
          have hh94 := ev_var (cb := cbN T (k + 1)) (σ := [some (.cell 0), some (.p (P.int limit)), none, some (.p (P.int s22))]) (C := (kap R (b.1, v26, b.2.2.1, b.2.2.2))) (C0 := C0) (i := 3) P.int s22 rfl
          apply st_stiC (σ := [some (.cell 0), some (.p (P.int limit)), none, some (.p (P.int s22))]) (C := (kap R (b.1, v26, b.2.2.1, b.2.2.2))) (cur := (k4 (eL P.int) P.int P.int P.int) (b.1, v26, b.2.2.1, b.2.2.2)) (out := fun v75 => (k4 (eL P.int) P.int P.int P.int) ((b.1, v26, b.2.2.1, b.2.2.2).1, (b.1, v26, b.2.2.1, b.2.2.2).2.1, v75, (b.1, v26, b.2.2.1, b.2.2.2).2.2.2)) rfl rfl hh94 (fun _ => rfl) (ev_con P.int 2) (fun _ => rfl) (fun _ => rfl)
          intro v75
          apply st_drop (σ := [some (.cell 0), some (.p (P.int limit)), none, some (.p (P.int s22))]) (C := (kap R ((b.1, v26, b.2.2.1, b.2.2.2).1, (b.1, v26, b.2.2.1, b.2.2.2).2.1, v75, (b.1, v26, b.2.2.1, b.2.2.2).2.2.2))) 
          have hh95 := ev_cell (cb := cbN T (k + 1)) (σ := [some (.cell 0), some (.p (P.int limit)), none, none]) (C := (kap R ((b.1, v26, b.2.2.1, b.2.2.2).1, (b.1, v26, b.2.2.1, b.2.2.2).2.1, v75, (b.1, v26, b.2.2.1, b.2.2.2).2.2.2))) (C0 := C0) (i := 0) 0 rfl
          have hh96 := ev_subc (i := 2) hh95 (fun _ => rfl) (fun _ => im_ok (C := (kap R ((b.1, v26, b.2.2.1, b.2.2.2).1, (b.1, v26, b.2.2.1, b.2.2.2).2.1, v75, (b.1, v26, b.2.2.1, b.2.2.2).2.2.2))) P.int (((b.1, v26, b.2.2.1, b.2.2.2).1, (b.1, v26, b.2.2.1, b.2.2.2).2.1, v75, (b.1, v26, b.2.2.1, b.2.2.2).2.2.2).2.2.1) rfl)
          have hh97 := es_nil (cb := cbN T (k + 1)) (σ := [some (.cell 0), some (.p (P.int limit)), none, none]) (C := (kap R ((b.1, v26, b.2.2.1, b.2.2.2).1, (b.1, v26, b.2.2.1, b.2.2.2).2.1, v75, (b.1, v26, b.2.2.1, b.2.2.2).2.2.2))) (C0 := C0)
          have hh98 := es_cons hh96 (fun _ => hh97)
          have hh99 := ev_bi (f := .int) hh98 (fun _ => rfl) (fun g78 => (bc_int (C := (kap R ((b.1, v26, b.2.2.1, b.2.2.2).1, (b.1, v26, b.2.2.1, b.2.2.2).2.1, v75, (b.1, v26, b.2.2.1, b.2.2.2).2.2.2)))))
          have hh100 := ev_var (cb := cbN T (k + 1)) (σ := [some (.cell 0), some (.p (P.int limit)), none, none]) (C := (kap R ((b.1, v26, b.2.2.1, b.2.2.2).1, (b.1, v26, b.2.2.1, b.2.2.2).2.1, v75, (b.1, v26, b.2.2.1, b.2.2.2).2.2.2))) (C0 := C0) (i := 1) P.int limit rfl
          have hh101 := ev_bin (op := .mod) hh99 (fun _ => hh100) (fun _ _ => rfl) (fun _ _ => rfl) (fun x79 x80 => (bi_mod (C := (kap R ((b.1, v26, b.2.2.1, b.2.2.2).1, (b.1, v26, b.2.2.1, b.2.2.2).2.1, v75, (b.1, v26, b.2.2.1, b.2.2.2).2.2.2)))))
          apply st_set (σ := [some (.cell 0), some (.p (P.int limit)), none, none]) (C := (kap R ((b.1, v26, b.2.2.1, b.2.2.2).1, (b.1, v26, b.2.2.1, b.2.2.2).2.1, v75, (b.1, v26, b.2.2.1, b.2.2.2).2.2.2))) hh101 (fun _ => rfl)
          intro v81
          have hh102 := ev_cell (cb := cbN T (k + 1)) (σ := [some (.cell 0), some (.p (P.int limit)), some (.p (P.int v81)), none]) (C := (kap R ((b.1, v26, b.2.2.1, b.2.2.2).1, (b.1, v26, b.2.2.1, b.2.2.2).2.1, v75, (b.1, v26, b.2.2.1, b.2.2.2).2.2.2))) (C0 := C0) (i := 0) 0 rfl
          have hh103 := ev_subc (i := 2) hh102 (fun _ => rfl) (fun _ => im_ok (C := (kap R ((b.1, v26, b.2.2.1, b.2.2.2).1, (b.1, v26, b.2.2.1, b.2.2.2).2.1, v75, (b.1, v26, b.2.2.1, b.2.2.2).2.2.2))) P.int (((b.1, v26, b.2.2.1, b.2.2.2).1, (b.1, v26, b.2.2.1, b.2.2.2).2.1, v75, (b.1, v26, b.2.2.1, b.2.2.2).2.2.2).2.2.1) rfl)
          have hh104 := ev_var (cb := cbN T (k + 1)) (σ := [some (.cell 0), some (.p (P.int limit)), some (.p (P.int v81)), none]) (C := (kap R ((b.1, v26, b.2.2.1, b.2.2.2).1, (b.1, v26, b.2.2.1, b.2.2.2).2.1, v75, (b.1, v26, b.2.2.1, b.2.2.2).2.2.2))) (C0 := C0) (i := 1) P.int limit rfl
          have hh105 := ev_bin (op := .fdiv) hh103 (fun _ => hh104) (fun _ _ => rfl) (fun _ _ => rfl) (fun x83 x84 => (bi_fdiv (C := (kap R ((b.1, v26, b.2.2.1, b.2.2.2).1, (b.1, v26, b.2.2.1, b.2.2.2).2.1, v75, (b.1, v26, b.2.2.1, b.2.2.2).2.2.2)))))
          apply st_stiC (σ := [some (.cell 0), some (.p (P.int limit)), some (.p (P.int v81)), none]) (C := (kap R ((b.1, v26, b.2.2.1, b.2.2.2).1, (b.1, v26, b.2.2.1, b.2.2.2).2.1, v75, (b.1, v26, b.2.2.1, b.2.2.2).2.2.2))) (cur := (k4 (eL P.int) P.int P.int P.int) ((b.1, v26, b.2.2.1, b.2.2.2).1, (b.1, v26, b.2.2.1, b.2.2.2).2.1, v75, (b.1, v26, b.2.2.1, b.2.2.2).2.2.2)) (out := fun v85 => (k4 (eL P.int) P.int P.int P.int) (((b.1, v26, b.2.2.1, b.2.2.2).1, (b.1, v26, b.2.2.1, b.2.2.2).2.1, v75, (b.1, v26, b.2.2.1, b.2.2.2).2.2.2).1, ((b.1, v26, b.2.2.1, b.2.2.2).1, (b.1, v26, b.2.2.1, b.2.2.2).2.1, v75, (b.1, v26, b.2.2.1, b.2.2.2).2.2.2).2.1, v85, ((b.1, v26, b.2.2.1, b.2.2.2).1, (b.1, v26, b.2.2.1, b.2.2.2).2.1, v75, (b.1, v26, b.2.2.1, b.2.2.2).2.2.2).2.2.2)) rfl rfl hh105 (fun _ => rfl) (ev_con P.int 2) (fun _ => rfl) (fun _ => rfl)
          intro v85
          have hh106 := ev_var (cb := cbN T (k + 1)) (σ := [some (.cell 0), some (.p (P.int limit)), some (.p (P.int v81)), none]) (C := (kap R (((b.1, v26, b.2.2.1, b.2.2.2).1, (b.1, v26, b.2.2.1, b.2.2.2).2.1, v75, (b.1, v26, b.2.2.1, b.2.2.2).2.2.2).1, ((b.1, v26, b.2.2.1, b.2.2.2).1, (b.1, v26, b.2.2.1, b.2.2.2).2.1, v75, (b.1, v26, b.2.2.1, b.2.2.2).2.2.2).2.1, v85, ((b.1, v26, b.2.2.1, b.2.2.2).1, (b.1, v26, b.2.2.1, b.2.2.2).2.1, v75, (b.1, v26, b.2.2.1, b.2.2.2).2.2.2).2.2.2))) (C0 := C0) (i := 2) P.int v81 rfl
          exact st_ret (Im.wth (κ := kap R) (b := (((b.1, v26, b.2.2.1, b.2.2.2).1, (b.1, v26, b.2.2.1, b.2.2.2).2.1, v75, (b.1, v26, b.2.2.1, b.2.2.2).2.2.2).1, ((b.1, v26, b.2.2.1, b.2.2.2).1, (b.1, v26, b.2.2.1, b.2.2.2).2.1, v75, (b.1, v26, b.2.2.1, b.2.2.2).2.2.2).2.1, v85, ((b.1, v26, b.2.2.1, b.2.2.2).1, (b.1, v26, b.2.2.1, b.2.2.2).2.1, v75, (b.1, v26, b.2.2.1, b.2.2.2).2.2.2).2.2.2)) hh106) nvw
    · intro c4
      apply st_drop (σ := [some (.cell 0), some (.p (P.int limit)), none, none]) (C := (kap R b)) 
      have hh107 := ev_cell (cb := cbN T (k + 1)) (σ := [some (.cell 0), some (.p (P.int limit)), none, none]) (C := (kap R b)) (C0 := C0) (i := 0) 0 rfl
      have hh108 := ev_subc (i := 2) hh107 (fun _ => rfl) (fun _ => im_ok (C := (kap R b)) P.int b.2.2.1 rfl)
      have hh109 := es_nil (cb := cbN T (k + 1)) (σ := [some (.cell 0), some (.p (P.int limit)), none, none]) (C := (kap R b)) (C0 := C0)
      have hh110 := es_cons hh108 (fun _ => hh109)
      have hh111 := ev_bi (f := .int) hh110 (fun _ => rfl) (fun g88 => (bc_int (C := (kap R b))))
      have hh112 := ev_var (cb := cbN T (k + 1)) (σ := [some (.cell 0), some (.p (P.int limit)), none, none]) (C := (kap R b)) (C0 := C0) (i := 1) P.int limit rfl
      have hh113 := ev_bin (op := .mod) hh111 (fun _ => hh112) (fun _ _ => rfl) (fun _ _ => rfl) (fun x89 x90 => (bi_mod (C := (kap R b))))
      apply st_set (σ := [some (.cell 0), some (.p (P.int limit)), none, none]) (C := (kap R b)) hh113 (fun _ => rfl)
      intro v91
      have hh114 := ev_cell (cb := cbN T (k + 1)) (σ := [some (.cell 0), some (.p (P.int limit)), some (.p (P.int v91)), none]) (C := (kap R b)) (C0 := C0) (i := 0) 0 rfl
      have hh115 := ev_subc (i := 2) hh114 (fun _ => rfl) (fun _ => im_ok (C := (kap R b)) P.int b.2.2.1 rfl)
      have hh116 := ev_var (cb := cbN T (k + 1)) (σ := [some (.cell 0), some (.p (P.int limit)), some (.p (P.int v91)), none]) (C := (kap R b)) (C0 := C0) (i := 1) P.int limit rfl
      have hh117 := ev_bin (op := .fdiv) hh115 (fun _ => hh116) (fun _ _ => rfl) (fun _ _ => rfl) (fun x93 x94 => (bi_fdiv (C := (kap R b))))
      apply st_stiC (σ := [some (.cell 0), some (.p (P.int limit)), some (.p (P.int v91)), none]) (C := (kap R b)) (cur := (k4 (eL P.int) P.int P.int P.int) b) (out := fun v95 => (k4 (eL P.int) P.int P.int P.int) (b.1, b.2.1, v95, b.2.2.2)) rfl rfl hh117 (fun _ => rfl) (ev_con P.int 2) (fun _ => rfl) (fun _ => rfl)
      intro v95
      have hh118 := ev_var (cb := cbN T (k + 1)) (σ := [some (.cell 0), some (.p (P.int limit)), some (.p (P.int v91)), none]) (C := (kap R (b.1, b.2.1, v95, b.2.2.2))) (C0 := C0) (i := 2) P.int v91 rfl
      exact st_ret (Im.wth (κ := kap R) (b := (b.1, b.2.1, v95, b.2.2.2)) hh118) nvw
  · simp -implicitDefEqProofs only [g_law_draw, sF_bind, sF_no, sF_rt, sF_seq, sL_bind, sL_no, sL_rt, sL_seq, sN_bind, sN_no, sN_seq, sI_bind, sI_no, compM_pure, compM_all, M.bind_ok, M.bind_assoc, M.lo_ok, M.lo_assoc]
theorem okc_law_draw (k : Nat) (R : CH) (b : ((List Int) × Int × Int × Int)) (limit : Int) {C0 : CH → Prop} : Im ((cbN T (k + 2)).call "_law_draw" [.cell 0, .p (P.int limit)] (kap R b)) C0 (g_law_draw b limit) (fun r => (RV.v (P.int r.1), kap R r.2)) := by
  rw [cl_fn tf_law_draw]
  exact ok_law_draw k R b limit
/-- _law_left -/
def g_law_left (rows : (List (Int × (List Int)))) (done : (List Int)) : M Int :=
  M.ok (((rows.filter fun y3 => decide (((y3.2.filter fun y6 => decide (y6 ∈ done)).map fun y6 => y6) = ([] : (List Int)))).map fun y3 => y3.1).sum)
theorem ok_law_left (k : Nat) (rows : (List (Int × (List Int)))) (done : (List Int)) {C : CH} {C0 : CH → Prop} (hC : C0 C) : Im (runFD (cbN T (k + 1)) F_law_left_6b46 [.p ((eL (e2 P.int (eL P.int))) rows), .p ((eL P.int) done)] C) C0 (g_law_left rows done) (fun r => (RV.v (P.int r), C)) := by
  refine fd_im (σ := [some (.p ((eL (e2 P.int (eL P.int))) rows)), some (.p ((eL P.int) done)), none, none, none]) rfl ?_
  apply jx (K := sF C0 (fun r : Int => (RV.v (P.int r), C)))
  · have hh1 := ev_var (cb := cbN T (k + 1)) (σ := [some (.p ((eL (e2 P.int (eL P.int))) rows)), some (.p ((eL P.int) done)), none, none, none]) (C := C) (C0 := C0) (i := 0) (eL (e2 P.int (eL P.int))) rows rfl
    have hh2 := es_nil (cb := cbN T (k + 1)) (σ := [some (.p ((eL (e2 P.int (eL P.int))) rows)), some (.p ((eL P.int) done)), none, none, none]) (C := C) (C0 := C0)
    have hh3 := es_cons hh1 (fun _ => hh2)
    have hh4 := fun (y3 : (Int × (List Int))) => ev_var (cb := cbN T (k + 1)) (σ := [some (.p ((eL (e2 P.int (eL P.int))) rows)), some (.p ((eL P.int) done)), some (.p (P.int y3.1)), some (.p ((eL P.int) y3.2)), none]) (C := C) (C0 := C0) (i := 2) P.int y3.1 rfl
    have hh5 := fun (y3 : (Int × (List Int))) => ev_var (cb := cbN T (k + 1)) (σ := [some (.p ((eL (e2 P.int (eL P.int))) rows)), some (.p ((eL P.int) done)), some (.p (P.int y3.1)), some (.p ((eL P.int) y3.2)), none]) (C := C) (C0 := C0) (i := 3) (eL P.int) y3.2 rfl
    have hh6 := fun (y3 : (Int × (List Int))) => es_nil (cb := cbN T (k + 1)) (σ := [some (.p ((eL (e2 P.int (eL P.int))) rows)), some (.p ((eL P.int) done)), some (.p (P.int y3.1)), some (.p ((eL P.int) y3.2)), none]) (C := C) (C0 := C0)
    have hh7 := fun (y3 : (Int × (List Int))) => es_cons (hh5 y3) (fun _ => (hh6 y3))
    have hh8 := fun (y3 : (Int × (List Int))) (y6 : Int) => ev_var (cb := cbN T (k + 1)) (σ := [some (.p ((eL (e2 P.int (eL P.int))) rows)), some (.p ((eL P.int) done)), some (.p (P.int y3.1)), some (.p ((eL P.int) y3.2)), some (.p (P.int y6))]) (C := C) (C0 := C0) (i := 4) P.int y6 rfl
    have hh9 := fun (y3 : (Int × (List Int))) (y6 : Int) => ev_var (cb := cbN T (k + 1)) (σ := [some (.p ((eL (e2 P.int (eL P.int))) rows)), some (.p ((eL P.int) done)), some (.p (P.int y3.1)), some (.p ((eL P.int) y3.2)), some (.p (P.int y6))]) (C := C) (C0 := C0) (i := 4) P.int y6 rfl
    have hh10 := fun (y3 : (Int × (List Int))) (y6 : Int) => ev_var (cb := cbN T (k + 1)) (σ := [some (.p ((eL (e2 P.int (eL P.int))) rows)), some (.p ((eL P.int) done)), some (.p (P.int y3.1)), some (.p ((eL P.int) y3.2)), some (.p (P.int y6))]) (C := C) (C0 := C0) (i := 1) (eL P.int) done rfl
    have hh11 := fun (y3 : (Int × (List Int))) (y6 : Int) => ev_cmp (op := .isin) (hh9 y3 y6) (fun _ => (hh10 y3 y6)) (fun _ _ => rfl) (fun _ _ => rfl) (fun x7 x8 => (im_cmp (C := C) (cp_in fe_int))) (fun _ _ => rfl)
    have hh12 := fun (y3 : (Int × (List Int))) (y6 : Int) => an_one (hh11 y3 y6)
    have hh13 := fun (y3 : (Int × (List Int))) => ev_compP (X := Int) (t := (.nm 4)) (kk := .val) (ez := P.int) (σ' := fun y6 => [some (.p ((eL (e2 P.int (eL P.int))) rows)), some (.p ((eL P.int) done)), some (.p (P.int y3.1)), some (.p ((eL P.int) y3.2)), some (.p (P.int y6))]) (g := fun y6 => decide (y6 ∈ done)) (f := fun y6 => y6) (hh7 y3) (fun g5 => (itt_lst (e := P.int))) (fun _ => rfl) (fun _ => rfl) (fun y6 => (hh12 y3 y6)) (fun y6 => (hh8 y3 y6)) (fun _ => rfl) (fun _ => rfl)
    have hh14 := fun (y3 : (Int × (List Int))) => es_nil (cb := cbN T (k + 1)) (σ := [some (.p ((eL (e2 P.int (eL P.int))) rows)), some (.p ((eL P.int) done)), some (.p (P.int y3.1)), some (.p ((eL P.int) y3.2)), none]) (C := C) (C0 := C0)
    have hh15 := fun (y3 : (Int × (List Int))) => ev_lst (hh14 y3) (fun _ => rfl) (fun _ => rfl)
    have hh16 := fun (y3 : (Int × (List Int))) => Im.re (g := fun _ => ([] : (List Int))) (η' := fun l : (List Int) => (RV.fr ((List.map P.int) l), C)) (hh15 y3) (fun _ => rfl)
    have hh17 := fun (y3 : (Int × (List Int))) => ev_cmp (op := .eq) (hh13 y3) (fun _ => (hh16 y3)) (fun _ _ => rfl) (fun _ _ => rfl) (fun x9 x10 => (im_cmp (C := C) (cp_eq (a := x9) (b := x10) (de_lst de_int) (by decide)))) (fun _ _ => rfl)
    have hh18 := fun (y3 : (Int × (List Int))) => an_one (hh17 y3)
    have hh19 := ev_compP (X := (Int × (List Int))) (t := (.tp [2, 3])) (kk := .val) (ez := P.int) (σ' := fun y3 => [some (.p ((eL (e2 P.int (eL P.int))) rows)), some (.p ((eL P.int) done)), some (.p (P.int y3.1)), some (.p ((eL P.int) y3.2)), none]) (g := fun y3 => decide (((y3.2.filter fun y6 => decide (y6 ∈ done)).map fun y6 => y6) = ([] : (List Int)))) (f := fun y3 => y3.1) hh3 (fun g2 => (itt_lst (e := (e2 P.int (eL P.int))))) (fun _ => rfl) (fun _ => rfl) (fun y3 => (hh18 y3)) (fun y3 => (hh4 y3)) (fun _ => rfl) (fun _ => rfl)
    have hh20 := es_nil (cb := cbN T (k + 1)) (σ := [some (.p ((eL (e2 P.int (eL P.int))) rows)), some (.p ((eL P.int) done)), none, none, none]) (C := C) (C0 := C0)
    have hh21 := es_cons hh19 (fun _ => hh20)
    have hh22 := ev_bi (f := .suml) hh21 (fun _ => rfl) (fun g12 => (bc_suml (C := C)))
    exact st_ret hh22 nvw
  · simp -implicitDefEqProofs only [g_law_left, sF_bind, sF_no, sF_rt, sF_seq, sL_bind, sL_no, sL_rt, sL_seq, sN_bind, sN_no, sN_seq, sI_bind, sI_no, compM_pure, compM_all, M.bind_ok, M.bind_assoc, M.lo_ok, M.lo_assoc]
theorem okc_law_left (k : Nat) (rows : (List (Int × (List Int)))) (done : (List Int)) {C : CH} {C0 : CH → Prop} (hC : C0 C) : Im ((cbN T (k + 2)).call "_law_left" [.p ((eL (e2 P.int (eL P.int))) rows), .p ((eL P.int) done)] C) C0 (g_law_left rows done) (fun r => (RV.v (P.int r), C)) := by
  rw [cl_fn tf_law_left]
  exact ok_law_left k rows done hC
/-- _law_perms -/
def g_law_perms (tests : (List Int)) : M (List (List Int)) :=
  let v3 : (List (List Int)) := [([] : (List Int))]
  (rngM 0 (tests.length : Int)).bind fun l36 =>
  (loopM (fun y9 s8 =>
    let v10 : (List (List Int)) := ([] : (List (List Int)))
    (loopM (fun y14 s13 =>
      ((compM (fun y18 => M.ok (!decide (y18 ∈ y14))) (fun y18 => catM y14 ([y18])) tests).bind fun x25 => catM s13 x25).bind fun v26 =>
      M.ok v26) s8 v10).bind fun s27 =>
    M.ok s27) l36 v3).bind fun s30 =>
  M.ok (s30.map fun y33 => y33)
theorem ok_law_perms (k : Nat) (tests : (List Int)) {C : CH} {C0 : CH → Prop} (hC : C0 C) : Im (runFD (cbN T (k + 1)) F_law_perms_4cd7 [.p ((eL P.int) tests)] C) C0 (g_law_perms tests) (fun r => (RV.fr ((List.map (eT P.int)) r), C)) := by
  refine fd_im (σ := [some (.p ((eL P.int) tests)), none, none, none, none, none]) rfl ?_
  apply jx (K := sF C0 (fun r : (List (List Int)) => (RV.fr ((List.map (eT P.int)) r), C)))
  · have hh1 := es_nil (cb := cbN T (k + 1)) (σ := [some (.p ((eL P.int) tests)), none, none, none, none, none]) (C := C) (C0 := C0)
    have hh2 := ev_lst hh1 (fun _ => rfl) (fun _ => rfl)
    have hh3 := Im.re (g := fun _ => ([] : (List Int))) (η' := fun l : (List Int) => (RV.fr ((List.map P.int) l), C)) hh2 (fun _ => rfl)
    have hh4 := es_nil (cb := cbN T (k + 1)) (σ := [some (.p ((eL P.int) tests)), none, none, none, none, none]) (C := C) (C0 := C0)
    have hh5 := es_cons hh3 (fun _ => hh4)
    have hh6 := ev_lst hh5 (fun _ => rfl) (fun _ => rfl)
    have hh7 := Im.re (g := fun g2 => [g2.1]) (η' := fun p : (List (List Int)) => (RV.fr ((List.map (eL P.int)) p), C)) hh6 (fun _ => rfl)
    apply st_set (σ := [some (.p ((eL P.int) tests)), none, none, none, none, none]) (C := C) hh7 (fun _ => rfl)
    intro v3
    have hh8 := ev_var (cb := cbN T (k + 1)) (σ := [some (.p ((eL P.int) tests)), some (.p ((eL (eL P.int)) v3)), none, none, none, none]) (C := C) (C0 := C0) (i := 0) (eL P.int) tests rfl
    have hh9 := es_nil (cb := cbN T (k + 1)) (σ := [some (.p ((eL P.int) tests)), some (.p ((eL (eL P.int)) v3)), none, none, none, none]) (C := C) (C0 := C0)
    have hh10 := es_cons hh8 (fun _ => hh9)
    have hh11 := ev_bi (f := .len) hh10 (fun _ => rfl) (fun g5 => (bc_len (C := C) (e := P.int)))
    have hh12 := es_nil (cb := cbN T (k + 1)) (σ := [some (.p ((eL P.int) tests)), some (.p ((eL (eL P.int)) v3)), none, none, none, none]) (C := C) (C0 := C0)
    have hh13 := es_cons hh11 (fun _ => hh12)
    apply st_forM (σ := [some (.p ((eL P.int) tests)), some (.p ((eL (eL P.int)) v3)), none, none, none, none]) (C := C) (s0 := fun g7 => v3) (ex := P.int) (ρ := fun s8 : (List (List Int)) => ([some (.p ((eL P.int) tests)), some (.p ((eL (eL P.int)) s8)), none, none, none, none], C)) hh13 (fun g7 => itt_rng1) (fun _ => rfl) (fun _ _ => rfl)
    · intro y9 s8
      have hh14 := es_nil (cb := cbN T (k + 1)) (σ := [some (.p ((eL P.int) tests)), some (.p ((eL (eL P.int)) s8)), some (.p (P.int y9)), none, none, none]) (C := C) (C0 := C0)
      have hh15 := ev_lst hh14 (fun _ => rfl) (fun _ => rfl)
      have hh16 := Im.re (g := fun _ => ([] : (List (List Int)))) (η' := fun l : (List (List Int)) => (RV.fr ((List.map (eL P.int)) l), C)) hh15 (fun _ => rfl)
      apply st_set (σ := [some (.p ((eL P.int) tests)), some (.p ((eL (eL P.int)) s8)), some (.p (P.int y9)), none, none, none]) (C := C) hh16 (fun _ => rfl)
      intro v10
      have hh17 := ev_var (cb := cbN T (k + 1)) (σ := [some (.p ((eL P.int) tests)), some (.p ((eL (eL P.int)) s8)), some (.p (P.int y9)), some (.p ((eL (eL P.int)) v10)), none, none]) (C := C) (C0 := C0) (i := 1) (eL (eL P.int)) s8 rfl
      have hh18 := es_nil (cb := cbN T (k + 1)) (σ := [some (.p ((eL P.int) tests)), some (.p ((eL (eL P.int)) s8)), some (.p (P.int y9)), some (.p ((eL (eL P.int)) v10)), none, none]) (C := C) (C0 := C0)
      have hh19 := es_cons hh17 (fun _ => hh18)
      apply st_forM (σ := [some (.p ((eL P.int) tests)), some (.p ((eL (eL P.int)) s8)), some (.p (P.int y9)), some (.p ((eL (eL P.int)) v10)), none, none]) (C := C) (s0 := fun g12 => v10) (ex := (eL P.int)) (ρ := fun s13 : (List (List Int)) => ([some (.p ((eL P.int) tests)), some (.p ((eL (eL P.int)) s8)), some (.p (P.int y9)), some (.p ((eL (eL P.int)) s13)), none, none], C)) hh19 (fun g12 => (itt_lst (e := (eL P.int)))) (fun _ => rfl) (fun _ _ => rfl)
      · intro y14 s13
        have hh20 := ev_var (cb := cbN T (k + 1)) (σ := [some (.p ((eL P.int) tests)), some (.p ((eL (eL P.int)) s8)), some (.p (P.int y9)), some (.p ((eL (eL P.int)) s13)), some (.p ((eL P.int) y14)), none]) (C := C) (C0 := C0) (i := 3) (eL (eL P.int)) s13 rfl
        have hh21 := ev_var (cb := cbN T (k + 1)) (σ := [some (.p ((eL P.int) tests)), some (.p ((eL (eL P.int)) s8)), some (.p (P.int y9)), some (.p ((eL (eL P.int)) s13)), some (.p ((eL P.int) y14)), none]) (C := C) (C0 := C0) (i := 0) (eL P.int) tests rfl
        have hh22 := es_nil (cb := cbN T (k + 1)) (σ := [some (.p ((eL P.int) tests)), some (.p ((eL (eL P.int)) s8)), some (.p (P.int y9)), some (.p ((eL (eL P.int)) s13)), some (.p ((eL P.int) y14)), none]) (C := C) (C0 := C0)
        have hh23 := es_cons hh21 (fun _ => hh22)
        have hh24 := fun (y18 : Int) => ev_var (cb := cbN T (k + 1)) (σ := [some (.p ((eL P.int) tests)), some (.p ((eL (eL P.int)) s8)), some (.p (P.int y9)), some (.p ((eL (eL P.int)) s13)), some (.p ((eL P.int) y14)), some (.p (P.int y18))]) (C := C) (C0 := C0) (i := 4) (eL P.int) y14 rfl
        have hh25 := fun (y18 : Int) => ev_var (cb := cbN T (k + 1)) (σ := [some (.p ((eL P.int) tests)), some (.p ((eL (eL P.int)) s8)), some (.p (P.int y9)), some (.p ((eL (eL P.int)) s13)), some (.p ((eL P.int) y14)), some (.p (P.int y18))]) (C := C) (C0 := C0) (i := 5) P.int y18 rfl
        have hh26 := fun (y18 : Int) => es_nil (cb := cbN T (k + 1)) (σ := [some (.p ((eL P.int) tests)), some (.p ((eL (eL P.int)) s8)), some (.p (P.int y9)), some (.p ((eL (eL P.int)) s13)), some (.p ((eL P.int) y14)), some (.p (P.int y18))]) (C := C) (C0 := C0)
        have hh27 := fun (y18 : Int) => es_cons (hh25 y18) (fun _ => (hh26 y18))
        have hh28 := fun (y18 : Int) => ev_lst (hh27 y18) (fun _ => rfl) (fun _ => rfl)
        have hh29 := fun (y18 : Int) => Im.re (g := fun g21 => [g21.1]) (η' := fun p : (List Int) => (RV.fr ((List.map P.int) p), C)) (hh28 y18) (fun _ => rfl)
        have hh30 := fun (y18 : Int) => ev_bin (op := .add) (hh24 y18) (fun _ => (hh29 y18)) (fun _ _ => rfl) (fun _ _ => rfl) (fun x19 x22 => (bi_cat (C := C) (e := P.int)))
        have hh31 := fun (y18 : Int) => ev_var (cb := cbN T (k + 1)) (σ := [some (.p ((eL P.int) tests)), some (.p ((eL (eL P.int)) s8)), some (.p (P.int y9)), some (.p ((eL (eL P.int)) s13)), some (.p ((eL P.int) y14)), some (.p (P.int y18))]) (C := C) (C0 := C0) (i := 5) P.int y18 rfl
        have hh32 := fun (y18 : Int) => ev_var (cb := cbN T (k + 1)) (σ := [some (.p ((eL P.int) tests)), some (.p ((eL (eL P.int)) s8)), some (.p (P.int y9)), some (.p ((eL (eL P.int)) s13)), some (.p ((eL P.int) y14)), some (.p (P.int y18))]) (C := C) (C0 := C0) (i := 4) (eL P.int) y14 rfl
        have hh33 := fun (y18 : Int) => ev_cmp (op := .nin) (hh31 y18) (fun _ => (hh32 y18)) (fun _ _ => rfl) (fun _ _ => rfl) (fun x23 x24 => (im_cmp (C := C) (cp_nin fe_int))) (fun _ _ => rfl)
        have hh34 := fun (y18 : Int) => an_one (hh33 y18)
        have hh35 := ev_comp (X := Int) (t := (.nm 5)) (kk := .val) (ez := (eL P.int)) (σ' := fun y18 => [some (.p ((eL P.int) tests)), some (.p ((eL (eL P.int)) s8)), some (.p (P.int y9)), some (.p ((eL (eL P.int)) s13)), some (.p ((eL P.int) y14)), some (.p (P.int y18))]) hh23 (fun g17 => (itt_lst (e := P.int))) (fun _ => rfl) (fun _ => rfl) (fun y18 => (hh34 y18)) (fun y18 => (hh30 y18)) (fun _ => rfl) (fun _ => rfl)
        have hh36 := ev_bin (op := .add) hh20 (fun _ => hh35) (fun _ _ => rfl) (fun _ _ => rfl) (fun x15 x25 => (bi_cat (C := C) (e := (eL P.int))))
        apply st_set (σ := [some (.p ((eL P.int) tests)), some (.p ((eL (eL P.int)) s8)), some (.p (P.int y9)), some (.p ((eL (eL P.int)) s13)), some (.p ((eL P.int) y14)), none]) (C := C) hh36 (fun _ => rfl)
        intro v26
        apply st_drop (σ := [some (.p ((eL P.int) tests)), some (.p ((eL (eL P.int)) s8)), some (.p (P.int y9)), some (.p ((eL (eL P.int)) v26)), some (.p ((eL P.int) y14)), none]) (C := C) 
        exact en_n (s := v26) rfl
      · intro s27
        have hh37 := ev_var (cb := cbN T (k + 1)) (σ := [some (.p ((eL P.int) tests)), some (.p ((eL (eL P.int)) s8)), some (.p (P.int y9)), some (.p ((eL (eL P.int)) s27)), none, none]) (C := C) (C0 := C0) (i := 3) (eL (eL P.int)) s27 rfl
        apply st_set (σ := [some (.p ((eL P.int) tests)), some (.p ((eL (eL P.int)) s8)), some (.p (P.int y9)), some (.p ((eL (eL P.int)) s27)), none, none]) (C := C) hh37 (fun _ => rfl)
        intro v28
        apply st_drop (σ := [some (.p ((eL P.int) tests)), some (.p ((eL (eL P.int)) v28)), some (.p (P.int y9)), some (.p ((eL (eL P.int)) s27)), none, none]) (C := C) 
        apply st_drop (σ := [some (.p ((eL P.int) tests)), some (.p ((eL (eL P.int)) v28)), none, some (.p ((eL (eL P.int)) s27)), none, none]) (C := C) 
        apply st_drop (σ := [some (.p ((eL P.int) tests)), some (.p ((eL (eL P.int)) v28)), none, none, none, none]) (C := C) 
        exact en_n (s := v28) rfl
    · intro s30
      have hh38 := ev_var (cb := cbN T (k + 1)) (σ := [some (.p ((eL P.int) tests)), some (.p ((eL (eL P.int)) s30)), none, none, none, none]) (C := C) (C0 := C0) (i := 1) (eL (eL P.int)) s30 rfl
      have hh39 := es_nil (cb := cbN T (k + 1)) (σ := [some (.p ((eL P.int) tests)), some (.p ((eL (eL P.int)) s30)), none, none, none, none]) (C := C) (C0 := C0)
      have hh40 := es_cons hh38 (fun _ => hh39)
      have hh41 := fun (y33 : (List Int)) => ev_var (cb := cbN T (k + 1)) (σ := [some (.p ((eL P.int) tests)), some (.p ((eL (eL P.int)) s30)), none, none, some (.p ((eL P.int) y33)), none]) (C := C) (C0 := C0) (i := 4) (eL P.int) y33 rfl
      have hh42 := fun (y33 : (List Int)) => es_nil (cb := cbN T (k + 1)) (σ := [some (.p ((eL P.int) tests)), some (.p ((eL (eL P.int)) s30)), none, none, some (.p ((eL P.int) y33)), none]) (C := C) (C0 := C0)
      have hh43 := fun (y33 : (List Int)) => es_cons (hh41 y33) (fun _ => (hh42 y33))
      have hh44 := fun (y33 : (List Int)) => ev_bi (f := .tuple) (hh43 y33) (fun _ => rfl) (fun g35 => (bc_tuple (C := C) (e := P.int)))
      have hh45 := fun (y33 : (List Int)) => an_nil (cb := cbN T (k + 1)) (σ := [some (.p ((eL P.int) tests)), some (.p ((eL (eL P.int)) s30)), none, none, some (.p ((eL P.int) y33)), none]) (C := C) (C0 := C0)
      have hh46 := ev_compA (X := (List Int)) (t := (.nm 4)) (kk := .val) (ez := (eT P.int)) (σ' := fun y33 => [some (.p ((eL P.int) tests)), some (.p ((eL (eL P.int)) s30)), none, none, some (.p ((eL P.int) y33)), none]) (f := fun y33 => y33) hh40 (fun g32 => (itt_lst (e := (eL P.int)))) (fun _ => rfl) (fun _ => rfl) (fun y33 => (hh44 y33)) (fun _ => rfl) (fun _ => rfl)
      exact st_ret hh46 nvf
  · simp -implicitDefEqProofs only [g_law_perms, sF_bind, sF_no, sF_rt, sF_seq, sL_bind, sL_no, sL_rt, sL_seq, sN_bind, sN_no, sN_seq, sI_bind, sI_no, compM_pure, compM_all, M.bind_ok, M.bind_assoc, M.lo_ok, M.lo_assoc]
theorem okc_law_perms (k : Nat) (tests : (List Int)) {C : CH} {C0 : CH → Prop} (hC : C0 C) : Im ((cbN T (k + 2)).call "_law_perms" [.p ((eL P.int) tests)] C) C0 (g_law_perms tests) (fun r => (RV.fr ((List.map (eT P.int)) r), C)) := by
  rw [cl_fn tf_law_perms]
  exact ok_law_perms k tests hC
/-- least_rests -/
def g_least_rests (table : Table) (lefts : (List Int)) : M (List Int) :=
  let v3 : Int := (table.costs.length : Int)
  (shlM (1 : Int) v3).bind fun v6 =>
  (repM ([(0 : Int)]) v6).bind fun v11 =>
  (rrngM 0 (v6 - (1 : Int))).bind fun l46 =>
  (loopM (fun y17 s16 =>
    ((rngM 0 v3).bind fun l27 => compM (fun y20 => ((shrM y17 y20).bind fun x23 => M.ok (Builtin.bitAnd x23 (1 : Int))).bind fun x25 => M.ok (decide (x25 = (0 : Int)))) (fun y20 => M.ok y20) l27).bind fun v28 =>
    (((compM (fun _ => M.ok true) (fun y31 => (((g_price table lefts s16 y17 y31).nox).bind fun x38 => M.ok (x38, ())).bind fun g39 => M.ok g39.1) v28).bind fun x40 => M.ok (x40, ())).bind fun g41 => minlM g41.1).bind fun x42 =>
    (setI s16 y17 x42).bind fun l44 =>
    M.ok l44) l46 v11).bind fun s45 =>
  M.ok s45
theorem ok_least_rests (k : Nat) (table : Table) (lefts : (List Int)) {C : CH} {C0 : CH → Prop} (hC : C0 C) : Im (runFD (cbN T (k + 2)) F_least_rests_670c [.p (eTable table), .p ((eL P.int) lefts)] C) C0 (g_least_rests table lefts) (fun r => (RV.fr ((List.map P.int) r), C)) := by
  refine fd_im (σ := [some (.p (eTable table)), some (.p ((eL P.int) lefts)), none, none, none, none, none, none]) rfl ?_
  apply jx (K := sF C0 (fun r : (List Int) => (RV.fr ((List.map P.int) r), C)))
  · have hh1 := ev_var (cb := cbN T (k + 2)) (σ := [some (.p (eTable table)), some (.p ((eL P.int) lefts)), none, none, none, none, none, none]) (C := C) (C0 := C0) (i := 0) eTable table rfl
    have hh2 := ev_att (f := "costs") (enc := (eT P.int)) (g := fun z : Table => z.costs) hh1 (fun _ => att_Table_costs _ _) (fun _ => rfl)
    have hh3 := es_nil (cb := cbN T (k + 2)) (σ := [some (.p (eTable table)), some (.p ((eL P.int) lefts)), none, none, none, none, none, none]) (C := C) (C0 := C0)
    have hh4 := es_cons hh2 (fun _ => hh3)
    have hh5 := ev_bi (f := .len) hh4 (fun _ => rfl) (fun g2 => (bc_lenT (C := C) (e := P.int)))
    apply st_set (σ := [some (.p (eTable table)), some (.p ((eL P.int) lefts)), none, none, none, none, none, none]) (C := C) hh5 (fun _ => rfl)
    intro v3
    have hh6 := ev_con (cb := cbN T (k + 2)) (σ := [some (.p (eTable table)), some (.p ((eL P.int) lefts)), some (.p (P.int v3)), none, none, none, none, none]) (C := C) (C0 := C0) P.int 1
    have hh7 := ev_var (cb := cbN T (k + 2)) (σ := [some (.p (eTable table)), some (.p ((eL P.int) lefts)), some (.p (P.int v3)), none, none, none, none, none]) (C := C) (C0 := C0) (i := 2) P.int v3 rfl
    have hh8 := ev_bin (op := .shl) hh6 (fun _ => hh7) (fun _ _ => rfl) (fun _ _ => rfl) (fun x4 x5 => (bi_shl (C := C)))
    apply st_set (σ := [some (.p (eTable table)), some (.p ((eL P.int) lefts)), some (.p (P.int v3)), none, none, none, none, none]) (C := C) hh8 (fun _ => rfl)
    intro v6
    have hh9 := ev_con (cb := cbN T (k + 2)) (σ := [some (.p (eTable table)), some (.p ((eL P.int) lefts)), some (.p (P.int v3)), some (.p (P.int v6)), none, none, none, none]) (C := C) (C0 := C0) P.int 0
    have hh10 := es_nil (cb := cbN T (k + 2)) (σ := [some (.p (eTable table)), some (.p ((eL P.int) lefts)), some (.p (P.int v3)), some (.p (P.int v6)), none, none, none, none]) (C := C) (C0 := C0)
    have hh11 := es_cons hh9 (fun _ => hh10)
    have hh12 := ev_lst hh11 (fun _ => rfl) (fun _ => rfl)
    have hh13 := Im.re (g := fun g8 => [g8.1]) (η' := fun p : (List Int) => (RV.fr ((List.map P.int) p), C)) hh12 (fun _ => rfl)
    have hh14 := ev_var (cb := cbN T (k + 2)) (σ := [some (.p (eTable table)), some (.p ((eL P.int) lefts)), some (.p (P.int v3)), some (.p (P.int v6)), none, none, none, none]) (C := C) (C0 := C0) (i := 3) P.int v6 rfl
    have hh15 := ev_bin (op := .mul) hh13 (fun _ => hh14) (fun _ _ => rfl) (fun _ _ => rfl) (fun x9 x10 => (bi_rep (C := C) (e := P.int)))
    apply st_own (σ := [some (.p (eTable table)), some (.p ((eL P.int) lefts)), some (.p (P.int v3)), some (.p (P.int v6)), none, none, none, none]) (C := C) hh15 (fun _ => rfl)
    intro v11
    have hh16 := ev_var (cb := cbN T (k + 2)) (σ := [some (.p (eTable table)), some (.p ((eL P.int) lefts)), some (.p (P.int v3)), some (.p (P.int v6)), some (.own ((List.map P.int) v11)), none, none, none]) (C := C) (C0 := C0) (i := 3) P.int v6 rfl
    have hh17 := ev_con (cb := cbN T (k + 2)) (σ := [some (.p (eTable table)), some (.p ((eL P.int) lefts)), some (.p (P.int v3)), some (.p (P.int v6)), some (.own ((List.map P.int) v11)), none, none, none]) (C := C) (C0 := C0) P.int 1
    have hh18 := ev_bin (op := .sub) hh16 (fun _ => hh17) (fun _ _ => rfl) (fun _ _ => rfl) (fun x12 x13 => (bi_sub (C := C)))
    have hh19 := es_nil (cb := cbN T (k + 2)) (σ := [some (.p (eTable table)), some (.p ((eL P.int) lefts)), some (.p (P.int v3)), some (.p (P.int v6)), some (.own ((List.map P.int) v11)), none, none, none]) (C := C) (C0 := C0)
    have hh20 := es_cons hh18 (fun _ => hh19)
    apply st_forM (σ := [some (.p (eTable table)), some (.p ((eL P.int) lefts)), some (.p (P.int v3)), some (.p (P.int v6)), some (.own ((List.map P.int) v11)), none, none, none]) (C := C) (s0 := fun g15 => v11) (ex := P.int) (ρ := fun s16 : (List Int) => ([some (.p (eTable table)), some (.p ((eL P.int) lefts)), some (.p (P.int v3)), some (.p (P.int v6)), some (.own ((List.map P.int) s16)), none, none, none], C)) hh20 (fun g15 => itt_rrng1) (fun _ => rfl) (fun _ _ => rfl)
    · intro y17 s16
      have hh21 := ev_var (cb := cbN T (k + 2)) (σ := [some (.p (eTable table)), some (.p ((eL P.int) lefts)), some (.p (P.int v3)), some (.p (P.int v6)), some (.own ((List.map P.int) s16)), some (.p (P.int y17)), none, none]) (C := C) (C0 := C0) (i := 2) P.int v3 rfl
      have hh22 := es_nil (cb := cbN T (k + 2)) (σ := [some (.p (eTable table)), some (.p ((eL P.int) lefts)), some (.p (P.int v3)), some (.p (P.int v6)), some (.own ((List.map P.int) s16)), some (.p (P.int y17)), none, none]) (C := C) (C0 := C0)
      have hh23 := es_cons hh21 (fun _ => hh22)
      have hh24 := fun (y20 : Int) => ev_var (cb := cbN T (k + 2)) (σ := [some (.p (eTable table)), some (.p ((eL P.int) lefts)), some (.p (P.int v3)), some (.p (P.int v6)), some (.own ((List.map P.int) s16)), some (.p (P.int y17)), none, some (.p (P.int y20))]) (C := C) (C0 := C0) (i := 7) P.int y20 rfl
      have hh25 := fun (y20 : Int) => ev_var (cb := cbN T (k + 2)) (σ := [some (.p (eTable table)), some (.p ((eL P.int) lefts)), some (.p (P.int v3)), some (.p (P.int v6)), some (.own ((List.map P.int) s16)), some (.p (P.int y17)), none, some (.p (P.int y20))]) (C := C) (C0 := C0) (i := 5) P.int y17 rfl
      have hh26 := fun (y20 : Int) => ev_var (cb := cbN T (k + 2)) (σ := [some (.p (eTable table)), some (.p ((eL P.int) lefts)), some (.p (P.int v3)), some (.p (P.int v6)), some (.own ((List.map P.int) s16)), some (.p (P.int y17)), none, some (.p (P.int y20))]) (C := C) (C0 := C0) (i := 7) P.int y20 rfl
      have hh27 := fun (y20 : Int) => ev_bin (op := .shr) (hh25 y20) (fun _ => (hh26 y20)) (fun _ _ => rfl) (fun _ _ => rfl) (fun x21 x22 => (bi_shr (C := C)))
      have hh28 := fun (y20 : Int) => ev_con (cb := cbN T (k + 2)) (σ := [some (.p (eTable table)), some (.p ((eL P.int) lefts)), some (.p (P.int v3)), some (.p (P.int v6)), some (.own ((List.map P.int) s16)), some (.p (P.int y17)), none, some (.p (P.int y20))]) (C := C) (C0 := C0) P.int 1
      have hh29 := fun (y20 : Int) => ev_bin (op := .band) (hh27 y20) (fun _ => (hh28 y20)) (fun _ _ => rfl) (fun _ _ => rfl) (fun x23 x24 => (bi_band (C := C)))
      have hh30 := fun (y20 : Int) => ev_con (cb := cbN T (k + 2)) (σ := [some (.p (eTable table)), some (.p ((eL P.int) lefts)), some (.p (P.int v3)), some (.p (P.int v6)), some (.own ((List.map P.int) s16)), some (.p (P.int y17)), none, some (.p (P.int y20))]) (C := C) (C0 := C0) P.int 0
      have hh31 := fun (y20 : Int) => ev_cmp (op := .eq) (hh29 y20) (fun _ => (hh30 y20)) (fun _ _ => rfl) (fun _ _ => rfl) (fun x25 x26 => (im_cmp (C := C) (cp_eq (a := x25) (b := x26) de_int (by decide)))) (fun _ _ => rfl)
      have hh32 := fun (y20 : Int) => an_one (hh31 y20)
      have hh33 := ev_comp (X := Int) (t := (.nm 7)) (kk := .rng1) (ez := P.int) (σ' := fun y20 => [some (.p (eTable table)), some (.p ((eL P.int) lefts)), some (.p (P.int v3)), some (.p (P.int v6)), some (.own ((List.map P.int) s16)), some (.p (P.int y17)), none, some (.p (P.int y20))]) hh23 (fun g19 => itt_rng1) (fun _ => rfl) (fun _ => rfl) (fun y20 => (hh32 y20)) (fun y20 => (hh24 y20)) (fun _ => rfl) (fun _ => rfl)
      apply st_set (σ := [some (.p (eTable table)), some (.p ((eL P.int) lefts)), some (.p (P.int v3)), some (.p (P.int v6)), some (.own ((List.map P.int) s16)), some (.p (P.int y17)), none, none]) (C := C) hh33 (fun _ => rfl)
      intro v28
      have hh34 := ev_var (cb := cbN T (k + 2)) (σ := [some (.p (eTable table)), some (.p ((eL P.int) lefts)), some (.p (P.int v3)), some (.p (P.int v6)), some (.own ((List.map P.int) s16)), some (.p (P.int y17)), some (.p ((eL P.int) v28)), none]) (C := C) (C0 := C0) (i := 6) (eL P.int) v28 rfl
      have hh35 := es_nil (cb := cbN T (k + 2)) (σ := [some (.p (eTable table)), some (.p ((eL P.int) lefts)), some (.p (P.int v3)), some (.p (P.int v6)), some (.own ((List.map P.int) s16)), some (.p (P.int y17)), some (.p ((eL P.int) v28)), none]) (C := C) (C0 := C0)
      have hh36 := es_cons hh34 (fun _ => hh35)
      have hh37 := fun (y31 : Int) => ev_var (cb := cbN T (k + 2)) (σ := [some (.p (eTable table)), some (.p ((eL P.int) lefts)), some (.p (P.int v3)), some (.p (P.int v6)), some (.own ((List.map P.int) s16)), some (.p (P.int y17)), some (.p ((eL P.int) v28)), some (.p (P.int y31))]) (C := C) (C0 := C0) (i := 0) eTable table rfl
      have hh38 := fun (y31 : Int) => ev_var (cb := cbN T (k + 2)) (σ := [some (.p (eTable table)), some (.p ((eL P.int) lefts)), some (.p (P.int v3)), some (.p (P.int v6)), some (.own ((List.map P.int) s16)), some (.p (P.int y17)), some (.p ((eL P.int) v28)), some (.p (P.int y31))]) (C := C) (C0 := C0) (i := 1) (eL P.int) lefts rfl
      have hh39 := fun (y31 : Int) => ev_own (cb := cbN T (k + 2)) (σ := [some (.p (eTable table)), some (.p ((eL P.int) lefts)), some (.p (P.int v3)), some (.p (P.int v6)), some (.own ((List.map P.int) s16)), some (.p (P.int y17)), some (.p ((eL P.int) v28)), some (.p (P.int y31))]) (C := C) (C0 := C0) (i := 4) (List.map P.int) s16 rfl
      have hh40 := fun (y31 : Int) => ev_var (cb := cbN T (k + 2)) (σ := [some (.p (eTable table)), some (.p ((eL P.int) lefts)), some (.p (P.int v3)), some (.p (P.int v6)), some (.own ((List.map P.int) s16)), some (.p (P.int y17)), some (.p ((eL P.int) v28)), some (.p (P.int y31))]) (C := C) (C0 := C0) (i := 5) P.int y17 rfl
      have hh41 := fun (y31 : Int) => ev_var (cb := cbN T (k + 2)) (σ := [some (.p (eTable table)), some (.p ((eL P.int) lefts)), some (.p (P.int v3)), some (.p (P.int v6)), some (.own ((List.map P.int) s16)), some (.p (P.int y17)), some (.p ((eL P.int) v28)), some (.p (P.int y31))]) (C := C) (C0 := C0) (i := 7) P.int y31 rfl
      have hh42 := fun (y31 : Int) => es_nil (cb := cbN T (k + 2)) (σ := [some (.p (eTable table)), some (.p ((eL P.int) lefts)), some (.p (P.int v3)), some (.p (P.int v6)), some (.own ((List.map P.int) s16)), some (.p (P.int y17)), some (.p ((eL P.int) v28)), some (.p (P.int y31))]) (C := C) (C0 := C0)
      have hh43 := fun (y31 : Int) => es_cons (hh41 y31) (fun _ => (hh42 y31))
      have hh44 := fun (y31 : Int) => es_cons (hh40 y31) (fun _ => (hh43 y31))
      have hh45 := fun (y31 : Int) => es_cons (hh39 y31) (fun _ => (hh44 y31))
      have hh46 := fun (y31 : Int) => es_cons (hh38 y31) (fun _ => (hh45 y31))
      have hh47 := fun (y31 : Int) => es_cons (hh37 y31) (fun _ => (hh46 y31))
      have hh48 := fun (y31 : Int) => ev_callb (f := "price") (hh47 y31) (fun _ => rfl) (fun g37 => (okc_price k g37.1 g37.2.1 g37.2.2.1 g37.2.2.2.1 g37.2.2.2.2.1 (C := []) (C0 := fun D => D = []) rfl)) (fun _ => rfl) (fun _ => rfl)
      have hh49 := fun (y31 : Int) => es_nil (cb := cbN T (k + 2)) (σ := [some (.p (eTable table)), some (.p ((eL P.int) lefts)), some (.p (P.int v3)), some (.p (P.int v6)), some (.own ((List.map P.int) s16)), some (.p (P.int y17)), some (.p ((eL P.int) v28)), some (.p (P.int y31))]) (C := C) (C0 := C0)
      have hh50 := fun (y31 : Int) => es_cons (hh48 y31) (fun _ => (hh49 y31))
      have hh51 := fun (y31 : Int) => ev_bi (f := .int) (hh50 y31) (fun _ => rfl) (fun g39 => (bc_int (C := C)))
      have hh52 := fun (y31 : Int) => an_nil (cb := cbN T (k + 2)) (σ := [some (.p (eTable table)), some (.p ((eL P.int) lefts)), some (.p (P.int v3)), some (.p (P.int v6)), some (.own ((List.map P.int) s16)), some (.p (P.int y17)), some (.p ((eL P.int) v28)), some (.p (P.int y31))]) (C := C) (C0 := C0)
      have hh53 := ev_comp (X := Int) (t := (.nm 7)) (kk := .val) (ez := P.int) (σ' := fun y31 => [some (.p (eTable table)), some (.p ((eL P.int) lefts)), some (.p (P.int v3)), some (.p (P.int v6)), some (.own ((List.map P.int) s16)), some (.p (P.int y17)), some (.p ((eL P.int) v28)), some (.p (P.int y31))]) hh36 (fun g30 => (itt_lst (e := P.int))) (fun _ => rfl) (fun _ => rfl) (fun y31 => (hh52 y31)) (fun y31 => (hh51 y31)) (fun _ => rfl) (fun _ => rfl)
      have hh54 := es_nil (cb := cbN T (k + 2)) (σ := [some (.p (eTable table)), some (.p ((eL P.int) lefts)), some (.p (P.int v3)), some (.p (P.int v6)), some (.own ((List.map P.int) s16)), some (.p (P.int y17)), some (.p ((eL P.int) v28)), none]) (C := C) (C0 := C0)
      have hh55 := es_cons hh53 (fun _ => hh54)
      have hh56 := ev_bi (f := .minl) hh55 (fun _ => rfl) (fun g41 => (bc_minl (C := C)))
      have hh57 := ev_var (cb := cbN T (k + 2)) (σ := [some (.p (eTable table)), some (.p ((eL P.int) lefts)), some (.p (P.int v3)), some (.p (P.int v6)), some (.own ((List.map P.int) s16)), some (.p (P.int y17)), some (.p ((eL P.int) v28)), none]) (C := C) (C0 := C0) (i := 5) P.int y17 rfl
      apply st_sti (σ := [some (.p (eTable table)), some (.p ((eL P.int) lefts)), some (.p (P.int v3)), some (.p (P.int v6)), some (.own ((List.map P.int) s16)), some (.p (P.int y17)), some (.p ((eL P.int) v28)), none]) (C := C) (out := (List.map P.int)) rfl hh56 (fun _ => rfl) (fun x42 => hh57) (fun _ _ => rfl) (fun _ _ => (ss_lst (e := P.int)))
      intro x42 x43 l44
      apply st_drop (σ := [some (.p (eTable table)), some (.p ((eL P.int) lefts)), some (.p (P.int v3)), some (.p (P.int v6)), some (.own ((List.map P.int) l44)), some (.p (P.int y17)), some (.p ((eL P.int) v28)), none]) (C := C) 
      apply st_drop (σ := [some (.p (eTable table)), some (.p ((eL P.int) lefts)), some (.p (P.int v3)), some (.p (P.int v6)), some (.own ((List.map P.int) l44)), none, some (.p ((eL P.int) v28)), none]) (C := C) 
      exact en_n (s := l44) rfl
    · intro s45
      have hh58 := ev_own (cb := cbN T (k + 2)) (σ := [some (.p (eTable table)), some (.p ((eL P.int) lefts)), some (.p (P.int v3)), some (.p (P.int v6)), some (.own ((List.map P.int) s45)), none, none, none]) (C := C) (C0 := C0) (i := 4) (List.map P.int) s45 rfl
      exact st_retv hh58
  · simp -implicitDefEqProofs only [g_least_rests, sF_bind, sF_no, sF_rt, sF_seq, sL_bind, sL_no, sL_rt, sL_seq, sN_bind, sN_no, sN_seq, sI_bind, sI_no, compM_pure, compM_all, M.bind_ok, M.bind_assoc, M.lo_ok, M.lo_assoc]
theorem okc_least_rests (k : Nat) (table : Table) (lefts : (List Int)) {C : CH} {C0 : CH → Prop} (hC : C0 C) : Im ((cbN T (k + 3)).call "least_rests" [.p (eTable table), .p ((eL P.int) lefts)] C) C0 (g_least_rests table lefts) (fun r => (RV.fr ((List.map P.int) r), C)) := by
  rw [cl_fn tf_least_rests]
  exact ok_least_rests k table lefts hC
/-- judge_floor -/
def g_judge_floor (table : Table) (numbers : (List Int)) (value : Int) : M Bool :=
  (g_check_few table).bind fun v3 =>
  let v6 : Int := (table.costs.length : Int)
  (shlM (1 : Int) v6).bind fun v9 =>
  if ((!true) || (!decide ((numbers.length : Int) = v9))) then
    M.ok false
  else
    if (!((numbers.map fun y17 => true && (decide ((0 : Int) ≤ y17))).all id)) then
      M.ok false
    else
      (((getI numbers (-(1 : Int))).bind fun x25 => M.ok (!decide (x25 = (0 : Int)))).bind fun x31 => if x31 then M.ok true else (getI numbers (0 : Int)).bind fun x29 => M.ok (decide (x29 < value))).bind fun c32 =>
      if c32 then
        M.ok false
      else
        (g_left_weights table).bind fun v35 =>
        (rngM 0 v9).bind fun l65 =>
        (loopO (R := Bool) (fun y39 s38 =>
          (rngM 0 v6).lo fun l63 =>
          (loopO (R := Bool) (fun y43 s42 =>
            ((((shrM y39 y43).bind fun x46 => M.ok (Builtin.bitAnd x46 (1 : Int))).bind fun x48 => M.ok (decide (x48 = (0 : Int)))).bind fun x60 => if x60 then (getI numbers y39).bind fun x52 => (g_price table v35 numbers y39 y43).bind fun x59 => M.ok (decide (x59 < x52)) else M.ok false).lo fun c61 =>
            if c61 then
              Lo.rt false
            else
              Lo.nx ()) l63 ()).sq fun s62 =>
          Lo.nx ()) l65 ()).thn fun s64 =>
        M.ok true
theorem ok_judge_floor (k : Nat) (table : Table) (numbers : (List Int)) (value : Int) {C : CH} {C0 : CH → Prop} (hC : C0 C) : Im (runFD (cbN T (k + 2)) F_judge_floor_0458 [.p (eTable table), .p ((eL P.int) numbers), .p (P.int value)] C) C0 (g_judge_floor table numbers value) (fun r => (RV.v (P.bl r), C)) := by
  refine fd_im (σ := [some (.p (eTable table)), some (.p ((eL P.int) numbers)), some (.p (P.int value)), none, none, none, none, none, none]) rfl ?_
  apply jx (K := sF C0 (fun r : Bool => (RV.v (P.bl r), C)))
  · have hh1 := ev_var (cb := cbN T (k + 2)) (σ := [some (.p (eTable table)), some (.p ((eL P.int) numbers)), some (.p (P.int value)), none, none, none, none, none, none]) (C := C) (C0 := C0) (i := 0) eTable table rfl
    have hh2 := es_nil (cb := cbN T (k + 2)) (σ := [some (.p (eTable table)), some (.p ((eL P.int) numbers)), some (.p (P.int value)), none, none, none, none, none, none]) (C := C) (C0 := C0)
    have hh3 := es_cons hh1 (fun _ => hh2)
    have hh4 := ev_call (f := "check_few") hh3 (fun g2 => (okc_check_few k g2.1 (C := C) hC))
    apply st_exp (σ := [some (.p (eTable table)), some (.p ((eL P.int) numbers)), some (.p (P.int value)), none, none, none, none, none, none]) (C := C) hh4
    intro v3
    have hh5 := ev_var (cb := cbN T (k + 2)) (σ := [some (.p (eTable table)), some (.p ((eL P.int) numbers)), some (.p (P.int value)), none, none, none, none, none, none]) (C := C) (C0 := C0) (i := 0) eTable table rfl
    have hh6 := ev_att (f := "costs") (enc := (eT P.int)) (g := fun z : Table => z.costs) hh5 (fun _ => att_Table_costs _ _) (fun _ => rfl)
    have hh7 := es_nil (cb := cbN T (k + 2)) (σ := [some (.p (eTable table)), some (.p ((eL P.int) numbers)), some (.p (P.int value)), none, none, none, none, none, none]) (C := C) (C0 := C0)
    have hh8 := es_cons hh6 (fun _ => hh7)
    have hh9 := ev_bi (f := .len) hh8 (fun _ => rfl) (fun g5 => (bc_lenT (C := C) (e := P.int)))
    apply st_set (σ := [some (.p (eTable table)), some (.p ((eL P.int) numbers)), some (.p (P.int value)), none, none, none, none, none, none]) (C := C) hh9 (fun _ => rfl)
    intro v6
    have hh10 := ev_con (cb := cbN T (k + 2)) (σ := [some (.p (eTable table)), some (.p ((eL P.int) numbers)), some (.p (P.int value)), some (.p (P.int v6)), none, none, none, none, none]) (C := C) (C0 := C0) P.int 1
    have hh11 := ev_var (cb := cbN T (k + 2)) (σ := [some (.p (eTable table)), some (.p ((eL P.int) numbers)), some (.p (P.int value)), some (.p (P.int v6)), none, none, none, none, none]) (C := C) (C0 := C0) (i := 3) P.int v6 rfl
    have hh12 := ev_bin (op := .shl) hh10 (fun _ => hh11) (fun _ _ => rfl) (fun _ _ => rfl) (fun x7 x8 => (bi_shl (C := C)))
    apply st_set (σ := [some (.p (eTable table)), some (.p ((eL P.int) numbers)), some (.p (P.int value)), some (.p (P.int v6)), none, none, none, none, none]) (C := C) hh12 (fun _ => rfl)
    intro v9
    have hh13 := ev_var (cb := cbN T (k + 2)) (σ := [some (.p (eTable table)), some (.p ((eL P.int) numbers)), some (.p (P.int value)), some (.p (P.int v6)), some (.p (P.int v9)), none, none, none, none]) (C := C) (C0 := C0) (i := 1) (eL P.int) numbers rfl
    have hh14 := ev_isi (t := fun _ => true) hh13 (fun _ => rfl) (fun _ => (isis_two (isi_list_list _) (isi_list_tuple _))) (fun _ => rfl)
    have hh15 := ev_not hh14 (fun _ => rfl)
    have hh16 := ev_var (cb := cbN T (k + 2)) (σ := [some (.p (eTable table)), some (.p ((eL P.int) numbers)), some (.p (P.int value)), some (.p (P.int v6)), some (.p (P.int v9)), none, none, none, none]) (C := C) (C0 := C0) (i := 1) (eL P.int) numbers rfl
    have hh17 := es_nil (cb := cbN T (k + 2)) (σ := [some (.p (eTable table)), some (.p ((eL P.int) numbers)), some (.p (P.int value)), some (.p (P.int v6)), some (.p (P.int v9)), none, none, none, none]) (C := C) (C0 := C0)
    have hh18 := es_cons hh16 (fun _ => hh17)
    have hh19 := ev_bi (f := .len) hh18 (fun _ => rfl) (fun g11 => (bc_len (C := C) (e := P.int)))
    have hh20 := ev_var (cb := cbN T (k + 2)) (σ := [some (.p (eTable table)), some (.p ((eL P.int) numbers)), some (.p (P.int value)), some (.p (P.int v6)), some (.p (P.int v9)), none, none, none, none]) (C := C) (C0 := C0) (i := 4) P.int v9 rfl
    have hh21 := ev_cmp (op := .ne) hh19 (fun _ => hh20) (fun _ _ => rfl) (fun _ _ => rfl) (fun x12 x13 => (im_cmp (C := C) (cp_ne (a := x12) (b := x13) de_int (by decide)))) (fun _ _ => rfl)
    have hh22 := orr_one hh21
    have hh23 := orr_consP hh15 hh22
    have hh24 := ev_or hh23
    apply st_ifs (σ := [some (.p (eTable table)), some (.p ((eL P.int) numbers)), some (.p (P.int value)), some (.p (P.int v6)), some (.p (P.int v9)), none, none, none, none]) (C := C) hh24 (fun _ => rfl)
    · intro c14
      have hh25 := ev_con (cb := cbN T (k + 2)) (σ := [some (.p (eTable table)), some (.p ((eL P.int) numbers)), some (.p (P.int value)), some (.p (P.int v6)), some (.p (P.int v9)), none, none, none, none]) (C := C) (C0 := C0) P.bl false
      exact st_ret hh25 nvw
    · intro c14
      have hh26 := ev_var (cb := cbN T (k + 2)) (σ := [some (.p (eTable table)), some (.p ((eL P.int) numbers)), some (.p (P.int value)), some (.p (P.int v6)), some (.p (P.int v9)), none, none, none, none]) (C := C) (C0 := C0) (i := 1) (eL P.int) numbers rfl
      have hh27 := es_nil (cb := cbN T (k + 2)) (σ := [some (.p (eTable table)), some (.p ((eL P.int) numbers)), some (.p (P.int value)), some (.p (P.int v6)), some (.p (P.int v9)), none, none, none, none]) (C := C) (C0 := C0)
      have hh28 := es_cons hh26 (fun _ => hh27)
      have hh29 := fun (y17 : Int) => ev_var (cb := cbN T (k + 2)) (σ := [some (.p (eTable table)), some (.p ((eL P.int) numbers)), some (.p (P.int value)), some (.p (P.int v6)), some (.p (P.int v9)), none, none, none, some (.p (P.int y17))]) (C := C) (C0 := C0) (i := 8) P.int y17 rfl
      have hh30 := fun (y17 : Int) => ev_isi (t := fun _ => true) (hh29 y17) (fun _ => rfl) (fun _ => (isi_int_int _)) (fun _ => rfl)
      have hh31 := fun (y17 : Int) => ev_var (cb := cbN T (k + 2)) (σ := [some (.p (eTable table)), some (.p ((eL P.int) numbers)), some (.p (P.int value)), some (.p (P.int v6)), some (.p (P.int v9)), none, none, none, some (.p (P.int y17))]) (C := C) (C0 := C0) (i := 8) P.int y17 rfl
      have hh32 := fun (y17 : Int) => ev_con (cb := cbN T (k + 2)) (σ := [some (.p (eTable table)), some (.p ((eL P.int) numbers)), some (.p (P.int value)), some (.p (P.int v6)), some (.p (P.int v9)), none, none, none, some (.p (P.int y17))]) (C := C) (C0 := C0) P.int 0
      have hh33 := fun (y17 : Int) => ev_cmp (op := .ge) (hh31 y17) (fun _ => (hh32 y17)) (fun _ _ => rfl) (fun _ _ => rfl) (fun x18 x19 => (im_cmp (C := C) cp_ge)) (fun _ _ => rfl)
      have hh34 := fun (y17 : Int) => an_one (hh33 y17)
      have hh35 := fun (y17 : Int) => an_consP (hh30 y17) (hh34 y17)
      have hh36 := fun (y17 : Int) => ev_and (hh35 y17)
      have hh37 := fun (y17 : Int) => an_nil (cb := cbN T (k + 2)) (σ := [some (.p (eTable table)), some (.p ((eL P.int) numbers)), some (.p (P.int value)), some (.p (P.int v6)), some (.p (P.int v9)), none, none, none, some (.p (P.int y17))]) (C := C) (C0 := C0)
      have hh38 := ev_compA (X := Int) (t := (.nm 8)) (kk := .val) (ez := P.bl) (σ' := fun y17 => [some (.p (eTable table)), some (.p ((eL P.int) numbers)), some (.p (P.int value)), some (.p (P.int v6)), some (.p (P.int v9)), none, none, none, some (.p (P.int y17))]) (f := fun y17 => true && (decide ((0 : Int) ≤ y17))) hh28 (fun g16 => (itt_lst (e := P.int))) (fun _ => rfl) (fun _ => rfl) (fun y17 => (hh36 y17)) (fun _ => rfl) (fun _ => rfl)
      have hh39 := es_nil (cb := cbN T (k + 2)) (σ := [some (.p (eTable table)), some (.p ((eL P.int) numbers)), some (.p (P.int value)), some (.p (P.int v6)), some (.p (P.int v9)), none, none, none, none]) (C := C) (C0 := C0)
      have hh40 := es_cons hh38 (fun _ => hh39)
      have hh41 := ev_bi (f := .alll) hh40 (fun _ => rfl) (fun g21 => (bc_alll (C := C)))
      have hh42 := ev_not hh41 (fun _ => rfl)
      apply st_ifs (σ := [some (.p (eTable table)), some (.p ((eL P.int) numbers)), some (.p (P.int value)), some (.p (P.int v6)), some (.p (P.int v9)), none, none, none, none]) (C := C) hh42 (fun _ => rfl)
      · intro c22
        have hh43 := ev_con (cb := cbN T (k + 2)) (σ := [some (.p (eTable table)), some (.p ((eL P.int) numbers)), some (.p (P.int value)), some (.p (P.int v6)), some (.p (P.int v9)), none, none, none, none]) (C := C) (C0 := C0) P.bl false
        exact st_ret hh43 nvw
      · intro c22
        have hh44 := ev_var (cb := cbN T (k + 2)) (σ := [some (.p (eTable table)), some (.p ((eL P.int) numbers)), some (.p (P.int value)), some (.p (P.int v6)), some (.p (P.int v9)), none, none, none, none]) (C := C) (C0 := C0) (i := 1) (eL P.int) numbers rfl
        have hh45 := ev_con (cb := cbN T (k + 2)) (σ := [some (.p (eTable table)), some (.p ((eL P.int) numbers)), some (.p (P.int value)), some (.p (P.int v6)), some (.p (P.int v9)), none, none, none, none]) (C := C) (C0 := C0) P.int 1
        have hh46 := ev_neg hh45 (fun _ => rfl)
        have hh47 := ev_sub hh44 (fun _ => hh46) (fun _ _ => rfl) (fun _ _ => rfl) (fun x23 x24 => (sb_lst (C := C) (e := P.int)))
        have hh48 := ev_con (cb := cbN T (k + 2)) (σ := [some (.p (eTable table)), some (.p ((eL P.int) numbers)), some (.p (P.int value)), some (.p (P.int v6)), some (.p (P.int v9)), none, none, none, none]) (C := C) (C0 := C0) P.int 0
        have hh49 := ev_cmp (op := .ne) hh47 (fun _ => hh48) (fun _ _ => rfl) (fun _ _ => rfl) (fun x25 x26 => (im_cmp (C := C) (cp_ne (a := x25) (b := x26) de_int (by decide)))) (fun _ _ => rfl)
        have hh50 := ev_var (cb := cbN T (k + 2)) (σ := [some (.p (eTable table)), some (.p ((eL P.int) numbers)), some (.p (P.int value)), some (.p (P.int v6)), some (.p (P.int v9)), none, none, none, none]) (C := C) (C0 := C0) (i := 1) (eL P.int) numbers rfl
        have hh51 := ev_var (cb := cbN T (k + 2)) (σ := [some (.p (eTable table)), some (.p ((eL P.int) numbers)), some (.p (P.int value)), some (.p (P.int v6)), some (.p (P.int v9)), none, none, none, none]) (C := C) (C0 := C0) (i := 1) (eL P.int) numbers rfl
        have hh52 := ev_con (cb := cbN T (k + 2)) (σ := [some (.p (eTable table)), some (.p ((eL P.int) numbers)), some (.p (P.int value)), some (.p (P.int v6)), some (.p (P.int v9)), none, none, none, none]) (C := C) (C0 := C0) P.int 0
        have hh53 := ev_sub hh51 (fun _ => hh52) (fun _ _ => rfl) (fun _ _ => rfl) (fun x27 x28 => (sb_lst (C := C) (e := P.int)))
        have hh54 := ev_var (cb := cbN T (k + 2)) (σ := [some (.p (eTable table)), some (.p ((eL P.int) numbers)), some (.p (P.int value)), some (.p (P.int v6)), some (.p (P.int v9)), none, none, none, none]) (C := C) (C0 := C0) (i := 2) P.int value rfl
        have hh55 := ev_cmp (op := .lt) hh53 (fun _ => hh54) (fun _ _ => rfl) (fun _ _ => rfl) (fun x29 x30 => (im_cmp (C := C) cp_lt)) (fun _ _ => rfl)
        have hh56 := orr_one hh55
        have hh57 := orr_cons hh49 hh56
        have hh58 := ev_or hh57
        apply st_ifs (σ := [some (.p (eTable table)), some (.p ((eL P.int) numbers)), some (.p (P.int value)), some (.p (P.int v6)), some (.p (P.int v9)), none, none, none, none]) (C := C) hh58 (fun _ => rfl)
        · intro c32
          have hh59 := ev_con (cb := cbN T (k + 2)) (σ := [some (.p (eTable table)), some (.p ((eL P.int) numbers)), some (.p (P.int value)), some (.p (P.int v6)), some (.p (P.int v9)), none, none, none, none]) (C := C) (C0 := C0) P.bl false
          exact st_ret hh59 nvw
        · intro c32
          have hh60 := ev_var (cb := cbN T (k + 2)) (σ := [some (.p (eTable table)), some (.p ((eL P.int) numbers)), some (.p (P.int value)), some (.p (P.int v6)), some (.p (P.int v9)), none, none, none, none]) (C := C) (C0 := C0) (i := 0) eTable table rfl
          have hh61 := es_nil (cb := cbN T (k + 2)) (σ := [some (.p (eTable table)), some (.p ((eL P.int) numbers)), some (.p (P.int value)), some (.p (P.int v6)), some (.p (P.int v9)), none, none, none, none]) (C := C) (C0 := C0)
          have hh62 := es_cons hh60 (fun _ => hh61)
          have hh63 := ev_call (f := "left_weights") hh62 (fun g34 => (okc_left_weights k g34.1 (C := C) hC))
          apply st_set (σ := [some (.p (eTable table)), some (.p ((eL P.int) numbers)), some (.p (P.int value)), some (.p (P.int v6)), some (.p (P.int v9)), none, none, none, none]) (C := C) hh63 (fun _ => rfl)
          intro v35
          have hh64 := ev_var (cb := cbN T (k + 2)) (σ := [some (.p (eTable table)), some (.p ((eL P.int) numbers)), some (.p (P.int value)), some (.p (P.int v6)), some (.p (P.int v9)), some (.p ((eL P.int) v35)), none, none, none]) (C := C) (C0 := C0) (i := 4) P.int v9 rfl
          have hh65 := es_nil (cb := cbN T (k + 2)) (σ := [some (.p (eTable table)), some (.p ((eL P.int) numbers)), some (.p (P.int value)), some (.p (P.int v6)), some (.p (P.int v9)), some (.p ((eL P.int) v35)), none, none, none]) (C := C) (C0 := C0)
          have hh66 := es_cons hh64 (fun _ => hh65)
          apply st_for (σ := [some (.p (eTable table)), some (.p ((eL P.int) numbers)), some (.p (P.int value)), some (.p (P.int v6)), some (.p (P.int v9)), some (.p ((eL P.int) v35)), none, none, none]) (C := C) (s0 := fun g37 => ()) (ex := P.int) (ρ := fun s38 : Unit => ([some (.p (eTable table)), some (.p ((eL P.int) numbers)), some (.p (P.int value)), some (.p (P.int v6)), some (.p (P.int v9)), some (.p ((eL P.int) v35)), none, none, none], C)) hh66 (fun g37 => itt_rng1) (fun _ => rfl) (fun _ _ => rfl)
          · intro y39 s38
            have hh67 := ev_var (cb := cbN T (k + 2)) (σ := [some (.p (eTable table)), some (.p ((eL P.int) numbers)), some (.p (P.int value)), some (.p (P.int v6)), some (.p (P.int v9)), some (.p ((eL P.int) v35)), some (.p (P.int y39)), none, none]) (C := C) (C0 := C0) (i := 3) P.int v6 rfl
            have hh68 := es_nil (cb := cbN T (k + 2)) (σ := [some (.p (eTable table)), some (.p ((eL P.int) numbers)), some (.p (P.int value)), some (.p (P.int v6)), some (.p (P.int v9)), some (.p ((eL P.int) v35)), some (.p (P.int y39)), none, none]) (C := C) (C0 := C0)
            have hh69 := es_cons hh67 (fun _ => hh68)
            apply st_for (σ := [some (.p (eTable table)), some (.p ((eL P.int) numbers)), some (.p (P.int value)), some (.p (P.int v6)), some (.p (P.int v9)), some (.p ((eL P.int) v35)), some (.p (P.int y39)), none, none]) (C := C) (s0 := fun g41 => ()) (ex := P.int) (ρ := fun s42 : Unit => ([some (.p (eTable table)), some (.p ((eL P.int) numbers)), some (.p (P.int value)), some (.p (P.int v6)), some (.p (P.int v9)), some (.p ((eL P.int) v35)), some (.p (P.int y39)), none, none], C)) hh69 (fun g41 => itt_rng1) (fun _ => rfl) (fun _ _ => rfl)
            · intro y43 s42
              have hh70 := ev_var (cb := cbN T (k + 2)) (σ := [some (.p (eTable table)), some (.p ((eL P.int) numbers)), some (.p (P.int value)), some (.p (P.int v6)), some (.p (P.int v9)), some (.p ((eL P.int) v35)), some (.p (P.int y39)), some (.p (P.int y43)), none]) (C := C) (C0 := C0) (i := 6) P.int y39 rfl
              have hh71 := ev_var (cb := cbN T (k + 2)) (σ := [some (.p (eTable table)), some (.p ((eL P.int) numbers)), some (.p (P.int value)), some (.p (P.int v6)), some (.p (P.int v9)), some (.p ((eL P.int) v35)), some (.p (P.int y39)), some (.p (P.int y43)), none]) (C := C) (C0 := C0) (i := 7) P.int y43 rfl
              have hh72 := ev_bin (op := .shr) hh70 (fun _ => hh71) (fun _ _ => rfl) (fun _ _ => rfl) (fun x44 x45 => (bi_shr (C := C)))
              have hh73 := ev_con (cb := cbN T (k + 2)) (σ := [some (.p (eTable table)), some (.p ((eL P.int) numbers)), some (.p (P.int value)), some (.p (P.int v6)), some (.p (P.int v9)), some (.p ((eL P.int) v35)), some (.p (P.int y39)), some (.p (P.int y43)), none]) (C := C) (C0 := C0) P.int 1
              have hh74 := ev_bin (op := .band) hh72 (fun _ => hh73) (fun _ _ => rfl) (fun _ _ => rfl) (fun x46 x47 => (bi_band (C := C)))
              have hh75 := ev_con (cb := cbN T (k + 2)) (σ := [some (.p (eTable table)), some (.p ((eL P.int) numbers)), some (.p (P.int value)), some (.p (P.int v6)), some (.p (P.int v9)), some (.p ((eL P.int) v35)), some (.p (P.int y39)), some (.p (P.int y43)), none]) (C := C) (C0 := C0) P.int 0
              have hh76 := ev_cmp (op := .eq) hh74 (fun _ => hh75) (fun _ _ => rfl) (fun _ _ => rfl) (fun x48 x49 => (im_cmp (C := C) (cp_eq (a := x48) (b := x49) de_int (by decide)))) (fun _ _ => rfl)
              have hh77 := ev_var (cb := cbN T (k + 2)) (σ := [some (.p (eTable table)), some (.p ((eL P.int) numbers)), some (.p (P.int value)), some (.p (P.int v6)), some (.p (P.int v9)), some (.p ((eL P.int) v35)), some (.p (P.int y39)), some (.p (P.int y43)), none]) (C := C) (C0 := C0) (i := 1) (eL P.int) numbers rfl
              have hh78 := ev_var (cb := cbN T (k + 2)) (σ := [some (.p (eTable table)), some (.p ((eL P.int) numbers)), some (.p (P.int value)), some (.p (P.int v6)), some (.p (P.int v9)), some (.p ((eL P.int) v35)), some (.p (P.int y39)), some (.p (P.int y43)), none]) (C := C) (C0 := C0) (i := 6) P.int y39 rfl
              have hh79 := ev_sub hh77 (fun _ => hh78) (fun _ _ => rfl) (fun _ _ => rfl) (fun x50 x51 => (sb_lst (C := C) (e := P.int)))
              have hh80 := ev_var (cb := cbN T (k + 2)) (σ := [some (.p (eTable table)), some (.p ((eL P.int) numbers)), some (.p (P.int value)), some (.p (P.int v6)), some (.p (P.int v9)), some (.p ((eL P.int) v35)), some (.p (P.int y39)), some (.p (P.int y43)), none]) (C := C) (C0 := C0) (i := 0) eTable table rfl
              have hh81 := ev_var (cb := cbN T (k + 2)) (σ := [some (.p (eTable table)), some (.p ((eL P.int) numbers)), some (.p (P.int value)), some (.p (P.int v6)), some (.p (P.int v9)), some (.p ((eL P.int) v35)), some (.p (P.int y39)), some (.p (P.int y43)), none]) (C := C) (C0 := C0) (i := 5) (eL P.int) v35 rfl
              have hh82 := ev_var (cb := cbN T (k + 2)) (σ := [some (.p (eTable table)), some (.p ((eL P.int) numbers)), some (.p (P.int value)), some (.p (P.int v6)), some (.p (P.int v9)), some (.p ((eL P.int) v35)), some (.p (P.int y39)), some (.p (P.int y43)), none]) (C := C) (C0 := C0) (i := 1) (eL P.int) numbers rfl
              have hh83 := ev_var (cb := cbN T (k + 2)) (σ := [some (.p (eTable table)), some (.p ((eL P.int) numbers)), some (.p (P.int value)), some (.p (P.int v6)), some (.p (P.int v9)), some (.p ((eL P.int) v35)), some (.p (P.int y39)), some (.p (P.int y43)), none]) (C := C) (C0 := C0) (i := 6) P.int y39 rfl
              have hh84 := ev_var (cb := cbN T (k + 2)) (σ := [some (.p (eTable table)), some (.p ((eL P.int) numbers)), some (.p (P.int value)), some (.p (P.int v6)), some (.p (P.int v9)), some (.p ((eL P.int) v35)), some (.p (P.int y39)), some (.p (P.int y43)), none]) (C := C) (C0 := C0) (i := 7) P.int y43 rfl
              have hh85 := es_nil (cb := cbN T (k + 2)) (σ := [some (.p (eTable table)), some (.p ((eL P.int) numbers)), some (.p (P.int value)), some (.p (P.int v6)), some (.p (P.int v9)), some (.p ((eL P.int) v35)), some (.p (P.int y39)), some (.p (P.int y43)), none]) (C := C) (C0 := C0)
              have hh86 := es_cons hh84 (fun _ => hh85)
              have hh87 := es_cons hh83 (fun _ => hh86)
              have hh88 := es_cons hh82 (fun _ => hh87)
              have hh89 := es_cons hh81 (fun _ => hh88)
              have hh90 := es_cons hh80 (fun _ => hh89)
              have hh91 := ev_call (f := "price") hh90 (fun g58 => (okc_price k g58.1 g58.2.1 g58.2.2.1 g58.2.2.2.1 g58.2.2.2.2.1 (C := C) hC))
              have hh92 := ev_cmp (op := .gt) hh79 (fun _ => hh91) (fun _ _ => rfl) (fun _ _ => rfl) (fun x52 x59 => (im_cmp (C := C) cp_gt)) (fun _ _ => rfl)
              have hh93 := an_one hh92
              have hh94 := an_cons hh76 hh93
              have hh95 := ev_and hh94
              apply st_ifs (σ := [some (.p (eTable table)), some (.p ((eL P.int) numbers)), some (.p (P.int value)), some (.p (P.int v6)), some (.p (P.int v9)), some (.p ((eL P.int) v35)), some (.p (P.int y39)), some (.p (P.int y43)), none]) (C := C) hh95 (fun _ => rfl)
              · intro c61
                have hh96 := ev_con (cb := cbN T (k + 2)) (σ := [some (.p (eTable table)), some (.p ((eL P.int) numbers)), some (.p (P.int value)), some (.p (P.int v6)), some (.p (P.int v9)), some (.p ((eL P.int) v35)), some (.p (P.int y39)), some (.p (P.int y43)), none]) (C := C) (C0 := C0) P.bl false
                exact st_ret hh96 nvw
              · intro c61
                apply st_drop (σ := [some (.p (eTable table)), some (.p ((eL P.int) numbers)), some (.p (P.int value)), some (.p (P.int v6)), some (.p (P.int v9)), some (.p ((eL P.int) v35)), some (.p (P.int y39)), some (.p (P.int y43)), none]) (C := C) 
                exact en_l (s := ()) rfl
            · intro s62
              apply st_drop (σ := [some (.p (eTable table)), some (.p ((eL P.int) numbers)), some (.p (P.int value)), some (.p (P.int v6)), some (.p (P.int v9)), some (.p ((eL P.int) v35)), some (.p (P.int y39)), none, none]) (C := C) 
              apply st_drop (σ := [some (.p (eTable table)), some (.p ((eL P.int) numbers)), some (.p (P.int value)), some (.p (P.int v6)), some (.p (P.int v9)), some (.p ((eL P.int) v35)), none, none, none]) (C := C) 
              exact en_l (s := ()) rfl
          · intro s64
            have hh97 := ev_con (cb := cbN T (k + 2)) (σ := [some (.p (eTable table)), some (.p ((eL P.int) numbers)), some (.p (P.int value)), some (.p (P.int v6)), some (.p (P.int v9)), some (.p ((eL P.int) v35)), none, none, none]) (C := C) (C0 := C0) P.bl true
            exact st_ret hh97 nvw
  · simp -implicitDefEqProofs only [g_judge_floor, sF_bind, sF_no, sF_rt, sF_seq, sL_bind, sL_no, sL_rt, sL_seq, sN_bind, sN_no, sN_seq, sI_bind, sI_no, compM_pure, compM_all, M.bind_ok, M.bind_assoc, M.lo_ok, M.lo_assoc]
theorem okc_judge_floor (k : Nat) (table : Table) (numbers : (List Int)) (value : Int) {C : CH} {C0 : CH → Prop} (hC : C0 C) : Im ((cbN T (k + 3)).call "judge_floor" [.p (eTable table), .p ((eL P.int) numbers), .p (P.int value)] C) C0 (g_judge_floor table numbers value) (fun r => (RV.v (P.bl r), C)) := by
  rw [cl_fn tf_judge_floor]
  exact ok_judge_floor k table numbers value hC
/-- judge_floor.t -/
def g_judge_floor_t (table : Table) (numbers : (List Int)) (value : Int) : M Bool :=
  (g_check_few table).bind fun v3 =>
  let v6 : Int := (table.costs.length : Int)
  (shlM (1 : Int) v6).bind fun v9 =>
  if ((!true) || (!decide ((numbers.length : Int) = v9))) then
    M.ok false
  else
    if (!((numbers.map fun y17 => true && (decide ((0 : Int) ≤ y17))).all id)) then
      M.ok false
    else
      (((getI numbers (-(1 : Int))).bind fun x25 => M.ok (!decide (x25 = (0 : Int)))).bind fun x31 => if x31 then M.ok true else (getI numbers (0 : Int)).bind fun x29 => M.ok (decide (x29 < value))).bind fun c32 =>
      if c32 then
        M.ok false
      else
        (g_left_weights table).bind fun v35 =>
        (rngM 0 v9).bind fun l65 =>
        (loopO (R := Bool) (fun y39 s38 =>
          (rngM 0 v6).lo fun l63 =>
          (loopO (R := Bool) (fun y43 s42 =>
            ((((shrM y39 y43).bind fun x46 => M.ok (Builtin.bitAnd x46 (1 : Int))).bind fun x48 => M.ok (decide (x48 = (0 : Int)))).bind fun x60 => if x60 then (getI numbers y39).bind fun x52 => (g_price_t table v35 numbers y39 y43).bind fun x59 => M.ok (decide (x59 < x52)) else M.ok false).lo fun c61 =>
            if c61 then
              Lo.rt false
            else
              Lo.nx ()) l63 ()).sq fun s62 =>
          Lo.nx ()) l65 ()).thn fun s64 =>
        M.ok true
theorem ok_judge_floor_t (k : Nat) (table : Table) (numbers : (List Int)) (value : Int) {C : CH} {C0 : CH → Prop} (hC : C0 C) : Im (runFD (cbN T (k + 2)) F_judge_floor_0458 [.p (eTable table), .p ((eT P.int) numbers), .p (P.int value)] C) C0 (g_judge_floor_t table numbers value) (fun r => (RV.v (P.bl r), C)) := by
  refine fd_im (σ := [some (.p (eTable table)), some (.p ((eT P.int) numbers)), some (.p (P.int value)), none, none, none, none, none, none]) rfl ?_
  apply jx (K := sF C0 (fun r : Bool => (RV.v (P.bl r), C)))
  · have hh1 := ev_var (cb := cbN T (k + 2)) (σ := [some (.p (eTable table)), some (.p ((eT P.int) numbers)), some (.p (P.int value)), none, none, none, none, none, none]) (C := C) (C0 := C0) (i := 0) eTable table rfl
    have hh2 := es_nil (cb := cbN T (k + 2)) (σ := [some (.p (eTable table)), some (.p ((eT P.int) numbers)), some (.p (P.int value)), none, none, none, none, none, none]) (C := C) (C0 := C0)
    have hh3 := es_cons hh1 (fun _ => hh2)
    have hh4 := ev_call (f := "check_few") hh3 (fun g2 => (okc_check_few k g2.1 (C := C) hC))
    apply st_exp (σ := [some (.p (eTable table)), some (.p ((eT P.int) numbers)), some (.p (P.int value)), none, none, none, none, none, none]) (C := C) hh4
    intro v3
    have hh5 := ev_var (cb := cbN T (k + 2)) (σ := [some (.p (eTable table)), some (.p ((eT P.int) numbers)), some (.p (P.int value)), none, none, none, none, none, none]) (C := C) (C0 := C0) (i := 0) eTable table rfl
    have hh6 := ev_att (f := "costs") (enc := (eT P.int)) (g := fun z : Table => z.costs) hh5 (fun _ => att_Table_costs _ _) (fun _ => rfl)
    have hh7 := es_nil (cb := cbN T (k + 2)) (σ := [some (.p (eTable table)), some (.p ((eT P.int) numbers)), some (.p (P.int value)), none, none, none, none, none, none]) (C := C) (C0 := C0)
    have hh8 := es_cons hh6 (fun _ => hh7)
    have hh9 := ev_bi (f := .len) hh8 (fun _ => rfl) (fun g5 => (bc_lenT (C := C) (e := P.int)))
    apply st_set (σ := [some (.p (eTable table)), some (.p ((eT P.int) numbers)), some (.p (P.int value)), none, none, none, none, none, none]) (C := C) hh9 (fun _ => rfl)
    intro v6
    have hh10 := ev_con (cb := cbN T (k + 2)) (σ := [some (.p (eTable table)), some (.p ((eT P.int) numbers)), some (.p (P.int value)), some (.p (P.int v6)), none, none, none, none, none]) (C := C) (C0 := C0) P.int 1
    have hh11 := ev_var (cb := cbN T (k + 2)) (σ := [some (.p (eTable table)), some (.p ((eT P.int) numbers)), some (.p (P.int value)), some (.p (P.int v6)), none, none, none, none, none]) (C := C) (C0 := C0) (i := 3) P.int v6 rfl
    have hh12 := ev_bin (op := .shl) hh10 (fun _ => hh11) (fun _ _ => rfl) (fun _ _ => rfl) (fun x7 x8 => (bi_shl (C := C)))
    apply st_set (σ := [some (.p (eTable table)), some (.p ((eT P.int) numbers)), some (.p (P.int value)), some (.p (P.int v6)), none, none, none, none, none]) (C := C) hh12 (fun _ => rfl)
    intro v9
    have hh13 := ev_var (cb := cbN T (k + 2)) (σ := [some (.p (eTable table)), some (.p ((eT P.int) numbers)), some (.p (P.int value)), some (.p (P.int v6)), some (.p (P.int v9)), none, none, none, none]) (C := C) (C0 := C0) (i := 1) (eT P.int) numbers rfl
    have hh14 := ev_isi (t := fun _ => true) hh13 (fun _ => rfl) (fun _ => (isis_two (isi_tuple_list _) (isi_tuple_tuple _))) (fun _ => rfl)
    have hh15 := ev_not hh14 (fun _ => rfl)
    have hh16 := ev_var (cb := cbN T (k + 2)) (σ := [some (.p (eTable table)), some (.p ((eT P.int) numbers)), some (.p (P.int value)), some (.p (P.int v6)), some (.p (P.int v9)), none, none, none, none]) (C := C) (C0 := C0) (i := 1) (eT P.int) numbers rfl
    have hh17 := es_nil (cb := cbN T (k + 2)) (σ := [some (.p (eTable table)), some (.p ((eT P.int) numbers)), some (.p (P.int value)), some (.p (P.int v6)), some (.p (P.int v9)), none, none, none, none]) (C := C) (C0 := C0)
    have hh18 := es_cons hh16 (fun _ => hh17)
    have hh19 := ev_bi (f := .len) hh18 (fun _ => rfl) (fun g11 => (bc_lenT (C := C) (e := P.int)))
    have hh20 := ev_var (cb := cbN T (k + 2)) (σ := [some (.p (eTable table)), some (.p ((eT P.int) numbers)), some (.p (P.int value)), some (.p (P.int v6)), some (.p (P.int v9)), none, none, none, none]) (C := C) (C0 := C0) (i := 4) P.int v9 rfl
    have hh21 := ev_cmp (op := .ne) hh19 (fun _ => hh20) (fun _ _ => rfl) (fun _ _ => rfl) (fun x12 x13 => (im_cmp (C := C) (cp_ne (a := x12) (b := x13) de_int (by decide)))) (fun _ _ => rfl)
    have hh22 := orr_one hh21
    have hh23 := orr_consP hh15 hh22
    have hh24 := ev_or hh23
    apply st_ifs (σ := [some (.p (eTable table)), some (.p ((eT P.int) numbers)), some (.p (P.int value)), some (.p (P.int v6)), some (.p (P.int v9)), none, none, none, none]) (C := C) hh24 (fun _ => rfl)
    · intro c14
      have hh25 := ev_con (cb := cbN T (k + 2)) (σ := [some (.p (eTable table)), some (.p ((eT P.int) numbers)), some (.p (P.int value)), some (.p (P.int v6)), some (.p (P.int v9)), none, none, none, none]) (C := C) (C0 := C0) P.bl false
      exact st_ret hh25 nvw
    · intro c14
      have hh26 := ev_var (cb := cbN T (k + 2)) (σ := [some (.p (eTable table)), some (.p ((eT P.int) numbers)), some (.p (P.int value)), some (.p (P.int v6)), some (.p (P.int v9)), none, none, none, none]) (C := C) (C0 := C0) (i := 1) (eT P.int) numbers rfl
      have hh27 := es_nil (cb := cbN T (k + 2)) (σ := [some (.p (eTable table)), some (.p ((eT P.int) numbers)), some (.p (P.int value)), some (.p (P.int v6)), some (.p (P.int v9)), none, none, none, none]) (C := C) (C0 := C0)
      have hh28 := es_cons hh26 (fun _ => hh27)
      have hh29 := fun (y17 : Int) => ev_var (cb := cbN T (k + 2)) (σ := [some (.p (eTable table)), some (.p ((eT P.int) numbers)), some (.p (P.int value)), some (.p (P.int v6)), some (.p (P.int v9)), none, none, none, some (.p (P.int y17))]) (C := C) (C0 := C0) (i := 8) P.int y17 rfl
      have hh30 := fun (y17 : Int) => ev_isi (t := fun _ => true) (hh29 y17) (fun _ => rfl) (fun _ => (isi_int_int _)) (fun _ => rfl)
      have hh31 := fun (y17 : Int) => ev_var (cb := cbN T (k + 2)) (σ := [some (.p (eTable table)), some (.p ((eT P.int) numbers)), some (.p (P.int value)), some (.p (P.int v6)), some (.p (P.int v9)), none, none, none, some (.p (P.int y17))]) (C := C) (C0 := C0) (i := 8) P.int y17 rfl
      have hh32 := fun (y17 : Int) => ev_con (cb := cbN T (k + 2)) (σ := [some (.p (eTable table)), some (.p ((eT P.int) numbers)), some (.p (P.int value)), some (.p (P.int v6)), some (.p (P.int v9)), none, none, none, some (.p (P.int y17))]) (C := C) (C0 := C0) P.int 0
      have hh33 := fun (y17 : Int) => ev_cmp (op := .ge) (hh31 y17) (fun _ => (hh32 y17)) (fun _ _ => rfl) (fun _ _ => rfl) (fun x18 x19 => (im_cmp (C := C) cp_ge)) (fun _ _ => rfl)
      have hh34 := fun (y17 : Int) => an_one (hh33 y17)
      have hh35 := fun (y17 : Int) => an_consP (hh30 y17) (hh34 y17)
      have hh36 := fun (y17 : Int) => ev_and (hh35 y17)
      have hh37 := fun (y17 : Int) => an_nil (cb := cbN T (k + 2)) (σ := [some (.p (eTable table)), some (.p ((eT P.int) numbers)), some (.p (P.int value)), some (.p (P.int v6)), some (.p (P.int v9)), none, none, none, some (.p (P.int y17))]) (C := C) (C0 := C0)
      have hh38 := ev_compA (X := Int) (t := (.nm 8)) (kk := .val) (ez := P.bl) (σ' := fun y17 => [some (.p (eTable table)), some (.p ((eT P.int) numbers)), some (.p (P.int value)), some (.p (P.int v6)), some (.p (P.int v9)), none, none, none, some (.p (P.int y17))]) (f := fun y17 => true && (decide ((0 : Int) ≤ y17))) hh28 (fun g16 => (itt_tup (e := P.int))) (fun _ => rfl) (fun _ => rfl) (fun y17 => (hh36 y17)) (fun _ => rfl) (fun _ => rfl)
      have hh39 := es_nil (cb := cbN T (k + 2)) (σ := [some (.p (eTable table)), some (.p ((eT P.int) numbers)), some (.p (P.int value)), some (.p (P.int v6)), some (.p (P.int v9)), none, none, none, none]) (C := C) (C0 := C0)
      have hh40 := es_cons hh38 (fun _ => hh39)
      have hh41 := ev_bi (f := .alll) hh40 (fun _ => rfl) (fun g21 => (bc_alll (C := C)))
      have hh42 := ev_not hh41 (fun _ => rfl)
      apply st_ifs (σ := [some (.p (eTable table)), some (.p ((eT P.int) numbers)), some (.p (P.int value)), some (.p (P.int v6)), some (.p (P.int v9)), none, none, none, none]) (C := C) hh42 (fun _ => rfl)
      · intro c22
        have hh43 := ev_con (cb := cbN T (k + 2)) (σ := [some (.p (eTable table)), some (.p ((eT P.int) numbers)), some (.p (P.int value)), some (.p (P.int v6)), some (.p (P.int v9)), none, none, none, none]) (C := C) (C0 := C0) P.bl false
        exact st_ret hh43 nvw
      · intro c22
        have hh44 := ev_var (cb := cbN T (k + 2)) (σ := [some (.p (eTable table)), some (.p ((eT P.int) numbers)), some (.p (P.int value)), some (.p (P.int v6)), some (.p (P.int v9)), none, none, none, none]) (C := C) (C0 := C0) (i := 1) (eT P.int) numbers rfl
        have hh45 := ev_con (cb := cbN T (k + 2)) (σ := [some (.p (eTable table)), some (.p ((eT P.int) numbers)), some (.p (P.int value)), some (.p (P.int v6)), some (.p (P.int v9)), none, none, none, none]) (C := C) (C0 := C0) P.int 1
        have hh46 := ev_neg hh45 (fun _ => rfl)
        have hh47 := ev_sub hh44 (fun _ => hh46) (fun _ _ => rfl) (fun _ _ => rfl) (fun x23 x24 => (sb_tup (C := C) (e := P.int)))
        have hh48 := ev_con (cb := cbN T (k + 2)) (σ := [some (.p (eTable table)), some (.p ((eT P.int) numbers)), some (.p (P.int value)), some (.p (P.int v6)), some (.p (P.int v9)), none, none, none, none]) (C := C) (C0 := C0) P.int 0
        have hh49 := ev_cmp (op := .ne) hh47 (fun _ => hh48) (fun _ _ => rfl) (fun _ _ => rfl) (fun x25 x26 => (im_cmp (C := C) (cp_ne (a := x25) (b := x26) de_int (by decide)))) (fun _ _ => rfl)
        have hh50 := ev_var (cb := cbN T (k + 2)) (σ := [some (.p (eTable table)), some (.p ((eT P.int) numbers)), some (.p (P.int value)), some (.p (P.int v6)), some (.p (P.int v9)), none, none, none, none]) (C := C) (C0 := C0) (i := 1) (eT P.int) numbers rfl
        have hh51 := ev_var (cb := cbN T (k + 2)) (σ := [some (.p (eTable table)), some (.p ((eT P.int) numbers)), some (.p (P.int value)), some (.p (P.int v6)), some (.p (P.int v9)), none, none, none, none]) (C := C) (C0 := C0) (i := 1) (eT P.int) numbers rfl
        have hh52 := ev_con (cb := cbN T (k + 2)) (σ := [some (.p (eTable table)), some (.p ((eT P.int) numbers)), some (.p (P.int value)), some (.p (P.int v6)), some (.p (P.int v9)), none, none, none, none]) (C := C) (C0 := C0) P.int 0
        have hh53 := ev_sub hh51 (fun _ => hh52) (fun _ _ => rfl) (fun _ _ => rfl) (fun x27 x28 => (sb_tup (C := C) (e := P.int)))
        have hh54 := ev_var (cb := cbN T (k + 2)) (σ := [some (.p (eTable table)), some (.p ((eT P.int) numbers)), some (.p (P.int value)), some (.p (P.int v6)), some (.p (P.int v9)), none, none, none, none]) (C := C) (C0 := C0) (i := 2) P.int value rfl
        have hh55 := ev_cmp (op := .lt) hh53 (fun _ => hh54) (fun _ _ => rfl) (fun _ _ => rfl) (fun x29 x30 => (im_cmp (C := C) cp_lt)) (fun _ _ => rfl)
        have hh56 := orr_one hh55
        have hh57 := orr_cons hh49 hh56
        have hh58 := ev_or hh57
        apply st_ifs (σ := [some (.p (eTable table)), some (.p ((eT P.int) numbers)), some (.p (P.int value)), some (.p (P.int v6)), some (.p (P.int v9)), none, none, none, none]) (C := C) hh58 (fun _ => rfl)
        · intro c32
          have hh59 := ev_con (cb := cbN T (k + 2)) (σ := [some (.p (eTable table)), some (.p ((eT P.int) numbers)), some (.p (P.int value)), some (.p (P.int v6)), some (.p (P.int v9)), none, none, none, none]) (C := C) (C0 := C0) P.bl false
          exact st_ret hh59 nvw
        · intro c32
          have hh60 := ev_var (cb := cbN T (k + 2)) (σ := [some (.p (eTable table)), some (.p ((eT P.int) numbers)), some (.p (P.int value)), some (.p (P.int v6)), some (.p (P.int v9)), none, none, none, none]) (C := C) (C0 := C0) (i := 0) eTable table rfl
          have hh61 := es_nil (cb := cbN T (k + 2)) (σ := [some (.p (eTable table)), some (.p ((eT P.int) numbers)), some (.p (P.int value)), some (.p (P.int v6)), some (.p (P.int v9)), none, none, none, none]) (C := C) (C0 := C0)
          have hh62 := es_cons hh60 (fun _ => hh61)
          have hh63 := ev_call (f := "left_weights") hh62 (fun g34 => (okc_left_weights k g34.1 (C := C) hC))
          apply st_set (σ := [some (.p (eTable table)), some (.p ((eT P.int) numbers)), some (.p (P.int value)), some (.p (P.int v6)), some (.p (P.int v9)), none, none, none, none]) (C := C) hh63 (fun _ => rfl)
          intro v35
          have hh64 := ev_var (cb := cbN T (k + 2)) (σ := [some (.p (eTable table)), some (.p ((eT P.int) numbers)), some (.p (P.int value)), some (.p (P.int v6)), some (.p (P.int v9)), some (.p ((eL P.int) v35)), none, none, none]) (C := C) (C0 := C0) (i := 4) P.int v9 rfl
          have hh65 := es_nil (cb := cbN T (k + 2)) (σ := [some (.p (eTable table)), some (.p ((eT P.int) numbers)), some (.p (P.int value)), some (.p (P.int v6)), some (.p (P.int v9)), some (.p ((eL P.int) v35)), none, none, none]) (C := C) (C0 := C0)
          have hh66 := es_cons hh64 (fun _ => hh65)
          apply st_for (σ := [some (.p (eTable table)), some (.p ((eT P.int) numbers)), some (.p (P.int value)), some (.p (P.int v6)), some (.p (P.int v9)), some (.p ((eL P.int) v35)), none, none, none]) (C := C) (s0 := fun g37 => ()) (ex := P.int) (ρ := fun s38 : Unit => ([some (.p (eTable table)), some (.p ((eT P.int) numbers)), some (.p (P.int value)), some (.p (P.int v6)), some (.p (P.int v9)), some (.p ((eL P.int) v35)), none, none, none], C)) hh66 (fun g37 => itt_rng1) (fun _ => rfl) (fun _ _ => rfl)
          · intro y39 s38
            have hh67 := ev_var (cb := cbN T (k + 2)) (σ := [some (.p (eTable table)), some (.p ((eT P.int) numbers)), some (.p (P.int value)), some (.p (P.int v6)), some (.p (P.int v9)), some (.p ((eL P.int) v35)), some (.p (P.int y39)), none, none]) (C := C) (C0 := C0) (i := 3) P.int v6 rfl
            have hh68 := es_nil (cb := cbN T (k + 2)) (σ := [some (.p (eTable table)), some (.p ((eT P.int) numbers)), some (.p (P.int value)), some (.p (P.int v6)), some (.p (P.int v9)), some (.p ((eL P.int) v35)), some (.p (P.int y39)), none, none]) (C := C) (C0 := C0)
            have hh69 := es_cons hh67 (fun _ => hh68)
            apply st_for (σ := [some (.p (eTable table)), some (.p ((eT P.int) numbers)), some (.p (P.int value)), some (.p (P.int v6)), some (.p (P.int v9)), some (.p ((eL P.int) v35)), some (.p (P.int y39)), none, none]) (C := C) (s0 := fun g41 => ()) (ex := P.int) (ρ := fun s42 : Unit => ([some (.p (eTable table)), some (.p ((eT P.int) numbers)), some (.p (P.int value)), some (.p (P.int v6)), some (.p (P.int v9)), some (.p ((eL P.int) v35)), some (.p (P.int y39)), none, none], C)) hh69 (fun g41 => itt_rng1) (fun _ => rfl) (fun _ _ => rfl)
            · intro y43 s42
              have hh70 := ev_var (cb := cbN T (k + 2)) (σ := [some (.p (eTable table)), some (.p ((eT P.int) numbers)), some (.p (P.int value)), some (.p (P.int v6)), some (.p (P.int v9)), some (.p ((eL P.int) v35)), some (.p (P.int y39)), some (.p (P.int y43)), none]) (C := C) (C0 := C0) (i := 6) P.int y39 rfl
              have hh71 := ev_var (cb := cbN T (k + 2)) (σ := [some (.p (eTable table)), some (.p ((eT P.int) numbers)), some (.p (P.int value)), some (.p (P.int v6)), some (.p (P.int v9)), some (.p ((eL P.int) v35)), some (.p (P.int y39)), some (.p (P.int y43)), none]) (C := C) (C0 := C0) (i := 7) P.int y43 rfl
              have hh72 := ev_bin (op := .shr) hh70 (fun _ => hh71) (fun _ _ => rfl) (fun _ _ => rfl) (fun x44 x45 => (bi_shr (C := C)))
              have hh73 := ev_con (cb := cbN T (k + 2)) (σ := [some (.p (eTable table)), some (.p ((eT P.int) numbers)), some (.p (P.int value)), some (.p (P.int v6)), some (.p (P.int v9)), some (.p ((eL P.int) v35)), some (.p (P.int y39)), some (.p (P.int y43)), none]) (C := C) (C0 := C0) P.int 1
              have hh74 := ev_bin (op := .band) hh72 (fun _ => hh73) (fun _ _ => rfl) (fun _ _ => rfl) (fun x46 x47 => (bi_band (C := C)))
              have hh75 := ev_con (cb := cbN T (k + 2)) (σ := [some (.p (eTable table)), some (.p ((eT P.int) numbers)), some (.p (P.int value)), some (.p (P.int v6)), some (.p (P.int v9)), some (.p ((eL P.int) v35)), some (.p (P.int y39)), some (.p (P.int y43)), none]) (C := C) (C0 := C0) P.int 0
              have hh76 := ev_cmp (op := .eq) hh74 (fun _ => hh75) (fun _ _ => rfl) (fun _ _ => rfl) (fun x48 x49 => (im_cmp (C := C) (cp_eq (a := x48) (b := x49) de_int (by decide)))) (fun _ _ => rfl)
              have hh77 := ev_var (cb := cbN T (k + 2)) (σ := [some (.p (eTable table)), some (.p ((eT P.int) numbers)), some (.p (P.int value)), some (.p (P.int v6)), some (.p (P.int v9)), some (.p ((eL P.int) v35)), some (.p (P.int y39)), some (.p (P.int y43)), none]) (C := C) (C0 := C0) (i := 1) (eT P.int) numbers rfl
              have hh78 := ev_var (cb := cbN T (k + 2)) (σ := [some (.p (eTable table)), some (.p ((eT P.int) numbers)), some (.p (P.int value)), some (.p (P.int v6)), some (.p (P.int v9)), some (.p ((eL P.int) v35)), some (.p (P.int y39)), some (.p (P.int y43)), none]) (C := C) (C0 := C0) (i := 6) P.int y39 rfl
              have hh79 := ev_sub hh77 (fun _ => hh78) (fun _ _ => rfl) (fun _ _ => rfl) (fun x50 x51 => (sb_tup (C := C) (e := P.int)))
              have hh80 := ev_var (cb := cbN T (k + 2)) (σ := [some (.p (eTable table)), some (.p ((eT P.int) numbers)), some (.p (P.int value)), some (.p (P.int v6)), some (.p (P.int v9)), some (.p ((eL P.int) v35)), some (.p (P.int y39)), some (.p (P.int y43)), none]) (C := C) (C0 := C0) (i := 0) eTable table rfl
              have hh81 := ev_var (cb := cbN T (k + 2)) (σ := [some (.p (eTable table)), some (.p ((eT P.int) numbers)), some (.p (P.int value)), some (.p (P.int v6)), some (.p (P.int v9)), some (.p ((eL P.int) v35)), some (.p (P.int y39)), some (.p (P.int y43)), none]) (C := C) (C0 := C0) (i := 5) (eL P.int) v35 rfl
              have hh82 := ev_var (cb := cbN T (k + 2)) (σ := [some (.p (eTable table)), some (.p ((eT P.int) numbers)), some (.p (P.int value)), some (.p (P.int v6)), some (.p (P.int v9)), some (.p ((eL P.int) v35)), some (.p (P.int y39)), some (.p (P.int y43)), none]) (C := C) (C0 := C0) (i := 1) (eT P.int) numbers rfl
              have hh83 := ev_var (cb := cbN T (k + 2)) (σ := [some (.p (eTable table)), some (.p ((eT P.int) numbers)), some (.p (P.int value)), some (.p (P.int v6)), some (.p (P.int v9)), some (.p ((eL P.int) v35)), some (.p (P.int y39)), some (.p (P.int y43)), none]) (C := C) (C0 := C0) (i := 6) P.int y39 rfl
              have hh84 := ev_var (cb := cbN T (k + 2)) (σ := [some (.p (eTable table)), some (.p ((eT P.int) numbers)), some (.p (P.int value)), some (.p (P.int v6)), some (.p (P.int v9)), some (.p ((eL P.int) v35)), some (.p (P.int y39)), some (.p (P.int y43)), none]) (C := C) (C0 := C0) (i := 7) P.int y43 rfl
              have hh85 := es_nil (cb := cbN T (k + 2)) (σ := [some (.p (eTable table)), some (.p ((eT P.int) numbers)), some (.p (P.int value)), some (.p (P.int v6)), some (.p (P.int v9)), some (.p ((eL P.int) v35)), some (.p (P.int y39)), some (.p (P.int y43)), none]) (C := C) (C0 := C0)
              have hh86 := es_cons hh84 (fun _ => hh85)
              have hh87 := es_cons hh83 (fun _ => hh86)
              have hh88 := es_cons hh82 (fun _ => hh87)
              have hh89 := es_cons hh81 (fun _ => hh88)
              have hh90 := es_cons hh80 (fun _ => hh89)
              have hh91 := ev_call (f := "price") hh90 (fun g58 => (okc_price_t k g58.1 g58.2.1 g58.2.2.1 g58.2.2.2.1 g58.2.2.2.2.1 (C := C) hC))
              have hh92 := ev_cmp (op := .gt) hh79 (fun _ => hh91) (fun _ _ => rfl) (fun _ _ => rfl) (fun x52 x59 => (im_cmp (C := C) cp_gt)) (fun _ _ => rfl)
              have hh93 := an_one hh92
              have hh94 := an_cons hh76 hh93
              have hh95 := ev_and hh94
              apply st_ifs (σ := [some (.p (eTable table)), some (.p ((eT P.int) numbers)), some (.p (P.int value)), some (.p (P.int v6)), some (.p (P.int v9)), some (.p ((eL P.int) v35)), some (.p (P.int y39)), some (.p (P.int y43)), none]) (C := C) hh95 (fun _ => rfl)
              · intro c61
                have hh96 := ev_con (cb := cbN T (k + 2)) (σ := [some (.p (eTable table)), some (.p ((eT P.int) numbers)), some (.p (P.int value)), some (.p (P.int v6)), some (.p (P.int v9)), some (.p ((eL P.int) v35)), some (.p (P.int y39)), some (.p (P.int y43)), none]) (C := C) (C0 := C0) P.bl false
                exact st_ret hh96 nvw
              · intro c61
                apply st_drop (σ := [some (.p (eTable table)), some (.p ((eT P.int) numbers)), some (.p (P.int value)), some (.p (P.int v6)), some (.p (P.int v9)), some (.p ((eL P.int) v35)), some (.p (P.int y39)), some (.p (P.int y43)), none]) (C := C) 
                exact en_l (s := ()) rfl
            · intro s62
              apply st_drop (σ := [some (.p (eTable table)), some (.p ((eT P.int) numbers)), some (.p (P.int value)), some (.p (P.int v6)), some (.p (P.int v9)), some (.p ((eL P.int) v35)), some (.p (P.int y39)), none, none]) (C := C) 
              apply st_drop (σ := [some (.p (eTable table)), some (.p ((eT P.int) numbers)), some (.p (P.int value)), some (.p (P.int v6)), some (.p (P.int v9)), some (.p ((eL P.int) v35)), none, none, none]) (C := C) 
              exact en_l (s := ()) rfl
          · intro s64
            have hh97 := ev_con (cb := cbN T (k + 2)) (σ := [some (.p (eTable table)), some (.p ((eT P.int) numbers)), some (.p (P.int value)), some (.p (P.int v6)), some (.p (P.int v9)), some (.p ((eL P.int) v35)), none, none, none]) (C := C) (C0 := C0) P.bl true
            exact st_ret hh97 nvw
  · simp -implicitDefEqProofs only [g_judge_floor_t, sF_bind, sF_no, sF_rt, sF_seq, sL_bind, sL_no, sL_rt, sL_seq, sN_bind, sN_no, sN_seq, sI_bind, sI_no, compM_pure, compM_all, M.bind_ok, M.bind_assoc, M.lo_ok, M.lo_assoc]
theorem okc_judge_floor_t (k : Nat) (table : Table) (numbers : (List Int)) (value : Int) {C : CH} {C0 : CH → Prop} (hC : C0 C) : Im ((cbN T (k + 3)).call "judge_floor" [.p (eTable table), .p ((eT P.int) numbers), .p (P.int value)] C) C0 (g_judge_floor_t table numbers value) (fun r => (RV.v (P.bl r), C)) := by
  rw [cl_fn tf_judge_floor]
  exact ok_judge_floor_t k table numbers value hC
/-- Table.__init__ -/
def g_Table_init (costs : (List Int)) (rows : (List (Int × (List Int)))) : M Table :=
  (g_check_costs costs).bind fun v3 =>
  if (decide ((rows.length : Int) = (0 : Int))) then
    M.no
  else
    if (decide ((200 : Int) < (rows.length : Int))) then
      M.no
    else
      (((compM (fun _ => M.ok true) (fun y16 => g_check_row y16 (v3.length : Int)) rows).bind fun x22 => M.ok (x22, ())).bind fun g23 => M.ok g23.1).bind fun v24 =>
      M.ok ⟨v3, v24⟩
theorem ok_Table_init (k : Nat) (costs : (List Int)) (rows : (List (Int × (List Int)))) {C : CH} {C0 : CH → Prop} (hC : C0 C) : Im (mkNew "Table" (runFD (cbN T (k + 2)) F_Table_init_e0c5) [.p ((eL P.int) costs), .p ((eL (e2 P.int (eL P.int))) rows)] C) C0 (g_Table_init costs rows) (fun r => (RV.v (eTable r), C)) := by
  have h : (sI C "Table" (fun r : Table => ["costs", "rows"]) (fun r : Table => [(eT P.int) r.costs, (eT (e2 P.int (eT P.int))) r.rows])).J (runB (cbN T (k + 2)) F_Table_init_e0c5.body [some (.cell C.length), some (.p ((eL P.int) costs)), some (.p ((eL (e2 P.int (eL P.int))) rows)), none] (C ++ [some (.ins "Table" [] [])])) (g_Table_init costs rows) := by
    apply jx (K := sI C "Table" (fun r : Table => ["costs", "rows"]) (fun r : Table => [(eT P.int) r.costs, (eT (e2 P.int (eT P.int))) r.rows]))
    · have hh1 := ev_var (cb := cbN T (k + 2)) (σ := [some (.cell C.length), some (.p ((eL P.int) costs)), some (.p ((eL (e2 P.int (eL P.int))) rows)), none]) (C := (C ++ [some (Cl.ins "Table" [] [])])) (C0 := fun D => ∃ x, D = C ++ [x]) (i := 1) (eL P.int) costs rfl
      have hh2 := es_nil (cb := cbN T (k + 2)) (σ := [some (.cell C.length), some (.p ((eL P.int) costs)), some (.p ((eL (e2 P.int (eL P.int))) rows)), none]) (C := (C ++ [some (Cl.ins "Table" [] [])])) (C0 := fun D => ∃ x, D = C ++ [x])
      have hh3 := es_cons hh1 (fun _ => hh2)
      have hh4 := ev_call (f := "check_costs") hh3 (fun g2 => (okc_check_costs k g2.1 (C := (C ++ [some (Cl.ins "Table" [] [])])) ⟨_, rfl⟩))
      apply st_sta (σ := [some (.cell C.length), some (.p ((eL P.int) costs)), some (.p ((eL (e2 P.int (eL P.int))) rows)), none]) (C := C) (ns2 := ["costs"]) (vs2 := fun v3 => [(eT P.int) v3]) rfl (has_Table_costs _) (by decide) hh4 (fun _ => rfl) (fun _ => rfl) (fun _ => by simp [putN])
      intro v3
      have hh5 := ev_var (cb := cbN T (k + 2)) (σ := [some (.cell C.length), some (.p ((eL P.int) costs)), some (.p ((eL (e2 P.int (eL P.int))) rows)), none]) (C := (C ++ [some (Cl.ins "Table" ["costs"] [(eT P.int) v3])])) (C0 := fun D => ∃ x, D = C ++ [x]) (i := 2) (eL (e2 P.int (eL P.int))) rows rfl
      have hh6 := es_nil (cb := cbN T (k + 2)) (σ := [some (.cell C.length), some (.p ((eL P.int) costs)), some (.p ((eL (e2 P.int (eL P.int))) rows)), none]) (C := (C ++ [some (Cl.ins "Table" ["costs"] [(eT P.int) v3])])) (C0 := fun D => ∃ x, D = C ++ [x])
      have hh7 := es_cons hh5 (fun _ => hh6)
      have hh8 := ev_bi (f := .len) hh7 (fun _ => rfl) (fun g5 => (bc_len (C := (C ++ [some (Cl.ins "Table" ["costs"] [(eT P.int) v3])])) (e := (e2 P.int (eL P.int)))))
      have hh9 := ev_con (cb := cbN T (k + 2)) (σ := [some (.cell C.length), some (.p ((eL P.int) costs)), some (.p ((eL (e2 P.int (eL P.int))) rows)), none]) (C := (C ++ [some (Cl.ins "Table" ["costs"] [(eT P.int) v3])])) (C0 := fun D => ∃ x, D = C ++ [x]) P.int 0
      have hh10 := ev_cmp (op := .eq) hh8 (fun _ => hh9) (fun _ _ => rfl) (fun _ _ => rfl) (fun x6 x7 => (im_cmp (C := (C ++ [some (Cl.ins "Table" ["costs"] [(eT P.int) v3])])) (cp_eq (a := x6) (b := x7) de_int (by decide)))) (fun _ _ => rfl)
      apply st_ifs (σ := [some (.cell C.length), some (.p ((eL P.int) costs)), some (.p ((eL (e2 P.int (eL P.int))) rows)), none]) (C := (C ++ [some (Cl.ins "Table" ["costs"] [(eT P.int) v3])])) hh10 (fun _ => rfl)
      · intro c8
        exact st_nev
      · intro c8
        have hh11 := ev_var (cb := cbN T (k + 2)) (σ := [some (.cell C.length), some (.p ((eL P.int) costs)), some (.p ((eL (e2 P.int (eL P.int))) rows)), none]) (C := (C ++ [some (Cl.ins "Table" ["costs"] [(eT P.int) v3])])) (C0 := fun D => ∃ x, D = C ++ [x]) (i := 2) (eL (e2 P.int (eL P.int))) rows rfl
        have hh12 := es_nil (cb := cbN T (k + 2)) (σ := [some (.cell C.length), some (.p ((eL P.int) costs)), some (.p ((eL (e2 P.int (eL P.int))) rows)), none]) (C := (C ++ [some (Cl.ins "Table" ["costs"] [(eT P.int) v3])])) (C0 := fun D => ∃ x, D = C ++ [x])
        have hh13 := es_cons hh11 (fun _ => hh12)
        have hh14 := ev_bi (f := .len) hh13 (fun _ => rfl) (fun g10 => (bc_len (C := (C ++ [some (Cl.ins "Table" ["costs"] [(eT P.int) v3])])) (e := (e2 P.int (eL P.int)))))
        have hh15 := ev_glo (cb := cbN T (k + 2)) (σ := [some (.cell C.length), some (.p ((eL P.int) costs)), some (.p ((eL (e2 P.int (eL P.int))) rows)), none]) (C := (C ++ [some (Cl.ins "Table" ["costs"] [(eT P.int) v3])])) (C0 := fun D => ∃ x, D = C ++ [x]) P.int 200 (con_MOST_ROWS _)
        have hh16 := ev_cmp (op := .gt) hh14 (fun _ => hh15) (fun _ _ => rfl) (fun _ _ => rfl) (fun x11 x12 => (im_cmp (C := (C ++ [some (Cl.ins "Table" ["costs"] [(eT P.int) v3])])) cp_gt)) (fun _ _ => rfl)
        apply st_ifs (σ := [some (.cell C.length), some (.p ((eL P.int) costs)), some (.p ((eL (e2 P.int (eL P.int))) rows)), none]) (C := (C ++ [some (Cl.ins "Table" ["costs"] [(eT P.int) v3])])) hh16 (fun _ => rfl)
        · intro c13
          exact st_nev
        · intro c13
          have hh17 := ev_var (cb := cbN T (k + 2)) (σ := [some (.cell C.length), some (.p ((eL P.int) costs)), some (.p ((eL (e2 P.int (eL P.int))) rows)), none]) (C := (C ++ [some (Cl.ins "Table" ["costs"] [(eT P.int) v3])])) (C0 := fun D => ∃ x, D = C ++ [x]) (i := 2) (eL (e2 P.int (eL P.int))) rows rfl
          have hh18 := es_nil (cb := cbN T (k + 2)) (σ := [some (.cell C.length), some (.p ((eL P.int) costs)), some (.p ((eL (e2 P.int (eL P.int))) rows)), none]) (C := (C ++ [some (Cl.ins "Table" ["costs"] [(eT P.int) v3])])) (C0 := fun D => ∃ x, D = C ++ [x])
          have hh19 := es_cons hh17 (fun _ => hh18)
          have hh20 := fun (y16 : (Int × (List Int))) => ev_var (cb := cbN T (k + 2)) (σ := [some (.cell C.length), some (.p ((eL P.int) costs)), some (.p ((eL (e2 P.int (eL P.int))) rows)), some (.p ((e2 P.int (eL P.int)) y16))]) (C := (C ++ [some (Cl.ins "Table" ["costs"] [(eT P.int) v3])])) (C0 := fun D => ∃ x, D = C ++ [x]) (i := 3) (e2 P.int (eL P.int)) y16 rfl
          have hh21 := fun (y16 : (Int × (List Int))) => ev_selfatt (cb := cbN T (k + 2)) (σ := [some (.cell C.length), some (.p ((eL P.int) costs)), some (.p ((eL (e2 P.int (eL P.int))) rows)), some (.p ((e2 P.int (eL P.int)) y16))]) (C := C) (C0 := fun D => ∃ x, D = C ++ [x]) (c := "Table") (ns := ["costs"]) (vs := [(eT P.int) v3]) (i := 0) (f := "costs") (enc := (eT P.int)) (a := v3) rfl (has_Table_costs _) (by simp [fld])
          have hh22 := fun (y16 : (Int × (List Int))) => es_nil (cb := cbN T (k + 2)) (σ := [some (.cell C.length), some (.p ((eL P.int) costs)), some (.p ((eL (e2 P.int (eL P.int))) rows)), some (.p ((e2 P.int (eL P.int)) y16))]) (C := (C ++ [some (Cl.ins "Table" ["costs"] [(eT P.int) v3])])) (C0 := fun D => ∃ x, D = C ++ [x])
          have hh23 := fun (y16 : (Int × (List Int))) => es_cons (hh21 y16) (fun _ => (hh22 y16))
          have hh24 := fun (y16 : (Int × (List Int))) => ev_bi (f := .len) (hh23 y16) (fun _ => rfl) (fun g19 => (bc_lenT (C := (C ++ [some (Cl.ins "Table" ["costs"] [(eT P.int) v3])])) (e := P.int)))
          have hh25 := fun (y16 : (Int × (List Int))) => es_nil (cb := cbN T (k + 2)) (σ := [some (.cell C.length), some (.p ((eL P.int) costs)), some (.p ((eL (e2 P.int (eL P.int))) rows)), some (.p ((e2 P.int (eL P.int)) y16))]) (C := (C ++ [some (Cl.ins "Table" ["costs"] [(eT P.int) v3])])) (C0 := fun D => ∃ x, D = C ++ [x])
          have hh26 := fun (y16 : (Int × (List Int))) => es_cons (hh24 y16) (fun _ => (hh25 y16))
          have hh27 := fun (y16 : (Int × (List Int))) => es_cons (hh20 y16) (fun _ => (hh26 y16))
          have hh28 := fun (y16 : (Int × (List Int))) => ev_call (f := "check_row") (hh27 y16) (fun g21 => (okc_check_row k g21.1 g21.2.1 (C := (C ++ [some (Cl.ins "Table" ["costs"] [(eT P.int) v3])])) ⟨_, rfl⟩))
          have hh29 := fun (y16 : (Int × (List Int))) => an_nil (cb := cbN T (k + 2)) (σ := [some (.cell C.length), some (.p ((eL P.int) costs)), some (.p ((eL (e2 P.int (eL P.int))) rows)), some (.p ((e2 P.int (eL P.int)) y16))]) (C := (C ++ [some (Cl.ins "Table" ["costs"] [(eT P.int) v3])])) (C0 := fun D => ∃ x, D = C ++ [x])
          have hh30 := ev_comp (X := (Int × (List Int))) (t := (.nm 3)) (kk := .val) (ez := (e2 P.int (eT P.int))) (σ' := fun y16 => [some (.cell C.length), some (.p ((eL P.int) costs)), some (.p ((eL (e2 P.int (eL P.int))) rows)), some (.p ((e2 P.int (eL P.int)) y16))]) hh19 (fun g15 => (itt_lst (e := (e2 P.int (eL P.int))))) (fun _ => rfl) (fun _ => rfl) (fun y16 => (hh29 y16)) (fun y16 => (hh28 y16)) (fun _ => rfl) (fun _ => rfl)
          have hh31 := es_nil (cb := cbN T (k + 2)) (σ := [some (.cell C.length), some (.p ((eL P.int) costs)), some (.p ((eL (e2 P.int (eL P.int))) rows)), none]) (C := (C ++ [some (Cl.ins "Table" ["costs"] [(eT P.int) v3])])) (C0 := fun D => ∃ x, D = C ++ [x])
          have hh32 := es_cons hh30 (fun _ => hh31)
          have hh33 := ev_bi (f := .tuple) hh32 (fun _ => rfl) (fun g23 => (bc_tuple (C := (C ++ [some (Cl.ins "Table" ["costs"] [(eT P.int) v3])])) (e := (e2 P.int (eT P.int)))))
          apply st_sta (σ := [some (.cell C.length), some (.p ((eL P.int) costs)), some (.p ((eL (e2 P.int (eL P.int))) rows)), none]) (C := C) (ns2 := ["costs", "rows"]) (vs2 := fun v24 => [(eT P.int) v3, (eT (e2 P.int (eT P.int))) v24]) rfl (has_Table_rows _) (by decide) hh33 (fun _ => rfl) (fun _ => rfl) (fun _ => by simp [putN])
          intro v24
          exact en_init (⟨v3, v24⟩ : Table) (by rfl) (by rfl)
    · simp -implicitDefEqProofs only [g_Table_init, sF_bind, sF_no, sF_rt, sF_seq, sL_bind, sL_no, sL_rt, sL_seq, sN_bind, sN_no, sN_seq, sI_bind, sI_no, compM_pure, compM_all, M.bind_ok, M.bind_assoc, M.lo_ok, M.lo_assoc]
  exact mkNew_im hC h (fd_fl rfl)
theorem okc_Table_init (k : Nat) (costs : (List Int)) (rows : (List (Int × (List Int)))) {C : CH} {C0 : CH → Prop} (hC : C0 C) : Im ((cbN T (k + 3)).new "Table" [.p ((eL P.int) costs), .p ((eL (e2 P.int (eL P.int))) rows)] C) C0 (g_Table_init costs rows) (fun r => (RV.v (eTable r), C)) := by
  rw [cl_new tf_Table_init]
  exact ok_Table_init k costs rows hC
/-- _law_table -/
def g_law_table (b : ((List Int) × Int × Int × Int)) (most_tests : Int) (most_rows : Int) (reach : Int) : M (((List Int) × (List (Int × (List Int)))) × ((List Int) × Int × Int × Int)) :=
  ((g_law_draw b most_tests).bind fun x5 => M.ok ((1 : Int) + x5.1, x5.2)).bind fun v6 =>
  ((rngM 0 v6.1).bind fun l16 => compB (fun y9 d10 => (g_law_draw d10 reach).bind fun x15 => M.ok ((1 : Int) + x15.1, x15.2)) l16 v6.2).bind fun v17 =>
  let v18 : (List (Int × (List Int))) := ([] : (List (Int × (List Int))))
  (((g_law_draw v17.2 most_rows).bind fun x23 => M.ok ((1 : Int) + x23.1, x23.2)).bind fun x24 => M.ok (x24, x24.2)).bind fun g25 =>
  (rngM 0 g25.1.1).bind fun l87 =>
  (loopM (fun y27 s26 =>
    (((powM (2 : Int) (12 : Int)).bind fun x31 => M.ok ((), x31, ())).bind fun g32 => g_law_draw s26.2 g32.2.1).bind fun v33 =>
    let v34 : (List Int) := ([] : (List Int))
    (rngM 0 v6.1).bind fun l82 =>
    (loopM (fun y38 s37 =>
      ((modM s37.1 (2 : Int)).bind fun x43 => M.ok (decide (x43 = (1 : Int)))).bind fun c45 =>
      (if c45 then
        (appM s37.2 y38).bind fun l48 =>
        M.ok l48
      else
        M.ok s37.2).bind fun s49 =>
      (fdivM s37.1 (2 : Int)).bind fun v52 =>
      M.ok (v52, s49)) l82 (v33.1, v34)).bind fun s53 =>
    ((g_law_draw v33.2 (2 : Int)).bind fun x57 => M.ok (decide (x57.1 = (0 : Int)), x57.2)).bind fun c59 =>
    (if c59.1 then
      ((((g_law_draw c59.2 (2 : Int)).bind fun x65 => M.ok ((1 : Int) + x65.1, x65.2)).bind fun x66 => M.ok (x66, x66.2)).bind fun x68 => M.ok (cutI s53.2 none (some x68.1.1), x68.2)).bind fun v69 =>
      M.ok (v69.1, v69.2)
    else
      M.ok (s53.2, c59.2)).bind fun s70 =>
    (((((g_law_draw s70.2 reach).bind fun x75 => M.ok ((1 : Int) + x75.1, x75.2)).bind fun x76 => M.ok (x76, s70.1.reverse, x76.2)).bind fun g78 => M.ok ((g78.1.1, g78.2.1), g78.2.2)).bind fun x79 => M.ok (x79, x79.2)).bind fun g80 =>
    (appM s26.1 g80.1.1).bind fun l81 =>
    M.ok (l81, g80.2)) l87 (v18, g25.2)).bind fun s83 =>
  M.ok ((v17.1, s83.1), s83.2)
theorem ok_law_table (k : Nat) (R : CH) (b : ((List Int) × Int × Int × Int)) (most_tests : Int) (most_rows : Int) (reach : Int) {C0 : CH → Prop} : Im (runFD (cbN T (k + 2)) F_law_table_03cc [.cell 0, .p (P.int most_tests), .p (P.int most_rows), .p (P.int reach)] (kap R b)) C0 (g_law_table b most_tests most_rows reach) (fun r => (RV.fr ((k2 (eL P.int) (eL (e2 P.int (eL P.int)))) r.1), kap R r.2)) := by
  refine fd_im (σ := [some (.cell 0), some (.p (P.int most_tests)), some (.p (P.int most_rows)), some (.p (P.int reach)), none, none, none, none, none, none, none]) rfl ?_
  apply jx (K := sF C0 (fun r : (((List Int) × (List (Int × (List Int)))) × ((List Int) × Int × Int × Int)) => (RV.fr ((k2 (eL P.int) (eL (e2 P.int (eL P.int)))) r.1), kap R r.2)))
  · have hh1 := ev_con (cb := cbN T (k + 2)) (σ := [some (.cell 0), some (.p (P.int most_tests)), some (.p (P.int most_rows)), some (.p (P.int reach)), none, none, none, none, none, none, none]) (C := (kap R b)) (C0 := C0) P.int 1
    have hh2 := ev_cell (cb := cbN T (k + 2)) (σ := [some (.cell 0), some (.p (P.int most_tests)), some (.p (P.int most_rows)), some (.p (P.int reach)), none, none, none, none, none, none, none]) (C := (kap R b)) (C0 := C0) (i := 0) 0 rfl
    have hh3 := ev_var (cb := cbN T (k + 2)) (σ := [some (.cell 0), some (.p (P.int most_tests)), some (.p (P.int most_rows)), some (.p (P.int reach)), none, none, none, none, none, none, none]) (C := (kap R b)) (C0 := C0) (i := 1) P.int most_tests rfl
    have hh4 := es_nil (cb := cbN T (k + 2)) (σ := [some (.cell 0), some (.p (P.int most_tests)), some (.p (P.int most_rows)), some (.p (P.int reach)), none, none, none, none, none, none, none]) (C := (kap R b)) (C0 := C0)
    have hh5 := es_cons hh3 (fun _ => hh4)
    have hh6 := es_cons hh2 (fun _ => hh5)
    have hh7 := ev_call (f := "_law_draw") hh6 (fun g4 => (okc_law_draw k R b g4.2.1))
    have hh8 := ev_bin (op := .add) hh1 (fun _ => hh7) (fun _ _ => rfl) (fun _ _ => rfl) (fun x1 x5 => (Im.wth (κ := kap R) (b := x5.2) (bi_add (C := (kap R x5.2)))))
    apply st_set (σ := [some (.cell 0), some (.p (P.int most_tests)), some (.p (P.int most_rows)), some (.p (P.int reach)), none, none, none, none, none, none, none]) (C := (kap R b)) hh8 (fun _ => rfl)
    intro v6
    have hh9 := ev_var (cb := cbN T (k + 2)) (σ := [some (.cell 0), some (.p (P.int most_tests)), some (.p (P.int most_rows)), some (.p (P.int reach)), some (.p (P.int v6.1)), none, none, none, none, none, none]) (C := (kap R v6.2)) (C0 := C0) (i := 4) P.int v6.1 rfl
    have hh10 := es_nil (cb := cbN T (k + 2)) (σ := [some (.cell 0), some (.p (P.int most_tests)), some (.p (P.int most_rows)), some (.p (P.int reach)), some (.p (P.int v6.1)), none, none, none, none, none, none]) (C := (kap R v6.2)) (C0 := C0)
    have hh11 := es_cons hh9 (fun _ => hh10)
    have hh12 := fun (y9 : Int) (d10 : ((List Int) × Int × Int × Int)) => ev_con (cb := cbN T (k + 2)) (σ := [some (.cell 0), some (.p (P.int most_tests)), some (.p (P.int most_rows)), some (.p (P.int reach)), some (.p (P.int v6.1)), none, none, some (.p (P.int y9)), none, none, none]) (C := (kap R d10)) (C0 := C0) P.int 1
    have hh13 := fun (y9 : Int) (d10 : ((List Int) × Int × Int × Int)) => ev_cell (cb := cbN T (k + 2)) (σ := [some (.cell 0), some (.p (P.int most_tests)), some (.p (P.int most_rows)), some (.p (P.int reach)), some (.p (P.int v6.1)), none, none, some (.p (P.int y9)), none, none, none]) (C := (kap R d10)) (C0 := C0) (i := 0) 0 rfl
    have hh14 := fun (y9 : Int) (d10 : ((List Int) × Int × Int × Int)) => ev_var (cb := cbN T (k + 2)) (σ := [some (.cell 0), some (.p (P.int most_tests)), some (.p (P.int most_rows)), some (.p (P.int reach)), some (.p (P.int v6.1)), none, none, some (.p (P.int y9)), none, none, none]) (C := (kap R d10)) (C0 := C0) (i := 3) P.int reach rfl
    have hh15 := fun (y9 : Int) (d10 : ((List Int) × Int × Int × Int)) => es_nil (cb := cbN T (k + 2)) (σ := [some (.cell 0), some (.p (P.int most_tests)), some (.p (P.int most_rows)), some (.p (P.int reach)), some (.p (P.int v6.1)), none, none, some (.p (P.int y9)), none, none, none]) (C := (kap R d10)) (C0 := C0)
    have hh16 := fun (y9 : Int) (d10 : ((List Int) × Int × Int × Int)) => es_cons (hh14 y9 d10) (fun _ => (hh15 y9 d10))
    have hh17 := fun (y9 : Int) (d10 : ((List Int) × Int × Int × Int)) => es_cons (hh13 y9 d10) (fun _ => (hh16 y9 d10))
    have hh18 := fun (y9 : Int) (d10 : ((List Int) × Int × Int × Int)) => ev_call (f := "_law_draw") (hh17 y9 d10) (fun g14 => (okc_law_draw k R d10 g14.2.1))
    have hh19 := fun (y9 : Int) (d10 : ((List Int) × Int × Int × Int)) => ev_bin (op := .add) (hh12 y9 d10) (fun _ => (hh18 y9 d10)) (fun _ _ => rfl) (fun _ _ => rfl) (fun x11 x15 => (Im.wth (κ := kap R) (b := x15.2) (bi_add (C := (kap R x15.2)))))
    have hh20 := ev_compB (t := (.nm 7)) (kk := .rng1) (κ := kap R) (ez := P.int) (σ' := fun y9 => [some (.cell 0), some (.p (P.int most_tests)), some (.p (P.int most_rows)), some (.p (P.int reach)), some (.p (P.int v6.1)), none, none, some (.p (P.int y9)), none, none, none]) (d0 := fun g8 => v6.2) hh11 (fun g8 => itt_rng1) (fun _ => rfl) (fun _ => rfl) (fun y9 d10 => (hh19 y9 d10)) (fun _ => rfl) (fun _ => rfl)
    apply st_set (σ := [some (.cell 0), some (.p (P.int most_tests)), some (.p (P.int most_rows)), some (.p (P.int reach)), some (.p (P.int v6.1)), none, none, none, none, none, none]) (C := (kap R v6.2)) hh20 (fun _ => rfl)
    intro v17
    have hh21 := es_nil (cb := cbN T (k + 2)) (σ := [some (.cell 0), some (.p (P.int most_tests)), some (.p (P.int most_rows)), some (.p (P.int reach)), some (.p (P.int v6.1)), some (.p ((eL P.int) v17.1)), none, none, none, none, none]) (C := (kap R v17.2)) (C0 := C0)
    have hh22 := ev_lst hh21 (fun _ => rfl) (fun _ => rfl)
    have hh23 := Im.re (g := fun _ => ([] : (List (Int × (List Int))))) (η' := fun l : (List (Int × (List Int))) => (RV.fr ((List.map (e2 P.int (eL P.int))) l), (kap R v17.2))) hh22 (fun _ => rfl)
    apply st_own (σ := [some (.cell 0), some (.p (P.int most_tests)), some (.p (P.int most_rows)), some (.p (P.int reach)), some (.p (P.int v6.1)), some (.p ((eL P.int) v17.1)), none, none, none, none, none]) (C := (kap R v17.2)) hh23 (fun _ => rfl)
    intro v18
    have hh24 := ev_con (cb := cbN T (k + 2)) (σ := [some (.cell 0), some (.p (P.int most_tests)), some (.p (P.int most_rows)), some (.p (P.int reach)), some (.p (P.int v6.1)), some (.p ((eL P.int) v17.1)), some (.own ((List.map (e2 P.int (eL P.int))) v18)), none, none, none, none]) (C := (kap R v17.2)) (C0 := C0) P.int 1
    have hh25 := ev_cell (cb := cbN T (k + 2)) (σ := [some (.cell 0), some (.p (P.int most_tests)), some (.p (P.int most_rows)), some (.p (P.int reach)), some (.p (P.int v6.1)), some (.p ((eL P.int) v17.1)), some (.own ((List.map (e2 P.int (eL P.int))) v18)), none, none, none, none]) (C := (kap R v17.2)) (C0 := C0) (i := 0) 0 rfl
    have hh26 := ev_var (cb := cbN T (k + 2)) (σ := [some (.cell 0), some (.p (P.int most_tests)), some (.p (P.int most_rows)), some (.p (P.int reach)), some (.p (P.int v6.1)), some (.p ((eL P.int) v17.1)), some (.own ((List.map (e2 P.int (eL P.int))) v18)), none, none, none, none]) (C := (kap R v17.2)) (C0 := C0) (i := 2) P.int most_rows rfl
    have hh27 := es_nil (cb := cbN T (k + 2)) (σ := [some (.cell 0), some (.p (P.int most_tests)), some (.p (P.int most_rows)), some (.p (P.int reach)), some (.p (P.int v6.1)), some (.p ((eL P.int) v17.1)), some (.own ((List.map (e2 P.int (eL P.int))) v18)), none, none, none, none]) (C := (kap R v17.2)) (C0 := C0)
    have hh28 := es_cons hh26 (fun _ => hh27)
    have hh29 := es_cons hh25 (fun _ => hh28)
    have hh30 := ev_call (f := "_law_draw") hh29 (fun g22 => (okc_law_draw k R v17.2 g22.2.1))
    have hh31 := ev_bin (op := .add) hh24 (fun _ => hh30) (fun _ _ => rfl) (fun _ _ => rfl) (fun x19 x23 => (Im.wth (κ := kap R) (b := x23.2) (bi_add (C := (kap R x23.2)))))
    have hh32 := fun (x24 : Int × ((List Int) × Int × Int × Int)) => es_nilB (cb := cbN T (k + 2)) (σ := [some (.cell 0), some (.p (P.int most_tests)), some (.p (P.int most_rows)), some (.p (P.int reach)), some (.p (P.int v6.1)), some (.p ((eL P.int) v17.1)), some (.own ((List.map (e2 P.int (eL P.int))) v18)), none, none, none, none]) (C := (kap R x24.2)) (C0 := C0) (κ := kap R) x24.2 rfl
    have hh33 := es_cons hh31 (fun x24 => (hh32 x24))
    apply st_forM (σ := [some (.cell 0), some (.p (P.int most_tests)), some (.p (P.int most_rows)), some (.p (P.int reach)), some (.p (P.int v6.1)), some (.p ((eL P.int) v17.1)), some (.own ((List.map (e2 P.int (eL P.int))) v18)), none, none, none, none]) (C := (kap R v17.2)) (s0 := fun g25 => (v18, g25.2)) (ex := P.int) (ρ := fun s26 : (List (Int × (List Int))) × ((List Int) × Int × Int × Int) => ([some (.cell 0), some (.p (P.int most_tests)), some (.p (P.int most_rows)), some (.p (P.int reach)), some (.p (P.int v6.1)), some (.p ((eL P.int) v17.1)), some (.own ((List.map (e2 P.int (eL P.int))) s26.1)), none, none, none, none], (kap R s26.2))) hh33 (fun g25 => itt_rng1) (fun _ => rfl) (fun _ _ => rfl)
    · intro y27 s26
      have hh34 := ev_cell (cb := cbN T (k + 2)) (σ := [some (.cell 0), some (.p (P.int most_tests)), some (.p (P.int most_rows)), some (.p (P.int reach)), some (.p (P.int v6.1)), some (.p ((eL P.int) v17.1)), some (.own ((List.map (e2 P.int (eL P.int))) s26.1)), some (.p (P.int y27)), none, none, none]) (C := (kap R s26.2)) (C0 := C0) (i := 0) 0 rfl
      have hh35 := ev_con (cb := cbN T (k + 2)) (σ := [some (.cell 0), some (.p (P.int most_tests)), some (.p (P.int most_rows)), some (.p (P.int reach)), some (.p (P.int v6.1)), some (.p ((eL P.int) v17.1)), some (.own ((List.map (e2 P.int (eL P.int))) s26.1)), some (.p (P.int y27)), none, none, none]) (C := (kap R s26.2)) (C0 := C0) P.int 2
      have hh36 := ev_con (cb := cbN T (k + 2)) (σ := [some (.cell 0), some (.p (P.int most_tests)), some (.p (P.int most_rows)), some (.p (P.int reach)), some (.p (P.int v6.1)), some (.p ((eL P.int) v17.1)), some (.own ((List.map (e2 P.int (eL P.int))) s26.1)), some (.p (P.int y27)), none, none, none]) (C := (kap R s26.2)) (C0 := C0) P.int 12
      have hh37 := ev_bin (op := .pow) hh35 (fun _ => hh36) (fun _ _ => rfl) (fun _ _ => rfl) (fun x29 x30 => (bi_pow (C := (kap R s26.2))))
      have hh38 := es_nil (cb := cbN T (k + 2)) (σ := [some (.cell 0), some (.p (P.int most_tests)), some (.p (P.int most_rows)), some (.p (P.int reach)), some (.p (P.int v6.1)), some (.p ((eL P.int) v17.1)), some (.own ((List.map (e2 P.int (eL P.int))) s26.1)), some (.p (P.int y27)), none, none, none]) (C := (kap R s26.2)) (C0 := C0)
      have hh39 := es_cons hh37 (fun _ => hh38)
      have hh40 := es_cons hh34 (fun _ => hh39)
      have hh41 := ev_call (f := "_law_draw") hh40 (fun g32 => (okc_law_draw k R s26.2 g32.2.1))
      apply st_set (σ := [some (.cell 0), some (.p (P.int most_tests)), some (.p (P.int most_rows)), some (.p (P.int reach)), some (.p (P.int v6.1)), some (.p ((eL P.int) v17.1)), some (.own ((List.map (e2 P.int (eL P.int))) s26.1)), some (.p (P.int y27)), none, none, none]) (C := (kap R s26.2)) hh41 (fun _ => rfl)
      intro v33
      have hh42 := es_nil (cb := cbN T (k + 2)) (σ := [some (.cell 0), some (.p (P.int most_tests)), some (.p (P.int most_rows)), some (.p (P.int reach)), some (.p (P.int v6.1)), some (.p ((eL P.int) v17.1)), some (.own ((List.map (e2 P.int (eL P.int))) s26.1)), some (.p (P.int y27)), some (.p (P.int v33.1)), none, none]) (C := (kap R v33.2)) (C0 := C0)
      have hh43 := ev_lst hh42 (fun _ => rfl) (fun _ => rfl)
      have hh44 := Im.re (g := fun _ => ([] : (List Int))) (η' := fun l : (List Int) => (RV.fr ((List.map P.int) l), (kap R v33.2))) hh43 (fun _ => rfl)
      apply st_own (σ := [some (.cell 0), some (.p (P.int most_tests)), some (.p (P.int most_rows)), some (.p (P.int reach)), some (.p (P.int v6.1)), some (.p ((eL P.int) v17.1)), some (.own ((List.map (e2 P.int (eL P.int))) s26.1)), some (.p (P.int y27)), some (.p (P.int v33.1)), none, none]) (C := (kap R v33.2)) hh44 (fun _ => rfl)
      intro v34
      have hh45 := ev_var (cb := cbN T (k + 2)) (σ := [some (.cell 0), some (.p (P.int most_tests)), some (.p (P.int most_rows)), some (.p (P.int reach)), some (.p (P.int v6.1)), some (.p ((eL P.int) v17.1)), some (.own ((List.map (e2 P.int (eL P.int))) s26.1)), some (.p (P.int y27)), some (.p (P.int v33.1)), some (.own ((List.map P.int) v34)), none]) (C := (kap R v33.2)) (C0 := C0) (i := 4) P.int v6.1 rfl
      have hh46 := es_nil (cb := cbN T (k + 2)) (σ := [some (.cell 0), some (.p (P.int most_tests)), some (.p (P.int most_rows)), some (.p (P.int reach)), some (.p (P.int v6.1)), some (.p ((eL P.int) v17.1)), some (.own ((List.map (e2 P.int (eL P.int))) s26.1)), some (.p (P.int y27)), some (.p (P.int v33.1)), some (.own ((List.map P.int) v34)), none]) (C := (kap R v33.2)) (C0 := C0)
      have hh47 := es_cons hh45 (fun _ => hh46)
      apply st_forM (σ := [some (.cell 0), some (.p (P.int most_tests)), some (.p (P.int most_rows)), some (.p (P.int reach)), some (.p (P.int v6.1)), some (.p ((eL P.int) v17.1)), some (.own ((List.map (e2 P.int (eL P.int))) s26.1)), some (.p (P.int y27)), some (.p (P.int v33.1)), some (.own ((List.map P.int) v34)), none]) (C := (kap R v33.2)) (s0 := fun g36 => (v33.1, v34)) (ex := P.int) (ρ := fun s37 : Int × (List Int) => ([some (.cell 0), some (.p (P.int most_tests)), some (.p (P.int most_rows)), some (.p (P.int reach)), some (.p (P.int v6.1)), some (.p ((eL P.int) v17.1)), some (.own ((List.map (e2 P.int (eL P.int))) s26.1)), some (.p (P.int y27)), some (.p (P.int s37.1)), some (.own ((List.map P.int) s37.2)), none], (kap R v33.2))) hh47 (fun g36 => itt_rng1) (fun _ => rfl) (fun _ _ => rfl)
      · intro y38 s37
        have hh48 := ev_var (cb := cbN T (k + 2)) (σ := [some (.cell 0), some (.p (P.int most_tests)), some (.p (P.int most_rows)), some (.p (P.int reach)), some (.p (P.int v6.1)), some (.p ((eL P.int) v17.1)), some (.own ((List.map (e2 P.int (eL P.int))) s26.1)), some (.p (P.int y27)), some (.p (P.int s37.1)), some (.own ((List.map P.int) s37.2)), some (.p (P.int y38))]) (C := (kap R v33.2)) (C0 := C0) (i := 8) P.int s37.1 rfl
        have hh49 := es_nil (cb := cbN T (k + 2)) (σ := [some (.cell 0), some (.p (P.int most_tests)), some (.p (P.int most_rows)), some (.p (P.int reach)), some (.p (P.int v6.1)), some (.p ((eL P.int) v17.1)), some (.own ((List.map (e2 P.int (eL P.int))) s26.1)), some (.p (P.int y27)), some (.p (P.int s37.1)), some (.own ((List.map P.int) s37.2)), some (.p (P.int y38))]) (C := (kap R v33.2)) (C0 := C0)
        have hh50 := es_cons hh48 (fun _ => hh49)
        have hh51 := ev_bi (f := .int) hh50 (fun _ => rfl) (fun g40 => (bc_int (C := (kap R v33.2))))
        have hh52 := ev_con (cb := cbN T (k + 2)) (σ := [some (.cell 0), some (.p (P.int most_tests)), some (.p (P.int most_rows)), some (.p (P.int reach)), some (.p (P.int v6.1)), some (.p ((eL P.int) v17.1)), some (.own ((List.map (e2 P.int (eL P.int))) s26.1)), some (.p (P.int y27)), some (.p (P.int s37.1)), some (.own ((List.map P.int) s37.2)), some (.p (P.int y38))]) (C := (kap R v33.2)) (C0 := C0) P.int 2
        have hh53 := ev_bin (op := .mod) hh51 (fun _ => hh52) (fun _ _ => rfl) (fun _ _ => rfl) (fun x41 x42 => (bi_mod (C := (kap R v33.2))))
        have hh54 := ev_con (cb := cbN T (k + 2)) (σ := [some (.cell 0), some (.p (P.int most_tests)), some (.p (P.int most_rows)), some (.p (P.int reach)), some (.p (P.int v6.1)), some (.p ((eL P.int) v17.1)), some (.own ((List.map (e2 P.int (eL P.int))) s26.1)), some (.p (P.int y27)), some (.p (P.int s37.1)), some (.own ((List.map P.int) s37.2)), some (.p (P.int y38))]) (C := (kap R v33.2)) (C0 := C0) P.int 1
        have hh55 := ev_cmp (op := .eq) hh53 (fun _ => hh54) (fun _ _ => rfl) (fun _ _ => rfl) (fun x43 x44 => (im_cmp (C := (kap R v33.2)) (cp_eq (a := x43) (b := x44) de_int (by decide)))) (fun _ _ => rfl)
        apply st_ifj (σ := [some (.cell 0), some (.p (P.int most_tests)), some (.p (P.int most_rows)), some (.p (P.int reach)), some (.p (P.int v6.1)), some (.p ((eL P.int) v17.1)), some (.own ((List.map (e2 P.int (eL P.int))) s26.1)), some (.p (P.int y27)), some (.p (P.int s37.1)), some (.own ((List.map P.int) s37.2)), some (.p (P.int y38))]) (C := (kap R v33.2)) (ρ := fun s49 : (List Int) => ([some (.cell 0), some (.p (P.int most_tests)), some (.p (P.int most_rows)), some (.p (P.int reach)), some (.p (P.int v6.1)), some (.p ((eL P.int) v17.1)), some (.own ((List.map (e2 P.int (eL P.int))) s26.1)), some (.p (P.int y27)), some (.p (P.int s37.1)), some (.own ((List.map P.int) s49)), some (.p (P.int y38))], (kap R v33.2))) hh55 (fun _ => rfl)
        · intro c45
          have hh59 := ev_var (cb := cbN T (k + 2)) (σ := [some (.cell 0), some (.p (P.int most_tests)), some (.p (P.int most_rows)), some (.p (P.int reach)), some (.p (P.int v6.1)), some (.p ((eL P.int) v17.1)), some (.own ((List.map (e2 P.int (eL P.int))) s26.1)), some (.p (P.int y27)), some (.p (P.int s37.1)), some (.own ((List.map P.int) s37.2)), some (.p (P.int y38))]) (C := (kap R v33.2)) (C0 := C0) (i := 10) P.int y38 rfl
          have hh60 := es_nil (cb := cbN T (k + 2)) (σ := [some (.cell 0), some (.p (P.int most_tests)), some (.p (P.int most_rows)), some (.p (P.int reach)), some (.p (P.int v6.1)), some (.p ((eL P.int) v17.1)), some (.own ((List.map (e2 P.int (eL P.int))) s26.1)), some (.p (P.int y27)), some (.p (P.int s37.1)), some (.own ((List.map P.int) s37.2)), some (.p (P.int y38))]) (C := (kap R v33.2)) (C0 := C0)
          have hh61 := es_cons hh59 (fun _ => hh60)
          apply st_lm (σ := [some (.cell 0), some (.p (P.int most_tests)), some (.p (P.int most_rows)), some (.p (P.int reach)), some (.p (P.int v6.1)), some (.p ((eL P.int) v17.1)), some (.own ((List.map (e2 P.int (eL P.int))) s26.1)), some (.p (P.int y27)), some (.p (P.int s37.1)), some (.own ((List.map P.int) s37.2)), some (.p (P.int y38))]) (C := (kap R v33.2)) (out := (List.map P.int)) rfl hh61 (fun _ => rfl) (fun g47 => (lmm_append (e := P.int)))
          intro g47 l48
          exact en_n (s := l48) rfl
        · intro c45
          exact en_n (s := s37.2) rfl
        · intro s49
          have hh62 := ev_var (cb := cbN T (k + 2)) (σ := [some (.cell 0), some (.p (P.int most_tests)), some (.p (P.int most_rows)), some (.p (P.int reach)), some (.p (P.int v6.1)), some (.p ((eL P.int) v17.1)), some (.own ((List.map (e2 P.int (eL P.int))) s26.1)), some (.p (P.int y27)), some (.p (P.int s37.1)), some (.own ((List.map P.int) s49)), some (.p (P.int y38))]) (C := (kap R v33.2)) (C0 := C0) (i := 8) P.int s37.1 rfl
          have hh63 := ev_con (cb := cbN T (k + 2)) (σ := [some (.cell 0), some (.p (P.int most_tests)), some (.p (P.int most_rows)), some (.p (P.int reach)), some (.p (P.int v6.1)), some (.p ((eL P.int) v17.1)), some (.own ((List.map (e2 P.int (eL P.int))) s26.1)), some (.p (P.int y27)), some (.p (P.int s37.1)), some (.own ((List.map P.int) s49)), some (.p (P.int y38))]) (C := (kap R v33.2)) (C0 := C0) P.int 2
          have hh64 := ev_bin (op := .fdiv) hh62 (fun _ => hh63) (fun _ _ => rfl) (fun _ _ => rfl) (fun x50 x51 => (bi_fdiv (C := (kap R v33.2))))
          apply st_set (σ := [some (.cell 0), some (.p (P.int most_tests)), some (.p (P.int most_rows)), some (.p (P.int reach)), some (.p (P.int v6.1)), some (.p ((eL P.int) v17.1)), some (.own ((List.map (e2 P.int (eL P.int))) s26.1)), some (.p (P.int y27)), some (.p (P.int s37.1)), some (.own ((List.map P.int) s49)), some (.p (P.int y38))]) (C := (kap R v33.2)) hh64 (fun _ => rfl)
          intro v52
          apply st_drop (σ := [some (.cell 0), some (.p (P.int most_tests)), some (.p (P.int most_rows)), some (.p (P.int reach)), some (.p (P.int v6.1)), some (.p ((eL P.int) v17.1)), some (.own ((List.map (e2 P.int (eL P.int))) s26.1)), some (.p (P.int y27)), some (.p (P.int v52)), some (.own ((List.map P.int) s49)), some (.p (P.int y38))]) (C := (kap R v33.2)) 
          exact en_n (s := (v52, s49)) rfl
      · intro s53
        have hh65 := ev_cell (cb := cbN T (k + 2)) (σ := [some (.cell 0), some (.p (P.int most_tests)), some (.p (P.int most_rows)), some (.p (P.int reach)), some (.p (P.int v6.1)), some (.p ((eL P.int) v17.1)), some (.own ((List.map (e2 P.int (eL P.int))) s26.1)), some (.p (P.int y27)), some (.p (P.int s53.1)), some (.own ((List.map P.int) s53.2)), none]) (C := (kap R v33.2)) (C0 := C0) (i := 0) 0 rfl
        have hh66 := ev_con (cb := cbN T (k + 2)) (σ := [some (.cell 0), some (.p (P.int most_tests)), some (.p (P.int most_rows)), some (.p (P.int reach)), some (.p (P.int v6.1)), some (.p ((eL P.int) v17.1)), some (.own ((List.map (e2 P.int (eL P.int))) s26.1)), some (.p (P.int y27)), some (.p (P.int s53.1)), some (.own ((List.map P.int) s53.2)), none]) (C := (kap R v33.2)) (C0 := C0) P.int 2
        have hh67 := es_nil (cb := cbN T (k + 2)) (σ := [some (.cell 0), some (.p (P.int most_tests)), some (.p (P.int most_rows)), some (.p (P.int reach)), some (.p (P.int v6.1)), some (.p ((eL P.int) v17.1)), some (.own ((List.map (e2 P.int (eL P.int))) s26.1)), some (.p (P.int y27)), some (.p (P.int s53.1)), some (.own ((List.map P.int) s53.2)), none]) (C := (kap R v33.2)) (C0 := C0)
        have hh68 := es_cons hh66 (fun _ => hh67)
        have hh69 := es_cons hh65 (fun _ => hh68)
        have hh70 := ev_call (f := "_law_draw") hh69 (fun g56 => (okc_law_draw k R v33.2 g56.2.1))
        have hh71 := fun (x57 : Int × ((List Int) × Int × Int × Int)) => ev_con (cb := cbN T (k + 2)) (σ := [some (.cell 0), some (.p (P.int most_tests)), some (.p (P.int most_rows)), some (.p (P.int reach)), some (.p (P.int v6.1)), some (.p ((eL P.int) v17.1)), some (.own ((List.map (e2 P.int (eL P.int))) s26.1)), some (.p (P.int y27)), some (.p (P.int s53.1)), some (.own ((List.map P.int) s53.2)), none]) (C := (kap R x57.2)) (C0 := C0) P.int 0
        have hh72 := ev_cmpB (op := .eq) (κ := kap R) (d := fun x57 x58 => x57.2) hh70 (fun x57 => (hh71 x57)) (fun _ _ => rfl) (fun _ _ => rfl) (fun x57 x58 => (cp_eq (a := x57.1) (b := x58) de_int (by decide))) (fun _ _ => rfl)
        apply st_ifj (σ := [some (.cell 0), some (.p (P.int most_tests)), some (.p (P.int most_rows)), some (.p (P.int reach)), some (.p (P.int v6.1)), some (.p ((eL P.int) v17.1)), some (.own ((List.map (e2 P.int (eL P.int))) s26.1)), some (.p (P.int y27)), some (.p (P.int s53.1)), some (.own ((List.map P.int) s53.2)), none]) (C := (kap R v33.2)) (ρ := fun s70 : (List Int) × ((List Int) × Int × Int × Int) => ([some (.cell 0), some (.p (P.int most_tests)), some (.p (P.int most_rows)), some (.p (P.int reach)), some (.p (P.int v6.1)), some (.p ((eL P.int) v17.1)), some (.own ((List.map (e2 P.int (eL P.int))) s26.1)), some (.p (P.int y27)), some (.p (P.int s53.1)), some (.own ((List.map P.int) s70.1)), none], (kap R s70.2))) (t := fun p => p.1) hh72 (fun _ => rfl)
        · intro c59
          have hh86 := ev_own (cb := cbN T (k + 2)) (σ := [some (.cell 0), some (.p (P.int most_tests)), some (.p (P.int most_rows)), some (.p (P.int reach)), some (.p (P.int v6.1)), some (.p ((eL P.int) v17.1)), some (.own ((List.map (e2 P.int (eL P.int))) s26.1)), some (.p (P.int y27)), some (.p (P.int s53.1)), some (.own ((List.map P.int) s53.2)), none]) (C := (kap R c59.2)) (C0 := C0) (i := 9) (List.map P.int) s53.2 rfl
          have hh87 := es_nil (cb := cbN T (k + 2)) (σ := [some (.cell 0), some (.p (P.int most_tests)), some (.p (P.int most_rows)), some (.p (P.int reach)), some (.p (P.int v6.1)), some (.p ((eL P.int) v17.1)), some (.own ((List.map (e2 P.int (eL P.int))) s26.1)), some (.p (P.int y27)), some (.p (P.int s53.1)), some (.own ((List.map P.int) s53.2)), none]) (C := (kap R c59.2)) (C0 := C0)
          have hh88 := ev_con (cb := cbN T (k + 2)) (σ := [some (.cell 0), some (.p (P.int most_tests)), some (.p (P.int most_rows)), some (.p (P.int reach)), some (.p (P.int v6.1)), some (.p ((eL P.int) v17.1)), some (.own ((List.map (e2 P.int (eL P.int))) s26.1)), some (.p (P.int y27)), some (.p (P.int s53.1)), some (.own ((List.map P.int) s53.2)), none]) (C := (kap R c59.2)) (C0 := C0) P.int 1
          have hh89 := ev_cell (cb := cbN T (k + 2)) (σ := [some (.cell 0), some (.p (P.int most_tests)), some (.p (P.int most_rows)), some (.p (P.int reach)), some (.p (P.int v6.1)), some (.p ((eL P.int) v17.1)), some (.own ((List.map (e2 P.int (eL P.int))) s26.1)), some (.p (P.int y27)), some (.p (P.int s53.1)), some (.own ((List.map P.int) s53.2)), none]) (C := (kap R c59.2)) (C0 := C0) (i := 0) 0 rfl
          have hh90 := ev_con (cb := cbN T (k + 2)) (σ := [some (.cell 0), some (.p (P.int most_tests)), some (.p (P.int most_rows)), some (.p (P.int reach)), some (.p (P.int v6.1)), some (.p ((eL P.int) v17.1)), some (.own ((List.map (e2 P.int (eL P.int))) s26.1)), some (.p (P.int y27)), some (.p (P.int s53.1)), some (.own ((List.map P.int) s53.2)), none]) (C := (kap R c59.2)) (C0 := C0) P.int 2
          have hh91 := es_nil (cb := cbN T (k + 2)) (σ := [some (.cell 0), some (.p (P.int most_tests)), some (.p (P.int most_rows)), some (.p (P.int reach)), some (.p (P.int v6.1)), some (.p ((eL P.int) v17.1)), some (.own ((List.map (e2 P.int (eL P.int))) s26.1)), some (.p (P.int y27)), some (.p (P.int s53.1)), some (.own ((List.map P.int) s53.2)), none]) (C := (kap R c59.2)) (C0 := C0)
          have hh92 := es_cons hh90 (fun _ => hh91)
          have hh93 := es_cons hh89 (fun _ => hh92)
          have hh94 := ev_call (f := "_law_draw") hh93 (fun g64 => (okc_law_draw k R c59.2 g64.2.1))
          have hh95 := ev_bin (op := .add) hh88 (fun _ => hh94) (fun _ _ => rfl) (fun _ _ => rfl) (fun x61 x65 => (Im.wth (κ := kap R) (b := x65.2) (bi_add (C := (kap R x65.2)))))
          have hh96 := fun (x66 : Int × ((List Int) × Int × Int × Int)) => es_nilB (cb := cbN T (k + 2)) (σ := [some (.cell 0), some (.p (P.int most_tests)), some (.p (P.int most_rows)), some (.p (P.int reach)), some (.p (P.int v6.1)), some (.p ((eL P.int) v17.1)), some (.own ((List.map (e2 P.int (eL P.int))) s26.1)), some (.p (P.int y27)), some (.p (P.int s53.1)), some (.own ((List.map P.int) s53.2)), none]) (C := (kap R x66.2)) (C0 := C0) (κ := kap R) x66.2 rfl
          have hh97 := es_cons hh95 (fun x66 => (hh96 x66))
          have hh98 := ev_slc (l2 := fun x60 x67 => none) (l3 := fun x60 x67 x68 => (some x68.1.1)) hh86 (fun _ => hh87) (fun _ _ => rfl) (fun _ _ => hh97) (fun _ _ _ => rfl) (fun _ _ _ => rfl) (fun x60 x67 x68 => (Im.wth (κ := kap R) (b := x68.2) (sl_lst (C := (kap R x68.2)) (e := P.int))))
          apply st_own (σ := [some (.cell 0), some (.p (P.int most_tests)), some (.p (P.int most_rows)), some (.p (P.int reach)), some (.p (P.int v6.1)), some (.p ((eL P.int) v17.1)), some (.own ((List.map (e2 P.int (eL P.int))) s26.1)), some (.p (P.int y27)), some (.p (P.int s53.1)), some (.own ((List.map P.int) s53.2)), none]) (C := (kap R c59.2)) hh98 (fun _ => rfl)
          intro v69
          exact en_n (s := (v69.1, v69.2)) rfl
        · intro c59
          exact en_n (s := (s53.2, c59.2)) rfl
        · intro s70
          have hh99 := ev_con (cb := cbN T (k + 2)) (σ := [some (.cell 0), some (.p (P.int most_tests)), some (.p (P.int most_rows)), some (.p (P.int reach)), some (.p (P.int v6.1)), some (.p ((eL P.int) v17.1)), some (.own ((List.map (e2 P.int (eL P.int))) s26.1)), some (.p (P.int y27)), some (.p (P.int s53.1)), some (.own ((List.map P.int) s70.1)), none]) (C := (kap R s70.2)) (C0 := C0) P.int 1
          have hh100 := ev_cell (cb := cbN T (k + 2)) (σ := [some (.cell 0), some (.p (P.int most_tests)), some (.p (P.int most_rows)), some (.p (P.int reach)), some (.p (P.int v6.1)), some (.p ((eL P.int) v17.1)), some (.own ((List.map (e2 P.int (eL P.int))) s26.1)), some (.p (P.int y27)), some (.p (P.int s53.1)), some (.own ((List.map P.int) s70.1)), none]) (C := (kap R s70.2)) (C0 := C0) (i := 0) 0 rfl
          have hh101 := ev_var (cb := cbN T (k + 2)) (σ := [some (.cell 0), some (.p (P.int most_tests)), some (.p (P.int most_rows)), some (.p (P.int reach)), some (.p (P.int v6.1)), some (.p ((eL P.int) v17.1)), some (.own ((List.map (e2 P.int (eL P.int))) s26.1)), some (.p (P.int y27)), some (.p (P.int s53.1)), some (.own ((List.map P.int) s70.1)), none]) (C := (kap R s70.2)) (C0 := C0) (i := 3) P.int reach rfl
          have hh102 := es_nil (cb := cbN T (k + 2)) (σ := [some (.cell 0), some (.p (P.int most_tests)), some (.p (P.int most_rows)), some (.p (P.int reach)), some (.p (P.int v6.1)), some (.p ((eL P.int) v17.1)), some (.own ((List.map (e2 P.int (eL P.int))) s26.1)), some (.p (P.int y27)), some (.p (P.int s53.1)), some (.own ((List.map P.int) s70.1)), none]) (C := (kap R s70.2)) (C0 := C0)
          have hh103 := es_cons hh101 (fun _ => hh102)
          have hh104 := es_cons hh100 (fun _ => hh103)
          have hh105 := ev_call (f := "_law_draw") hh104 (fun g74 => (okc_law_draw k R s70.2 g74.2.1))
          have hh106 := ev_bin (op := .add) hh99 (fun _ => hh105) (fun _ _ => rfl) (fun _ _ => rfl) (fun x71 x75 => (Im.wth (κ := kap R) (b := x75.2) (bi_add (C := (kap R x75.2)))))
          have hh107 := fun (x76 : Int × ((List Int) × Int × Int × Int)) => ev_own (cb := cbN T (k + 2)) (σ := [some (.cell 0), some (.p (P.int most_tests)), some (.p (P.int most_rows)), some (.p (P.int reach)), some (.p (P.int v6.1)), some (.p ((eL P.int) v17.1)), some (.own ((List.map (e2 P.int (eL P.int))) s26.1)), some (.p (P.int y27)), some (.p (P.int s53.1)), some (.own ((List.map P.int) s70.1)), none]) (C := (kap R x76.2)) (C0 := C0) (i := 9) (List.map P.int) s70.1 rfl
          have hh108 := fun (x76 : Int × ((List Int) × Int × Int × Int)) => ev_rev (hh107 x76) (fun _ => rfl) (fun _ => rv_lst)
          have hh109 := fun (x76 : Int × ((List Int) × Int × Int × Int)) => Im.re (g := List.reverse) (η' := fun l => (RV.fr (List.map P.int l), (kap R x76.2))) (hh108 x76) (fun _ => rfl)
          have hh110 := fun (x76 : Int × ((List Int) × Int × Int × Int)) => es_nilB (cb := cbN T (k + 2)) (σ := [some (.cell 0), some (.p (P.int most_tests)), some (.p (P.int most_rows)), some (.p (P.int reach)), some (.p (P.int v6.1)), some (.p ((eL P.int) v17.1)), some (.own ((List.map (e2 P.int (eL P.int))) s26.1)), some (.p (P.int y27)), some (.p (P.int s53.1)), some (.own ((List.map P.int) s70.1)), none]) (C := (kap R x76.2)) (C0 := C0) (κ := kap R) x76.2 rfl
          have hh111 := fun (x76 : Int × ((List Int) × Int × Int × Int)) => es_cons (hh109 x76) (fun _ => (hh110 x76))
          have hh112 := es_cons hh106 (fun x76 => (hh111 x76))
          have hh113 := ev_tup hh112 (fun _ => rfl) (fun _ => rfl)
          have hh114 := Im.re (g := fun g78 => ((g78.1.1, g78.2.1), g78.2.2)) (η' := fun p : (Int × (List Int)) × ((List Int) × Int × Int × Int) => (RV.v ((e2 P.int (eL P.int)) p.1), kap R p.2)) hh113 (fun _ => rfl)
          have hh115 := fun (x79 : (Int × (List Int)) × ((List Int) × Int × Int × Int)) => es_nilB (cb := cbN T (k + 2)) (σ := [some (.cell 0), some (.p (P.int most_tests)), some (.p (P.int most_rows)), some (.p (P.int reach)), some (.p (P.int v6.1)), some (.p ((eL P.int) v17.1)), some (.own ((List.map (e2 P.int (eL P.int))) s26.1)), some (.p (P.int y27)), some (.p (P.int s53.1)), some (.own ((List.map P.int) s70.1)), none]) (C := (kap R x79.2)) (C0 := C0) (κ := kap R) x79.2 rfl
          have hh116 := es_cons hh114 (fun x79 => (hh115 x79))
          apply st_lm (σ := [some (.cell 0), some (.p (P.int most_tests)), some (.p (P.int most_rows)), some (.p (P.int reach)), some (.p (P.int v6.1)), some (.p ((eL P.int) v17.1)), some (.own ((List.map (e2 P.int (eL P.int))) s26.1)), some (.p (P.int y27)), some (.p (P.int s53.1)), some (.own ((List.map P.int) s70.1)), none]) (C := (kap R s70.2)) (out := (List.map (e2 P.int (eL P.int)))) rfl hh116 (fun _ => rfl) (fun g80 => (lmm_append (e := (e2 P.int (eL P.int)))))
          intro g80 l81
          apply st_drop (σ := [some (.cell 0), some (.p (P.int most_tests)), some (.p (P.int most_rows)), some (.p (P.int reach)), some (.p (P.int v6.1)), some (.p ((eL P.int) v17.1)), some (.own ((List.map (e2 P.int (eL P.int))) l81)), some (.p (P.int y27)), some (.p (P.int s53.1)), some (.own ((List.map P.int) s70.1)), none]) (C := (kap R g80.2)) 
          apply st_drop (σ := [some (.cell 0), some (.p (P.int most_tests)), some (.p (P.int most_rows)), some (.p (P.int reach)), some (.p (P.int v6.1)), some (.p ((eL P.int) v17.1)), some (.own ((List.map (e2 P.int (eL P.int))) l81)), none, some (.p (P.int s53.1)), some (.own ((List.map P.int) s70.1)), none]) (C := (kap R g80.2)) 
          apply st_drop (σ := [some (.cell 0), some (.p (P.int most_tests)), some (.p (P.int most_rows)), some (.p (P.int reach)), some (.p (P.int v6.1)), some (.p ((eL P.int) v17.1)), some (.own ((List.map (e2 P.int (eL P.int))) l81)), none, none, some (.own ((List.map P.int) s70.1)), none]) (C := (kap R g80.2)) 
          apply st_drop (σ := [some (.cell 0), some (.p (P.int most_tests)), some (.p (P.int most_rows)), some (.p (P.int reach)), some (.p (P.int v6.1)), some (.p ((eL P.int) v17.1)), some (.own ((List.map (e2 P.int (eL P.int))) l81)), none, none, none, none]) (C := (kap R g80.2)) 
          exact en_n (s := (l81, g80.2)) rfl
    · intro s83
      apply st_frz (σ := [some (.cell 0), some (.p (P.int most_tests)), some (.p (P.int most_rows)), some (.p (P.int reach)), some (.p (P.int v6.1)), some (.p ((eL P.int) v17.1)), some (.own ((List.map (e2 P.int (eL P.int))) s83.1)), none, none, none, none]) (C := (kap R s83.2)) rfl
      have hh117 := ev_var (cb := cbN T (k + 2)) (σ := [some (.cell 0), some (.p (P.int most_tests)), some (.p (P.int most_rows)), some (.p (P.int reach)), some (.p (P.int v6.1)), some (.p ((eL P.int) v17.1)), some (.p ((eL (e2 P.int (eL P.int))) s83.1)), none, none, none, none]) (C := (kap R s83.2)) (C0 := C0) (i := 5) (eL P.int) v17.1 rfl
      have hh118 := ev_var (cb := cbN T (k + 2)) (σ := [some (.cell 0), some (.p (P.int most_tests)), some (.p (P.int most_rows)), some (.p (P.int reach)), some (.p (P.int v6.1)), some (.p ((eL P.int) v17.1)), some (.p ((eL (e2 P.int (eL P.int))) s83.1)), none, none, none, none]) (C := (kap R s83.2)) (C0 := C0) (i := 6) (eL (e2 P.int (eL P.int))) s83.1 rfl
      have hh119 := es_nil (cb := cbN T (k + 2)) (σ := [some (.cell 0), some (.p (P.int most_tests)), some (.p (P.int most_rows)), some (.p (P.int reach)), some (.p (P.int v6.1)), some (.p ((eL P.int) v17.1)), some (.p ((eL (e2 P.int (eL P.int))) s83.1)), none, none, none, none]) (C := (kap R s83.2)) (C0 := C0)
      have hh120 := es_cons hh118 (fun _ => hh119)
      have hh121 := es_cons hh117 (fun _ => hh120)
      have hh122 := ev_lst hh121 (fun _ => rfl) (fun _ => rfl)
      have hh123 := Im.re (g := fun g86 => (g86.1, g86.2.1)) (η' := fun p : ((List Int) × (List (Int × (List Int)))) => (RV.fr ((k2 (eL P.int) (eL (e2 P.int (eL P.int)))) p), (kap R s83.2))) hh122 (fun _ => rfl)
      exact st_ret (Im.wth (κ := kap R) (b := s83.2) hh123) nvf
  · simp -implicitDefEqProofs only [g_law_table, sF_bind, sF_no, sF_rt, sF_seq, sL_bind, sL_no, sL_rt, sL_seq, sN_bind, sN_no, sN_seq, sI_bind, sI_no, compM_pure, compM_all, M.bind_ok, M.bind_assoc, M.lo_ok, M.lo_assoc]
theorem okc_law_table (k : Nat) (R : CH) (b : ((List Int) × Int × Int × Int)) (most_tests : Int) (most_rows : Int) (reach : Int) {C0 : CH → Prop} : Im ((cbN T (k + 3)).call "_law_table" [.cell 0, .p (P.int most_tests), .p (P.int most_rows), .p (P.int reach)] (kap R b)) C0 (g_law_table b most_tests most_rows reach) (fun r => (RV.fr ((k2 (eL P.int) (eL (e2 P.int (eL P.int)))) r.1), kap R r.2)) := by
  rw [cl_fn tf_law_table]
  exact ok_law_table k R b most_tests most_rows reach
/-- _law_behind -/
def g_law_behind (table_here : ((List Int) × (List (Int × (List Int))))) (done : (List Int)) (order : (List Int)) : M Int :=
  (rngM 0 (order.length : Int)).bind fun l31 =>
  (loopM (fun y7 s6 =>
    ((((getI order y7).bind fun x13 => getI table_here.1 x13).bind fun x14 => ((((((cutT order none (some y7)).bind fun x22 => M.ok (x22, ())).bind fun g23 => M.ok g23.1).bind fun x24 => catM done x24).bind fun x25 => M.ok (table_here.2, x25, ())).bind fun g26 => g_law_left g26.1 g26.2.1).bind fun x27 => mulM x14 x27).bind fun x28 => M.ok (s6 + x28)).bind fun v29 =>
    M.ok v29) l31 (0 : Int)).bind fun s30 =>
  M.ok s30
theorem ok_law_behind (k : Nat) (table_here : ((List Int) × (List (Int × (List Int))))) (done : (List Int)) (order : (List Int)) {C : CH} {C0 : CH → Prop} (hC : C0 C) : Im (runFD (cbN T (k + 2)) F_law_behind_4cd3 [.p ((f2 (eL P.int) (eL (e2 P.int (eL P.int)))) table_here), .p ((eL P.int) done), .p ((eT P.int) order)] C) C0 (g_law_behind table_here done order) (fun r => (RV.v (P.int r), C)) := by
  refine fd_im (σ := [some (.p ((f2 (eL P.int) (eL (e2 P.int (eL P.int)))) table_here)), some (.p ((eL P.int) done)), some (.p ((eT P.int) order)), none, none]) rfl ?_
  apply jx (K := sF C0 (fun r : Int => (RV.v (P.int r), C)))
  · have hh1 := ev_con (cb := cbN T (k + 2)) (σ := [some (.p ((f2 (eL P.int) (eL (e2 P.int (eL P.int)))) table_here)), some (.p ((eL P.int) done)), some (.p ((eT P.int) order)), none, none]) (C := C) (C0 := C0) P.int 0
    apply st_set (σ := [some (.p ((f2 (eL P.int) (eL (e2 P.int (eL P.int)))) table_here)), some (.p ((eL P.int) done)), some (.p ((eT P.int) order)), none, none]) (C := C) hh1 (fun _ => rfl)
    intro v1
    have hh2 := ev_var (cb := cbN T (k + 2)) (σ := [some (.p ((f2 (eL P.int) (eL (e2 P.int (eL P.int)))) table_here)), some (.p ((eL P.int) done)), some (.p ((eT P.int) order)), some (.p (P.int v1)), none]) (C := C) (C0 := C0) (i := 2) (eT P.int) order rfl
    have hh3 := es_nil (cb := cbN T (k + 2)) (σ := [some (.p ((f2 (eL P.int) (eL (e2 P.int (eL P.int)))) table_here)), some (.p ((eL P.int) done)), some (.p ((eT P.int) order)), some (.p (P.int v1)), none]) (C := C) (C0 := C0)
    have hh4 := es_cons hh2 (fun _ => hh3)
    have hh5 := ev_bi (f := .len) hh4 (fun _ => rfl) (fun g3 => (bc_lenT (C := C) (e := P.int)))
    have hh6 := es_nil (cb := cbN T (k + 2)) (σ := [some (.p ((f2 (eL P.int) (eL (e2 P.int (eL P.int)))) table_here)), some (.p ((eL P.int) done)), some (.p ((eT P.int) order)), some (.p (P.int v1)), none]) (C := C) (C0 := C0)
    have hh7 := es_cons hh5 (fun _ => hh6)
    apply st_forM (σ := [some (.p ((f2 (eL P.int) (eL (e2 P.int (eL P.int)))) table_here)), some (.p ((eL P.int) done)), some (.p ((eT P.int) order)), some (.p (P.int v1)), none]) (C := C) (s0 := fun g5 => v1) (ex := P.int) (ρ := fun s6 : Int => ([some (.p ((f2 (eL P.int) (eL (e2 P.int (eL P.int)))) table_here)), some (.p ((eL P.int) done)), some (.p ((eT P.int) order)), some (.p (P.int s6)), none], C)) hh7 (fun g5 => itt_rng1) (fun _ => rfl) (fun _ _ => rfl)
    · intro y7 s6
      have hh8 := ev_var (cb := cbN T (k + 2)) (σ := [some (.p ((f2 (eL P.int) (eL (e2 P.int (eL P.int)))) table_here)), some (.p ((eL P.int) done)), some (.p ((eT P.int) order)), some (.p (P.int s6)), some (.p (P.int y7))]) (C := C) (C0 := C0) (i := 3) P.int s6 rfl
      have hh9 := ev_var (cb := cbN T (k + 2)) (σ := [some (.p ((f2 (eL P.int) (eL (e2 P.int (eL P.int)))) table_here)), some (.p ((eL P.int) done)), some (.p ((eT P.int) order)), some (.p (P.int s6)), some (.p (P.int y7))]) (C := C) (C0 := C0) (i := 0) (f2 (eL P.int) (eL (e2 P.int (eL P.int)))) table_here rfl
      have hh10 := ev_subc (i := 0) hh9 (fun _ => rfl) (fun x9 => im_ok (C := C) (eL P.int) x9.1 rfl)
      have hh11 := ev_var (cb := cbN T (k + 2)) (σ := [some (.p ((f2 (eL P.int) (eL (e2 P.int (eL P.int)))) table_here)), some (.p ((eL P.int) done)), some (.p ((eT P.int) order)), some (.p (P.int s6)), some (.p (P.int y7))]) (C := C) (C0 := C0) (i := 2) (eT P.int) order rfl
      have hh12 := ev_var (cb := cbN T (k + 2)) (σ := [some (.p ((f2 (eL P.int) (eL (e2 P.int (eL P.int)))) table_here)), some (.p ((eL P.int) done)), some (.p ((eT P.int) order)), some (.p (P.int s6)), some (.p (P.int y7))]) (C := C) (C0 := C0) (i := 4) P.int y7 rfl
      have hh13 := ev_sub hh11 (fun _ => hh12) (fun _ _ => rfl) (fun _ _ => rfl) (fun x11 x12 => (sb_tup (C := C) (e := P.int)))
      have hh14 := ev_sub hh10 (fun _ => hh13) (fun _ _ => rfl) (fun _ _ => rfl) (fun x10 x13 => (sb_lst (C := C) (e := P.int)))
      have hh15 := ev_var (cb := cbN T (k + 2)) (σ := [some (.p ((f2 (eL P.int) (eL (e2 P.int (eL P.int)))) table_here)), some (.p ((eL P.int) done)), some (.p ((eT P.int) order)), some (.p (P.int s6)), some (.p (P.int y7))]) (C := C) (C0 := C0) (i := 0) (f2 (eL P.int) (eL (e2 P.int (eL P.int)))) table_here rfl
      have hh16 := ev_subc (i := 1) hh15 (fun _ => rfl) (fun x15 => im_ok (C := C) (eL (e2 P.int (eL P.int))) x15.2 rfl)
      have hh17 := ev_var (cb := cbN T (k + 2)) (σ := [some (.p ((f2 (eL P.int) (eL (e2 P.int (eL P.int)))) table_here)), some (.p ((eL P.int) done)), some (.p ((eT P.int) order)), some (.p (P.int s6)), some (.p (P.int y7))]) (C := C) (C0 := C0) (i := 1) (eL P.int) done rfl
      have hh18 := ev_var (cb := cbN T (k + 2)) (σ := [some (.p ((f2 (eL P.int) (eL (e2 P.int (eL P.int)))) table_here)), some (.p ((eL P.int) done)), some (.p ((eT P.int) order)), some (.p (P.int s6)), some (.p (P.int y7))]) (C := C) (C0 := C0) (i := 2) (eT P.int) order rfl
      have hh19 := es_nil (cb := cbN T (k + 2)) (σ := [some (.p ((f2 (eL P.int) (eL (e2 P.int (eL P.int)))) table_here)), some (.p ((eL P.int) done)), some (.p ((eT P.int) order)), some (.p (P.int s6)), some (.p (P.int y7))]) (C := C) (C0 := C0)
      have hh20 := ev_var (cb := cbN T (k + 2)) (σ := [some (.p ((f2 (eL P.int) (eL (e2 P.int (eL P.int)))) table_here)), some (.p ((eL P.int) done)), some (.p ((eT P.int) order)), some (.p (P.int s6)), some (.p (P.int y7))]) (C := C) (C0 := C0) (i := 4) P.int y7 rfl
      have hh21 := es_nil (cb := cbN T (k + 2)) (σ := [some (.p ((f2 (eL P.int) (eL (e2 P.int (eL P.int)))) table_here)), some (.p ((eL P.int) done)), some (.p ((eT P.int) order)), some (.p (P.int s6)), some (.p (P.int y7))]) (C := C) (C0 := C0)
      have hh22 := es_cons hh20 (fun _ => hh21)
      have hh23 := ev_slc (l2 := fun x18 x20 => none) (l3 := fun x18 x20 x21 => (some x21.1)) hh18 (fun _ => hh19) (fun _ _ => rfl) (fun _ _ => hh22) (fun _ _ _ => rfl) (fun _ _ _ => rfl) (fun x18 x20 x21 => (sl_tup (C := C) (e := P.int)))
      have hh24 := es_nil (cb := cbN T (k + 2)) (σ := [some (.p ((f2 (eL P.int) (eL (e2 P.int (eL P.int)))) table_here)), some (.p ((eL P.int) done)), some (.p ((eT P.int) order)), some (.p (P.int s6)), some (.p (P.int y7))]) (C := C) (C0 := C0)
      have hh25 := es_cons hh23 (fun _ => hh24)
      have hh26 := ev_bi (f := .list) hh25 (fun _ => rfl) (fun g23 => (bc_listT (C := C) (e := P.int)))
      have hh27 := ev_bin (op := .add) hh17 (fun _ => hh26) (fun _ _ => rfl) (fun _ _ => rfl) (fun x17 x24 => (bi_cat (C := C) (e := P.int)))
      have hh28 := es_nil (cb := cbN T (k + 2)) (σ := [some (.p ((f2 (eL P.int) (eL (e2 P.int (eL P.int)))) table_here)), some (.p ((eL P.int) done)), some (.p ((eT P.int) order)), some (.p (P.int s6)), some (.p (P.int y7))]) (C := C) (C0 := C0)
      have hh29 := es_cons hh27 (fun _ => hh28)
      have hh30 := es_cons hh16 (fun _ => hh29)
      have hh31 := ev_call (f := "_law_left") hh30 (fun g26 => (okc_law_left k g26.1 g26.2.1 (C := C) hC))
      have hh32 := ev_bin (op := .mul) hh14 (fun _ => hh31) (fun _ _ => rfl) (fun _ _ => rfl) (fun x14 x27 => (bi_mul (C := C)))
      have hh33 := ev_bin (op := .add) hh8 (fun _ => hh32) (fun _ _ => rfl) (fun _ _ => rfl) (fun x8 x28 => (bi_add (C := C)))
      apply st_set (σ := [some (.p ((f2 (eL P.int) (eL (e2 P.int (eL P.int)))) table_here)), some (.p ((eL P.int) done)), some (.p ((eT P.int) order)), some (.p (P.int s6)), some (.p (P.int y7))]) (C := C) hh33 (fun _ => rfl)
      intro v29
      apply st_drop (σ := [some (.p ((f2 (eL P.int) (eL (e2 P.int (eL P.int)))) table_here)), some (.p ((eL P.int) done)), some (.p ((eT P.int) order)), some (.p (P.int v29)), some (.p (P.int y7))]) (C := C) 
      exact en_n (s := v29) rfl
    · intro s30
      have hh34 := ev_var (cb := cbN T (k + 2)) (σ := [some (.p ((f2 (eL P.int) (eL (e2 P.int (eL P.int)))) table_here)), some (.p ((eL P.int) done)), some (.p ((eT P.int) order)), some (.p (P.int s30)), none]) (C := C) (C0 := C0) (i := 3) P.int s30 rfl
      exact st_ret hh34 nvw
  · simp -implicitDefEqProofs only [g_law_behind, sF_bind, sF_no, sF_rt, sF_seq, sL_bind, sL_no, sL_rt, sL_seq, sN_bind, sN_no, sN_seq, sI_bind, sI_no, compM_pure, compM_all, M.bind_ok, M.bind_assoc, M.lo_ok, M.lo_assoc]
theorem okc_law_behind (k : Nat) (table_here : ((List Int) × (List (Int × (List Int))))) (done : (List Int)) (order : (List Int)) {C : CH} {C0 : CH → Prop} (hC : C0 C) : Im ((cbN T (k + 3)).call "_law_behind" [.p ((f2 (eL P.int) (eL (e2 P.int (eL P.int)))) table_here), .p ((eL P.int) done), .p ((eT P.int) order)] C) C0 (g_law_behind table_here done order) (fun r => (RV.v (P.int r), C)) := by
  rw [cl_fn tf_law_behind]
  exact ok_law_behind k table_here done order hC
/-- cheapest -/
noncomputable def g_cheapest (table : Table) : M (Int × (List Int)) :=
  (g_left_weights table).bind fun v3 =>
  (g_least_rests table v3).bind fun v7 =>
  let v8 : (List Int) := ([] : (List Int))
  (whileO (R := (Int × (List Int))) (fun s10 => M.ok (decide ((s10.1.length : Int) < (table.costs.length : Int)))) (fun s10 =>
    (rngM 0 (table.costs.length : Int)).lo fun l50 =>
    (loopO (R := (Int × (List Int))) (fun y22 s21 =>
      (((shrM s21.2 y22).bind fun x25 => M.ok (Builtin.bitAnd x25 (1 : Int))).bind fun x27 => M.ok (decide (x27 = (0 : Int)))).lo fun v29 =>
      (if v29 then (g_price table v3 v7 s21.2 y22).bind fun x36 => (getI v7 s21.2).bind fun x39 => M.ok (decide (x36 = x39)) else M.ok false).lo fun c41 =>
      if c41 then
        (appM s21.1 y22).lo fun l44 =>
        (shlM (1 : Int) y22).lo fun x47 =>
        let v48 : Int := s21.2 + x47
        Lo.bk (l44, v48)
      else
        Lo.nx (s21.1, s21.2)) l50 (s10.1, s10.2)).sq fun s49 =>
    Lo.nx (s49.1, s49.2)) (v8, (0 : Int))).thn fun s51 =>
  (((getI v7 (0 : Int)).bind fun x54 => M.ok (x54, s51.1, ())).bind fun g58 => M.ok (g58.1, g58.2.1)).bind M.ok
theorem ok_cheapest (k : Nat) (table : Table) {C : CH} {C0 : CH → Prop} (hC : C0 C) : Im (runFD (cbN T (k + 3)) F_cheapest_0b4d [.p (eTable table)] C) C0 (g_cheapest table) (fun r => (RV.v ((e2 P.int (eT P.int)) r), C)) := by
  refine fd_im (σ := [some (.p (eTable table)), none, none, none, none, none, none]) rfl ?_
  apply jx (K := sF C0 (fun r : (Int × (List Int)) => (RV.v ((e2 P.int (eT P.int)) r), C)))
  · have hh1 := ev_var (cb := cbN T (k + 3)) (σ := [some (.p (eTable table)), none, none, none, none, none, none]) (C := C) (C0 := C0) (i := 0) eTable table rfl
    have hh2 := es_nil (cb := cbN T (k + 3)) (σ := [some (.p (eTable table)), none, none, none, none, none, none]) (C := C) (C0 := C0)
    have hh3 := es_cons hh1 (fun _ => hh2)
    have hh4 := ev_call (f := "left_weights") hh3 (fun g2 => (okc_left_weights (k + 1) g2.1 (C := C) hC))
    apply st_set (σ := [some (.p (eTable table)), none, none, none, none, none, none]) (C := C) hh4 (fun _ => rfl)
    intro v3
    have hh5 := ev_var (cb := cbN T (k + 3)) (σ := [some (.p (eTable table)), some (.p ((eL P.int) v3)), none, none, none, none, none]) (C := C) (C0 := C0) (i := 0) eTable table rfl
    have hh6 := ev_var (cb := cbN T (k + 3)) (σ := [some (.p (eTable table)), some (.p ((eL P.int) v3)), none, none, none, none, none]) (C := C) (C0 := C0) (i := 1) (eL P.int) v3 rfl
    have hh7 := es_nil (cb := cbN T (k + 3)) (σ := [some (.p (eTable table)), some (.p ((eL P.int) v3)), none, none, none, none, none]) (C := C) (C0 := C0)
    have hh8 := es_cons hh6 (fun _ => hh7)
    have hh9 := es_cons hh5 (fun _ => hh8)
    have hh10 := ev_call (f := "least_rests") hh9 (fun g6 => (okc_least_rests k g6.1 g6.2.1 (C := C) hC))
    apply st_set (σ := [some (.p (eTable table)), some (.p ((eL P.int) v3)), none, none, none, none, none]) (C := C) hh10 (fun _ => rfl)
    intro v7
    have hh11 := es_nil (cb := cbN T (k + 3)) (σ := [some (.p (eTable table)), some (.p ((eL P.int) v3)), some (.p ((eL P.int) v7)), none, none, none, none]) (C := C) (C0 := C0)
    have hh12 := ev_lst hh11 (fun _ => rfl) (fun _ => rfl)
    have hh13 := Im.re (g := fun _ => ([] : (List Int))) (η' := fun l : (List Int) => (RV.fr ((List.map P.int) l), C)) hh12 (fun _ => rfl)
    apply st_own (σ := [some (.p (eTable table)), some (.p ((eL P.int) v3)), some (.p ((eL P.int) v7)), none, none, none, none]) (C := C) hh13 (fun _ => rfl)
    intro v8
    have hh14 := ev_con (cb := cbN T (k + 3)) (σ := [some (.p (eTable table)), some (.p ((eL P.int) v3)), some (.p ((eL P.int) v7)), some (.own ((List.map P.int) v8)), none, none, none]) (C := C) (C0 := C0) P.int 0
    apply st_set (σ := [some (.p (eTable table)), some (.p ((eL P.int) v3)), some (.p ((eL P.int) v7)), some (.own ((List.map P.int) v8)), none, none, none]) (C := C) hh14 (fun _ => rfl)
    intro v9
    have hh15 := fun (s10 : (List Int) × Int) => ev_own (cb := cbN T (k + 3)) (σ := [some (.p (eTable table)), some (.p ((eL P.int) v3)), some (.p ((eL P.int) v7)), some (.own ((List.map P.int) s10.1)), some (.p (P.int s10.2)), none, none]) (C := C) (C0 := C0) (i := 3) (List.map P.int) s10.1 rfl
    have hh16 := fun (s10 : (List Int) × Int) => es_nil (cb := cbN T (k + 3)) (σ := [some (.p (eTable table)), some (.p ((eL P.int) v3)), some (.p ((eL P.int) v7)), some (.own ((List.map P.int) s10.1)), some (.p (P.int s10.2)), none, none]) (C := C) (C0 := C0)
    have hh17 := fun (s10 : (List Int) × Int) => es_cons (hh15 s10) (fun _ => (hh16 s10))
    have hh18 := fun (s10 : (List Int) × Int) => ev_bi (f := .len) (hh17 s10) (fun _ => rfl) (fun g12 => (bc_len (C := C) (e := P.int)))
    have hh19 := fun (s10 : (List Int) × Int) => ev_var (cb := cbN T (k + 3)) (σ := [some (.p (eTable table)), some (.p ((eL P.int) v3)), some (.p ((eL P.int) v7)), some (.own ((List.map P.int) s10.1)), some (.p (P.int s10.2)), none, none]) (C := C) (C0 := C0) (i := 0) eTable table rfl
    have hh20 := fun (s10 : (List Int) × Int) => ev_att (f := "costs") (enc := (eT P.int)) (g := fun z : Table => z.costs) (hh19 s10) (fun _ => att_Table_costs _ _) (fun _ => rfl)
    have hh21 := fun (s10 : (List Int) × Int) => es_nil (cb := cbN T (k + 3)) (σ := [some (.p (eTable table)), some (.p ((eL P.int) v3)), some (.p ((eL P.int) v7)), some (.own ((List.map P.int) s10.1)), some (.p (P.int s10.2)), none, none]) (C := C) (C0 := C0)
    have hh22 := fun (s10 : (List Int) × Int) => es_cons (hh20 s10) (fun _ => (hh21 s10))
    have hh23 := fun (s10 : (List Int) × Int) => ev_bi (f := .len) (hh22 s10) (fun _ => rfl) (fun g15 => (bc_lenT (C := C) (e := P.int)))
    have hh24 := fun (s10 : (List Int) × Int) => ev_cmp (op := .lt) (hh18 s10) (fun _ => (hh23 s10)) (fun _ _ => rfl) (fun _ _ => rfl) (fun x13 x16 => (im_cmp (C := C) cp_lt)) (fun _ _ => rfl)
    apply st_whl (σ := [some (.p (eTable table)), some (.p ((eL P.int) v3)), some (.p ((eL P.int) v7)), some (.own ((List.map P.int) v8)), some (.p (P.int v9)), none, none]) (C := C) (ρ := fun s10 : (List Int) × Int => ([some (.p (eTable table)), some (.p ((eL P.int) v3)), some (.p ((eL P.int) v7)), some (.own ((List.map P.int) s10.1)), some (.p (P.int s10.2)), none, none], C)) (s0 := (v8, v9)) rfl (fun s10 => (hh24 s10)) (fun _ _ => rfl) (fun _ _ => rfl)
    · intro s10
      have hh25 := ev_var (cb := cbN T (k + 3)) (σ := [some (.p (eTable table)), some (.p ((eL P.int) v3)), some (.p ((eL P.int) v7)), some (.own ((List.map P.int) s10.1)), some (.p (P.int s10.2)), none, none]) (C := C) (C0 := C0) (i := 0) eTable table rfl
      have hh26 := ev_att (f := "costs") (enc := (eT P.int)) (g := fun z : Table => z.costs) hh25 (fun _ => att_Table_costs _ _) (fun _ => rfl)
      have hh27 := es_nil (cb := cbN T (k + 3)) (σ := [some (.p (eTable table)), some (.p ((eL P.int) v3)), some (.p ((eL P.int) v7)), some (.own ((List.map P.int) s10.1)), some (.p (P.int s10.2)), none, none]) (C := C) (C0 := C0)
      have hh28 := es_cons hh26 (fun _ => hh27)
      have hh29 := ev_bi (f := .len) hh28 (fun _ => rfl) (fun g18 => (bc_lenT (C := C) (e := P.int)))
      have hh30 := es_nil (cb := cbN T (k + 3)) (σ := [some (.p (eTable table)), some (.p ((eL P.int) v3)), some (.p ((eL P.int) v7)), some (.own ((List.map P.int) s10.1)), some (.p (P.int s10.2)), none, none]) (C := C) (C0 := C0)
      have hh31 := es_cons hh29 (fun _ => hh30)
      apply st_for (σ := [some (.p (eTable table)), some (.p ((eL P.int) v3)), some (.p ((eL P.int) v7)), some (.own ((List.map P.int) s10.1)), some (.p (P.int s10.2)), none, none]) (C := C) (s0 := fun g20 => (s10.1, s10.2)) (ex := P.int) (ρ := fun s21 : (List Int) × Int => ([some (.p (eTable table)), some (.p ((eL P.int) v3)), some (.p ((eL P.int) v7)), some (.own ((List.map P.int) s21.1)), some (.p (P.int s21.2)), none, none], C)) hh31 (fun g20 => itt_rng1) (fun _ => rfl) (fun _ _ => rfl)
      · intro y22 s21
        have hh32 := ev_var (cb := cbN T (k + 3)) (σ := [some (.p (eTable table)), some (.p ((eL P.int) v3)), some (.p ((eL P.int) v7)), some (.own ((List.map P.int) s21.1)), some (.p (P.int s21.2)), some (.p (P.int y22)), none]) (C := C) (C0 := C0) (i := 4) P.int s21.2 rfl
        have hh33 := ev_var (cb := cbN T (k + 3)) (σ := [some (.p (eTable table)), some (.p ((eL P.int) v3)), some (.p ((eL P.int) v7)), some (.own ((List.map P.int) s21.1)), some (.p (P.int s21.2)), some (.p (P.int y22)), none]) (C := C) (C0 := C0) (i := 5) P.int y22 rfl
        have hh34 := ev_bin (op := .shr) hh32 (fun _ => hh33) (fun _ _ => rfl) (fun _ _ => rfl) (fun x23 x24 => (bi_shr (C := C)))
        have hh35 := ev_con (cb := cbN T (k + 3)) (σ := [some (.p (eTable table)), some (.p ((eL P.int) v3)), some (.p ((eL P.int) v7)), some (.own ((List.map P.int) s21.1)), some (.p (P.int s21.2)), some (.p (P.int y22)), none]) (C := C) (C0 := C0) P.int 1
        have hh36 := ev_bin (op := .band) hh34 (fun _ => hh35) (fun _ _ => rfl) (fun _ _ => rfl) (fun x25 x26 => (bi_band (C := C)))
        have hh37 := ev_con (cb := cbN T (k + 3)) (σ := [some (.p (eTable table)), some (.p ((eL P.int) v3)), some (.p ((eL P.int) v7)), some (.own ((List.map P.int) s21.1)), some (.p (P.int s21.2)), some (.p (P.int y22)), none]) (C := C) (C0 := C0) P.int 0
        have hh38 := ev_cmp (op := .eq) hh36 (fun _ => hh37) (fun _ _ => rfl) (fun _ _ => rfl) (fun x27 x28 => (im_cmp (C := C) (cp_eq (a := x27) (b := x28) de_int (by decide)))) (fun _ _ => rfl)
        apply st_set (σ := [some (.p (eTable table)), some (.p ((eL P.int) v3)), some (.p ((eL P.int) v7)), some (.own ((List.map P.int) s21.1)), some (.p (P.int s21.2)), some (.p (P.int y22)), none]) (C := C) hh38 (fun _ => rfl)
        intro v29
        have hh39 := ev_var (cb := cbN T (k + 3)) (σ := [some (.p (eTable table)), some (.p ((eL P.int) v3)), some (.p ((eL P.int) v7)), some (.own ((List.map P.int) s21.1)), some (.p (P.int s21.2)), some (.p (P.int y22)), some (.p (P.bl v29))]) (C := C) (C0 := C0) (i := 6) P.bl v29 rfl
        have hh40 := ev_var (cb := cbN T (k + 3)) (σ := [some (.p (eTable table)), some (.p ((eL P.int) v3)), some (.p ((eL P.int) v7)), some (.own ((List.map P.int) s21.1)), some (.p (P.int s21.2)), some (.p (P.int y22)), some (.p (P.bl v29))]) (C := C) (C0 := C0) (i := 0) eTable table rfl
        have hh41 := ev_var (cb := cbN T (k + 3)) (σ := [some (.p (eTable table)), some (.p ((eL P.int) v3)), some (.p ((eL P.int) v7)), some (.own ((List.map P.int) s21.1)), some (.p (P.int s21.2)), some (.p (P.int y22)), some (.p (P.bl v29))]) (C := C) (C0 := C0) (i := 1) (eL P.int) v3 rfl
        have hh42 := ev_var (cb := cbN T (k + 3)) (σ := [some (.p (eTable table)), some (.p ((eL P.int) v3)), some (.p ((eL P.int) v7)), some (.own ((List.map P.int) s21.1)), some (.p (P.int s21.2)), some (.p (P.int y22)), some (.p (P.bl v29))]) (C := C) (C0 := C0) (i := 2) (eL P.int) v7 rfl
        have hh43 := ev_var (cb := cbN T (k + 3)) (σ := [some (.p (eTable table)), some (.p ((eL P.int) v3)), some (.p ((eL P.int) v7)), some (.own ((List.map P.int) s21.1)), some (.p (P.int s21.2)), some (.p (P.int y22)), some (.p (P.bl v29))]) (C := C) (C0 := C0) (i := 4) P.int s21.2 rfl
        have hh44 := ev_var (cb := cbN T (k + 3)) (σ := [some (.p (eTable table)), some (.p ((eL P.int) v3)), some (.p ((eL P.int) v7)), some (.own ((List.map P.int) s21.1)), some (.p (P.int s21.2)), some (.p (P.int y22)), some (.p (P.bl v29))]) (C := C) (C0 := C0) (i := 5) P.int y22 rfl
        have hh45 := es_nil (cb := cbN T (k + 3)) (σ := [some (.p (eTable table)), some (.p ((eL P.int) v3)), some (.p ((eL P.int) v7)), some (.own ((List.map P.int) s21.1)), some (.p (P.int s21.2)), some (.p (P.int y22)), some (.p (P.bl v29))]) (C := C) (C0 := C0)
        have hh46 := es_cons hh44 (fun _ => hh45)
        have hh47 := es_cons hh43 (fun _ => hh46)
        have hh48 := es_cons hh42 (fun _ => hh47)
        have hh49 := es_cons hh41 (fun _ => hh48)
        have hh50 := es_cons hh40 (fun _ => hh49)
        have hh51 := ev_call (f := "price") hh50 (fun g35 => (okc_price (k + 1) g35.1 g35.2.1 g35.2.2.1 g35.2.2.2.1 g35.2.2.2.2.1 (C := C) hC))
        have hh52 := ev_var (cb := cbN T (k + 3)) (σ := [some (.p (eTable table)), some (.p ((eL P.int) v3)), some (.p ((eL P.int) v7)), some (.own ((List.map P.int) s21.1)), some (.p (P.int s21.2)), some (.p (P.int y22)), some (.p (P.bl v29))]) (C := C) (C0 := C0) (i := 2) (eL P.int) v7 rfl
        have hh53 := ev_var (cb := cbN T (k + 3)) (σ := [some (.p (eTable table)), some (.p ((eL P.int) v3)), some (.p ((eL P.int) v7)), some (.own ((List.map P.int) s21.1)), some (.p (P.int s21.2)), some (.p (P.int y22)), some (.p (P.bl v29))]) (C := C) (C0 := C0) (i := 4) P.int s21.2 rfl
        have hh54 := ev_sub hh52 (fun _ => hh53) (fun _ _ => rfl) (fun _ _ => rfl) (fun x37 x38 => (sb_lst (C := C) (e := P.int)))
        have hh55 := ev_cmp (op := .eq) hh51 (fun _ => hh54) (fun _ _ => rfl) (fun _ _ => rfl) (fun x36 x39 => (im_cmp (C := C) (cp_eq (a := x36) (b := x39) de_int (by decide)))) (fun _ _ => rfl)
        have hh56 := an_one hh55
        have hh57 := an_cons hh39 hh56
        have hh58 := ev_and hh57
        apply st_ifs (σ := [some (.p (eTable table)), some (.p ((eL P.int) v3)), some (.p ((eL P.int) v7)), some (.own ((List.map P.int) s21.1)), some (.p (P.int s21.2)), some (.p (P.int y22)), some (.p (P.bl v29))]) (C := C) hh58 (fun _ => rfl)
        · intro c41
          have hh59 := ev_var (cb := cbN T (k + 3)) (σ := [some (.p (eTable table)), some (.p ((eL P.int) v3)), some (.p ((eL P.int) v7)), some (.own ((List.map P.int) s21.1)), some (.p (P.int s21.2)), some (.p (P.int y22)), some (.p (P.bl v29))]) (C := C) (C0 := C0) (i := 5) P.int y22 rfl
          have hh60 := es_nil (cb := cbN T (k + 3)) (σ := [some (.p (eTable table)), some (.p ((eL P.int) v3)), some (.p ((eL P.int) v7)), some (.own ((List.map P.int) s21.1)), some (.p (P.int s21.2)), some (.p (P.int y22)), some (.p (P.bl v29))]) (C := C) (C0 := C0)
          have hh61 := es_cons hh59 (fun _ => hh60)
          apply st_lm (σ := [some (.p (eTable table)), some (.p ((eL P.int) v3)), some (.p ((eL P.int) v7)), some (.own ((List.map P.int) s21.1)), some (.p (P.int s21.2)), some (.p (P.int y22)), some (.p (P.bl v29))]) (C := C) (out := (List.map P.int)) rfl hh61 (fun _ => rfl) (fun g43 => (lmm_append (e := P.int)))
          intro g43 l44
          have hh62 := ev_con (cb := cbN T (k + 3)) (σ := [some (.p (eTable table)), some (.p ((eL P.int) v3)), some (.p ((eL P.int) v7)), some (.own ((List.map P.int) l44)), some (.p (P.int s21.2)), some (.p (P.int y22)), some (.p (P.bl v29))]) (C := C) (C0 := C0) P.int 1
          have hh63 := ev_var (cb := cbN T (k + 3)) (σ := [some (.p (eTable table)), some (.p ((eL P.int) v3)), some (.p ((eL P.int) v7)), some (.own ((List.map P.int) l44)), some (.p (P.int s21.2)), some (.p (P.int y22)), some (.p (P.bl v29))]) (C := C) (C0 := C0) (i := 5) P.int y22 rfl
          have hh64 := ev_bin (op := .shl) hh62 (fun _ => hh63) (fun _ _ => rfl) (fun _ _ => rfl) (fun x45 x46 => (bi_shl (C := C)))
          apply st_aug (σ := [some (.p (eTable table)), some (.p ((eL P.int) v3)), some (.p ((eL P.int) v7)), some (.own ((List.map P.int) l44)), some (.p (P.int s21.2)), some (.p (P.int y22)), some (.p (P.bl v29))]) (C := C) (y := fun x47 => x47) rfl hh64 (fun _ => au_add)
          intro x47 v48
          apply st_drop (σ := [some (.p (eTable table)), some (.p ((eL P.int) v3)), some (.p ((eL P.int) v7)), some (.own ((List.map P.int) l44)), some (.p (P.int v48)), some (.p (P.int y22)), some (.p (P.bl v29))]) (C := C) 
          apply st_drop (σ := [some (.p (eTable table)), some (.p ((eL P.int) v3)), some (.p ((eL P.int) v7)), some (.own ((List.map P.int) l44)), some (.p (P.int v48)), none, some (.p (P.bl v29))]) (C := C) 
          exact bk_l (s := (l44, v48)) rfl
        · intro c41
          apply st_drop (σ := [some (.p (eTable table)), some (.p ((eL P.int) v3)), some (.p ((eL P.int) v7)), some (.own ((List.map P.int) s21.1)), some (.p (P.int s21.2)), some (.p (P.int y22)), some (.p (P.bl v29))]) (C := C) 
          apply st_drop (σ := [some (.p (eTable table)), some (.p ((eL P.int) v3)), some (.p ((eL P.int) v7)), some (.own ((List.map P.int) s21.1)), some (.p (P.int s21.2)), none, some (.p (P.bl v29))]) (C := C) 
          exact en_l (s := (s21.1, s21.2)) rfl
      · intro s49
        apply st_drop (σ := [some (.p (eTable table)), some (.p ((eL P.int) v3)), some (.p ((eL P.int) v7)), some (.own ((List.map P.int) s49.1)), some (.p (P.int s49.2)), none, none]) (C := C) 
        apply st_drop (σ := [some (.p (eTable table)), some (.p ((eL P.int) v3)), some (.p ((eL P.int) v7)), some (.own ((List.map P.int) s49.1)), some (.p (P.int s49.2)), none, none]) (C := C) 
        exact en_l (s := (s49.1, s49.2)) rfl
    · intro s51
      have hh65 := ev_var (cb := cbN T (k + 3)) (σ := [some (.p (eTable table)), some (.p ((eL P.int) v3)), some (.p ((eL P.int) v7)), some (.own ((List.map P.int) s51.1)), some (.p (P.int s51.2)), none, none]) (C := C) (C0 := C0) (i := 2) (eL P.int) v7 rfl
      have hh66 := ev_var (cb := cbN T (k + 3)) (σ := [some (.p (eTable table)), some (.p ((eL P.int) v3)), some (.p ((eL P.int) v7)), some (.own ((List.map P.int) s51.1)), some (.p (P.int s51.2)), none, none]) (C := C) (C0 := C0) (i := 2) (eL P.int) v7 rfl
      have hh67 := ev_con (cb := cbN T (k + 3)) (σ := [some (.p (eTable table)), some (.p ((eL P.int) v3)), some (.p ((eL P.int) v7)), some (.own ((List.map P.int) s51.1)), some (.p (P.int s51.2)), none, none]) (C := C) (C0 := C0) P.int 0
      have hh68 := ev_sub hh66 (fun _ => hh67) (fun _ _ => rfl) (fun _ _ => rfl) (fun x52 x53 => (sb_lst (C := C) (e := P.int)))
      have hh69 := ev_own (cb := cbN T (k + 3)) (σ := [some (.p (eTable table)), some (.p ((eL P.int) v3)), some (.p ((eL P.int) v7)), some (.own ((List.map P.int) s51.1)), some (.p (P.int s51.2)), none, none]) (C := C) (C0 := C0) (i := 3) (List.map P.int) s51.1 rfl
      have hh70 := es_nil (cb := cbN T (k + 3)) (σ := [some (.p (eTable table)), some (.p ((eL P.int) v3)), some (.p ((eL P.int) v7)), some (.own ((List.map P.int) s51.1)), some (.p (P.int s51.2)), none, none]) (C := C) (C0 := C0)
      have hh71 := es_cons hh69 (fun _ => hh70)
      have hh72 := ev_bi (f := .tuple) hh71 (fun _ => rfl) (fun g56 => (bc_tuple (C := C) (e := P.int)))
      have hh73 := es_nil (cb := cbN T (k + 3)) (σ := [some (.p (eTable table)), some (.p ((eL P.int) v3)), some (.p ((eL P.int) v7)), some (.own ((List.map P.int) s51.1)), some (.p (P.int s51.2)), none, none]) (C := C) (C0 := C0)
      have hh74 := es_cons hh72 (fun _ => hh73)
      have hh75 := es_cons hh68 (fun _ => hh74)
      have hh76 := ev_tup hh75 (fun _ => rfl) (fun _ => rfl)
      have hh77 := Im.re (g := fun g58 => (g58.1, g58.2.1)) (η' := fun p : (Int × (List Int)) => (RV.v ((e2 P.int (eT P.int)) p), C)) hh76 (fun _ => rfl)
      exact st_ret hh77 nvw
  · simp -implicitDefEqProofs only [g_cheapest, sF_bind, sF_no, sF_rt, sF_seq, sL_bind, sL_no, sL_rt, sL_seq, sN_bind, sN_no, sN_seq, sI_bind, sI_no, compM_pure, compM_all, M.bind_ok, M.bind_assoc, M.lo_ok, M.lo_assoc]
theorem okc_cheapest (k : Nat) (table : Table) {C : CH} {C0 : CH → Prop} (hC : C0 C) : Im ((cbN T (k + 4)).call "cheapest" [.p (eTable table)] C) C0 (g_cheapest table) (fun r => (RV.v ((e2 P.int (eT P.int)) r), C)) := by
  rw [cl_fn tf_cheapest]
  exact ok_cheapest k table hC
/-- floor_paper -/
def g_floor_paper (table : Table) : M (List Int) :=
  (g_check_few table).bind fun v3 =>
  (((g_left_weights table).bind fun x7 => M.ok (table, x7, ())).bind fun g8 => g_least_rests g8.1 g8.2.1).bind M.ok
theorem ok_floor_paper (k : Nat) (table : Table) {C : CH} {C0 : CH → Prop} (hC : C0 C) : Im (runFD (cbN T (k + 3)) F_floor_paper_c296 [.p (eTable table)] C) C0 (g_floor_paper table) (fun r => (RV.fr ((List.map P.int) r), C)) := by
  refine fd_im (σ := [some (.p (eTable table))]) rfl ?_
  apply jx (K := sF C0 (fun r : (List Int) => (RV.fr ((List.map P.int) r), C)))
  · have hh1 := ev_var (cb := cbN T (k + 3)) (σ := [some (.p (eTable table))]) (C := C) (C0 := C0) (i := 0) eTable table rfl
    have hh2 := es_nil (cb := cbN T (k + 3)) (σ := [some (.p (eTable table))]) (C := C) (C0 := C0)
    have hh3 := es_cons hh1 (fun _ => hh2)
    have hh4 := ev_call (f := "check_few") hh3 (fun g2 => (okc_check_few (k + 1) g2.1 (C := C) hC))
    apply st_exp (σ := [some (.p (eTable table))]) (C := C) hh4
    intro v3
    have hh5 := ev_var (cb := cbN T (k + 3)) (σ := [some (.p (eTable table))]) (C := C) (C0 := C0) (i := 0) eTable table rfl
    have hh6 := ev_var (cb := cbN T (k + 3)) (σ := [some (.p (eTable table))]) (C := C) (C0 := C0) (i := 0) eTable table rfl
    have hh7 := es_nil (cb := cbN T (k + 3)) (σ := [some (.p (eTable table))]) (C := C) (C0 := C0)
    have hh8 := es_cons hh6 (fun _ => hh7)
    have hh9 := ev_call (f := "left_weights") hh8 (fun g6 => (okc_left_weights (k + 1) g6.1 (C := C) hC))
    have hh10 := es_nil (cb := cbN T (k + 3)) (σ := [some (.p (eTable table))]) (C := C) (C0 := C0)
    have hh11 := es_cons hh9 (fun _ => hh10)
    have hh12 := es_cons hh5 (fun _ => hh11)
    have hh13 := ev_call (f := "least_rests") hh12 (fun g8 => (okc_least_rests k g8.1 g8.2.1 (C := C) hC))
    exact st_ret hh13 nvf
  · simp -implicitDefEqProofs only [g_floor_paper, sF_bind, sF_no, sF_rt, sF_seq, sL_bind, sL_no, sL_rt, sL_seq, sN_bind, sN_no, sN_seq, sI_bind, sI_no, compM_pure, compM_all, M.bind_ok, M.bind_assoc, M.lo_ok, M.lo_assoc]
theorem okc_floor_paper (k : Nat) (table : Table) {C : CH} {C0 : CH → Prop} (hC : C0 C) : Im ((cbN T (k + 4)).call "floor_paper" [.p (eTable table)] C) C0 (g_floor_paper table) (fun r => (RV.fr ((List.map P.int) r), C)) := by
  rw [cl_fn tf_floor_paper]
  exact ok_floor_paper k table hC
/-- _law_made -/
def g_law_made (table_here : ((List Int) × (List (Int × (List Int))))) : M Table :=
  (g_Table_init table_here.1 (table_here.2.map fun y8 => (y8.1, y8.2))).bind M.ok
theorem ok_law_made (k : Nat) (table_here : ((List Int) × (List (Int × (List Int))))) {C : CH} {C0 : CH → Prop} (hC : C0 C) : Im (runFD (cbN T (k + 3)) F_law_made_e7df [.p ((f2 (eL P.int) (eL (e2 P.int (eL P.int)))) table_here)] C) C0 (g_law_made table_here) (fun r => (RV.v (eTable r), C)) := by
  refine fd_im (σ := [some (.p ((f2 (eL P.int) (eL (e2 P.int (eL P.int)))) table_here)), none, none]) rfl ?_
  apply jx (K := sF C0 (fun r : Table => (RV.v (eTable r), C)))
  · have hh1 := ev_var (cb := cbN T (k + 3)) (σ := [some (.p ((f2 (eL P.int) (eL (e2 P.int (eL P.int)))) table_here)), none, none]) (C := C) (C0 := C0) (i := 0) (f2 (eL P.int) (eL (e2 P.int (eL P.int)))) table_here rfl
    have hh2 := ev_subc (i := 0) hh1 (fun _ => rfl) (fun x1 => im_ok (C := C) (eL P.int) x1.1 rfl)
    have hh3 := es_nil (cb := cbN T (k + 3)) (σ := [some (.p ((f2 (eL P.int) (eL (e2 P.int (eL P.int)))) table_here)), none, none]) (C := C) (C0 := C0)
    have hh4 := es_cons hh2 (fun _ => hh3)
    have hh5 := ev_bi (f := .list) hh4 (fun _ => rfl) (fun g3 => (bc_list (C := C) (e := P.int)))
    have hh6 := ev_var (cb := cbN T (k + 3)) (σ := [some (.p ((f2 (eL P.int) (eL (e2 P.int (eL P.int)))) table_here)), none, none]) (C := C) (C0 := C0) (i := 0) (f2 (eL P.int) (eL (e2 P.int (eL P.int)))) table_here rfl
    have hh7 := ev_subc (i := 1) hh6 (fun _ => rfl) (fun x5 => im_ok (C := C) (eL (e2 P.int (eL P.int))) x5.2 rfl)
    have hh8 := es_nil (cb := cbN T (k + 3)) (σ := [some (.p ((f2 (eL P.int) (eL (e2 P.int (eL P.int)))) table_here)), none, none]) (C := C) (C0 := C0)
    have hh9 := es_cons hh7 (fun _ => hh8)
    have hh10 := fun (y8 : (Int × (List Int))) => ev_var (cb := cbN T (k + 3)) (σ := [some (.p ((f2 (eL P.int) (eL (e2 P.int (eL P.int)))) table_here)), some (.p (P.int y8.1)), some (.p ((eL P.int) y8.2))]) (C := C) (C0 := C0) (i := 1) P.int y8.1 rfl
    have hh11 := fun (y8 : (Int × (List Int))) => ev_var (cb := cbN T (k + 3)) (σ := [some (.p ((f2 (eL P.int) (eL (e2 P.int (eL P.int)))) table_here)), some (.p (P.int y8.1)), some (.p ((eL P.int) y8.2))]) (C := C) (C0 := C0) (i := 2) (eL P.int) y8.2 rfl
    have hh12 := fun (y8 : (Int × (List Int))) => es_nil (cb := cbN T (k + 3)) (σ := [some (.p ((f2 (eL P.int) (eL (e2 P.int (eL P.int)))) table_here)), some (.p (P.int y8.1)), some (.p ((eL P.int) y8.2))]) (C := C) (C0 := C0)
    have hh13 := fun (y8 : (Int × (List Int))) => es_cons (hh11 y8) (fun _ => (hh12 y8))
    have hh14 := fun (y8 : (Int × (List Int))) => ev_bi (f := .list) (hh13 y8) (fun _ => rfl) (fun g11 => (bc_list (C := C) (e := P.int)))
    have hh15 := fun (y8 : (Int × (List Int))) => es_nil (cb := cbN T (k + 3)) (σ := [some (.p ((f2 (eL P.int) (eL (e2 P.int (eL P.int)))) table_here)), some (.p (P.int y8.1)), some (.p ((eL P.int) y8.2))]) (C := C) (C0 := C0)
    have hh16 := fun (y8 : (Int × (List Int))) => es_cons (hh14 y8) (fun _ => (hh15 y8))
    have hh17 := fun (y8 : (Int × (List Int))) => es_cons (hh10 y8) (fun _ => (hh16 y8))
    have hh18 := fun (y8 : (Int × (List Int))) => ev_tup (hh17 y8) (fun _ => rfl) (fun _ => rfl)
    have hh19 := fun (y8 : (Int × (List Int))) => Im.re (g := fun g13 => (g13.1, g13.2.1)) (η' := fun p : (Int × (List Int)) => (RV.v ((e2 P.int (eL P.int)) p), C)) (hh18 y8) (fun _ => rfl)
    have hh20 := fun (y8 : (Int × (List Int))) => an_nil (cb := cbN T (k + 3)) (σ := [some (.p ((f2 (eL P.int) (eL (e2 P.int (eL P.int)))) table_here)), some (.p (P.int y8.1)), some (.p ((eL P.int) y8.2))]) (C := C) (C0 := C0)
    have hh21 := ev_compA (X := (Int × (List Int))) (t := (.tp [1, 2])) (kk := .val) (ez := (e2 P.int (eL P.int))) (σ' := fun y8 => [some (.p ((f2 (eL P.int) (eL (e2 P.int (eL P.int)))) table_here)), some (.p (P.int y8.1)), some (.p ((eL P.int) y8.2))]) (f := fun y8 => (y8.1, y8.2)) hh9 (fun g7 => (itt_lst (e := (e2 P.int (eL P.int))))) (fun _ => rfl) (fun _ => rfl) (fun y8 => (hh19 y8)) (fun _ => rfl) (fun _ => rfl)
    have hh22 := es_nil (cb := cbN T (k + 3)) (σ := [some (.p ((f2 (eL P.int) (eL (e2 P.int (eL P.int)))) table_here)), none, none]) (C := C) (C0 := C0)
    have hh23 := es_cons hh21 (fun _ => hh22)
    have hh24 := es_cons hh5 (fun _ => hh23)
    have hh25 := ev_new (f := "Table") hh24 (fun g15 => (okc_Table_init k g15.1 g15.2.1 (C := C) hC))
    exact st_ret hh25 nvw
  · simp -implicitDefEqProofs only [g_law_made, sF_bind, sF_no, sF_rt, sF_seq, sL_bind, sL_no, sL_rt, sL_seq, sN_bind, sN_no, sN_seq, sI_bind, sI_no, compM_pure, compM_all, M.bind_ok, M.bind_assoc, M.lo_ok, M.lo_assoc]
theorem okc_law_made (k : Nat) (table_here : ((List Int) × (List (Int × (List Int))))) {C : CH} {C0 : CH → Prop} (hC : C0 C) : Im ((cbN T (k + 4)).call "_law_made" [.p ((f2 (eL P.int) (eL (e2 P.int (eL P.int)))) table_here)] C) C0 (g_law_made table_here) (fun r => (RV.v (eTable r), C)) := by
  rw [cl_fn tf_law_made]
  exact ok_law_made k table_here hC
/-- _law_due -/
def g_law_due (table_here : ((List Int) × (List (Int × (List Int))))) : M (List Int) :=
  let v4 : Int := (table_here.1.length : Int)
  let v5 : (List Int) := ([] : (List Int))
  ((powM (2 : Int) (5 : Int)).bind fun x8 => M.ok (x8, ())).bind fun g9 =>
  (rngM 0 g9.1).bind fun l53 =>
  (loopM (fun y11 s10 =>
    ((shlM (1 : Int) v4).bind fun x15 => M.ok (decide (y11 < x15))).bind fun c16 =>
    (if c16 then
      ((rngM 0 v4).bind fun l26 => compM (fun y19 => ((shrM y11 y19).bind fun x22 => M.ok (Builtin.bitAnd x22 (1 : Int))).bind fun x24 => M.ok (decide (x24 = (1 : Int)))) (fun y19 => M.ok y19) l26).bind fun v27 =>
      ((rngM 0 v4).bind fun l33 => M.ok ((l33.filter fun y30 => !decide (y30 ∈ v27)).map fun y30 => y30)).bind fun v34 =>
      ((((((g_law_perms v34).bind fun x37 => M.ok (x37, ())).bind fun g38 => compM (fun _ => M.ok true) (fun y39 => ((g_law_behind table_here v27 y39).bind fun x44 => M.ok (x44, ())).bind fun g45 => M.ok g45.1) g38.1).bind fun x46 => M.ok (x46, ())).bind fun g47 => minlM g47.1).bind fun x48 => M.ok (x48, ())).bind fun g49 =>
      (appM s10 g49.1).bind fun l50 =>
      M.ok l50
    else
      M.ok s10).bind fun s51 =>
    M.ok s51) l53 v5).bind fun s52 =>
  M.ok s52
theorem ok_law_due (k : Nat) (table_here : ((List Int) × (List (Int × (List Int))))) {C : CH} {C0 : CH → Prop} (hC : C0 C) : Im (runFD (cbN T (k + 3)) F_law_due_e19d [.p ((f2 (eL P.int) (eL (e2 P.int (eL P.int)))) table_here)] C) C0 (g_law_due table_here) (fun r => (RV.fr ((List.map P.int) r), C)) := by
  refine fd_im (σ := [some (.p ((f2 (eL P.int) (eL (e2 P.int (eL P.int)))) table_here)), none, none, none, none, none, none, none]) rfl ?_
  apply jx (K := sF C0 (fun r : (List Int) => (RV.fr ((List.map P.int) r), C)))
  · have hh1 := ev_var (cb := cbN T (k + 3)) (σ := [some (.p ((f2 (eL P.int) (eL (e2 P.int (eL P.int)))) table_here)), none, none, none, none, none, none, none]) (C := C) (C0 := C0) (i := 0) (f2 (eL P.int) (eL (e2 P.int (eL P.int)))) table_here rfl
    have hh2 := ev_subc (i := 0) hh1 (fun _ => rfl) (fun x1 => im_ok (C := C) (eL P.int) x1.1 rfl)
    have hh3 := es_nil (cb := cbN T (k + 3)) (σ := [some (.p ((f2 (eL P.int) (eL (e2 P.int (eL P.int)))) table_here)), none, none, none, none, none, none, none]) (C := C) (C0 := C0)
    have hh4 := es_cons hh2 (fun _ => hh3)
    have hh5 := ev_bi (f := .len) hh4 (fun _ => rfl) (fun g3 => (bc_len (C := C) (e := P.int)))
    apply st_set (σ := [some (.p ((f2 (eL P.int) (eL (e2 P.int (eL P.int)))) table_here)), none, none, none, none, none, none, none]) (C := C) hh5 (fun _ => rfl)
    intro v4
    have hh6 := es_nil (cb := cbN T (k + 3)) (σ := [some (.p ((f2 (eL P.int) (eL (e2 P.int (eL P.int)))) table_here)), some (.p (P.int v4)), none, none, none, none, none, none]) (C := C) (C0 := C0)
    have hh7 := ev_lst hh6 (fun _ => rfl) (fun _ => rfl)
    have hh8 := Im.re (g := fun _ => ([] : (List Int))) (η' := fun l : (List Int) => (RV.fr ((List.map P.int) l), C)) hh7 (fun _ => rfl)
    apply st_own (σ := [some (.p ((f2 (eL P.int) (eL (e2 P.int (eL P.int)))) table_here)), some (.p (P.int v4)), none, none, none, none, none, none]) (C := C) hh8 (fun _ => rfl)
    intro v5
    have hh9 := ev_con (cb := cbN T (k + 3)) (σ := [some (.p ((f2 (eL P.int) (eL (e2 P.int (eL P.int)))) table_here)), some (.p (P.int v4)), some (.own ((List.map P.int) v5)), none, none, none, none, none]) (C := C) (C0 := C0) P.int 2
    have hh10 := ev_con (cb := cbN T (k + 3)) (σ := [some (.p ((f2 (eL P.int) (eL (e2 P.int (eL P.int)))) table_here)), some (.p (P.int v4)), some (.own ((List.map P.int) v5)), none, none, none, none, none]) (C := C) (C0 := C0) P.int 5
    have hh11 := ev_bin (op := .pow) hh9 (fun _ => hh10) (fun _ _ => rfl) (fun _ _ => rfl) (fun x6 x7 => (bi_pow (C := C)))
    have hh12 := es_nil (cb := cbN T (k + 3)) (σ := [some (.p ((f2 (eL P.int) (eL (e2 P.int (eL P.int)))) table_here)), some (.p (P.int v4)), some (.own ((List.map P.int) v5)), none, none, none, none, none]) (C := C) (C0 := C0)
    have hh13 := es_cons hh11 (fun _ => hh12)
    apply st_forM (σ := [some (.p ((f2 (eL P.int) (eL (e2 P.int (eL P.int)))) table_here)), some (.p (P.int v4)), some (.own ((List.map P.int) v5)), none, none, none, none, none]) (C := C) (s0 := fun g9 => v5) (ex := P.int) (ρ := fun s10 : (List Int) => ([some (.p ((f2 (eL P.int) (eL (e2 P.int (eL P.int)))) table_here)), some (.p (P.int v4)), some (.own ((List.map P.int) s10)), none, none, none, none, none], C)) hh13 (fun g9 => itt_rng1) (fun _ => rfl) (fun _ _ => rfl)
    · intro y11 s10
      have hh14 := ev_var (cb := cbN T (k + 3)) (σ := [some (.p ((f2 (eL P.int) (eL (e2 P.int (eL P.int)))) table_here)), some (.p (P.int v4)), some (.own ((List.map P.int) s10)), some (.p (P.int y11)), none, none, none, none]) (C := C) (C0 := C0) (i := 3) P.int y11 rfl
      have hh15 := ev_con (cb := cbN T (k + 3)) (σ := [some (.p ((f2 (eL P.int) (eL (e2 P.int (eL P.int)))) table_here)), some (.p (P.int v4)), some (.own ((List.map P.int) s10)), some (.p (P.int y11)), none, none, none, none]) (C := C) (C0 := C0) P.int 1
      have hh16 := ev_var (cb := cbN T (k + 3)) (σ := [some (.p ((f2 (eL P.int) (eL (e2 P.int (eL P.int)))) table_here)), some (.p (P.int v4)), some (.own ((List.map P.int) s10)), some (.p (P.int y11)), none, none, none, none]) (C := C) (C0 := C0) (i := 1) P.int v4 rfl
      have hh17 := ev_bin (op := .shl) hh15 (fun _ => hh16) (fun _ _ => rfl) (fun _ _ => rfl) (fun x13 x14 => (bi_shl (C := C)))
      have hh18 := ev_cmp (op := .lt) hh14 (fun _ => hh17) (fun _ _ => rfl) (fun _ _ => rfl) (fun x12 x15 => (im_cmp (C := C) cp_lt)) (fun _ _ => rfl)
      apply st_ifj (σ := [some (.p ((f2 (eL P.int) (eL (e2 P.int (eL P.int)))) table_here)), some (.p (P.int v4)), some (.own ((List.map P.int) s10)), some (.p (P.int y11)), none, none, none, none]) (C := C) (ρ := fun s51 : (List Int) => ([some (.p ((f2 (eL P.int) (eL (e2 P.int (eL P.int)))) table_here)), some (.p (P.int v4)), some (.own ((List.map P.int) s51)), some (.p (P.int y11)), none, none, none, none], C)) hh18 (fun _ => rfl)
      · intro c16
        have hh65 := ev_var (cb := cbN T (k + 3)) (σ := [some (.p ((f2 (eL P.int) (eL (e2 P.int (eL P.int)))) table_here)), some (.p (P.int v4)), some (.own ((List.map P.int) s10)), some (.p (P.int y11)), none, none, none, none]) (C := C) (C0 := C0) (i := 1) P.int v4 rfl
        have hh66 := es_nil (cb := cbN T (k + 3)) (σ := [some (.p ((f2 (eL P.int) (eL (e2 P.int (eL P.int)))) table_here)), some (.p (P.int v4)), some (.own ((List.map P.int) s10)), some (.p (P.int y11)), none, none, none, none]) (C := C) (C0 := C0)
        have hh67 := es_cons hh65 (fun _ => hh66)
        have hh68 := fun (y19 : Int) => ev_var (cb := cbN T (k + 3)) (σ := [some (.p ((f2 (eL P.int) (eL (e2 P.int (eL P.int)))) table_here)), some (.p (P.int v4)), some (.own ((List.map P.int) s10)), some (.p (P.int y11)), none, none, some (.p (P.int y19)), none]) (C := C) (C0 := C0) (i := 6) P.int y19 rfl
        have hh69 := fun (y19 : Int) => ev_var (cb := cbN T (k + 3)) (σ := [some (.p ((f2 (eL P.int) (eL (e2 P.int (eL P.int)))) table_here)), some (.p (P.int v4)), some (.own ((List.map P.int) s10)), some (.p (P.int y11)), none, none, some (.p (P.int y19)), none]) (C := C) (C0 := C0) (i := 3) P.int y11 rfl
        have hh70 := fun (y19 : Int) => ev_var (cb := cbN T (k + 3)) (σ := [some (.p ((f2 (eL P.int) (eL (e2 P.int (eL P.int)))) table_here)), some (.p (P.int v4)), some (.own ((List.map P.int) s10)), some (.p (P.int y11)), none, none, some (.p (P.int y19)), none]) (C := C) (C0 := C0) (i := 6) P.int y19 rfl
        have hh71 := fun (y19 : Int) => ev_bin (op := .shr) (hh69 y19) (fun _ => (hh70 y19)) (fun _ _ => rfl) (fun _ _ => rfl) (fun x20 x21 => (bi_shr (C := C)))
        have hh72 := fun (y19 : Int) => ev_con (cb := cbN T (k + 3)) (σ := [some (.p ((f2 (eL P.int) (eL (e2 P.int (eL P.int)))) table_here)), some (.p (P.int v4)), some (.own ((List.map P.int) s10)), some (.p (P.int y11)), none, none, some (.p (P.int y19)), none]) (C := C) (C0 := C0) P.int 1
        have hh73 := fun (y19 : Int) => ev_bin (op := .band) (hh71 y19) (fun _ => (hh72 y19)) (fun _ _ => rfl) (fun _ _ => rfl) (fun x22 x23 => (bi_band (C := C)))
        have hh74 := fun (y19 : Int) => ev_con (cb := cbN T (k + 3)) (σ := [some (.p ((f2 (eL P.int) (eL (e2 P.int (eL P.int)))) table_here)), some (.p (P.int v4)), some (.own ((List.map P.int) s10)), some (.p (P.int y11)), none, none, some (.p (P.int y19)), none]) (C := C) (C0 := C0) P.int 1
        have hh75 := fun (y19 : Int) => ev_cmp (op := .eq) (hh73 y19) (fun _ => (hh74 y19)) (fun _ _ => rfl) (fun _ _ => rfl) (fun x24 x25 => (im_cmp (C := C) (cp_eq (a := x24) (b := x25) de_int (by decide)))) (fun _ _ => rfl)
        have hh76 := fun (y19 : Int) => an_one (hh75 y19)
        have hh77 := ev_comp (X := Int) (t := (.nm 6)) (kk := .rng1) (ez := P.int) (σ' := fun y19 => [some (.p ((f2 (eL P.int) (eL (e2 P.int (eL P.int)))) table_here)), some (.p (P.int v4)), some (.own ((List.map P.int) s10)), some (.p (P.int y11)), none, none, some (.p (P.int y19)), none]) hh67 (fun g18 => itt_rng1) (fun _ => rfl) (fun _ => rfl) (fun y19 => (hh76 y19)) (fun y19 => (hh68 y19)) (fun _ => rfl) (fun _ => rfl)
        apply st_set (σ := [some (.p ((f2 (eL P.int) (eL (e2 P.int (eL P.int)))) table_here)), some (.p (P.int v4)), some (.own ((List.map P.int) s10)), some (.p (P.int y11)), none, none, none, none]) (C := C) hh77 (fun _ => rfl)
        intro v27
        have hh78 := ev_var (cb := cbN T (k + 3)) (σ := [some (.p ((f2 (eL P.int) (eL (e2 P.int (eL P.int)))) table_here)), some (.p (P.int v4)), some (.own ((List.map P.int) s10)), some (.p (P.int y11)), some (.p ((eL P.int) v27)), none, none, none]) (C := C) (C0 := C0) (i := 1) P.int v4 rfl
        have hh79 := es_nil (cb := cbN T (k + 3)) (σ := [some (.p ((f2 (eL P.int) (eL (e2 P.int (eL P.int)))) table_here)), some (.p (P.int v4)), some (.own ((List.map P.int) s10)), some (.p (P.int y11)), some (.p ((eL P.int) v27)), none, none, none]) (C := C) (C0 := C0)
        have hh80 := es_cons hh78 (fun _ => hh79)
        have hh81 := fun (y30 : Int) => ev_var (cb := cbN T (k + 3)) (σ := [some (.p ((f2 (eL P.int) (eL (e2 P.int (eL P.int)))) table_here)), some (.p (P.int v4)), some (.own ((List.map P.int) s10)), some (.p (P.int y11)), some (.p ((eL P.int) v27)), none, some (.p (P.int y30)), none]) (C := C) (C0 := C0) (i := 6) P.int y30 rfl
        have hh82 := fun (y30 : Int) => ev_var (cb := cbN T (k + 3)) (σ := [some (.p ((f2 (eL P.int) (eL (e2 P.int (eL P.int)))) table_here)), some (.p (P.int v4)), some (.own ((List.map P.int) s10)), some (.p (P.int y11)), some (.p ((eL P.int) v27)), none, some (.p (P.int y30)), none]) (C := C) (C0 := C0) (i := 6) P.int y30 rfl
        have hh83 := fun (y30 : Int) => ev_var (cb := cbN T (k + 3)) (σ := [some (.p ((f2 (eL P.int) (eL (e2 P.int (eL P.int)))) table_here)), some (.p (P.int v4)), some (.own ((List.map P.int) s10)), some (.p (P.int y11)), some (.p ((eL P.int) v27)), none, some (.p (P.int y30)), none]) (C := C) (C0 := C0) (i := 4) (eL P.int) v27 rfl
        have hh84 := fun (y30 : Int) => ev_cmp (op := .nin) (hh82 y30) (fun _ => (hh83 y30)) (fun _ _ => rfl) (fun _ _ => rfl) (fun x31 x32 => (im_cmp (C := C) (cp_nin fe_int))) (fun _ _ => rfl)
        have hh85 := fun (y30 : Int) => an_one (hh84 y30)
        have hh86 := ev_compP (X := Int) (t := (.nm 6)) (kk := .rng1) (ez := P.int) (σ' := fun y30 => [some (.p ((f2 (eL P.int) (eL (e2 P.int (eL P.int)))) table_here)), some (.p (P.int v4)), some (.own ((List.map P.int) s10)), some (.p (P.int y11)), some (.p ((eL P.int) v27)), none, some (.p (P.int y30)), none]) (g := fun y30 => !decide (y30 ∈ v27)) (f := fun y30 => y30) hh80 (fun g29 => itt_rng1) (fun _ => rfl) (fun _ => rfl) (fun y30 => (hh85 y30)) (fun y30 => (hh81 y30)) (fun _ => rfl) (fun _ => rfl)
        apply st_set (σ := [some (.p ((f2 (eL P.int) (eL (e2 P.int (eL P.int)))) table_here)), some (.p (P.int v4)), some (.own ((List.map P.int) s10)), some (.p (P.int y11)), some (.p ((eL P.int) v27)), none, none, none]) (C := C) hh86 (fun _ => rfl)
        intro v34
        have hh87 := ev_var (cb := cbN T (k + 3)) (σ := [some (.p ((f2 (eL P.int) (eL (e2 P.int (eL P.int)))) table_here)), some (.p (P.int v4)), some (.own ((List.map P.int) s10)), some (.p (P.int y11)), some (.p ((eL P.int) v27)), some (.p ((eL P.int) v34)), none, none]) (C := C) (C0 := C0) (i := 5) (eL P.int) v34 rfl
        have hh88 := es_nil (cb := cbN T (k + 3)) (σ := [some (.p ((f2 (eL P.int) (eL (e2 P.int (eL P.int)))) table_here)), some (.p (P.int v4)), some (.own ((List.map P.int) s10)), some (.p (P.int y11)), some (.p ((eL P.int) v27)), some (.p ((eL P.int) v34)), none, none]) (C := C) (C0 := C0)
        have hh89 := es_cons hh87 (fun _ => hh88)
        have hh90 := ev_call (f := "_law_perms") hh89 (fun g36 => (okc_law_perms (k + 1) g36.1 (C := C) hC))
        have hh91 := es_nil (cb := cbN T (k + 3)) (σ := [some (.p ((f2 (eL P.int) (eL (e2 P.int (eL P.int)))) table_here)), some (.p (P.int v4)), some (.own ((List.map P.int) s10)), some (.p (P.int y11)), some (.p ((eL P.int) v27)), some (.p ((eL P.int) v34)), none, none]) (C := C) (C0 := C0)
        have hh92 := es_cons hh90 (fun _ => hh91)
        have hh93 := fun (y39 : (List Int)) => ev_var (cb := cbN T (k + 3)) (σ := [some (.p ((f2 (eL P.int) (eL (e2 P.int (eL P.int)))) table_here)), some (.p (P.int v4)), some (.own ((List.map P.int) s10)), some (.p (P.int y11)), some (.p ((eL P.int) v27)), some (.p ((eL P.int) v34)), none, some (.p ((eT P.int) y39))]) (C := C) (C0 := C0) (i := 0) (f2 (eL P.int) (eL (e2 P.int (eL P.int)))) table_here rfl
        have hh94 := fun (y39 : (List Int)) => ev_var (cb := cbN T (k + 3)) (σ := [some (.p ((f2 (eL P.int) (eL (e2 P.int (eL P.int)))) table_here)), some (.p (P.int v4)), some (.own ((List.map P.int) s10)), some (.p (P.int y11)), some (.p ((eL P.int) v27)), some (.p ((eL P.int) v34)), none, some (.p ((eT P.int) y39))]) (C := C) (C0 := C0) (i := 4) (eL P.int) v27 rfl
        have hh95 := fun (y39 : (List Int)) => ev_var (cb := cbN T (k + 3)) (σ := [some (.p ((f2 (eL P.int) (eL (e2 P.int (eL P.int)))) table_here)), some (.p (P.int v4)), some (.own ((List.map P.int) s10)), some (.p (P.int y11)), some (.p ((eL P.int) v27)), some (.p ((eL P.int) v34)), none, some (.p ((eT P.int) y39))]) (C := C) (C0 := C0) (i := 7) (eT P.int) y39 rfl
        have hh96 := fun (y39 : (List Int)) => es_nil (cb := cbN T (k + 3)) (σ := [some (.p ((f2 (eL P.int) (eL (e2 P.int (eL P.int)))) table_here)), some (.p (P.int v4)), some (.own ((List.map P.int) s10)), some (.p (P.int y11)), some (.p ((eL P.int) v27)), some (.p ((eL P.int) v34)), none, some (.p ((eT P.int) y39))]) (C := C) (C0 := C0)
        have hh97 := fun (y39 : (List Int)) => es_cons (hh95 y39) (fun _ => (hh96 y39))
        have hh98 := fun (y39 : (List Int)) => es_cons (hh94 y39) (fun _ => (hh97 y39))
        have hh99 := fun (y39 : (List Int)) => es_cons (hh93 y39) (fun _ => (hh98 y39))
        have hh100 := fun (y39 : (List Int)) => ev_call (f := "_law_behind") (hh99 y39) (fun g43 => (okc_law_behind k g43.1 g43.2.1 g43.2.2.1 (C := C) hC))
        have hh101 := fun (y39 : (List Int)) => es_nil (cb := cbN T (k + 3)) (σ := [some (.p ((f2 (eL P.int) (eL (e2 P.int (eL P.int)))) table_here)), some (.p (P.int v4)), some (.own ((List.map P.int) s10)), some (.p (P.int y11)), some (.p ((eL P.int) v27)), some (.p ((eL P.int) v34)), none, some (.p ((eT P.int) y39))]) (C := C) (C0 := C0)
        have hh102 := fun (y39 : (List Int)) => es_cons (hh100 y39) (fun _ => (hh101 y39))
        have hh103 := fun (y39 : (List Int)) => ev_bi (f := .int) (hh102 y39) (fun _ => rfl) (fun g45 => (bc_int (C := C)))
        have hh104 := fun (y39 : (List Int)) => an_nil (cb := cbN T (k + 3)) (σ := [some (.p ((f2 (eL P.int) (eL (e2 P.int (eL P.int)))) table_here)), some (.p (P.int v4)), some (.own ((List.map P.int) s10)), some (.p (P.int y11)), some (.p ((eL P.int) v27)), some (.p ((eL P.int) v34)), none, some (.p ((eT P.int) y39))]) (C := C) (C0 := C0)
        have hh105 := ev_comp (X := (List Int)) (t := (.nm 7)) (kk := .val) (ez := P.int) (σ' := fun y39 => [some (.p ((f2 (eL P.int) (eL (e2 P.int (eL P.int)))) table_here)), some (.p (P.int v4)), some (.own ((List.map P.int) s10)), some (.p (P.int y11)), some (.p ((eL P.int) v27)), some (.p ((eL P.int) v34)), none, some (.p ((eT P.int) y39))]) hh92 (fun g38 => (itt_lst (e := (eT P.int)))) (fun _ => rfl) (fun _ => rfl) (fun y39 => (hh104 y39)) (fun y39 => (hh103 y39)) (fun _ => rfl) (fun _ => rfl)
        have hh106 := es_nil (cb := cbN T (k + 3)) (σ := [some (.p ((f2 (eL P.int) (eL (e2 P.int (eL P.int)))) table_here)), some (.p (P.int v4)), some (.own ((List.map P.int) s10)), some (.p (P.int y11)), some (.p ((eL P.int) v27)), some (.p ((eL P.int) v34)), none, none]) (C := C) (C0 := C0)
        have hh107 := es_cons hh105 (fun _ => hh106)
        have hh108 := ev_bi (f := .minl) hh107 (fun _ => rfl) (fun g47 => (bc_minl (C := C)))
        have hh109 := es_nil (cb := cbN T (k + 3)) (σ := [some (.p ((f2 (eL P.int) (eL (e2 P.int (eL P.int)))) table_here)), some (.p (P.int v4)), some (.own ((List.map P.int) s10)), some (.p (P.int y11)), some (.p ((eL P.int) v27)), some (.p ((eL P.int) v34)), none, none]) (C := C) (C0 := C0)
        have hh110 := es_cons hh108 (fun _ => hh109)
        apply st_lm (σ := [some (.p ((f2 (eL P.int) (eL (e2 P.int (eL P.int)))) table_here)), some (.p (P.int v4)), some (.own ((List.map P.int) s10)), some (.p (P.int y11)), some (.p ((eL P.int) v27)), some (.p ((eL P.int) v34)), none, none]) (C := C) (out := (List.map P.int)) rfl hh110 (fun _ => rfl) (fun g49 => (lmm_append (e := P.int)))
        intro g49 l50
        apply st_drop (σ := [some (.p ((f2 (eL P.int) (eL (e2 P.int (eL P.int)))) table_here)), some (.p (P.int v4)), some (.own ((List.map P.int) l50)), some (.p (P.int y11)), some (.p ((eL P.int) v27)), some (.p ((eL P.int) v34)), none, none]) (C := C) 
        apply st_drop (σ := [some (.p ((f2 (eL P.int) (eL (e2 P.int (eL P.int)))) table_here)), some (.p (P.int v4)), some (.own ((List.map P.int) l50)), some (.p (P.int y11)), none, some (.p ((eL P.int) v34)), none, none]) (C := C) 
        exact en_n (s := l50) rfl
      · intro c16
        apply st_drop (σ := [some (.p ((f2 (eL P.int) (eL (e2 P.int (eL P.int)))) table_here)), some (.p (P.int v4)), some (.own ((List.map P.int) s10)), some (.p (P.int y11)), none, none, none, none]) (C := C) 
        apply st_drop (σ := [some (.p ((f2 (eL P.int) (eL (e2 P.int (eL P.int)))) table_here)), some (.p (P.int v4)), some (.own ((List.map P.int) s10)), some (.p (P.int y11)), none, none, none, none]) (C := C) 
        exact en_n (s := s10) rfl
      · intro s51
        apply st_drop (σ := [some (.p ((f2 (eL P.int) (eL (e2 P.int (eL P.int)))) table_here)), some (.p (P.int v4)), some (.own ((List.map P.int) s51)), some (.p (P.int y11)), none, none, none, none]) (C := C) 
        apply st_drop (σ := [some (.p ((f2 (eL P.int) (eL (e2 P.int (eL P.int)))) table_here)), some (.p (P.int v4)), some (.own ((List.map P.int) s51)), none, none, none, none, none]) (C := C) 
        apply st_drop (σ := [some (.p ((f2 (eL P.int) (eL (e2 P.int (eL P.int)))) table_here)), some (.p (P.int v4)), some (.own ((List.map P.int) s51)), none, none, none, none, none]) (C := C) 
        exact en_n (s := s51) rfl
    · intro s52
      have hh111 := ev_own (cb := cbN T (k + 3)) (σ := [some (.p ((f2 (eL P.int) (eL (e2 P.int (eL P.int)))) table_here)), some (.p (P.int v4)), some (.own ((List.map P.int) s52)), none, none, none, none, none]) (C := C) (C0 := C0) (i := 2) (List.map P.int) s52 rfl
      exact st_retv hh111
  · simp -implicitDefEqProofs only [g_law_due, sF_bind, sF_no, sF_rt, sF_seq, sL_bind, sL_no, sL_rt, sL_seq, sN_bind, sN_no, sN_seq, sI_bind, sI_no, compM_pure, compM_all, M.bind_ok, M.bind_assoc, M.lo_ok, M.lo_assoc]
theorem okc_law_due (k : Nat) (table_here : ((List Int) × (List (Int × (List Int))))) {C : CH} {C0 : CH → Prop} (hC : C0 C) : Im ((cbN T (k + 4)).call "_law_due" [.p ((f2 (eL P.int) (eL (e2 P.int (eL P.int)))) table_here)] C) C0 (g_law_due table_here) (fun r => (RV.fr ((List.map P.int) r), C)) := by
  rw [cl_fn tf_law_due]
  exact ok_law_due k table_here hC
/-- law -/
noncomputable def g_law (script : (List Int)) : M (Bool × ((List Int) × Int × Int × Int)) :=
  ((g_law_box script).nox).bind fun b3 =>
  ((g_law_draw b3 (3 : Int)).bind fun x12 => (getI ([(4 : Int), (1000 : Int), (1000 : Int)]) x12.1).bind fun x13 => M.ok (x13, x12.2)).bind fun v14 =>
  (g_law_table v14.2 (5 : Int) (12 : Int) v14.1).bind fun v20 =>
  ((g_law_made v20.1).nox).bind fun v23 =>
  ((g_law_due v20.1).nox).bind fun v26 =>
  ((g_floor_paper v23).nox).bind fun v29 =>
  (if (!true) then M.ok true else if (!decide (v29 = v26)) then M.ok true else (((g_cheapest v23).nox).bind fun x34 => M.ok x34.1).bind fun x35 => (getI v26 (0 : Int)).bind fun x38 => M.ok (!decide (x35 = x38))).bind fun c41 =>
  if c41 then
    M.ok (false, v20.2)
  else
    ((((getI v26 (0 : Int)).bind fun x45 => M.ok (x45 + (1 : Int))).bind fun x47 => M.ok ((), x47, ())).bind fun g48 => g_law_draw v20.2 g48.2.1).bind fun v49 =>
    ((((getI v26 (0 : Int)).bind fun x52 => M.ok (x52, v49.1, (0 : Int), ())).bind fun g55 => M.ok ([g55.1, g55.2.1, g55.2.2.1])).bind fun x56 => M.ok (x56, ())).bind fun g57 =>
    (loopO (R := (Bool × ((List Int) × Int × Int × Int))) (fun y59 s58 =>
      ((((g_judge_floor v23 v29 y59).nox).bind fun x64 => M.ok (!(x64 == true))).bind fun x74 => if x74 then M.ok true else ((g_judge_floor_t v23 v29 y59).nox).bind fun x72 => M.ok (!(x72 == true))).lo fun c75 =>
      if c75 then
        Lo.rt (false, v49.2)
      else
        Lo.nx ()) g57.1 ()).thn fun s76 =>
    ((((((getI v26 (0 : Int)).bind fun x81 => M.ok (x81 + (1 : Int))).bind fun x83 => M.ok (v23, v29, x83, ())).bind fun g84 => (g_judge_floor g84.1 g84.2.1 g84.2.2.1).nox).bind fun x85 => M.ok (!(x85 == false))).bind fun x97 => if x97 then M.ok true else ((g_judge_floor v23 (cutI v29 none (some (-(1 : Int)))) (0 : Int)).nox).bind fun x95 => M.ok (!(x95 == false))).bind fun c98 =>
    if c98 then
      M.ok (false, v49.2)
    else
      (setI v29 (0 : Int) (0 : Int)).bind fun l101 =>
      ((((g_floor_paper v23).nox).bind fun x104 => M.ok (decide (x104 = v26))).bind fun x114 => if x114 then (((getI v26 (0 : Int)).bind fun x110 => M.ok (v23, v26, x110, ())).bind fun g111 => (g_judge_floor g111.1 g111.2.1 g111.2.2.1).nox).bind fun x112 => M.ok (x112 == true) else M.ok false).bind fun x115 => M.ok (x115, v49.2)
theorem ok_law (k : Nat) (script : (List Int)) {C0 : CH → Prop} : Im (runFD (cbN T (k + 4)) F_law_fcf4 [.p ((eR P.int) script)] []) C0 (g_law script) (fun r => (RV.v (P.bl r.1), kap [] r.2)) := by
  refine fd_im (σ := [some (.p ((eR P.int) script)), none, none, none, none, none, none, none, none]) rfl ?_
  apply jx (K := sF C0 (fun r : (Bool × ((List Int) × Int × Int × Int)) => (RV.v (P.bl r.1), kap [] r.2)))
  · have hh1 := ev_var (cb := cbN T (k + 4)) (σ := [some (.p ((eR P.int) script)), none, none, none, none, none, none, none, none]) (C := []) (C0 := C0) (i := 0) (eR P.int) script rfl
    have hh2 := es_nil (cb := cbN T (k + 4)) (σ := [some (.p ((eR P.int) script)), none, none, none, none, none, none, none, none]) (C := []) (C0 := C0)
    have hh3 := es_cons hh1 (fun _ => hh2)
    have hh4 := ev_call (f := "_law_box") hh3 (fun g2 => (Im.nox (okc_law_box (k + 2) g2.1 (C := []) (C0 := fun _ => True) trivial)))
    apply st_setc (σ := [some (.p ((eR P.int) script)), none, none, none, none, none, none, none, none]) (C := []) hh4 (fun _ => rfl)
    intro b3
    have hh5 := ev_con (cb := cbN T (k + 4)) (σ := [some (.p ((eR P.int) script)), some (.cell 0), none, none, none, none, none, none, none]) (C := (kap [] b3)) (C0 := C0) P.int 4
    have hh6 := ev_con (cb := cbN T (k + 4)) (σ := [some (.p ((eR P.int) script)), some (.cell 0), none, none, none, none, none, none, none]) (C := (kap [] b3)) (C0 := C0) P.int 1000
    have hh7 := ev_con (cb := cbN T (k + 4)) (σ := [some (.p ((eR P.int) script)), some (.cell 0), none, none, none, none, none, none, none]) (C := (kap [] b3)) (C0 := C0) P.int 1000
    have hh8 := es_nil (cb := cbN T (k + 4)) (σ := [some (.p ((eR P.int) script)), some (.cell 0), none, none, none, none, none, none, none]) (C := (kap [] b3)) (C0 := C0)
    have hh9 := es_cons hh7 (fun _ => hh8)
    have hh10 := es_cons hh6 (fun _ => hh9)
    have hh11 := es_cons hh5 (fun _ => hh10)
    have hh12 := ev_lst hh11 (fun _ => rfl) (fun _ => rfl)
    have hh13 := Im.re (g := fun g7 => [g7.1, g7.2.1, g7.2.2.1]) (η' := fun p : (List Int) => (RV.fr ((List.map P.int) p), (kap [] b3))) hh12 (fun _ => rfl)
    have hh14 := ev_cell (cb := cbN T (k + 4)) (σ := [some (.p ((eR P.int) script)), some (.cell 0), none, none, none, none, none, none, none]) (C := (kap [] b3)) (C0 := C0) (i := 1) 0 rfl
    have hh15 := ev_con (cb := cbN T (k + 4)) (σ := [some (.p ((eR P.int) script)), some (.cell 0), none, none, none, none, none, none, none]) (C := (kap [] b3)) (C0 := C0) P.int 3
    have hh16 := es_nil (cb := cbN T (k + 4)) (σ := [some (.p ((eR P.int) script)), some (.cell 0), none, none, none, none, none, none, none]) (C := (kap [] b3)) (C0 := C0)
    have hh17 := es_cons hh15 (fun _ => hh16)
    have hh18 := es_cons hh14 (fun _ => hh17)
    have hh19 := ev_call (f := "_law_draw") hh18 (fun g11 => (okc_law_draw (k + 2) [] b3 g11.2.1))
    have hh20 := ev_sub hh13 (fun _ => hh19) (fun _ _ => rfl) (fun _ _ => rfl) (fun x8 x12 => (Im.wth (κ := kap []) (b := x12.2) (sb_lst (C := (kap [] x12.2)) (e := P.int))))
    apply st_set (σ := [some (.p ((eR P.int) script)), some (.cell 0), none, none, none, none, none, none, none]) (C := (kap [] b3)) hh20 (fun _ => rfl)
    intro v14
    have hh21 := ev_cell (cb := cbN T (k + 4)) (σ := [some (.p ((eR P.int) script)), some (.cell 0), some (.p (P.int v14.1)), none, none, none, none, none, none]) (C := (kap [] v14.2)) (C0 := C0) (i := 1) 0 rfl
    have hh22 := ev_con (cb := cbN T (k + 4)) (σ := [some (.p ((eR P.int) script)), some (.cell 0), some (.p (P.int v14.1)), none, none, none, none, none, none]) (C := (kap [] v14.2)) (C0 := C0) P.int 5
    have hh23 := ev_con (cb := cbN T (k + 4)) (σ := [some (.p ((eR P.int) script)), some (.cell 0), some (.p (P.int v14.1)), none, none, none, none, none, none]) (C := (kap [] v14.2)) (C0 := C0) P.int 12
    have hh24 := ev_var (cb := cbN T (k + 4)) (σ := [some (.p ((eR P.int) script)), some (.cell 0), some (.p (P.int v14.1)), none, none, none, none, none, none]) (C := (kap [] v14.2)) (C0 := C0) (i := 2) P.int v14.1 rfl
    have hh25 := es_nil (cb := cbN T (k + 4)) (σ := [some (.p ((eR P.int) script)), some (.cell 0), some (.p (P.int v14.1)), none, none, none, none, none, none]) (C := (kap [] v14.2)) (C0 := C0)
    have hh26 := es_cons hh24 (fun _ => hh25)
    have hh27 := es_cons hh23 (fun _ => hh26)
    have hh28 := es_cons hh22 (fun _ => hh27)
    have hh29 := es_cons hh21 (fun _ => hh28)
    have hh30 := ev_call (f := "_law_table") hh29 (fun g19 => (okc_law_table (k + 1) [] v14.2 g19.2.1 g19.2.2.1 g19.2.2.2.1))
    apply st_set (σ := [some (.p ((eR P.int) script)), some (.cell 0), some (.p (P.int v14.1)), none, none, none, none, none, none]) (C := (kap [] v14.2)) hh30 (fun _ => rfl)
    intro v20
    have hh31 := ev_var (cb := cbN T (k + 4)) (σ := [some (.p ((eR P.int) script)), some (.cell 0), some (.p (P.int v14.1)), some (.p ((f2 (eL P.int) (eL (e2 P.int (eL P.int)))) v20.1)), none, none, none, none, none]) (C := (kap [] v20.2)) (C0 := C0) (i := 3) (f2 (eL P.int) (eL (e2 P.int (eL P.int)))) v20.1 rfl
    have hh32 := es_nil (cb := cbN T (k + 4)) (σ := [some (.p ((eR P.int) script)), some (.cell 0), some (.p (P.int v14.1)), some (.p ((f2 (eL P.int) (eL (e2 P.int (eL P.int)))) v20.1)), none, none, none, none, none]) (C := (kap [] v20.2)) (C0 := C0)
    have hh33 := es_cons hh31 (fun _ => hh32)
    have hh34 := ev_call (f := "_law_made") hh33 (fun g22 => (Im.nox (okc_law_made k g22.1 (C := (kap [] v20.2)) (C0 := fun _ => True) trivial)))
    apply st_set (σ := [some (.p ((eR P.int) script)), some (.cell 0), some (.p (P.int v14.1)), some (.p ((f2 (eL P.int) (eL (e2 P.int (eL P.int)))) v20.1)), none, none, none, none, none]) (C := (kap [] v20.2)) hh34 (fun _ => rfl)
    intro v23
    have hh35 := ev_var (cb := cbN T (k + 4)) (σ := [some (.p ((eR P.int) script)), some (.cell 0), some (.p (P.int v14.1)), some (.p ((f2 (eL P.int) (eL (e2 P.int (eL P.int)))) v20.1)), some (.p (eTable v23)), none, none, none, none]) (C := (kap [] v20.2)) (C0 := C0) (i := 3) (f2 (eL P.int) (eL (e2 P.int (eL P.int)))) v20.1 rfl
    have hh36 := es_nil (cb := cbN T (k + 4)) (σ := [some (.p ((eR P.int) script)), some (.cell 0), some (.p (P.int v14.1)), some (.p ((f2 (eL P.int) (eL (e2 P.int (eL P.int)))) v20.1)), some (.p (eTable v23)), none, none, none, none]) (C := (kap [] v20.2)) (C0 := C0)
    have hh37 := es_cons hh35 (fun _ => hh36)
    have hh38 := ev_call (f := "_law_due") hh37 (fun g25 => (Im.nox (okc_law_due k g25.1 (C := (kap [] v20.2)) (C0 := fun _ => True) trivial)))
    apply st_set (σ := [some (.p ((eR P.int) script)), some (.cell 0), some (.p (P.int v14.1)), some (.p ((f2 (eL P.int) (eL (e2 P.int (eL P.int)))) v20.1)), some (.p (eTable v23)), none, none, none, none]) (C := (kap [] v20.2)) hh38 (fun _ => rfl)
    intro v26
    have hh39 := ev_var (cb := cbN T (k + 4)) (σ := [some (.p ((eR P.int) script)), some (.cell 0), some (.p (P.int v14.1)), some (.p ((f2 (eL P.int) (eL (e2 P.int (eL P.int)))) v20.1)), some (.p (eTable v23)), some (.p ((eL P.int) v26)), none, none, none]) (C := (kap [] v20.2)) (C0 := C0) (i := 4) eTable v23 rfl
    have hh40 := es_nil (cb := cbN T (k + 4)) (σ := [some (.p ((eR P.int) script)), some (.cell 0), some (.p (P.int v14.1)), some (.p ((f2 (eL P.int) (eL (e2 P.int (eL P.int)))) v20.1)), some (.p (eTable v23)), some (.p ((eL P.int) v26)), none, none, none]) (C := (kap [] v20.2)) (C0 := C0)
    have hh41 := es_cons hh39 (fun _ => hh40)
    have hh42 := ev_call (f := "floor_paper") hh41 (fun g28 => (Im.nox (okc_floor_paper k g28.1 (C := (kap [] v20.2)) (C0 := fun _ => True) trivial)))
    apply st_own (σ := [some (.p ((eR P.int) script)), some (.cell 0), some (.p (P.int v14.1)), some (.p ((f2 (eL P.int) (eL (e2 P.int (eL P.int)))) v20.1)), some (.p (eTable v23)), some (.p ((eL P.int) v26)), none, none, none]) (C := (kap [] v20.2)) hh42 (fun _ => rfl)
    intro v29
    have hh43 := ev_own (cb := cbN T (k + 4)) (σ := [some (.p ((eR P.int) script)), some (.cell 0), some (.p (P.int v14.1)), some (.p ((f2 (eL P.int) (eL (e2 P.int (eL P.int)))) v20.1)), some (.p (eTable v23)), some (.p ((eL P.int) v26)), some (.own ((List.map P.int) v29)), none, none]) (C := (kap [] v20.2)) (C0 := C0) (i := 6) (List.map P.int) v29 rfl
    have hh44 := ev_isi (t := fun _ => true) hh43 (fun _ => rfl) (fun _ => (isi_list_list _)) (fun _ => rfl)
    have hh45 := ev_not hh44 (fun _ => rfl)
    have hh46 := ev_own (cb := cbN T (k + 4)) (σ := [some (.p ((eR P.int) script)), some (.cell 0), some (.p (P.int v14.1)), some (.p ((f2 (eL P.int) (eL (e2 P.int (eL P.int)))) v20.1)), some (.p (eTable v23)), some (.p ((eL P.int) v26)), some (.own ((List.map P.int) v29)), none, none]) (C := (kap [] v20.2)) (C0 := C0) (i := 6) (List.map P.int) v29 rfl
    have hh47 := ev_var (cb := cbN T (k + 4)) (σ := [some (.p ((eR P.int) script)), some (.cell 0), some (.p (P.int v14.1)), some (.p ((f2 (eL P.int) (eL (e2 P.int (eL P.int)))) v20.1)), some (.p (eTable v23)), some (.p ((eL P.int) v26)), some (.own ((List.map P.int) v29)), none, none]) (C := (kap [] v20.2)) (C0 := C0) (i := 5) (eL P.int) v26 rfl
    have hh48 := ev_cmp (op := .ne) hh46 (fun _ => hh47) (fun _ _ => rfl) (fun _ _ => rfl) (fun x30 x31 => (im_cmp (C := (kap [] v20.2)) (cp_ne (a := x30) (b := x31) (de_lst de_int) (by decide)))) (fun _ _ => rfl)
    have hh49 := ev_var (cb := cbN T (k + 4)) (σ := [some (.p ((eR P.int) script)), some (.cell 0), some (.p (P.int v14.1)), some (.p ((f2 (eL P.int) (eL (e2 P.int (eL P.int)))) v20.1)), some (.p (eTable v23)), some (.p ((eL P.int) v26)), some (.own ((List.map P.int) v29)), none, none]) (C := (kap [] v20.2)) (C0 := C0) (i := 4) eTable v23 rfl
    have hh50 := es_nil (cb := cbN T (k + 4)) (σ := [some (.p ((eR P.int) script)), some (.cell 0), some (.p (P.int v14.1)), some (.p ((f2 (eL P.int) (eL (e2 P.int (eL P.int)))) v20.1)), some (.p (eTable v23)), some (.p ((eL P.int) v26)), some (.own ((List.map P.int) v29)), none, none]) (C := (kap [] v20.2)) (C0 := C0)
    have hh51 := es_cons hh49 (fun _ => hh50)
    have hh52 := ev_call (f := "cheapest") hh51 (fun g33 => (Im.nox (okc_cheapest k g33.1 (C := (kap [] v20.2)) (C0 := fun _ => True) trivial)))
    have hh53 := ev_subc (i := 0) hh52 (fun _ => rfl) (fun x34 => im_ok (C := (kap [] v20.2)) P.int x34.1 rfl)
    have hh54 := ev_var (cb := cbN T (k + 4)) (σ := [some (.p ((eR P.int) script)), some (.cell 0), some (.p (P.int v14.1)), some (.p ((f2 (eL P.int) (eL (e2 P.int (eL P.int)))) v20.1)), some (.p (eTable v23)), some (.p ((eL P.int) v26)), some (.own ((List.map P.int) v29)), none, none]) (C := (kap [] v20.2)) (C0 := C0) (i := 5) (eL P.int) v26 rfl
    have hh55 := ev_var (cb := cbN T (k + 4)) (σ := [some (.p ((eR P.int) script)), some (.cell 0), some (.p (P.int v14.1)), some (.p ((f2 (eL P.int) (eL (e2 P.int (eL P.int)))) v20.1)), some (.p (eTable v23)), some (.p ((eL P.int) v26)), some (.own ((List.map P.int) v29)), none, none]) (C := (kap [] v20.2)) (C0 := C0) (i := 5) (eL P.int) v26 rfl
    have hh56 := ev_con (cb := cbN T (k + 4)) (σ := [some (.p ((eR P.int) script)), some (.cell 0), some (.p (P.int v14.1)), some (.p ((f2 (eL P.int) (eL (e2 P.int (eL P.int)))) v20.1)), some (.p (eTable v23)), some (.p ((eL P.int) v26)), some (.own ((List.map P.int) v29)), none, none]) (C := (kap [] v20.2)) (C0 := C0) P.int 0
    have hh57 := ev_sub hh55 (fun _ => hh56) (fun _ _ => rfl) (fun _ _ => rfl) (fun x36 x37 => (sb_lst (C := (kap [] v20.2)) (e := P.int)))
    have hh58 := ev_cmp (op := .ne) hh53 (fun _ => hh57) (fun _ _ => rfl) (fun _ _ => rfl) (fun x35 x38 => (im_cmp (C := (kap [] v20.2)) (cp_ne (a := x35) (b := x38) de_int (by decide)))) (fun _ _ => rfl)
    have hh59 := orr_one hh58
    have hh60 := orr_cons hh48 hh59
    have hh61 := orr_cons hh45 hh60
    have hh62 := ev_or hh61
    apply st_ifs (σ := [some (.p ((eR P.int) script)), some (.cell 0), some (.p (P.int v14.1)), some (.p ((f2 (eL P.int) (eL (e2 P.int (eL P.int)))) v20.1)), some (.p (eTable v23)), some (.p ((eL P.int) v26)), some (.own ((List.map P.int) v29)), none, none]) (C := (kap [] v20.2)) hh62 (fun _ => rfl)
    · intro c41
      have hh63 := ev_con (cb := cbN T (k + 4)) (σ := [some (.p ((eR P.int) script)), some (.cell 0), some (.p (P.int v14.1)), some (.p ((f2 (eL P.int) (eL (e2 P.int (eL P.int)))) v20.1)), some (.p (eTable v23)), some (.p ((eL P.int) v26)), some (.own ((List.map P.int) v29)), none, none]) (C := (kap [] v20.2)) (C0 := C0) P.bl false
      exact st_ret (Im.wth (κ := kap []) (b := v20.2) hh63) nvw
    · intro c41
      have hh64 := ev_cell (cb := cbN T (k + 4)) (σ := [some (.p ((eR P.int) script)), some (.cell 0), some (.p (P.int v14.1)), some (.p ((f2 (eL P.int) (eL (e2 P.int (eL P.int)))) v20.1)), some (.p (eTable v23)), some (.p ((eL P.int) v26)), some (.own ((List.map P.int) v29)), none, none]) (C := (kap [] v20.2)) (C0 := C0) (i := 1) 0 rfl
      have hh65 := ev_var (cb := cbN T (k + 4)) (σ := [some (.p ((eR P.int) script)), some (.cell 0), some (.p (P.int v14.1)), some (.p ((f2 (eL P.int) (eL (e2 P.int (eL P.int)))) v20.1)), some (.p (eTable v23)), some (.p ((eL P.int) v26)), some (.own ((List.map P.int) v29)), none, none]) (C := (kap [] v20.2)) (C0 := C0) (i := 5) (eL P.int) v26 rfl
      have hh66 := ev_var (cb := cbN T (k + 4)) (σ := [some (.p ((eR P.int) script)), some (.cell 0), some (.p (P.int v14.1)), some (.p ((f2 (eL P.int) (eL (e2 P.int (eL P.int)))) v20.1)), some (.p (eTable v23)), some (.p ((eL P.int) v26)), some (.own ((List.map P.int) v29)), none, none]) (C := (kap [] v20.2)) (C0 := C0) (i := 5) (eL P.int) v26 rfl
      have hh67 := ev_con (cb := cbN T (k + 4)) (σ := [some (.p ((eR P.int) script)), some (.cell 0), some (.p (P.int v14.1)), some (.p ((f2 (eL P.int) (eL (e2 P.int (eL P.int)))) v20.1)), some (.p (eTable v23)), some (.p ((eL P.int) v26)), some (.own ((List.map P.int) v29)), none, none]) (C := (kap [] v20.2)) (C0 := C0) P.int 0
      have hh68 := ev_sub hh66 (fun _ => hh67) (fun _ _ => rfl) (fun _ _ => rfl) (fun x43 x44 => (sb_lst (C := (kap [] v20.2)) (e := P.int)))
      have hh69 := ev_con (cb := cbN T (k + 4)) (σ := [some (.p ((eR P.int) script)), some (.cell 0), some (.p (P.int v14.1)), some (.p ((f2 (eL P.int) (eL (e2 P.int (eL P.int)))) v20.1)), some (.p (eTable v23)), some (.p ((eL P.int) v26)), some (.own ((List.map P.int) v29)), none, none]) (C := (kap [] v20.2)) (C0 := C0) P.int 1
      have hh70 := ev_bin (op := .add) hh68 (fun _ => hh69) (fun _ _ => rfl) (fun _ _ => rfl) (fun x45 x46 => (bi_add (C := (kap [] v20.2))))
      have hh71 := es_nil (cb := cbN T (k + 4)) (σ := [some (.p ((eR P.int) script)), some (.cell 0), some (.p (P.int v14.1)), some (.p ((f2 (eL P.int) (eL (e2 P.int (eL P.int)))) v20.1)), some (.p (eTable v23)), some (.p ((eL P.int) v26)), some (.own ((List.map P.int) v29)), none, none]) (C := (kap [] v20.2)) (C0 := C0)
      have hh72 := es_cons hh70 (fun _ => hh71)
      have hh73 := es_cons hh64 (fun _ => hh72)
      have hh74 := ev_call (f := "_law_draw") hh73 (fun g48 => (okc_law_draw (k + 2) [] v20.2 g48.2.1))
      apply st_set (σ := [some (.p ((eR P.int) script)), some (.cell 0), some (.p (P.int v14.1)), some (.p ((f2 (eL P.int) (eL (e2 P.int (eL P.int)))) v20.1)), some (.p (eTable v23)), some (.p ((eL P.int) v26)), some (.own ((List.map P.int) v29)), none, none]) (C := (kap [] v20.2)) hh74 (fun _ => rfl)
      intro v49
      have hh75 := ev_var (cb := cbN T (k + 4)) (σ := [some (.p ((eR P.int) script)), some (.cell 0), some (.p (P.int v14.1)), some (.p ((f2 (eL P.int) (eL (e2 P.int (eL P.int)))) v20.1)), some (.p (eTable v23)), some (.p ((eL P.int) v26)), some (.own ((List.map P.int) v29)), some (.p (P.int v49.1)), none]) (C := (kap [] v49.2)) (C0 := C0) (i := 5) (eL P.int) v26 rfl
      have hh76 := ev_var (cb := cbN T (k + 4)) (σ := [some (.p ((eR P.int) script)), some (.cell 0), some (.p (P.int v14.1)), some (.p ((f2 (eL P.int) (eL (e2 P.int (eL P.int)))) v20.1)), some (.p (eTable v23)), some (.p ((eL P.int) v26)), some (.own ((List.map P.int) v29)), some (.p (P.int v49.1)), none]) (C := (kap [] v49.2)) (C0 := C0) (i := 5) (eL P.int) v26 rfl
      have hh77 := ev_con (cb := cbN T (k + 4)) (σ := [some (.p ((eR P.int) script)), some (.cell 0), some (.p (P.int v14.1)), some (.p ((f2 (eL P.int) (eL (e2 P.int (eL P.int)))) v20.1)), some (.p (eTable v23)), some (.p ((eL P.int) v26)), some (.own ((List.map P.int) v29)), some (.p (P.int v49.1)), none]) (C := (kap [] v49.2)) (C0 := C0) P.int 0
      have hh78 := ev_sub hh76 (fun _ => hh77) (fun _ _ => rfl) (fun _ _ => rfl) (fun x50 x51 => (sb_lst (C := (kap [] v49.2)) (e := P.int)))
      have hh79 := ev_var (cb := cbN T (k + 4)) (σ := [some (.p ((eR P.int) script)), some (.cell 0), some (.p (P.int v14.1)), some (.p ((f2 (eL P.int) (eL (e2 P.int (eL P.int)))) v20.1)), some (.p (eTable v23)), some (.p ((eL P.int) v26)), some (.own ((List.map P.int) v29)), some (.p (P.int v49.1)), none]) (C := (kap [] v49.2)) (C0 := C0) (i := 7) P.int v49.1 rfl
      have hh80 := ev_con (cb := cbN T (k + 4)) (σ := [some (.p ((eR P.int) script)), some (.cell 0), some (.p (P.int v14.1)), some (.p ((f2 (eL P.int) (eL (e2 P.int (eL P.int)))) v20.1)), some (.p (eTable v23)), some (.p ((eL P.int) v26)), some (.own ((List.map P.int) v29)), some (.p (P.int v49.1)), none]) (C := (kap [] v49.2)) (C0 := C0) P.int 0
      have hh81 := es_nil (cb := cbN T (k + 4)) (σ := [some (.p ((eR P.int) script)), some (.cell 0), some (.p (P.int v14.1)), some (.p ((f2 (eL P.int) (eL (e2 P.int (eL P.int)))) v20.1)), some (.p (eTable v23)), some (.p ((eL P.int) v26)), some (.own ((List.map P.int) v29)), some (.p (P.int v49.1)), none]) (C := (kap [] v49.2)) (C0 := C0)
      have hh82 := es_cons hh80 (fun _ => hh81)
      have hh83 := es_cons hh79 (fun _ => hh82)
      have hh84 := es_cons hh78 (fun _ => hh83)
      have hh85 := ev_tup hh84 (fun _ => rfl) (fun _ => rfl)
      have hh86 := Im.re (g := fun g55 => [g55.1, g55.2.1, g55.2.2.1]) (η' := fun p : (List Int) => (RV.v ((eT P.int) p), (kap [] v49.2))) hh85 (fun _ => rfl)
      have hh87 := es_nil (cb := cbN T (k + 4)) (σ := [some (.p ((eR P.int) script)), some (.cell 0), some (.p (P.int v14.1)), some (.p ((f2 (eL P.int) (eL (e2 P.int (eL P.int)))) v20.1)), some (.p (eTable v23)), some (.p ((eL P.int) v26)), some (.own ((List.map P.int) v29)), some (.p (P.int v49.1)), none]) (C := (kap [] v49.2)) (C0 := C0)
      have hh88 := es_cons hh86 (fun _ => hh87)
      apply st_for (σ := [some (.p ((eR P.int) script)), some (.cell 0), some (.p (P.int v14.1)), some (.p ((f2 (eL P.int) (eL (e2 P.int (eL P.int)))) v20.1)), some (.p (eTable v23)), some (.p ((eL P.int) v26)), some (.own ((List.map P.int) v29)), some (.p (P.int v49.1)), none]) (C := (kap [] v49.2)) (s0 := fun g57 => ()) (ex := P.int) (ρ := fun s58 : Unit => ([some (.p ((eR P.int) script)), some (.cell 0), some (.p (P.int v14.1)), some (.p ((f2 (eL P.int) (eL (e2 P.int (eL P.int)))) v20.1)), some (.p (eTable v23)), some (.p ((eL P.int) v26)), some (.own ((List.map P.int) v29)), some (.p (P.int v49.1)), none], (kap [] v49.2))) hh88 (fun g57 => (itt_tup (e := P.int))) (fun _ => rfl) (fun _ _ => rfl)
      · intro y59 s58
        have hh89 := ev_var (cb := cbN T (k + 4)) (σ := [some (.p ((eR P.int) script)), some (.cell 0), some (.p (P.int v14.1)), some (.p ((f2 (eL P.int) (eL (e2 P.int (eL P.int)))) v20.1)), some (.p (eTable v23)), some (.p ((eL P.int) v26)), some (.own ((List.map P.int) v29)), some (.p (P.int v49.1)), some (.p (P.int y59))]) (C := (kap [] v49.2)) (C0 := C0) (i := 4) eTable v23 rfl
        have hh90 := ev_own (cb := cbN T (k + 4)) (σ := [some (.p ((eR P.int) script)), some (.cell 0), some (.p (P.int v14.1)), some (.p ((f2 (eL P.int) (eL (e2 P.int (eL P.int)))) v20.1)), some (.p (eTable v23)), some (.p ((eL P.int) v26)), some (.own ((List.map P.int) v29)), some (.p (P.int v49.1)), some (.p (P.int y59))]) (C := (kap [] v49.2)) (C0 := C0) (i := 6) (List.map P.int) v29 rfl
        have hh91 := ev_var (cb := cbN T (k + 4)) (σ := [some (.p ((eR P.int) script)), some (.cell 0), some (.p (P.int v14.1)), some (.p ((f2 (eL P.int) (eL (e2 P.int (eL P.int)))) v20.1)), some (.p (eTable v23)), some (.p ((eL P.int) v26)), some (.own ((List.map P.int) v29)), some (.p (P.int v49.1)), some (.p (P.int y59))]) (C := (kap [] v49.2)) (C0 := C0) (i := 8) P.int y59 rfl
        have hh92 := es_nil (cb := cbN T (k + 4)) (σ := [some (.p ((eR P.int) script)), some (.cell 0), some (.p (P.int v14.1)), some (.p ((f2 (eL P.int) (eL (e2 P.int (eL P.int)))) v20.1)), some (.p (eTable v23)), some (.p ((eL P.int) v26)), some (.own ((List.map P.int) v29)), some (.p (P.int v49.1)), some (.p (P.int y59))]) (C := (kap [] v49.2)) (C0 := C0)
        have hh93 := es_cons hh91 (fun _ => hh92)
        have hh94 := es_cons hh90 (fun _ => hh93)
        have hh95 := es_cons hh89 (fun _ => hh94)
        have hh96 := ev_callb (f := "judge_floor") hh95 (fun _ => rfl) (fun g63 => (okc_judge_floor (k + 1) g63.1 g63.2.1 g63.2.2.1 (C := []) (C0 := fun D => D = []) rfl)) (fun _ => rfl) (fun _ => rfl)
        have hh97 := ev_con (cb := cbN T (k + 4)) (σ := [some (.p ((eR P.int) script)), some (.cell 0), some (.p (P.int v14.1)), some (.p ((f2 (eL P.int) (eL (e2 P.int (eL P.int)))) v20.1)), some (.p (eTable v23)), some (.p ((eL P.int) v26)), some (.own ((List.map P.int) v29)), some (.p (P.int v49.1)), some (.p (P.int y59))]) (C := (kap [] v49.2)) (C0 := C0) P.bl true
        have hh98 := ev_cmp (op := .isn) hh96 (fun _ => hh97) (fun _ _ => rfl) (fun _ _ => rfl) (fun x64 x65 => (im_cmp (C := (kap [] v49.2)) cp_isnB)) (fun _ _ => rfl)
        have hh99 := ev_var (cb := cbN T (k + 4)) (σ := [some (.p ((eR P.int) script)), some (.cell 0), some (.p (P.int v14.1)), some (.p ((f2 (eL P.int) (eL (e2 P.int (eL P.int)))) v20.1)), some (.p (eTable v23)), some (.p ((eL P.int) v26)), some (.own ((List.map P.int) v29)), some (.p (P.int v49.1)), some (.p (P.int y59))]) (C := (kap [] v49.2)) (C0 := C0) (i := 4) eTable v23 rfl
        have hh100 := ev_own (cb := cbN T (k + 4)) (σ := [some (.p ((eR P.int) script)), some (.cell 0), some (.p (P.int v14.1)), some (.p ((f2 (eL P.int) (eL (e2 P.int (eL P.int)))) v20.1)), some (.p (eTable v23)), some (.p ((eL P.int) v26)), some (.own ((List.map P.int) v29)), some (.p (P.int v49.1)), some (.p (P.int y59))]) (C := (kap [] v49.2)) (C0 := C0) (i := 6) (List.map P.int) v29 rfl
        have hh101 := es_nil (cb := cbN T (k + 4)) (σ := [some (.p ((eR P.int) script)), some (.cell 0), some (.p (P.int v14.1)), some (.p ((f2 (eL P.int) (eL (e2 P.int (eL P.int)))) v20.1)), some (.p (eTable v23)), some (.p ((eL P.int) v26)), some (.own ((List.map P.int) v29)), some (.p (P.int v49.1)), some (.p (P.int y59))]) (C := (kap [] v49.2)) (C0 := C0)
        have hh102 := es_cons hh100 (fun _ => hh101)
        have hh103 := ev_bi (f := .tuple) hh102 (fun _ => rfl) (fun g68 => (bc_tuple (C := (kap [] v49.2)) (e := P.int)))
        have hh104 := ev_var (cb := cbN T (k + 4)) (σ := [some (.p ((eR P.int) script)), some (.cell 0), some (.p (P.int v14.1)), some (.p ((f2 (eL P.int) (eL (e2 P.int (eL P.int)))) v20.1)), some (.p (eTable v23)), some (.p ((eL P.int) v26)), some (.own ((List.map P.int) v29)), some (.p (P.int v49.1)), some (.p (P.int y59))]) (C := (kap [] v49.2)) (C0 := C0) (i := 8) P.int y59 rfl
        have hh105 := es_nil (cb := cbN T (k + 4)) (σ := [some (.p ((eR P.int) script)), some (.cell 0), some (.p (P.int v14.1)), some (.p ((f2 (eL P.int) (eL (e2 P.int (eL P.int)))) v20.1)), some (.p (eTable v23)), some (.p ((eL P.int) v26)), some (.own ((List.map P.int) v29)), some (.p (P.int v49.1)), some (.p (P.int y59))]) (C := (kap [] v49.2)) (C0 := C0)
        have hh106 := es_cons hh104 (fun _ => hh105)
        have hh107 := es_cons hh103 (fun _ => hh106)
        have hh108 := es_cons hh99 (fun _ => hh107)
        have hh109 := ev_call (f := "judge_floor") hh108 (fun g71 => (Im.nox (okc_judge_floor_t (k + 1) g71.1 g71.2.1 g71.2.2.1 (C := (kap [] v49.2)) (C0 := fun _ => True) trivial)))
        have hh110 := ev_con (cb := cbN T (k + 4)) (σ := [some (.p ((eR P.int) script)), some (.cell 0), some (.p (P.int v14.1)), some (.p ((f2 (eL P.int) (eL (e2 P.int (eL P.int)))) v20.1)), some (.p (eTable v23)), some (.p ((eL P.int) v26)), some (.own ((List.map P.int) v29)), some (.p (P.int v49.1)), some (.p (P.int y59))]) (C := (kap [] v49.2)) (C0 := C0) P.bl true
        have hh111 := ev_cmp (op := .isn) hh109 (fun _ => hh110) (fun _ _ => rfl) (fun _ _ => rfl) (fun x72 x73 => (im_cmp (C := (kap [] v49.2)) cp_isnB)) (fun _ _ => rfl)
        have hh112 := orr_one hh111
        have hh113 := orr_cons hh98 hh112
        have hh114 := ev_or hh113
        apply st_ifs (σ := [some (.p ((eR P.int) script)), some (.cell 0), some (.p (P.int v14.1)), some (.p ((f2 (eL P.int) (eL (e2 P.int (eL P.int)))) v20.1)), some (.p (eTable v23)), some (.p ((eL P.int) v26)), some (.own ((List.map P.int) v29)), some (.p (P.int v49.1)), some (.p (P.int y59))]) (C := (kap [] v49.2)) hh114 (fun _ => rfl)
        · intro c75
          have hh115 := ev_con (cb := cbN T (k + 4)) (σ := [some (.p ((eR P.int) script)), some (.cell 0), some (.p (P.int v14.1)), some (.p ((f2 (eL P.int) (eL (e2 P.int (eL P.int)))) v20.1)), some (.p (eTable v23)), some (.p ((eL P.int) v26)), some (.own ((List.map P.int) v29)), some (.p (P.int v49.1)), some (.p (P.int y59))]) (C := (kap [] v49.2)) (C0 := C0) P.bl false
          exact st_ret (Im.wth (κ := kap []) (b := v49.2) hh115) nvw
        · intro c75
          apply st_drop (σ := [some (.p ((eR P.int) script)), some (.cell 0), some (.p (P.int v14.1)), some (.p ((f2 (eL P.int) (eL (e2 P.int (eL P.int)))) v20.1)), some (.p (eTable v23)), some (.p ((eL P.int) v26)), some (.own ((List.map P.int) v29)), some (.p (P.int v49.1)), some (.p (P.int y59))]) (C := (kap [] v49.2)) 
          exact en_l (s := ()) rfl
      · intro s76
        have hh116 := ev_var (cb := cbN T (k + 4)) (σ := [some (.p ((eR P.int) script)), some (.cell 0), some (.p (P.int v14.1)), some (.p ((f2 (eL P.int) (eL (e2 P.int (eL P.int)))) v20.1)), some (.p (eTable v23)), some (.p ((eL P.int) v26)), some (.own ((List.map P.int) v29)), some (.p (P.int v49.1)), none]) (C := (kap [] v49.2)) (C0 := C0) (i := 4) eTable v23 rfl
        have hh117 := ev_own (cb := cbN T (k + 4)) (σ := [some (.p ((eR P.int) script)), some (.cell 0), some (.p (P.int v14.1)), some (.p ((f2 (eL P.int) (eL (e2 P.int (eL P.int)))) v20.1)), some (.p (eTable v23)), some (.p ((eL P.int) v26)), some (.own ((List.map P.int) v29)), some (.p (P.int v49.1)), none]) (C := (kap [] v49.2)) (C0 := C0) (i := 6) (List.map P.int) v29 rfl
        have hh118 := ev_var (cb := cbN T (k + 4)) (σ := [some (.p ((eR P.int) script)), some (.cell 0), some (.p (P.int v14.1)), some (.p ((f2 (eL P.int) (eL (e2 P.int (eL P.int)))) v20.1)), some (.p (eTable v23)), some (.p ((eL P.int) v26)), some (.own ((List.map P.int) v29)), some (.p (P.int v49.1)), none]) (C := (kap [] v49.2)) (C0 := C0) (i := 5) (eL P.int) v26 rfl
        have hh119 := ev_var (cb := cbN T (k + 4)) (σ := [some (.p ((eR P.int) script)), some (.cell 0), some (.p (P.int v14.1)), some (.p ((f2 (eL P.int) (eL (e2 P.int (eL P.int)))) v20.1)), some (.p (eTable v23)), some (.p ((eL P.int) v26)), some (.own ((List.map P.int) v29)), some (.p (P.int v49.1)), none]) (C := (kap [] v49.2)) (C0 := C0) (i := 5) (eL P.int) v26 rfl
        have hh120 := ev_con (cb := cbN T (k + 4)) (σ := [some (.p ((eR P.int) script)), some (.cell 0), some (.p (P.int v14.1)), some (.p ((f2 (eL P.int) (eL (e2 P.int (eL P.int)))) v20.1)), some (.p (eTable v23)), some (.p ((eL P.int) v26)), some (.own ((List.map P.int) v29)), some (.p (P.int v49.1)), none]) (C := (kap [] v49.2)) (C0 := C0) P.int 0
        have hh121 := ev_sub hh119 (fun _ => hh120) (fun _ _ => rfl) (fun _ _ => rfl) (fun x79 x80 => (sb_lst (C := (kap [] v49.2)) (e := P.int)))
        have hh122 := ev_con (cb := cbN T (k + 4)) (σ := [some (.p ((eR P.int) script)), some (.cell 0), some (.p (P.int v14.1)), some (.p ((f2 (eL P.int) (eL (e2 P.int (eL P.int)))) v20.1)), some (.p (eTable v23)), some (.p ((eL P.int) v26)), some (.own ((List.map P.int) v29)), some (.p (P.int v49.1)), none]) (C := (kap [] v49.2)) (C0 := C0) P.int 1
        have hh123 := ev_bin (op := .add) hh121 (fun _ => hh122) (fun _ _ => rfl) (fun _ _ => rfl) (fun x81 x82 => (bi_add (C := (kap [] v49.2))))
        have hh124 := es_nil (cb := cbN T (k + 4)) (σ := [some (.p ((eR P.int) script)), some (.cell 0), some (.p (P.int v14.1)), some (.p ((f2 (eL P.int) (eL (e2 P.int (eL P.int)))) v20.1)), some (.p (eTable v23)), some (.p ((eL P.int) v26)), some (.own ((List.map P.int) v29)), some (.p (P.int v49.1)), none]) (C := (kap [] v49.2)) (C0 := C0)
        have hh125 := es_cons hh123 (fun _ => hh124)
        have hh126 := es_cons hh117 (fun _ => hh125)
        have hh127 := es_cons hh116 (fun _ => hh126)
        have hh128 := ev_callb (f := "judge_floor") hh127 (fun _ => rfl) (fun g84 => (okc_judge_floor (k + 1) g84.1 g84.2.1 g84.2.2.1 (C := []) (C0 := fun D => D = []) rfl)) (fun _ => rfl) (fun _ => rfl)
        have hh129 := ev_con (cb := cbN T (k + 4)) (σ := [some (.p ((eR P.int) script)), some (.cell 0), some (.p (P.int v14.1)), some (.p ((f2 (eL P.int) (eL (e2 P.int (eL P.int)))) v20.1)), some (.p (eTable v23)), some (.p ((eL P.int) v26)), some (.own ((List.map P.int) v29)), some (.p (P.int v49.1)), none]) (C := (kap [] v49.2)) (C0 := C0) P.bl false
        have hh130 := ev_cmp (op := .isn) hh128 (fun _ => hh129) (fun _ _ => rfl) (fun _ _ => rfl) (fun x85 x86 => (im_cmp (C := (kap [] v49.2)) cp_isnB)) (fun _ _ => rfl)
        have hh131 := ev_var (cb := cbN T (k + 4)) (σ := [some (.p ((eR P.int) script)), some (.cell 0), some (.p (P.int v14.1)), some (.p ((f2 (eL P.int) (eL (e2 P.int (eL P.int)))) v20.1)), some (.p (eTable v23)), some (.p ((eL P.int) v26)), some (.own ((List.map P.int) v29)), some (.p (P.int v49.1)), none]) (C := (kap [] v49.2)) (C0 := C0) (i := 4) eTable v23 rfl
        have hh132 := ev_own (cb := cbN T (k + 4)) (σ := [some (.p ((eR P.int) script)), some (.cell 0), some (.p (P.int v14.1)), some (.p ((f2 (eL P.int) (eL (e2 P.int (eL P.int)))) v20.1)), some (.p (eTable v23)), some (.p ((eL P.int) v26)), some (.own ((List.map P.int) v29)), some (.p (P.int v49.1)), none]) (C := (kap [] v49.2)) (C0 := C0) (i := 6) (List.map P.int) v29 rfl
        have hh133 := es_nil (cb := cbN T (k + 4)) (σ := [some (.p ((eR P.int) script)), some (.cell 0), some (.p (P.int v14.1)), some (.p ((f2 (eL P.int) (eL (e2 P.int (eL P.int)))) v20.1)), some (.p (eTable v23)), some (.p ((eL P.int) v26)), some (.own ((List.map P.int) v29)), some (.p (P.int v49.1)), none]) (C := (kap [] v49.2)) (C0 := C0)
        have hh134 := ev_con (cb := cbN T (k + 4)) (σ := [some (.p ((eR P.int) script)), some (.cell 0), some (.p (P.int v14.1)), some (.p ((f2 (eL P.int) (eL (e2 P.int (eL P.int)))) v20.1)), some (.p (eTable v23)), some (.p ((eL P.int) v26)), some (.own ((List.map P.int) v29)), some (.p (P.int v49.1)), none]) (C := (kap [] v49.2)) (C0 := C0) P.int 1
        have hh135 := ev_neg hh134 (fun _ => rfl)
        have hh136 := es_nil (cb := cbN T (k + 4)) (σ := [some (.p ((eR P.int) script)), some (.cell 0), some (.p (P.int v14.1)), some (.p ((f2 (eL P.int) (eL (e2 P.int (eL P.int)))) v20.1)), some (.p (eTable v23)), some (.p ((eL P.int) v26)), some (.own ((List.map P.int) v29)), some (.p (P.int v49.1)), none]) (C := (kap [] v49.2)) (C0 := C0)
        have hh137 := es_cons hh135 (fun _ => hh136)
        have hh138 := ev_slc (l2 := fun x88 x90 => none) (l3 := fun x88 x90 x91 => (some x91.1)) hh132 (fun _ => hh133) (fun _ _ => rfl) (fun _ _ => hh137) (fun _ _ _ => rfl) (fun _ _ _ => rfl) (fun x88 x90 x91 => (sl_lst (C := (kap [] v49.2)) (e := P.int)))
        have hh139 := ev_con (cb := cbN T (k + 4)) (σ := [some (.p ((eR P.int) script)), some (.cell 0), some (.p (P.int v14.1)), some (.p ((f2 (eL P.int) (eL (e2 P.int (eL P.int)))) v20.1)), some (.p (eTable v23)), some (.p ((eL P.int) v26)), some (.own ((List.map P.int) v29)), some (.p (P.int v49.1)), none]) (C := (kap [] v49.2)) (C0 := C0) P.int 0
        have hh140 := es_nil (cb := cbN T (k + 4)) (σ := [some (.p ((eR P.int) script)), some (.cell 0), some (.p (P.int v14.1)), some (.p ((f2 (eL P.int) (eL (e2 P.int (eL P.int)))) v20.1)), some (.p (eTable v23)), some (.p ((eL P.int) v26)), some (.own ((List.map P.int) v29)), some (.p (P.int v49.1)), none]) (C := (kap [] v49.2)) (C0 := C0)
        have hh141 := es_cons hh139 (fun _ => hh140)
        have hh142 := es_cons hh138 (fun _ => hh141)
        have hh143 := es_cons hh131 (fun _ => hh142)
        have hh144 := ev_call (f := "judge_floor") hh143 (fun g94 => (Im.nox (okc_judge_floor (k + 1) g94.1 g94.2.1 g94.2.2.1 (C := (kap [] v49.2)) (C0 := fun _ => True) trivial)))
        have hh145 := ev_con (cb := cbN T (k + 4)) (σ := [some (.p ((eR P.int) script)), some (.cell 0), some (.p (P.int v14.1)), some (.p ((f2 (eL P.int) (eL (e2 P.int (eL P.int)))) v20.1)), some (.p (eTable v23)), some (.p ((eL P.int) v26)), some (.own ((List.map P.int) v29)), some (.p (P.int v49.1)), none]) (C := (kap [] v49.2)) (C0 := C0) P.bl false
        have hh146 := ev_cmp (op := .isn) hh144 (fun _ => hh145) (fun _ _ => rfl) (fun _ _ => rfl) (fun x95 x96 => (im_cmp (C := (kap [] v49.2)) cp_isnB)) (fun _ _ => rfl)
        have hh147 := orr_one hh146
        have hh148 := orr_cons hh130 hh147
        have hh149 := ev_or hh148
        apply st_ifs (σ := [some (.p ((eR P.int) script)), some (.cell 0), some (.p (P.int v14.1)), some (.p ((f2 (eL P.int) (eL (e2 P.int (eL P.int)))) v20.1)), some (.p (eTable v23)), some (.p ((eL P.int) v26)), some (.own ((List.map P.int) v29)), some (.p (P.int v49.1)), none]) (C := (kap [] v49.2)) hh149 (fun _ => rfl)
        · intro c98
          have hh150 := ev_con (cb := cbN T (k + 4)) (σ := [some (.p ((eR P.int) script)), some (.cell 0), some (.p (P.int v14.1)), some (.p ((f2 (eL P.int) (eL (e2 P.int (eL P.int)))) v20.1)), some (.p (eTable v23)), some (.p ((eL P.int) v26)), some (.own ((List.map P.int) v29)), some (.p (P.int v49.1)), none]) (C := (kap [] v49.2)) (C0 := C0) P.bl false
          exact st_ret (Im.wth (κ := kap []) (b := v49.2) hh150) nvw
        · intro c98
          have hh151 := ev_con (cb := cbN T (k + 4)) (σ := [some (.p ((eR P.int) script)), some (.cell 0), some (.p (P.int v14.1)), some (.p ((f2 (eL P.int) (eL (e2 P.int (eL P.int)))) v20.1)), some (.p (eTable v23)), some (.p ((eL P.int) v26)), some (.own ((List.map P.int) v29)), some (.p (P.int v49.1)), none]) (C := (kap [] v49.2)) (C0 := C0) P.int 0
          have hh152 := ev_con (cb := cbN T (k + 4)) (σ := [some (.p ((eR P.int) script)), some (.cell 0), some (.p (P.int v14.1)), some (.p ((f2 (eL P.int) (eL (e2 P.int (eL P.int)))) v20.1)), some (.p (eTable v23)), some (.p ((eL P.int) v26)), some (.own ((List.map P.int) v29)), some (.p (P.int v49.1)), none]) (C := (kap [] v49.2)) (C0 := C0) P.int 0
          apply st_sti (σ := [some (.p ((eR P.int) script)), some (.cell 0), some (.p (P.int v14.1)), some (.p ((f2 (eL P.int) (eL (e2 P.int (eL P.int)))) v20.1)), some (.p (eTable v23)), some (.p ((eL P.int) v26)), some (.own ((List.map P.int) v29)), some (.p (P.int v49.1)), none]) (C := (kap [] v49.2)) (out := (List.map P.int)) rfl hh151 (fun _ => rfl) (fun x99 => hh152) (fun _ _ => rfl) (fun _ _ => (ss_lst (e := P.int)))
          intro x99 x100 l101
          have hh153 := ev_var (cb := cbN T (k + 4)) (σ := [some (.p ((eR P.int) script)), some (.cell 0), some (.p (P.int v14.1)), some (.p ((f2 (eL P.int) (eL (e2 P.int (eL P.int)))) v20.1)), some (.p (eTable v23)), some (.p ((eL P.int) v26)), some (.own ((List.map P.int) l101)), some (.p (P.int v49.1)), none]) (C := (kap [] v49.2)) (C0 := C0) (i := 4) eTable v23 rfl
          have hh154 := es_nil (cb := cbN T (k + 4)) (σ := [some (.p ((eR P.int) script)), some (.cell 0), some (.p (P.int v14.1)), some (.p ((f2 (eL P.int) (eL (e2 P.int (eL P.int)))) v20.1)), some (.p (eTable v23)), some (.p ((eL P.int) v26)), some (.own ((List.map P.int) l101)), some (.p (P.int v49.1)), none]) (C := (kap [] v49.2)) (C0 := C0)
          have hh155 := es_cons hh153 (fun _ => hh154)
          have hh156 := ev_call (f := "floor_paper") hh155 (fun g103 => (Im.nox (okc_floor_paper k g103.1 (C := (kap [] v49.2)) (C0 := fun _ => True) trivial)))
          have hh157 := ev_var (cb := cbN T (k + 4)) (σ := [some (.p ((eR P.int) script)), some (.cell 0), some (.p (P.int v14.1)), some (.p ((f2 (eL P.int) (eL (e2 P.int (eL P.int)))) v20.1)), some (.p (eTable v23)), some (.p ((eL P.int) v26)), some (.own ((List.map P.int) l101)), some (.p (P.int v49.1)), none]) (C := (kap [] v49.2)) (C0 := C0) (i := 5) (eL P.int) v26 rfl
          have hh158 := ev_cmp (op := .eq) hh156 (fun _ => hh157) (fun _ _ => rfl) (fun _ _ => rfl) (fun x104 x105 => (im_cmp (C := (kap [] v49.2)) (cp_eq (a := x104) (b := x105) (de_lst de_int) (by decide)))) (fun _ _ => rfl)
          have hh159 := ev_var (cb := cbN T (k + 4)) (σ := [some (.p ((eR P.int) script)), some (.cell 0), some (.p (P.int v14.1)), some (.p ((f2 (eL P.int) (eL (e2 P.int (eL P.int)))) v20.1)), some (.p (eTable v23)), some (.p ((eL P.int) v26)), some (.own ((List.map P.int) l101)), some (.p (P.int v49.1)), none]) (C := (kap [] v49.2)) (C0 := C0) (i := 4) eTable v23 rfl
          have hh160 := ev_var (cb := cbN T (k + 4)) (σ := [some (.p ((eR P.int) script)), some (.cell 0), some (.p (P.int v14.1)), some (.p ((f2 (eL P.int) (eL (e2 P.int (eL P.int)))) v20.1)), some (.p (eTable v23)), some (.p ((eL P.int) v26)), some (.own ((List.map P.int) l101)), some (.p (P.int v49.1)), none]) (C := (kap [] v49.2)) (C0 := C0) (i := 5) (eL P.int) v26 rfl
          have hh161 := ev_var (cb := cbN T (k + 4)) (σ := [some (.p ((eR P.int) script)), some (.cell 0), some (.p (P.int v14.1)), some (.p ((f2 (eL P.int) (eL (e2 P.int (eL P.int)))) v20.1)), some (.p (eTable v23)), some (.p ((eL P.int) v26)), some (.own ((List.map P.int) l101)), some (.p (P.int v49.1)), none]) (C := (kap [] v49.2)) (C0 := C0) (i := 5) (eL P.int) v26 rfl
          have hh162 := ev_var (cb := cbN T (k + 4)) (σ := [some (.p ((eR P.int) script)), some (.cell 0), some (.p (P.int v14.1)), some (.p ((f2 (eL P.int) (eL (e2 P.int (eL P.int)))) v20.1)), some (.p (eTable v23)), some (.p ((eL P.int) v26)), some (.own ((List.map P.int) l101)), some (.p (P.int v49.1)), none]) (C := (kap [] v49.2)) (C0 := C0) (i := 5) (eL P.int) v26 rfl
          have hh163 := ev_con (cb := cbN T (k + 4)) (σ := [some (.p ((eR P.int) script)), some (.cell 0), some (.p (P.int v14.1)), some (.p ((f2 (eL P.int) (eL (e2 P.int (eL P.int)))) v20.1)), some (.p (eTable v23)), some (.p ((eL P.int) v26)), some (.own ((List.map P.int) l101)), some (.p (P.int v49.1)), none]) (C := (kap [] v49.2)) (C0 := C0) P.int 0
          have hh164 := ev_sub hh162 (fun _ => hh163) (fun _ _ => rfl) (fun _ _ => rfl) (fun x108 x109 => (sb_lst (C := (kap [] v49.2)) (e := P.int)))
          have hh165 := es_nil (cb := cbN T (k + 4)) (σ := [some (.p ((eR P.int) script)), some (.cell 0), some (.p (P.int v14.1)), some (.p ((f2 (eL P.int) (eL (e2 P.int (eL P.int)))) v20.1)), some (.p (eTable v23)), some (.p ((eL P.int) v26)), some (.own ((List.map P.int) l101)), some (.p (P.int v49.1)), none]) (C := (kap [] v49.2)) (C0 := C0)
          have hh166 := es_cons hh164 (fun _ => hh165)
          have hh167 := es_cons hh160 (fun _ => hh166)
          have hh168 := es_cons hh159 (fun _ => hh167)
          have hh169 := ev_call (f := "judge_floor") hh168 (fun g111 => (Im.nox (okc_judge_floor (k + 1) g111.1 g111.2.1 g111.2.2.1 (C := (kap [] v49.2)) (C0 := fun _ => True) trivial)))
          have hh170 := ev_con (cb := cbN T (k + 4)) (σ := [some (.p ((eR P.int) script)), some (.cell 0), some (.p (P.int v14.1)), some (.p ((f2 (eL P.int) (eL (e2 P.int (eL P.int)))) v20.1)), some (.p (eTable v23)), some (.p ((eL P.int) v26)), some (.own ((List.map P.int) l101)), some (.p (P.int v49.1)), none]) (C := (kap [] v49.2)) (C0 := C0) P.bl true
          have hh171 := ev_cmp (op := .is) hh169 (fun _ => hh170) (fun _ _ => rfl) (fun _ _ => rfl) (fun x112 x113 => (im_cmp (C := (kap [] v49.2)) cp_isB)) (fun _ _ => rfl)
          have hh172 := an_one hh171
          have hh173 := an_cons hh158 hh172
          have hh174 := ev_and hh173
          exact st_ret (Im.wth (κ := kap []) (b := v49.2) hh174) nvw
  · simp -implicitDefEqProofs only [g_law, sF_bind, sF_no, sF_rt, sF_seq, sL_bind, sL_no, sL_rt, sL_seq, sN_bind, sN_no, sN_seq, sI_bind, sI_no, compM_pure, compM_all, M.bind_ok, M.bind_assoc, M.lo_ok, M.lo_assoc]
end MP
/-! SM1: plain lemmas: ranges, places, loops, bits. -/
namespace MP
open PySem
/-- 0, .. , n - 1 -/
def upto (n : Nat) : List Int := (List.range n).map fun i : Nat => (i : Int)
theorem mem_upto {n : Nat} {i : Int} : i ∈ upto n ↔ 0 ≤ i ∧ i < n := by
  unfold upto
  simp only [List.mem_map, List.mem_range]
  constructor
  · rintro ⟨a, h, rfl⟩; omega
  · rintro ⟨h1, h2⟩; exact ⟨i.toNat, by omega, by omega⟩
theorem upto_len (n : Nat) : (upto n).length = n := by simp [upto]
theorem upto_get {n i : Nat} (h : i < n) : (upto n)[i]? = some (i : Int) := by simp [upto, h]
theorem upto_succ (n : Nat) : upto (n + 1) = upto n ++ [(n : Int)] := by simp [upto, List.range_succ]
theorem rngI_upto (n : Nat) : rngI 0 (n : Int) = upto n := by
  unfold rngI upto
  rw [show ((n : Int) - 0).toNat = n by omega]
  congr 1
  funext i
  omega
theorem rngB_upto {n : Nat} (h : n ≤ 16777216) : rngB 0 (n : Int) = true := by
  unfold rngB
  simp only [Bool.and_eq_true, Nat.ble_eq]
  unfold lim
  omega
theorem rngM_ok {n : Nat} (h : n ≤ 16777216) : rngM 0 (n : Int) = .ok (upto n) := by
  unfold rngM
  rw [if_pos (rngB_upto h), rngI_upto]
theorem rrngM_ok {n : Nat} (h : n ≤ 16777216) : rrngM 0 (n : Int) = .ok (upto n).reverse := by
  unfold rrngM
  rw [if_pos (rngB_upto h), rngI_upto]
theorem ixP_nat {n i : Nat} (h : i < n) : ixP n (i : Int) = some i := by
  unfold ixP
  rw [if_pos (by omega), if_pos (by omega)]
  simp
theorem getI_ok {α : Type} {l : List α} {i : Nat} {a : α} (h : l[i]? = some a) : getI l (i : Int) = .ok a := by
  have hi : i < l.length := (List.getElem?_eq_some_iff.mp h).1
  unfold getI
  rw [ixP_nat hi]
  simp [h]
theorem getI_map {β : Type} {f : Nat → β} {n i : Nat} (h : i < n) : getI ((List.range n).map f) (i : Int) = .ok (f i) := getI_ok (by simp [h])
theorem setI_ok {α : Type} {l : List α} {i : Nat} {v : α} (h : i < l.length) : setI l (i : Int) v = .ok (l.set i v) := by
  unfold setI
  rw [ixP_nat h]
theorem log2_lt' {a k : Nat} (h : a < 2 ^ k) (hk : 0 < k) : a.log2 < k := by
  by_cases e : a = 0
  · subst e; simpa using hk
  · exact (Nat.log2_lt e).mpr h
theorem mulM_ok {i j : Int} (h1 : i.natAbs < 2 ^ 400) (h2 : j.natAbs < 2 ^ 400) : mulM i j = .ok (i * j) := by
  have a := log2_lt' h1 (by decide)
  have b := log2_lt' h2 (by decide)
  unfold mulM mulOk
  rw [if_pos (decide_eq_true (by omega))]
theorem big400 : (2 : Nat) ^ 100 ≤ 2 ^ 400 := Nat.pow_le_pow_right (by decide) (by decide)
theorem mulM_sm {i j : Int} (h1 : i.natAbs < 2 ^ 100) (h2 : j.natAbs < 2 ^ 100) : mulM i j = .ok (i * j) := mulM_ok (Nat.lt_of_lt_of_le h1 big400) (Nat.lt_of_lt_of_le h2 big400)
theorem fdivM_sm {i j : Int} (h0 : 0 < j) (h1 : j.natAbs < 2 ^ 100) : fdivM i j = .ok (i / j) := by
  have a := log2_lt' h1 (by decide)
  unfold fdivM divOk
  rw [if_pos (by rw [decide_eq_true h0, decide_eq_true (show j.natAbs.log2 < 9000 by omega)]; rfl)]
theorem modM_ok {i j : Int} (h0 : 0 < j) : modM i j = .ok (i % j) := by
  unfold modM
  rw [if_pos (decide_eq_true h0)]
theorem shlM_ok {k : Nat} (h : k ≤ 1000000) : shlM 1 (k : Int) = .ok ((2 ^ k : Nat) : Int) := by
  unfold shlM
  rw [if_pos (by unfold powB; simp only [Bool.and_eq_true, Nat.ble_eq, decide_eq_true_eq]; omega)]
  simp
theorem shrM_ok {i k : Nat} : shrM (i : Int) (k : Int) = .ok ((i / 2 ^ k : Nat) : Int) := by
  unfold shrM
  rw [if_pos (decide_eq_true (by omega))]
  simp
theorem powM_nat {a k : Nat} (h : k ≤ 1000000) (ha : a < 2 ^ 64) : powM (a : Int) (k : Int) = .ok ((a ^ k : Nat) : Int) := by
  unfold powM
  rw [if_pos (by unfold powB; simp only [Bool.and_eq_true, Nat.ble_eq, decide_eq_true_eq]; omega)]
  simp
theorem appM_ok {α : Type} {l : List α} {x : α} (h : l.length < 16777216) : appM l x = .ok (l ++ [x]) := by
  unfold appM
  rw [if_pos (decide_eq_true (by unfold lim; exact h))]
theorem catM_ok {α : Type} {l m : List α} (h : l.length + m.length ≤ 16777216) : catM l m = .ok (l ++ m) := by
  unfold catM
  rw [if_pos (decide_eq_true (by unfold lim; exact h))]
theorem repM_one {α : Type} {a : α} {k : Nat} (h : k ≤ 16777216) : repM [a] (k : Int) = .ok (List.replicate k a) := by
  unfold repM
  rw [if_pos (by simp only [Bool.and_eq_true, Nat.ble_eq]; unfold lim; simp; omega)]
  have : (List.replicate k [a]).flatten = List.replicate k a := by
    clear h
    induction k with
    | zero => rfl
    | succ k ih => rw [List.replicate_succ, List.flatten_cons, ih]; rfl
  simp [this]
theorem cutI_take {α : Type} {l : List α} {k : Nat} : cutI l none (some (k : Int)) = l.take k := by
  unfold cutI
  rw [HT.sIx_nat]
  simp only [HT.sIx_none, List.drop_zero, Nat.sub_zero]
  by_cases h : k ≤ l.length
  · rw [Nat.min_eq_left h]
  · rw [Nat.min_eq_right (by omega), List.take_of_length_le (by omega), List.take_of_length_le (by omega)]
theorem cutT_take {α : Type} {l : List α} {k : Nat} (h : k < l.length) : cutT l none (some (k : Int)) = .ok (l.take k) := by
  unfold cutT
  rw [cutI_take, HT.sIx_nat, HT.sIx_none, if_neg]
  simp
  omega
/-! loops -/
theorem loopM_inv {X S : Type} {f : X → S → M S} (I : Nat → S → Prop) : ∀ (xs : List X) (s0 : S) (k : Nat), I k s0 → (∀ i x s, xs[i]? = some x → I (k + i) s → ∃ s', f x s = .ok s' ∧ I (k + i + 1) s') → ∃ s', loopM f xs s0 = .ok s' ∧ I (k + xs.length) s'
  | [], s0, k, h0, _ => ⟨s0, rfl, h0⟩
  | x :: xs, s0, k, h0, h => by
    obtain ⟨s1, e1, h1⟩ := h 0 x s0 rfl h0
    obtain ⟨s2, e2, h2⟩ := loopM_inv I xs s1 (k + 1) h1 fun i y s hy hi => by
      have := h (i + 1) y s (by simpa using hy) (by rw [show k + (i + 1) = k + 1 + i by omega]; exact hi)
      rw [show k + (i + 1) + 1 = k + 1 + i + 1 by omega] at this
      exact this
    refine ⟨s2, ?_, by rw [List.length_cons, show k + (xs.length + 1) = k + 1 + xs.length by omega]; exact h2⟩
    unfold loopM
    rw [e1, M.bind_ok, e2]
theorem loopM_run {X S : Type} {f : X → S → M S} {xs : List X} {s0 r : S} (I : Nat → S → Prop) (h0 : I 0 s0) (hs : ∀ i x s, xs[i]? = some x → I i s → ∃ s', f x s = .ok s' ∧ I (i + 1) s') (hr : ∀ s, I xs.length s → s = r) : loopM f xs s0 = .ok r := by
  obtain ⟨s', h1, h2⟩ := loopM_inv I xs s0 0 h0 fun i x s hx hi => by
    rw [Nat.zero_add] at hi ⊢
    exact hs i x s hx hi
  rw [Nat.zero_add] at h2
  rw [h1, hr s' h2]
theorem loopM_fold {X S : Type} {f : X → S → M S} (g : X → S → S) : ∀ (xs : List X) (s0 : S), (∀ x ∈ xs, ∀ s, f x s = .ok (g x s)) → loopM f xs s0 = .ok (xs.foldl (fun s x => g x s) s0)
  | [], _, _ => rfl
  | x :: xs, s0, h => by
    unfold loopM
    rw [h x (by simp), M.bind_ok, loopM_fold g xs _ fun y hy => h y (by simp [hy])]
    rfl
theorem compM_map {X Y : Type} {f : X → M Y} (g : X → Y) : ∀ xs : List X, (∀ x ∈ xs, f x = .ok (g x)) → compM (fun _ => .ok true) f xs = .ok (xs.map g)
  | [], _ => rfl
  | x :: xs, h => by
    unfold compM
    rw [M.nox_ok, M.bind_ok, if_pos rfl, h x (by simp), M.nox_ok, M.bind_ok, compM_map g xs fun y hy => h y (by simp [hy])]
    rfl
theorem compM_filter {X Y : Type} {c : X → M Bool} {f : X → M Y} (p : X → Bool) (g : X → Y) : ∀ xs : List X, (∀ x ∈ xs, c x = .ok (p x)) → (∀ x ∈ xs, p x = true → f x = .ok (g x)) → compM c f xs = .ok ((xs.filter p).map g)
  | [], _, _ => rfl
  | x :: xs, hc, h => by
    unfold compM
    rw [hc x (by simp), M.nox_ok, M.bind_ok]
    have ih := compM_filter p g xs (fun y hy => hc y (by simp [hy])) fun y hy => h y (by simp [hy])
    cases hp : p x with
    | true =>
      rw [if_pos rfl, h x (by simp) hp, M.nox_ok, M.bind_ok, ih]
      simp [hp]
    | false =>
      rw [if_neg (by simp), ih]
      simp [hp]
theorem compB_inv {X Y D : Type} {f : X → D → M (Y × D)} (B : Nat → D → Prop) (Q : Y → Prop) : ∀ (xs : List X) (d : D) (k : Nat), B k d → (∀ x ∈ xs, ∀ i d, k ≤ i → i < k + xs.length → B i d → ∃ y d', f x d = .ok (y, d') ∧ Q y ∧ B (i + 1) d') → ∃ ys d', compB f xs d = .ok (ys, d') ∧ ys.length = xs.length ∧ (∀ y ∈ ys, Q y) ∧ B (k + xs.length) d'
  | [], d, k, h0, _ => ⟨[], d, rfl, rfl, by simp, h0⟩
  | x :: xs, d, k, h0, h => by
    obtain ⟨y, d1, e1, q1, b1⟩ := h x (by simp) k d (Nat.le_refl _) (by simp) h0
    obtain ⟨ys, d2, e2, l2, q2, b2⟩ := compB_inv B Q xs d1 (k + 1) b1 fun z hz i d hi hj hb => h z (by simp [hz]) i d (by omega) (by simp; omega) hb
    refine ⟨y :: ys, d2, ?_, by simp [l2], ?_, by rw [List.length_cons, show k + (xs.length + 1) = k + 1 + xs.length by omega]; exact b2⟩
    · unfold compB
      rw [e1, M.nox_ok, M.bind_ok]
      dsimp only
      rw [e2]
      rfl
    · intro z hz
      simp only [List.mem_cons] at hz
      rcases hz with rfl | hz
      · exact q1
      · exact q2 z hz
theorem loopO_find {X S R : Type} {f : X → S → Lo S R} {s : S} (p : X → Bool) (g : X → S) : ∀ xs : List X, (∀ x ∈ xs, f x s = if p x then .bk (g x) else .nx s) → loopO f xs s = .nx (match xs.find? p with
    | some x => g x
    | none => s)
  | [], _ => rfl
  | x :: xs, h => by
    unfold loopO
    rw [h x (by simp)]
    cases hp : p x with
    | true => simp [hp]
    | false =>
      simp only [Bool.false_eq_true, if_false]
      rw [loopO_find p g xs fun y hy => h y (by simp [hy])]
      simp [hp]
theorem loopO_any {X R : Type} {f : X → Unit → Lo Unit R} (p : X → Bool) (r : R) : ∀ xs : List X, (∀ x ∈ xs, f x () = if p x then .rt r else .nx ()) → loopO f xs () = if xs.any p then .rt r else .nx ()
  | [], _ => rfl
  | x :: xs, h => by
    unfold loopO
    rw [h x (by simp)]
    cases hp : p x with
    | true => simp [hp]
    | false =>
      simp only [Bool.false_eq_true, if_false]
      rw [loopO_any p r xs fun y hy => h y (by simp [hy])]
      simp [hp]
theorem whileO_run {S R : Type} {c : S → M Bool} {f : S → Lo S R} (I : S → Prop) (μ : S → Nat) (hs : ∀ s, I s → c s = .ok false ∨ (c s = .ok true ∧ ∃ s', f s = .nx s' ∧ I s' ∧ μ s' < μ s)) {s : S} (h : I s) : ∃ s', whileO c f s = .nx s' ∧ I s' ∧ c s' = .ok false := by
  have key : ∀ (m : Nat) (s : S), μ s = m → I s → ∃ k s', whileK c f k s = some (.nx s') ∧ I s' ∧ c s' = .ok false := by
    intro m
    induction m using Nat.strongRecOn with
    | ind m ih =>
      intro s hm hI
      rcases hs s hI with hc | ⟨hc, s1, h1, h2, h3⟩
      · exact ⟨1, s, by unfold whileK; rw [hc], hI, hc⟩
      · obtain ⟨k, s2, e1, e2, e3⟩ := ih (μ s1) (by omega) s1 rfl h2
        exact ⟨k + 1, s2, by unfold whileK; rw [hc]; dsimp only; rw [h1]; exact e1, e2, e3⟩
  obtain ⟨k, s', h1, h2, h3⟩ := key _ s rfl h
  exact ⟨s', whileO_of h1, h2, h3⟩
theorem minI_lb : ∀ (l : List Int) (x : Int), x ∈ l → minI l ≤ x
  | [], x, h => by simp at h
  | [i], x, h => by simp at h; subst h; exact Int.le_refl _
  | i :: j :: r, x, h => by
    have ih := minI_lb (j :: r)
    have e : minI (i :: j :: r) = if i ≤ minI (j :: r) then i else minI (j :: r) := rfl
    rw [e]
    rcases List.mem_cons.mp h with rfl | h
    · split <;> omega
    · have := ih x h
      split <;> omega
theorem minI_in : ∀ (l : List Int), l ≠ [] → minI l ∈ l
  | [], h => absurd rfl h
  | [i], _ => by simp [minI]
  | i :: j :: r, _ => by
    have ih := minI_in (j :: r) (by simp)
    have e : minI (i :: j :: r) = if i ≤ minI (j :: r) then i else minI (j :: r) := rfl
    rw [e]
    split
    · simp
    · exact List.mem_cons_of_mem _ ih
theorem minI_cons (i : Int) {l : List Int} (h : l ≠ []) : minI (i :: l) = if i ≤ minI l then i else minI l := by
  cases l with
  | nil => exact absurd rfl h
  | cons j r => rfl
theorem minI_eq {l : List Int} {m : Int} (h : m ∈ l) (hl : ∀ x ∈ l, m ≤ x) : minI l = m := by
  have a := minI_lb l m h
  have b := hl _ (minI_in l (List.ne_nil_of_mem h))
  omega
/-! sorting -/
theorem insI_pm (i : Int) : ∀ l, (insI i l).Perm (i :: l)
  | [] => List.Perm.refl _
  | j :: r => by
    unfold insI
    split
    · exact List.Perm.refl _
    · exact ((insI_pm i r).cons j).trans (List.Perm.swap _ _ _)
theorem sortI_pm : ∀ l, (sortI l).Perm l
  | [] => List.Perm.refl _
  | i :: r => by
    unfold sortI
    exact (insI_pm i _).trans ((sortI_pm r).cons i)
theorem insI_so (i : Int) : ∀ l : List Int, l.Pairwise (· ≤ ·) → (insI i l).Pairwise (· ≤ ·)
  | [], _ => by unfold insI; simp
  | j :: r, h => by
    unfold insI
    have h' := List.pairwise_cons.mp h
    split
    · rename_i hij
      refine List.pairwise_cons.mpr ⟨fun x hx => ?_, h⟩
      rcases List.mem_cons.mp hx with rfl | hx
      · exact hij
      · exact Int.le_trans hij (h'.1 x hx)
    · rename_i hij
      refine List.pairwise_cons.mpr ⟨fun x hx => ?_, insI_so i r h'.2⟩
      rcases List.mem_cons.mp ((insI_pm i r).mem_iff.mp hx) with rfl | hx
      · omega
      · exact h'.1 x hx
theorem sortI_so : ∀ l : List Int, (sortI l).Pairwise (· ≤ ·)
  | [] => by unfold sortI; simp
  | i :: r => by unfold sortI; exact insI_so i _ (sortI_so r)
theorem sorted_uniq {l m : List Int} (hp : l.Perm m) (hl : l.Pairwise (· ≤ ·)) (hm : m.Pairwise (· ≤ ·)) : l = m :=
  hp.eq_of_pairwise (fun a b _ _ h1 h2 => Int.le_antisymm h1 h2) hl hm
theorem sortI_of {l m : List Int} (hp : l.Perm m) (hm : m.Pairwise (· ≤ ·)) : sortI l = m := sorted_uniq ((sortI_pm l).trans hp) (sortI_so l) hm
/-! bits -/
theorem bit_is {i t : Nat} : ((shrM (i : Int) (t : Int)).bind fun x => M.ok (Builtin.bitAnd x 1)) = .ok ((i / 2 ^ t % 2 : Nat) : Int) := by
  rw [shrM_ok, M.bind_ok, PyProof.Rows.bitAnd_m1]
  simp
theorem bit_one {i t : Nat} : decide (((i / 2 ^ t % 2 : Nat) : Int) = 1) = i.testBit t := by
  rw [Nat.testBit_eq_decide_div_mod_eq]
  congr 1
  simp only [eq_iff_iff]
  omega
theorem bit_zero {i t : Nat} : decide (((i / 2 ^ t % 2 : Nat) : Int) = 0) = !i.testBit t := by
  rw [Nat.testBit_eq_decide_div_mod_eq]
  have := Nat.mod_two_eq_zero_or_one (i / 2 ^ t)
  rcases this with h | h <;> rw [h] <;> rfl
theorem bit_form (x t : Nat) : ∃ q r, r < 2 ^ t ∧ x = 2 ^ t * (2 * q + (if x.testBit t then 1 else 0)) + r := by
  have h1 := Nat.div_add_mod x (2 ^ t)
  have h2 := Nat.div_add_mod (x / 2 ^ t) 2
  refine ⟨x / 2 ^ t / 2, x % 2 ^ t, Nat.mod_lt _ (Nat.two_pow_pos t), ?_⟩
  rw [Nat.testBit_eq_decide_div_mod_eq]
  have e : (if decide (x / 2 ^ t % 2 = 1) = true then 1 else 0) = x / 2 ^ t % 2 := by
    have := Nat.mod_two_eq_zero_or_one (x / 2 ^ t)
    rcases this with h | h <;> rw [h] <;> rfl
  rw [e, h2, h1]
theorem bit_of {t q b r i : Nat} (hb : b = 0 ∨ b = 1) (hr : r < 2 ^ t) : (2 ^ t * (2 * q + b) + r).testBit i = if i < t then r.testBit i else if i = t then decide (b = 1) else q.testBit (i - t - 1) := by
  rw [Nat.testBit_two_pow_mul_add _ hr]
  by_cases h : i < t
  · rw [if_pos h, if_pos h]
  · rw [if_neg h, if_neg h]
    by_cases h2 : i = t
    · subst h2
      rw [if_pos rfl, Nat.sub_self, Nat.testBit_zero]
      rcases hb with rfl | rfl <;> simp
    · rw [if_neg h2, show i - t = i - t - 1 + 1 by omega, Nat.testBit_succ]
      congr 1
      omega
theorem bit_add {x t i : Nat} (h : x.testBit t = false) : (x + 2 ^ t).testBit i = (decide (i = t) || x.testBit i) := by
  obtain ⟨q, r, hr, e⟩ := bit_form x t
  rw [h] at e
  simp only [Bool.false_eq_true, if_false] at e
  have e2 : x + 2 ^ t = 2 ^ t * (2 * q + 1) + r := by rw [e, Nat.mul_add, Nat.mul_add]; omega
  rw [e2, e, bit_of (.inr rfl) hr, bit_of (.inl rfl) hr]
  by_cases h1 : i < t
  · rw [if_pos h1, if_pos h1]; simp; omega
  · rw [if_neg h1, if_neg h1]
    by_cases h2 : i = t <;> simp [h2]
theorem bit_le {x t : Nat} (h : x.testBit t = true) : 2 ^ t ≤ x := Nat.ge_two_pow_of_testBit h
theorem bit_sub {x t i : Nat} (h : x.testBit t = true) : (x - 2 ^ t).testBit i = (!decide (i = t) && x.testBit i) := by
  obtain ⟨q, r, hr, e⟩ := bit_form x t
  rw [h] at e
  simp only [if_true] at e
  have e2 : x - 2 ^ t = 2 ^ t * (2 * q + 0) + r := by rw [e, Nat.mul_add, Nat.mul_add]; omega
  rw [e2, e, bit_of (.inl rfl) hr, bit_of (.inr rfl) hr]
  by_cases h1 : i < t
  · rw [if_pos h1, if_pos h1]; simp; omega
  · rw [if_neg h1, if_neg h1]
    by_cases h2 : i = t <;> simp [h2]
/-- a list of tests as a number -/
def mask (l : List Int) : Nat := (l.map fun t => 2 ^ t.toNat).sum
theorem mask_cons (t : Int) (l : List Int) : mask (t :: l) = 2 ^ t.toNat + mask l := by simp [mask]
theorem mask_nil : mask [] = 0 := rfl
theorem mask_app (l m : List Int) : mask (l ++ m) = mask l + mask m := by simp [mask]
theorem bit_mask : ∀ {l : List Int}, l.Nodup → (∀ t ∈ l, 0 ≤ t) → ∀ i : Nat, (mask l).testBit i = decide ((i : Int) ∈ l)
  | [], _, _, i => by simp [mask_nil]
  | t :: l, hd, h0, i => by
    obtain ⟨h1, h2⟩ := List.nodup_cons.mp hd
    have ih := bit_mask h2 fun s hs => h0 s (by simp [hs])
    have ht : ((t.toNat : Nat) : Int) = t := by have := h0 t (by simp); omega
    have hb : (mask l).testBit t.toNat = false := by
      rw [ih, ht]
      exact decide_eq_false h1
    rw [mask_cons, Nat.add_comm, bit_add hb, ih]
    by_cases e : i = t.toNat
    · subst e; simp [ht]
    · have : ¬ (i : Int) = t := by omega
      simp [e, this]
theorem lt_of_bits {x n : Nat} (h : ∀ i, n ≤ i → x.testBit i = false) : x < 2 ^ n := Nat.lt_pow_two_of_testBit x h
theorem mask_lt {l : List Int} {n : Nat} (hd : l.Nodup) (h : ∀ t ∈ l, 0 ≤ t ∧ t < n) : mask l < 2 ^ n := lt_of_bits fun i hi => by
  rw [bit_mask hd fun t ht => (h t ht).1]
  exact decide_eq_false fun hm => by have := (h _ hm).2; omega
end MP
/-! SM2: what is left of a table's rows. -/
namespace MP
open PySem
abbrev Row : Type := Int × List Int
def wsum (rows : List Row) (p : Row → Bool) : Int := ((rows.filter p).map (·.1)).sum
theorem wsum_nil (p : Row → Bool) : wsum [] p = 0 := rfl
theorem wsum_cons (r : Row) (rows : List Row) (p : Row → Bool) : wsum (r :: rows) p = (if p r then r.1 else 0) + wsum rows p := by
  unfold wsum
  cases h : p r <;> simp [h]
theorem wsum_cg {rows : List Row} {p q : Row → Bool} (h : ∀ r ∈ rows, p r = q r) : wsum rows p = wsum rows q := by
  unfold wsum
  rw [List.filter_congr h]
theorem wsum_or {rows : List Row} {p q u : Row → Bool} (h : ∀ r ∈ rows, u r = (p r || q r)) (hx : ∀ r ∈ rows, ¬ (p r = true ∧ q r = true)) : wsum rows u = wsum rows p + wsum rows q := by
  induction rows with
  | nil => rfl
  | cons r rows ih =>
    rw [wsum_cons, wsum_cons, wsum_cons, ih (fun x hx => h x (by simp [hx])) fun x h' => hx x (by simp [h'])]
    have a := h r (by simp)
    have b := hx r (by simp)
    rw [a]
    cases hp : p r <;> cases hq : q r <;> simp [hp, hq] at b ⊢ <;> omega
theorem wsum_bd {rows : List Row} {p : Row → Bool} (h : ∀ r ∈ rows, 1 ≤ r.1 ∧ r.1 ≤ 1000) : 0 ≤ wsum rows p ∧ wsum rows p ≤ 1000 * rows.length := by
  induction rows with
  | nil => simp [wsum_nil]
  | cons r rows ih =>
    obtain ⟨a, b⟩ := ih fun x hx => h x (by simp [hx])
    obtain ⟨c, d⟩ := h r (by simp)
    rw [wsum_cons, List.length_cons]
    split <;> constructor <;> push_cast <;> omega
structure TabOk (t : Table) (n : Nat) : Prop where
  len : t.costs.length = n
  n1 : 1 ≤ n
  n12 : n ≤ 12
  cost : ∀ c ∈ t.costs, 1 ≤ c ∧ c ≤ 1000
  r1 : 1 ≤ t.rows.length
  r200 : t.rows.length ≤ 200
  wt : ∀ r ∈ t.rows, 1 ≤ r.1 ∧ r.1 ≤ 1000
  nd : ∀ r ∈ t.rows, r.2.Nodup
  st : ∀ r ∈ t.rows, ∀ s ∈ r.2, 0 ≤ s ∧ s < n
/-- the weight left behind a list of tests -/
def leftS (rows : List Row) (T : List Int) : Int := wsum rows fun r => !(r.2.any fun s => decide (s ∈ T))
/-- .. behind a set of tests, by its index -/
def leftI (rows : List Row) (I : Nat) : Int := wsum rows fun r => r.2.all fun s => !I.testBit s.toNat
theorem leftI_mask {rows : List Row} {T : List Int} (hd : T.Nodup) (h0 : ∀ t ∈ T, 0 ≤ t) (hr : ∀ r ∈ rows, ∀ s ∈ r.2, 0 ≤ s) : leftI rows (mask T) = leftS rows T := by
  unfold leftI leftS
  refine wsum_cg fun r h => ?_
  rw [Bool.eq_iff_iff]
  simp only [List.all_eq_true, Bool.not_eq_true', List.any_eq_false, decide_eq_true_eq]
  constructor
  · intro q s hs
    have := q s hs
    rw [bit_mask hd h0, show ((s.toNat : Nat) : Int) = s by have := hr r h s hs; omega] at this
    simpa using this
  · intro q s hs
    rw [bit_mask hd h0, show ((s.toNat : Nat) : Int) = s by have := hr r h s hs; omega]
    simpa using q s hs
theorem leftS_bd {t : Table} {n : Nat} (h : TabOk t n) (T : List Int) : 0 ≤ leftS t.rows T ∧ leftS t.rows T ≤ 200000 := by
  have := wsum_bd (p := fun r => !(r.2.any fun s => decide (s ∈ T))) h.wt
  have := h.r200
  unfold leftS
  omega
theorem leftI_bd {t : Table} {n : Nat} (h : TabOk t n) (I : Nat) : 0 ≤ leftI t.rows I ∧ leftI t.rows I ≤ 200000 := by
  have := wsum_bd (p := fun r => r.2.all fun s => !I.testBit s.toNat) h.wt
  have := h.r200
  unfold leftI
  omega
/-! ### the weights by sets -/
/-- a row's set lies within J in its first t tests, and is J in the others -/
def phi (n t m J : Nat) : Bool := (List.range n).all fun i => if i < t then !m.testBit i || J.testBit i else m.testBit i == J.testBit i
theorem phi_zero {n m J : Nat} (hm : m < 2 ^ n) (hJ : J < 2 ^ n) : phi n 0 m J = decide (m = J) := by
  unfold phi
  rw [Bool.eq_iff_iff]
  simp only [List.all_eq_true, List.mem_range, Nat.not_lt_zero, if_false, beq_iff_eq, decide_eq_true_eq]
  constructor
  · intro h
    refine Nat.eq_of_testBit_eq fun i => ?_
    by_cases hi : i < n
    · exact h i hi
    · rw [Nat.testBit_lt_two_pow (Nat.lt_of_lt_of_le hm (Nat.pow_le_pow_right (by decide) (by omega))), Nat.testBit_lt_two_pow (Nat.lt_of_lt_of_le hJ (Nat.pow_le_pow_right (by decide) (by omega)))]
  · rintro rfl i _; rfl
theorem phi_iff {n t m J : Nat} : phi n t m J = true ↔ ∀ i, i < n → (i < t → m.testBit i = true → J.testBit i = true) ∧ (t ≤ i → m.testBit i = J.testBit i) := by
  unfold phi
  simp only [List.all_eq_true, List.mem_range]
  constructor
  · intro h i hi
    have := h i hi
    refine ⟨fun ht => ?_, fun ht => ?_⟩
    · rw [if_pos ht] at this
      intro hm
      simpa [hm] using this
    · rw [if_neg (by omega)] at this
      simpa using this
  · intro h i hi
    obtain ⟨a, b⟩ := h i hi
    split
    · rename_i ht
      cases hm : m.testBit i
      · rfl
      · simp [a ht hm]
    · simpa using b (by omega)
theorem phi_off {n t m J : Nat} (ht : t < n) (h : J.testBit t = false) : phi n (t + 1) m J = phi n t m J := by
  rw [Bool.eq_iff_iff, phi_iff, phi_iff]
  constructor
  · intro q i hi
    obtain ⟨a, b⟩ := q i hi
    refine ⟨fun hl => a (by omega), fun hl => ?_⟩
    by_cases e : i = t
    · subst e
      rw [h]
      cases hm : m.testBit i
      · rfl
      · have := a (by omega) hm
        rw [h] at this
        cases this
    · exact b (by omega)
  · intro q i hi
    obtain ⟨a, b⟩ := q i hi
    refine ⟨fun hl hm => ?_, fun hl => b (by omega)⟩
    by_cases e : i = t
    · subst e; rw [← b (Nat.le_refl _)]; exact hm
    · exact a (by omega) hm
theorem phi_on {n t m J : Nat} (ht : t < n) (h : J.testBit t = true) : phi n (t + 1) m J = (phi n t m J || phi n t m (J - 2 ^ t)) := by
  rw [Bool.eq_iff_iff, Bool.or_eq_true, phi_iff, phi_iff, phi_iff]
  constructor
  · intro q
    cases hm : m.testBit t with
    | true =>
      left
      intro i hi
      obtain ⟨a, b⟩ := q i hi
      refine ⟨fun hl => a (by omega), fun hl => ?_⟩
      by_cases e : i = t
      · subst e; rw [hm, h]
      · exact b (by omega)
    | false =>
      right
      intro i hi
      obtain ⟨a, b⟩ := q i hi
      rw [bit_sub h]
      refine ⟨fun hl hmi => ?_, fun hl => ?_⟩
      · have := a (by omega) hmi
        simp [this]; omega
      · by_cases e : i = t
        · subst e; simp [hm]
        · simp [e, b (by omega)]
  · rintro (q | q) i hi
    · obtain ⟨a, b⟩ := q i hi
      refine ⟨fun hl hmi => ?_, fun hl => b (by omega)⟩
      by_cases e : i = t
      · subst e; exact h
      · exact a (by omega) hmi
    · obtain ⟨a, b⟩ := q i hi
      rw [bit_sub h] at a b
      refine ⟨fun hl hmi => ?_, fun hl => ?_⟩
      · by_cases e : i = t
        · subst e; exact h
        · have := a (by omega) hmi
          simpa [e] using this
      · have := b (by omega)
        simpa [show ¬ i = t by omega] using this
theorem phi_not {n t m J : Nat} (ht : t < n) (h : J.testBit t = true) : ¬ (phi n t m J = true ∧ phi n t m (J - 2 ^ t) = true) := by
  rintro ⟨a, b⟩
  rw [phi_iff] at a b
  have x := (a t ht).2 (Nat.le_refl _)
  have y := (b t ht).2 (Nat.le_refl _)
  rw [bit_sub h] at y
  rw [h] at x
  rw [x] at y
  simp at y
/-- the sums while tests are worked in -/
def zet (n t : Nat) (rows : List Row) (J : Nat) : Int := wsum rows fun r => phi n t (mask r.2) J
theorem zet_succ {n t : Nat} {rows : List Row} {J : Nat} (ht : t < n) : zet n (t + 1) rows J = if J.testBit t then zet n t rows J + zet n t rows (J - 2 ^ t) else zet n t rows J := by
  unfold zet
  cases h : J.testBit t with
  | false =>
    rw [if_neg (by simp)]
    exact wsum_cg fun r _ => phi_off ht h
  | true =>
    rw [if_pos rfl]
    exact wsum_or (fun r _ => phi_on ht h) fun r _ => phi_not ht h
theorem set_range {N k : Nat} {F : Nat → Int} {v : Int} : ((List.range N).map F).set k v = (List.range N).map fun J => if J = k then v else F J := by
  refine List.ext_getElem? fun i => ?_
  rw [List.getElem?_set]
  simp only [List.length_map, List.length_range, List.getElem?_map, List.getElem?_range]
  by_cases h : k = i
  · subst h
    rw [if_pos rfl]
    by_cases hk : k < N
    · simp [hk]
    · simp [hk]
  · rw [if_neg h]
    by_cases hi : i < N
    · simp [hi, show ¬ i = k from fun e => h e.symm]
    · simp [hi]
theorem map_range_cg {N : Nat} {F G : Nat → Int} (h : ∀ J, J < N → F J = G J) : (List.range N).map F = (List.range N).map G := List.map_congr_left fun J hJ => h J (List.mem_range.mp hJ)
theorem repl_range {N : Nat} : List.replicate N (0 : Int) = (List.range N).map fun _ => 0 := by
  refine List.ext_getElem? fun i => ?_
  simp [List.getElem?_replicate]
  by_cases h : i < N <;> simp [h]
theorem lw_rows {n : Nat} : ∀ (rows : List Row) (F : Nat → Int), (∀ r ∈ rows, r.2.Nodup ∧ ∀ s ∈ r.2, 0 ≤ s ∧ s < n) → n ≤ 12 → loopM (fun (y15 : Row) s14 => (((compM (fun _ => M.ok true) (fun y18 => shlM (1 : Int) y18) y15.2).bind fun x21 => M.ok (x21, ())).bind fun g22 => M.ok g22.1.sum).bind fun v23 =>
    (getI s14 v23).bind fun x25 => (setI s14 v23 (x25 + y15.1)).bind fun l28 => M.ok l28) rows ((List.range (2 ^ n)).map F) = .ok ((List.range (2 ^ n)).map fun J => F J + wsum rows fun r => decide (mask r.2 = J))
  | [], F, _, _ => by
    unfold loopM
    congr 1
    exact map_range_cg fun J _ => by rw [wsum_nil]; omega
  | r :: rows, F, h, hn => by
    obtain ⟨h1, h2⟩ := h r (by simp)
    have e1 : compM (fun _ => M.ok true) (fun y18 => shlM (1 : Int) y18) r.2 = .ok (r.2.map fun s => ((2 ^ s.toNat : Nat) : Int)) := compM_map _ _ fun s hs => by
      obtain ⟨a, b⟩ := h2 s hs
      have := shlM_ok (k := s.toNat) (by omega)
      rwa [show ((s.toNat : Nat) : Int) = s by omega] at this
    have e2 : (r.2.map fun s => ((2 ^ s.toNat : Nat) : Int)).sum = ((mask r.2 : Nat) : Int) := by
      unfold mask
      generalize r.2 = l
      induction l with
      | nil => rfl
      | cons a l ih => rw [List.map_cons, List.map_cons, List.sum_cons, List.sum_cons, ih]; push_cast; rfl
    have hm : mask r.2 < 2 ^ n := mask_lt h1 h2
    unfold loopM
    rw [e1]
    simp only [M.bind_ok]
    rw [e2, getI_map hm, M.bind_ok, setI_ok (by simp; exact hm), M.bind_ok, M.bind_ok, set_range, lw_rows rows _ (fun x hx => h x (by simp [hx])) hn]
    congr 1
    refine map_range_cg fun J _ => ?_
    rw [wsum_cons]
    by_cases e : J = mask r.2
    · subst e; simp; omega
    · have : ¬ mask r.2 = J := fun q => e q.symm
      simp [e, this]
theorem lw_bit {n t : Nat} (F : Nat → Int) (hn : n ≤ 12) (ht : t < n) : loopM (fun (y37 : Int) (s36 : List Int) =>
      (((shrM y37 (t : Int)).bind fun x40 => M.ok (Builtin.bitAnd x40 (1 : Int))).bind fun x42 => M.ok (decide (x42 = (1 : Int)))).bind fun c44 =>
      (if c44 then
        (getI s36 y37).bind fun x46 =>
        (((shlM (1 : Int) (t : Int)).bind fun x51 => M.ok (y37 - x51)).bind fun x52 => getI s36 x52).bind fun x53 =>
        (setI s36 y37 (x46 + x53)).bind fun l55 =>
        M.ok l55
      else
        M.ok s36).bind fun s56 =>
      M.ok s56) (upto (2 ^ n)) ((List.range (2 ^ n)).map F) = .ok ((List.range (2 ^ n)).map fun J => if J.testBit t then F J + F (J - 2 ^ t) else F J) := by
  refine loopM_run (fun i s => s = (List.range (2 ^ n)).map fun J => if J < i ∧ J.testBit t = true then F J + F (J - 2 ^ t) else F J) (map_range_cg fun J _ => by simp) (fun i x s hx hs => ?_) fun s hs => ?_
  · have hi : i < 2 ^ n := by
      have := (List.getElem?_eq_some_iff.mp hx).1
      rwa [upto_len] at this
    rw [upto_get hi] at hx
    cases hx
    subst hs
    rw [bit_is, M.bind_ok, bit_one, M.bind_ok]
    cases hb : i.testBit t with
    | false =>
      rw [if_neg (by simp), M.bind_ok]
      refine ⟨_, rfl, map_range_cg fun J _ => ?_⟩
      by_cases e : J = i
      · subst e; simp [hb]
      · have : J < i + 1 ↔ J < i := by omega
        simp [this]
    | true =>
      have hle := bit_le hb
      rw [if_pos rfl, getI_map hi, M.bind_ok, shlM_ok (by omega), M.bind_ok, M.bind_ok, show ((i : Int) - ((2 ^ t : Nat) : Int)) = ((i - 2 ^ t : Nat) : Int) by omega, getI_map (n := 2 ^ n) (i := i - 2 ^ t) (Nat.lt_of_le_of_lt (Nat.sub_le _ _) hi), M.bind_ok, setI_ok (by simp; exact hi), M.bind_ok, M.bind_ok]
      refine ⟨_, rfl, ?_⟩
      rw [set_range]
      refine map_range_cg fun J _ => ?_
      have p := Nat.two_pow_pos t
      have hz : (i - 2 ^ t).testBit t = false := by rw [bit_sub hb]; simp
      by_cases e : J = i
      · subst e
        simp [hb, hz]
      · have : J < i + 1 ↔ J < i := by omega
        simp [e, this]
  · rw [hs, upto_len]
    refine map_range_cg fun J hJ => ?_
    simp [hJ]
theorem left_weights_ok {t : Table} {n : Nat} (h : TabOk t n) : g_left_weights t = .ok ((List.range (2 ^ n)).map (leftI t.rows)) := by
  have h12 := h.n12
  have hp : (2 : Nat) ^ n ≤ 4096 := Nat.pow_le_pow_right (by decide) h12
  unfold g_left_weights
  simp only [h.len]
  rw [shlM_ok (by omega), M.bind_ok, repM_one (by omega), M.bind_ok, repl_range, lw_rows t.rows _ (fun r hr => ⟨h.nd r hr, h.st r hr⟩) h12, M.bind_ok, rngM_ok (by omega), M.bind_ok]
  have e0 : ((List.range (2 ^ n)).map fun J => (0 : Int) + wsum t.rows fun r => decide (mask r.2 = J)) = (List.range (2 ^ n)).map (zet n 0 t.rows) := map_range_cg fun J hJ => by
    rw [Int.zero_add]
    unfold zet
    exact wsum_cg fun r hr => (phi_zero (mask_lt (h.nd r hr) (h.st r hr)) hJ).symm
  rw [e0]
  obtain ⟨s', h1, h2⟩ := loopM_inv (f := fun (y33 : Int) s32 =>
    (rngM 0 ((2 ^ n : Nat) : Int)).bind fun l58 =>
    (loopM (fun y37 s36 =>
      (((shrM y37 y33).bind fun x40 => M.ok (Builtin.bitAnd x40 (1 : Int))).bind fun x42 => M.ok (decide (x42 = (1 : Int)))).bind fun c44 =>
      (if c44 then
        (getI s36 y37).bind fun x46 =>
        (((shlM (1 : Int) y33).bind fun x51 => M.ok (y37 - x51)).bind fun x52 => getI s36 x52).bind fun x53 =>
        (setI s36 y37 (x46 + x53)).bind fun l55 =>
        M.ok l55
      else
        M.ok s36).bind fun s56 =>
      M.ok s56) l58 s32).bind fun s57 =>
    M.ok s57) (fun i s => s = (List.range (2 ^ n)).map (zet n i t.rows)) (upto n) ((List.range (2 ^ n)).map (zet n 0 t.rows)) 0 rfl fun i x s hx hs => by
      have hi : i < n := by
        have := (List.getElem?_eq_some_iff.mp hx).1
        rwa [upto_len] at this
      rw [upto_get hi] at hx
      cases hx
      rw [Nat.zero_add] at hs ⊢
      subst hs
      rw [rngM_ok (by omega), M.bind_ok, lw_bit _ h12 hi, M.bind_ok]
      exact ⟨_, rfl, map_range_cg fun J _ => (zet_succ hi).symm⟩
  rw [h1, M.bind_ok, rngM_ok (by omega), M.bind_ok, h2, upto_len, Nat.zero_add]
  rw [compM_map (fun i : Int => leftI t.rows i.toNat) _ fun i hi => by
    rw [mem_upto] at hi
    have hlt : 2 ^ n - (i.toNat + 1) < 2 ^ n := by omega
    rw [show ((2 ^ n : Nat) : Int) - 1 - i = ((2 ^ n - (i.toNat + 1) : Nat) : Int) by omega, getI_map hlt]
    congr 1
    unfold zet leftI
    refine wsum_cg fun r hr => ?_
    rw [Bool.eq_iff_iff, phi_iff]
    simp only [List.all_eq_true, Bool.not_eq_true']
    have hI : i.toNat < 2 ^ n := by omega
    constructor
    · intro q s hs
      obtain ⟨a, b⟩ := h.st r hr s hs
      have := (q s.toNat (by omega)).1 (by omega) (by rw [bit_mask (h.nd r hr) fun t ht => (h.st r hr t ht).1]; rw [show ((s.toNat : Nat) : Int) = s by omega]; exact decide_eq_true hs)
      rw [Nat.testBit_two_pow_sub_succ hI] at this
      simpa [show s.toNat < n by omega] using this
    · intro q j hj
      refine ⟨fun _ hm => ?_, fun _ => by omega⟩
      rw [bit_mask (h.nd r hr) fun t ht => (h.st r hr t ht).1] at hm
      have := q _ (of_decide_eq_true hm)
      rw [Nat.testBit_two_pow_sub_succ hI]
      simp at this
      simp [hj, this]]
  rw [M.bind_ok]
  congr 1
  unfold upto
  rw [List.map_map]
  rfl
end MP
/-! SM3: the least costs by sets, the first cheapest order. -/
namespace MP
open PySem
def cst (t : Table) (i : Nat) : Int := (t.costs[i]?).getD 0
def frees (n I : Nat) : List Nat := (List.range n).filter fun t => !I.testBit t
/-- the least cost behind a set of tests -/
def least (c lf : Nat → Int) (n I : Nat) : Int :=
  if I + 1 < 2 ^ n then minI ((frees n I).map fun t => c t * lf I + least c lf n (I + 2 ^ t)) else 0
termination_by 2 ^ n - I
decreasing_by
  have := Nat.two_pow_pos t
  omega
theorem least_full {c lf : Nat → Int} {n I : Nat} (h : ¬ I + 1 < 2 ^ n) : least c lf n I = 0 := by
  unfold least
  rw [if_neg h]
theorem least_step {c lf : Nat → Int} {n I : Nat} (h : I + 1 < 2 ^ n) : least c lf n I = minI ((frees n I).map fun t => c t * lf I + least c lf n (I + 2 ^ t)) := by
  conv => lhs; unfold least
  rw [if_pos h]
theorem mem_frees {n I t : Nat} : t ∈ frees n I ↔ t < n ∧ I.testBit t = false := by
  unfold frees
  simp
theorem add_lt {n I t : Nat} (hI : I < 2 ^ n) (ht : t < n) (hb : I.testBit t = false) : I + 2 ^ t < 2 ^ n := lt_of_bits fun i hi => by
  rw [bit_add hb, Nat.testBit_lt_two_pow (Nat.lt_of_lt_of_le hI (Nat.pow_le_pow_right (by decide) hi))]
  simp
  omega
theorem frees_ne {n I : Nat} (h : I + 1 < 2 ^ n) : frees n I ≠ [] := fun e => by
  have : I = 2 ^ n - 1 := Nat.eq_of_testBit_eq fun i => by
    rw [Nat.testBit_two_pow_sub_one]
    by_cases hi : i < n
    · rw [decide_eq_true hi]
      cases hb : I.testBit i with
      | true => rfl
      | false =>
        have : i ∈ frees n I := mem_frees.mpr ⟨hi, hb⟩
        rw [e] at this
        cases this
    · rw [decide_eq_false hi, Nat.testBit_lt_two_pow (Nat.lt_of_lt_of_le (show I < 2 ^ n by omega) (Nat.pow_le_pow_right (by decide) (by omega)))]
  omega
section
variable {t : Table} {n : Nat}
theorem cst_get (h : TabOk t n) {i : Nat} (hi : i < n) : t.costs[i]? = some (cst t i) := by
  have hl := h.len
  unfold cst
  rw [List.getElem?_eq_getElem (by omega)]
  rfl
theorem cst_bd (h : TabOk t n) {i : Nat} (hi : i < n) : 1 ≤ cst t i ∧ cst t i ≤ 1000 := h.cost _ (List.mem_of_getElem? (cst_get h hi))
theorem price_ok (h : TabOk t n) {arr : List Int} {I i : Nat} {v : Int} (hi : i < n) (hI : I < 2 ^ n) (hv : arr[I + 2 ^ i]? = some v) : g_price t ((List.range (2 ^ n)).map (leftI t.rows)) arr I i = .ok (cst t i * leftI t.rows I + v) := by
  have b1 := cst_bd h hi
  have b2 := leftI_bd h I
  have h12 := h.n12
  unfold g_price
  rw [getI_ok (cst_get h hi), M.bind_ok, getI_map hI, M.bind_ok, mulM_sm (by omega) (by omega), M.bind_ok, shlM_ok (by omega), M.bind_ok, M.bind_ok, show (I : Int) + ((2 ^ i : Nat) : Int) = ((I + 2 ^ i : Nat) : Int) by omega, getI_ok hv]
  rfl
abbrev lst (t : Table) (n : Nat) : Nat → Int := least (cst t) (leftI t.rows) n
theorem filter_upto {n : Nat} {p : Int → Bool} : (upto n).filter p = ((List.range n).filter fun i : Nat => p (i : Int)).map fun i : Nat => (i : Int) := by
  unfold upto
  rw [List.filter_map]
  rfl
theorem least_rests_ok (h : TabOk t n) : g_least_rests t ((List.range (2 ^ n)).map (leftI t.rows)) = .ok ((List.range (2 ^ n)).map (lst t n)) := by
  have h12 := h.n12
  have hp : (2 : Nat) ^ n ≤ 4096 := Nat.pow_le_pow_right (by decide) h12
  have hq := Nat.two_pow_pos n
  unfold g_least_rests
  simp only [h.len]
  rw [shlM_ok (by omega), M.bind_ok, repM_one (by omega), M.bind_ok, repl_range, show ((2 ^ n : Nat) : Int) - 1 = ((2 ^ n - 1 : Nat) : Int) by omega, rrngM_ok (by omega), M.bind_ok]
  rw [loopM_run (r := (List.range (2 ^ n)).map (lst t n)) (fun i s => s = (List.range (2 ^ n)).map fun J => if 2 ^ n - 1 ≤ J + i then lst t n J else 0)]
  · rfl
  · refine map_range_cg fun J hJ => ?_
    split
    · rename_i hh; exact (least_full (by omega)).symm
    · rfl
  · intro i x s hx hs
    have hi : i < 2 ^ n - 1 := by
      have := (List.getElem?_eq_some_iff.mp hx).1
      rwa [List.length_reverse, upto_len] at this
    rw [List.getElem?_reverse (by rw [upto_len]; exact hi), upto_len, upto_get (by omega)] at hx
    cases hx
    generalize hI : 2 ^ n - 1 - 1 - i = I
    have hI1 : I + 1 < 2 ^ n := by omega
    rw [rngM_ok (by omega), M.bind_ok, compM_filter (fun y : Int => !I.testBit y.toNat) (fun y => y) (upto n) (fun y hy => by
      rw [mem_upto] at hy
      rw [show y = ((y.toNat : Nat) : Int) by omega, bit_is, M.bind_ok, bit_zero]
      rfl) fun y _ _ => rfl, M.bind_ok]
    have e1 : List.map (fun y : Int => y) ((upto n).filter fun y => !I.testBit y.toNat) = (frees n I).map fun i : Nat => (i : Int) := by
      rw [filter_upto, List.map_map]
      rfl
    rw [e1, compM_map (fun y : Int => cst t y.toNat * leftI t.rows I + lst t n (I + 2 ^ y.toNat)) _ fun y hy => by
      obtain ⟨j, hj, rfl⟩ := List.mem_map.mp hy
      obtain ⟨hj1, hj2⟩ := mem_frees.mp hj
      have hlt := add_lt (by omega) hj1 hj2
      have p := Nat.two_pow_pos j
      rw [price_ok h (v := lst t n (I + 2 ^ j)) hj1 (by omega) (by
        rw [hs]
        simp [hlt]
        omega)]
      rfl]
    rw [M.bind_ok, M.bind_ok, List.map_map]
    have e2 : minlM ((frees n I).map ((fun y : Int => cst t y.toNat * leftI t.rows I + lst t n (I + 2 ^ y.toNat)) ∘ fun i : Nat => (i : Int))) = .ok (lst t n I) := by
      unfold minlM
      rw [if_neg (by simp; exact frees_ne hI1)]
      show M.ok _ = M.ok _
      rw [show lst t n I = _ from least_step hI1]
      rfl
    rw [e2, M.bind_ok, setI_ok (by rw [hs]; simp; omega), M.bind_ok]
    refine ⟨_, rfl, ?_⟩
    rw [hs, set_range]
    refine map_range_cg fun J hJ => ?_
    by_cases e : J = I
    · subst e
      rw [if_pos rfl, if_pos (by omega)]
    · have : 2 ^ n - 1 ≤ J + (i + 1) ↔ 2 ^ n - 1 ≤ J + i := by omega
      simp [e, this]
  · intro s hs
    rw [hs, List.length_reverse, upto_len]
    refine map_range_cg fun J hJ => ?_
    rw [if_pos (by omega)]
/-! ### reading the order off -/
def pick (c lf : Nat → Int) (n I : Nat) : Option Nat := (List.range n).find? fun t => !I.testBit t && decide (c t * lf I + least c lf n (I + 2 ^ t) = least c lf n I)
theorem pick_some {c lf : Nat → Int} {n I : Nat} (h : I + 1 < 2 ^ n) : ∃ t, pick c lf n I = some t ∧ t < n ∧ I.testBit t = false ∧ c t * lf I + least c lf n (I + 2 ^ t) = least c lf n I := by
  unfold pick
  cases hf : (List.range n).find? fun t => !I.testBit t && decide (c t * lf I + least c lf n (I + 2 ^ t) = least c lf n I) with
  | some t =>
    have h1 := List.find?_some hf
    have h2 := List.mem_of_find?_eq_some hf
    simp at h1 h2
    exact ⟨t, rfl, h2, h1.1, h1.2⟩
  | none =>
    exfalso
    have hm := minI_in ((frees n I).map fun t => c t * lf I + least c lf n (I + 2 ^ t)) (by simp; exact frees_ne h)
    obtain ⟨t, ht, e⟩ := List.mem_map.mp hm
    obtain ⟨h1, h2⟩ := mem_frees.mp ht
    rw [← least_step h] at e
    rw [List.find?_eq_none] at hf
    have := hf t (by simp [h1])
    simp [h2, e] at this
def greedy (c lf : Nat → Int) (n : Nat) : Nat → Nat → List Int
  | 0, _ => []
  | k + 1, I => match pick c lf n I with
    | some t => (t : Int) :: greedy c lf n k (I + 2 ^ t)
    | none => []
theorem nodup_le : ∀ (l m : List Int), l.Nodup → (∀ x ∈ l, x ∈ m) → l.length ≤ m.length
  | [], _, _, _ => by simp
  | a :: l, m, hd, hs => by
    obtain ⟨h1, h2⟩ := List.nodup_cons.mp hd
    have ha := hs a (by simp)
    have ih := nodup_le l (m.erase a) h2 fun x hx => (List.mem_erase_of_ne (show x ≠ a from fun e => h1 (by rw [← e]; exact hx))).mpr (hs x (by simp [hx]))
    rw [List.length_erase_of_mem ha] at ih
    have := List.length_pos_of_mem ha
    rw [List.length_cons]
    omega
/-- a beginning of an order -/
structure Pre (n : Nat) (o : List Int) : Prop where
  nd : o.Nodup
  rg : ∀ s ∈ o, 0 ≤ s ∧ s < n
theorem Pre.mlt {n : Nat} {o : List Int} (h : Pre n o) : mask o < 2 ^ n := mask_lt h.nd h.rg
theorem Pre.bit {n : Nat} {o : List Int} (h : Pre n o) (i : Nat) : (mask o).testBit i = decide ((i : Int) ∈ o) := bit_mask h.nd (fun s hs => (h.rg s hs).1) i
theorem Pre.snoc {n : Nat} {o : List Int} (h : Pre n o) {i : Nat} (hi : i < n) (hb : (i : Int) ∉ o) : Pre n (o ++ [(i : Int)]) := ⟨by
  rw [List.nodup_append]
  refine ⟨h.nd, by simp, fun a ha b hb' => ?_⟩
  simp at hb'
  subst hb'
  rintro rfl
  exact hb ha, fun s hs => by
  simp at hs
  rcases hs with hs | rfl
  · exact h.rg s hs
  · omega⟩
theorem mask_snoc {o : List Int} {i : Nat} : mask (o ++ [(i : Int)]) = mask o + 2 ^ i := by rw [mask_app]; simp [mask]
theorem upto_nodup (n : Nat) : (upto n).Nodup := by
  unfold upto
  exact List.Pairwise.map _ (fun a b hab => by omega) (List.nodup_range (n := n))
theorem Pre.len {n : Nat} {o : List Int} (h : Pre n o) : o.length ≤ n := by
  have := nodup_le o (upto n) h.nd fun s hs => mem_upto.mpr (h.rg s hs)
  rwa [upto_len] at this
theorem Pre.all {n : Nat} {o : List Int} (h : Pre n o) (hl : o.length = n) {s : Int} (hs : 0 ≤ s ∧ s < n) : s ∈ o := by
  by_cases e : s ∈ o
  · exact e
  · have := nodup_le (s :: o) (upto n) (List.nodup_cons.mpr ⟨e, h.nd⟩) fun x hx => by
      rcases List.mem_cons.mp hx with rfl | hx
      · exact mem_upto.mpr hs
      · exact mem_upto.mpr (h.rg x hx)
    rw [upto_len, List.length_cons] at this
    omega
theorem Pre.full {n : Nat} {o : List Int} (h : Pre n o) (hl : o.length = n) : mask o + 1 = 2 ^ n := by
  have : mask o = 2 ^ n - 1 := Nat.eq_of_testBit_eq fun i => by
    rw [h.bit, Nat.testBit_two_pow_sub_one]
    congr 1
    rw [eq_iff_iff]
    constructor
    · intro hi
      have := h.rg _ hi
      omega
    · intro hi
      exact h.all hl (by omega)
  have := Nat.two_pow_pos n
  omega
theorem Pre.part {n : Nat} {o : List Int} (h : Pre n o) (hl : o.length < n) : mask o + 1 < 2 ^ n := by
  have h1 := h.mlt
  by_cases e : mask o + 1 = 2 ^ n
  · exfalso
    have : mask o = 2 ^ n - 1 := by omega
    have hs : ∀ s ∈ upto n, s ∈ o := fun s hs => by
      rw [mem_upto] at hs
      have hb := h.bit s.toNat
      rw [this, Nat.testBit_two_pow_sub_one, show ((s.toNat : Nat) : Int) = s by omega, decide_eq_true (by omega)] at hb
      exact of_decide_eq_true hb.symm
    have := nodup_le _ _ (upto_nodup n) hs
    rw [upto_len] at this
    omega
  · omega
theorem greedy_step {c lf : Nat → Int} {n : Nat} {o : List Int} (h : Pre n o) (hl : o.length < n) : ∃ i, pick c lf n (mask o) = some i ∧ i < n ∧ (i : Int) ∉ o ∧ c i * lf (mask o) + least c lf n (mask o + 2 ^ i) = least c lf n (mask o) ∧ Pre n (o ++ [(i : Int)]) ∧
    greedy c lf n (n - o.length) (mask o) = (i : Int) :: greedy c lf n (n - (o ++ [(i : Int)]).length) (mask (o ++ [(i : Int)])) := by
  obtain ⟨i, h1, h2, h3, h4⟩ := pick_some (c := c) (lf := lf) (h.part hl)
  have hni : (i : Int) ∉ o := by
    rw [h.bit] at h3
    exact of_decide_eq_false h3
  refine ⟨i, h1, h2, hni, h4, h.snoc h2 hni, ?_⟩
  rw [mask_snoc, show n - o.length = (n - (o ++ [(i : Int)]).length) + 1 by simp; omega]
  conv => lhs; unfold greedy
  rw [h1]
theorem cheapest_ok (h : TabOk t n) : g_cheapest t = .ok (lst t n 0, greedy (cst t) (leftI t.rows) n n 0) := by
  have h12 := h.n12
  have hp : (2 : Nat) ^ n ≤ 4096 := Nat.pow_le_pow_right (by decide) h12
  have hq := Nat.two_pow_pos n
  unfold g_cheapest
  rw [left_weights_ok h, M.bind_ok, least_rests_ok h, M.bind_ok]
  simp only [h.len]
  obtain ⟨s', h1, ⟨o, rfl, h3, h4⟩, h5⟩ := whileO_run (R := Int × List Int) (c := fun s10 : List Int × Int => M.ok (decide ((s10.1.length : Int) < (n : Int)))) (f := fun s10 =>
    (rngM 0 (n : Int)).lo fun l50 =>
    (loopO (R := (Int × (List Int))) (fun y22 s21 =>
      (((shrM s21.2 y22).bind fun x25 => M.ok (Builtin.bitAnd x25 (1 : Int))).bind fun x27 => M.ok (decide (x27 = (0 : Int)))).lo fun v29 =>
      (if v29 then (g_price t ((List.range (2 ^ n)).map (leftI t.rows)) ((List.range (2 ^ n)).map (lst t n)) s21.2 y22).bind fun x36 => (getI ((List.range (2 ^ n)).map (lst t n)) s21.2).bind fun x39 => M.ok (decide (x36 = x39)) else M.ok false).lo fun c41 =>
      if c41 then
        (appM s21.1 y22).lo fun l44 =>
        (shlM (1 : Int) y22).lo fun x47 =>
        let v48 : Int := s21.2 + x47
        Lo.bk (l44, v48)
      else
        Lo.nx (s21.1, s21.2)) l50 (s10.1, s10.2)).sq fun s49 =>
    Lo.nx (s49.1, s49.2)) (fun s => ∃ o, s = (o, ((mask o : Nat) : Int)) ∧ Pre n o ∧ o ++ greedy (cst t) (leftI t.rows) n (n - o.length) (mask o) = greedy (cst t) (leftI t.rows) n n 0) (fun s => n - s.1.length) (by
      rintro s ⟨o, rfl, h3, h4⟩
      by_cases hl : o.length < n
      · right
        refine ⟨by simp [hl], ?_⟩
        obtain ⟨i, g1, g2, g3, g4, g5, g6⟩ := greedy_step (c := cst t) (lf := leftI t.rows) h3 hl
        have hm := h3.mlt
        refine ⟨(o ++ [(i : Int)], ((mask (o ++ [(i : Int)]) : Nat) : Int)), ?_, ⟨_, rfl, g5, ?_⟩, by simp; omega⟩
        · rw [rngM_ok (by omega), M.lo_ok, loopO_find (fun y : Int => !(mask o).testBit y.toNat && decide (cst t y.toNat * leftI t.rows (mask o) + lst t n (mask o + 2 ^ y.toNat) = lst t n (mask o))) (fun y : Int => (o ++ [y], ((mask o + 2 ^ y.toNat : Nat) : Int))) (upto n) fun y hy => by
            rw [mem_upto] at hy
            obtain ⟨j, rfl⟩ : ∃ j : Nat, y = (j : Int) := ⟨y.toNat, by omega⟩
            dsimp only
            rw [bit_is, M.bind_ok, bit_zero, M.lo_ok]
            simp only [Int.toNat_natCast]
            cases hb : (mask o).testBit j with
            | true => simp
            | false =>
              have hlt := add_lt hm (by omega) hb
              rw [Bool.not_false, if_pos rfl, price_ok h (v := lst t n (mask o + 2 ^ j)) (by omega) hm (by simp [hlt]), M.bind_ok, getI_map hm, M.bind_ok, M.lo_ok, Bool.true_and]
              split
              · rw [appM_ok (by have := h3.len; omega), M.lo_ok, shlM_ok (by omega), M.lo_ok]
                simp
              · rfl]
          have e : (upto n).find? (fun y : Int => !(mask o).testBit y.toNat && decide (cst t y.toNat * leftI t.rows (mask o) + lst t n (mask o + 2 ^ y.toNat) = lst t n (mask o))) = some (i : Int) := by
            unfold upto
            rw [List.find?_map]
            have : (List.range n).find? ((fun y : Int => !(mask o).testBit y.toNat && decide (cst t y.toNat * leftI t.rows (mask o) + lst t n (mask o + 2 ^ y.toNat) = lst t n (mask o))) ∘ fun i : Nat => (i : Int)) = some i := g1
            rw [this]
            rfl
          rw [e, Lo.sq_nx, mask_snoc]
          rfl
        · rw [← h4, g6]
          simp
      · left
        simp
        omega) (s := (([] : List Int), (0 : Int))) ⟨[], rfl, ⟨by simp, by simp⟩, by simp [mask_nil]⟩
  rw [h1, Lo.thn_nx]
  have hl : o.length = n := by
    have a := h3.len
    have b := M.ok.inj h5
    simp at b
    omega
  have e0 : (0 : Int) = ((0 : Nat) : Int) := rfl
  rw [e0, getI_map (by omega)]
  simp only [M.bind_ok]
  rw [hl, Nat.sub_self] at h4
  rw [← h4]
  simp [greedy]
end
end MP
/-! SM4: costs of orders; all orders; the first of the cheapest. -/
namespace MP
open PySem
/-- the term of an order at a place -/
def oterm (c : Nat → Int) (rows : List Row) (o : List Int) (k : Nat) : Int := c ((o[k]?).getD 0).toNat * leftS rows (o.take k)
def ocost (c : Nat → Int) (rows : List Row) (o : List Int) : Int := ((List.range o.length).map (oterm c rows o)).sum
theorem oterm_app {c : Nat → Int} {rows : List Row} {o p : List Int} {k : Nat} (h : k < o.length) : oterm c rows (o ++ p) k = oterm c rows o k := by
  unfold oterm
  rw [List.getElem?_append_left h, List.take_append_of_le_length (by omega)]
theorem ocost_snoc {c : Nat → Int} {rows : List Row} {o : List Int} {i : Nat} : ocost c rows (o ++ [(i : Int)]) = ocost c rows o + c i * leftS rows o := by
  unfold ocost
  rw [List.length_append, List.length_singleton, List.range_succ, List.map_append, List.sum_append]
  congr 1
  · congr 1
    exact List.map_congr_left fun k hk => oterm_app (List.mem_range.mp hk)
  · simp [oterm]
theorem perm_upto {n : Nat} {o : List Int} (h : Pre n o) (hl : o.length = n) : o.Perm (upto n) := (List.perm_ext_iff_of_nodup h.nd (upto_nodup n)).mpr fun s => ⟨fun hs => mem_upto.mpr (h.rg s hs), fun hs => h.all hl (mem_upto.mp hs)⟩
theorem upto_sorted (n : Nat) : (upto n).Pairwise (· ≤ ·) := by
  unfold upto
  exact List.Pairwise.map _ (fun a b hab => by omega) (List.pairwise_lt_range (n := n))
theorem enumI_get {α : Type} : ∀ (l : List α) (k i : Nat), (enumI k l)[i]? = (l[i]?).map fun x => (((k + i : Nat) : Int), x)
  | [], k, i => by simp [enumI]
  | x :: l, k, 0 => by simp [enumI]
  | x :: l, k, i + 1 => by
    simp only [enumI, List.getElem?_cons_succ]
    rw [enumI_get l (k + 1) i]
    have : k + 1 + i = k + (i + 1) := by omega
    rw [this]
theorem enumI_len {α : Type} : ∀ (l : List α) (k : Nat), (enumI k l).length = l.length
  | [], _ => rfl
  | x :: l, k => by simp [enumI, enumI_len l]
/-! ### all orders -/
def ext (U o : List Int) : List (List Int) := (U.filter fun x => !decide (x ∈ o)).map fun x => o ++ [x]
def compl (U : List Int) : Nat → List Int → List (List Int)
  | 0, o => [o]
  | k + 1, o => (ext U o).flatMap (compl U k)
theorem compl_succ (U : List Int) : ∀ (k : Nat) (o : List Int), compl U (k + 1) o = (compl U k o).flatMap (ext U)
  | 0, o => by
    show (ext U o).flatMap (fun x => [x]) = [o].flatMap (ext U)
    simp
  | k + 1, o => by
    show (ext U o).flatMap (compl U (k + 1)) = ((ext U o).flatMap (compl U k)).flatMap (ext U)
    rw [List.flatMap_assoc]
    congr 1
    funext x
    exact compl_succ U k x
theorem compl_len (U : List Int) : ∀ (k : Nat) (o x : List Int), x ∈ compl U k o → x.length = o.length + k
  | 0, o, x, h => by simp [compl] at h; subst h; rfl
  | k + 1, o, x, h => by
    simp only [compl, List.mem_flatMap] at h
    obtain ⟨y, hy, hx⟩ := h
    have := compl_len U k y x hx
    simp [ext] at hy
    obtain ⟨a, _, rfl⟩ := hy
    simp at this
    omega
theorem flat_len {U : List Int} : ∀ l : List (List Int), (l.flatMap (ext U)).length ≤ l.length * U.length
  | [] => by simp
  | o :: l => by
    have ih := flat_len (U := U) l
    have : (ext U o).length ≤ U.length := by unfold ext; rw [List.length_map]; exact List.length_filter_le _ _
    rw [List.flatMap_cons, List.length_append, List.length_cons, Nat.succ_mul]
    omega
theorem compl_many (U : List Int) (o : List Int) : ∀ k : Nat, (compl U k o).length ≤ U.length ^ k
  | 0 => by simp [compl]
  | k + 1 => by
    rw [compl_succ, Nat.pow_succ]
    exact Nat.le_trans (flat_len _) (Nat.mul_le_mul_right _ (compl_many U o k))
theorem perms_ok {U : List Int} (h5 : U.length ≤ 5) : g_law_perms U = .ok (compl U U.length []) := by
  unfold g_law_perms
  dsimp only
  have big : ∀ k, k ≤ 5 → U.length ^ k ≤ 3125 := fun k hk => by
    have a : U.length ^ k ≤ 5 ^ k := Nat.pow_le_pow_left h5 k
    have b : (5 : Nat) ^ k ≤ 5 ^ 5 := Nat.pow_le_pow_right (by decide) hk
    omega
  rw [rngM_ok (by omega), M.bind_ok, loopM_run (s0 := [[]]) (r := compl U U.length []) (fun i s => s = compl U i []) rfl]
  · rw [M.bind_ok]
    simp
  · intro i x s hx hs
    have hi : i < U.length := by
      have := (List.getElem?_eq_some_iff.mp hx).1
      rwa [upto_len] at this
    subst hs
    have hc := compl_many U [] i
    have hb := big i (by omega)
    rw [loopM_run (r := (compl U i []).flatMap (ext U)) (fun j s => s = ((compl U i []).take j).flatMap (ext U)) (by simp)]
    · exact ⟨_, rfl, (compl_succ U i []).symm⟩
    · intro j y s hy hs
      have hj : j < (compl U i []).length := (List.getElem?_eq_some_iff.mp hy).1
      have hyl := compl_len U i [] y (List.mem_of_getElem? hy)
      simp at hyl
      rw [compM_filter (fun x => !decide (x ∈ y)) (fun x => y ++ [x]) U (fun _ _ => rfl) fun x _ _ => catM_ok (by simp; omega), M.bind_ok]
      have l1 : s.length ≤ 3125 * 5 := by
        rw [hs]
        refine Nat.le_trans (flat_len _) ?_
        refine Nat.mul_le_mul ?_ h5
        rw [List.length_take]
        omega
      have l2 : (ext U y).length ≤ 5 := by unfold ext; rw [List.length_map]; exact Nat.le_trans (List.length_filter_le _ _) h5
      have e : ((U.filter fun x => !decide (x ∈ y)).map fun x => y ++ [x]) = ext U y := rfl
      rw [e, catM_ok (by omega), M.bind_ok]
      refine ⟨_, rfl, ?_⟩
      rw [hs, List.take_succ, hy, List.flatMap_append]
      simp
    · intro s hs
      rw [hs, List.take_length]
  · intro s hs
    rw [hs, upto_len]
/-! ### the first of the cheapest -/
def bet (s : Option Int × Option (List Int)) (v : Int) (o : List Int) : Option Int × Option (List Int) := match s.1 with
  | none => (some v, some o)
  | some z => if v < z then (some v, some o) else s
theorem bet_stay {X : Type} (v : X → Int) (o : X → List Int) {s : Option Int × Option (List Int)} {z : Int} (hs : s.1 = some z) : ∀ L : List X, (∀ y ∈ L, z ≤ v y) → L.foldl (fun s x => bet s (v x) (o x)) s = s
  | [], _ => rfl
  | y :: L, h => by
    have e : bet s (v y) (o y) = s := by
      unfold bet
      rw [hs]
      exact if_neg (by have := h y (by simp); omega)
    rw [List.foldl_cons, e]
    exact bet_stay v o hs L fun x hx => h x (by simp [hx])
theorem bet_fold {X : Type} (v : X → Int) (o : X → List Int) {m : Int} : ∀ (L : List X) (s : Option Int × Option (List Int)) (x : X), L.find? (fun x => decide (v x = m)) = some x → (∀ y ∈ L, m ≤ v y) → L.foldl (fun s x => bet s (v x) (o x)) s = bet s (v x) (o x)
  | [], _, _, h, _ => by simp at h
  | a :: L, s, x, h, hm => by
    rw [List.foldl_cons]
    by_cases e : v a = m
    · rw [List.find?_cons, decide_eq_true e] at h
      cases h
      have : ∃ z, (bet s (v a) (o a)).1 = some z ∧ z ≤ m := by
        unfold bet
        cases hs : s.1 with
        | none => exact ⟨v a, rfl, by omega⟩
        | some z =>
          dsimp only
          split
          · exact ⟨v a, rfl, by omega⟩
          · exact ⟨z, hs, by omega⟩
      obtain ⟨z, h1, h2⟩ := this
      exact bet_stay v o h1 L fun y hy => by have := hm y (by simp [hy]); omega
    · rw [List.find?_cons, decide_eq_false e] at h
      rw [bet_fold v o L _ x h fun y hy => hm y (by simp [hy])]
      have h1 := hm a (by simp)
      have h2 := List.find?_some h
      simp at h2
      unfold bet
      cases hs : s.1 with
      | none =>
        dsimp only
        rw [if_pos (by omega)]
      | some z =>
        dsimp only
        by_cases q : v a < z
        · rw [if_pos q, if_pos (show v x < z by omega)]
          dsimp only
          rw [if_pos (by omega)]
        · rw [if_neg q, hs]
theorem foldl_flat {X Y S : Type} (f : S → Y → S) (g : X → List Y) : ∀ (L : List X) (s : S), (L.flatMap g).foldl f s = L.foldl (fun s x => (g x).foldl f s) s
  | [], _ => rfl
  | x :: L, s => by rw [List.flatMap_cons, List.foldl_append, foldl_flat f g L]; rfl
theorem foldl_cg {X S : Type} {f g : S → X → S} : ∀ (L : List X) (s : S), (∀ x ∈ L, ∀ s, f s x = g s x) → L.foldl f s = L.foldl g s
  | [], _, _ => rfl
  | x :: L, s, h => by rw [List.foldl_cons, List.foldl_cons, h x (by simp), foldl_cg L _ fun y hy => h y (by simp [hy])]
theorem sel_all {c : Nat → Int} {rows : List Row} {n : Nat} (hr : ∀ r ∈ rows, ∀ s ∈ r.2, 0 ≤ s) : ∀ (k : Nat) (o : List Int) (s : Option Int × Option (List Int)), Pre n o → o.length + k = n →
    (compl (upto n) k o).foldl (fun s x => bet s (ocost c rows x) x) s = bet s (ocost c rows o + least c (leftI rows) n (mask o)) (o ++ greedy c (leftI rows) n k (mask o))
  | 0, o, s, ho, hk => by
    have := ho.full (by omega)
    rw [least_full (by omega)]
    simp [compl, greedy]
  | k + 1, o, s, ho, hk => by
    obtain ⟨i, p1, p2, p3, p4, p5, p6⟩ := greedy_step (c := c) (lf := leftI rows) ho (by omega)
    have hl0 : leftS rows o = leftI rows (mask o) := (leftI_mask ho.nd (fun s hs => (ho.rg s hs).1) hr).symm
    show ((ext (upto n) o).flatMap (compl (upto n) k)).foldl _ s = _
    rw [foldl_flat]
    unfold ext
    rw [List.foldl_map, foldl_cg (g := fun s x => bet s (ocost c rows o + (c x.toNat * leftI rows (mask o) + least c (leftI rows) n (mask o + 2 ^ x.toNat))) (o ++ x :: greedy c (leftI rows) n k (mask o + 2 ^ x.toNat))) _ s fun x hx s => by
      simp only [List.mem_filter, Bool.not_eq_true', decide_eq_false_iff_not, mem_upto] at hx
      obtain ⟨j, rfl⟩ : ∃ j : Nat, x = (j : Int) := ⟨x.toNat, by omega⟩
      have hp := ho.snoc (i := j) (by omega) hx.2
      rw [sel_all hr k _ s hp (by simp; omega), ocost_snoc, mask_snoc, hl0]
      simp only [Int.toNat_natCast, List.append_assoc, List.singleton_append]
      rw [Int.add_assoc]]
    have hfind : ((upto n).filter fun x => !decide (x ∈ o)).find? (fun x => decide (ocost c rows o + (c x.toNat * leftI rows (mask o) + least c (leftI rows) n (mask o + 2 ^ x.toNat)) = ocost c rows o + least c (leftI rows) n (mask o))) = some (i : Int) := by
      rw [List.find?_filter]
      unfold upto
      rw [List.find?_map]
      have : (List.range n).find? ((fun x : Int => !decide (x ∈ o) && decide (ocost c rows o + (c x.toNat * leftI rows (mask o) + least c (leftI rows) n (mask o + 2 ^ x.toNat)) = ocost c rows o + least c (leftI rows) n (mask o))) ∘ fun i : Nat => (i : Int)) = some i := by
        rw [← p1]
        unfold pick
        congr 1
        funext j
        simp only [Function.comp_apply, Int.toNat_natCast]
        rw [← ho.bit]
        congr 1
        rw [decide_eq_decide]
        omega
      have key := congrArg (Option.map fun i : Nat => (i : Int)) this
      refine Eq.trans ?_ key
      congr 2
      funext j
      simp [Bool.and_comm]
    rw [bet_fold _ _ _ s (i : Int) hfind fun y hy => by
      simp only [List.mem_filter, Bool.not_eq_true', decide_eq_false_iff_not, mem_upto] at hy
      have hpt := ho.part (by omega)
      rw [least_step hpt]
      have hm : y.toNat ∈ frees n (mask o) := mem_frees.mpr ⟨by omega, by rw [ho.bit, show ((y.toNat : Nat) : Int) = y by omega]; exact decide_eq_false hy.2⟩
      have := minI_lb _ _ (List.mem_map_of_mem (f := fun t => c t * leftI rows (mask o) + least c (leftI rows) n (mask o + 2 ^ t)) hm)
      omega]
    simp only [Int.toNat_natCast]
    rw [p4]
    congr 2
    have e := p6
    rw [show n - o.length = k + 1 by omega, show n - (o ++ [(i : Int)]).length = k by simp; omega, mask_snoc] at e
    exact e.symm
theorem greedy_pre {c lf : Nat → Int} {n : Nat} : ∀ (k : Nat) (o : List Int), Pre n o → o.length + k = n → Pre n (o ++ greedy c lf n k (mask o)) ∧ (o ++ greedy c lf n k (mask o)).length = n
  | 0, o, h, hk => by
    rw [show greedy c lf n 0 (mask o) = [] from rfl, List.append_nil]
    exact ⟨h, by omega⟩
  | k + 1, o, h, hk => by
    obtain ⟨i, p1, p2, p3, p4, p5, p6⟩ := greedy_step (c := c) (lf := lf) h (by omega)
    rw [show n - o.length = k + 1 by omega, show n - (o ++ [(i : Int)]).length = k by simp; omega] at p6
    have := greedy_pre (c := c) (lf := lf) k _ p5 (by simp; omega)
    rw [p6]
    simpa using this
theorem greedy_cost {c : Nat → Int} {rows : List Row} {n : Nat} (hr : ∀ r ∈ rows, ∀ s ∈ r.2, 0 ≤ s) : ∀ (k : Nat) (o : List Int), Pre n o → o.length + k = n → ocost c rows (o ++ greedy c (leftI rows) n k (mask o)) = ocost c rows o + least c (leftI rows) n (mask o)
  | 0, o, h, hk => by
    rw [show greedy c (leftI rows) n 0 (mask o) = [] from rfl, List.append_nil]
    have := h.full (by omega)
    rw [least_full (by omega)]
    omega
  | k + 1, o, h, hk => by
    obtain ⟨i, p1, p2, p3, p4, p5, p6⟩ := greedy_step (c := c) (lf := leftI rows) h (by omega)
    rw [show n - o.length = k + 1 by omega, show n - (o ++ [(i : Int)]).length = k by simp; omega] at p6
    have := greedy_cost (c := c) hr k _ p5 (by simp; omega)
    rw [p6]
    rw [List.append_assoc, List.singleton_append] at this
    rw [this, ocost_snoc, mask_snoc, (leftI_mask h.nd (fun s hs => (h.rg s hs).1) hr).symm]
    omega
end MP
/-! SM5: the drawn table. -/
namespace MP
open PySem
abbrev Bx : Type := List Int × Int × Int × Int
structure Bok (m : Nat) (b : Bx) : Prop where
  i0 : 0 ≤ b.2.1
  im : b.2.1 ≤ m
  c0 : 0 ≤ b.2.2.1
  v0 : 0 ≤ b.2.2.2
  v1 : b.2.2.2 < 2147483647
theorem Bok.mono {m k : Nat} {b : Bx} (h : Bok m b) (hk : m ≤ k) : Bok k b := ⟨h.i0, by have := h.im; omega, h.c0, h.v0, h.v1⟩
theorem pow18 : powM 10 18 = .ok 1000000000000000000 := by
  have := powM_nat (a := 10) (k := 18) (by decide) (by decide)
  exact this
theorem draw_ok {m : Nat} {b : Bx} {k : Int} (hb : Bok m b) (hm : m < 2 ^ 60) (h0 : 0 < k) (h1 : k ≤ 2 ^ 64) : ∃ r b', g_law_draw b k = .ok (r, b') ∧ Bok (m + 1) b' ∧ 0 ≤ r ∧ r < k := by
  obtain ⟨ls, i, c, v⟩ := b
  obtain ⟨i0, im, c0, v0, v1⟩ := hb
  dsimp only at i0 im c0 v0 v1
  have k0 : k ≠ 0 := by omega
  have md : ∀ z : Int, modM z 2147483647 = .ok (z % 2147483647) := fun z => modM_ok (by decide)
  have mr : ∀ z : Int, 0 ≤ z % 2147483647 ∧ z % 2147483647 < 2147483647 := fun z => ⟨Int.emod_nonneg _ (by decide), Int.emod_lt_of_pos _ (by decide)⟩
  have f1 : fdivM c k = .ok (c / k) := fdivM_sm h0 (by omega)
  unfold g_law_draw
  dsimp only
  by_cases hc : c = 0
  · subst hc
    rw [if_pos (by simp)]
    have tail : ∀ z : Int, 0 ≤ z → ∃ r b', (((powM (10 : Int) (18 : Int)).bind fun x30 => M.ok (decide (z < x30))).bind fun c31 =>
        if c31 = true then
          ((((mulM v (48271 : Int)).bind fun x37 => ((modM z (2147483647 : Int)).bind fun x42 => mulM x42 (69621 : Int)).bind fun x44 => M.ok (x37 + x44)).bind fun x45 => (mulM (i + 1) (8191 : Int)).bind fun x51 => M.ok (x45 + x51)).bind fun x52 => modM x52 (2147483647 : Int)).bind fun v54 =>
          ((((mulM v54 (16807 : Int)).bind fun x60 => (mulM (i + 1) (i + 1)).bind fun x69 => M.ok (x60 + x69)).bind fun x70 => fdivM x70 (8192 : Int)).bind fun x72 => modM x72 k).bind fun x74 => M.ok (x74, (ls, i + 1, (0 : Int), v54))
        else
          (modM z k).bind fun v81 => (fdivM z k).bind fun v85 => M.ok (v81, (ls, i + 1, v85, v))) = .ok (r, b') ∧ Bok (m + 1) b' ∧ 0 ≤ r ∧ r < k := fun z z0 => by
      rw [pow18, M.bind_ok, M.bind_ok]
      by_cases hz : z < 1000000000000000000
      · rw [if_pos (decide_eq_true hz), mulM_sm (by omega) (by decide), M.bind_ok, md, M.bind_ok, mulM_sm (by have := mr z; omega) (by decide), M.bind_ok, M.bind_ok, mulM_sm (by omega) (by decide), M.bind_ok, M.bind_ok, md, M.bind_ok,
          mulM_sm (by have := mr (v * 48271 + z % 2147483647 * 69621 + (i + 1) * 8191); omega) (by decide), M.bind_ok, mulM_sm (by omega) (by omega), M.bind_ok, M.bind_ok, fdivM_sm (by decide) (by decide), M.bind_ok, modM_ok h0, M.bind_ok]
        exact ⟨_, _, rfl, ⟨by dsimp only; omega, by dsimp only; push_cast; omega, by dsimp only; omega, (mr _).1, (mr _).2⟩, Int.emod_nonneg _ k0, Int.emod_lt_of_pos _ h0⟩
      · rw [if_neg (by simpa using hz), modM_ok h0, M.bind_ok, fdivM_sm h0 (by omega), M.bind_ok]
        exact ⟨_, _, rfl, ⟨by dsimp only; omega, by dsimp only; push_cast; omega, Int.ediv_nonneg z0 (by omega), v0, v1⟩, Int.emod_nonneg _ k0, Int.emod_lt_of_pos _ h0⟩
    by_cases hi : i < ls.length
    · rw [if_pos (decide_eq_true hi)]
      have hg : getI ls i = .ok (ls[i.toNat]'(by omega)) := by
        have := getI_ok (l := ls) (i := i.toNat) (a := ls[i.toNat]'(by omega)) (by simp)
        rwa [show ((i.toNat : Nat) : Int) = i by omega] at this
      rw [hg]
      simp only [M.bind_ok]
      exact tail _ (by unfold absI; split <;> omega)
    · rw [if_neg (by simpa using hi), M.bind_ok]
      exact tail 0 (by omega)
  · rw [if_neg (by simpa using hc), modM_ok h0, M.bind_ok, f1, M.bind_ok]
    exact ⟨_, _, rfl, ⟨i0, by dsimp only; push_cast; omega, Int.ediv_nonneg c0 (by omega), v0, v1⟩, Int.emod_nonneg _ k0, Int.emod_lt_of_pos _ h0⟩
structure RawOk (costs : List Int) (rows : List Row) (n : Nat) (mr : Nat) : Prop where
  len : costs.length = n
  n1 : 1 ≤ n
  cost : ∀ c ∈ costs, 1 ≤ c ∧ c ≤ 1000
  r1 : 1 ≤ rows.length
  rm : rows.length ≤ mr
  wt : ∀ r ∈ rows, 1 ≤ r.1 ∧ r.1 ≤ 1000
  nd : ∀ r ∈ rows, r.2.Nodup
  st : ∀ r ∈ rows, ∀ s ∈ r.2, 0 ≤ s ∧ s < n
theorem pow12 : powM 2 12 = .ok 4096 := powM_nat (a := 2) (k := 12) (by decide) (by decide)
theorem table_ok {m : Nat} {b : Bx} {mt mr : Nat} {reach : Int} (hb : Bok m b) (hm : m ≤ 1000000) (ht : 1 ≤ mt ∧ mt ≤ 12) (hr : 1 ≤ mr ∧ mr ≤ 200) (hc : 1 ≤ reach ∧ reach ≤ 1000) :
    ∃ costs rows b' n, g_law_table b (mt : Int) (mr : Int) reach = .ok ((costs, rows), b') ∧ RawOk costs rows n mr ∧ n ≤ mt ∧ Bok (m + 1000) b' := by
  unfold g_law_table
  obtain ⟨r1, b1, e1, hb1, p1, q1⟩ := draw_ok hb (by omega) (show 0 < (mt : Int) by omega) (by omega)
  rw [e1]
  simp only [M.bind_ok]
  obtain ⟨n, hn⟩ : ∃ n : Nat, (1 : Int) + r1 = (n : Int) := ⟨(1 + r1).toNat, by omega⟩
  rw [hn, rngM_ok (by omega), M.bind_ok]
  obtain ⟨costs, b2, e2, l2, c2, hb2⟩ := compB_inv (f := fun (y9 : Int) (d10 : Bx) => (g_law_draw d10 reach).bind fun x15 => M.ok ((1 : Int) + x15.1, x15.2)) (fun i d => Bok i d) (fun y => 1 ≤ y ∧ y ≤ 1000) (upto n) b1 (m + 1) hb1 fun x hx i d hi hj hd => by
    rw [upto_len] at hj
    obtain ⟨r, b', e, hb', p, q⟩ := draw_ok hd (by omega) (show 0 < reach by omega) (by omega)
    rw [e]
    exact ⟨_, _, rfl, by omega, hb'⟩
  rw [upto_len] at l2 hb2
  rw [e2]
  simp only [M.bind_ok]
  obtain ⟨r3, b3, e3, hb3, p3, q3⟩ := draw_ok hb2 (by omega) (show 0 < (mr : Int) by omega) (by omega)
  rw [e3]
  simp only [M.bind_ok]
  obtain ⟨k, hk⟩ : ∃ k : Nat, (1 : Int) + r3 = (k : Int) := ⟨(1 + r3).toNat, by omega⟩
  rw [hk, rngM_ok (by omega), M.bind_ok]
  let I : Nat → List Row × Bx → Prop := fun i s => s.1.length = i ∧ (∀ r ∈ s.1, (1 ≤ r.1 ∧ r.1 ≤ 1000) ∧ r.2.Nodup ∧ ∀ x ∈ r.2, 0 ≤ x ∧ x < n) ∧ Bok (m + 1 + n + 1 + 4 * i) s.2
  obtain ⟨⟨rows, b4⟩, e4, l4, r4, hb4⟩ := loopM_inv (f := fun (y27 : Int) (s26 : List Row × Bx) =>
    (((powM (2 : Int) (12 : Int)).bind fun x31 => M.ok ((), x31, ())).bind fun g32 => g_law_draw s26.2 g32.2.1).bind fun v33 =>
    (loopM (fun (y38 : Int) (s37 : Int × List Int) =>
      ((modM s37.1 (2 : Int)).bind fun x43 => M.ok (decide (x43 = (1 : Int)))).bind fun c45 =>
      (if c45 then
        (appM s37.2 y38).bind fun l48 =>
        M.ok l48
      else
        M.ok s37.2).bind fun s49 =>
      (fdivM s37.1 (2 : Int)).bind fun v52 =>
      M.ok (v52, s49)) (upto n) (v33.1, ([] : List Int))).bind fun s53 =>
    ((g_law_draw v33.2 (2 : Int)).bind fun x57 => M.ok (decide (x57.1 = (0 : Int)), x57.2)).bind fun c59 =>
    (if c59.1 then
      ((((g_law_draw c59.2 (2 : Int)).bind fun x65 => M.ok ((1 : Int) + x65.1, x65.2)).bind fun x66 => M.ok (x66, x66.2)).bind fun x68 => M.ok (cutI s53.2 none (some x68.1.1), x68.2)).bind fun v69 =>
      M.ok (v69.1, v69.2)
    else
      M.ok (s53.2, c59.2)).bind fun s70 =>
    (((((g_law_draw s70.2 reach).bind fun x75 => M.ok ((1 : Int) + x75.1, x75.2)).bind fun x76 => M.ok (x76, s70.1.reverse, x76.2)).bind fun g78 => M.ok ((g78.1.1, g78.2.1), g78.2.2)).bind fun x79 => M.ok (x79, x79.2)).bind fun g80 =>
    (appM s26.1 g80.1.1).bind fun l81 =>
    M.ok (l81, g80.2)) I (upto k) (([] : List Row), b3) 0 ⟨rfl, by simp, hb3⟩ fun i x s hx hs => by
      have hi : i < k := by
        have := (List.getElem?_eq_some_iff.mp hx).1
        rwa [upto_len] at this
      rw [Nat.zero_add] at hs ⊢
      obtain ⟨h1, h2, h3⟩ := hs
      rw [pow12]
      simp only [M.bind_ok]
      obtain ⟨r5, b5, e5, hb5, p5, q5⟩ := draw_ok h3 (by omega) (show (0 : Int) < 4096 by omega) (by omega)
      rw [e5, M.bind_ok]
      obtain ⟨⟨nu, S⟩, e6, g1, g2, g3⟩ := loopM_inv (f := fun (y38 : Int) (s37 : Int × List Int) =>
        ((modM s37.1 (2 : Int)).bind fun x43 => M.ok (decide (x43 = (1 : Int)))).bind fun c45 =>
        (if c45 then
          (appM s37.2 y38).bind fun l48 =>
          M.ok l48
        else
          M.ok s37.2).bind fun s49 =>
        (fdivM s37.1 (2 : Int)).bind fun v52 =>
        M.ok (v52, s49)) (fun i s => s.2.Nodup ∧ (∀ x ∈ s.2, 0 ≤ x ∧ x < i) ∧ s.2.length ≤ i) (upto n) (r5, ([] : List Int)) 0 ⟨by simp, by simp, by simp⟩ fun j y s hy hs => by
          have hj : j < n := by
            have := (List.getElem?_eq_some_iff.mp hy).1
            rwa [upto_len] at this
          rw [upto_get hj] at hy
          cases hy
          rw [Nat.zero_add] at hs ⊢
          obtain ⟨a1, a2, a3⟩ := hs
          rw [modM_ok (by decide), M.bind_ok, M.bind_ok, fdivM_sm (by decide) (by decide)]
          by_cases hq : s.1 % 2 = 1
          · rw [if_pos (decide_eq_true hq), appM_ok (by omega)]
            simp only [M.bind_ok]
            refine ⟨_, rfl, ?_, fun z hz => ?_, by simp; omega⟩
            · rw [List.nodup_append]
              refine ⟨a1, by simp, fun z hz w hw => ?_⟩
              simp at hw
              subst hw
              have := a2 z hz
              omega
            · simp at hz
              rcases hz with hz | rfl
              · have := a2 z hz; push_cast; omega
              · push_cast; omega
          · rw [if_neg (by simpa using hq)]
            simp only [M.bind_ok]
            exact ⟨_, rfl, a1, fun z hz => by have := a2 z hz; push_cast; omega, by dsimp only; omega⟩
      rw [upto_len, Nat.zero_add] at g2 g3
      dsimp only at g1 g2 g3
      rw [e6, M.bind_ok]
      dsimp only
      obtain ⟨r7, b7, e7, hb7, p7, q7⟩ := draw_ok hb5 (by omega) (show (0 : Int) < 2 by omega) (by omega)
      rw [e7, M.bind_ok, M.bind_ok]
      dsimp only
      have fin : ∀ (S' : List Int) (b8 : Bx), S'.Nodup → (∀ x ∈ S', 0 ≤ x ∧ x < n) → Bok (m + 1 + n + 1 + 4 * i + 3) b8 → ∃ s', ((((((g_law_draw b8 reach).bind fun x75 => M.ok ((1 : Int) + x75.1, x75.2)).bind fun x76 => M.ok (x76, S'.reverse, x76.2)).bind fun g78 => M.ok ((g78.1.1, g78.2.1), g78.2.2)).bind fun x79 => M.ok (x79, x79.2)).bind fun g80 =>
          (appM s.1 g80.1.1).bind fun l81 => M.ok (l81, g80.2)) = .ok s' ∧ I (i + 1) s' := fun S' b8 n1 n2 hb8 => by
        obtain ⟨r9, b9, e9, hb9, p9, q9⟩ := draw_ok hb8 (by omega) (show 0 < reach by omega) (by omega)
        rw [e9]
        simp only [M.bind_ok]
        rw [appM_ok (by omega), M.bind_ok]
        refine ⟨_, rfl, by simp [h1], fun r hr => ?_, hb9.mono (by omega)⟩
        simp at hr
        rcases hr with hr | rfl
        · exact h2 r hr
        · exact ⟨⟨by dsimp only; omega, by dsimp only; omega⟩, (List.reverse_perm S').nodup_iff.mpr n1, fun x hx => n2 x (by simpa using hx)⟩
      by_cases hz : r7 = 0
      · rw [if_pos (decide_eq_true hz)]
        obtain ⟨r8, b8, e8, hb8, p8, q8⟩ := draw_ok hb7 (by omega) (show (0 : Int) < 2 by omega) (by omega)
        rw [e8]
        simp only [M.bind_ok]
        obtain ⟨z, hz⟩ : ∃ z : Nat, (1 : Int) + r8 = (z : Int) := ⟨(1 + r8).toNat, by omega⟩
        rw [hz, cutI_take]
        exact fin _ _ (g1.sublist (List.take_sublist _ _)) (fun x hx => g2 x (List.mem_of_mem_take hx)) (hb8.mono (by omega))
      · rw [if_neg (by simpa using hz)]
        simp only [M.bind_ok]
        exact fin _ _ g1 g2 (hb7.mono (by omega))
  rw [upto_len, Nat.zero_add] at l4 hb4
  dsimp only at l4 r4 hb4
  refine ⟨costs, rows, b4, n, (congrArg (fun z : M (List Row × Bx) => z.bind fun s83 => M.ok ((costs, s83.1), s83.2)) e4).trans rfl, ⟨l2, by omega, c2, by omega, by omega, fun r hr => (r4 r hr).1, fun r hr => (r4 r hr).2.1, fun r hr => (r4 r hr).2.2⟩, by omega, hb4.mono (by omega)⟩
end MP
/-! SM6: the table is made. -/
namespace MP
open PySem
/-- the table that the program makes of the drawn one -/
def tabOf (costs : List Int) (rows : List Row) (n : Nat) : Table := ⟨costs, rows.map fun r => (r.1, (upto n).filter fun i => decide (i ∈ r.2))⟩
theorem check_row_ok {w : Int} {S : List Int} {n : Nat} (hw : 1 ≤ w ∧ w ≤ 1000) (hn : n ≤ 12) (hS : ∀ s ∈ S, 0 ≤ s ∧ s < n) (hd : S.Nodup) : g_check_row (w, S) (n : Int) = .ok (w, (upto n).filter fun i => decide (i ∈ S)) := by
  unfold g_check_row
  dsimp only
  have hl : S.length ≤ n := by
    have := nodup_le S (upto n) hd fun s hs => mem_upto.mpr (hS s hs)
    rwa [upto_len] at this
  rw [if_neg (by simp; omega), loopM_run (s0 := []) (r := S) (fun i s => s = S.take i) rfl]
  · rw [M.bind_ok, rngM_ok (by omega)]
    simp only [M.bind_ok, List.map_id']
  · intro i x s hx hs
    have hi : i < S.length := (List.getElem?_eq_some_iff.mp hx).1
    obtain ⟨r1, r2⟩ := hS x (List.mem_of_getElem? hx)
    subst hs
    have hni : ¬ x ∈ S.take i := fun hm => by
      obtain ⟨k, hk⟩ := List.mem_iff_getElem?.mp hm
      rw [List.getElem?_take] at hk
      split at hk
      · rename_i hki
        have q1 := (List.getElem?_eq_some_iff.mp hk)
        have q2 := (List.getElem?_eq_some_iff.mp hx)
        have := (List.getElem_inj hd).mp (q1.2.trans q2.2.symm)
        omega
      · cases hk
    rw [if_neg (by simp [r1, r2]), if_neg (by simpa using hni), appM_ok (by rw [List.length_take]; omega), M.bind_ok]
    refine ⟨_, rfl, ?_⟩
    rw [List.take_succ, hx]
    rfl
  · intro s hs
    rw [hs, List.take_length]
theorem init_ok {costs : List Int} {rows : List Row} {n mr : Nat} (h : RawOk costs rows n mr) (hn : n ≤ 12) (hm : mr ≤ 200) : g_Table_init costs rows = .ok (tabOf costs rows n) := by
  have l1 := h.len
  have l2 := h.n1
  have l3 := h.r1
  have l4 := h.rm
  unfold g_Table_init g_check_costs
  rw [if_neg (by simp; intro e; rw [e] at l1; simp at l1; omega), if_neg (by simp; omega), loopM_fold (fun _ _ => ()) costs () fun x hx s => by
    obtain ⟨a, b⟩ := h.cost x hx
    simp [a, b]]
  simp only [M.bind_ok]
  rw [if_neg (by simp; intro e; rw [e] at l3; simp at l3), if_neg (by simp; omega), h.len, compM_map (fun r : Row => (r.1, (upto n).filter fun i => decide (i ∈ r.2))) rows fun r hr => check_row_ok (h.wt r hr) hn (h.st r hr) (h.nd r hr)]
  rfl
theorem made_ok {costs : List Int} {rows : List Row} {n mr : Nat} (h : RawOk costs rows n mr) (hn : n ≤ 12) (hm : mr ≤ 200) : g_law_made (costs, rows) = .ok (tabOf costs rows n) := by
  unfold g_law_made
  have e : (rows.map fun y8 : Row => (y8.1, y8.2)) = rows := by simp
  dsimp only
  rw [e, init_ok h hn hm]
  rfl
theorem tabOf_ok {costs : List Int} {rows : List Row} {n mr : Nat} (h : RawOk costs rows n mr) (hn : n ≤ 12) (hm : mr ≤ 200) : TabOk (tabOf costs rows n) n where
  len := h.len
  n1 := h.n1
  n12 := hn
  cost := h.cost
  r1 := by unfold tabOf; simp; exact h.r1
  r200 := by unfold tabOf; simp; have := h.rm; omega
  wt := fun r hr => by
    obtain ⟨x, hx, rfl⟩ := List.mem_map.mp hr
    exact h.wt x hx
  nd := fun r hr => by
    obtain ⟨x, hx, rfl⟩ := List.mem_map.mp hr
    exact (upto_nodup n).sublist List.filter_sublist
  st := fun r hr s hs => by
    obtain ⟨x, hx, rfl⟩ := List.mem_map.mp hr
    exact mem_upto.mp (List.mem_filter.mp hs).1
theorem tabOf_left {costs : List Int} {rows : List Row} {n mr : Nat} (h : RawOk costs rows n mr) (T : List Int) : leftS (tabOf costs rows n).rows T = leftS rows T := by
  unfold leftS tabOf wsum
  dsimp only
  rw [List.filter_map, List.map_map]
  have : (rows.filter ((fun r : Row => !(r.2.any fun s => decide (s ∈ T))) ∘ fun r : Row => (r.1, (upto n).filter fun i => decide (i ∈ r.2)))) = rows.filter fun r => !(r.2.any fun s => decide (s ∈ T)) := by
    refine List.filter_congr fun r hr => ?_
    simp only [Function.comp_apply]
    rw [Bool.eq_iff_iff]
    simp only [Bool.not_eq_true', List.any_eq_false, List.mem_filter, mem_upto, decide_eq_true_eq]
    exact ⟨fun q s hs => q s ⟨h.st r hr s hs, hs⟩, fun q s hs => q s hs.2⟩
  rw [this]
  rfl
theorem ocost_cg {c : Nat → Int} {r1 r2 : List Row} (h : ∀ T, leftS r1 T = leftS r2 T) (o : List Int) : ocost c r1 o = ocost c r2 o := by
  unfold ocost
  congr 1
  refine List.map_congr_left fun k _ => ?_
  unfold oterm
  rw [h]
theorem law_left_ok (rows : List Row) (T : List Int) : g_law_left rows T = .ok (leftS rows T) := by
  unfold g_law_left leftS wsum
  congr 4
  funext r
  rw [Bool.eq_iff_iff]
  simp [List.filter_eq_nil_iff]
end MP
/-! SM7: floor papers. -/
namespace MP
open PySem
section
variable {t : Table} {n : Nat}
theorem least_bd (h : TabOk t n) : ∀ (m I : Nat), 2 ^ n - I = m → 0 ≤ lst t n I ∧ lst t n I ≤ 200000000 * ((2 ^ n - I : Nat) : Int) := by
  intro m
  induction m using Nat.strongRecOn with
  | ind m ih =>
    intro I hm
    by_cases hI : I + 1 < 2 ^ n
    · obtain ⟨i, _, h2, h3, h4⟩ := pick_some (c := cst t) (lf := leftI t.rows) hI
      have p := Nat.two_pow_pos i
      obtain ⟨a, b⟩ := ih (2 ^ n - (I + 2 ^ i)) (by omega) (I + 2 ^ i) rfl
      obtain ⟨c1, c2⟩ := cst_bd h h2
      obtain ⟨l1, l2⟩ := leftI_bd h I
      have e1 : 0 ≤ cst t i * leftI t.rows I := Int.mul_nonneg (by omega) l1
      have e2 : cst t i * leftI t.rows I ≤ 1000 * 200000 := Int.mul_le_mul c2 l2 l1 (by decide)
      have e3 : ((2 ^ n - (I + 2 ^ i) : Nat) : Int) + 1 ≤ ((2 ^ n - I : Nat) : Int) := by omega
      unfold lst at a b ⊢
      omega
    · unfold lst
      rw [least_full hI]
      omega
theorem floor_paper_ok (h : TabOk t n) (h8 : n ≤ 8) : g_floor_paper t = .ok ((List.range (2 ^ n)).map (lst t n)) := by
  unfold g_floor_paper g_check_few
  rw [h.len, if_neg (by simp; omega), M.bind_ok, left_weights_ok h]
  simp only [M.bind_ok]
  rw [least_rests_ok h]
  rfl
theorem getI_last {f : Nat → Int} {N : Nat} (hN : 0 < N) : getI ((List.range N).map f) (-(1 : Int)) = .ok (f (N - 1)) := by
  unfold getI
  have : ixP ((List.range N).map f).length (-(1 : Int)) = some (N - 1) := by
    unfold ixP
    rw [if_neg (by omega), if_pos (by simp; omega)]
    simp
    omega
  rw [this]
  simp [show N - 1 < N by omega]
/-- is the value above what one more test costs? -/
def jbad (t : Table) (n : Nat) (f : Nat → Int) (I i : Nat) : Bool := !I.testBit i && decide (cst t i * leftI t.rows I + f (I + 2 ^ i) < f I)
theorem judge_loop (h : TabOk t n) (f : Nat → Int) {I : Nat} (hI : I < 2 ^ n) : loopO (R := Bool) (fun (y43 : Int) (s42 : Unit) =>
            ((((shrM (I : Int) y43).bind fun x46 => M.ok (Builtin.bitAnd x46 (1 : Int))).bind fun x48 => M.ok (decide (x48 = (0 : Int)))).bind fun x60 => if x60 then (getI ((List.range (2 ^ n)).map f) (I : Int)).bind fun x52 => (g_price t ((List.range (2 ^ n)).map (leftI t.rows)) ((List.range (2 ^ n)).map f) (I : Int) y43).bind fun x59 => M.ok (decide (x59 < x52)) else M.ok false).lo fun c61 =>
            if c61 then
              Lo.rt false
            else
              Lo.nx ()) (upto n) () = if (upto n).any (fun y => jbad t n f I y.toNat) then .rt false else .nx () := loopO_any _ _ _ fun y hy => by
  rw [mem_upto] at hy
  obtain ⟨i, rfl⟩ : ∃ i : Nat, y = (i : Int) := ⟨y.toNat, by omega⟩
  have hi : i < n := by omega
  change _ = if jbad t n f I i = true then Lo.rt false else Lo.nx ()
  rw [bit_is, M.bind_ok, bit_zero, M.bind_ok]
  unfold jbad
  by_cases hb : I.testBit i = true
  · rw [hb, Bool.not_true, Bool.false_and, if_neg (by simp), M.lo_ok]
  · rw [Bool.not_eq_true] at hb
    have hlt := add_lt hI hi hb
    rw [hb, Bool.not_false, if_pos rfl, getI_map hI, M.bind_ok, price_ok h (v := f (I + 2 ^ i)) hi hI (by simp [hlt]), M.bind_ok, M.lo_ok, Bool.true_and]
def jany (t : Table) (n : Nat) (f : Nat → Int) : Bool := (List.range (2 ^ n)).any fun I => (List.range n).any (jbad t n f I)
theorem judge_rows (h : TabOk t n) (f : Nat → Int) : loopO (R := Bool) (fun (y39 : Int) (s38 : Unit) =>
          (rngM 0 (n : Int)).lo fun l63 =>
          (loopO (R := Bool) (fun (y43 : Int) (s42 : Unit) =>
            ((((shrM y39 y43).bind fun x46 => M.ok (Builtin.bitAnd x46 (1 : Int))).bind fun x48 => M.ok (decide (x48 = (0 : Int)))).bind fun x60 => if x60 then (getI ((List.range (2 ^ n)).map f) y39).bind fun x52 => (g_price t ((List.range (2 ^ n)).map (leftI t.rows)) ((List.range (2 ^ n)).map f) y39 y43).bind fun x59 => M.ok (decide (x59 < x52)) else M.ok false).lo fun c61 =>
            if c61 then
              Lo.rt false
            else
              Lo.nx ()) l63 ()).sq fun s62 =>
          Lo.nx ()) (upto (2 ^ n)) () = if jany t n f then .rt false else .nx () := by
  have h12 := h.n12
  have e : jany t n f = (upto (2 ^ n)).any fun y => (upto n).any fun z => jbad t n f y.toNat z.toNat := by
    unfold jany upto
    rw [List.any_map]
    congr 1
    funext I
    simp only [Function.comp_apply, List.any_map, Int.toNat_natCast]
    rfl
  rw [e]
  refine loopO_any _ _ _ fun y hy => ?_
  rw [mem_upto] at hy
  obtain ⟨I, rfl⟩ : ∃ i : Nat, y = (i : Int) := ⟨y.toNat, by omega⟩
  change _ = if ((upto n).any fun z => jbad t n f I z.toNat) = true then Lo.rt false else Lo.nx ()
  rw [rngM_ok (by omega), M.lo_ok, judge_loop h f (by omega)]
  by_cases q : ((upto n).any fun z => jbad t n f I z.toNat) = true
  · rw [if_pos q, Lo.sq_rt]
  · rw [if_neg q, Lo.sq_nx]
theorem judge_ok (h : TabOk t n) (h8 : n ≤ 8) (f : Nat → Int) (v : Int) (h0 : ∀ I, I < 2 ^ n → 0 ≤ f I) : g_judge_floor t ((List.range (2 ^ n)).map f) v = .ok (decide (f (2 ^ n - 1) = 0) && decide (v ≤ f 0) && !jany t n f) := by
  have hp : (2 : Nat) ^ n ≤ 256 := Nat.pow_le_pow_right (by decide) h8
  have hq := Nat.two_pow_pos n
  unfold g_judge_floor g_check_few
  simp only [h.len]
  rw [if_neg (by simp; omega), M.bind_ok, shlM_ok (by omega), M.bind_ok, if_neg (by simp), if_neg (by
    simp
    intro x hx
    exact h0 x hx), getI_last hq, M.bind_ok, M.bind_ok]
  by_cases e1 : f (2 ^ n - 1) = 0
  · rw [e1]
    simp only [decide_true, Bool.not_true, Bool.false_eq_true, if_false, Bool.true_and]
    have e0 : (0 : Int) = ((0 : Nat) : Int) := rfl
    rw [show getI ((List.range (2 ^ n)).map f) (0 : Int) = .ok (f 0) from getI_map (i := 0) hq, M.bind_ok, M.bind_ok]
    by_cases e2 : f 0 < v
    · rw [if_pos (decide_eq_true e2)]
      rw [decide_eq_false (show ¬ v ≤ f 0 by omega)]
      rfl
    · rw [if_neg (by simpa using e2), left_weights_ok h, M.bind_ok, rngM_ok (by omega), M.bind_ok]
      have e := judge_rows h f
      rw [e]
      rw [decide_eq_true (show v ≤ f 0 by omega)]
      cases jany t n f <;> rfl
  · simp [e1]
theorem judge_short (h : TabOk t n) (h8 : n ≤ 8) {l : List Int} {v : Int} (hl : l.length ≠ 2 ^ n) : g_judge_floor t l v = .ok false := by
  have hne : ¬ (l.length : Int) = ((2 ^ n : Nat) : Int) := fun e => hl (by omega)
  unfold g_judge_floor g_check_few
  simp only [h.len]
  rw [if_neg (by simp; omega), M.bind_ok, shlM_ok (by omega), M.bind_ok, decide_eq_false hne, if_pos (by decide)]
theorem least_fits (h : TabOk t n) : jany t n (lst t n) = false := by
  unfold jany
  rw [List.any_eq_false]
  intro I hI
  rw [Bool.not_eq_true, List.any_eq_false]
  intro i hi
  rw [List.mem_range] at hI hi
  unfold jbad
  cases hb : I.testBit i with
  | true => simp
  | false =>
    have hlt := add_lt hI hi hb
    have p := Nat.two_pow_pos i
    have hst : lst t n I = minI _ := least_step (by omega)
    have := minI_lb _ _ (List.mem_map_of_mem (f := fun j => cst t j * leftI t.rows I + least (cst t) (leftI t.rows) n (I + 2 ^ j)) (mem_frees.mpr ⟨hi, hb⟩))
    rw [← hst] at this
    simp
    exact this
end
/-! ### the least cost of all orders behind a set -/
theorem bet_min {X : Type} (v : X → Int) (o : X → List Int) {L : List X} (hL : L ≠ []) : (L.foldl (fun s x => bet s (v x) (o x)) (none, none)).1 = some (minI (L.map v)) := by
  have hm := minI_in (L.map v) (by simpa using hL)
  obtain ⟨x, hx, e⟩ := List.mem_map.mp hm
  cases hf : L.find? fun x => decide (v x = minI (L.map v)) with
  | none =>
    rw [List.find?_eq_none] at hf
    have := hf x hx
    simp [e] at this
  | some y =>
    rw [bet_fold v o L (none, none) y hf fun z hz => minI_lb _ _ (List.mem_map_of_mem hz)]
    have := List.find?_some hf
    simp at this
    show some (v y) = _
    rw [this]
theorem compl_ne {n : Nat} : ∀ (k : Nat) (o : List Int), Pre n o → o.length + k = n → compl (upto n) k o ≠ []
  | 0, o, _, _ => by simp [compl]
  | k + 1, o, ho, hk => by
    obtain ⟨i, _, p2, p3, _, p5, _⟩ := greedy_step (c := fun _ => 0) (lf := fun _ => 0) ho (by omega)
    have ih := compl_ne k _ p5 (by simp; omega)
    intro e
    simp only [compl, List.flatMap_eq_nil_iff] at e
    refine ih (e _ ?_)
    unfold ext
    refine List.mem_map.mpr ⟨(i : Int), ?_, rfl⟩
    simp [mem_upto, p3]
    omega
theorem min_orders {c : Nat → Int} {rows : List Row} {n : Nat} (hr : ∀ r ∈ rows, ∀ s ∈ r.2, 0 ≤ s) {k : Nat} {o : List Int} (ho : Pre n o) (hk : o.length + k = n) : minI ((compl (upto n) k o).map (ocost c rows)) = ocost c rows o + least c (leftI rows) n (mask o) := by
  have a := bet_min (ocost c rows) id (compl_ne k o ho hk)
  have b := sel_all (c := c) hr k o (none, none) ho hk
  have e : (compl (upto n) k o).foldl (fun s x => bet s (ocost c rows x) (id x)) (none, none) = (compl (upto n) k o).foldl (fun s x => bet s (ocost c rows x) x) (none, none) := rfl
  rw [e, b] at a
  exact (Option.some.inj a).symm
/-- the orders of the others behind a set -/
theorem compl_rest {n : Nat} {d : List Int} : ∀ (k : Nat) (o : List Int), compl (upto n) k (d ++ o) = (compl ((upto n).filter fun x => !decide (x ∈ d)) k o).map fun x => d ++ x
  | 0, o => rfl
  | k + 1, o => by
    have e : ext (upto n) (d ++ o) = (ext ((upto n).filter fun x => !decide (x ∈ d)) o).map fun x => d ++ x := by
      unfold ext
      rw [List.filter_filter, List.map_map]
      have : (upto n).filter (fun x => !decide (x ∈ d ++ o)) = (upto n).filter fun a => !decide (a ∈ o) && !decide (a ∈ d) := by
        refine List.filter_congr fun x _ => ?_
        rw [Bool.eq_iff_iff]
        simp
        constructor
        · rintro ⟨a, b⟩; exact ⟨b, a⟩
        · rintro ⟨a, b⟩; exact ⟨b, a⟩
      rw [this]
      refine List.map_congr_left fun x _ => ?_
      simp
    show (ext (upto n) (d ++ o)).flatMap (compl (upto n) k) = _
    rw [e, List.flatMap_map]
    show _ = List.map _ ((ext _ o).flatMap (compl _ k))
    rw [List.map_flatMap]
    congr 1
    funext x
    exact compl_rest k x
/-- the cost of an order behind a set -/
def bcost (c : Nat → Int) (rows : List Row) (d o : List Int) : Int := ((List.range o.length).map fun k => c ((o[k]?).getD 0).toNat * leftS rows (d ++ o.take k)).sum
theorem ocost_app {c : Nat → Int} {rows : List Row} {d o : List Int} : ocost c rows (d ++ o) = ocost c rows d + bcost c rows d o := by
  unfold ocost bcost
  rw [List.length_append, List.range_add, List.map_append, List.sum_append]
  congr 1
  · congr 1
    exact List.map_congr_left fun k hk => oterm_app (List.mem_range.mp hk)
  · congr 1
    rw [List.map_map]
    refine List.map_congr_left fun k _ => ?_
    show oterm c rows (d ++ o) (d.length + k) = _
    unfold oterm
    rw [List.getElem?_append_right (by omega), List.take_append, List.take_of_length_le (show d.length ≤ d.length + k by omega)]
    simp
theorem minI_shift (a : Int) : ∀ {l : List Int}, l ≠ [] → minI (l.map fun x => a + x) = a + minI l
  | [], h => absurd rfl h
  | [x], _ => rfl
  | x :: y :: l, _ => by
    have ih := minI_shift a (l := y :: l) (by simp)
    rw [List.map_cons, minI_cons _ (by simp), minI_cons _ (by simp), ih]
    split <;> split <;> omega
theorem min_behind {c : Nat → Int} {rows : List Row} {n : Nat} (hr : ∀ r ∈ rows, ∀ s ∈ r.2, 0 ≤ s) {k : Nat} {d : List Int} (hd : Pre n d) (hk : d.length + k = n) : minI ((compl ((upto n).filter fun x => !decide (x ∈ d)) k []).map (bcost c rows d)) = least c (leftI rows) n (mask d) := by
  have h1 := min_orders (c := c) hr hd hk
  have h2 := compl_rest (n := n) (d := d) k []
  have h3 := compl_ne k d hd hk
  rw [List.append_nil] at h2
  rw [h2] at h1 h3
  rw [List.map_map] at h1
  have e : (compl ((upto n).filter fun x => !decide (x ∈ d)) k []).map (ocost c rows ∘ fun x => d ++ x) = ((compl ((upto n).filter fun x => !decide (x ∈ d)) k []).map (bcost c rows d)).map fun x => ocost c rows d + x := by
    rw [List.map_map]
    refine List.map_congr_left fun x _ => ?_
    exact ocost_app
  rw [e, minI_shift _ (by simpa using h3)] at h1
  omega
end MP
/-! the law k52 -/
namespace MP
open PySem
theorem tabOf_leftI {costs : List Int} {rows : List Row} {n mr : Nat} (hr : RawOk costs rows n mr) : leftI (tabOf costs rows n).rows = leftI rows := by
  funext I
  unfold leftI tabOf wsum
  dsimp only
  rw [List.filter_map, List.map_map]
  have : (rows.filter ((fun r : Row => r.2.all fun s => !I.testBit s.toNat) ∘ fun r : Row => (r.1, (upto n).filter fun i => decide (i ∈ r.2)))) = rows.filter fun r => r.2.all fun s => !I.testBit s.toNat := by
    refine List.filter_congr fun r hr' => ?_
    simp only [Function.comp_apply]
    rw [Bool.eq_iff_iff]
    simp only [List.all_eq_true, List.mem_filter, mem_upto, decide_eq_true_eq]
    exact ⟨fun q s hs => q s ⟨hr.st r hr' s hs, hs⟩, fun q s hs => q s hs.2⟩
  rw [this]
  rfl
theorem behind_ok {costs : List Int} {rows : List Row} {n mr : Nat} (h : RawOk costs rows n mr) (hn : n ≤ 12) (hm : mr ≤ 200) {d o : List Int} (ho : ∀ s ∈ o, 0 ≤ s ∧ s < n) (hl : o.length ≤ 12) (hd : d.length ≤ 12) : g_law_behind (costs, rows) d o = .ok (bcost (cst (tabOf costs rows n)) rows d o) := by
  have tk := tabOf_ok h hn hm
  unfold g_law_behind
  rw [rngM_ok (by omega), M.bind_ok, loopM_run (s0 := 0) (r := bcost (cst (tabOf costs rows n)) rows d o) (fun i s => s = ((List.range i).map fun k => cst (tabOf costs rows n) ((o[k]?).getD 0).toNat * leftS rows (d ++ o.take k)).sum) rfl]
  · rfl
  · intro i x s hx hs
    have hi : i < o.length := by
      have := (List.getElem?_eq_some_iff.mp hx).1
      rwa [upto_len] at this
    rw [upto_get hi] at hx
    cases hx
    have hg : o[i]? = some o[i] := by simp [hi]
    obtain ⟨r1, r2⟩ := ho _ (List.mem_of_getElem? hg)
    have hc := cst_get tk (i := o[i].toNat) (by omega)
    have b1 := cst_bd tk (i := o[i].toNat) (by omega)
    have b2 := leftS_bd tk (d ++ o.take i)
    rw [tabOf_left h] at b2
    dsimp only
    rw [getI_ok hg, M.bind_ok, show o[i] = ((o[i].toNat : Nat) : Int) by omega, getI_ok (show costs[o[i].toNat]? = some _ from hc), M.bind_ok, cutT_take hi]
    simp only [M.bind_ok]
    rw [catM_ok (by rw [List.length_take]; omega)]
    simp only [M.bind_ok]
    rw [law_left_ok, M.bind_ok, mulM_sm (by omega) (by omega)]
    simp only [M.bind_ok]
    refine ⟨_, rfl, ?_⟩
    rw [hs, List.range_succ, List.map_append, List.sum_append]
    congr 1
    simp [hg]
  · intro s hs
    rw [hs, upto_len]
    rfl
/-- the tests of a set, ascending -/
def setOf (n I : Nat) : List Int := (upto n).filter fun y => I.testBit y.toNat
theorem setOf_pre (n I : Nat) : Pre n (setOf n I) := ⟨(upto_nodup n).sublist List.filter_sublist, fun s hs => mem_upto.mp (List.mem_filter.mp hs).1⟩
theorem setOf_mask {n I : Nat} (hI : I < 2 ^ n) : mask (setOf n I) = I := Nat.eq_of_testBit_eq fun i => by
  rw [(setOf_pre n I).bit]
  unfold setOf
  by_cases hi : i < n
  · have : ((i : Int) ∈ (upto n).filter fun y => I.testBit y.toNat) ↔ I.testBit i = true := by
      simp [mem_upto, hi]
    cases hb : I.testBit i with
    | true => exact decide_eq_true (this.mpr hb)
    | false => exact decide_eq_false fun q => by rw [this.mp q] at hb; cases hb
  · rw [Nat.testBit_lt_two_pow (Nat.lt_of_lt_of_le hI (Nat.pow_le_pow_right (by decide) (by omega)))]
    refine decide_eq_false fun q => ?_
    have := mem_upto.mp (List.mem_filter.mp q).1
    omega
theorem len_split {X : Type} (p : X → Bool) : ∀ l : List X, (l.filter p).length + (l.filter fun x => !p x).length = l.length
  | [] => rfl
  | x :: l => by
    have ih := len_split p l
    cases h : p x <;> simp [h] <;> omega
theorem rest_len {n : Nat} {d : List Int} (h : Pre n d) : d.length + ((upto n).filter fun x => !decide (x ∈ d)).length = n := by
  have e1 : ((upto n).filter fun x => decide (x ∈ d)).Perm d := (List.perm_ext_iff_of_nodup ((upto_nodup n).sublist List.filter_sublist) h.nd).mpr fun x => by
    simp only [List.mem_filter, mem_upto, decide_eq_true_eq]
    exact ⟨fun q => q.2, fun q => ⟨h.rg x q, q⟩⟩
  have e2 := len_split (fun x => decide (x ∈ d)) (upto n)
  rw [upto_len, e1.length_eq] at e2
  omega
theorem due_ok {costs : List Int} {rows : List Row} {n mr : Nat} (h : RawOk costs rows n mr) (hn : n ≤ 5) (hm : mr ≤ 200) : g_law_due (costs, rows) = .ok ((List.range (2 ^ n)).map (lst (tabOf costs rows n) n)) := by
  have hp : (2 : Nat) ^ n ≤ 32 := Nat.pow_le_pow_right (by decide) hn
  have hr0 : ∀ r ∈ rows, ∀ s ∈ r.2, 0 ≤ s := fun r hr s hs => (h.st r hr s hs).1
  unfold g_law_due
  simp only [h.len]
  rw [show powM (2 : Int) (5 : Int) = .ok ((32 : Nat) : Int) from powM_nat (a := 2) (k := 5) (by decide) (by decide)]
  simp only [M.bind_ok]
  rw [rngM_ok (by decide), M.bind_ok, loopM_run (s0 := []) (r := (List.range (2 ^ n)).map (lst (tabOf costs rows n) n)) (fun i s => s = (List.range (min i (2 ^ n))).map (lst (tabOf costs rows n) n)) (by simp)]
  · rfl
  · intro I x s hx hs
    have hI : I < 32 := by
      have := (List.getElem?_eq_some_iff.mp hx).1
      rwa [upto_len] at this
    rw [upto_get hI] at hx
    cases hx
    rw [shlM_ok (by omega), M.bind_ok, M.bind_ok]
    by_cases hlt : I < 2 ^ n
    · rw [if_pos (decide_eq_true (by omega)), rngM_ok (by omega), M.bind_ok, compM_filter (fun y : Int => I.testBit y.toNat) (fun y => y) (upto n) (fun y hy => by
        rw [mem_upto] at hy
        obtain ⟨i, rfl⟩ : ∃ i : Nat, y = (i : Int) := ⟨y.toNat, by omega⟩
        rw [bit_is, M.bind_ok, bit_one]
        rfl) fun y _ _ => rfl]
      simp only [M.bind_ok, List.map_id']
      have hd := setOf_pre n I
      have hl := rest_len hd
      have e0 : (upto n).filter (fun y : Int => I.testBit y.toNat) = setOf n I := rfl
      rw [e0, perms_ok (by omega)]
      simp only [M.bind_ok]
      rw [compM_map (bcost (cst (tabOf costs rows n)) rows (setOf n I)) _ fun o ho => by
        have hlen := compl_len _ _ _ _ ho
        simp at hlen
        have hin : ∀ s ∈ o, 0 ≤ s ∧ s < n := by
          have key : ∀ (k : Nat) (p : List Int), (∀ s ∈ p, 0 ≤ s ∧ s < n) → o ∈ compl ((upto n).filter fun x => !decide (x ∈ setOf n I)) k p → ∀ s ∈ o, 0 ≤ s ∧ s < n := by
            intro k
            induction k with
            | zero => intro p hp hm; simp [compl] at hm; subst hm; exact hp
            | succ k ih =>
              intro p hp hm
              simp only [compl, List.mem_flatMap, ext, List.mem_map, List.mem_filter, mem_upto] at hm
              obtain ⟨y, ⟨z, ⟨⟨hz1, _⟩, _⟩, rfl⟩, hm⟩ := hm
              refine ih _ (fun s hs => ?_) hm
              simp at hs
              rcases hs with hs | rfl
              · exact hp s hs
              · omega
          exact key _ [] (by simp) ho
        rw [behind_ok h (by omega) hm hin (by omega) (by omega)]
        rfl]
      have hmin := min_behind (c := cst (tabOf costs rows n)) hr0 hd hl
      have hne := compl_ne (n := n) _ _ hd hl
      have hrest := compl_rest (n := n) (d := setOf n I) ((upto n).filter fun x => !decide (x ∈ setOf n I)).length []
      rw [List.append_nil] at hrest
      rw [hrest] at hne
      have hml : minlM ((compl ((upto n).filter fun x => !decide (x ∈ setOf n I)) ((upto n).filter fun x => !decide (x ∈ setOf n I)).length []).map (bcost (cst (tabOf costs rows n)) rows (setOf n I))) = .ok (lst (tabOf costs rows n) n I) := by
        unfold minlM
        rw [if_neg (by simpa using hne), hmin, setOf_mask hlt]
        unfold lst
        rw [tabOf_leftI h]
      simp only [M.bind_ok]
      rw [hml]
      simp only [M.bind_ok]
      rw [appM_ok (by rw [hs]; simp; omega)]
      refine ⟨_, rfl, ?_⟩
      rw [hs, show min (I + 1) (2 ^ n) = I + 1 by omega, show min I (2 ^ n) = I by omega, List.range_succ, List.map_append]
      rfl
    · rw [decide_eq_false (show ¬ (I : Int) < ((2 ^ n : Nat) : Int) by omega), if_neg (by decide)]
      refine ⟨_, rfl, ?_⟩
      rw [hs, show min (I + 1) (2 ^ n) = 2 ^ n by omega, show min I (2 ^ n) = 2 ^ n by omega]
  · intro s hs
    rw [hs, upto_len, show min 32 (2 ^ n) = 2 ^ n by omega]
theorem judge_t : g_judge_floor_t = g_judge_floor := rfl
theorem law_ok (script : List Int) : ∃ b, g_law script = .ok (true, b) := by
  unfold g_law g_law_box
  rw [M.nox_ok, M.bind_ok]
  have hb0 : Bok 0 (cutI script none (some (63 : Int)), (0 : Int), (0 : Int), (7 : Int)) := ⟨by dsimp only; omega, by dsimp only; omega, by dsimp only; omega, by dsimp only; omega, by dsimp only; omega⟩
  obtain ⟨r1, b1, e1, hb1, p1, q1⟩ := draw_ok hb0 (by decide) (show (0 : Int) < 3 by decide) (by decide)
  rw [e1, M.bind_ok]
  obtain ⟨reach, e2, hreach⟩ : ∃ reach : Int, getI ([(4 : Int), (1000 : Int), (1000 : Int)]) r1 = .ok reach ∧ 1 ≤ reach ∧ reach ≤ 1000 := by
    have : r1 = ((0 : Nat) : Int) ∨ r1 = ((1 : Nat) : Int) ∨ r1 = ((2 : Nat) : Int) := by omega
    rcases this with rfl | rfl | rfl
    · exact ⟨4, getI_ok rfl, by decide, by decide⟩
    · exact ⟨1000, getI_ok rfl, by decide, by decide⟩
    · exact ⟨1000, getI_ok rfl, by decide, by decide⟩
  rw [e2]
  simp only [M.bind_ok]
  obtain ⟨costs, rows, b2, n, e3, hr, hn, hb2⟩ := table_ok (mt := 5) (mr := 12) hb1 (by omega) (by omega) (by omega) hreach
  rw [show g_law_table b1 (5 : Int) (12 : Int) reach = _ from e3, M.bind_ok]
  have tk := tabOf_ok hr (by omega) (by omega)
  have hq := Nat.two_pow_pos n
  dsimp only
  rw [made_ok hr (by omega) (by omega), M.nox_ok, M.bind_ok, due_ok hr hn (by omega), M.nox_ok, M.bind_ok, floor_paper_ok tk (by omega), M.nox_ok, M.bind_ok, cheapest_ok tk, M.nox_ok]
  have g0 : getI ((List.range (2 ^ n)).map (lst (tabOf costs rows n) n)) (0 : Int) = .ok (lst (tabOf costs rows n) n 0) := getI_map (i := 0) hq
  rw [g0]
  simp only [M.bind_ok]
  rw [if_neg (by simp), if_neg (by simp), M.bind_ok, if_neg (by simp)]
  have hbd : ∀ I, 0 ≤ lst (tabOf costs rows n) n I ∧ lst (tabOf costs rows n) n I ≤ 200000000 * ((2 ^ n - I : Nat) : Int) := fun I => least_bd tk _ I rfl
  have hp : (2 : Nat) ^ n ≤ 32 := Nat.pow_le_pow_right (by decide) hn
  have h0 := hbd 0
  obtain ⟨r5, b5, e5, hb5, p5, q5⟩ := draw_ok hb2 (by omega) (show 0 < lst (tabOf costs rows n) n 0 + 1 by omega) (by omega)
  rw [e5, M.bind_ok]
  dsimp only
  have hj : ∀ v, g_judge_floor (tabOf costs rows n) ((List.range (2 ^ n)).map (lst (tabOf costs rows n) n)) v = .ok (decide (v ≤ lst (tabOf costs rows n) n 0)) := fun v => by
    rw [judge_ok tk (by omega) _ v fun I _ => (hbd I).1, least_fits tk, show lst (tabOf costs rows n) n (2 ^ n - 1) = 0 from least_full (by omega)]
    simp
  rw [judge_t, loopO_any (fun _ => false) (false, b5) _ fun v hv => by
    have hle : v ≤ lst (tabOf costs rows n) n 0 := by
      simp at hv
      rcases hv with rfl | rfl | rfl <;> omega
    rw [hj, decide_eq_true hle, M.nox_ok, M.bind_ok, M.bind_ok]
    rfl]
  have hcut : cutI ((List.range (2 ^ n)).map (lst (tabOf costs rows n) n)) none (some (-(1 : Int))) ≠ [] → True := fun _ => trivial
  have hshort : (cutI ((List.range (2 ^ n)).map (lst (tabOf costs rows n) n)) none (some (-(1 : Int)))).length ≠ 2 ^ n := by
    have hx : HT.sIx ((List.range (2 ^ n)).map (lst (tabOf costs rows n) n)).length ((List.range (2 ^ n)).map (lst (tabOf costs rows n) n)).length (some (-(1 : Int))) = 2 ^ n - 1 := by
      unfold HT.sIx
      dsimp only
      rw [if_pos (by decide), List.length_map, List.length_range]
      omega
    unfold cutI
    rw [hx]
    simp
    omega
  rw [if_neg (by simp), Lo.thn_nx, hj, judge_short tk (by omega) hshort]
  simp only [M.nox_ok, M.bind_ok]
  rw [decide_eq_false (show ¬ lst (tabOf costs rows n) n 0 + 1 ≤ lst (tabOf costs rows n) n 0 by omega), if_neg (by decide), M.bind_ok, if_neg (by decide)]
  rw [show setI ((List.range (2 ^ n)).map (lst (tabOf costs rows n) n)) (0 : Int) (0 : Int) = .ok _ from setI_ok (i := 0) (by simp; exact hq), M.bind_ok]
  rw [hj, decide_eq_true (Int.le_refl _)]
  simp
end MP
/-! the text stands as the small language says -/
namespace MP
open PySem PySem.Spec PyProof.Rows L2
def prog : Program := PySem.Challenge.pw_cheaptests_k52_whole_floor_papers
def top (i : Nat) : Stmt := prog.main.body.getD i (.Pass ⟨0, 0, 0, 0⟩)
def inC (i j : Nat) : Stmt := match top i with
  | .ClassDef _ _ _ b _ _ _ _ _ _ _ => b.getD j (.Pass ⟨0, 0, 0, 0⟩)
  | s => s
def L : Lw where
  l := [
  ⟨"left_weights", none, top 11, [("table" : Str), ("many" : Str), ("size" : Str), ("sums" : Str), ("test" : Str), ("weight" : Str), ("stops" : Str), ("index" : Str)], F_left_weights_ea7d⟩,
  ⟨"price", none, top 12, [("table" : Str), ("lefts" : Str), ("least" : Str), ("index" : Str), ("test" : Str)], F_price_6314⟩,
  ⟨"least_rests", none, top 13, [("table" : Str), ("lefts" : Str), ("many" : Str), ("size" : Str), ("least" : Str), ("index" : Str), ("rest" : Str), ("test" : Str)], F_least_rests_670c⟩,
  ⟨"cheapest", none, top 14, [("table" : Str), ("lefts" : Str), ("least" : Str), ("order" : Str), ("index" : Str), ("test" : Str), ("free" : Str)], F_cheapest_0b4d⟩,
  ⟨"check_few", none, top 15, [("table" : Str)], F_check_few_102a⟩,
  ⟨"floor_paper", none, top 16, [("table" : Str)], F_floor_paper_c296⟩,
  ⟨"judge_floor", none, top 17, [("table" : Str), ("numbers" : Str), ("value" : Str), ("many" : Str), ("size" : Str), ("lefts" : Str), ("index" : Str), ("test" : Str), ("number" : Str)], F_judge_floor_0458⟩,
  ⟨"check_costs", none, top 22, [("costs" : Str), ("cost" : Str)], F_check_costs_5016⟩,
  ⟨"check_row", none, top 23, [("row" : Str), ("many" : Str), ("seen" : Str), ("test" : Str), ("weight" : Str), ("stops" : Str)], F_check_row_4529⟩,
  ⟨"Table", some "__init__", inC 24 0, [("self" : Str), ("costs" : Str), ("rows" : Str), ("row" : Str)], F_Table_init_e0c5⟩,
  ⟨"_law_box", none, top 26, [("_law_script" : Str)], F_law_box_eba1⟩,
  ⟨"_law_draw", none, top 27, [("_law_box_here" : Str), ("_law_limit" : Str), ("_law_value" : Str), ("_law_cell" : Str)], F_law_draw_4bf9⟩,
  ⟨"_law_table", none, top 28, [("_law_box_here" : Str), ("_law_most_tests" : Str), ("_law_most_rows" : Str), ("_law_reach" : Str), ("_law_many" : Str), ("_law_costs" : Str), ("_law_rows" : Str), ("_law_k" : Str), ("_law_number" : Str), ("_law_stops" : Str), ("_law_test" : Str)], F_law_table_03cc⟩,
  ⟨"_law_left", none, top 29, [("_law_rows" : Str), ("_law_done" : Str), ("_law_weight" : Str), ("_law_stops" : Str), ("_law_test" : Str)], F_law_left_6b46⟩,
  ⟨"_law_made", none, top 31, [("_law_table_here" : Str), ("_law_weight" : Str), ("_law_stops" : Str)], F_law_made_e7df⟩,
  ⟨"_law_perms", none, top 32, [("_law_tests" : Str), ("_law_found" : Str), ("_law_k" : Str), ("_law_longer" : Str), ("_law_order" : Str), ("_law_test" : Str)], F_law_perms_4cd7⟩,
  ⟨"_law_behind", none, top 33, [("_law_table_here" : Str), ("_law_done" : Str), ("_law_order" : Str), ("_law_total" : Str), ("_law_k" : Str)], F_law_behind_4cd3⟩,
  ⟨"_law_due", none, top 34, [("_law_table_here" : Str), ("_law_many" : Str), ("_law_due_here" : Str), ("_law_index" : Str), ("_law_done" : Str), ("_law_rest" : Str), ("_law_test" : Str), ("_law_order" : Str)], F_law_due_e19d⟩,
  ⟨"law", none, top 35, [("_law_script" : Str), ("_law_box_here" : Str), ("_law_reach" : Str), ("_law_table_here" : Str), ("_law_made_here" : Str), ("_law_due_here" : Str), ("_law_told" : Str), ("_law_less" : Str), ("_law_value" : Str)], F_law_fcf4⟩]
  cls := ["Table"]
  cons := T.cons
  kits := T.kits
  flds := T.flds
  exns := T.exns
theorem L_T : L.T = T := rfl
theorem chk_all : ∀ d ∈ L.l, d.chk L.T L.cls = true := by
  have h : (L.l.all fun d => d.chk L.T L.cls) = true := by decide +kernel
  exact fun d hd => List.all_eq_true.mp h d hd
end MP
set_option maxHeartbeats 0
/-! the head -/
namespace MP
open PySem PySem.Spec PyProof.Rows L2
abbrev R : PySem.W.OpenRow := PySem.W.OpenLaw.row PySem.Challenge.rw_cheaptests_k52_whole_floor_papers
abbrev hk : PySem.W.Hook := hookM 4 L
def ob (s : PySem.W.SharedT) : He.AlD := obsMG 4 L (HandSHeadRun.getT s)
theorem ob_eq (s : PySem.W.SharedT) : ob s = hk.obs s.abs := obsMG_eq (HandSHeadRun.getT_eq s)
def loose : List Str := ["CheapError", "BadNumber", "BadCost", "NoParts", "TooMany", "BadPlace", "DoublePlace", "OtherCosts", "left_weights", "price", "least_rests", "cheapest", "check_few", "floor_paper", "judge_floor", "check_costs", "check_row", "Table", "_law_box", "_law_draw", "_law_table", "_law_left", "_law_cost", "_law_made", "_law_perms", "_law_behind", "_law_due", "MOST_TESTS_floors", "MOST_TESTS_tables", "MOST_ROWS", "LARGEST"]
theorem run (w : World) : HandSHeadRun.RunEq R (PySem.W.view R.prog [35]) hk ob 4000 loose w := by
  intro os
  kernel_rfl
end MP
/-! the law -/
namespace MP
open PySem PySem.Spec PyProof.Rows L2
theorem pure_law : ∀ ns : List Int, ns.length ≤ 63 → (∀ z ∈ ns, Builtin.Int.intBits z ≤ 1048576) → ∃ C, runFD (cbN L.T 100) F_law_fcf4 [.p (.ro (ns.map .int))] [] = .ok (.v (.bl true)) C := by
  intro ns _ _
  obtain ⟨b, h⟩ := law_ok ns
  have z := ok_law (C0 := fun _ => True) 96 ns
  rw [h] at z
  rw [L_T]
  exact ⟨_, z⟩
end MP
open PySem PySem.W PySem.Calls PyProof.Rows
theorem PySem.Challenge.cw_cheaptests_k52_whole_floor_papers_holds : PySem.Challenge.rw_cheaptests_k52_whole_floor_papers.Holds := by
  w_on; o_law
  refine HandSHeadRun.head_any (r := OpenLaw.row PySem.Challenge.rw_cheaptests_k52_whole_floor_papers) (q := view (OpenLaw.row PySem.Challenge.rw_cheaptests_k52_whole_floor_papers).prog [35]) (H := MP.hk) (ob := MP.ob) (M := 4000) (loose := MP.loose) (d := HandSHeadRun.topDef (OpenLaw.row PySem.Challenge.rw_cheaptests_k52_whole_floor_papers).prog 35) (kwd := []) MP.ob_eq
    (by kernel_rfl) (fun s => by kernel_rfl) MP.run (by kernel_rfl) (by kernel_rfl) (by kernel_rfl) (by rfl) (by first | assumption | decide +kernel) (by decide +kernel) ⟨rfl, rfl, rfl, rfl, rfl, by decide +kernel⟩ ?hw ?hc
  case hw => w_witness2
  case hc =>
    refine MP.walk_mp (r := PySem.Challenge.rw_cheaptests_k52_whole_floor_papers) (m := 63) (k := 202) (x := "_law_script") rfl (by decide) (by kernel_rfl) ⟨rfl, by decide, by decide⟩ ?F
    intro w mg fa h Y G hmg0
    obtain ⟨K, KX, c⟩ := Y
    have hmg : mg (PySem.Str.ofString "law") = some (.ref fa) := by
      have e : (HandSHeadRun.topDef (OpenLaw.row PySem.Challenge.rw_cheaptests_k52_whole_floor_papers).prog 35).name = (PySem.Str.ofString "law") := by kernel_rfl
      rw [← e]
      exact hmg0
    exact MP.law_facts MP.chk_all (d := MP.L.l.getLast (by decide)) (List.getLast_mem _) rfl rfl KX G c hmg MP.pure_law
