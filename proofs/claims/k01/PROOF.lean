import PyProof.Rows.All
import HandS.Base
import HandS.Call
import HandS.List
import HandS.Text
import HandS.Comp
import HandS.IsInst
import HandS.Deep
import PyProof.P3In
import PyProof.ReprReads
import HandS.Words
import HandS.ForMost
import HandS.TupAny
import HandS.Style
import HandS.TupMul
import PyProof.StrOps2
import HandS.Flow
import HandS.SortInts
import HandS.TupSets
import HandS.RaiseMore
import HandS.Zip
import KE.GoesNew
import KE.GoesMore
import HandS.Defaults
import HandS.Dict
import HandS.Ends
import KE.BitLaws
import PyProof.StrLawsRepr
import OpenK.AllK
import PySem.Challenge.RW_poisonrules_k01_what_are_names
set_option Elab.async false
set_option autoImplicit false
set_option linter.all false
set_option maxRecDepth 100000
/-! PA: the plain values D, the owned ones O, the small language E, S, and what it comes to. -/
namespace Pw
open PySem

/-- data, a value without a heap; xl: a list that came from outside; fn: a def of the module; obj: an instance that changes no more -/
inductive D where
  | non | bl (b : Bool) | int (i : Int) | str (s : Str)
  | tup (xs : List D) | lst (xs : List D) | xl (xs : List D) | dic (kvs : List (D × D))
  | fn (n : Str) | obj (c : Str) (fs : List (Str × D))
/-- what a name owns alone: data, a list of data, a list of owned things, an instance -/
inductive O where
  | d (x : D) | fl (xs : List D) | ml (xs : List O) | ob (c : Str) (fs : List (Str × O))

mutual
def frz : O → D
  | .d x => x
  | .fl xs => .lst xs
  | .ml xs => .lst (frzs xs)
  | .ob c fs => .obj c (frzf fs)
def frzs : List O → List D
  | [] => []
  | x :: xs => frz x :: frzs xs
def frzf : List (Str × O) → List (Str × D)
  | [] => []
  | (n, x) :: xs => (n, frz x) :: frzf xs
end
mutual
def toPy : D → Option PyData
  | .non => some .none
  | .bl b => some (.bool b)
  | .int i => some (.int i)
  | .str s => some (.str s)
  | .tup xs => (toPys xs).map .tuple
  | .lst xs => (toPys xs).map .list
  | .xl _ => none
  | .dic _ => none
  | .fn _ => none
  | .obj _ _ => none
def toPys : List D → Option (List PyData)
  | [] => some []
  | x :: xs => match toPy x, toPys xs with
    | some a, some b => some (a :: b)
    | _, _ => none
end

abbrev Env := List (Option O)
abbrev M (α : Type) := Env → Option (α × Env)
/-- a place: a local, a field of it, an item of it -/
inductive P where
  | v (i : Nat) | f (p : P) (x : Str) | at (p : P) (k : Nat)
def subF (o : O) (x : Str) : Option O := match o with
  | .ob _ fs => fs.lookup x
  | .d (.obj _ fs) => (fs.lookup x).map .d
  | _ => none
def subA (o : O) (k : Nat) : Option O := match o with
  | .ml xs => xs[k]?
  | .fl xs => (xs[k]?).map .d
  | _ => none
def putFs (x : Str) (o : O) : List (Str × O) → List (Str × O)
  | [] => [(x, o)]
  | (y, u) :: r => if y = x then (x, o) :: r else (y, u) :: putFs x o r
def setA (o : O) (k : Nat) (u : O) : Option O := match o with
  | .ml xs => if k < xs.length then some (.ml (xs.set k u)) else none
  | .fl xs => match u with
    | .d x => if k < xs.length then some (.fl (xs.set k x)) else none
    | _ => none
  | _ => none
def setF (o : O) (x : Str) (u : O) : Option O := match o with
  | .ob c fs => some (.ob c (putFs x u fs))
  | _ => none
def getP (ρ : Env) : P → Option O
  | .v i => (ρ[i]?).join
  | .f p x => (getP ρ p).bind fun o => subF o x
  | .at p k => (getP ρ p).bind fun o => subA o k
def setP (ρ : Env) : P → O → Option Env
  | .v i, u => if i < ρ.length then some (ρ.set i (some u)) else none
  | .f p x, u => (getP ρ p).bind fun o => (setF o x u).bind fun o' => setP ρ p o'
  | .at p k, u => (getP ρ p).bind fun o => (setA o k u).bind fun o' => setP ρ p o'

/-! ### the language -/
/-- the built-ins -/
inductive Bi where
  | len | list | tuple | sum | all | any | int | repr | str | divmod | min | max | sorted
  deriving DecidableEq
/-- methods of data -/
inductive Bm where
  | join | upper | split | index | count
  deriving DecidableEq
/-- a target -/
inductive T where
  | v (i : Nat) | tup (ts : List T)
mutual
inductive E where
  | k (d : D)
  | pl (p : P) | mv (i : Nat)
  | gl (x : Str) | fn (x : Str)
  | bin (op : Operator) (a b : E)
  | neg (a : E)
  | tv (b : B)
  | and (a b : E) | or (a b : E)
  | ife (c : B) (a b : E)
  | tup (es : Es) | lst (es : Es)
  | ix (a i : E) | ixP (p : P) (i : E) | lenP (p : P)
  | sl (a : E) (lo hi : Eo) | rev (a : E)
  | call (f : Str) (es ks : Es) (names : List Str) (fill : List (Sum Nat D))
  | bi (f : Bi) (es : Es)
  | isi (a : E) (t : String)
  | lc (elt : E) (t : T) (it : I) (cond : Bo) (own : List Nat)
  | pop (p : P) | pop0 (p : P)
  | bm (m : Bm) (a : E) (es : Es)
  | dsp (kvs : List (Str × D))
  | dgetd (kvs : List (Str × D)) (a : E) (d : D)
  | sset (a : E)
  | dget (g : Str) (a : E)
  | callv (i : Nat) (es : Es)
  | new (c : Str) (es : Es)
  | meth (i : Nat) (c m : Str) (es : Es)
  | lc2 (elt : E) (t : T) (it : I) (c : Bo) (t2 : T) (it2 : I) (c2 : Bo) (own : List Nat)
inductive Es where
  | nil | cons (e : E) (es : Es) | lend (i : Nat) (es : Es)
inductive Eo where
  | none | some (e : E)
inductive B where
  | val (e : E) | not (b : B) | and (a b : B) | or (a b : B)
  | cmp (op : CmpOp) (a b : E)
  | cmpP (op : CmpOp) (p : P) (b : E)
  | cmpQ (op : CmpOp) (a : E) (p : P)
  | chain (op op' : CmpOp) (a b c : E)
inductive Bo where
  | none | some (b : B)
inductive I where
  | seq (e : E) | rng1 (a : E) | rng2 (a b : E) | zip (a b : E) | enum (a : E)
end
inductive S where
  | set (i : Nat) (e : E)
  | setT (t : T) (e : E)
  | setI (p : P) (i : E) (e : E)
  | app (p : P) (e : E)
  | ext (p : P) (e : E)
  | setF (p : P) (x : Str) (e : E)
  | ex (e : E)
  | ret (e : E) | retN
  | ifs (c : B) (a b : List S)
  | for_ (t : T) (it : I) (b : List S)
  | while_ (c : B) (b : List S)
  | pass | brk | cont | never
inductive Fl where
  | nx | bk | ct | rt (o : O)

/-! ### operations -/
def big : Nat := 16000000
def opD (op : Operator) (x y : D) : Option O := match op, x, y with
  | .Add, .int i, .int j => some (.d (.int (i + j)))
  | .Add, .str a, .str b => if a.length + b.length ≤ big then some (.d (.str (a ++ b))) else none
  | .Add, .tup a, .tup b => if a.length + b.length ≤ big then some (.d (.tup (a ++ b))) else none
  | .Add, .lst a, .lst b => if a.length + b.length ≤ big then some (.fl (a ++ b)) else none
  | .Sub, .int i, .int j => some (.d (.int (i - j)))
  | .Mult, .str a, .int j => if 2 ≤ j ∧ j ≤ 1000 ∧ 1 ≤ a.length ∧ a.length ≤ 1000 then some (.d (.str ⟨(List.replicate j.toNat a.cps).foldl (· ++ ·) #[]⟩)) else none
  | .Mult, .tup a, .int j => if 2 ≤ j ∧ j ≤ 1000 ∧ a ≠ [] ∧ a.length ≤ 1000 then some (.d (.tup (List.replicate j.toNat a).flatten)) else none
  | .Mult, .lst a, .int j => if -1000 ≤ j ∧ j ≤ 1000 ∧ a.length ≤ 1000 then some (.fl (List.replicate j.toNat a).flatten) else none
  | .Mult, .int i, .int j => if (-(2 ^ 64) < i ∧ i < 2 ^ 64) ∨ (-(2 ^ 64) < j ∧ j < 2 ^ 64) then some (.d (.int (i * j))) else none
  | .FloorDiv, .int i, .int j => if 0 < j ∧ j < 1073741824 then some (.d (.int (i / j))) else none
  | .Mod, .int i, .int j => if 0 < j then some (.d (.int (i % j))) else none
  | .Pow, .int i, .int j => if 0 ≤ j ∧ j ≤ 1000000 ∧ i.natAbs < 2 ^ 64 then some (.d (.int (i ^ j.toNat))) else none
  | .LShift, .int i, .int j => if 0 ≤ j ∧ j ≤ 1000000 ∧ i.natAbs < 2 ^ 64 then some (.d (.int (i * 2 ^ j.toNat))) else none
  | .RShift, .int i, .int j => if 0 ≤ j then some (.d (.int (i / 2 ^ j.toNat))) else none
  | .BitAnd, .int i, .int j => some (.d (.int (Builtin.bitAnd i j)))
  | .BitOr, .int i, .int j => some (.d (.int (Builtin.bitOr i j)))
  | .BitXor, .int i, .int j => some (.d (.int (Builtin.bitXor i j)))
  | _, _, _ => none
/-- ==, as the model tells it: data without dicts, not too deep -/
def eqD (x y : D) : Option Bool := match x, y with
  | .int i, .int j => some (i == j)
  | .bl i, .bl j => some (i == j)
  | .str i, .str j => some (i == j)
  | .non, .non => some true
  | _, _ => match toPy x, toPy y with
    | some a, some b => if SeqAt.shaped a && SeqAt.shaped b then some (PyData.eqv a b) else none
    | _, _ => none
/-- x in y -/
def inS (x y : Str) : Bool := match x.cps.toList with
  | [c] => decide (c ∈ y.cps.toList)
  | _ => !(Builtin.Str.occurrences y x 0 y.length 1).isEmpty
def inP (x : D) (ys : List D) : Option Bool := match toPy x, toPys ys with
  | some a, some bs => if SeqAt.shaped a && SeqAt.shaped (.list bs) then some (bs.any fun z => PyData.eqv z a) else none
  | _, _ => none
def inD (x y : D) : Option Bool := match y with
  | .str t => match x with
    | .str s => some (inS s t)
    | _ => none
  | .lst ys => inP x ys
  | .tup ys => inP x ys
  | _ => none
def cmpD (op : CmpOp) (x y : D) : Option Bool := match op, x, y with
  | .Eq, x, y => eqD x y
  | .NotEq, x, y => (eqD x y).map (!·)
  | .Lt, .int i, .int j => some (decide (i < j))
  | .LtE, .int i, .int j => some (decide (i ≤ j))
  | .Gt, .int i, .int j => some (decide (j < i))
  | .GtE, .int i, .int j => some (decide (j ≤ i))
  | .Is, x, .non => some (match x with | .non => true | _ => false)
  | .IsNot, x, .non => some (match x with | .non => false | _ => true)
  | .Is, .bl a, .bl b => some (decide (a = b))
  | .IsNot, .bl a, .bl b => some (!decide (a = b))
  | .In, x, y => inD x y
  | .NotIn, x, y => (inD x y).map (!·)
  | _, _, _ => none
def tru (x : D) : Option Bool := match x with
  | .non => some false
  | .bl b => some b
  | .int i => some (i != 0)
  | .str s => if s.length ≤ big then some (s.length != 0) else none
  | .tup xs => some (!xs.isEmpty)
  | .lst xs => some (!xs.isEmpty)
  | _ => none
def ixD (x : D) (i : Int) : Option D := match x with
  | .lst xs => L2.atI xs i
  | .tup xs => L2.atI xs i
  | .str s => if s.length ≤ big then (L2.atI s.cps.toList i).map fun c => .str ⟨#[c]⟩ else none
  | _ => none
/-- of what a name owns, an item that is data -/
def ixO (o : O) (i : Int) : Option D := match o with
  | .d x => ixD x i
  | .fl xs => L2.atI xs i
  | .ml xs => match L2.atI xs i with
    | some (.d x) => some x
    | _ => none
  | _ => none
def ixI (x y : D) : Option O := match y with
  | .int i => (ixD x i).map .d
  | _ => none
def ixOI (x : O) (y : D) : Option D := match y with
  | .int i => ixO x i
  | _ => none
def lenO (o : O) : Option Int := match o with
  | .d (.lst a) => some a.length
  | .d (.tup a) => some a.length
  | .d (.xl a) => some a.length
  | .d (.str a) => if a.length ≤ big then some a.length else none
  | .fl a => some a.length
  | .ml a => some a.length
  | _ => none
def cutL {α : Type} (xs : List α) (lo hi : Option Int) : List α := (xs.drop (HT.sIx xs.length 0 lo)).take (HT.sIx xs.length xs.length hi - HT.sIx xs.length 0 lo)
def slD (x : D) (lo hi : Option Int) : Option O := match x with
  | .lst xs => some (.fl (cutL xs lo hi))
  | .xl xs => some (.fl (cutL xs lo hi))
  | .tup xs => some (.d (.tup (cutL xs lo hi)))
  | .str s => if s.length ≤ big then some (.d (.str (L2.cutS s lo hi))) else none
  | _ => none
def revD (x : D) : Option O := match x with
  | .lst xs => some (.fl xs.reverse)
  | _ => none
def intsD : List D → Option (List Int)
  | [] => some []
  | .int i :: r => (intsD r).map (i :: ·)
  | _ => none
def boolsD : List D → Option (List Bool)
  | [] => some []
  | .bl i :: r => (boolsD r).map (i :: ·)
  | _ => none
/-- a text's signs -/
def signs (s : Str) : List D := s.cps.toList.map fun c => .str ⟨#[c]⟩
def items (x : D) : Option (List D) := match x with
  | .lst xs => some xs
  | .tup xs => some xs
  | .str s => if s.cps.size ≤ big then some (signs s) else none
  | _ => none
def strsD : List D → Option (List Str)
  | [] => some []
  | .str i :: r => (strsD r).map (i :: ·)
  | _ => none
def rowsD : List D → Option (List (List Int))
  | [] => some []
  | .tup x :: r => match intsD x, rowsD r with
    | some a, some b => some (a :: b)
    | _, _ => none
  | _ => none
/-- rows of numbers, as they rise -/
def lexLt : List Int → List Int → Bool
  | [], [] => false
  | [], _ :: _ => true
  | _ :: _, [] => false
  | a :: x, b :: y => if a = b then lexLt x y else decide (a < b)
def srtIn {α : Type} (lt : α → α → Bool) (x : α) : List α → List α
  | [] => [x]
  | y :: r => if lt y x then y :: srtIn lt x r else x :: y :: r
def srt {α : Type} (lt : α → α → Bool) : List α → List α
  | [] => []
  | x :: r => srtIn lt x (srt lt r)
def rowD (r : List Int) : D := .tup (r.map .int)
/-- sorted(xs) -/
def sortD (xs : List D) : Option O := match intsD xs with
  | some ns => if ns.length ≤ big then some (.fl ((srt (fun a b => decide (a < b)) ns).map .int)) else none
  | none => match rowsD xs with
    | some rs => if rs.length ≤ big ∧ rs.all (fun r => !r.isEmpty) = true then some (.fl ((srt lexLt rs).map rowD)) else (if rs.length < 2 then some (.fl (rs.map rowD)) else none)
    | none => none
/-- sorted(set(xs)) -/
def ssetD (xs : List D) : Option O := match rowsD xs with
  | some rs => if rs.length < 60 ∧ rs.all (fun r => !r.isEmpty) = true then some (.fl ((srt lexLt rs.eraseDups).map rowD)) else none
  | none => none
/-- repr(x) -/
def scal : D → Option PyData
  | .non => some .none
  | .bl b => some (.bool b)
  | .int i => some (.int i)
  | .str s => some (.str s)
  | _ => none
def dicP : List (D × D) → Option (List (PyData × PyData))
  | [] => some []
  | (k, v) :: r => match scal k, scal v, dicP r with
    | some a, some b, some l => some ((a, b) :: l)
    | _, _, _ => none
def reprK (kvs : List (D × D)) : Option O := match dicP kvs with
  | some l => if PyData.showableKv l = true ∧ (PyData.shown (.dict l)).length ≤ big then some (.d (.str (PyData.shown (.dict l)))) else none
  | none => none
def reprP (x : D) : Option O := match toPy x with
  | some p => if SeqAt.shaped p = true ∧ p.showable = true ∧ p.shown.length ≤ big then some (.d (.str p.shown)) else none
  | none => none
def reprD (x : D) : Option O := match x with
  | .dic kvs => reprK kvs
  | x => reprP x
def strsOf (x : D) : Option (List Str) := match x with
  | .lst xs => strsD xs
  | .tup xs => strsD xs
  | _ => none
def bmD (m : Bm) (x : D) (ys : List D) : Option O := match m, x, ys with
  | .join, .str a, [y] => match strsOf y with
    | some bs => if (bs.map (·.length)).sum + bs.length * a.length ≤ big then some (.d (.str (Txt.join a bs))) else none
    | none => none
  | .upper, .str a, [] => if a.length ≤ 5000000 then some (.d (.str (Txt.upper a))) else none
  | _, _, _ => none
def tupOf (x : D) : Option (List D) := match x with
  | .tup xs => some xs
  | _ => none
def biD (f : Bi) (xs : List D) : Option O := match f with
  | .len => match xs with
    | [.lst a] => some (.d (.int a.length))
    | [.tup a] => some (.d (.int a.length))
    | [.str a] => if a.length ≤ big then some (.d (.int a.length)) else none
    | _ => none
  | .list => match xs with
    | [.lst a] => some (.fl a)
    | [.xl a] => some (.fl a)
    | [.tup a] => some (.fl a)
    | _ => none
  | .tuple => match xs with
    | [.lst a] => some (.d (.tup a))
    | [.tup a] => some (.d (.tup a))
    | _ => none
  | .sum => match xs with
    | [.lst a] => (intsD a).map fun ns => .d (.int ns.sum)
    | _ => none
  | .all => match xs with
    | [.lst a] => (boolsD a).map fun ns => .d (.bl (ns.all id))
    | _ => none
  | .any => match xs with
    | [.lst a] => (boolsD a).map fun ns => .d (.bl (ns.any id))
    | _ => none
  | .int => match xs with
    | [.int a] => some (.d (.int a))
    | [.bl a] => some (.d (.int (if a then 1 else 0)))
    | _ => none
  | .repr => match xs with
    | [x] => reprD x
    | _ => none
  | .str => match xs with
    | [.str a] => some (.d (.str a))
    | [.int i] => if i.natAbs.log2 < 1900 then some (.d (.str (toString i))) else none
    | _ => none
  | .divmod => match xs with
    | [.int a, .int b] => if 0 < b ∧ b < 1073741824 then some (.d (.tup [.int (a / b), .int (a % b)])) else none
    | _ => none
  | .min => none
  | .max => none
  | .sorted => match xs with
    | [.lst a] => sortD a
    | _ => none
def tyOf (d : D) : Option String := match d with
  | .non => some "NoneType"
  | .bl _ => some "bool"
  | .int _ => some "int"
  | .str _ => some "str"
  | .tup _ => some "tuple"
  | .lst _ => some "list"
  | .dic _ => some "dict"
  | _ => none
def isiTs : List String := ["bool", "int", "str", "tuple", "list"]
def isiD (x : D) (t : String) : Option Bool := if isiTs.contains t then (tyOf x).bind fun s => L2.kitB s t else none

/-! ### what E and S come to -/
mutual
def bindT : T → D → Env → Option Env
  | .v i, x, ρ => if i < ρ.length then some (ρ.set i (some (.d x))) else none
  | .tup ts, x, ρ => match tupOf x with
    | some xs => bindTs ts xs ρ
    | none => none
def bindTs : List T → List D → Env → Option Env
  | [], [], ρ => some ρ
  | t :: ts, x :: xs, ρ => (bindT t x ρ).bind (bindTs ts xs)
  | _, _, _ => none
end
def wipeE (ρ : Env) : List Nat → Env
  | [] => ρ
  | i :: is => (wipeE ρ is).set i none
/-- the block's own names as they were ahead of it: data or nothing -/
def plainAt (ρ : Env) (is : List Nat) : Bool := is.all fun i => match (ρ[i]?).join with
  | none => true
  | some (.d _) => true
  | _ => false
def backE (ρ0 ρ : Env) : List Nat → Env
  | [] => ρ
  | i :: is => (backE ρ0 ρ is).set i ((ρ0[i]?).join)
def rngL (a : Int) : Nat → List D
  | 0 => []
  | n + 1 => .int a :: rngL (a + 1) n
def rngD (a b : Int) : Option (List D) := if -1000000 ≤ a ∧ a ≤ 1000000 ∧ -1000000 ≤ b ∧ b ≤ 1000000 then some (rngL a (b - a).toNat) else none
/-- what a call is handed: things, or locals that are lent -/
abbrev Arg := Sum O Nat
def takeArgs : List Arg → M (List O)
  | [], ρ => some ([], ρ)
  | .inl o :: r, ρ => match takeArgs r ρ with
    | some (os, ρ') => some (o :: os, ρ')
    | none => none
  | .inr i :: r, ρ => match (ρ[i]?).join with
    | some o => match takeArgs r (ρ.set i none) with
      | some (os, ρ') => some (o :: os, ρ')
      | none => none
    | none => none
def giveBack : List Arg → List O → Env → Option Env
  | [], [], ρ => some ρ
  | .inl _ :: r, os, ρ => giveBack r os ρ
  | .inr i :: r, o :: os, ρ => giveBack r os (ρ.set i (some o))
  | _, _, _ => none
def fillArgs (vs : List Arg) : List (Sum Nat D) → Option (List Arg)
  | [] => some []
  | .inl j :: r => match vs[j]?, fillArgs vs r with
    | some a, some b => some (a :: b)
    | _, _ => none
  | .inr d :: r => (fillArgs vs r).map (.inl (.d d) :: ·)
/-- what the module's defs come to: the arguments in the parameters' order; what is handed back, and what was lent -/
abbrev Orc := Str → List O → Option (O × List O)
def lendPos : Nat → List Arg → List Nat
  | _, [] => []
  | n, .inl _ :: r => lendPos (n + 1) r
  | n, .inr _ :: r => n :: lendPos (n + 1) r
def callM (Φ : Orc) (io : List Nat) (f : Str) (vs : List Arg) : M O := fun ρ => if lendPos 0 vs = io then match takeArgs vs ρ with
  | some (os, ρ1) => match Φ f os with
    | some (o, outs) => match giveBack vs outs ρ1 with
      | some ρ2 => some (o, ρ2)
      | none => none
    | none => none
  | none => none
  else none
/-- what is handed in is data, but for what is lent -/
def frzA : Arg → Arg
  | .inl o => .inl (.d (frz o))
  | .inr i => .inr i
def callF (Φ : Orc) (io : List Nat) (f : Str) (fill : List (Sum Nat D)) (vs : List Arg) : M O := match fillArgs (vs.map frzA) fill with
    | some as => callM Φ io f as
    | none => fun _ => none
/-- a comprehension's turns -/
def lcRun (one : D → Env → Option (Option D × Env)) : List D → List D → M (List D)
  | [], acc, ρ => some (acc, ρ)
  | x :: xs, acc, ρ => match one x ρ with
    | some (some y, ρ') => lcRun one xs (acc ++ [y]) ρ'
    | some (none, ρ') => lcRun one xs acc ρ'
    | none => none

def fzM (m : M O) : M D := fun ρ => match m ρ with
  | some (o, ρ') => some (frz o, ρ')
  | none => none
def bnd {α β : Type} (m : M α) (f : α → M β) : M β := fun ρ => match m ρ with
  | some (a, ρ') => f a ρ'
  | none => none
def rtn {α : Type} (a : α) : M α := fun ρ => some (a, ρ)
def lift {α : Type} (a : Option α) : M α := fun ρ => match a with
  | some x => some (x, ρ)
  | none => none
/-- the value of a place, from here on data -/
def plM (p : P) : M O := fun ρ => match getP ρ p with
  | some (.d x) => some (.d x, ρ)
  | some o => match setP ρ p (.d (frz o)) with
    | some ρ' => some (.d (frz o), ρ')
    | none => none
  | none => none
def mvM (i : Nat) : M O := fun ρ => match (ρ[i]?).join with
  | some o => some (o, ρ.set i none)
  | none => none
/-- a list display: of data alone, or of what is owned, too -/
def isDt (o : O) : Bool := match o with | .d _ => true | _ => false
def lstO (os : List O) : O := if os.all isDt then .fl (frzs os) else .ml os
def argsO : List Arg → Option (List O)
  | [] => some []
  | .inl o :: r => (argsO r).map (o :: ·)
  | .inr _ :: _ => none
structure Gv where
  gv : Str → Option D
  isF : Str → Bool
  io : Str → List Nat
  fuel : Nat
  gd : Str → Option (List (Str × D))
  fnv : List Str
def dsKv (kvs : List (Str × D)) : List (D × D) := kvs.map fun p => (D.str p.1, p.2)
/-- two clauses: the inner lists, one behind the other -/
def lcRunL (one : D → Env → Option (List D × Env)) : List D → List D → M (List D)
  | [], acc, ρ => some (acc, ρ)
  | x :: xs, acc, ρ => match one x ρ with
    | some (ys, ρ') => lcRunL one xs (acc ++ ys) ρ'
    | none => none
def zipD : List D → List D → List D
  | x :: xs, y :: ys => .tup [x, y] :: zipD xs ys
  | _, _ => []
def enumD : Nat → List D → List D
  | _, [] => []
  | n, x :: xs => .tup [.int n, x] :: enumD (n + 1) xs
def dats (ds : List D) : List O := ds.map .d

section
variable (Φ : Orc) (G : Gv)
mutual
def ev : E → M O
  | .k d => rtn (.d d)
  | .pl p => plM p
  | .mv i => mvM i
  | .gl x => lift ((G.gv x).map .d)
  | .fn x => if G.isF x then rtn (.d (.fn x)) else fun _ => none
  | .bin op a b => bnd (fzM (ev a)) fun x => bnd (fzM (ev b)) fun y => lift (opD op x y)
  | .neg a => bnd (fzM (ev a)) fun x => match x with
    | .int i => rtn (.d (.int (-i)))
    | _ => fun _ => none
  | .tv b => bnd (evB b) fun r => rtn (.d (.bl r))
  | .and a b => bnd (fzM (ev a)) fun x => match tru x with
    | some true => ev b
    | some false => rtn (.d x)
    | none => fun _ => none
  | .or a b => bnd (fzM (ev a)) fun x => match tru x with
    | some false => ev b
    | some true => rtn (.d x)
    | none => fun _ => none
  | .ife c a b => bnd (evB c) fun t => if t then ev a else ev b
  | .tup es => bnd (evs es) fun vs => match argsO vs with
    | some os => if os.length ≤ big then rtn (.d (.tup (frzs os))) else fun _ => none
    | none => fun _ => none
  | .lst es => bnd (evs es) fun vs => match argsO vs with
    | some os => if os.length ≤ big then rtn (lstO os) else fun _ => none
    | none => fun _ => none
  | .ix a i => bnd (fzM (ev a)) fun x => bnd (fzM (ev i)) fun y => lift (ixI x y)
  | .ixP p i => fun ρ => if (getP ρ p).isSome then bnd (fzM (ev i)) (fun y => fun ρ' => match getP ρ' p with
    | some o => match ixOI o y with
      | some d => some (.d d, ρ')
      | none => none
    | none => none) ρ else none
  | .lenP p => fun ρ => match getP ρ p with
    | some o => match lenO o with
      | some n => some (.d (.int n), ρ)
      | none => none
    | none => none
  | .sl a lo hi => bnd (fzM (ev a)) fun x => bnd (evo lo) fun l => bnd (evo hi) fun h => lift (slD x l h)
  | .rev a => bnd (fzM (ev a)) fun x => lift (revD x)
  | .call f es ks names fill => bnd (evs es) fun vs => bnd (evs ks) fun ws => callF Φ (G.io f) f fill (vs ++ ws)
  | .bi f es => bnd (evs es) fun vs => match argsO vs with
    | some os => lift (biD f (frzs os))
    | none => fun _ => none
  | .isi a t => bnd (fzM (ev a)) fun x => match isiD x t with
    | some b => rtn (.d (.bl b))
    | none => fun _ => none
  | .lc elt t it cond own => bnd (evI it) fun xs => fun ρ =>
    if plainAt ρ own then
      match lcRun (fun x ρ1 => match bindT t x (wipeE ρ1 own) with
        | some ρ2 => match evW cond ρ2 with
          | some (true, ρ3) => match fzM (ev elt) ρ3 with
            | some (y, ρ4) => some (some y, ρ4)
            | none => none
          | some (false, ρ3) => some (none, ρ3)
          | none => none
        | none => none) xs [] (wipeE ρ own) with
      | some (acc, ρ') => some (.fl acc, backE ρ ρ' own)
      | none => none
    else none
  | .pop p => fun ρ => match getP ρ p with
    | some (.fl xs) => match xs.getLast? with
      | some x => match setP ρ p (.fl xs.dropLast) with
        | some ρ' => some (.d x, ρ')
        | none => none
      | none => none
    | _ => none
  | .pop0 p => fun ρ => match getP ρ p with
    | some (.fl (x :: xs)) => match setP ρ p (.fl xs) with
      | some ρ' => some (.d x, ρ')
      | none => none
    | _ => none
  | .bm m a es => bnd (fzM (ev a)) fun x => bnd (evs es) fun vs => match argsO vs with
    | some os => lift (bmD m x (frzs os))
    | none => fun _ => none
  | .dsp kvs => rtn (.d (.dic (dsKv kvs)))
  | .dgetd kvs a d => bnd (fzM (ev a)) fun y => match y with
    | .str s => rtn (.d ((kvs.lookup s).getD d))
    | _ => fun _ => none
  | .sset a => bnd (fzM (ev a)) fun x => match x with
    | .lst xs => lift (ssetD xs)
    | _ => fun _ => none
  | .dget g a => bnd (fzM (ev a)) fun y => match y, G.gd g with
    | .str s, some t => lift ((t.lookup s).map .d)
    | _, _ => fun _ => none
  | .callv i es => fun ρ => match (ρ[i]?).join with
    | some (.d (.fn n)) => bnd (evs es) (fun vs => if G.fnv.contains n then callM Φ [] n (vs.map frzA) else fun _ => none) ρ
    | _ => none
  | .new c es => bnd (evs es) fun vs => match argsO vs with
    | some os => fun ρ => match Φ (c ++ ".__init__") (.ob c [] :: dats (frzs os)) with
      | some (.d .non, [o]) => some (o, ρ)
      | _ => none
    | none => fun _ => none
  | .meth i c m es => fun ρ => match (ρ[i]?).join with
    | some (.ob c' _) => if c' = c then bnd (evs es) (fun vs => match argsO vs with
      | some os => fun ρ1 => match (ρ1[i]?).join with
        | some (.ob c2 fs) => if c2 = c then match Φ (c ++ "." ++ m) (.ob c fs :: dats (frzs os)) with
          | some (r, [o]) => some (r, ρ1.set i (some o))
          | _ => none
          else none
        | _ => none
      | none => fun _ => none) ρ else none
    | _ => none
  | .lc2 elt t it c t2 it2 c2 own => bnd (evI it) fun xs => fun ρ =>
    if plainAt ρ own then
      match lcRunL (fun x ρ1 => match bindT t x (wipeE ρ1 own) with
        | some ρ2 => match evW c ρ2 with
          | some (true, ρ3) => match evI it2 ρ3 with
            | some (ys, ρ4) => lcRun (fun y ρ5 => match bindT t2 y ρ5 with
              | some ρ6 => match evW c2 ρ6 with
                | some (true, ρ7) => match fzM (ev elt) ρ7 with
                  | some (z, ρ8) => some (some z, ρ8)
                  | none => none
                | some (false, ρ7) => some (none, ρ7)
                | none => none
              | none => none) ys [] ρ4
            | none => none
          | some (false, ρ3) => some ([], ρ3)
          | none => none
        | none => none) xs [] (wipeE ρ own) with
      | some (acc, ρ') => some (.fl acc, backE ρ ρ' own)
      | none => none
    else none
def evs : Es → M (List Arg)
  | .nil => rtn []
  | .cons e es => bnd (ev e) fun o => bnd (evs es) fun r => rtn (.inl o :: r)
  | .lend i es => fun ρ => if ((ρ[i]?).join).isSome then bnd (evs es) (fun r => rtn (.inr i :: r)) ρ else none
def evo : Eo → M (Option Int)
  | .none => rtn none
  | .some e => bnd (fzM (ev e)) fun x => match x with
    | .int i => rtn (some i)
    | _ => fun _ => none
/-- a comprehension's test -/
def evW : Bo → M Bool
  | .none => rtn true
  | .some e => evB e
def evI : I → M (List D)
  | .seq e => bnd (fzM (ev e)) fun x => lift (items x)
  | .rng1 a => bnd (fzM (ev a)) fun x => match x with
    | .int n => lift (rngD 0 n)
    | _ => fun _ => none
  | .rng2 a b => bnd (fzM (ev a)) fun x => bnd (fzM (ev b)) fun y => match x, y with
    | .int m, .int n => lift (rngD m n)
    | _, _ => fun _ => none
  | .zip a b => bnd (fzM (ev a)) fun x => bnd (fzM (ev b)) fun y => match items x, items y with
    | some xs, some ys => rtn (zipD xs ys)
    | _, _ => fun _ => none
  | .enum a => bnd (fzM (ev a)) fun x => match x with
    | .lst xs => rtn (enumD 0 xs)
    | .tup xs => rtn (enumD 0 xs)
    | _ => fun _ => none
def evB : B → M Bool
  | .val e => bnd (fzM (ev e)) fun x => lift (tru x)
  | .not a => bnd (evB a) fun b => rtn (!b)
  | .and a b => bnd (evB a) fun x => if x then evB b else rtn false
  | .or a b => bnd (evB a) fun x => if x then rtn true else evB b
  | .cmp op a b => bnd (fzM (ev a)) fun x => bnd (fzM (ev b)) fun y => lift (cmpD op x y)
  | .cmpQ op a p => bnd (fzM (ev a)) fun x => fun ρ => match getP ρ p with
    | some o => match cmpD op x (frz o) with
      | some r => some (r, ρ)
      | none => none
    | none => none
  | .cmpP op p b => fun ρ => if (getP ρ p).isSome then bnd (fzM (ev b)) (fun y => fun ρ' => match getP ρ' p with
    | some o => match cmpD op (frz o) y with
      | some r => some (r, ρ')
      | none => none
    | none => none) ρ else none
  | .chain op op' a b c => bnd (fzM (ev a)) fun x => bnd (fzM (ev b)) fun y => match cmpD op x y with
    | some true => bnd (fzM (ev c)) fun z => lift (cmpD op' y z)
    | some false => rtn false
    | none => fun _ => none
end
end

/-! ### statements -/
def forRun (body : D → M Fl) : List D → M Fl
  | [], ρ => some (.nx, ρ)
  | x :: xs, ρ => match body x ρ with
    | some (.nx, ρ') => forRun body xs ρ'
    | some (.ct, ρ') => forRun body xs ρ'
    | some (.bk, ρ') => some (.nx, ρ')
    | some (.rt o, ρ') => some (.rt o, ρ')
    | none => none
def whileRun (c : M Bool) (body : M Fl) : Nat → M Fl
  | 0, _ => none
  | n + 1, ρ => match c ρ with
    | some (true, ρ1) => match body ρ1 with
      | some (.nx, ρ') => whileRun c body n ρ'
      | some (.ct, ρ') => whileRun c body n ρ'
      | some (.bk, ρ') => some (.nx, ρ')
      | some (.rt o, ρ') => some (.rt o, ρ')
      | none => none
    | some (false, ρ1) => some (.nx, ρ1)
    | none => none
/-- p[i] = x -/
def putAt (o : O) (i : Int) (x : D) : Option O := match o with
  | .fl xs => (L2.ixN xs.length i).map fun j => .fl (xs.set j x)
  | .ml xs => (L2.ixN xs.length i).map fun j => .ml (xs.set j (.d x))
  | _ => none
def isFl (o : Option O) : Bool := match o with
  | some (.fl _) => true
  | _ => false
section
variable (Φ : Orc) (G : Gv)
mutual
def exS : S → M Fl
  | .set i e => bnd (ev Φ G e) fun o => fun ρ => if i < ρ.length then some (.nx, ρ.set i (some o)) else none
  | .setT t e => bnd (fzM (ev Φ G e)) fun x => fun ρ => match bindT t x ρ with
    | some ρ' => some (.nx, ρ')
    | none => none
  | .setI p i e => bnd (fzM (ev Φ G e)) fun x => fun ρ => if (getP ρ p).isSome then bnd (fzM (ev Φ G i)) (fun y => fun ρ' => match y, getP ρ' p with
    | .int j, some o => match putAt o j x with
      | some o' => match setP ρ' p o' with
        | some ρ2 => some (.nx, ρ2)
        | none => none
      | none => none
    | _, _ => none) ρ else none
  | .app p e => fun ρ => if isFl (getP ρ p) then bnd (fzM (ev Φ G e)) (fun x => fun ρ' => match getP ρ' p with
    | some (.fl xs) => if xs.length < big then match setP ρ' p (.fl (xs ++ [x])) with
        | some ρ2 => some (.nx, ρ2)
        | none => none
      else none
    | _ => none) ρ else none
  | .ext p e => fun ρ => if isFl (getP ρ p) then bnd (fzM (ev Φ G e)) (fun x => fun ρ' => match getP ρ' p, x with
    | some (.fl xs), .lst ys => if xs.length + ys.length < big then match setP ρ' p (.fl (xs ++ ys)) with
        | some ρ2 => some (.nx, ρ2)
        | none => none
      else none
    | some (.fl xs), .tup ys => if xs.length + ys.length < big then match setP ρ' p (.fl (xs ++ ys)) with
        | some ρ2 => some (.nx, ρ2)
        | none => none
      else none
    | _, _ => none) ρ else none
  | .setF p x e => bnd (ev Φ G e) fun o => fun ρ => match getP ρ p with
    | some (.ob c fs) => if fs.length < 900 then match setP ρ p (.ob c (putFs x o fs)) with
        | some ρ2 => some (.nx, ρ2)
        | none => none
      else none
    | _ => none
  | .ex e => bnd (ev Φ G e) fun _ => rtn .nx
  | .ret e => bnd (ev Φ G e) fun o => rtn (.rt o)
  | .retN => rtn (.rt (.d .non))
  | .ifs c a b => bnd (evB Φ G c) fun t => if t then exSs a else exSs b
  | .for_ t it b => bnd (evI Φ G it) fun xs => forRun (fun x ρ => match bindT t x ρ with
    | some ρ' => exSs b ρ'
    | none => none) xs
  | .while_ c b => whileRun (evB Φ G c) (exSs b) G.fuel
  | .pass => rtn .nx
  | .brk => rtn .bk
  | .cont => rtn .ct
  | .never => fun _ => none
def exSs : List S → M Fl
  | [] => rtn .nx
  | s :: r => bnd (exS s) fun f => match f with
    | .nx => exSs r
    | f => rtn f
end
end
/-- a def: how many parameters, how many names, which parameters are lent, its body -/
structure Fd where
  np : Nat
  nl : Nat
  io : List Nat
  body : List S
def outsOf (ρ : Env) : List Nat → Option (List O)
  | [] => some []
  | i :: r => match (ρ[i]?).join, outsOf ρ r with
    | some o, some os => some (o :: os)
    | _, _ => none
def start (n : Nat) (os : List O) : Env := os.map some ++ List.replicate (n - os.length) none
def runFd (Φ : Orc) (G : Gv) (f : Fd) (os : List O) : Option (O × List O) :=
  if os.length = f.np then match exSs Φ G f.body (start f.nl os) with
    | some (.rt o, ρ) => match outsOf ρ f.io with
      | some outs => some (o, outs)
      | none => none
    | some (.nx, ρ) => match outsOf ρ f.io with
      | some outs => some (.d .non, outs)
      | none => none
    | _ => none
  else none
def run (tab : Str → Option Fd) (G : Gv) : Nat → Orc
  | 0, _, _ => none
  | k + 1, f, os => match tab f with
    | some fd => runFd (run tab G k) G fd os
    | none => none
end Pw

/-! PB: how the plain values lie in the abstract heap; what is owned; steps. -/
namespace Pw
open PySem PySem.Spec PyProof.Rows L2

structure Wd where
  K : PySem.W.Frag
  fa : Str → Option Addr
  ca : Str → Option Addr

def Sub (F H : Hp) : Prop := ∀ b o, F b = some o → H b = some o
theorem Sub.refl (F : Hp) : Sub F F := fun _ _ h => h
theorem Sub.trans {F G H : Hp} (a : Sub F G) (b : Sub G H) : Sub F H := fun x o h => b x o (a x o h)
theorem Sub.no {F H : Hp} (a : Sub F H) {b : Addr} (h : H b = none) : F b = none := by
  cases q : F b with
  | none => rfl
  | some o => rw [a b o q] at h; cases h
theorem Sub.new {F : Hp} {p : Addr} {o : HO} (h : F p = none) : Sub F (upd F p o) := fun b u e => by
  rw [upd_ne (ne_of_none e h)]; exact e
theorem Sub.upd2 {F H : Hp} {p : Addr} {o : HO} (s : Sub F H) : Sub (upd F p o) (upd H p o) := fun b u e => by
  by_cases hb : b = p
  · subst hb; rw [upd_same] at e ⊢; exact e
  · rw [upd_ne hb] at e ⊢; exact s b u e
theorem Sub.rd {F H : Hp} (s : Sub F H) {a : Addr} {u : HO} (h : Rd F a u) : Rd H a u := by
  rcases h with h | ⟨o, h⟩
  · exact .inl (s _ _ h)
  · exact .inr ⟨o, s _ _ h⟩
theorem Sub.sqL {F H : Hp} (s : Sub F H) {K : PySem.W.Frag} {a : Addr} {xs : List V} (h : SqL K F a xs) : SqL K H a xs := by
  rcases h with h | h
  · exact .inl (s.rd h)
  · exact .inr h
theorem Sub.sqT {F H : Hp} (s : Sub F H) {K : PySem.W.Frag} {a : Addr} {xs : List V} (h : SqT K F a xs) : SqT K H a xs := by
  rcases h with h | h
  · exact .inl (s.rd h)
  · exact .inr h

def keyD : Key → D
  | .inl i => .int i
  | .inr s => .str s
mutual
inductive Rp (G : Wd) (F : Hp) : V → D → Prop
  | non : Rp G F .non .non
  | bl (b : Bool) : Rp G F (.bl b) (.bl b)
  | int (i : Int) : Rp G F (.int i) (.int i)
  | str (s : Str) : Rp G F (.str s) (.str s)
  | tup {a : Addr} {vs : List V} {ds : List D} : SqT G.K F a vs → RpA G F vs ds → Rp G F (.ref a) (.tup ds)
  | lst {a : Addr} {vs : List V} {ds : List D} : F a = some (.lst vs) → RpA G F vs ds → Rp G F (.ref a) (.lst ds)
  | xl {a : Addr} {vs : List V} {ds : List D} : SqL G.K F a vs → RpA G F vs ds → Rp G F (.ref a) (.xl ds)
  | fn {n : Str} {a : Addr} : G.fa n = some a → Rp G F (.ref a) (.fn n)
  | dic {a : Addr} {kvs : List (Key × V)} {ds : List (D × D)} : F a = some (.dK kvs) → RpK G F kvs ds → Rp G F (.ref a) (.dic ds)
  | obj {c : Str} {C a dx : Addr} {fs : List (Str × V)} {ds : List (Str × D)} : G.ca c = some C → F a = some (.ins C dx fs) → RpF G F fs ds → Rp G F (.ref a) (.obj c ds)
inductive RpA (G : Wd) (F : Hp) : List V → List D → Prop
  | nil : RpA G F [] []
  | cons {v : V} {d : D} {vs : List V} {ds : List D} : Rp G F v d → RpA G F vs ds → RpA G F (v :: vs) (d :: ds)
inductive RpF (G : Wd) (F : Hp) : List (Str × V) → List (Str × D) → Prop
  | nil : RpF G F [] []
  | cons {n : Str} {v : V} {d : D} {vs : List (Str × V)} {ds : List (Str × D)} : Rp G F v d → RpF G F vs ds → RpF G F ((n, v) :: vs) ((n, d) :: ds)
inductive RpK (G : Wd) (F : Hp) : List (Key × V) → List (D × D) → Prop
  | nil : RpK G F [] []
  | cons {k : Key} {v : V} {d : D} {vs : List (Key × V)} {ds : List (D × D)} : Rp G F v d → RpK G F vs ds → RpK G F ((k, v) :: vs) ((keyD k, d) :: ds)
end
section
variable {G : Wd} {F F' H H' : Hp}
mutual
theorem Rp.mono (s : Sub F F') : ∀ {v : V} {d : D}, Rp G F v d → Rp G F' v d
  | _, _, .non => .non
  | _, _, .bl b => .bl b
  | _, _, .int i => .int i
  | _, _, .str x => .str x
  | _, _, .tup h r => .tup (s.sqT h) (RpA.mono s r)
  | _, _, .lst h r => .lst (s _ _ h) (RpA.mono s r)
  | _, _, .xl h r => .xl (s.sqL h) (RpA.mono s r)
  | _, _, .fn h => .fn h
  | _, _, .dic h r => .dic (s _ _ h) (RpK.mono s r)
  | _, _, .obj h q r => .obj h (s _ _ q) (RpF.mono s r)
theorem RpA.mono (s : Sub F F') : ∀ {v : List V} {d : List D}, RpA G F v d → RpA G F' v d
  | _, _, .nil => .nil
  | _, _, .cons h r => .cons (Rp.mono s h) (RpA.mono s r)
theorem RpF.mono (s : Sub F F') : ∀ {v : List (Str × V)} {d : List (Str × D)}, RpF G F v d → RpF G F' v d
  | _, _, .nil => .nil
  | _, _, .cons h r => .cons (Rp.mono s h) (RpF.mono s r)
theorem RpK.mono (s : Sub F F') : ∀ {v : List (Key × V)} {d : List (D × D)}, RpK G F v d → RpK G F' v d
  | _, _, .nil => .nil
  | _, _, .cons h r => .cons (Rp.mono s h) (RpK.mono s r)
end
theorem RpA.length : ∀ {vs : List V} {ds : List D}, RpA G F vs ds → vs.length = ds.length
  | _, _, .nil => rfl
  | _, _, .cons _ r => congrArg (· + 1) r.length
theorem RpA.get : ∀ {vs : List V} {ds : List D} {i : Nat} {d : D}, RpA G F vs ds → ds[i]? = some d → ∃ v, vs[i]? = some v ∧ Rp G F v d
  | _, _, _, _, .nil, e => by simp at e
  | _, _, 0, _, .cons h _, e => by simp at e; subst e; exact ⟨_, rfl, h⟩
  | _, _, i + 1, _, .cons _ r, e => by
    obtain ⟨v, e1, h⟩ := RpA.get (i := i) r (by simpa using e)
    exact ⟨v, by simpa using e1, h⟩
theorem RpA.getV : ∀ {vs : List V} {ds : List D} {i : Nat} {v : V}, RpA G F vs ds → vs[i]? = some v → ∃ d, ds[i]? = some d ∧ Rp G F v d
  | _, _, _, _, .nil, e => by simp at e
  | _, _, 0, _, .cons h _, e => by simp at e; subst e; exact ⟨_, rfl, h⟩
  | _, _, i + 1, _, .cons _ r, e => by
    obtain ⟨v, e1, h⟩ := RpA.getV (i := i) r (by simpa using e)
    exact ⟨v, by simpa using e1, h⟩
theorem RpA.app : ∀ {vs ws : List V} {ds es : List D}, RpA G F vs ds → RpA G F ws es → RpA G F (vs ++ ws) (ds ++ es)
  | _, _, _, _, .nil, s => s
  | _, _, _, _, .cons h r, s => .cons h (RpA.app r s)
theorem RpA.drop : ∀ {vs : List V} {ds : List D} (n : Nat), RpA G F vs ds → RpA G F (vs.drop n) (ds.drop n)
  | _, _, 0, r => r
  | _, _, _ + 1, .nil => .nil
  | _, _, n + 1, .cons _ r => RpA.drop n r
theorem RpA.take : ∀ {vs : List V} {ds : List D} (n : Nat), RpA G F vs ds → RpA G F (vs.take n) (ds.take n)
  | _, _, 0, _ => .nil
  | _, _, _ + 1, .nil => .nil
  | _, _, n + 1, .cons h r => .cons h (RpA.take n r)
theorem RpA.set {v : V} {d : D} (h : Rp G F v d) : ∀ {vs : List V} {ds : List D} (n : Nat), RpA G F vs ds → RpA G F (vs.set n v) (ds.set n d)
  | _, _, _, .nil => .nil
  | _, _, 0, .cons _ r => .cons h r
  | _, _, n + 1, .cons q r => .cons q (RpA.set h n r)
theorem RpA.rev {vs : List V} {ds : List D} (r : RpA G F vs ds) : RpA G F vs.reverse ds.reverse := by
  suffices h : ∀ {vs : List V} {ds : List D} {ws : List V} {es : List D}, RpA G F vs ds → RpA G F ws es → RpA G F (vs.reverse ++ ws) (ds.reverse ++ es) by
    have := h r .nil
    simpa using this
  intro vs
  induction vs with
  | nil => intro ds ws es h1 h2; cases h1; exact h2
  | cons v vs ih =>
    intro ds ws es h1 h2
    cases h1 with
    | cons a b =>
      have := ih b (.cons a h2)
      simpa using this
theorem RpA.last {vs : List V} {ds : List D} (r : RpA G F vs ds) : RpA G F vs.dropLast ds.dropLast := by
  rw [List.dropLast_eq_take, List.dropLast_eq_take, r.length]
  exact r.take _
theorem RpA.empty {vs : List V} {ds : List D} (r : RpA G F vs ds) : vs.isEmpty = ds.isEmpty := by cases r <;> rfl
theorem RpA.ints : ∀ {vs : List V} {ds : List D} {ns : List Int}, RpA G F vs ds → intsD ds = some ns → vs = ns.map V.int
  | _, _, ns, .nil, e => by simp [intsD] at e; subst e; rfl
  | _, _, ns, .cons (d := d) h r, e => by
    cases d with
    | int i =>
      cases h
      unfold intsD at e
      cases q : intsD _ with
      | none => rw [q] at e; cases e
      | some l =>
        rw [q] at e
        cases e
        rw [RpA.ints r q]; rfl
    | _ => simp [intsD] at e
theorem RpA.bools : ∀ {vs : List V} {ds : List D} {ns : List Bool}, RpA G F vs ds → boolsD ds = some ns → vs = ns.map V.bl
  | _, _, ns, .nil, e => by simp [boolsD] at e; subst e; rfl
  | _, _, ns, .cons (d := d) h r, e => by
    cases d with
    | bl i =>
      cases h
      unfold boolsD at e
      cases q : boolsD _ with
      | none => rw [q] at e; cases e
      | some l =>
        rw [q] at e
        cases e
        rw [RpA.bools r q]; rfl
    | _ => simp [boolsD] at e
end

/-! ### what is owned -/
mutual
inductive RpO (G : Wd) (F H : Hp) : V → O → List Addr → Prop
  | d {v : V} {x : D} : Rp G F v x → RpO G F H v (.d x) []
  | fl {a : Addr} {vs : List V} {ds : List D} : H a = some (.lst vs) → RpA G F vs ds → RpO G F H (.ref a) (.fl ds) [a]
  | ml {a : Addr} {vs : List V} {os : List O} {U : List Addr} : H a = some (.lst vs) → RpOs G F H vs os U → RpO G F H (.ref a) (.ml os) (a :: U)
  | ob {c : Str} {C a dx : Addr} {fs : List (Str × V)} {os : List (Str × O)} {U : List Addr} : G.ca c = some C → H a = some (.ins C dx fs) → RpOf G F H fs os U → RpO G F H (.ref a) (.ob c os) (a :: U)
inductive RpOs (G : Wd) (F H : Hp) : List V → List O → List Addr → Prop
  | nil : RpOs G F H [] [] []
  | cons {v : V} {o : O} {vs : List V} {os : List O} {U W : List Addr} : RpO G F H v o U → RpOs G F H vs os W → RpOs G F H (v :: vs) (o :: os) (U ++ W)
inductive RpOf (G : Wd) (F H : Hp) : List (Str × V) → List (Str × O) → List Addr → Prop
  | nil : RpOf G F H [] [] []
  | cons {n : Str} {v : V} {o : O} {vs : List (Str × V)} {os : List (Str × O)} {U W : List Addr} : RpO G F H v o U → RpOf G F H vs os W → RpOf G F H ((n, v) :: vs) ((n, o) :: os) (U ++ W)
end
section
variable {G : Wd} {F F' H H' : Hp}
/-- the objects at U stand as they stood -/
def Kp (H H' : Hp) (U : List Addr) : Prop := ∀ b ∈ U, ∀ o, H b = some o → H' b = some o
theorem Kp.left {U W : List Addr} (k : Kp H H' (U ++ W)) : Kp H H' U := fun b hb => k b (List.mem_append_left _ hb)
theorem Kp.right {U W : List Addr} (k : Kp H H' (U ++ W)) : Kp H H' W := fun b hb => k b (List.mem_append_right _ hb)
mutual
theorem RpO.mono (s : Sub F F') : ∀ {v : V} {o : O} {U : List Addr}, Kp H H' U → RpO G F H v o U → RpO G F' H' v o U
  | _, _, _, k, .d h => .d (h.mono s)
  | _, _, _, k, .fl h r => .fl (k _ (by simp) _ h) (r.mono s)
  | _, _, _, k, .ml h r => .ml (k _ (by simp) _ h) (RpOs.mono s (fun b hb => k b (List.mem_cons_of_mem _ hb)) r)
  | _, _, _, k, .ob c h r => .ob c (k _ (by simp) _ h) (RpOf.mono s (fun b hb => k b (List.mem_cons_of_mem _ hb)) r)
theorem RpOs.mono (s : Sub F F') : ∀ {v : List V} {o : List O} {U : List Addr}, Kp H H' U → RpOs G F H v o U → RpOs G F' H' v o U
  | _, _, _, k, .nil => .nil
  | _, _, _, k, .cons h r => .cons (RpO.mono s k.left h) (RpOs.mono s k.right r)
theorem RpOf.mono (s : Sub F F') : ∀ {v : List (Str × V)} {o : List (Str × O)} {U : List Addr}, Kp H H' U → RpOf G F H v o U → RpOf G F' H' v o U
  | _, _, _, k, .nil => .nil
  | _, _, _, k, .cons h r => .cons (RpO.mono s k.left h) (RpOf.mono s k.right r)
end
mutual
theorem RpO.there : ∀ {v : V} {o : O} {U : List Addr}, RpO G F H v o U → ∀ b ∈ U, H b ≠ none
  | _, _, _, .d h, b, hb => by cases hb
  | _, _, _, .fl h r, b, hb => by
    have e : b = _ := List.mem_singleton.mp hb
    subst e; rw [h]; exact fun z => by cases z
  | _, _, _, .ml h r, b, hb => by
    rcases List.mem_cons.mp hb with e | hb
    · subst e; rw [h]; exact fun z => by cases z
    · exact RpOs.there r b hb
  | _, _, _, .ob c h r, b, hb => by
    rcases List.mem_cons.mp hb with e | hb
    · subst e; rw [h]; exact fun z => by cases z
    · exact RpOf.there r b hb
theorem RpOs.there : ∀ {v : List V} {o : List O} {U : List Addr}, RpOs G F H v o U → ∀ b ∈ U, H b ≠ none
  | _, _, _, .nil, b, hb => by cases hb
  | _, _, _, .cons h r, b, hb => by
    rcases List.mem_append.mp hb with hb | hb
    · exact RpO.there h b hb
    · exact RpOs.there r b hb
theorem RpOf.there : ∀ {v : List (Str × V)} {o : List (Str × O)} {U : List Addr}, RpOf G F H v o U → ∀ b ∈ U, H b ≠ none
  | _, _, _, .nil, b, hb => by cases hb
  | _, _, _, .cons h r, b, hb => by
    rcases List.mem_append.mp hb with hb | hb
    · exact RpO.there h b hb
    · exact RpOf.there r b hb
end
/-- F, and what H has at U -/
def mix (F H : Hp) (U : List Addr) : Hp := fun b => if b ∈ U then H b else F b
def Off (F : Hp) (U : List Addr) : Prop := ∀ b ∈ U, F b = none
theorem Off.left {U W : List Addr} (k : Off F (U ++ W)) : Off F U := fun b hb => k b (List.mem_append_left _ hb)
theorem Off.right {U W : List Addr} (k : Off F (U ++ W)) : Off F W := fun b hb => k b (List.mem_append_right _ hb)
theorem Off.tail {a : Addr} {W : List Addr} (k : Off F (a :: W)) : Off F W := fun b hb => k b (List.mem_cons_of_mem _ hb)
theorem Off.app {U W : List Addr} (k : Off F U) (k' : Off F W) : Off F (U ++ W) := fun b hb => (List.mem_append.mp hb).elim (k b) (k' b)
theorem mix_nil : mix F H [] = F := by funext b; simp [mix]
theorem mix_in {U : List Addr} {b : Addr} (h : b ∈ U) : mix F H U b = H b := if_pos h
theorem mix_out {U : List Addr} {b : Addr} (h : b ∉ U) : mix F H U b = F b := if_neg h
theorem mix_sub {U W : List Addr} (h : ∀ b ∈ U, b ∈ W) (off : Off F W) : Sub (mix F H U) (mix F H W) := fun b o e => by
  by_cases hb : b ∈ U
  · rw [mix_in hb] at e; rw [mix_in (h b hb)]; exact e
  · rw [mix_out hb] at e
    have : b ∉ W := fun z => by rw [off b z] at e; cases e
    rw [mix_out this]; exact e
theorem mix_of {U : List Addr} (off : Off F U) : Sub F (mix F H U) := by
  have := mix_sub (F := F) (H := H) (U := []) (W := U) (fun _ h => nomatch h) off
  rwa [mix_nil] at this
theorem mix_to {U : List Addr} (s : Sub F H) : Sub (mix F H U) H := fun b o e => by
  by_cases hb : b ∈ U
  · rw [mix_in hb] at e; exact e
  · rw [mix_out hb] at e; exact s b o e
mutual
theorem RpO.frz : ∀ {v : V} {o : O} {U : List Addr}, Off F U → RpO G F H v o U → Rp G (mix F H U) v (frz o)
  | _, _, _, k, .d h => h.mono (mix_of k)
  | _, _, _, k, .fl h r => .lst (by rw [mix_in (by simp)]; exact h) (r.mono (mix_of k))
  | _, _, _, k, .ml h r => .lst (by rw [mix_in (by simp)]; exact h) ((RpOs.frz k.tail r).mono (mix_sub (fun b hb => List.mem_cons_of_mem _ hb) k))
  | _, _, _, k, .ob c h r => .obj c (by rw [mix_in (by simp)]; exact h) ((RpOf.frz k.tail r).mono (mix_sub (fun b hb => List.mem_cons_of_mem _ hb) k))
theorem RpOs.frz : ∀ {v : List V} {o : List O} {U : List Addr}, Off F U → RpOs G F H v o U → RpA G (mix F H U) v (frzs o)
  | _, _, _, k, .nil => .nil
  | _, _, _, k, .cons h r => .cons ((RpO.frz k.left h).mono (mix_sub (fun b hb => List.mem_append_left _ hb) k)) ((RpOs.frz k.right r).mono (mix_sub (fun b hb => List.mem_append_right _ hb) k))
theorem RpOf.frz : ∀ {v : List (Str × V)} {o : List (Str × O)} {U : List Addr}, Off F U → RpOf G F H v o U → RpF G (mix F H U) v (frzf o)
  | _, _, _, k, .nil => .nil
  | _, _, _, k, .cons h r => .cons ((RpO.frz k.left h).mono (mix_sub (fun b hb => List.mem_append_left _ hb) k)) ((RpOf.frz k.right r).mono (mix_sub (fun b hb => List.mem_append_right _ hb) k))
end
end

/-! ### the names -/
inductive RpS (G : Wd) (F H : Hp) : L2.St → Env → List Addr → Prop
  | nil : RpS G F H [] [] []
  | no {v : Option V} {σ : L2.St} {ρ : Env} {U : List Addr} : RpS G F H σ ρ U → RpS G F H (v :: σ) (none :: ρ) U
  | yes {v : V} {o : O} {σ : L2.St} {ρ : Env} {U W : List Addr} : RpO G F H v o U → RpS G F H σ ρ W → RpS G F H (some v :: σ) (some o :: ρ) (U ++ W)
structure Good (G : Wd) (F H : Hp) (σ : L2.St) (ρ : Env) (U : List Addr) : Prop where
  sub : Sub F H
  env : RpS G F H σ ρ U
  nd : U.Nodup
  off : Off F U
/-- from a state to a later one: U, U' what is owned -/
structure Ext (F H : Hp) (U : List Addr) (F' H' : Hp) (U' : List Addr) : Prop where
  ff : Sub F F'
  hh : ∀ b o, H b = some o → b ∉ U → H' b = some o
  fn : ∀ b, F' b ≠ none → F b ≠ none ∨ b ∈ U ∨ H b = none
  en : ∀ b ∈ U', b ∈ U ∨ H b = none
  tr : ∀ b, H b ≠ none → H' b ≠ none
section
variable {G : Wd} {F F' H H' : Hp} {σ : L2.St} {ρ : Env}
theorem RpS.length {U : List Addr} (r : RpS G F H σ ρ U) : σ.length = ρ.length := by
  induction r with
  | nil => rfl
  | no _ ih => exact congrArg (· + 1) ih
  | yes _ _ ih => exact congrArg (· + 1) ih
theorem RpS.mono (s : Sub F F') {U : List Addr} (k : Kp H H' U) (r : RpS G F H σ ρ U) : RpS G F' H' σ ρ U := by
  induction r with
  | nil => exact .nil
  | no _ ih => exact .no (ih k)
  | yes h _ ih => exact .yes (h.mono s k.left) (ih k.right)
theorem RpS.there {U : List Addr} (r : RpS G F H σ ρ U) : ∀ b ∈ U, H b ≠ none := by
  induction r with
  | nil => intro b hb; cases hb
  | no _ ih => exact ih
  | yes h _ ih => exact fun b hb => (List.mem_append.mp hb).elim (h.there b) (ih b)
/-- a name's value, and another one in its place -/
theorem RpS.at {U : List Addr} (r : RpS G F H σ ρ U) : ∀ {i : Nat} {o : O}, ρ[i]? = some (some o) → ∃ v W A B, σ[i]? = some (some v) ∧ RpO G F H v o W ∧ U = A ++ W ++ B ∧
    ∀ F' H', Sub F F' → Kp H H' (A ++ B) → (∀ v' o' W', RpO G F' H' v' o' W' → RpS G F' H' (σ.set i (some v')) (ρ.set i (some o')) (A ++ W' ++ B)) ∧ RpS G F' H' σ (ρ.set i none) (A ++ B) := by
  induction r with
  | nil => intro i o e; simp at e
  | @no v σ ρ U r ih =>
    intro i o e
    cases i with
    | zero => simp at e
    | succ i =>
      obtain ⟨v, W, A, B, h1, h2, h3, h4⟩ := ih (i := i) (by simpa using e)
      refine ⟨v, W, A, B, by simpa using h1, h2, h3, fun F' H' s k => ⟨fun v' o' W' q => ?_, ?_⟩⟩
      · exact .no ((h4 F' H' s k).1 v' o' W' q)
      · exact .no (h4 F' H' s k).2
  | @yes v o σ ρ U W h r ih =>
    intro i o' e
    cases i with
    | zero =>
      simp at e
      subst e
      refine ⟨v, U, [], W, rfl, h, by simp, fun F' H' s k => ⟨fun v' o' W' q => ?_, ?_⟩⟩
      · exact .yes q (r.mono s k)
      · exact .no (r.mono s k)
    | succ i =>
      obtain ⟨v', W', A, B, h1, h2, h3, h4⟩ := ih (i := i) (by simpa using e)
      refine ⟨v', W', U ++ A, B, by simpa using h1, h2, by rw [h3]; simp [List.append_assoc], fun F' H' s k => ?_⟩
      rw [List.append_assoc] at k
      have hh := h4 F' H' s k.right
      refine ⟨fun v2 o2 W2 q => ?_, ?_⟩
      · have := RpS.yes (h.mono s k.left) (hh.1 v2 o2 W2 q)
        simpa [List.append_assoc] using this
      · have := RpS.yes (h.mono s k.left) hh.2
        simpa [List.append_assoc] using this
/-- a name that held nothing -/
theorem RpS.put {U : List Addr} (r : RpS G F H σ ρ U) : ∀ {i : Nat}, ρ[i]? = some none → ∃ A B, U = A ++ B ∧
    ∀ F' H', Sub F F' → Kp H H' (A ++ B) → ∀ v' o' W', RpO G F' H' v' o' W' → RpS G F' H' (σ.set i (some v')) (ρ.set i (some o')) (A ++ W' ++ B) := by
  induction r with
  | nil => intro i e; simp at e
  | @no v σ ρ U r ih =>
    intro i e
    cases i with
    | zero => exact ⟨[], U, rfl, fun F' H' s k v' o' W' q => .yes q (r.mono s k)⟩
    | succ i =>
      obtain ⟨A, B, h3, h4⟩ := ih (i := i) (by simpa using e)
      exact ⟨A, B, h3, fun F' H' s k v' o' W' q => .no (h4 F' H' s k v' o' W' q)⟩
  | @yes v o σ ρ U W h r ih =>
    intro i e
    cases i with
    | zero => simp at e
    | succ i =>
      obtain ⟨A, B, h3, h4⟩ := ih (i := i) (by simpa using e)
      refine ⟨U ++ A, B, by rw [h3]; simp [List.append_assoc], fun F' H' s k v' o' W' q => ?_⟩
      rw [List.append_assoc] at k
      have := RpS.yes (h.mono s k.left) (h4 F' H' s k.right v' o' W' q)
      simpa [List.append_assoc] using this
theorem Good.there {U : List Addr} (g : Good G F H σ ρ U) : ∀ b ∈ U, H b ≠ none := g.env.there

/-! ### steps one behind the other -/
theorem Ext.refl (F H : Hp) (U : List Addr) : Ext F H U F H U := ⟨Sub.refl F, fun _ _ h _ => h, fun _ h => .inl h, fun _ h => .inl h, fun _ h => h⟩
theorem Ext.trans {F1 F2 F3 H1 H2 H3 : Hp} {U1 U2 U3 : List Addr} (sub : Sub F1 H1) (a : Ext F1 H1 U1 F2 H2 U2) (b : Ext F2 H2 U2 F3 H3 U3) : Ext F1 H1 U1 F3 H3 U3 := by
  refine ⟨a.ff.trans b.ff, fun x o h n => ?_, fun x h => ?_, fun x h => ?_, fun x h => b.tr x (a.tr x h)⟩
  · refine b.hh x o (a.hh x o h n) fun z => ?_
    rcases a.en x z with q | q
    · exact n q
    · rw [h] at q; cases q
  · rcases b.fn x h with q | q | q
    · exact a.fn x q
    · rcases a.en x q with z | z
      · exact .inr (.inl z)
      · exact .inr (.inr z)
    · refine .inr (.inr ?_)
      cases z : H1 x with
      | none => rfl
      | some o => exact absurd q (a.tr x (by rw [z]; exact fun z => by cases z))
  · rcases b.en x h with q | q
    · exact a.en x q
    · refine .inr ?_
      cases z : H1 x with
      | none => rfl
      | some o => exact absurd q (a.tr x (by rw [z]; exact fun z => by cases z))
/-- more is owned meanwhile -/
theorem Ext.more {U U' : List Addr} (a : Ext F H U F' H' U') (W : List Addr) : Ext F H (U ++ W) F' H' (U' ++ W) :=
  ⟨a.ff, fun b o h n => a.hh b o h fun z => n (List.mem_append_left _ z), fun b h => (a.fn b h).imp_right (Or.imp_left (List.mem_append_left _)),
    fun b h => (List.mem_append.mp h).elim (fun z => (a.en b z).imp_left (List.mem_append_left _)) fun z => .inl (List.mem_append_right _ z), a.tr⟩
theorem Ext.less {U U' W : List Addr} (a : Ext F H U F' H' U') (h : ∀ b ∈ W, b ∈ U') : Ext F H U F' H' W := ⟨a.ff, a.hh, a.fn, fun b hb => a.en b (h b hb), a.tr⟩
theorem Ext.perm {U U' W W' : List Addr} (a : Ext F H U F' H' U') (h : ∀ b ∈ U, b ∈ W) (h' : ∀ b ∈ W', b ∈ U') : Ext F H W F' H' W' :=
  ⟨a.ff, fun b o e n => a.hh b o e fun z => n (h b z), fun b q => (a.fn b q).imp_right (Or.imp_left (h b)), fun b hb => (a.en b (h' b hb)).imp_left (h b), a.tr⟩
/-- what was owned apart from U stands apart from all that comes -/
theorem Ext.apart {U U' W : List Addr} (a : Ext F H U F' H' U') (there : ∀ b ∈ W, H b ≠ none) (off : Off F W) (dis : ∀ b ∈ W, b ∉ U) : Kp H H' W ∧ Off F' W ∧ ∀ b ∈ W, b ∉ U' := by
  refine ⟨fun b hb o e => a.hh b o e (dis b hb), fun b hb => ?_, fun b hb z => ?_⟩
  · cases q : F' b with
    | none => rfl
    | some o =>
      rcases a.fn b (by rw [q]; exact fun z => by cases z) with z | z | z
      · exact absurd (off b hb) z
      · exact absurd z (dis b hb)
      · exact absurd z (there b hb)
  · rcases a.en b z with q | q
    · exact dis b hb q
    · exact there b hb q
/-- what is owned by nobody's name any more is data from here on -/
theorem Ext.freeze {U W : List Addr} (sub : Sub F H) (hu : ∀ b ∈ W, b ∈ U) : Ext F H U (mix F H W) H U ↔ Sub F (mix F H W) := by
  refine ⟨fun a => a.ff, fun s => ⟨s, fun _ _ h _ => h, fun b h => ?_, fun _ h => .inl h, fun _ h => h⟩⟩
  by_cases hb : b ∈ W
  · exact .inr (.inl (hu b hb))
  · rw [mix_out hb] at h; exact .inl h
end
end Pw

/-! PC: readings: an expression's value and what is owned behind it. -/
namespace Pw
open PySem PySem.Spec PyProof.Rows L2

theorem PE.imp {X : Cx} {e : PySem.Expr} {t t' : TE} (h : PE X e t) (k : ∀ σ H Q, t' σ H Q → t σ H Q) : PE X e t' := ⟨fun pins s σ H Q I q => h.run pins s σ H Q I (k σ H Q q)⟩
theorem PT.imp {X : Cx} {e : PySem.Expr} {t t' : TT} (h : PT X e t) (k : ∀ σ H Q, t' σ H Q → t σ H Q) : PT X e t' := ⟨fun pins s σ H Q I q => h.run pins s σ H Q I (k σ H Q q)⟩
theorem PW.imp {X : Cx} {e : PySem.Expr} {t t' : TT} (h : PW X e t) (k : ∀ σ H Q, t' σ H Q → t σ H Q) : PW X e t' := ⟨fun wh pins s σ H Q I q => h.run wh pins s σ H Q I (k σ H Q q)⟩
theorem PA.imp {X : Cx} {e : List PySem.Expr} {t t' : TA} (h : PA X e t) (k : ∀ σ H Q, t' σ H Q → t σ H Q) : PA X e t' := ⟨fun pos pins s σ H Q I q => h.run pos pins s σ H Q I (k σ H Q q)⟩
theorem PS.imp {X : Cx} {e : PySem.Stmt} {t t' : TS} (h : PS X e t) (k : ∀ D σ H, t' D σ H → t D σ H) : PS X e t' := ⟨fun pins s σ H D I q => h.run pins s σ H D I (k D σ H q)⟩
theorem PSs.imp {X : Cx} {e : List PySem.Stmt} {t t' : TS} (h : PSs X e t) (k : ∀ D σ H, t' D σ H → t D σ H) : PSs X e t' := ⟨fun pins s σ H D I q => h.run pins s σ H D I (k D σ H q)⟩
theorem PI.imp {X : Cx} {tg e : PySem.Expr} {t t' : TI} (h : PI X tg e t) (k : ∀ σ H R, t' σ H R → t σ H R) : PI X tg e t' := ⟨fun pins s σ H R I q => h.run pins s σ H R I (k σ H R q)⟩
theorem PG.imp {X : Cx} {tg : PySem.Expr} {t t' : TG} (h : PG X tg t) (k : ∀ v σ H Q, t' v σ H Q → t v σ H Q) : PG X tg t' := ⟨fun pins s σ H v u Q I r q => h.run pins s σ H v u Q I r (k v σ H Q q)⟩
theorem PO.imp {X : Cx} {e : Option PySem.Expr} {t t' : TO} (h : PO X e t) (k : ∀ σ H Q, t' σ H Q → t σ H Q) : PO X e t' := ⟨fun pins s σ H Q I q => h.run pins s σ H Q I (k σ H Q q)⟩
theorem PE.or {X : Cx} {e : PySem.Expr} {t t' : TE} (h : PE X e t) (h' : PE X e t') : PE X e (fun σ H Q => t σ H Q ∨ t' σ H Q) :=
  ⟨fun pins s σ H Q I q => q.elim (h.run pins s σ H Q I) (h'.run pins s σ H Q I)⟩
theorem PI.or {X : Cx} {tg e : PySem.Expr} {t t' : TI} (h : PI X tg e t) (h' : PI X tg e t') : PI X tg e (fun σ H R => t σ H R ∨ t' σ H R) :=
  ⟨fun pins s σ H R I q => q.elim (h.run pins s σ H R I) (h'.run pins s σ H R I)⟩
theorem PS.or {X : Cx} {e : PySem.Stmt} {t t' : TS} (h : PS X e t) (h' : PS X e t') : PS X e (fun D σ H => t D σ H ∨ t' D σ H) :=
  ⟨fun pins s σ H D I q => q.elim (h.run pins s σ H D I) (h'.run pins s σ H D I)⟩
theorem PE.never {X : Cx} {e : PySem.Expr} : PE X e (fun _ _ _ => False) := ⟨fun _ _ _ _ _ _ h => h.elim⟩

theorem big_line : big ≤ sizeLine := by decide

/-- a step that lays new things alone; W is owned by nobody yet -/
structure New (F H F' H' : Hp) (W : List Addr) : Prop where
  ff : Sub F F'
  sub : Sub F' H'
  hh : Sub H H'
  fn : ∀ b, F' b ≠ none → F b ≠ none ∨ H b = none
  nd : W.Nodup
  off : Off F' W
  nw : ∀ b ∈ W, H b = none
section
variable {G : Wd} {F F' H H' : Hp} {σ : L2.St} {ρ : Env} {U W : List Addr}
theorem New.refl (s : Sub F H) : New F H F H [] := ⟨Sub.refl F, s, Sub.refl H, fun _ h => .inl h, List.nodup_nil, (fun _ h => nomatch h), (fun _ h => nomatch h)⟩
/-- a new object that is data -/
theorem New.lay (s : Sub F H) {p : Addr} {o : HO} (h : H p = none) : New F H (upd F p o) (upd H p o) [] :=
  ⟨Sub.new (s.no h), s.upd2, Sub.new h, fun b q => (by
    by_cases e : b = p
    · subst e; exact .inr h
    · rw [upd_ne e] at q; exact .inl q), List.nodup_nil, (fun _ h => nomatch h), (fun _ h => nomatch h)⟩
/-- a new object that is owned -/
theorem New.own (s : Sub F H) {p : Addr} {o : HO} (h : H p = none) : New F H F (upd H p o) [p] :=
  ⟨Sub.refl F, s.trans (Sub.new h), Sub.new h, fun _ q => .inl q, by simp, fun b hb => (by
    have e : b = p := by simpa using hb
    subst e; exact s.no h), fun b hb => (by
    have e : b = p := by simpa using hb
    subst e; exact h)⟩
theorem New.ext (n : New F H F' H' W) (U : List Addr) : Ext F H U F' H' (U ++ W) :=
  ⟨n.ff, fun b o h _ => n.hh b o h, fun b h => (n.fn b h).imp_right .inr, fun b h => (List.mem_append.mp h).imp_right (n.nw b), fun b h z => h (n.hh.no z)⟩
theorem Good.new (g : Good G F H σ ρ U) (n : New F H F' H' W) : Good G F' H' σ ρ U ∧ (U ++ W).Nodup := by
  refine ⟨⟨n.sub, g.env.mono n.ff (fun b _ o h => n.hh b o h), g.nd, fun b hb => ?_⟩, List.nodup_append.mpr ⟨g.nd, n.nd, fun a ha b hb e => ?_⟩⟩
  · cases q : F' b with
    | none => rfl
    | some o =>
      rcases n.fn b (by rw [q]; exact fun z => by cases z) with z | z
      · exact absurd (g.off b hb) z
      · exact absurd z (g.there b hb)
  · subst e
    exact g.there a ha (n.nw a hb)
/-- a temporary thing that is owned lies apart behind a step -/
theorem temp {F1 H1 F2 H2 : Hp} {U1 U2 W1 : List Addr} {v : V} {o : O} (r : RpO G F1 H1 v o W1) (nd : (U1 ++ W1).Nodup) (off : Off F1 W1) (x : Ext F1 H1 U1 F2 H2 U2) :
    RpO G F2 H2 v o W1 ∧ Off F2 W1 ∧ (∀ b ∈ W1, b ∉ U2) := by
  have d : ∀ b ∈ W1, b ∉ U1 := fun b hb z => (List.nodup_append.mp nd).2.2 b z b hb rfl
  obtain ⟨k, o2, n2⟩ := x.apart r.there off d
  exact ⟨r.mono x.ff k, o2, n2⟩
/-- what is held by nobody turns to data -/
theorem thaw (g : Good G F H σ ρ U) {v : V} {o : O} (r : RpO G F H v o W) (nd : (U ++ W).Nodup) (off : Off F W) :
    Good G (mix F H W) H σ ρ U ∧ Rp G (mix F H W) v (frz o) ∧ Sub F (mix F H W) := by
  refine ⟨⟨mix_to g.sub, g.env.mono (mix_of off) (fun _ _ _ h => h), g.nd, fun b hb => ?_⟩, r.frz off, mix_of off⟩
  have : b ∉ W := fun z => (List.nodup_append.mp nd).2.2 b hb b z rfl
  rw [mix_out this]
  exact g.off b hb
theorem ext_thaw {U' : List Addr} (x : Ext F H U F' H' (U' ++ W)) (s : Sub F' (mix F' H' W)) : Ext F H U (mix F' H' W) H' U' :=
  ⟨x.ff.trans s, x.hh, fun b h => by
    by_cases hb : b ∈ W
    · rcases x.en b (List.mem_append_right _ hb) with z | z
      · exact .inr (.inl z)
      · exact .inr (.inr z)
    · rw [mix_out hb] at h; exact x.fn b h, fun b hb => x.en b (List.mem_append_left _ hb), x.tr⟩
end

/-! ### the readings -/
def rd (G : Wd) (c : Bool) (f : M O) : TE := fun σ H Q => ∃ F ρ U o ρ', Good G F H σ ρ U ∧ f ρ = some (o, ρ') ∧
  ∀ v F' H' U' W, Good G F' H' σ ρ' U' → RpO G F' H' v o W → (U' ++ W).Nodup → Off F' W → Ext F H U F' H' (U' ++ W) → (c = true → Sub H H') → Q v H'
def rdD (G : Wd) (c : Bool) (f : M D) : TE := fun σ H Q => ∃ F ρ U d ρ', Good G F H σ ρ U ∧ f ρ = some (d, ρ') ∧
  ∀ v F' H' U', Good G F' H' σ ρ' U' → Rp G F' v d → Ext F H U F' H' U' → (c = true → Sub H H') → Q v H'
def rdT (G : Wd) (c : Bool) (f : M Bool) : TT := fun σ H Q => ∃ F ρ U b ρ', Good G F H σ ρ U ∧ f ρ = some (b, ρ') ∧
  ∀ F' H' U', Good G F' H' σ ρ' U' → Ext F H U F' H' U' → (c = true → Sub H H') → Q b H'
def rdO (G : Wd) (c : Bool) (f : M (Option Int)) : TO := fun σ H Q => ∃ F ρ U b ρ', Good G F H σ ρ U ∧ f ρ = some (b, ρ') ∧
  ∀ F' H' U', Good G F' H' σ ρ' U' → Ext F H U F' H' U' → (c = true → Sub H H') → Q b H'
section
variable {G : Wd} {X : Cx} {c ca cb : Bool} {a b : PySem.Expr} {f fa fb : M O} {σ : L2.St} {H : Hp} {Q : VK} {pos : Pos}
theorem rd_of_fz (h : rdD G c (fzM f) σ H Q) : rd G c f σ H Q := by
  obtain ⟨F, ρ, U, d, ρ', g, e, k⟩ := h
  unfold fzM at e
  cases q : f ρ with
  | none => rw [q] at e; cases e
  | some p =>
    obtain ⟨o, ρ1⟩ := p
    rw [q] at e
    cases e
    refine ⟨F, ρ, U, o, ρ', g, q, fun v F' H' U' W g' r nd off x hc => ?_⟩
    obtain ⟨g2, r2, s2⟩ := thaw g' r nd off
    exact k v _ H' U' g2 r2 (ext_thaw x s2) hc
theorem pe_fz (h : PE X a (rd G c f)) : PE X a (rdD G c (fzM f)) := PE.imp h fun σ H Q q => rd_of_fz q
/-- from a value that is data -/
theorem rd_to {f : M D} (h : rd G c (bnd f fun d => rtn (.d d)) σ H Q) : rdD G c f σ H Q := by
  obtain ⟨F, ρ, U, o, ρ', g, e, k⟩ := h
  unfold bnd rtn at e
  cases q : f ρ with
  | none => rw [q] at e; cases e
  | some p =>
    obtain ⟨d, ρ1⟩ := p
    rw [q] at e
    cases e
    exact ⟨F, ρ, U, d, ρ', g, q, fun v F' H' U' g' r x hc => k v F' H' U' [] g' (.d r) (by simpa using g'.nd) (fun _ h => nomatch h) (by simpa using x) hc⟩
theorem bnd_some {α β : Type} {m : M α} {f : α → M β} {ρ : Env} {r : β × Env} (h : bnd m f ρ = some r) : ∃ x ρ1, m ρ = some (x, ρ1) ∧ f x ρ1 = some r := by
  unfold bnd at h
  cases q : m ρ with
  | none => rw [q] at h; cases h
  | some p => rw [q] at h; exact ⟨p.1, p.2, rfl, h⟩
theorem lift_some {α : Type} {m : Option α} {ρ : Env} {r : α × Env} (h : lift m ρ = some r) : m = some r.1 ∧ r.2 = ρ := by
  unfold lift at h
  cases m with
  | none => cases h
  | some x => cases h; exact ⟨rfl, rfl⟩

/-! ### operators -/
/-- what an operation on values does, told by data -/
def OpG (G : Wd) (r : R2) (op : D → D → Option O) : Prop := ∀ (F H : Hp) (x y : V) (a b : D) (o : O) (Q : VK), Sub F H → Rp G F x a → Rp G F y b → op a b = some o →
  (∀ v F' H' W, New F H F' H' W → RpO G F' H' v o W → Q v H') → r x y H Q
theorem rd_op {r : R2} {op : D → D → Option O} (ho : OpG G r op) (h : rd G (ca && cb) (bnd (fzM fa) fun x => bnd (fzM fb) fun y => lift (op x y)) σ H Q) : tOp r (rdD G ca (fzM fa)) (rdD G cb (fzM fb)) σ H Q := by
  obtain ⟨F, ρ, U, o, ρ', g, e, k⟩ := h
  obtain ⟨x, ρ1, e1, e⟩ := bnd_some e
  obtain ⟨y, ρ2, e2, e⟩ := bnd_some e
  obtain ⟨e3, e4⟩ := lift_some e
  cases e4
  refine ⟨F, ρ, U, x, ρ1, g, e1, fun v1 F1 H1 U1 g1 r1 x1 c1 => ⟨F1, ρ1, U1, y, _, g1, e2, fun v2 F2 H2 U2 g2 r2 x2 c2 => ?_⟩⟩
  refine ho F2 H2 v1 v2 x y o Q g2.sub (r1.mono x2.ff) r2 e3 fun v F' H' W n r => ?_
  obtain ⟨g3, nd3⟩ := g2.new n
  refine k v F' H' U2 W g3 r nd3 n.off ((x1.trans g.sub x2).trans g.sub (n.ext U2)) fun hc => ?_
  rw [Bool.and_eq_true] at hc
  exact ((c1 hc.1).trans (c2 hc.2)).trans n.hh
theorem se_bin {op : Operator} {r : R2} (hr : OpR X (binaryOp op) r) (ho : OpG G r (opD op)) (ha : PE X a (rd G ca fa)) (hb : PE X b (rd G cb fb)) :
    PE X (.BinOp a op b pos) (rd G (ca && cb) (bnd (fzM fa) fun x => bnd (fzM fb) fun y => lift (opD op x y))) :=
  PE.imp (pe_op hr (pe_fz ha) (pe_fz hb)) fun σ H Q h => rd_op ho h
/-- an answer without objects -/
theorem plainV {F : Hp} (s : Sub F H) {v : V} {d : D} (r : Rp G F v d) (k : ∀ v F' H' W, New F H F' H' W → RpO G F' H' v (.d d) W → Q v H') : Q v H := k v F H [] (New.refl s) (.d r)
theorem og_int {C : Int → Int → Prop} {g : Int → Int → Int} {op : D → D → Option O} (h : ∀ a b o, op a b = some o → ∃ i j, a = .int i ∧ b = .int j ∧ C i j ∧ o = .d (.int (g i j))) : OpG G (rI C fun i j => .int (g i j)) op := by
  intro F H x y a b o Q s ra rb e k
  obtain ⟨i, j, rfl, rfl, hc, rfl⟩ := h a b o e
  cases ra
  cases rb
  exact ⟨i, j, rfl, rfl, hc, plainV s (.int _) k⟩
theorem og_int0 {g : Int → Int → Int} {op : D → D → Option O} (h : ∀ a b o, op a b = some o → ∃ i j, a = .int i ∧ b = .int j ∧ o = .d (.int (g i j))) : OpG G (rI0 fun i j => .int (g i j)) op := by
  intro F H x y a b o Q s ra rb e k
  obtain ⟨i, j, rfl, rfl, rfl⟩ := h a b o e
  cases ra
  cases rb
  exact ⟨i, j, rfl, rfl, plainV s (.int _) k⟩
end
end Pw

/-! PCx: more operators: a text times a number, in of tuples. -/
namespace Pw
open PySem PySem.Spec PyProof.Rows L2
section
variable {X : Cx}
def rMulS : R2 := fun x y H Q => ∃ (a : Str) (j : Int), x = .str a ∧ y = .int j ∧ 2 ≤ j ∧ j ≤ 1000 ∧ 1 ≤ a.length ∧ a.length ≤ 1000 ∧ Q (.str ⟨(List.replicate j.toNat a.cps).foldl (· ++ ·) #[]⟩) H
theorem fold_app_size (n : Nat) (xs : Array Nat) : ∀ acc : Array Nat, ((List.replicate n xs).foldl (· ++ ·) acc).size = acc.size + n * xs.size := by
  induction n with
  | zero => intro acc; simp
  | succ n ih =>
    intro acc
    rw [List.replicate_succ, List.foldl_cons, ih, Array.size_append, Nat.succ_mul]
    omega
theorem op_mulS : OpR X (binaryOp .Mult) rMulS := by
  intro pins s σ H x y v u Q I rx ry h
  obtain ⟨a, j, rfl, rfl, h1, h2, h3, h4, q⟩ := h
  obtain ⟨t, rfl⟩ := rx
  obtain ⟨t', rfl⟩ := ry
  have sz : a.length * j.toNat ≤ 1000000 := by
    have := Nat.mul_le_mul h4 (by omega : j.toNat ≤ 1000)
    omega
  have c1 : (j == 1 || a.length == 0) = false := by
    rw [Bool.or_eq_false_iff]
    exact ⟨beq_eq_false_iff_ne.mpr (by omega), beq_eq_false_iff_ne.mpr (by omega)⟩
  refine PySem.P.mul_str ?_ (fun _ _ => ?_) (fun _ _ => ?_) ?_
  · rw [decide_eq_false (by omega), decide_eq_false (by omega)] <;> rfl
  · intro hc
    have e : (9223372036854775807 : Int) / j ≥ 9223372036854775807 / 1000 := Int.le_ediv_of_mul_le (by omega) (by omega)
    have e2 : (2 ^ 63 - 1 : Int) = 9223372036854775807 := by decide +kernel
    rw [e2] at hc
    omega
  · unfold Builtin.Str.tooLong
    rw [sizeLine_eq]
    exact decide_eq_false (by omega)
  · rw [if_neg (by omega), c1, if_neg Bool.false_ne_true]
    refine ⟨?_, ⟨.str _, H, I.tok _, ⟨_, rfl⟩, q⟩⟩
    show ((List.replicate j.toNat a.cps).foldl (· ++ ·) #[]).size ≤ sizeLine
    rw [fold_app_size, sizeLine_eq]
    have : j.toNat * a.cps.size = a.length * j.toNat := Nat.mul_comm _ _
    show (0 : Nat) + j.toNat * a.cps.size ≤ _
    omega
def rInT (K : PySem.W.Frag) : R2 := fun x y H Q => ∃ d ds, Dp K H x d ∧ Dp K H y (.tuple ds) ∧ SeqAt.shaped d = true ∧ SeqAt.shaped (.list ds) = true ∧ Q (.bl (ds.any fun z => PyData.eqv z d)) H
def rNotInT (K : PySem.W.Frag) : R2 := fun x y H Q => ∃ d ds, Dp K H x d ∧ Dp K H y (.tuple ds) ∧ SeqAt.shaped d = true ∧ SeqAt.shaped (.list ds) = true ∧ Q (.bl (!ds.any fun z => PyData.eqv z d)) H
theorem op_inT (hu : X.A.units + 65 < cLine) : OpR X (compareOp .In) (rInT X.K) := by
  intro pins s σ H x y v u Q I rx ry h
  obtain ⟨d, ds, hd, he, sd, se, q⟩ := h
  obtain ⟨as, r1⟩ := Dp.reads I d x v hd rx
  obtain ⟨bs, r2⟩ := Dp.reads I (.tuple ds) y u he ry
  exact SeqAt.in_tuple_reads r2 r1 (SeqAt.canLay_of_shaped (d := .list ds) se) (SeqAt.canLay_of_shaped sd) (room_in_shaped sd hu) ⟨.bl _, H, I, rfl, q⟩
theorem op_notInT (hu : X.A.units + 65 < cLine) : OpR X (compareOp .NotIn) (rNotInT X.K) := by
  intro pins s σ H x y v u Q I rx ry h
  obtain ⟨d, ds, hd, he, sd, se, q⟩ := h
  obtain ⟨as, r1⟩ := Dp.reads I d x v hd rx
  obtain ⟨bs, r2⟩ := Dp.reads I (.tuple ds) y u he ry
  exact SeqAt.notIn_tuple_reads r2 r1 (SeqAt.canLay_of_shaped (d := .list ds) se) (SeqAt.canLay_of_shaped sd) (room_in_shaped sd hu) ⟨.bl _, H, I, rfl, q⟩
theorem op_notIn_strs : OpR X (compareOp .NotIn) (fun x y H Q => ∃ i j, x = .str i ∧ y = .str j ∧ Q (.bl (!(!(Builtin.Str.occurrences j i 0 j.length 1).isEmpty))) H) := by
  intro pins s σ H x y v u Q I rx ry h
  obtain ⟨i, j, rfl, rfl, q⟩ := h
  obtain ⟨t, rfl⟩ := rx
  obtain ⟨t', rfl⟩ := ry
  exact PyProof.Rows.notIn_str (fin_bl I q rfl)
end
end Pw

/-! PD: operators, comparisons, truth, subscripts, built-in calls: told by data. -/
namespace Pw
open PySem PySem.Spec PyProof.Rows L2
section
variable {G : Wd} {X : Cx} {c ca cb : Bool} {a b : PySem.Expr} {f fa fb : M O} {σ : L2.St} {F H : Hp} {Q : VK} {pos : Pos}

def rAddA (K : PySem.W.Frag) : R2 := fun x y H Q => (rI0 (fun i j => .int (i + j)) x y H Q) ∨ (∃ i j, x = .str i ∧ y = .str j ∧ i.length + j.length ≤ sizeLine ∧ Q (.str (i ++ j)) H) ∨ rCatA K x y H Q ∨ rCat x y H Q
theorem op_addA : OpR X (binaryOp .Add) (rAddA X.K) := op_add.or (op_add_str.or (op_catA.or op_cat))
theorem Rp.tupE {v : V} {ds : List D} (r : Rp G F v (.tup ds)) : ∃ a vs, v = .ref a ∧ SqT G.K F a vs ∧ RpA G F vs ds := by cases r with | tup h r => exact ⟨_, _, rfl, h, r⟩
theorem Rp.lstE {v : V} {ds : List D} (r : Rp G F v (.lst ds)) : ∃ a vs, v = .ref a ∧ F a = some (.lst vs) ∧ RpA G F vs ds := by cases r with | lst h r => exact ⟨_, _, rfl, h, r⟩
theorem Rp.xlE {v : V} {ds : List D} (r : Rp G F v (.xl ds)) : ∃ a vs, v = .ref a ∧ SqL G.K F a vs ∧ RpA G F vs ds := by cases r with | xl h r => exact ⟨_, _, rfl, h, r⟩
theorem Rp.intE {v : V} {i : Int} (r : Rp G F v (.int i)) : v = .int i := by cases r; rfl
theorem Rp.strE {v : V} {i : Str} (r : Rp G F v (.str i)) : v = .str i := by cases r; rfl
theorem Rp.blE {v : V} {i : Bool} (r : Rp G F v (.bl i)) : v = .bl i := by cases r; rfl
theorem Rp.nonE {v : V} (r : Rp G F v .non) : v = .non := by cases r; rfl

theorem new_tup {F H : Hp} (s : Sub F H) {p : Addr} (h : H p = none) {vs : List V} {ds : List D} (r : RpA G F vs ds) : New F H (upd F p (.tup vs)) (upd H p (.tup vs)) [] ∧ RpO G (upd F p (.tup vs)) (upd H p (.tup vs)) (.ref p) (.d (.tup ds)) [] :=
  ⟨New.lay s h, .d (.tup (.inl (.inl upd_same)) (r.mono (Sub.new (s.no h))))⟩
theorem new_lst {F H : Hp} (s : Sub F H) {p : Addr} (h : H p = none) {vs : List V} {ds : List D} (r : RpA G F vs ds) : New F H F (upd H p (.lst vs)) [p] ∧ RpO G F (upd H p (.lst vs)) (.ref p) (.fl ds) [p] :=
  ⟨New.own s h, .fl upd_same r⟩

theorem og_add : OpG G (rAddA G.K) (opD .Add) := by
  intro F H x y a b o Q s ra rb e k
  cases a <;> cases b <;> simp only [opD] at e <;> try (cases e)
  · cases ra
    cases rb
    exact .inl ⟨_, _, rfl, rfl, plainV s (.int _) k⟩
  · rename_i u v
    split at e <;> cases e
    rename_i hz
    cases ra
    cases rb
    exact .inr (.inl ⟨_, _, rfl, rfl, Nat.le_trans hz big_line, plainV s (.str _) k⟩)
  · rename_i us vs
    split at e <;> cases e
    rename_i hz
    obtain ⟨p, xs, rfl, hp, rp⟩ := ra.tupE
    obtain ⟨q, ys, rfl, hq, rq⟩ := rb.tupE
    refine .inr (.inr (.inl ⟨p, q, xs, ys, rfl, rfl, s.sqT hp, s.sqT hq, ?_, fun e => ?_, fun e1 e2 => ?_, fun e1 e2 t ht => ?_⟩))
    · rw [rp.length, rq.length]; exact Nat.le_trans hz big_line
    · subst e
      cases rp
      exact plainV s rb k
    · subst e2
      cases rq
      rw [List.append_nil] at k
      exact plainV s ra k
    · obtain ⟨n, r⟩ := new_tup s ht (rp.app rq)
      exact k _ _ _ _ n r
  · rename_i us vs
    split at e <;> cases e
    rename_i hz
    obtain ⟨p, xs, rfl, hp, rp⟩ := ra.lstE
    obtain ⟨q, ys, rfl, hq, rq⟩ := rb.lstE
    refine .inr (.inr (.inr ⟨p, q, xs, ys, rfl, rfl, s _ _ hp, s _ _ hq, ?_, fun t ht => ?_⟩))
    · rw [rp.length, rq.length]; exact Nat.le_trans hz big_line
    · obtain ⟨n, r⟩ := new_lst s ht (rp.app rq)
      exact k _ _ _ _ n r
theorem og_sub : OpG G (rI0 fun i j => .int (i - j)) (opD .Sub) := og_int0 fun a b o e => by
  cases a <;> cases b <;> simp only [opD] at e <;> cases e
  exact ⟨_, _, rfl, rfl, rfl⟩
theorem RpA.flat {vs : List V} {ds : List D} (r : RpA G F vs ds) : ∀ n : Nat, RpA G F (List.replicate n vs).flatten (List.replicate n ds).flatten
  | 0 => .nil
  | n + 1 => by
    rw [List.replicate_succ, List.replicate_succ, List.flatten_cons, List.flatten_cons]
    exact r.app (RpA.flat r n)
def rMulA (K : PySem.W.Frag) : R2 := fun x y H Q => (rI CMul (fun i j => .int (i * j)) x y H Q) ∨ rMulS x y H Q ∨ rRepT K x y H Q ∨ rRep x y H Q
theorem op_mulA : OpR X (binaryOp .Mult) (rMulA X.K) := op_mul.or (op_mulS.or (op_repT.or op_rep))
theorem og_mul : OpG G (rMulA G.K) (opD .Mult) := by
  intro F H x y a b o Q s ra rb e k
  cases a <;> cases b <;> simp only [opD] at e <;> try (cases e)
  · split at e <;> cases e
    rename_i h
    cases ra
    cases rb
    exact .inl ⟨_, _, rfl, rfl, h, plainV s (.int _) k⟩
  · split at e <;> cases e
    rename_i h
    cases ra
    cases rb
    exact .inr (.inl ⟨_, _, rfl, rfl, h.1, h.2.1, h.2.2.1, h.2.2.2, plainV s (.str _) k⟩)
  · rename_i us j
    split at e <;> cases e
    rename_i h
    obtain ⟨p, xs, rfl, hp, rp⟩ := ra.tupE
    cases rb
    refine .inr (.inr (.inl ⟨p, j, xs, rfl, rfl, s.sqT hp, fun z => ?_, h.1, h.2.1, by rw [rp.length]; exact h.2.2.2, fun t ht => ?_⟩))
    · subst z
      cases rp
      exact h.2.2.1 rfl
    · obtain ⟨n, r⟩ := new_tup s ht (rp.flat j.toNat)
      exact k _ _ _ _ n r
  · rename_i us j
    split at e <;> cases e
    rename_i h
    obtain ⟨p, xs, rfl, hp, rp⟩ := ra.lstE
    cases rb
    refine .inr (.inr (.inr ⟨p, j, xs, rfl, rfl, s _ _ hp, by omega, by omega, ?_, fun t ht => ?_⟩))
    · rw [rp.length, sizeLine_eq]
      have := Nat.mul_le_mul h.2.2 (by omega : j.toNat ≤ 1000)
      omega
    · obtain ⟨n, r⟩ := new_lst s ht (rp.flat j.toNat)
      exact k _ _ _ _ n r
theorem og_fdiv : OpG G (rI CDiv fun i j => .int (i / j)) (opD .FloorDiv) := og_int fun a b o e => by
  cases a <;> cases b <;> simp only [opD] at e <;> try (cases e)
  split at e <;> cases e
  rename_i h
  exact ⟨_, _, rfl, rfl, h, rfl⟩
theorem og_mod : OpG G (rI (fun _ j => 0 < j) fun i j => .int (i % j)) (opD .Mod) := og_int fun a b o e => by
  cases a <;> cases b <;> simp only [opD] at e <;> try (cases e)
  split at e <;> cases e
  rename_i h
  exact ⟨_, _, rfl, rfl, h, rfl⟩
theorem og_pow : OpG G (rI CPow fun i j => .int (i ^ j.toNat)) (opD .Pow) := og_int fun a b o e => by
  cases a <;> cases b <;> simp only [opD] at e <;> try (cases e)
  split at e <;> cases e
  rename_i h
  exact ⟨_, _, rfl, rfl, h, rfl⟩
theorem og_shl : OpG G (rI CPow fun i j => .int (i * 2 ^ j.toNat)) (opD .LShift) := og_int fun a b o e => by
  cases a <;> cases b <;> simp only [opD] at e <;> try (cases e)
  split at e <;> cases e
  rename_i h
  exact ⟨_, _, rfl, rfl, h, rfl⟩
theorem og_shr : OpG G (rI (fun _ j => 0 ≤ j) fun i j => .int (i / 2 ^ j.toNat)) (opD .RShift) := og_int fun a b o e => by
  cases a <;> cases b <;> simp only [opD] at e <;> try (cases e)
  split at e <;> cases e
  rename_i h
  exact ⟨_, _, rfl, rfl, h, rfl⟩
theorem og_band : OpG G (rI0 fun i j => .int (Builtin.bitAnd i j)) (opD .BitAnd) := og_int0 fun a b o e => by
  cases a <;> cases b <;> simp only [opD] at e <;> cases e
  exact ⟨_, _, rfl, rfl, rfl⟩
theorem og_bor : OpG G (rI0 fun i j => .int (Builtin.bitOr i j)) (opD .BitOr) := og_int0 fun a b o e => by
  cases a <;> cases b <;> simp only [opD] at e <;> cases e
  exact ⟨_, _, rfl, rfl, rfl⟩
theorem og_bxor : OpG G (rI0 fun i j => .int (Builtin.bitXor i j)) (opD .BitXor) := og_int0 fun a b o e => by
  cases a <;> cases b <;> simp only [opD] at e <;> cases e
  exact ⟨_, _, rfl, rfl, rfl⟩
/-- every operator -/
theorem se_op (hK : X.K = G.K) (op : Operator) (ha : PE X a (rd G ca fa)) (hb : PE X b (rd G cb fb)) : PE X (.BinOp a op b pos) (rd G (ca && cb) (bnd (fzM fa) fun x => bnd (fzM fb) fun y => lift (opD op x y))) := by
  cases op with
  | Add => exact se_bin (by rw [← hK]; exact op_addA) og_add ha hb
  | Sub => exact se_bin op_sub og_sub ha hb
  | Mult => exact se_bin (by rw [← hK]; exact op_mulA) og_mul ha hb
  | FloorDiv => exact se_bin op_fdiv og_fdiv ha hb
  | Mod => exact se_bin op_mod og_mod ha hb
  | Pow => exact se_bin op_pow og_pow ha hb
  | LShift => exact se_bin op_shl og_shl ha hb
  | RShift => exact se_bin op_shr og_shr ha hb
  | BitAnd => exact se_bin op_and og_band ha hb
  | BitOr => exact se_bin op_or og_bor ha hb
  | BitXor => exact se_bin op_xor og_bxor ha hb
  | _ =>
    refine PE.imp PE.never fun σ H Q h => ?_
    obtain ⟨F, ρ, U, o, ρ', g, e, k⟩ := h
    obtain ⟨x, ρ1, e1, e⟩ := bnd_some e
    obtain ⟨y, ρ2, e2, e⟩ := bnd_some e
    obtain ⟨e3, e4⟩ := lift_some e
    cases x <;> cases y <;> simp only [opD] at e3 <;> cases e3

/-! ### comparisons -/
mutual
theorem Rp.dp {G : Wd} {F : Hp} : ∀ (d : D) {v : V} {p : PyData}, Rp G F v d → toPy d = some p → Dp G.K F v p
  | .non, _, _, r, e => by cases r; cases e; exact .non
  | .bl b, _, _, r, e => by cases r; cases e; exact .bl _
  | .int b, _, _, r, e => by cases r; cases e; exact .int _
  | .str b, _, _, r, e => by cases r; cases e; exact .str _
  | .tup xs, _, _, r, e => by
    cases r with
    | tup h r =>
      unfold toPy at e
      cases q : toPys xs with
      | none => rw [q] at e; cases e
      | some l => rw [q] at e; cases e; exact .tup h (RpA.dp xs r q)
  | .lst xs, _, _, r, e => by
    cases r with
    | lst h r =>
      unfold toPy at e
      cases q : toPys xs with
      | none => rw [q] at e; cases e
      | some l => rw [q] at e; cases e; exact .lst (.inl (.inl h)) (RpA.dp xs r q)
  | .xl xs, _, _, r, e => by unfold toPy at e; cases e
  | .dic xs, _, _, r, e => by unfold toPy at e; cases e
  | .fn xs, _, _, r, e => by unfold toPy at e; cases e
  | .obj xs _, _, _, r, e => by unfold toPy at e; cases e
theorem RpA.dp {G : Wd} {F : Hp} : ∀ (ds : List D) {vs : List V} {ps : List PyData}, RpA G F vs ds → toPys ds = some ps → DpAll G.K F vs ps
  | [], _, _, r, e => by cases r; unfold toPys at e; cases e; exact .nil
  | d :: ds, _, _, r, e => by
    cases r with
    | cons h r =>
      unfold toPys at e
      cases q1 : toPy d with
      | none => rw [q1] at e; cases e
      | some a =>
        cases q2 : toPys ds with
        | none => rw [q1, q2] at e; cases e
        | some b => rw [q1, q2] at e; cases e; exact .cons (Rp.dp d h q1) (RpA.dp ds r q2)
end
mutual
theorem dpMono {K : PySem.W.Frag} {F H : Hp} (s : Sub F H) : ∀ {v : V} {p : PyData}, Dp K F v p → Dp K H v p
  | _, _, .non => .non
  | _, _, .bl b => .bl b
  | _, _, .int b => .int b
  | _, _, .str b => .str b
  | _, _, .lst h r => .lst (s.sqL h) (dpAllMono s r)
  | _, _, .tup h r => .tup (s.sqT h) (dpAllMono s r)
theorem dpAllMono {K : PySem.W.Frag} {F H : Hp} (s : Sub F H) : ∀ {v : List V} {p : List PyData}, DpAll K F v p → DpAll K H v p
  | _, _, .nil => .nil
  | _, _, .cons h r => .cons (dpMono s h) (dpAllMono s r)
end
/-- a comparison's answer is a bool -/
def CmG (G : Wd) (r : R2) (op : D → D → Option Bool) : Prop := ∀ (F H : Hp) (x y : V) (a b : D) (o : Bool) (Q : VK), Sub F H → Rp G F x a → Rp G F y b → op a b = some o → Q (.bl o) H → r x y H Q
theorem CmG.op {r : R2} {op : D → D → Option Bool} (h : CmG G r op) : OpG G r (fun a b => (op a b).map fun k => .d (.bl k)) := by
  intro F H x y a b o Q s ra rb e k
  cases q : op a b with
  | none => simp only [q] at e; cases e
  | some t =>
    simp only [q] at e
    cases e
    exact h F H x y a b t Q s ra rb q (plainV s (.bl t) k)
theorem CmG.orr {r r' : R2} {op op1 op2 : D → D → Option Bool} (h : CmG G r op1) (h' : CmG G r' op2) (e : ∀ a b o, op a b = some o → op1 a b = some o ∨ op2 a b = some o) : CmG G (fun x y H Q => r x y H Q ∨ r' x y H Q) op := by
  intro F H x y a b o Q s ra rb q k
  rcases e a b o q with z | z
  · exact .inl (h F H x y a b o Q s ra rb z k)
  · exact .inr (h' F H x y a b o Q s ra rb z k)
/-- the simple ones -/
def eqS (x y : D) : Option Bool := match x, y with
  | .int i, .int j => some (i == j)
  | .bl i, .bl j => some (i == j)
  | .str i, .str j => some (i == j)
  | .non, .non => some true
  | _, _ => none
def eqP (x y : D) : Option Bool := match toPy x, toPy y with
    | some a, some b => if SeqAt.shaped a && SeqAt.shaped b then some (PyData.eqv a b) else none
    | _, _ => none
theorem eqD_or (a b : D) (o : Bool) (h : eqD a b = some o) : eqS a b = some o ∨ eqP a b = some o := by
  unfold eqD at h
  unfold eqS eqP
  split at h <;> first
    | exact .inl h
    | exact .inr h
theorem cg_eqS : CmG G rEq eqS := by
  intro F H x y a b o Q s ra rb e k
  unfold eqS at e
  split at e <;> cases e <;> cases ra <;> cases rb
  · exact ⟨rfl, by rw [dec_int]; exact k⟩
  · exact ⟨rfl, by rw [dec_bl]; exact k⟩
  · exact ⟨rfl, by rw [dec_str]; exact k⟩
  · exact ⟨rfl, k⟩
theorem cg_neS : CmG G rNe (fun a b => (eqS a b).map (!·)) := by
  intro F H x y a b o Q s ra rb e k
  replace e : (eqS a b).map (!·) = some o := e
  unfold eqS at e
  split at e <;> simp only [Option.map_some, Option.map_none] at e <;> cases e <;> cases ra <;> cases rb
  · exact ⟨rfl, by rw [dec_int]; exact k⟩
  · exact ⟨rfl, by rw [dec_bl]; exact k⟩
  · exact ⟨rfl, by rw [dec_str]; exact k⟩
  · exact ⟨rfl, k⟩
theorem cg_eqP : CmG G (rEqD G.K) eqP := by
  intro F H x y a b o Q s ra rb e k
  unfold eqP at e
  split at e
  · rename_i p q hp hq
    split at e
    · rename_i hs
      cases e
      rw [Bool.and_eq_true] at hs
      exact ⟨p, q, dpMono s (Rp.dp _ ra hp), dpMono s (Rp.dp _ rb hq), hs.1, hs.2, k⟩
    · cases e
  · cases e
theorem cg_neP : CmG G (rNeD G.K) (fun a b => (eqP a b).map (!·)) := by
  intro F H x y a b o Q s ra rb e k
  replace e : (eqP a b).map (!·) = some o := e
  unfold eqP at e
  split at e
  · rename_i p q hp hq
    split at e
    · rename_i hs
      cases e
      rw [Bool.and_eq_true] at hs
      exact ⟨p, q, dpMono s (Rp.dp _ ra hp), dpMono s (Rp.dp _ rb hq), hs.1, hs.2, k⟩
    · cases e
  · cases e
theorem cg_eq : CmG G (fun x y H Q => rEq x y H Q ∨ rEqD G.K x y H Q) (cmpD .Eq) := cg_eqS.orr cg_eqP eqD_or
theorem cg_ne : CmG G (fun x y H Q => rNe x y H Q ∨ rNeD G.K x y H Q) (cmpD .NotEq) := cg_neS.orr cg_neP fun a b o e => by
  have e' : (eqD a b).map (!·) = some o := e
  cases q : eqD a b with
  | none => rw [q] at e'; cases e'
  | some t =>
    rw [q] at e'
    cases e'
    rcases eqD_or a b t q with z | z
    · exact .inl (by simp [z])
    · exact .inr (by simp [z])
theorem cg_int {g : Int → Int → Bool} {op : D → D → Option Bool} (h : ∀ a b o, op a b = some o → ∃ i j, a = .int i ∧ b = .int j ∧ o = g i j) : CmG G (rI0 fun i j => .bl (g i j)) op := by
  intro F H x y a b o Q s ra rb e k
  obtain ⟨i, j, rfl, rfl, rfl⟩ := h a b o e
  cases ra
  cases rb
  exact ⟨i, j, rfl, rfl, k⟩
theorem cg_lt : CmG G (rI0 fun i j => .bl (decide (i < j))) (cmpD .Lt) := cg_int fun a b o e => by
  cases a <;> cases b <;> simp only [cmpD] at e <;> cases e
  exact ⟨_, _, rfl, rfl, rfl⟩
theorem cg_le : CmG G (rI0 fun i j => .bl (decide (i ≤ j))) (cmpD .LtE) := cg_int fun a b o e => by
  cases a <;> cases b <;> simp only [cmpD] at e <;> cases e
  exact ⟨_, _, rfl, rfl, rfl⟩
theorem cg_gt : CmG G (rI0 fun i j => .bl (decide (j < i))) (cmpD .Gt) := cg_int fun a b o e => by
  cases a <;> cases b <;> simp only [cmpD] at e <;> cases e
  exact ⟨_, _, rfl, rfl, rfl⟩
theorem cg_ge : CmG G (rI0 fun i j => .bl (decide (j ≤ i))) (cmpD .GtE) := cg_int fun a b o e => by
  cases a <;> cases b <;> simp only [cmpD] at e <;> cases e
  exact ⟨_, _, rfl, rfl, rfl⟩
theorem cg_is : CmG G (fun x y H Q => (y = .non ∧ Q (.bl (decide (x = .non))) H) ∨ rIsB x y H Q) (cmpD .Is) := by
  intro F H x y a b o Q s ra rb e k
  cases b <;> first
    | (cases a <;> simp only [cmpD] at e <;> cases e <;> cases ra <;> cases rb <;> first | exact .inl ⟨rfl, k⟩ | exact .inr ⟨_, _, rfl, rfl, k⟩)
    | (cases a <;> simp only [cmpD] at e <;> cases e)
theorem cg_isn : CmG G (fun x y H Q => (y = .non ∧ Q (.bl (!decide (x = .non))) H) ∨ rNotB x y H Q) (cmpD .IsNot) := by
  intro F H x y a b o Q s ra rb e k
  cases b <;> first
    | (cases a <;> simp only [cmpD] at e <;> cases e <;> cases ra <;> cases rb <;> first | exact .inl ⟨rfl, k⟩ | exact .inr ⟨_, _, rfl, rfl, k⟩)
    | (cases a <;> simp only [cmpD] at e <;> cases e)
def rInA (K : PySem.W.Frag) : R2 := fun x y H Q => (∃ (c : Nat) (z : Str), x = .str ⟨#[c]⟩ ∧ y = .str z ∧ Q (.bl (decide (c ∈ z.cps.toList))) H) ∨ (∃ i j, x = .str i ∧ y = .str j ∧ Q (.bl (!(Builtin.Str.occurrences j i 0 j.length 1).isEmpty)) H) ∨ rInD K x y H Q ∨ rInT K x y H Q
theorem op_inA (hu : X.A.units + 65 < cLine) : OpR X (compareOp .In) (rInA X.K) := op_in_sign.or (op_in_str.or ((op_inD hu).or (op_inT hu)))
def rNotInA (K : PySem.W.Frag) : R2 := fun x y H Q => (∃ (c : Nat) (z : Str), x = .str ⟨#[c]⟩ ∧ y = .str z ∧ Q (.bl (!decide (c ∈ z.cps.toList))) H) ∨ (∃ i j, x = .str i ∧ y = .str j ∧ Q (.bl (!(!(Builtin.Str.occurrences j i 0 j.length 1).isEmpty))) H) ∨ rNotInD K x y H Q ∨ rNotInT K x y H Q
theorem op_notInA (hu : X.A.units + 65 < cLine) : OpR X (compareOp .NotIn) (rNotInA X.K) := op_notIn_sign.or (op_notIn_strs.or ((op_notInD hu).or (op_notInT hu)))
theorem str_one {s : Str} {c : Nat} (h : s.cps.toList = [c]) : s = ⟨#[c]⟩ := by
  cases s with
  | mk cps =>
    congr 1
    have : cps.toList = (#[c] : Array Nat).toList := h
    exact Array.toList_inj.mp this
theorem inP_some {x : D} {ys : List D} {o : Bool} (e : inP x ys = some o) : ∃ a bs, toPy x = some a ∧ toPys ys = some bs ∧ SeqAt.shaped a = true ∧ SeqAt.shaped (.list bs) = true ∧ o = bs.any fun z => PyData.eqv z a := by
  unfold inP at e
  split at e
  · rename_i a bs h1 h2
    split at e
    · rename_i hs
      rw [Bool.and_eq_true] at hs
      cases e
      exact ⟨a, bs, h1, h2, hs.1, hs.2, rfl⟩
    · cases e
  · cases e
theorem cg_in : CmG G (rInA G.K) (cmpD .In) := by
  intro F H x y a b o Q s ra rb e k
  have e : inD a b = some o := e
  unfold inD at e
  split at e
  · split at e
    · rename_i t _ z
      cases e
      cases ra
      cases rb
      unfold inS at k
      split at k
      · rename_i c hc
        cases str_one hc
        exact .inl ⟨c, _, rfl, rfl, k⟩
      · exact .inr (.inl ⟨_, _, rfl, rfl, k⟩)
    · cases e
  · rename_i ys
    obtain ⟨d, ds, h1, h2, h3, h4, rfl⟩ := inP_some e
    refine .inr (.inr (.inl ⟨d, ds, dpMono s (Rp.dp _ ra h1), ?_, h3, h4, k⟩))
    exact dpMono s (Rp.dp (.lst _) rb (by unfold toPy; rw [h2]; rfl))
  · rename_i ys
    obtain ⟨d, ds, h1, h2, h3, h4, rfl⟩ := inP_some e
    refine .inr (.inr (.inr ⟨d, ds, dpMono s (Rp.dp _ ra h1), ?_, h3, h4, k⟩))
    exact dpMono s (Rp.dp (.tup _) rb (by unfold toPy; rw [h2]; rfl))
  · cases e
theorem cg_notIn : CmG G (rNotInA G.K) (cmpD .NotIn) := by
  intro F H x y a b o Q s ra rb e k
  have e : (inD a b).map (!·) = some o := e
  cases q : inD a b with
  | none => rw [q] at e; cases e
  | some r =>
    rw [q] at e
    cases e
    have e := q
    unfold inD at e
    split at e
    · split at e
      · rename_i t _ z
        cases e
        cases ra
        cases rb
        unfold inS at k
        split at k
        · rename_i c hc
          cases str_one hc
          exact .inl ⟨c, _, rfl, rfl, k⟩
        · exact .inr (.inl ⟨_, _, rfl, rfl, k⟩)
      · cases e
    · rename_i ys
      obtain ⟨d, ds, h1, h2, h3, h4, rfl⟩ := inP_some e
      refine .inr (.inr (.inl ⟨d, ds, dpMono s (Rp.dp _ ra h1), ?_, h3, h4, k⟩))
      exact dpMono s (Rp.dp (.lst _) rb (by unfold toPy; rw [h2]; rfl))
    · rename_i ys
      obtain ⟨d, ds, h1, h2, h3, h4, rfl⟩ := inP_some e
      refine .inr (.inr (.inr ⟨d, ds, dpMono s (Rp.dp _ ra h1), ?_, h3, h4, k⟩))
      exact dpMono s (Rp.dp (.tup _) rb (by unfold toPy; rw [h2]; rfl))
    · cases e
theorem cg_no {op : CmpOp} (h : ∀ a b, cmpD op a b = none) : CmG G (fun _ _ _ _ => False) (cmpD op) := by
  intro F H x y a b o Q s ra rb e k
  rw [h a b] at e; cases e
theorem or_never (f : Value → Value → Sem Value) : OpR X f (fun _ _ _ _ => False) := fun _ _ _ _ _ _ _ _ _ _ _ _ h => h.elim
/-- each comparison: its rule, and what it tells -/
theorem cm_rule (hK : X.K = G.K) (hu : X.A.units + 100 < cLine) (op : CmpOp) : ∃ r : R2, OpR X (compareOp op) r ∧ CmG G r (cmpD op) := by
  cases op with
  | Eq => exact ⟨_, by rw [← hK]; exact op_eq.or (op_eqD (by omega)), cg_eq⟩
  | NotEq => exact ⟨_, by rw [← hK]; exact op_ne.or (op_neD (by omega)), cg_ne⟩
  | Lt => exact ⟨_, op_lt, cg_lt⟩
  | LtE => exact ⟨_, op_le, cg_le⟩
  | Gt => exact ⟨_, op_gt, cg_gt⟩
  | GtE => exact ⟨_, op_ge, cg_ge⟩
  | Is => exact ⟨_, op_isN.or op_isBl, cg_is⟩
  | IsNot => exact ⟨_, op_notN.or op_notBl, cg_isn⟩
  | In => exact ⟨_, by rw [← hK]; exact op_inA (by omega), cg_in⟩
  | NotIn => exact ⟨_, by rw [← hK]; exact op_notInA (by omega), cg_notIn⟩
end
end Pw

/-! PE1: constants, names, tests, conditional values. -/
namespace Pw
open PySem PySem.Spec PyProof.Rows L2
section
variable {Q' : Bool → Hp → Prop} {G : Wd} {X : Cx} {c ca cb cc : Bool} {a b e3 : PySem.Expr} {f fa fb fc : M O} {σ : L2.St} {F H : Hp} {Q : VK} {pos : Pos} {ga gb : M Bool}

/-! ### what is just there -/
theorem se_const {d : D} {v : V} (he : PE X a (tC v)) (hr : ∀ F, Rp G F v d) : PE X a (rd G true (rtn (.d d))) := PE.imp he fun σ H Q h => by
  obtain ⟨F, ρ, U, o, ρ', g, e, k⟩ := h
  cases e
  exact k v F H U [] g (.d (hr F)) (by simpa using g.nd) (fun _ h => nomatch h) (by simpa using Ext.refl F H U) fun _ => Sub.refl H
/-- a name's value, with all that it owns: the name is not asked again -/
theorem se_mv {i : Nat} (he : PE X a (tVar i)) : PE X a (rd G true (mvM i)) := PE.imp he fun σ H Q h => by
  obtain ⟨F, ρ, U, o, ρ', g, e, k⟩ := h
  unfold mvM at e
  cases q : ρ[i]? with
  | none => rw [q] at e; cases e
  | some z =>
    cases z with
    | none => rw [q] at e; cases e
    | some o1 =>
      rw [q] at e
      cases e
      obtain ⟨v, W, A, B, hv, hr, hU, hs⟩ := g.env.at q
      refine ⟨v, hv, ?_⟩
      have nd : (A ++ W ++ B).Nodup := hU ▸ g.nd
      have hp : (A ++ W ++ B).Perm (A ++ B ++ W) := by
        rw [List.append_assoc, List.append_assoc]
        exact List.Perm.append_left A List.perm_append_comm
      have nd2 : (A ++ B ++ W).Nodup := hp.nodup_iff.mp nd
      have sub : ∀ b ∈ A ++ B, b ∈ U := fun b hb => by rw [hU]; exact hp.mem_iff.mpr (List.mem_append_left _ hb)
      refine k v F H (A ++ B) W ⟨g.sub, (hs F H (Sub.refl F) fun _ _ _ h => h).2, (List.nodup_append.mp nd2).1, fun b hb => g.off b (sub b hb)⟩ hr nd2 (fun b hb => g.off b (by rw [hU]; simp [hb])) ?_ fun _ => Sub.refl H
      exact (Ext.refl F H U).less fun b hb => by rw [hU]; exact hp.mem_iff.mpr hb

/-! ### tests -/
/-- a comparison, its answer a bool -/
theorem rd_cm {r : R2} {op : D → D → Option Bool} (hc : CmG G r op) (h : ∃ F ρ U o ρ', Good G F H σ ρ U ∧ (bnd (fzM fa) fun x => bnd (fzM fb) fun y => lift (op x y)) ρ = some (o, ρ') ∧
    ∀ F' H' U', Good G F' H' σ ρ' U' → Ext F H U F' H' U' → ((ca && cb) = true → Sub H H') → Q (.bl o) H') : tOp r (rdD G ca (fzM fa)) (rdD G cb (fzM fb)) σ H Q := by
  obtain ⟨F, ρ, U, o, ρ', g, e, k⟩ := h
  obtain ⟨x, ρ1, e1, e⟩ := bnd_some e
  obtain ⟨y, ρ2, e2, e⟩ := bnd_some e
  obtain ⟨e3, e4⟩ := lift_some e
  cases e4
  refine ⟨F, ρ, U, x, ρ1, g, e1, fun v1 F1 H1 U1 g1 r1 x1 c1 => ⟨F1, ρ1, U1, y, _, g1, e2, fun v2 F2 H2 U2 g2 r2 x2 c2 => ?_⟩⟩
  refine hc F2 H2 v1 v2 x y o Q g2.sub (r1.mono x2.ff) r2 e3 (k F2 H2 U2 g2 (x1.trans g.sub x2) fun hc => ?_)
  rw [Bool.and_eq_true] at hc
  exact (c1 hc.1).trans (c2 hc.2)
theorem st_cmp {op : CmpOp} {r : R2} (hr : OpR X (compareOp op) r) (hc : CmG G r (cmpD op)) (ha : PE X a (rd G ca fa)) (hb : PE X b (rd G cb fb)) (hm : behindInMarks op b = false) :
    PT X (.Compare a [op] [b] pos) (rdT G (ca && cb) (bnd (fzM fa) fun x => bnd (fzM fb) fun y => lift (cmpD op x y))) :=
  PT.imp (pt_cmpR hr (pe_fz ha) (pe_fz hb) hm) fun σ H Q h => by
    obtain ⟨F, ρ, U, o, ρ', g, e, k⟩ := h
    exact rd_cm hc ⟨F, ρ, U, o, ρ', g, e, fun F' H' U' g' x hc => ⟨o, rfl, k F' H' U' g' x hc⟩⟩
/-- a test's answer as a value -/
theorem se_tv {g : M Bool} (h : PE X a (fun σ H Q => rdT G c g σ H fun b H' => Q (.bl b) H')) : PE X a (rd G c (bnd g fun r => rtn (.d (.bl r)))) := PE.imp h fun σ H Q q => by
  obtain ⟨F, ρ, U, o, ρ', gd, e, k⟩ := q
  obtain ⟨r, ρ1, e1, e⟩ := bnd_some e
  cases e
  exact ⟨F, ρ, U, r, ρ', gd, e1, fun F' H' U' g' x hc => k (.bl r) F' H' U' [] g' (.d (.bl r)) (by simpa using g'.nd) (fun _ h => nomatch h) (by simpa using x) hc⟩
theorem se_cmp {op : CmpOp} {r : R2} (hr : OpR X (compareOp op) r) (hc : CmG G r (cmpD op)) (ha : PE X a (rd G ca fa)) (hb : PE X b (rd G cb fb)) (hm : behindInMarks op b = false) :
    PE X (.Compare a [op] [b] pos) (rd G (ca && cb) (bnd (bnd (fzM fa) fun x => bnd (fzM fb) fun y => lift (cmpD op x y)) fun r => rtn (.d (.bl r)))) :=
  se_tv (PE.imp (pe_cmpR hr (pe_fz ha) (pe_fz hb) hm) fun σ H Q h => by
    obtain ⟨F, ρ, U, o, ρ', g, e, k⟩ := h
    exact rd_cm hc ⟨F, ρ, U, o, ρ', g, e, k⟩)
/-- x op y op' z -/
def chainM (op op' : CmpOp) (fa fb fc : M O) : M Bool := bnd (fzM fa) fun x => bnd (fzM fb) fun y => match cmpD op x y with
    | some true => bnd (fzM fc) fun z => lift (cmpD op' y z)
    | some false => rtn false
    | none => fun _ => none
theorem rd_chain {op op' : CmpOp} {r r' : R2} (hc : CmG G r (cmpD op)) (hc' : CmG G r' (cmpD op')) (h : ∃ F ρ U o ρ', Good G F H σ ρ U ∧ chainM op op' fa fb fc ρ = some (o, ρ') ∧
    ∀ F' H' U', Good G F' H' σ ρ' U' → Ext F H U F' H' U' → ((ca && cb && cc) = true → Sub H H') → Q (.bl o) H') : tChain r r' (rdD G ca (fzM fa)) (rdD G cb (fzM fb)) (rdD G cc (fzM fc)) σ H Q := by
  obtain ⟨F, ρ, U, o, ρ', g, e, k⟩ := h
  obtain ⟨x, ρ1, e1, e⟩ := bnd_some e
  obtain ⟨y, ρ2, e2, e⟩ := bnd_some e
  refine ⟨F, ρ, U, x, ρ1, g, e1, fun v1 F1 H1 U1 g1 r1 x1 c1 => ⟨F1, ρ1, U1, y, ρ2, g1, e2, fun v2 F2 H2 U2 g2 r2 x2 c2 => ?_⟩⟩
  cases q : cmpD op x y with
  | none => simp only [q] at e; cases e
  | some t =>
    simp only [q] at e
    refine hc F2 H2 v1 v2 x y t _ g2.sub (r1.mono x2.ff) r2 q ⟨t, rfl, ?_⟩
    cases t with
    | false =>
      cases e
      rw [if_neg Bool.false_ne_true]
      refine k F2 H2 U2 g2 (x1.trans g.sub x2) fun hc => ?_
      rw [Bool.and_eq_true, Bool.and_eq_true] at hc
      exact (c1 hc.1.1).trans (c2 hc.1.2)
    | true =>
      obtain ⟨z, ρ3, e3, e⟩ := bnd_some e
      obtain ⟨e4, e5⟩ := lift_some e
      cases e5
      rw [if_pos rfl]
      refine ⟨F2, ρ2, U2, z, _, g2, e3, fun v3 F3 H3 U3 g3 r3 x3 c3 => ?_⟩
      refine hc' F3 H3 v2 v3 y z o Q g3.sub (r2.mono x3.ff) r3 e4 (k F3 H3 U3 g3 ((x1.trans g.sub x2).trans g.sub x3) fun hc => ?_)
      rw [Bool.and_eq_true, Bool.and_eq_true] at hc
      exact ((c1 hc.1.1).trans (c2 hc.1.2)).trans (c3 hc.2)
theorem se_chain {op op' : CmpOp} {r r' : R2} (hr : OpR X (compareOp op) r) (hc : CmG G r (cmpD op)) (hr' : OpR X (compareOp op') r') (hc' : CmG G r' (cmpD op')) (ha : PE X a (rd G ca fa)) (hb : PE X b (rd G cb fb)) (h3 : PE X e3 (rd G cc fc))
    (hm : lastMarks [op, op'] [b, e3] = false) : PE X (.Compare a [op, op'] [b, e3] pos) (rd G (ca && cb && cc) (bnd (chainM op op' fa fb fc) fun r => rtn (.d (.bl r)))) :=
  se_tv (PE.imp (pe_chain hr hr' (pe_fz ha) (pe_fz hb) (pe_fz h3) hm) fun σ H Q h => by
    obtain ⟨F, ρ, U, o, ρ', g, e, k⟩ := h
    exact rd_chain hc hc' ⟨F, ρ, U, o, ρ', g, e, k⟩)
theorem st_chain {op op' : CmpOp} {r r' : R2} (hr : OpR X (compareOp op) r) (hc : CmG G r (cmpD op)) (hr' : OpR X (compareOp op') r') (hc' : CmG G r' (cmpD op')) (ha : PE X a (rd G ca fa)) (hb : PE X b (rd G cb fb)) (h3 : PE X e3 (rd G cc fc))
    (hm : lastMarks [op, op'] [b, e3] = false) : PT X (.Compare a [op, op'] [b, e3] pos) (rdT G (ca && cb && cc) (chainM op op' fa fb fc)) :=
  PT.imp (pt_chain hr hr' (pe_fz ha) (pe_fz hb) (pe_fz h3) hm) fun σ H Q h => by
    obtain ⟨F, ρ, U, o, ρ', g, e, k⟩ := h
    exact rd_chain hc hc' ⟨F, ρ, U, o, ρ', g, e, fun F' H' U' g' x hc => ⟨o, rfl, k F' H' U' g' x hc⟩⟩
/-- a value's truth -/
theorem tru_of {K : PySem.W.Frag} (hK : K = G.K) {F : Hp} (s : Sub F H) {v : V} {d : D} {t : Bool} (r : Rp G F v d) (e : tru d = some t) : TruV K v H t := by
  subst hK
  cases d <;> simp only [tru] at e <;> try (cases e)
  · cases r; rfl
  · cases r; rfl
  · cases r; rfl
  · split at e <;> cases e
    cases r
    rename_i s h
    refine ⟨Nat.le_trans h big_line, ?_⟩
    rw [Bool.eq_iff_iff]
    simp
  · obtain ⟨a, vs, rfl, h, q⟩ := r.tupE
    exact .inr (.inl ⟨vs, s.sqT h, by rw [q.empty]⟩)
  · obtain ⟨a, vs, rfl, h, q⟩ := r.lstE
    exact .inl ⟨vs, .inl (.inl (s _ _ h)), by rw [q.empty]⟩
theorem st_val (hK : X.K = G.K) (ha : PE X a (rd G ca fa)) (he : ∀ whole, isTrue a X.env whole = (do let v ← whole; standAt a.pos; holding [v] (truthy v))) : PT X a (rdT G ca (bnd (fzM fa) fun x => lift (tru x))) :=
  PT.imp (pt_truth (pe_fz ha) he) fun σ H Q h => by
    obtain ⟨F, ρ, U, o, ρ', g, e, k⟩ := h
    obtain ⟨x, ρ1, e1, e⟩ := bnd_some e
    obtain ⟨e3, e4⟩ := lift_some e
    cases e4
    exact ⟨F, ρ, U, x, _, g, e1, fun v1 F1 H1 U1 g1 r1 x1 c1 => ⟨o, tru_of hK g1.sub r1 e3, k F1 H1 U1 g1 x1 c1⟩⟩
theorem st_not (ha : PT X a (rdT G c ga)) : PT X (.UnaryOp .Not a pos) (rdT G c (bnd ga fun b => rtn (!b))) := PT.imp (pt_not ha) fun σ H Q h => by
  obtain ⟨F, ρ, U, o, ρ', g, e, k⟩ := h
  obtain ⟨x, ρ1, e1, e⟩ := bnd_some e
  cases e
  exact ⟨F, ρ, U, x, ρ', g, e1, k⟩
theorem se_not (hK : X.K = G.K) (ha : PE X a (rd G ca fa)) : PE X (.UnaryOp .Not a pos) (rd G ca (bnd (bnd (bnd (fzM fa) fun x => lift (tru x)) fun b => rtn (!b)) fun r => rtn (.d (.bl r)))) :=
  se_tv (PE.imp (pe_notT (pe_fz ha)) fun σ H Q h => by
    obtain ⟨F, ρ, U, o, ρ', g, e, k⟩ := h
    obtain ⟨x, ρ1, e1, e⟩ := bnd_some e
    cases e
    obtain ⟨y, ρ2, e2, e⟩ := bnd_some e1
    obtain ⟨e3, e4⟩ := lift_some e
    cases e4
    exact ⟨F, ρ, U, y, _, g, e2, fun v1 F1 H1 U1 g1 r1 x1 c1 => ⟨x, tru_of hK g1.sub r1 e3, k F1 H1 U1 g1 x1 c1⟩⟩)
def andM (ga gb : M Bool) : M Bool := bnd ga fun x => if x then gb else rtn false
def orM (ga gb : M Bool) : M Bool := bnd ga fun x => if x then rtn true else gb
theorem rd_and (h : rdT G (ca && cb) (andM ga gb) σ H Q') : tAnd (rdT G ca ga) (rdT G cb gb) σ H Q' := by
  obtain ⟨F, ρ, U, o, ρ', g, e, k⟩ := h
  obtain ⟨x, ρ1, e1, e⟩ := bnd_some e
  refine ⟨F, ρ, U, x, ρ1, g, e1, fun F1 H1 U1 g1 x1 c1 => ?_⟩
  cases x with
  | true =>
    rw [if_pos rfl]
    refine ⟨F1, ρ1, U1, o, ρ', g1, e, fun F2 H2 U2 g2 x2 c2 => k F2 H2 U2 g2 (x1.trans g.sub x2) fun hc => ?_⟩
    rw [Bool.and_eq_true] at hc
    exact (c1 hc.1).trans (c2 hc.2)
  | false =>
    rw [if_neg Bool.false_ne_true]
    cases e
    refine k F1 H1 U1 g1 x1 fun hc => ?_
    rw [Bool.and_eq_true] at hc
    exact c1 hc.1
theorem rd_or (h : rdT G (ca && cb) (orM ga gb) σ H Q') : tOr (rdT G ca ga) (rdT G cb gb) σ H Q' := by
  obtain ⟨F, ρ, U, o, ρ', g, e, k⟩ := h
  obtain ⟨x, ρ1, e1, e⟩ := bnd_some e
  refine ⟨F, ρ, U, x, ρ1, g, e1, fun F1 H1 U1 g1 x1 c1 => ?_⟩
  cases x with
  | false =>
    rw [if_neg Bool.false_ne_true]
    refine ⟨F1, ρ1, U1, o, ρ', g1, e, fun F2 H2 U2 g2 x2 c2 => k F2 H2 U2 g2 (x1.trans g.sub x2) fun hc => ?_⟩
    rw [Bool.and_eq_true] at hc
    exact (c1 hc.1).trans (c2 hc.2)
  | true =>
    rw [if_pos rfl]
    cases e
    refine k F1 H1 U1 g1 x1 fun hc => ?_
    rw [Bool.and_eq_true] at hc
    exact c1 hc.1
theorem sw_one {op : BoolOp} (ha : PT X a (rdT G ca ga)) : PW X (.BoolOp op [a] pos) (rdT G ca ga) := by
  cases op with
  | And => exact pw_and1 ha
  | Or => exact pw_or1 ha
theorem sw_and {rest : List PySem.Expr} (ha : PT X a (rdT G ca ga)) (hb : PW X (.BoolOp .And (b :: rest) pos) (rdT G cb gb)) : PW X (.BoolOp .And (a :: b :: rest) pos) (rdT G (ca && cb) (andM ga gb)) := PW.imp (pw_and ha hb) fun σ H Q h => rd_and h
theorem sw_or {rest : List PySem.Expr} (ha : PT X a (rdT G ca ga)) (hb : PW X (.BoolOp .Or (b :: rest) pos) (rdT G cb gb)) : PW X (.BoolOp .Or (a :: b :: rest) pos) (rdT G (ca && cb) (orM ga gb)) := PW.imp (pw_or ha hb) fun σ H Q h => rd_or h

/-! ### a and b, a or b, a if t else b: as values -/
def andV (fa fb : M O) : M O := bnd (fzM fa) fun x => match tru x with
    | some true => fb
    | some false => rtn (.d x)
    | none => fun _ => none
def orV (fa fb : M O) : M O := bnd (fzM fa) fun x => match tru x with
    | some false => fb
    | some true => rtn (.d x)
    | none => fun _ => none
theorem rd_then {F1 H1 : Hp} {U1 : List Addr} {ρ ρ1 : Env} {F2 : Hp} {U : List Addr} (g : Good G F H σ ρ U) (x1 : Ext F H U F1 H1 U1) (c1 : ca = true → Sub H H1) {o : O} {ρ' : Env}
    (g1 : Good G F1 H1 σ ρ1 U1) (e : f ρ1 = some (o, ρ'))
    (k : ∀ v F' H' U' W, Good G F' H' σ ρ' U' → RpO G F' H' v o W → (U' ++ W).Nodup → Off F' W → Ext F H U F' H' (U' ++ W) → ((ca && cb) = true → Sub H H') → Q v H') : rd G cb f σ H1 Q :=
  ⟨F1, ρ1, U1, o, ρ', g1, e, fun v F' H' U' W g' r nd off x hc => k v F' H' U' W g' r nd off (x1.trans g.sub x) fun z => by
    rw [Bool.and_eq_true] at z
    exact (c1 z.1).trans (hc z.2)⟩
theorem rd_now {F1 H1 : Hp} {U1 : List Addr} {ρ1 : Env} {U : List Addr} {v : V} {d : D} (g1 : Good G F1 H1 σ ρ1 U1) (r : Rp G F1 v d) (x1 : Ext F H U F1 H1 U1) (c1 : ca = true → Sub H H1)
    (k : ∀ v F' H' U' W, Good G F' H' σ ρ1 U' → RpO G F' H' v (.d d) W → (U' ++ W).Nodup → Off F' W → Ext F H U F' H' (U' ++ W) → ((ca && cb) = true → Sub H H') → Q v H') : Q v H1 :=
  k v F1 H1 U1 [] g1 (.d r) (by simpa using g1.nd) (fun _ h => nomatch h) (by simpa using x1) fun z => by
    rw [Bool.and_eq_true] at z
    exact c1 z.1
theorem se_and (hK : X.K = G.K) {rest : List PySem.Expr} (ha : PE X a (rd G ca fa)) (hb : PE X (.BoolOp .And (b :: rest) pos) (rd G cb fb)) : PE X (.BoolOp .And (a :: b :: rest) pos) (rd G (ca && cb) (andV fa fb)) := PE.imp (pe_andT (pe_fz ha) hb) fun σ H Q h => by
  obtain ⟨F, ρ, U, o, ρ', g, e, k⟩ := h
  obtain ⟨x, ρ1, e1, e⟩ := bnd_some e
  refine ⟨F, ρ, U, x, ρ1, g, e1, fun v1 F1 H1 U1 g1 r1 x1 c1 => ?_⟩
  cases q : tru x with
  | none => simp only [q] at e; cases e
  | some t =>
    simp only [q] at e
    refine ⟨t, tru_of hK g1.sub r1 q, ?_⟩
    cases t with
    | true => rw [if_pos rfl]; exact rd_then (F2 := F) g x1 c1 g1 e k
    | false => rw [if_neg Bool.false_ne_true]; cases e; exact rd_now g1 r1 x1 c1 k
theorem se_or (hK : X.K = G.K) {rest : List PySem.Expr} (ha : PE X a (rd G ca fa)) (hb : PE X (.BoolOp .Or (b :: rest) pos) (rd G cb fb)) : PE X (.BoolOp .Or (a :: b :: rest) pos) (rd G (ca && cb) (orV fa fb)) := PE.imp (pe_orT (pe_fz ha) hb) fun σ H Q h => by
  obtain ⟨F, ρ, U, o, ρ', g, e, k⟩ := h
  obtain ⟨x, ρ1, e1, e⟩ := bnd_some e
  refine ⟨F, ρ, U, x, ρ1, g, e1, fun v1 F1 H1 U1 g1 r1 x1 c1 => ?_⟩
  cases q : tru x with
  | none => simp only [q] at e; cases e
  | some t =>
    simp only [q] at e
    refine ⟨t, tru_of hK g1.sub r1 q, ?_⟩
    cases t with
    | false => rw [if_neg Bool.false_ne_true]; exact rd_then (F2 := F) g x1 c1 g1 e k
    | true => rw [if_pos rfl]; cases e; exact rd_now g1 r1 x1 c1 k
theorem se_one {op : BoolOp} (ha : PE X a (rd G ca fa)) : PE X (.BoolOp op [a] pos) (rd G ca fa) := pe_one ha
theorem se_ife (hc : PT X e3 (rdT G cc ga)) (ha : PE X a (rd G ca fa)) (hb : PE X b (rd G cb fb)) : PE X (.IfExp e3 a b pos) (rd G (cc && (ca && cb)) (bnd ga fun t => if t then fa else fb)) := PE.imp (pe_ifExp hc ha hb) fun σ H Q h => by
  obtain ⟨F, ρ, U, o, ρ', g, e, k⟩ := h
  obtain ⟨x, ρ1, e1, e⟩ := bnd_some e
  refine ⟨F, ρ, U, x, ρ1, g, e1, fun F1 H1 U1 g1 x1 c1 => ?_⟩
  cases x with
  | true =>
    rw [if_pos rfl]
    refine ⟨F1, ρ1, U1, o, ρ', g1, e, fun v F' H' U' W g' r nd off x hc => k v F' H' U' W g' r nd off (x1.trans g.sub x) fun z => ?_⟩
    rw [Bool.and_eq_true, Bool.and_eq_true] at z
    exact (c1 z.1).trans (hc z.2.1)
  | false =>
    rw [if_neg Bool.false_ne_true]
    refine ⟨F1, ρ1, U1, o, ρ', g1, e, fun v F' H' U' W g' r nd off x hc => k v F' H' U' W g' r nd off (x1.trans g.sub x) fun z => ?_⟩
    rw [Bool.and_eq_true, Bool.and_eq_true] at z
    exact (c1 z.1).trans (hc z.2.2)
theorem se_neg (ha : PE X a (rd G ca fa)) : PE X (.UnaryOp .USub a pos) (rd G ca (bnd (fzM fa) fun x => match x with
    | .int i => rtn (.d (.int (-i)))
    | _ => fun _ => none)) := PE.imp (pe_un un_neg (pe_fz ha)) fun σ H Q h => by
  obtain ⟨F, ρ, U, o, ρ', g, e, k⟩ := h
  obtain ⟨x, ρ1, e1, e⟩ := bnd_some e
  refine ⟨F, ρ, U, x, ρ1, g, e1, fun v1 F1 H1 U1 g1 r1 x1 c1 => ?_⟩
  cases x <;> simp only at e <;> try (cases e)
  cases r1
  exact ⟨_, rfl, k _ F1 H1 U1 [] g1 (.d (.int _)) (by simpa using g1.nd) (fun _ h => nomatch h) (by simpa using x1) c1⟩
end
end Pw

/-! PFb: repr, sorted of rows of numbers, sorted(set(..)) of such. -/
namespace Pw
open PySem PySem.Spec PyProof.Rows L2
/-! ### the order -/
theorem lexLt_irrefl : ∀ x : List Int, lexLt x x = false
  | [] => rfl
  | a :: x => by unfold lexLt; rw [if_pos rfl]; exact lexLt_irrefl x
theorem lexLt_asym : ∀ {x y : List Int}, lexLt x y = true → lexLt y x = false
  | [], [], h => rfl
  | [], _ :: _, h => rfl
  | _ :: _, [], h => by cases h
  | a :: x, b :: y, h => by
    unfold lexLt at h ⊢
    by_cases e : a = b
    · rw [if_pos e] at h; rw [if_pos e.symm]; exact lexLt_asym h
    · rw [if_neg e] at h; rw [if_neg (Ne.symm e)]
      have := of_decide_eq_true h
      exact decide_eq_false (by omega)
theorem lexLt_ltr : ∀ {x y z : List Int}, lexLt x y = false → lexLt y z = false → lexLt x z = false
  | [], [], [], _, _ => rfl
  | [], [], _ :: _, _, h => by cases h
  | [], _ :: _, _, h, _ => by cases h
  | _ :: _, [], [], _, _ => rfl
  | _ :: _, [], _ :: _, _, h => by cases h
  | _ :: _, _ :: _, [], _, _ => rfl
  | a :: x, b :: y, c :: z, h, k => by
    unfold lexLt at h k ⊢
    by_cases e : a = b
    · rw [if_pos e] at h
      by_cases f : b = c
      · rw [if_pos f] at k; rw [if_pos (e.trans f)]; exact lexLt_ltr h k
      · rw [if_neg f] at k
        rw [if_neg (by omega)]
        have := of_decide_eq_false k
        exact decide_eq_false (by omega)
    · rw [if_neg e] at h
      have h1 := of_decide_eq_false h
      by_cases f : b = c
      · rw [if_neg (by omega)]
        exact decide_eq_false (by omega)
      · rw [if_neg f] at k
        have h2 := of_decide_eq_false k
        rw [if_neg (by omega)]
        exact decide_eq_false (by omega)
theorem lexLt_anti : ∀ {x y : List Int}, lexLt x y = false → lexLt y x = false → x = y
  | [], [], _, _ => rfl
  | [], _ :: _, h, _ => by cases h
  | _ :: _, [], _, h => by cases h
  | a :: x, b :: y, h, k => by
    unfold lexLt at h k
    by_cases e : a = b
    · rw [if_pos e] at h
      rw [if_pos e.symm] at k
      rw [e, lexLt_anti h k]
    · rw [if_neg e] at h
      rw [if_neg (Ne.symm e)] at k
      have h1 := of_decide_eq_false h
      have h2 := of_decide_eq_false k
      omega
/-- a list that rises -/
def Rises {α : Type} (lt : α → α → Bool) (l : List α) : Prop := l.Pairwise fun x y => lt y x = false
theorem srtIn_perm {α : Type} (lt : α → α → Bool) (x : α) : ∀ l : List α, (srtIn lt x l).Perm (x :: l)
  | [] => List.Perm.refl _
  | y :: r => by
    unfold srtIn
    split
    · exact ((srtIn_perm lt x r).cons y).trans (List.Perm.swap x y r)
    · exact List.Perm.refl _
theorem srt_perm {α : Type} (lt : α → α → Bool) : ∀ l : List α, (srt lt l).Perm l
  | [] => List.Perm.refl _
  | x :: r => (srtIn_perm lt x (srt lt r)).trans ((srt_perm lt r).cons x)
theorem srtIn_rises {α : Type} {lt : α → α → Bool} (as : ∀ x y, lt x y = true → lt y x = false) (tr : ∀ x y z, lt x y = false → lt y z = false → lt x z = false) (x : α) : ∀ {l : List α}, Rises lt l → Rises lt (srtIn lt x l)
  | [], _ => List.pairwise_singleton _ _
  | y :: r, h => by
    obtain ⟨h1, h2⟩ := List.pairwise_cons.mp h
    unfold srtIn
    by_cases e : lt y x = true
    · rw [if_pos e]
      refine List.pairwise_cons.mpr ⟨fun z hz => ?_, srtIn_rises as tr x h2⟩
      rcases List.mem_cons.mp ((srtIn_perm lt x r).mem_iff.mp hz) with q | q
      · rw [q]; exact as _ _ e
      · exact h1 z q
    · rw [if_neg e]
      have e' : lt y x = false := by simpa using e
      refine List.pairwise_cons.mpr ⟨fun z hz => ?_, h⟩
      rcases List.mem_cons.mp hz with q | q
      · rw [q]; exact e'
      · exact tr _ _ _ (h1 z q) e'
theorem srt_rises {α : Type} {lt : α → α → Bool} (as : ∀ x y, lt x y = true → lt y x = false) (tr : ∀ x y z, lt x y = false → lt y z = false → lt x z = false) : ∀ l : List α, Rises lt (srt lt l)
  | [] => List.Pairwise.nil
  | x :: r => srtIn_rises as tr x (srt_rises as tr r)
theorem rises_uniq {α : Type} {lt : α → α → Bool} (anti : ∀ x y, lt x y = false → lt y x = false → x = y) {l m : List α} (hl : Rises lt l) (hm : Rises lt m) (p : l.Perm m) : l = m :=
  List.Perm.eq_of_pairwise (le := fun x y => lt y x = false) (fun a b _ _ h k => anti a b k h) hl hm p
theorem srt_is {l m : List (List Int)} (h : Rises lexLt l) (p : l.Perm m) : l = srt lexLt m := rises_uniq (lt := lexLt) (fun _ _ => lexLt_anti) h (srt_rises (lt := lexLt) (fun _ _ => lexLt_asym) (fun _ _ _ => lexLt_ltr) m) (p.trans (srt_perm lexLt m).symm)
theorem srtI_is {l m : List Int} (h : l.Pairwise (· ≤ ·)) (p : l.Perm m) : l = srt (fun a b => decide (a < b)) m := by
  have h' : Rises (fun a b => decide (a < b)) l := h.imp fun {x y} q => decide_eq_false (by omega)
  refine rises_uniq (fun x y a b => ?_) h' (srt_rises (fun x y a => ?_) (fun x y z a b => ?_) m) (p.trans (srt_perm _ m).symm)
  · have := of_decide_eq_false a; have := of_decide_eq_false b; omega
  · have := of_decide_eq_true a; exact decide_eq_false (by omega)
  · have := of_decide_eq_false a; have := of_decide_eq_false b; exact decide_eq_false (by omega)

/-! ### rows in the heap -/
def intAt : Value → Int
  | .int i _ => i
  | _ => 0
/-- the row that stands at a value -/
def rowAt (h : Heap) : Value → List Int
  | .ref a => match h.get? a with
    | some o => match o.data with
      | .seq xs _ => xs.toList.map intAt
      | _ => []
    | none => []
  | _ => []
def IsRow (h : Heap) (v : Value) (ns : List Int) : Prop := ∃ a o its n, v = .ref a ∧ h.get? a = some o ∧ o.cls = .type "tuple" ∧ o.data = .seq its n ∧ IntsAre its.toList ns
theorem ints_at : ∀ {us : List Value} {ns : List Int}, IntsAre us ns → us.map intAt = ns
  | _, _, .nil => rfl
  | _, _, .cons _ _ r => by rw [List.map_cons, ints_at r]; rfl
theorem IsRow.at {h : Heap} {v : Value} {ns : List Int} (r : IsRow h v ns) : rowAt h v = ns := by
  obtain ⟨a, o, its, n, rfl, ho, hc, hd, hi⟩ := r
  unfold rowAt
  simp only [ho, hd]
  exact ints_at hi
theorem IsRow.keeps {h h' : Heap} {v : Value} {ns : List Int} (p : IsRow h v ns) (k : ∀ b o, h.get? b = some o → o.cls = .type "tuple" → h'.get? b = some o) : IsRow h' v ns := by
  obtain ⟨a, o, its, n, e, ho, hc, hd, hi⟩ := p
  exact ⟨a, o, its, n, e, k _ _ ho hc, hc, hd, hi⟩
section
variable {prog : Program} {w : World} {A : Around} {E : Value → Shared → Prop} {s : Shared}
theorem lex_walk {Q : Bool → Shared → Prop} {fin : Bool} : ∀ {xs ys : List Value} {ns ms : List Int} (i : Nat), IntsAre xs ns → IntsAre ys ms → fin = decide (ns.length < ms.length) → Q (lexLt ns ms) s → PySem.W.KatLex prog w A true fin Q (xs.zip ys) i s
  | _, _, _, _, _, .nil, .nil, hf, h => by
    subst hf
    exact PySem.W.kat_nil h
  | _, _, _, _, _, .nil, .cons _ _ _, hf, h => by
    subst hf
    exact PySem.W.kat_nil (by simpa [lexLt] using h)
  | _, _, _, _, _, .cons _ _ _, .nil, hf, h => by
    subst hf
    exact PySem.W.kat_nil (by simpa [lexLt] using h)
  | _, _, _, _, i, .cons x t r1, .cons y u r2, hf, h => by
    rw [List.zip_cons_cons]
    unfold lexLt at h
    refine PySem.W.kat_cons (SeqAt.EqAt.int_int x t y u prog w _ _ ?_)
    refine PySem.W.kat_go (fun e1 => ?_) (fun e1 => ?_)
    · have ex : x = y := by simpa using e1
      rw [if_pos ex] at h
      refine PySem.W.kat_yes (lex_walk (i + 1) r1 r2 ?_ h)
      rw [hf]
      simp
    · have ex : ¬ x = y := by simpa using e1
      rw [if_neg ex] at h
      refine PySem.W.kat_no ?_
      cases hb : (true && i == 0) with
      | true => exact oneLt_int h
      | false => exact PySem.W.kat_one _ _ (PyProof.Rows.lt_int h)
def ltR (h : Heap) (u v : Value) : Bool := lexLt (rowAt h u) (rowAt h v)
theorem swo_row (h : Heap) : SrtO.Swo (ltR h) := ⟨fun x y e => lexLt_asym e, fun x y z e f => lexLt_ltr f e⟩
theorem row_cmp {vs : List Value} {h0 : Heap} (hp : ∀ v ∈ vs, IsRow s.heap v (rowAt h0 v)) : SrtO.Cmp prog w A s (tuples' true) (fun p => p.1 ∈ vs) (SrtO.lt2 (ltR h0)) := by
  intro p q hm hm'
  have h1 := hp _ hm
  have h2 := hp _ hm'
  show wpAny (model prog w) A (keyLt' (tuples' true) p.1 q.1) (fun r s' => s' = s ∧ r = lexLt (rowAt h0 p.1) (rowAt h0 q.1)) (fun _ _ => False) s
  generalize rowAt h0 p.1 = x at h1 ⊢
  generalize rowAt h0 q.1 = y at h2 ⊢
  obtain ⟨a, o, its, n, e, ho, hc, hd, hi⟩ := h1
  obtain ⟨a', o', its', n', e', ho', hc', hd', hi'⟩ := h2
  rw [e, e']
  refine PySem.W.kat_lt ho hd ho' hd' ?_
  refine lex_walk 0 hi hi' ?_ ⟨rfl, rfl⟩
  have l1 : its.size = x.length := by rw [← Array.length_toList]; exact hi.length
  have l2 : its'.size = y.length := by rw [← Array.length_toList]; exact hi'.length
  rw [l1, l2]
theorem kat_rows {h : Heap} : ∀ {vs : List Value}, (∀ v ∈ vs, ∃ n ns, IsRow h v (n :: ns)) → ∃ fs, PySem.W.KatTups h vs fs ∧ fs.length = vs.length ∧ ∀ f ∈ fs, ∃ x t, f = Value.int x t
  | [], _ => ⟨[], PySem.W.KatTups.nil, rfl, fun _ h => nomatch h⟩
  | v :: vs, hv => by
    obtain ⟨fs, h1, h2, h3⟩ := kat_rows (vs := vs) fun u hu => hv u (List.mem_cons_of_mem _ hu)
    obtain ⟨n, ns, a, o, its, m, rfl, ho, hc, hd, hi⟩ := hv v List.mem_cons_self
    have hf : ∃ t, its[0]? = some (.int n t) := by
      cases hl : its.toList with
      | nil => rw [hl] at hi; cases hi
      | cons u us =>
        rw [hl] at hi
        cases hi with
        | cons _ t _ => exact ⟨t, by rw [← Array.getElem?_toList, hl]; rfl⟩
    obtain ⟨t, hf⟩ := hf
    refine ⟨.int n t :: fs, PySem.W.KatTups.cons ho hc hd hf h1, by simp [h2], fun f hm => ?_⟩
    rcases List.mem_cons.mp hm with e | e
    · exact ⟨n, t, e⟩
    · exact h3 f e
theorem rows_sortable {a : Addr} {vs : List Value} {h0 : Heap} (hl : 0 < vs.length) (hp : ∀ v ∈ vs, IsRow s.heap v (rowAt h0 v)) (hne : ∀ v ∈ vs, rowAt h0 v ≠ []) (ha : ∀ o, s.heap.get? a = some o → o.cls ≠ .type "tuple") : SrtO.SortableO prog w A s a vs (ltR h0) := by
  intro h' keep
  have hp' : ∀ v ∈ vs, IsRow h' v (rowAt h0 v) := fun v hm => (hp v hm).keeps fun b o e c => keep b o (fun z => by subst z; exact ha o e c) e
  obtain ⟨fs, h1, h2, h3⟩ := kat_rows (h := h') (vs := vs) fun v hm => by
    have := hp' v hm
    cases q : rowAt h0 v with
    | nil => exact absurd q (hne v hm)
    | cons n ns => rw [q] at this; exact ⟨n, ns, this⟩
  refine ⟨tuples' true, fun Q E hq => ?_, row_cmp hp'⟩
  refine PySem.W.kat_kind (T := .type "int") h1 (by omega) (fun f hm => ?_) (by rfl) ?_
  · obtain ⟨x, t, rfl⟩ := h3 f hm
    exact PySem.W.Looks.now
  · have e : (Value.type "int" != Value.type "tuple") = true := by first | decide +kernel | rfl | decide
    rw [e]
    exact hq
/-- sorted(l), l rows of numbers -/
theorem sorted_rows {l : Addr} {vs : List Value} {Q : Value → Shared → Prop} (hl : s.heap.IsList l vs.toArray) (hz : vs.length ≤ sizeLine) (hp : ∀ v ∈ vs, IsRow s.heap v (rowAt s.heap v)) (hne : 2 ≤ vs.length → ∀ v ∈ vs, rowAt s.heap v ≠ [])
    (h : ∀ (h' : Heap) (d : Addr) (out : List Value), SrtO.Srtd (ltR s.heap) out → out.Perm vs → (∀ b o, s.heap.get? b = some o → h'.get? b = some o) → s.heap.objs.size ≤ d → (∃ n, h'.get? d = some (seqObj "list" out.toArray n)) → Q (.ref d) { s with heap := h' }) :
    wpAny (model prog w) A (call (.builtin "sorted") [.ref l]) Q E s := by
  refine SrtO.sorted_ord (swo_row s.heap) hl hz (fun h2 h₁ a ha kk => ?_) fun out hs hb => ?_
  · refine rows_sortable (s := { s with heap := h₁ }) (by omega) (fun v hm => (hp v hm).keeps fun b o e _ => (kk b o e).2) (hne h2) fun o e => ?_
    have e' : some o = some (seqObj "list" vs.toArray 0) := e.symm.trans ha
    cases e'
    intro c
    exact absurd (Value.type.inj c) (by decide)
  · exact h _ _ out hs hb.perm (fun b o e => sortedAll_old e) (Nat.le_succ _) (sortedAll_at s.heap vs out.toArray)
end
/-! ### as rules of the layer -/
section
variable {X : Cx}
/-- a value that is a row -/
def RowV (K : PySem.W.Frag) (H : Hp) (x : V) (ns : List Int) : Prop := ∃ t, x = .ref t ∧ SqT K H t (ns.map V.int)
inductive RowsV (K : PySem.W.Frag) (H : Hp) : List V → List (List Int) → Prop
  | nil : RowsV K H [] []
  | cons {x : V} {xs : List V} {r : List Int} {rs : List (List Int)} : RowV K H x r → RowsV K H xs rs → RowsV K H (x :: xs) (r :: rs)
theorem RowsV.mem {K : PySem.W.Frag} {H : Hp} : ∀ {xs : List V} {rs : List (List Int)}, RowsV K H xs rs → ∀ x ∈ xs, ∃ r ∈ rs, RowV K H x r
  | _, _, .nil, x, h => nomatch h
  | _, _, .cons a b, x, h => by
    rcases List.mem_cons.mp h with e | e
    · subst e; exact ⟨_, List.mem_cons_self, a⟩
    · obtain ⟨r, h1, h2⟩ := b.mem x e; exact ⟨r, List.mem_cons_of_mem _ h1, h2⟩
theorem vals_intsAre : ∀ {ns : List Int} {us : List Value}, Vals (ns.map V.int) us → IntsAre us ns
  | [], _, .nil => .nil
  | n :: ns, _, .cons r t => by
    obtain ⟨k, rfl⟩ := r
    exact .cons n k (vals_intsAre t)
variable {pins : List (Addr × Obj)} {σ : L2.St} {H : Hp} {s : Shared}
theorem row_is (I : Inv X pins σ H s) {t : Addr} {ns : List Int} (h : SqT X.K H t (ns.map V.int)) : IsRow s.heap (.ref t) ns := by
  obtain ⟨its, rv, ⟨o, ho, hc, n, hd⟩, _⟩ := I.tuple h
  exact ⟨t, o, its.toArray, n, rfl, ho, hc, hd, by simpa using vals_intsAre rv⟩
theorem rows_are (I : Inv X pins σ H s) : ∀ {xs : List V} {us : List Value} {rs : List (List Int)}, Vals xs us → RowsV X.K H xs rs → us.map (rowAt s.heap) = rs ∧ (∀ u ∈ us, IsRow s.heap u (rowAt s.heap u)) ∧ xs = us.map backV ∧ ∀ u ∈ us, ∃ a, u = Value.ref a
  | _, _, _, .nil, .nil => ⟨rfl, (by intro u h; cases h), rfl, (by intro u h; cases h)⟩
  | _, _, _, .cons r rr, .cons q qq => by
    obtain ⟨t, rfl, ht⟩ := q
    cases r
    obtain ⟨h1, h2, h3, h4⟩ := rows_are I rr qq
    have hr := row_is I ht
    refine ⟨by rw [List.map_cons, h1, hr.at], fun u hu => ?_, by rw [List.map_cons, ← h3]; rfl, fun u hu => ?_⟩
    · rcases List.mem_cons.mp hu with e | e
      · subst e; rw [hr.at]; exact hr
      · exact h2 u e
    · rcases List.mem_cons.mp hu with e | e
      · exact ⟨t, e⟩
      · exact h4 u e
theorem rowsV_back (I : Inv X pins σ H s) {xs : List V} {us : List Value} {rs : List (List Int)} (rv : Vals xs us) (hr : RowsV X.K H xs rs) : ∀ {out : List Value}, (∀ u ∈ out, u ∈ us) → RowsV X.K H (out.map backV) (out.map (rowAt s.heap))
  | [], _ => .nil
  | u :: out, h => by
    refine .cons ?_ (rowsV_back I rv hr fun v hv => h v (List.mem_cons_of_mem _ hv))
    have hu := h u List.mem_cons_self
    obtain ⟨h1, h2, h3, h4⟩ := rows_are I rv hr
    obtain ⟨a, rfl⟩ := h4 u hu
    have hm : V.ref a ∈ xs := by rw [h3]; exact List.mem_map.mpr ⟨_, hu, rfl⟩
    obtain ⟨r, _, t, e, ht⟩ := hr.mem _ hm
    cases e
    exact ⟨a, rfl, by rw [(row_is I ht).at]; exact ht⟩
/-- sorted(xs), xs a list of rows of numbers -/
def rSortedR (K : PySem.W.Frag) : List V → Hp → VK → Prop := fun vs H Q => ∃ (a : Addr) (xs : List V) (rs : List (List Int)), vs = [V.ref a] ∧ SqL K H a xs ∧ RowsV K H xs rs ∧ (2 ≤ rs.length → ∀ r ∈ rs, r ≠ []) ∧
  ∀ (L : List (V × List Int)) (p : Addr), L.Perm (xs.zip rs) → L.map (·.2) = srt lexLt rs → H p = none → Q (.ref p) (upd H p (.lst (L.map (·.1))))
theorem RowsV.length {K : PySem.W.Frag} {H : Hp} : ∀ {xs : List V} {rs : List (List Int)}, RowsV K H xs rs → xs.length = rs.length
  | _, _, .nil => rfl
  | _, _, .cons _ b => congrArg (· + 1) b.length
theorem cr_sortedR : CallR X (.builtin "sorted") (rSortedR X.K) := by
  intro pins s σ H vs us Q I r h
  obtain ⟨a, xs, rs, rfl, hs, hr, hne, q⟩ := h
  obtain ⟨its, rv, hl, hz⟩ := I.list hs
  rw [Vals.ref1 r]
  obtain ⟨h1, h2, h3, h4⟩ := rows_are I rv hr
  have hlen : its.length = rs.length := by rw [← h1, List.length_map]
  refine sorted_rows hl.isList (by rw [← rv.length]; exact hz) h2 (fun l2 v hv => ?_) fun h' d out hs hp kp hd hn => ?_
  · exact hne (by omega) _ (by rw [← h1]; exact List.mem_map.mpr ⟨v, hv, rfl⟩)
  · have hsub : ∀ u ∈ out, u ∈ its := fun u hu => hp.mem_iff.mp hu
    have hz2 : its.map (fun u => (backV u, rowAt s.heap u)) = xs.zip rs := by
      have e1 : xs.zip rs = (its.map backV).zip (its.map (rowAt s.heap)) := by rw [← h3, h1]
      rw [e1, List.zip_map', ]
    have hpz : (out.map (fun u => (backV u, rowAt s.heap u))).Perm (xs.zip rs) := by rw [← hz2]; exact hp.map _
    have hsr : out.map (rowAt s.heap) = srt lexLt rs := by
      refine srt_is (List.pairwise_map.mpr (List.Pairwise.imp (fun {x y} e => e) hs)) ?_
      rw [← h1]
      exact hp.map _
    obtain ⟨n, hn⟩ := hn
    have hback : Vals (out.map backV) out := vals_back fun u hu => h4 u (hsub u hu)
    have fin := q (out.map (fun u => (backV u, rowAt s.heap u))) d hpz (by rw [List.map_map]; exact hsr) (I.hok.fresh hd)
    rw [List.map_map] at fin
    refine ⟨.ref d, upd H d (.lst (out.map backV)), I.laid (t' := s.toks) kp hd ⟨?_, out, n, hback, hn⟩, rfl, fin⟩
    rw [List.length_map, hp.length_eq, ← rv.length]
    exact hz
/-! ### sorted(set(rows)) -/
theorem isRow_of {P : Program} {w : World} {h : Heap} {k : List Int} {b : Addr} (x : IsT P w h k b) : IsRow h (.ref b) k := by
  obtain ⟨o, items, n, ho, hc, hd, hi⟩ := x
  exact ⟨b, o, items, n, rfl, ho, hc, hd, ints_of_items hi⟩
theorem sorted_setR {P : Program} {w : World} {A : Around} {E : Value → Shared → Prop} {s : Shared} {a : Addr} {L : List (Addr × List Int)} {es : Array (Int × Value)} {ep : Nat} {t : SetTable} {Q : Value → Shared → Prop} (R : SetTR P w s.heap a L es ep t) (hh : A.handled = none)
    (hne : ∀ p ∈ L, p.2 ≠ [])
    (hQ : ∀ s' p (out : Array Value) (c : Nat) (L' : List (Addr × List Int)), (∀ b o, s.heap.get? b = some o → s'.heap.get? b = some o) → s'.gens = s.gens → s'.os = s.os → s.heap.objs.size ≤ p →
      s'.heap.get? p = some (seqObj "list" out c) → out.toList = L'.map (fun q => Value.ref q.1) → L'.Perm L → L'.map (·.2) = srt lexLt (L.map (·.2)) → Q (.ref p) s') :
    wpAny (model P w) A (call (.builtin "sorted") [.ref a]) Q E s := by
  obtain ⟨o, ho, hex, hd⟩ := R.ob
  have hsz := R.size
  have hfew := R.few
  refine Calls.call_function_entry kind_sorted plain_sorted entry_sorted (args_sorted1 _) ?_
  unfold Builtin.«sorted»
  refine wpAny_bind (m := checkCount "sorted" 1 1 _) (wpAny_pure ?_)
  refine wpAny_bind (collect_set (A := A.in1) hh ⟨o, ho, hex.1, hd⟩ R.fits (by unfold scanBound; omega) R.tab.ris R.led fun s1 vs k1 hz g1 o1 pm => ?_)
  have hes : es.toList.map (·.2) = L.map fun q => Value.ref q.1 := by
    rw [R.rows]
    unfold rowsOf
    rw [List.map_map] <;> rfl
  rw [hes] at pm
  have ord : ∀ vs : List Value, (∀ v ∈ vs, ∃ q ∈ L, v = Value.ref q.1) → ∃ L1 : List (Addr × List Int), vs = L1.map (fun q => Value.ref q.1) ∧ ∀ q ∈ L1, q ∈ L := by
    intro vs
    induction vs with
    | nil => intro _; exact ⟨[], rfl, fun q hq => (by cases hq)⟩
    | cons v vs ih =>
      intro hv
      obtain ⟨q, hq, e⟩ := hv v List.mem_cons_self
      obtain ⟨L1, e1, hs⟩ := ih fun u hu => hv u (List.mem_cons_of_mem _ hu)
      refine ⟨q :: L1, by rw [List.map_cons, e, e1], fun r hr => ?_⟩
      rcases List.mem_cons.mp hr with z | z
      · rw [z]; exact hq
      · exact hs r z
  have one : ∀ q ∈ L, ∀ r ∈ L, q.1 = r.1 → q = r := fun q hq r hr e => by
    have a1 := R.tup q hq
    have a2 := R.tup r hr
    rw [e] at a1
    have e2 : q.2 = r.2 := a1.inj a2
    exact Prod.ext e e2
  have perm_of : ∀ L1 : List (Addr × List Int), (∀ q ∈ L1, q ∈ L) → (L1.map (fun q => Value.ref q.1)).Perm (L.map fun q => Value.ref q.1) → L1.Perm L := by
    intro L1 hs pm1
    have nL : L.Nodup := L2.nodup_of_map R.nd
    have nref : (L.map fun q => Value.ref q.1).Nodup := by
      refine List.pairwise_map.mpr (List.Pairwise.imp_of_mem (fun {q r} hq hr hne e => ?_) nL)
      injection e with e
      exact hne (one q hq r hr e)
    have n1 : L1.Nodup := L2.nodup_of_map (pm1.nodup_iff.mpr nref)
    refine (List.perm_ext_iff_of_nodup n1 nL).mpr fun q => ⟨hs q, fun hq => ?_⟩
    have hm : Value.ref q.1 ∈ L1.map (fun q => Value.ref q.1) := pm1.mem_iff.mpr (List.mem_map.mpr ⟨q, hq, rfl⟩)
    obtain ⟨r, hr, e⟩ := List.mem_map.mp hm
    injection e with e
    rw [← one r (hs r hr) q hq e]
    exact hr
  have hvl : vs.length < 64 := by rw [pm.length_eq, List.length_map]; exact hfew
  refine wpAny_bind (wpAny_newList ?_ (by rw [sizeLine_eq]; omega))
  have hoL : (s1.heap.push (seqObj "list" vs.toArray 0)).get? s1.heap.objs.size = some (seqObj "list" vs.toArray 0) := Heap.get?_push_size _ rfl
  have tk : ∀ q ∈ L, IsRow (s1.heap.push (seqObj "list" vs.toArray 0)) (.ref q.1) q.2 := fun q hq => isRow_of (P := P) (w := w) (isT_keep (R.tup q hq) fun b u e => Heap.get?_push_of_some _ (k1 b u e))
  have x : ∀ v ∈ vs, IsRow (s1.heap.push (seqObj "list" vs.toArray 0)) v (rowAt (s1.heap.push (seqObj "list" vs.toArray 0)) v) ∧ rowAt (s1.heap.push (seqObj "list" vs.toArray 0)) v ≠ [] := fun v hv => by
    obtain ⟨q, hq, e⟩ := List.mem_map.mp (pm.mem_iff.mp hv)
    have := tk q hq
    rw [← e, this.at]
    exact ⟨this, hne q hq⟩
  refine wpAny_bind (wpAny_holding (wpAny_call_entry slot_list_sort ⟨_, hoL, rfl⟩ entry_list_sort
    (SrtO.list_sort_ord (s := { s1 with heap := s1.heap.push (seqObj "list" vs.toArray 0) }) (swo_row (s1.heap.push (seqObj "list" vs.toArray 0))) hoL (by rw [sizeLine_eq]; omega) (fun h2 => rows_sortable (by omega) (fun v hv => (x v hv).1) (fun v hv => (x v hv).2) fun o e => ?_) fun out a2 a1 => ⟨_, rfl, ?_⟩) (args_list_sort _)))
  · have e' : some o = some (seqObj "list" vs.toArray 0) := e.symm.trans hoL
    cases e'
    intro c
    exact absurd (Value.type.inj c) (by decide)
  obtain ⟨c, hc⟩ := sortedHeap_at (vs := vs) (out := out.toArray) hoL
  obtain ⟨L', e', hs'⟩ := ord out fun v hv => by
    obtain ⟨q, hq, e⟩ := List.mem_map.mp (pm.mem_iff.mp (a1.perm.mem_iff.mp hv))
    exact ⟨q, hq, e.symm⟩
  have pL : L'.Perm L := perm_of L' hs' (by rw [← e']; exact a1.perm.trans pm)
  have rows : L'.map (·.2) = out.map (rowAt (s1.heap.push (seqObj "list" vs.toArray 0))) := by
    rw [e', List.map_map]
    refine List.map_congr_left fun q hq => ?_
    exact (tk q (hs' q hq)).at.symm
  have srtd : L'.map (·.2) = srt lexLt (L.map (·.2)) := by
    refine srt_is ?_ (pL.map _)
    rw [rows]
    exact List.pairwise_map.mpr (List.Pairwise.imp (fun {x y} e => e) a2)
  refine wpAny_pure ⟨_, rfl, hQ _ s1.heap.objs.size out.toArray c L' (fun b u e => ?_) g1 o1 hz hc (by simpa using e') pL srtd⟩
  have q := k1 b u e
  have hlt := Heap.lt_size q
  show (sortedHeap (s1.heap.push (seqObj "list" vs.toArray 0)) s1.heap.objs.size vs out.toArray).get? b = some u
  rw [sortedHeap_old (Nat.ne_of_lt hlt) (by rw [size_push']; exact Nat.lt_succ_of_lt hlt)]
  exact Heap.get?_push_of_some _ q
/-- sorted(set(rows)) -/
def rSortedSet2 (K : PySem.W.Frag) (P : Program) (w : World) : List V → Hp → VK → Prop := fun vs H Q => ∃ (a : Addr) (L : List (Addr × List Int)), vs = [V.ref a] ∧ H a = some (SetTO P w a L) ∧ (∀ p ∈ L, SqT K H p.1 (p.2.map V.int)) ∧ (∀ p ∈ L, p.2 ≠ []) ∧
  ∀ (L' : List (Addr × List Int)) (p : Addr), (L.map (·.2)).Nodup → L'.Perm L → L'.map (·.2) = srt lexLt (L.map (·.2)) → L'.length < 64 → H p = none → Q (.ref p) (upd H p (.lst (L'.map fun q => V.ref q.1)))
theorem rowsV_list {K : PySem.W.Frag} {H : Hp} : ∀ {L : List (Addr × List Int)}, (∀ p ∈ L, SqT K H p.1 (p.2.map V.int)) → RowsV K H (L.map fun q => V.ref q.1) (L.map (·.2))
  | [], _ => .nil
  | p :: L, h => .cons ⟨p.1, rfl, h p List.mem_cons_self⟩ (rowsV_list fun q hq => h q (List.mem_cons_of_mem _ hq))
theorem cr_sortedSet2 (hc : X.calm = true) : CallR X (.builtin "sorted") (rSortedSet2 X.K X.prog X.w) := by
  intro pins s σ H vs us Q I r h
  obtain ⟨a, L, rfl, ha, hk, hne, q⟩ := h
  have R0 : SetT0 X.prog X.w s.heap a L := (I.hok a _ ha).1
  obtain ⟨es, ep, t, R⟩ := R0.full fun p hp => I.isT (hk p hp)
  rw [Vals.ref1 r]
  refine sorted_setR R (I.ok.hd hc) hne fun s' p out c L' k g o hp hg hout pm pw => ?_
  have hfew : L'.length < 64 := by rw [pm.length_eq]; exact R.few
  have hlen : (L'.map fun q => V.ref q.1).length ≤ sizeLine := by rw [List.length_map, sizeLine_eq]; omega
  have hn : H p = none := I.hok.fresh hp
  have hv : Vals (L'.map fun q => V.ref q.1) out.toList := by rw [hout]; exact vals_of_refs L'
  have J : Inv X pins σ (upd H p (.lst (L'.map fun q => V.ref q.1))) { s with heap := s'.heap, gens := s'.gens, drawn := s'.drawn, toks := s'.toks } :=
    I.call (ch := []) (Un.laid k hp hn) (I.hok.laid k hp ⟨hlen, out.toList, c, hv, hg⟩) (by rw [g]; exact I.bare) (fun _ z => nomatch z)
  have e : s' = { s with heap := s'.heap, gens := s'.gens, drawn := s'.drawn, toks := s'.toks } := by
    cases s'
    cases s
    cases o
    rfl
  rw [e]
  exact ⟨.ref p, _, J, rfl, q L' p R.nd pm pw hfew hn⟩
/-! ### repr, str -/
def rRepr (K : PySem.W.Frag) : List V → Hp → VK → Prop := fun xs H Q => ∃ x d, xs = [x] ∧ Dp K H x d ∧ SeqAt.shaped d = true ∧ d.showable = true ∧ d.shown.length ≤ sizeLine ∧ Q (.str d.shown) H
theorem call_reprD (hg : X.A.guards = some []) (hu : X.A.units + 100 < cLine) : CallR X (.builtin "repr") (rRepr X.K) := by
  intro pins s σ H xs us Q I r h
  obtain ⟨x, d, rfl, hd, hs, hsh, hz, q⟩ := h
  obtain ⟨u, rfl, ru⟩ := vals1 r
  obtain ⟨as, rd⟩ := Dp.reads I d x u hd ru
  have hcl := SeqAt.canLay_of_shaped hs
  have hdep : d.depth ≤ 64 := by
    unfold SeqAt.shaped at hs
    rw [Bool.and_eq_true] at hs
    exact of_decide_eq_true hs.2
  cases rd with
  | none => exact PySem.P.repr_of_none ⟨.str _, H, I.tok _, ⟨_, rfl⟩, q⟩
  | bool b => exact PySem.P.repr_of_bool ⟨.str _, H, I.tok _, ⟨_, rfl⟩, q⟩
  | int i t => exact PySem.P.repr_of_int (of_decide_eq_true hsh) ⟨.str _, H, I.tok _, ⟨_, rfl⟩, q⟩
  | str z t => exact PySem.P.repr_of_str ⟨.str _, H, I.tok _, ⟨_, rfl⟩, q⟩ hz
  | list h1 h2 h3 h4 =>
    refine repr_of_reads' (.list h1 h2 h3 h4) hsh (PyData.noDict_hsm (PyData.hasDict_of_canLay _ hcl)) hg (by omega) (fun _ _ e => e) (fun h' u tk k => ?_) hz
    exact ⟨.str _, H, I.kept (t' := tk) k, ⟨_, rfl⟩, q⟩
  | tuple h1 h2 h3 h4 =>
    refine repr_of_reads' (.tuple h1 h2 h3 h4) hsh (PyData.noDict_hsm (PyData.hasDict_of_canLay _ hcl)) hg (by omega) (fun _ _ e => e) (fun h' u tk k => ?_) hz
    exact ⟨.str _, H, I.kept (t' := tk) k, ⟨_, rfl⟩, q⟩
  | dict h1 h2 h3 h4 h5 => simp [PyData.canLay0] at hcl
/-! repr of a dict of scalars -/
inductive SclV : V → PyData → Prop
  | non : SclV .non .none
  | bl (b : Bool) : SclV (.bl b) (.bool b)
  | int (i : Int) : SclV (.int i) (.int i)
  | str (s : Str) : SclV (.str s) (.str s)
inductive SclK : List (Key × V) → List (PyData × PyData) → Prop
  | nil : SclK [] []
  | cons {k : Key} {v : V} {p q : PyData} {kvs : List (Key × V)} {l : List (PyData × PyData)} : SclV (kV k) p → SclV v q → SclK kvs l → SclK ((k, v) :: kvs) ((p, q) :: l)
theorem scl_reads {h : Heap} {v : V} {p : PyData} {u : Value} (c : SclV v p) (r : RelV v u) : Reads h u p [] := by
  cases c with
  | non => cases r; exact .none
  | bl b => cases r; exact .bool b
  | int i => obtain ⟨t, rfl⟩ := r; exact .int i t
  | str s => obtain ⟨t, rfl⟩ := r; exact .str s t
theorem kV_of {P : Program} {w : World} {k : Key} {u : Value} (h : (mixKind P w).is k u = true) : RelV (kV k) u := by
  rcases keyIs_shape (show keyIs k u = true from h) with ⟨i, t, rfl, rfl⟩ | ⟨x, t, rfl, rfl⟩
  · exact ⟨t, rfl⟩
  · exact ⟨t, rfl⟩
theorem sclK_reads {P : Program} {w : World} {h : Heap} : ∀ {kvs : List (Key × V)} {l : List (PyData × PyData)} {vs : List (Key × Value)} {es : List DictEntry}, SclK kvs l → KV kvs vs → Pairs (mixKind P w) es vs →
    ReadsAll h (es.map (·.key)) (l.map (·.1)) [] ∧ ReadsAll h (es.map (·.val)) (l.map (·.2)) []
  | _, _, _, _, .nil, r, p => by
    cases r
    cases p
    exact ⟨.nil, .nil⟩
  | _, _, _, _, .cons c1 c2 cs, r, p => by
    cases r with
    | cons h1 h2 =>
      cases p with
      | cons p1 p2 p3 =>
        obtain ⟨i1, i2⟩ := sclK_reads (h := h) cs h2 p3
        obtain ⟨e1, e2⟩ := h1
        dsimp only at e1 e2
        have rk : RelV (kV _) _ := kV_of p1
        rw [← e1] at rk
        refine ⟨?_, ?_⟩
        · exact .cons (as := []) (bs := []) (scl_reads c1 rk) i1
        · have e3 := e2
          rw [← p2] at e3
          exact .cons (as := []) (bs := []) (scl_reads c2 e3) i2
def rReprK : List V → Hp → VK → Prop := fun xs H Q => ∃ a kvs l, xs = [.ref a] ∧ H a = some (.dK kvs) ∧ SclK kvs l ∧ PyData.showableKv l = true ∧ (PyData.shown (.dict l)).length ≤ sizeLine ∧ Q (.str (PyData.shown (.dict l))) H
theorem scl_depth {v : V} {p : PyData} (c : SclV v p) : p.depth ≤ 1 := by cases c <;> simp [PyData.depth]
theorem sclK_depth : ∀ {kvs : List (Key × V)} {l : List (PyData × PyData)}, SclK kvs l → PyData.depthKv l ≤ 1
  | _, _, .nil => Nat.zero_le _
  | _, _, .cons c1 c2 cs => by
    have a := scl_depth c1
    have b := scl_depth c2
    have c := sclK_depth cs
    simp only [PyData.depthKv]
    omega
theorem call_reprK (hg : X.A.guards = some []) (hu : X.A.units + 100 < cLine) : CallR X (.builtin "repr") rReprK := by
  intro pins s σ H xs us Q I r h
  obtain ⟨a, kvs, l, rfl, hd, hs, hsh, hz, q⟩ := h
  rw [Vals.ref1 r]
  obtain ⟨z, hm, vs, rel, o, es, ep, ho, hx, hdt, _, hp, _⟩ := dk_of I.hok hd
  obtain ⟨r1, r2⟩ := sclK_reads (h := s.heap) hs rel hp
  have rd : Reads s.heap (.ref a) (.dict l) (a :: [] ++ []) := .dict ho hx.1 hdt r1 r2
  have hdep : (PyData.dict l).depth ≤ 2 := by
    have := sclK_depth hs
    simp only [PyData.depth]
    omega
  have hne : sysModules ≠ a := fun e => by
    rw [e] at hm
    simp at hm
  refine repr_of_reads' rd (by simp only [PyData.showable]; exact hsh) (fun _ => by simpa using hne) hg (by omega) (fun _ _ e => e) (fun h' u tk k => ?_) hz
  exact ⟨.str _, H, I.kept (t' := tk) k, ⟨_, rfl⟩, q⟩
theorem call_strI : CallR X (.type "str") (fun xs H Q => ∃ i, xs = [.int i] ∧ i.natAbs.log2 < 1920 ∧ Q (.str (toString i)) H) := by
  intro pins s σ H xs us Q I r h
  obtain ⟨i, rfl, hz, q⟩ := h
  obtain ⟨u, rfl, t, rfl⟩ := vals1 r
  exact PySem.P.str_of_int hz ⟨.str _, H, I.tok _, ⟨_, rfl⟩, q⟩
end
end Pw

/-! PF1: argument lists, displays, calls of built-ins, subscripts, slices. -/
namespace Pw
open PySem PySem.Spec PyProof.Rows L2

inductive RpAs (G : Wd) (F H : Hp) (σ : L2.St) : List V → List Arg → List Addr → Prop
  | nil : RpAs G F H σ [] [] []
  | own {v : V} {o : O} {vs : List V} {as : List Arg} {U W : List Addr} : RpO G F H v o U → RpAs G F H σ vs as W → RpAs G F H σ (v :: vs) (.inl o :: as) (U ++ W)
  | lent {v : V} {i : Nat} {vs : List V} {as : List Arg} {W : List Addr} : σ[i]? = some (some v) → RpAs G F H σ vs as W → RpAs G F H σ (v :: vs) (.inr i :: as) W
def rdA (G : Wd) (c : Bool) (f : M (List Arg)) : TA := fun σ H Q => ∃ F ρ U as ρ', Good G F H σ ρ U ∧ f ρ = some (as, ρ') ∧
  ∀ xs F' H' U' W, Good G F' H' σ ρ' U' → RpAs G F' H' σ xs as W → (U' ++ W).Nodup → Off F' W → Ext F H U F' H' (U' ++ W) → (c = true → Sub H H') → Q xs H'
section
variable {G : Wd} {X : Cx} {c ca cb cc : Bool} {a b e3 : PySem.Expr} {es : List PySem.Expr} {f fa fb fc : M O} {fs : M (List Arg)} {σ : L2.St} {F H F' H' : Hp} {Q : VK} {pos : Pos} {ga gb : M Bool} {ρ : Env} {U W : List Addr}
theorem RpAs.mono (s : Sub F F') : ∀ {vs : List V} {as : List Arg} {W : List Addr}, RpAs G F H σ vs as W → Kp H H' W → RpAs G F' H' σ vs as W
  | _, _, _, .nil, k => .nil
  | _, _, _, .own h r, k => .own (h.mono s k.left) (RpAs.mono s r k.right)
  | _, _, _, .lent h r, k => .lent h (RpAs.mono s r k)
theorem RpAs.there : ∀ {vs : List V} {as : List Arg} {W : List Addr}, RpAs G F H σ vs as W → ∀ b ∈ W, H b ≠ none
  | _, _, _, .nil, b, hb => by cases hb
  | _, _, _, .own h r, b, hb => (List.mem_append.mp hb).elim (h.there b) (RpAs.there r b)
  | _, _, _, .lent h r, b, hb => RpAs.there r b hb
theorem RpAs.os : ∀ {vs : List V} {as : List Arg} {W : List Addr} {os : List O}, RpAs G F H σ vs as W → argsO as = some os → RpOs G F H vs os W
  | _, _, _, os, .nil, e => by cases e; exact .nil
  | _, _, _, os, .own (o := o) (as := as) h r, e => by
    unfold argsO at e
    cases q : argsO as with
    | none => rw [q] at e; cases e
    | some l => rw [q] at e; cases e; exact .cons h (RpAs.os r q)
  | _, _, _, os, .lent h r, e => by unfold argsO at e; cases e
theorem sa_nil : PA X [] (rdA G true (rtn [])) := PA.imp pa_nil fun σ H Q h => by
  obtain ⟨F, ρ, U, as, ρ', g, e, k⟩ := h
  cases e
  exact k [] F H U [] g .nil (by simpa using g.nd) (fun _ h => nomatch h) (by simpa using Ext.refl F H U) fun _ => Sub.refl H
theorem nd_three {U2 W1 W2 : List Addr} (n2 : (U2 ++ W2).Nodup) (n1 : W1.Nodup) (d : ∀ b ∈ W1, b ∉ U2 ++ W2) : (U2 ++ (W1 ++ W2)).Nodup := by
  have hp : (U2 ++ (W1 ++ W2)).Perm (W1 ++ (U2 ++ W2)) := by
    rw [← List.append_assoc, ← List.append_assoc]
    exact List.Perm.append_right W2 List.perm_append_comm
  exact hp.nodup_iff.mpr (List.nodup_append.mpr ⟨n1, n2, fun a ha b hb e => d a ha (e ▸ hb)⟩)
theorem sa_cons (ha : PE X a (rd G ca fa)) (hr : PA X es (rdA G cb fs)) (hs : starEach (a :: es) X.env = (false, eval a X.env) :: starEach es X.env) :
    PA X (a :: es) (rdA G (ca && cb) (bnd fa fun o => bnd fs fun r => rtn (.inl o :: r))) := PA.imp (pa_cons ha hr hs) fun σ H Q h => by
  obtain ⟨F, ρ, U, as, ρ', g, e, k⟩ := h
  obtain ⟨o, ρ1, e1, e⟩ := bnd_some e
  obtain ⟨r, ρ2, e2, e⟩ := bnd_some e
  cases e
  refine ⟨F, ρ, U, o, ρ1, g, e1, fun v F1 H1 U1 W1 g1 r1 nd1 off1 x1 c1 => ⟨F1, ρ1, U1, r, ρ', g1, e2, fun xs F2 H2 U2 W2 g2 r2 nd2 off2 x2 c2 => ?_⟩⟩
  obtain ⟨r1', off1', d1⟩ := temp r1 nd1 off1 x2
  refine k (v :: xs) F2 H2 U2 (W1 ++ W2) g2 (.own r1' r2) (nd_three nd2 (List.nodup_append.mp nd1).2.1 d1) (off1'.app off2) ?_ fun hc => ?_
  · refine (x1.trans g.sub (x2.more W1)).less fun b hb => ?_
    simp only [List.mem_append] at hb ⊢
    rcases hb with z | z | z
    · exact .inl (.inl z)
    · exact .inr z
    · exact .inl (.inr z)
  · rw [Bool.and_eq_true] at hc
    exact (c1 hc.1).trans (c2 hc.2)
theorem sa_lend {i : Nat} (ha : PE X a (tVar i)) (hr : PA X es (rdA G cb fs)) (hs : starEach (a :: es) X.env = (false, eval a X.env) :: starEach es X.env) :
    PA X (a :: es) (rdA G cb (fun ρ => if ((ρ[i]?).join).isSome then bnd fs (fun r => rtn (.inr i :: r)) ρ else none)) := PA.imp (pa_cons ha hr hs) fun σ H Q h => by
  obtain ⟨F, ρ, U, as, ρ', g, e, k⟩ := h
  replace e : (if ((ρ[i]?).join).isSome then bnd fs (fun r => rtn (.inr i :: r)) ρ else none) = some (as, ρ') := e
  split at e
  · rename_i hi
    obtain ⟨r, ρ2, e2, e⟩ := bnd_some e
    cases e
    cases q : ρ[i]? with
    | none => rw [q] at hi; cases hi
    | some z =>
      cases z with
      | none => rw [q] at hi; cases hi
      | some o =>
        obtain ⟨v, W, A, B, hv, _⟩ := g.env.at q
        exact ⟨v, hv, F, ρ, U, r, ρ', g, e2, fun xs F2 H2 U2 W2 g2 r2 nd2 off2 x2 c2 => k (v :: xs) F2 H2 U2 W2 g2 (.lent hv r2) nd2 off2 x2 c2⟩
  · cases e

/-! ### displays -/
theorem RpOs.plain : ∀ {vs : List V} {os : List O} {W : List Addr}, RpOs G F H vs os W → os.all isDt = true → RpA G F vs (frzs os) ∧ W = []
  | _, _, _, .nil, _ => ⟨.nil, rfl⟩
  | _, _, _, .cons (o := o) h r, e => by
    rw [List.all_cons, Bool.and_eq_true] at e
    obtain ⟨h2, e2⟩ := RpOs.plain r e.2
    cases o <;> try (exact absurd e.1 Bool.false_ne_true)
    cases h with
    | d h => exact ⟨.cons h h2, by rw [e2]; rfl⟩
theorem RpOs.len : ∀ {vs : List V} {os : List O} {W : List Addr}, RpOs G F H vs os W → vs.length = os.length
  | _, _, _, .nil => rfl
  | _, _, _, .cons _ r => congrArg (· + 1) r.len
theorem frzs_len : ∀ os : List O, (frzs os).length = os.length
  | [] => rfl
  | _ :: r => congrArg (· + 1) (frzs_len r)
theorem se_tup {k : Nat} (h : PA X es (rdA G c fs)) : PE X (.Tuple es k pos) (rd G c (bnd fs fun vs => match argsO vs with
    | some os => if os.length ≤ big then rtn (.d (.tup (frzs os))) else fun _ => none
    | none => fun _ => none)) := PE.imp (pe_tup h) fun σ H Q h => by
  obtain ⟨F, ρ, U, o, ρ', g, e, k⟩ := h
  obtain ⟨as, ρ1, e1, e⟩ := bnd_some e
  refine ⟨F, ρ, U, as, ρ1, g, e1, fun xs F1 H1 U1 W1 g1 r1 nd1 off1 x1 c1 => ?_⟩
  cases q : argsO as with
  | none => simp only [q] at e; cases e
  | some os =>
    simp only [q] at e
    split at e
    · rename_i hz
      cases e
      have ro := r1.os q
      refine ⟨by rw [ro.len]; exact Nat.le_trans hz big_line, fun p hp => ?_⟩
      have ra := ro.frz off1
      have hsub := mix_of (H := H1) off1
      have g2 : Good G (mix F1 H1 W1) H1 σ ρ' U1 := ⟨mix_to g1.sub, g1.env.mono hsub (fun _ _ _ h => h), g1.nd, fun b hb => by
        rw [mix_out fun z => (List.nodup_append.mp nd1).2.2 b hb b z rfl]; exact g1.off b hb⟩
      obtain ⟨n, r⟩ := new_tup (G := G) g2.sub hp ra
      obtain ⟨g3, nd3⟩ := g2.new n
      exact k _ _ _ _ _ g3 r nd3 n.off ((ext_thaw x1 hsub).trans g.sub (n.ext U1)) fun hc => (c1 hc).trans n.hh
    · cases e
theorem se_lst (h : PA X es (rdA G c fs)) : PE X (.List es pos) (rd G c (bnd fs fun vs => match argsO vs with
    | some os => if os.length ≤ big then rtn (lstO os) else fun _ => none
    | none => fun _ => none)) := PE.imp (pe_lst h) fun σ H Q h => by
  obtain ⟨F, ρ, U, o, ρ', g, e, k⟩ := h
  obtain ⟨as, ρ1, e1, e⟩ := bnd_some e
  refine ⟨F, ρ, U, as, ρ1, g, e1, fun xs F1 H1 U1 W1 g1 r1 nd1 off1 x1 c1 => ?_⟩
  cases q : argsO as with
  | none => simp only [q] at e; cases e
  | some os =>
    simp only [q] at e
    split at e
    · rename_i hz
      cases e
      have ro := r1.os q
      refine ⟨by rw [ro.len]; exact Nat.le_trans hz big_line, fun p hp => ?_⟩
      have pn : ∀ b, H1 b ≠ none → b ≠ p := fun b hb e => hb (e ▸ hp)
      obtain ⟨g2, _⟩ := g1.new (New.own (o := .lst xs) g1.sub hp)
      have kp : Kp H1 (upd H1 p (.lst xs)) W1 := fun b hb o e => by rw [upd_ne (pn b (r1.there b hb))]; exact e
      have ro2 : RpO G F1 (upd H1 p (.lst xs)) (.ref p) (lstO os) (p :: W1) := by
        unfold lstO
        by_cases hd : os.all isDt = true
        · obtain ⟨h1, h2⟩ := ro.plain hd
          rw [if_pos hd, h2]
          exact .fl upd_same h1
        · rw [if_neg hd]
          exact .ml upd_same (ro.mono (Sub.refl F1) kp)
      have hnew : ∀ b ∈ U1 ++ W1, b ≠ p := fun b hb => by
        rcases List.mem_append.mp hb with z | z
        · exact pn b (g1.there b z)
        · exact pn b (r1.there b z)
      refine k _ _ _ U1 (p :: W1) g2 ro2 ?_ (fun b hb => ?_) ?_ fun hc => (c1 hc).trans (Sub.new hp)
      · have hpm : (U1 ++ p :: W1).Perm (p :: (U1 ++ W1)) := List.perm_middle
        exact hpm.nodup_iff.mpr (List.nodup_cons.mpr ⟨fun z => hnew p z rfl, nd1⟩)
      · rcases List.mem_cons.mp hb with z | z
        · rw [z]; exact g1.sub.no hp
        · exact off1 b z
      · refine x1.trans g.sub ?_
        refine ⟨Sub.refl F1, fun b o e _ => by rw [upd_ne (pn b (by rw [e]; exact fun z => by cases z))]; exact e, fun _ h => .inl h, fun b hb => ?_, fun b hb => by rw [upd_ne (pn b hb)]; exact hb⟩
        simp only [List.mem_append, List.mem_cons] at hb ⊢
        rcases hb with z | z | z
        · exact .inl (.inl z)
        · subst z; exact .inr hp
        · exact .inl (.inr z)
    · cases e

/-! ### built-ins -/
def CaG (G : Wd) (r : List V → Hp → VK → Prop) (f : List D → Option O) : Prop := ∀ (F H : Hp) (xs : List V) (ds : List D) (o : O) (Q : VK), Sub F H → RpA G F xs ds → f ds = some o →
  (∀ v F' H' W, New F H F' H' W → RpO G F' H' v o W → Q v H') → r xs H Q
theorem rd_bi {r : List V → Hp → VK → Prop} {g : List D → Option O} (hc : CaG G r g) {σ : L2.St} {H : Hp} {Q : VK} (h : rd G c (bnd fs fun vs => match argsO vs with
    | some os => lift (g (frzs os))
    | none => fun _ => none) σ H Q) : tCB r (rdA G c fs) σ H Q := by
  obtain ⟨F, ρ, U, o, ρ', g', e, k⟩ := h
  obtain ⟨as, ρ1, e1, e⟩ := bnd_some e
  refine ⟨F, ρ, U, as, ρ1, g', e1, fun xs F1 H1 U1 W1 g1 r1 nd1 off1 x1 c1 => ?_⟩
  cases q : argsO as with
  | none => simp only [q] at e; cases e
  | some os =>
    simp only [q] at e
    obtain ⟨e2, e3⟩ := lift_some e
    cases e3
    have ro := r1.os q
    have ra := ro.frz off1
    have hsub := mix_of (H := H1) off1
    have g2 : Good G (mix F1 H1 W1) H1 σ ρ' U1 := ⟨mix_to g1.sub, g1.env.mono hsub (fun _ _ _ h => h), g1.nd, fun b hb => by
      rw [mix_out fun z => (List.nodup_append.mp nd1).2.2 b hb b z rfl]; exact g1.off b hb⟩
    refine hc _ H1 xs (frzs os) o Q g2.sub ra e2 fun v F' H' W n r => ?_
    obtain ⟨g3, nd3⟩ := g2.new n
    exact k _ _ _ _ _ g3 r nd3 n.off ((ext_thaw x1 hsub).trans g'.sub (n.ext U1)) fun hc => (c1 hc).trans n.hh
theorem CaG.orr {r r' : List V → Hp → VK → Prop} {f f1 f2 : List D → Option O} (h : CaG G r f1) (h' : CaG G r' f2) (e : ∀ ds o, f ds = some o → f1 ds = some o ∨ f2 ds = some o) : CaG G (fun xs H Q => r xs H Q ∨ r' xs H Q) f := by
  intro F H xs ds o Q s ra q k
  rcases e ds o q with z | z
  · exact .inl (h F H xs ds o Q s ra z k)
  · exact .inr (h' F H xs ds o Q s ra z k)
theorem RpA.one {vs : List V} {d : D} (r : RpA G F vs [d]) : ∃ v, vs = [v] ∧ Rp G F v d := by
  cases r with
  | cons h r => cases r; exact ⟨_, rfl, h⟩
theorem ca_len : CaG G (fun xs H Q => ∃ x n, xs = [x] ∧ LenV G.K x H n ∧ Q (.int n) H) (biD .len) := by
  intro F H xs ds o Q s ra e k
  simp only [biD] at e
  split at e <;> try (cases e)
  · obtain ⟨v, rfl, r⟩ := ra.one
    obtain ⟨a, vs, rfl, h, q⟩ := r.lstE
    exact ⟨.ref a, _, rfl, .inl ⟨vs, .inl (.inl (s _ _ h)), q.length.symm⟩, plainV s (.int _) k⟩
  · obtain ⟨v, rfl, r⟩ := ra.one
    obtain ⟨a, vs, rfl, h, q⟩ := r.tupE
    exact ⟨.ref a, _, rfl, .inr ⟨vs, s.sqT h, q.length.symm⟩, plainV s (.int _) k⟩
  · obtain ⟨v, rfl, r⟩ := ra.one
    cases r
    split at e <;> cases e
    rename_i hz
    exact ⟨_, _, rfl, ⟨Nat.le_trans hz big_line, rfl⟩, plainV s (.int _) k⟩
theorem ca_list : CaG G (fun xs H Q => ∃ p ys, xs = [.ref p] ∧ (SqL G.K H p ys ∨ SqT G.K H p ys) ∧ ∀ l, H l = none → Q (.ref l) (upd H l (.lst ys))) (biD .list) := by
  intro F H xs ds o Q s ra e k
  simp only [biD] at e
  split at e <;> cases e
  · obtain ⟨v, rfl, r⟩ := ra.one
    obtain ⟨a, vs, rfl, h, q⟩ := r.lstE
    refine ⟨a, vs, rfl, .inl (.inl (.inl (s _ _ h))), fun l hl => ?_⟩
    obtain ⟨n, r⟩ := new_lst s hl q
    exact k _ _ _ _ n r
  · obtain ⟨v, rfl, r⟩ := ra.one
    obtain ⟨a, vs, rfl, h, q⟩ := r.xlE
    refine ⟨a, vs, rfl, .inl (s.sqL h), fun l hl => ?_⟩
    obtain ⟨n, r⟩ := new_lst s hl q
    exact k _ _ _ _ n r
  · obtain ⟨v, rfl, r⟩ := ra.one
    obtain ⟨a, vs, rfl, h, q⟩ := r.tupE
    refine ⟨a, vs, rfl, .inr (s.sqT h), fun l hl => ?_⟩
    obtain ⟨n, r⟩ := new_lst s hl q
    exact k _ _ _ _ n r
theorem ca_tuple : CaG G (fun xs H Q => ∃ p ys, xs = [.ref p] ∧ ((SqL G.K H p ys ∧ ∀ l, H l = none → Q (.ref l) (upd H l (.tup ys))) ∨ (SqT G.K H p ys ∧ Q (.ref p) H))) (biD .tuple) := by
  intro F H xs ds o Q s ra e k
  simp only [biD] at e
  split at e <;> cases e
  · obtain ⟨v, rfl, r⟩ := ra.one
    obtain ⟨a, vs, rfl, h, q⟩ := r.lstE
    refine ⟨a, vs, rfl, .inl ⟨.inl (.inl (s _ _ h)), fun l hl => ?_⟩⟩
    obtain ⟨n, r⟩ := new_tup s hl q
    exact k _ _ _ _ n r
  · obtain ⟨v, rfl, r⟩ := ra.one
    obtain ⟨a, vs, rfl, h, q⟩ := id r.tupE
    exact ⟨a, vs, rfl, .inr ⟨s.sqT h, plainV s r k⟩⟩
theorem ca_sum : CaG G (rSum G.K) (biD .sum) := by
  intro F H xs ds o Q s ra e k
  simp only [biD] at e
  split at e <;> try (cases e)
  obtain ⟨v, rfl, r⟩ := ra.one
  obtain ⟨a, vs, rfl, h, q⟩ := r.lstE
  rename_i l
  cases z : intsD l with
  | none => rw [z] at e; cases e
  | some ns =>
    rw [z] at e
    cases e
    have := q.ints z
    subst this
    exact ⟨a, ns, rfl, .inl (.inl (s _ _ h)), plainV s (.int _) k⟩
theorem ca_all : CaG G (rAll G.K) (biD .all) := by
  intro F H xs ds o Q s ra e k
  simp only [biD] at e
  split at e <;> try (cases e)
  obtain ⟨v, rfl, r⟩ := ra.one
  obtain ⟨a, vs, rfl, h, q⟩ := r.lstE
  rename_i l
  cases z : boolsD l with
  | none => rw [z] at e; cases e
  | some ns =>
    rw [z] at e
    cases e
    have := q.bools z
    subst this
    exact ⟨a, ns, rfl, .inl (.inl (s _ _ h)), plainV s (.bl _) k⟩
theorem ca_any : CaG G (rAny G.K) (biD .any) := by
  intro F H xs ds o Q s ra e k
  simp only [biD] at e
  split at e <;> try (cases e)
  obtain ⟨v, rfl, r⟩ := ra.one
  obtain ⟨a, vs, rfl, h, q⟩ := r.lstE
  rename_i l
  cases z : boolsD l with
  | none => rw [z] at e; cases e
  | some ns =>
    rw [z] at e
    cases e
    have := q.bools z
    subst this
    exact ⟨a, ns, rfl, .inl (.inl (s _ _ h)), plainV s (.bl _) k⟩
theorem ca_int : CaG G (fun xs H Q => (∃ i, xs = [.int i] ∧ Q (.int i) H) ∨ ∃ k, xs = [.bl k] ∧ Q (.int (if k then 1 else 0)) H) (biD .int) := by
  intro F H xs ds o Q s ra e k
  simp only [biD] at e
  split at e <;> cases e
  · obtain ⟨v, rfl, r⟩ := ra.one
    cases r
    exact .inl ⟨_, rfl, plainV s (.int _) k⟩
  · obtain ⟨v, rfl, r⟩ := ra.one
    cases r
    exact .inr ⟨_, rfl, plainV s (.int _) k⟩
theorem RpA.ofInts : ∀ ns : List Int, RpA G F (ns.map V.int) (ns.map D.int)
  | [] => .nil
  | n :: ns => .cons (.int n) (RpA.ofInts ns)
theorem RpA.rows : ∀ {vs : List V} {ds : List D} {rs : List (List Int)}, RpA G F vs ds → rowsD ds = some rs → RowsV G.K F vs rs ∧ ds = rs.map rowD
  | _, _, rs, .nil, e => by simp [rowsD] at e; subst e; exact ⟨.nil, rfl⟩
  | _, _, rs, .cons (d := d) h r, e => by
    cases d with
    | tup x =>
      unfold rowsD at e
      cases q1 : intsD x with
      | none => rw [q1] at e; cases e
      | some a =>
        cases q2 : rowsD _ with
        | none => rw [q1, q2] at e; cases e
        | some b =>
          rw [q1, q2] at e
          cases e
          obtain ⟨t, ws, rfl, hs, hr⟩ := h.tupE
          obtain ⟨i1, i2⟩ := RpA.rows r q2
          have hx : ∀ {x : List D} {a : List Int}, intsD x = some a → x = a.map D.int := by
            intro x
            induction x with
            | nil => intro a e; simp [intsD] at e; subst e; rfl
            | cons y x ih =>
              intro a e
              cases y <;> simp only [intsD] at e <;> try (cases e)
              cases q : intsD x with
              | none => rw [q] at e; cases e
              | some l => rw [q] at e; cases e; rw [ih q]; rfl
          refine ⟨.cons ⟨t, rfl, ?_⟩ i1, ?_⟩
          · rw [← hr.ints q1]; exact hs
          · rw [List.map_cons, ← i2]
            unfold rowD
            rw [← hx q1]
    | _ => simp [rowsD] at e
theorem sqT_rows (s : Sub F H) {K : PySem.W.Frag} : ∀ {xs : List V} {rs : List (List Int)}, RowsV K F xs rs → RowsV K H xs rs
  | _, _, .nil => .nil
  | _, _, .cons ⟨t, e, h⟩ r => .cons ⟨t, e, s.sqT h⟩ (sqT_rows s r)
theorem RowsV.pair {K : PySem.W.Frag} : ∀ {xs : List V} {rs : List (List Int)}, RowsV K F xs rs → ∀ q ∈ xs.zip rs, RowV K F q.1 q.2
  | _, _, .nil, q, h => by simp at h
  | _, _, .cons a b, q, h => by
    rw [List.zip_cons_cons] at h
    rcases List.mem_cons.mp h with e | e
    · subst e; exact a
    · exact b.pair q e
theorem rp_rows : ∀ {L : List (V × List Int)}, (∀ q ∈ L, RowV G.K F q.1 q.2) → RpA G F (L.map (·.1)) ((L.map (·.2)).map rowD)
  | [], _ => .nil
  | q :: L, h => by
    obtain ⟨t, e, ht⟩ := h q List.mem_cons_self
    refine .cons ?_ (rp_rows fun z hz => h z (List.mem_cons_of_mem _ hz))
    show Rp G F q.1 (rowD q.2)
    rw [e]
    exact .tup ht (RpA.ofInts _)
theorem ca_sorted : CaG G (fun xs H Q => rSortedI G.K xs H Q ∨ rSortedR G.K xs H Q) (biD .sorted) := by
  intro F H xs ds o Q s ra e k
  simp only [biD] at e
  split at e <;> try (cases e)
  rename_i l
  obtain ⟨v, rfl, r⟩ := ra.one
  obtain ⟨a, vs, rfl, h, q⟩ := r.lstE
  unfold sortD at e
  cases q1 : intsD l with
  | some ns =>
    rw [q1] at e
    simp only at e
    split at e <;> cases e
    have hv := q.ints q1
    refine .inl ⟨a, ns, rfl, by rw [← hv]; exact .inl (.inl (s _ _ h)), fun ns' p hp hs hn => ?_⟩
    rw [srtI_is hs hp]
    obtain ⟨n, r⟩ := new_lst (G := G) s hn (RpA.ofInts (srt (fun a b => decide (a < b)) ns))
    exact k _ _ _ _ n r
  | none =>
    rw [q1] at e
    simp only at e
    cases q2 : rowsD l with
    | none => rw [q2] at e; cases e
    | some rs =>
      rw [q2] at e
      simp only at e
      obtain ⟨hr, hl⟩ := q.rows q2
      have fin : ∀ (L : List (V × List Int)) (p : Addr), L.Perm (vs.zip rs) → L.map (·.2) = srt lexLt rs → H p = none → (some (O.fl ((srt lexLt rs).map rowD)) = some o) → Q (.ref p) (upd H p (.lst (L.map (·.1)))) := fun L p hp hs hn ho => by
        cases ho
        have hrp : RpA G F (L.map (·.1)) ((srt lexLt rs).map rowD) := by
          rw [← hs]
          exact rp_rows fun z hz => hr.pair z (hp.mem_iff.mp hz)
        obtain ⟨n, r⟩ := new_lst s hn hrp
        exact k _ _ _ _ n r
      split at e
      · rename_i hc
        refine .inr ⟨a, vs, rs, rfl, .inl (.inl (s _ _ h)), sqT_rows s hr, fun _ r hm z => ?_, fun L p hp hs hn => fin L p hp hs hn e⟩
        have := List.all_eq_true.mp hc.2 r hm
        rw [z] at this
        cases this
      · split at e
        · rename_i hc
          refine .inr ⟨a, vs, rs, rfl, .inl (.inl (s _ _ h)), sqT_rows s hr, fun h2 => by omega, fun L p hp hs hn => fin L p hp hs hn ?_⟩
          have : srt lexLt rs = rs := by
            match rs, hc with
            | [], _ => rfl
            | [x], _ => rfl
          rw [this]; exact e
        · cases e
theorem scl_of {v : V} {d : D} {p : PyData} (r : Rp G F v d) (e : scal d = some p) : SclV v p := by
  cases d <;> simp only [scal] at e <;> cases e
  · cases r; exact .non
  · cases r; exact .bl _
  · cases r; exact .int _
  · cases r; exact .str _
theorem sclK_of : ∀ {kvs : List (Key × V)} {ds : List (D × D)} {l : List (PyData × PyData)}, RpK G F kvs ds → dicP ds = some l → SclK kvs l
  | _, _, l, .nil, e => by simp [dicP] at e; subst e; exact .nil
  | _, _, l, .cons (k := k) (d := d) (ds := ds) h r, e => by
    unfold dicP at e
    cases q1 : scal (keyD k) with
    | none => rw [q1] at e; cases e
    | some a =>
      cases q2 : scal d with
      | none => rw [q1, q2] at e; cases e
      | some b =>
        cases q3 : dicP ds with
        | none => rw [q1, q2, q3] at e; cases e
        | some l' =>
          rw [q1, q2, q3] at e
          cases e
          refine .cons ?_ (scl_of h q2) (sclK_of r q3)
          cases k with
          | inl i => cases q1; exact .int i
          | inr s => cases q1; exact .str s
theorem ca_repr : CaG G (fun xs H Q => rRepr G.K xs H Q ∨ rReprK xs H Q) (biD .repr) := by
  intro F H xs ds o Q s ra e k
  simp only [biD] at e
  split at e <;> try (cases e)
  obtain ⟨v, rfl, r⟩ := ra.one
  unfold reprD at e
  split at e
  · unfold reprK at e
    split at e
    · rename_i kvs l hl
      split at e
      · rename_i hc
        cases e
        cases r with
        | dic ha hr => exact .inr ⟨_, _, l, rfl, s _ _ ha, sclK_of hr hl, hc.1, Nat.le_trans hc.2 big_line, plainV s (.str _) k⟩
      · cases e
    · cases e
  refine .inl ?_
  unfold reprP at e
  split at e
  · rename_i p hp
    split at e
    · rename_i hc
      cases e
      exact ⟨v, p, rfl, dpMono s (Rp.dp _ r hp), hc.1, hc.2.1, Nat.le_trans hc.2.2 big_line, plainV s (.str _) k⟩
    · cases e
  · cases e
theorem RpA.two {vs : List V} {d e : D} (r : RpA G F vs [d, e]) : ∃ v w, vs = [v, w] ∧ Rp G F v d ∧ Rp G F w e := by
  cases r with
  | cons h r => obtain ⟨w, rfl, hw⟩ := r.one; exact ⟨_, _, rfl, h, hw⟩
theorem ca_divmod : CaG G (fun xs H Q => ∃ i j, xs = [.int i, .int j] ∧ CDiv i j ∧ ∀ p, H p = none → Q (.ref p) (upd H p (.tup [.int (i / j), .int (i % j)]))) (biD .divmod) := by
  intro F H xs ds o Q s ra e k
  simp only [biD] at e
  split at e <;> try (cases e)
  split at e <;> cases e
  rename_i hc
  obtain ⟨v, w, rfl, r1, r2⟩ := ra.two
  cases r1
  cases r2
  refine ⟨_, _, rfl, hc, fun p hp => ?_⟩
  obtain ⟨n, r⟩ := new_tup (G := G) s hp (RpA.cons (.int _) (RpA.cons (.int _) .nil))
  exact k _ _ _ _ n r
theorem ca_str : CaG G (fun xs H Q => (∃ a, xs = [.str a] ∧ Q (.str a) H) ∨ ∃ i, xs = [.int i] ∧ i.natAbs.log2 < 1920 ∧ Q (.str (toString i)) H) (biD .str) := by
  intro F H xs ds o Q s ra e k
  simp only [biD] at e
  split at e <;> try (cases e)
  · obtain ⟨v, rfl, r⟩ := ra.one
    cases r
    exact .inl ⟨_, rfl, plainV s (.str _) k⟩
  · split at e <;> cases e
    rename_i hc
    obtain ⟨v, rfl, r⟩ := ra.one
    cases r
    exact .inr ⟨_, rfl, by omega, plainV s (.str _) k⟩
theorem ca_never {r : List V → Hp → VK → Prop} {f : Bi} (h : f = .min ∨ f = .max) : CaG G r (biD f) := by
  intro F H xs ds o Q s ra e k
  rcases h with rfl | rfl <;> cases e
def biName : Bi → Str
  | .len => "len" | .list => "list" | .tuple => "tuple" | .sum => "sum" | .all => "all" | .any => "any" | .int => "int" | .repr => "repr" | .str => "str" | .divmod => "divmod" | .min => "min" | .max => "max" | .sorted => "sorted"
theorem rd_bi_never {f : Bi} (hf : f = .min ∨ f = .max) {σ : L2.St} {H : Hp} {Q : VK} (h : rd G c (bnd fs fun vs => match argsO vs with
    | some os => lift (biD f (frzs os))
    | none => fun _ => none) σ H Q) : False := by
  obtain ⟨F, ρ, U, o, ρ', g', e, k⟩ := h
  obtain ⟨as, ρ1, e1, e⟩ := bnd_some e
  cases q : argsO as with
  | none => simp only [q] at e; cases e
  | some os =>
    simp only [q] at e
    obtain ⟨e2, e3⟩ := lift_some e
    rcases hf with rfl | rfl <;> cases e2
/-- a built-in's call: it asks that the module has no such name -/
theorem se_bi (hK : X.K = G.K) (hc : X.calm = true) (hgd : X.A.guards = some []) (hu : X.A.units + 100 < cLine) (f : Bi) (ha : PA X (a :: es) (rdA G c fs)) (hg : Gl X (biName f)) (hm : X.mg (biName f) = none) {p : Pos}
    (he : starEach (a :: es) X.env = (false, eval a X.env) :: starEach es X.env) (hpl : (backTo pos (starEach es X.env)).any (·.1) = false) :
    PE X (.Call (.Name (biName f) p) (a :: es) [] pos) (rd G c (bnd fs fun vs => match argsO vs with
      | some os => lift (biD f (frzs os))
      | none => fun _ => none)) := by
  cases f with
  | len => exact PE.imp (pe_callB call_len hg hm PySem.boot_len ha (by decide) (by decide) he hpl) fun σ H Q h => rd_bi (by rw [hK]; exact ca_len) h
  | list => exact PE.imp (pe_callTy call_list_of hg hm (by decide +kernel) ha (by decide) (by decide) he hpl) fun σ H Q h => rd_bi (by rw [hK]; exact ca_list) h
  | tuple => exact PE.imp (pe_callTy call_tuple_of hg hm (by decide +kernel) ha (by decide) (by decide) he hpl) fun σ H Q h => rd_bi (by rw [hK]; exact ca_tuple) h
  | sum => exact PE.imp (pe_callB (cr_sum hc) hg hm (by decide +kernel) ha (by decide) (by decide) he hpl) fun σ H Q h => rd_bi (by rw [hK]; exact ca_sum) h
  | all => exact PE.imp (pe_callB (cr_all hc) hg hm (by decide +kernel) ha (by decide) (by decide) he hpl) fun σ H Q h => rd_bi (by rw [hK]; exact ca_all) h
  | any => exact PE.imp (pe_callB (cr_any hc) hg hm (by decide +kernel) ha (by decide) (by decide) he hpl) fun σ H Q h => rd_bi (by rw [hK]; exact ca_any) h
  | int => exact PE.imp (pe_callTy call_int1 hg hm (by decide +kernel) ha (by decide) (by decide) he hpl) fun σ H Q h => rd_bi ca_int h
  | repr => exact PE.imp (pe_callB ((call_reprD hgd hu).or (call_reprK hgd hu)) hg hm (by decide +kernel) ha (by decide) (by decide) he hpl) fun σ H Q h => rd_bi (by rw [hK]; exact ca_repr) h
  | str => exact PE.imp (pe_callTy (SkE.call_str_str.or call_strI) hg hm (by decide +kernel) ha (by decide) (by decide) he hpl) fun σ H Q h => rd_bi ca_str h
  | divmod => exact PE.imp (pe_callB call_divmod hg hm (by decide +kernel) ha (by decide) (by decide) he hpl) fun σ H Q h => rd_bi ca_divmod h
  | min => exact PE.imp PE.never fun σ H Q h => rd_bi_never (.inl rfl) h
  | max => exact PE.imp PE.never fun σ H Q h => rd_bi_never (.inr rfl) h
  | sorted => exact PE.imp (pe_callB (cr_sortedI.or cr_sortedR) hg hm (by decide +kernel) ha (by decide) (by decide) he hpl) fun σ H Q h => rd_bi (by rw [hK]; exact ca_sorted) h
end
end Pw

/-! PP: places. -/
namespace Pw
open PySem PySem.Spec PyProof.Rows L2
/-- the value that stands at a place -/
def PlV (G : Wd) : P → L2.St → Hp → V → Prop
  | .v i, σ, _, v => σ[i]? = some (some v)
  | .f p x, σ, H, v => ∃ a C dx fs, PlV G p σ H (.ref a) ∧ H a = some (.ins C dx fs) ∧ fs.lookup x = some v ∧ ∃ c, G.ca c = some C
  | .at p k, σ, H, v => ∃ a vs, PlV G p σ H (.ref a) ∧ H a = some (.lst vs) ∧ vs[k]? = some v
theorem PlV.mono {G : Wd} {H H' : Hp} {σ : L2.St} (s : Sub H H') : ∀ {p : P} {v : V}, PlV G p σ H v → PlV G p σ H' v
  | .v i, v, h => h
  | .f p x, v, ⟨a, C, dx, fs, h1, h2, h3, h4⟩ => ⟨a, C, dx, fs, PlV.mono s h1, s _ _ h2, h3, h4⟩
  | .at p k, v, ⟨a, vs, h1, h2, h3⟩ => ⟨a, vs, PlV.mono s h1, s _ _ h2, h3⟩
theorem PlV.same {G : Wd} {H : Hp} {σ : L2.St} : ∀ {p : P} {v w : V}, PlV G p σ H v → PlV G p σ H w → v = w
  | .v i, v, w, h, h' => by
    have e : some (some v) = some (some w) := h.symm.trans h'
    cases e; rfl
  | .f p x, v, w, ⟨a, C, dx, fs, h1, h2, h3, _⟩, ⟨a', C', dx', fs', h1', h2', h3', _⟩ => by
    have e := PlV.same h1 h1'
    cases e
    rw [h2] at h2'
    cases h2'
    rw [h3] at h3'
    cases h3'; rfl
  | .at p k, v, w, ⟨a, vs, h1, h2, h3⟩, ⟨a', vs', h1', h2', h3'⟩ => by
    have e := PlV.same h1 h1'
    cases e
    rw [h2] at h2'
    cases h2'
    rw [h3] at h3'
    cases h3'; rfl
def tPl (G : Wd) (p : P) : TE := fun σ H Q => ∃ v, PlV G p σ H v ∧ Q v H
def P.isV : P → Bool
  | .v _ => true
  | _ => false
section
variable {G : Wd} {X : Cx} {F H F' H' : Hp} {σ : L2.St} {ρ : Env} {U W : List Addr}
theorem RpF.lookup : ∀ {fs : List (Str × V)} {ds : List (Str × D)} {x : Str} {d : D}, RpF G F fs ds → ds.lookup x = some d → ∃ v, fs.lookup x = some v ∧ Rp G F v d
  | _, _, _, _, .nil, e => by simp at e
  | _, _, x, d, .cons (n := n) h r, e => by
    rw [List.lookup_cons] at e ⊢
    cases q : x == n with
    | true => rw [q] at e; cases e; exact ⟨_, rfl, h⟩
    | false => rw [q] at e; exact RpF.lookup r e
/-- a field, and another thing in its place -/
theorem RpOf.focus : ∀ {fs : List (Str × V)} {os : List (Str × O)} {W : List Addr} {x : Str} {o : O}, RpOf G F H fs os W → os.lookup x = some o → ∃ v Z A B, fs.lookup x = some v ∧ RpO G F H v o Z ∧ W = A ++ Z ++ B ∧
    ∀ F' H' o' Z', Sub F F' → Kp H H' (A ++ B) → RpO G F' H' v o' Z' → RpOf G F' H' fs (putFs x o' os) (A ++ Z' ++ B)
  | _, _, _, _, _, .nil, e => by simp at e
  | _, _, _, x, o, .cons (n := n) (v := v) (o := o1) (U := U1) (W := W1) h r, e => by
    rw [List.lookup_cons] at e
    cases q : x == n with
    | true =>
      rw [q] at e
      cases e
      have hx : x = n := by simpa using q
      refine ⟨v, U1, [], W1, by rw [List.lookup_cons, q], h, by simp, fun F' H' o' Z' s k h' => ?_⟩
      unfold putFs
      rw [if_pos hx.symm, ← hx]
      exact .cons h' (r.mono s k)
    | false =>
      rw [q] at e
      obtain ⟨v', Z, A, B, h1, h2, h3, h4⟩ := RpOf.focus r e
      have hx : ¬ n = x := fun z => by rw [z] at q; simp at q
      refine ⟨v', Z, U1 ++ A, B, by rw [List.lookup_cons, q]; exact h1, h2, by rw [h3]; simp [List.append_assoc], fun F' H' o' Z' s k h' => ?_⟩
      unfold putFs
      rw [if_neg hx]
      rw [List.append_assoc] at k
      have := RpOf.cons (n := n) (h.mono s k.left) (h4 F' H' o' Z' s k.right h')
      simpa [List.append_assoc] using this
theorem RpOs.focus : ∀ {vs : List V} {os : List O} {W : List Addr} {j : Nat} {o : O}, RpOs G F H vs os W → os[j]? = some o → ∃ v Z A B, vs[j]? = some v ∧ RpO G F H v o Z ∧ W = A ++ Z ++ B ∧
    ∀ F' H' v' o' Z', Sub F F' → Kp H H' (A ++ B) → RpO G F' H' v' o' Z' → RpOs G F' H' (vs.set j v') (os.set j o') (A ++ Z' ++ B)
  | _, _, _, _, _, .nil, e => by simp at e
  | _, _, _, 0, o, .cons (v := v) (U := U1) (W := W1) h r, e => by
    simp at e
    subst e
    exact ⟨v, U1, [], W1, rfl, h, by simp, fun F' H' v' o' Z' s k h' => .cons h' (r.mono s k)⟩
  | _, _, _, j + 1, o, .cons (v := v) (U := U1) (W := W1) h r, e => by
    obtain ⟨v', Z, A, B, h1, h2, h3, h4⟩ := RpOs.focus (j := j) r (by simpa using e)
    refine ⟨v', Z, U1 ++ A, B, by simpa using h1, h2, by rw [h3]; simp [List.append_assoc], fun F' H' v2 o' Z' s k h' => ?_⟩
    rw [List.append_assoc] at k
    have := RpOs.cons (h.mono s k.left) (h4 F' H' v2 o' Z' s k.right h')
    simpa [List.append_assoc] using this
theorem set_self {α : Type} {l : List α} {i : Nat} {v : α} (h : l[i]? = some v) : l.set i v = l := by
  apply List.ext_getElem?
  intro j
  have hi : i < l.length := (List.getElem?_eq_some_iff.mp h).1
  by_cases hj : i = j
  · subst hj; rw [List.getElem?_set_self hi, h]
  · rw [List.getElem?_set_ne hj]
/-- what stands at a place: its value, what it owns, and another thing in its stead at the same value -/
theorem focus (r : RpS G F H σ ρ U) (hs : Sub F H) : ∀ {p : P} {o : O}, getP ρ p = some o → ∃ v W A B, PlV G p σ H v ∧ RpO G F H v o W ∧ U = A ++ W ++ B ∧
    ∀ F' H' o' W' ρ', Sub F F' → Kp H H' (A ++ B) → RpO G F' H' v o' W' → setP ρ p o' = some ρ' → RpS G F' H' σ ρ' (A ++ W' ++ B)
  | .v i, o, e => by
    unfold getP at e
    cases q : ρ[i]? with
    | none => rw [q] at e; cases e
    | some z =>
      rw [q] at e
      cases z with
      | none => cases e
      | some o1 =>
        cases e
        obtain ⟨v, W, A, B, hv, hr, hU, hs⟩ := r.at q
        refine ⟨v, W, A, B, hv, hr, hU, fun F' H' o' W' ρ' s k h' e' => ?_⟩
        unfold setP at e'
        rw [if_pos (List.getElem?_eq_some_iff.mp q).1] at e'
        cases e'
        have := (hs F' H' s k).1 v o' W' h'
        rwa [set_self hv] at this
  | .f p x, o, e => by
    unfold getP at e
    cases q : getP ρ p with
    | none => rw [q] at e; cases e
    | some op =>
      rw [q] at e
      obtain ⟨v, W, A, B, hv, hr, hU, ht⟩ := focus r hs q
      cases hr with
      | d h =>
        rename_i dd
        cases dd <;> try (cases e)
        rename_i cn ds
        have e' : (ds.lookup x).map O.d = some o := e
        cases q2 : ds.lookup x with
        | none => rw [q2] at e'; cases e'
        | some d =>
          rw [q2] at e'
          cases e'
          cases h with
          | @obj _ C a dx fs _ hc ha hf =>
            obtain ⟨w, h1, h2⟩ := hf.lookup q2
            refine ⟨w, [], A, B, ⟨a, C, dx, fs, hv, hs _ _ ha, h1, _, hc⟩, .d h2, hU, fun F' H' o' W' ρ' s k h' e' => ?_⟩
            unfold setP at e'
            rw [q] at e'
            cases e'
      | fl _ _ => cases e
      | ml _ _ => cases e
      | @ob cn C a dx fs os Z hc ha hf =>
        obtain ⟨w, Z1, A1, B1, h1, h2, h3, h4⟩ := hf.focus (show os.lookup x = some o from e)
        refine ⟨w, Z1, A ++ (a :: A1), B1 ++ B, ⟨a, C, dx, fs, hv, ha, h1, _, hc⟩, h2, by rw [hU, h3]; simp [List.append_assoc], fun F' H' o' W' ρ' s k h' e' => ?_⟩
        unfold setP at e'
        rw [q] at e'
        have e2 : setP ρ p (.ob cn (putFs x o' os)) = some ρ' := e'
        have ka : Kp H H' (A ++ B) := fun b hb => k b (by
          simp only [List.mem_append, List.mem_cons] at hb ⊢
          rcases hb with z | z
          · exact .inl (.inl z)
          · exact .inr (.inr z))
        have kb : Kp H H' (A1 ++ B1) := fun b hb => k b (by
          simp only [List.mem_append, List.mem_cons] at hb ⊢
          rcases hb with z | z
          · exact .inl (.inr (.inr z))
          · exact .inr (.inl z))
        have := ht F' H' (.ob cn (putFs x o' os)) (a :: (A1 ++ W' ++ B1)) ρ' s ka (.ob hc (k a (by simp) _ ha) (h4 F' H' o' W' s kb h')) e2
        simpa [List.append_assoc] using this
  | .at p j, o, e => by
    unfold getP at e
    cases q : getP ρ p with
    | none => rw [q] at e; cases e
    | some op =>
      rw [q] at e
      obtain ⟨v, W, A, B, hv, hr, hU, ht⟩ := focus r hs q
      cases hr with
      | d h => cases e
      | ob _ _ _ => cases e
      | @fl a vs ds ha hf =>
        have e' : (ds[j]?).map O.d = some o := e
        cases q2 : ds[j]? with
        | none => rw [q2] at e'; cases e'
        | some d =>
          rw [q2] at e'
          cases e'
          obtain ⟨w, h1, h2⟩ := hf.get q2
          refine ⟨w, [], A ++ [a], B, ⟨a, vs, hv, ha, h1⟩, .d h2, by rw [hU]; simp, fun F' H' o' W' ρ' s k h' e' => ?_⟩
          unfold setP at e'
          rw [q] at e'
          have hj : j < ds.length := (List.getElem?_eq_some_iff.mp q2).1
          have ka : Kp H H' (A ++ B) := fun b hb => k b (by
            simp only [List.mem_append, List.mem_cons] at hb ⊢
            rcases hb with z | z
            · exact .inl (.inl z)
            · exact .inr z)
          cases h' with
          | d h' =>
            rename_i x'
            have e2 : (if j < ds.length then some (O.fl (ds.set j x')) else none).bind (fun o' => setP ρ p o') = some ρ' := e'
            rw [if_pos hj] at e2
            have hr2 := RpA.set h' j (hf.mono s)
            rw [set_self h1] at hr2
            have := ht F' H' (.fl (ds.set j x')) [a] ρ' s ka (.fl (k a (by simp) _ ha) hr2) e2
            simpa [List.append_assoc] using this
          | fl _ _ => cases e'
          | ml _ _ => cases e'
          | ob _ _ _ => cases e'
      | @ml a vs os Z ha hf =>
        obtain ⟨w, Z1, A1, B1, h1, h2, h3, h4⟩ := hf.focus (show os[j]? = some o from e)
        refine ⟨w, Z1, A ++ (a :: A1), B1 ++ B, ⟨a, vs, hv, ha, h1⟩, h2, by rw [hU, h3]; simp [List.append_assoc], fun F' H' o' W' ρ' s k h' e' => ?_⟩
        unfold setP at e'
        rw [q] at e'
        have hj : j < os.length := (List.getElem?_eq_some_iff.mp (show os[j]? = some o from e)).1
        have e2 : (if j < os.length then some (O.ml (os.set j o')) else none).bind (fun o' => setP ρ p o') = some ρ' := e'
        rw [if_pos hj] at e2
        have ka : Kp H H' (A ++ B) := fun b hb => k b (by
          simp only [List.mem_append, List.mem_cons] at hb ⊢
          rcases hb with z | z
          · exact .inl (.inl z)
          · exact .inr (.inr z))
        have kb : Kp H H' (A1 ++ B1) := fun b hb => k b (by
          simp only [List.mem_append, List.mem_cons] at hb ⊢
          rcases hb with z | z
          · exact .inl (.inr (.inr z))
          · exact .inr (.inl z))
        have hr2 := h4 F' H' w o' W' s kb h'
        rw [set_self h1] at hr2
        have := ht F' H' (.ml (os.set j o')) (a :: (A1 ++ W' ++ B1)) ρ' s ka (.ml (k a (by simp) _ ha) hr2) e2
        simpa [List.append_assoc] using this
/-- two thirds of a list without the middle -/
theorem nd_mid {A W B : List Addr} (nd : (A ++ W ++ B).Nodup) : (A ++ B).Nodup ∧ ∀ b ∈ A ++ B, b ∉ W := by
  have hp : (A ++ W ++ B).Perm (W ++ (A ++ B)) := by
    rw [← List.append_assoc]
    exact List.Perm.append_right B List.perm_append_comm
  have := List.nodup_append.mp (hp.nodup_iff.mp nd)
  exact ⟨this.2.1, fun b hb z => this.2.2 b z b hb rfl⟩
theorem nd_put {A W B W' : List Addr} (nd : (A ++ W ++ B).Nodup) (n : W'.Nodup) (d : ∀ b ∈ W', b ∈ W ∨ b ∉ A ++ W ++ B) : (A ++ W' ++ B).Nodup := by
  obtain ⟨h1, h2⟩ := nd_mid nd
  have hp : (A ++ W' ++ B).Perm (W' ++ (A ++ B)) := by
    rw [← List.append_assoc]
    exact List.Perm.append_right B List.perm_append_comm
  refine hp.nodup_iff.mpr (List.nodup_append.mpr ⟨n, h1, fun a ha b hb e => ?_⟩)
  subst e
  rcases d a ha with z | z
  · exact h2 a hb z
  · exact z (by
      simp only [List.mem_append] at hb ⊢
      rcases hb with y | y
      · exact .inl (.inl y)
      · exact .inr y)
/-- a place's value, from here on data -/
theorem se_pl {a : PySem.Expr} {p : P} (he : PE X a (tPl G p)) : PE X a (rd G true (plM p)) := PE.imp he fun σ H Q h => by
  obtain ⟨F, ρ, U, o, ρ', g, e, k⟩ := h
  unfold plM at e
  cases q : getP ρ p with
  | none => rw [q] at e; cases e
  | some o1 =>
    obtain ⟨v, W, A, B, hv, hr, hU, hs⟩ := focus g.env g.sub q
    refine ⟨v, hv, ?_⟩
    have nd : (A ++ W ++ B).Nodup := hU ▸ g.nd
    have off : Off F W := fun b hb => g.off b (by rw [hU]; simp [hb])
    have hsub : Sub F (mix F H W) := mix_of off
    -- data already, or turned to data
    have key : setP ρ p (.d (frz o1)) = some ρ' → o = .d (frz o1) → Q v H := by
      intro hρ ho
      subst ho
      have rp : Rp G (mix F H W) v (frz o1) := hr.frz off
      have e2 := hs (mix F H W) H (.d (frz o1)) [] ρ' hsub (fun _ _ _ h => h) (.d rp) hρ
      rw [List.append_nil] at e2
      have inU : ∀ b ∈ A ++ B, b ∈ U := fun b hb => by
        rw [hU]
        simp only [List.mem_append] at hb ⊢
        rcases hb with y | y
        · exact .inl (.inl y)
        · exact .inr y
      have g2 : Good G (mix F H W) H σ ρ' (A ++ B) := ⟨mix_to g.sub, e2, (nd_mid nd).1, fun b hb => by
        rw [mix_out ((nd_mid nd).2 b hb)]; exact g.off b (inU b hb)⟩
      refine k v (mix F H W) H (A ++ B) [] g2 (.d rp) (by simpa using g2.nd) (fun _ h => nomatch h) ?_ fun _ => Sub.refl H
      refine ⟨hsub, fun _ _ h _ => h, fun b h => ?_, fun b hb => .inl (inU b (by simpa using hb)), fun _ h => h⟩
      by_cases hb : b ∈ W
      · exact .inr (.inl (by rw [hU]; simp [hb]))
      · rw [mix_out hb] at h; exact .inl h
    rw [q] at e
    cases o1 with
    | d x =>
      cases e
      exact k v F H U [] g (by cases hr; rename_i hr; exact .d hr) (by simpa using g.nd) (fun _ h => nomatch h) (by simpa using Ext.refl F H U) fun _ => Sub.refl H
    | fl xs =>
      simp only at e
      split at e
      · rename_i r hr'; cases e; exact key hr' rfl
      · cases e
    | ml xs =>
      simp only at e
      split at e
      · rename_i r hr'; cases e; exact key hr' rfl
      · cases e
    | ob cn xs =>
      simp only at e
      split at e
      · rename_i r hr'; cases e; exact key hr' rfl
      · cases e
/-! the places' readings -/
theorem pl_var {i : Nat} {a : PySem.Expr} (h : PE X a (tVar i)) : PE X a (tPl G (.v i)) := h
/-- o.x of an own class -/
theorem pl_fld {a : PySem.Expr} {p : P} {x : Str} {pos : Pos} (h : PE X a (tPl G p)) (hb : attributeBase a x X.env (eval a X.env) = eval a X.env) (hc : ∀ c C, G.ca c = some C → Cls X.K C ∧ NoAttr X.K C x) : PE X (.Attribute a x pos) (tPl G (.f p x)) :=
  PE.imp (pe_fld h hb) fun σ H Q q => by
    obtain ⟨v, ⟨a, C, dx, fs, h1, h2, h3, c, h4⟩, q⟩ := q
    exact ⟨.ref a, h1, a, C, dx, fs, v, rfl, h2, (hc c C h4).1, (hc c C h4).2, h3, q⟩
theorem pl_at {a : PySem.Expr} {p : P} {k m : Nat} {p1 pos : Pos} (h : PE X a (tPl G p)) (hs : PlainIx (.Constant (.int (k : Int)) m p1)) : PE X (.Subscript a (.Constant (.int (k : Int)) m p1) pos) (tPl G (.at p k)) :=
  PE.imp (pe_ix ix_list h pe_int hs) fun σ H Q q => by
    obtain ⟨v, ⟨a, vs, h1, h2, h3⟩, q⟩ := q
    exact ⟨.ref a, h1, a, vs, (k : Int), v, rfl, rfl, .inl (.inl h2), atI_nat h3, q⟩
end
end Pw

/-! PG1: subscripts, lengths and comparisons of places, slices, isinstance. -/
namespace Pw
open PySem PySem.Spec PyProof.Rows L2
section
variable {G : Wd} {X : Cx} {c ca cb cc : Bool} {a b e3 : PySem.Expr} {es : List PySem.Expr} {f fa fb fc : M O} {fs : M (List Arg)} {σ : L2.St} {F H F' H' : Hp} {Q : VK} {pos : Pos} {ga gb : M Bool} {ρ : Env} {U W : List Addr}
theorem atI_rp {vs : List V} {ds : List D} {i : Int} {d : D} (r : RpA G F vs ds) (e : atI ds i = some d) : ∃ v, atI vs i = some v ∧ Rp G F v d := by
  unfold atI at e ⊢
  rw [r.length]
  cases q : ixN ds.length i with
  | none => rw [q] at e; cases e
  | some j =>
    rw [q] at e
    obtain ⟨v, h1, h2⟩ := r.get (show ds[j]? = some d from e)
    exact ⟨v, h1, h2⟩
theorem ix_data {x y : V} {a b : D} {o : D} {i : Int} (s : Sub F H) (ra : Rp G F x a) (rb : Rp G F y (.int i)) (e : ixD a i = some o) (k : ∀ v, Rp G F v o → Q v H) : rIx G.K x y H Q := by
  cases rb
  cases a <;> simp only [ixD] at e <;> try (cases e)
  · cases ra
    split at e
    · rename_i z hz
      cases q : atI z.cps.toList i with
      | none => rw [q] at e; cases e
      | some n => rw [q] at e; cases e; exact .inr (.inr ⟨z, i, n, rfl, rfl, Nat.le_trans hz big_line, q, k _ (.str _)⟩)
    · cases e
  · obtain ⟨p, vs, rfl, h, r⟩ := ra.tupE
    obtain ⟨v, h1, h2⟩ := atI_rp r e
    exact .inr (.inl ⟨p, vs, i, v, rfl, rfl, s.sqT h, h1, k v h2⟩)
  · obtain ⟨p, vs, rfl, h, r⟩ := ra.lstE
    obtain ⟨v, h1, h2⟩ := atI_rp r e
    exact .inl ⟨p, vs, i, v, rfl, rfl, .inl (.inl (s _ _ h)), h1, k v h2⟩
theorem og_ix : OpG G (rIx G.K) ixI := by
  intro F H x y a b o Q s ra rb e k
  cases b <;> simp only [ixI] at e <;> try (cases e)
  rename_i i
  cases q : ixD a i with
  | none => rw [q] at e; cases e
  | some d => rw [q] at e; cases e; exact ix_data (b := .int i) s ra rb q fun v r => plainV s r k
theorem se_ix (hK : X.K = G.K) (ha : PE X a (rd G ca fa)) (hb : PE X b (rd G cb fb)) (hs : PlainIx b) : PE X (.Subscript a b pos) (rd G (ca && cb) (bnd (fzM fa) fun x => bnd (fzM fb) fun y => lift (ixI x y))) :=
  PE.imp (pe_ix ix_seq (pe_fz ha) (pe_fz hb) hs) fun σ H Q h => rd_op (by rw [hK]; exact og_ix) h

/-! ### places -/
theorem RpOs.atI : ∀ {vs : List V} {os : List O} {W : List Addr}, RpOs G F H vs os W → ∀ {j : Nat} {x : D}, os[j]? = some (.d x) → ∃ v, vs[j]? = some v ∧ Rp G F v x
  | _, _, _, .nil, j, x, e => by simp at e
  | _, _, _, .cons h r, 0, x, e => by
    simp at e
    subst e
    cases h with
    | d h => exact ⟨_, rfl, h⟩
  | _, _, _, .cons h r, j + 1, x, e => by
    obtain ⟨v, h1, h2⟩ := r.atI (j := j) (by simpa using e)
    exact ⟨v, by simpa using h1, h2⟩
theorem ix_owned {x y : V} {o : O} {d : D} {b : D} (s : Sub F H) (ra : RpO G F H x o W) (rb : Rp G F y b) (e : ixOI o b = some d) (k : ∀ v, Rp G F v d → Q v H) : rIx G.K x y H Q := by
  cases b <;> simp only [ixOI] at e <;> try (cases e)
  rename_i i
  cases ra with
  | d h => exact ix_data (b := .int i) s h rb e k
  | fl h r =>
    cases rb
    obtain ⟨v, h1, h2⟩ := atI_rp r e
    exact .inl ⟨_, _, i, v, rfl, rfl, .inl (.inl h), h1, k v h2⟩
  | ml h r =>
    rename_i vs os U
    cases rb
    simp only [ixO] at e
    cases q : atI os i with
    | none => rw [q] at e; cases e
    | some z =>
      cases z with
      | d z =>
        rw [q] at e
        cases e
        unfold atI at q
        cases q2 : ixN os.length i with
        | none => rw [q2] at q; cases q
        | some j =>
          rw [q2] at q
          obtain ⟨v, h1, h2⟩ := r.atI (show os[j]? = some (.d d) from q)
          refine .inl ⟨_, vs, i, v, rfl, rfl, .inl (.inl h), ?_, k v h2⟩
          unfold atI
          rw [r.len, q2]
          exact h1
      | fl z => rw [q] at e; cases e
      | ml z => rw [q] at e; cases e
      | ob z z2 => rw [q] at e; cases e
  | ob _ h r => cases e
theorem getP_some {p : P} (h : (getP ρ p).isSome) : ∃ o, getP ρ p = some o := Option.isSome_iff_exists.mp h
/-- the same value stands there behind what is calm -/
theorem pl_again {p : P} {o o' : O} {ρ' : Env} {U' : List Addr} (g : Good G F H σ ρ U) (q : getP ρ p = some o) (g' : Good G F' H' σ ρ' U') (q' : getP ρ' p = some o') (hc : cb = true ∨ p.isV = true) (c1 : cb = true → Sub H H') {v : V} (hv : PlV G p σ H v) :
    ∃ W, RpO G F' H' v o' W ∧ Off F' W := by
  obtain ⟨v', W, A, B, hv', hr, hU, _⟩ := focus g'.env g'.sub q'
  have e : v' = v := by
    rcases hc with z | z
    · exact PlV.same hv' (hv.mono (c1 z))
    · cases p with
      | v i =>
        have e : some (some v') = some (some v) := (show σ[i]? = some (some v') from hv').symm.trans hv
        cases e; rfl
      | f p x => cases z
      | «at» p k => cases z
  subst e
  exact ⟨W, hr, fun b hb => g'.off b (by rw [hU]; simp [hb])⟩
def ixPM (p : P) (fb : M O) : M O := fun ρ => if (getP ρ p).isSome then bnd (fzM fb) (fun y => fun ρ' => match getP ρ' p with
    | some o => match ixOI o y with
      | some d => some (.d d, ρ')
      | none => none
    | none => none) ρ else none
/-- p[i], p a place: it is read behind i -/
theorem se_ixP (hK : X.K = G.K) {p : P} (hp : cb = true ∨ p.isV = true) (ha : PE X a (tPl G p)) (hb : PE X b (rd G cb fb)) (hs : PlainIx b) : PE X (.Subscript a b pos) (rd G cb (ixPM p fb)) := PE.imp (pe_ix ix_seq ha (pe_fz hb) hs) fun σ H Q h => by
  obtain ⟨F, ρ, U, o, ρ', g, e, k⟩ := h
  unfold ixPM at e
  split at e
  · rename_i hi
    obtain ⟨y, ρ1, e1, e⟩ := bnd_some e
    obtain ⟨o0, h0⟩ := getP_some hi
    obtain ⟨v, W, A, B, hv, _⟩ := focus g.env g.sub h0
    refine ⟨v, hv, F, ρ, U, y, ρ1, g, e1, fun v1 F1 H1 U1 g1 r1 x1 c1 => ?_⟩
    cases q : getP ρ1 p with
    | none => simp only [q] at e; cases e
    | some o1 =>
      simp only [q] at e
      cases q2 : ixOI o1 y with
      | none => simp only [q2] at e; cases e
      | some d =>
        simp only [q2] at e
        cases e
        obtain ⟨W', r', off'⟩ := pl_again g h0 g1 q hp c1 hv
        rw [hK]
        exact ix_owned g1.sub r' r1 q2 fun z rz => k z F1 H1 U1 [] g1 (.d rz) (by simpa using g1.nd) (fun _ h => nomatch h) (by simpa using x1) c1
  · cases e
/-- a thing that is only looked at, as data of the heap with what it owns -/
theorem looked (g : Good G F H σ ρ U) {v : V} {o : O} (r : RpO G F H v o W) (off : Off F W) : Rp G (mix F H W) v (frz o) ∧ Sub (mix F H W) H := ⟨r.frz off, mix_to g.sub⟩
def cmpPM (op : CmpOp) (p : P) (fb : M O) : M Bool := fun ρ => if (getP ρ p).isSome then bnd (fzM fb) (fun y => fun ρ' => match getP ρ' p with
    | some o => match cmpD op (frz o) y with
      | some r => some (r, ρ')
      | none => none
    | none => none) ρ else none
/-- p op b, p a place that is only looked at, behind b -/
theorem rd_cmP {r : R2} {op : CmpOp} (hc : CmG G r (cmpD op)) {p : P} (hp : cb = true ∨ p.isV = true) (h : ∃ F ρ U o ρ', Good G F H σ ρ U ∧ cmpPM op p fb ρ = some (o, ρ') ∧
    ∀ F' H' U', Good G F' H' σ ρ' U' → Ext F H U F' H' U' → (cb = true → Sub H H') → Q (.bl o) H') : tOp r (tPl G p) (rdD G cb (fzM fb)) σ H Q := by
  obtain ⟨F, ρ, U, o, ρ', g, e, k⟩ := h
  unfold cmpPM at e
  split at e
  · rename_i hi
    obtain ⟨y, ρ1, e1, e⟩ := bnd_some e
    obtain ⟨o0, h0⟩ := getP_some hi
    obtain ⟨v, W, A, B, hv, _⟩ := focus g.env g.sub h0
    refine ⟨v, hv, F, ρ, U, y, ρ1, g, e1, fun v1 F1 H1 U1 g1 r1 x1 c1 => ?_⟩
    cases q : getP ρ1 p with
    | none => simp only [q] at e; cases e
    | some o1 =>
      simp only [q] at e
      cases q2 : cmpD op (frz o1) y with
      | none => simp only [q2] at e; cases e
      | some d =>
        simp only [q2] at e
        cases e
        obtain ⟨W', r', off'⟩ := pl_again g h0 g1 q hp c1 hv
        obtain ⟨l1, l2⟩ := looked g1 r' off'
        exact hc _ H1 v v1 (frz o1) y o Q l2 l1 (r1.mono (mix_of off')) q2 (k F1 H1 U1 g1 x1 c1)
  · cases e
theorem st_cmpP {op : CmpOp} {r : R2} (hr : OpR X (compareOp op) r) (hc : CmG G r (cmpD op)) {p : P} (hp : cb = true ∨ p.isV = true) (ha : PE X a (tPl G p)) (hb : PE X b (rd G cb fb)) (hm : behindInMarks op b = false) :
    PT X (.Compare a [op] [b] pos) (rdT G cb (cmpPM op p fb)) :=
  PT.imp (pt_cmpR hr ha (pe_fz hb) hm) fun σ H Q h => by
    obtain ⟨F, ρ, U, o, ρ', g, e, k⟩ := h
    exact rd_cmP hc hp ⟨F, ρ, U, o, ρ', g, e, fun F' H' U' g' x hc => ⟨o, rfl, k F' H' U' g' x hc⟩⟩
theorem se_cmpP {op : CmpOp} {r : R2} (hr : OpR X (compareOp op) r) (hc : CmG G r (cmpD op)) {p : P} (hp : cb = true ∨ p.isV = true) (ha : PE X a (tPl G p)) (hb : PE X b (rd G cb fb)) (hm : behindInMarks op b = false) :
    PE X (.Compare a [op] [b] pos) (rd G cb (bnd (cmpPM op p fb) fun r => rtn (.d (.bl r)))) :=
  se_tv (PE.imp (pe_cmpR hr ha (pe_fz hb) hm) fun σ H Q h => by
    obtain ⟨F, ρ, U, o, ρ', g, e, k⟩ := h
    exact rd_cmP hc hp ⟨F, ρ, U, o, ρ', g, e, k⟩)
def cmpQM (op : CmpOp) (fa : M O) (p : P) : M Bool := bnd (fzM fa) fun x => fun ρ => match getP ρ p with
    | some o => match cmpD op x (frz o) with
      | some r => some (r, ρ)
      | none => none
    | none => none
/-- a op p, p a place that is only looked at, behind a -/
theorem rd_cmQ {r : R2} {op : CmpOp} (hc : CmG G r (cmpD op)) {p : P} (h : ∃ F ρ U o ρ', Good G F H σ ρ U ∧ cmpQM op fa p ρ = some (o, ρ') ∧
    ∀ F' H' U', Good G F' H' σ ρ' U' → Ext F H U F' H' U' → (ca = true → Sub H H') → Q (.bl o) H') : tOp r (rdD G ca (fzM fa)) (tPl G p) σ H Q := by
  obtain ⟨F, ρ, U, o, ρ', g, e, k⟩ := h
  unfold cmpQM at e
  obtain ⟨x, ρ1, e1, e⟩ := bnd_some e
  refine ⟨F, ρ, U, x, ρ1, g, e1, fun v1 F1 H1 U1 g1 r1 x1 c1 => ?_⟩
  cases q : getP ρ1 p with
  | none => simp only [q] at e; cases e
  | some o1 =>
    simp only [q] at e
    cases q2 : cmpD op x (frz o1) with
    | none => simp only [q2] at e; cases e
    | some d =>
      simp only [q2] at e
      cases e
      obtain ⟨v, W, A, B, hv, hr, hU, _⟩ := focus g1.env g1.sub q
      have off : Off F1 W := fun b hb => g1.off b (by rw [hU]; simp [hb])
      obtain ⟨l1, l2⟩ := looked g1 hr off
      exact ⟨v, hv, hc _ H1 v1 v x (frz o1) o Q l2 (r1.mono (mix_of off)) l1 q2 (k F1 H1 U1 g1 x1 c1)⟩
theorem st_cmpQ {op : CmpOp} {r : R2} (hr : OpR X (compareOp op) r) (hc : CmG G r (cmpD op)) {p : P} (ha : PE X a (rd G ca fa)) (hb : PE X b (tPl G p)) (hm : behindInMarks op b = false) :
    PT X (.Compare a [op] [b] pos) (rdT G ca (cmpQM op fa p)) :=
  PT.imp (pt_cmpR hr (pe_fz ha) hb hm) fun σ H Q h => by
    obtain ⟨F, ρ, U, o, ρ', g, e, k⟩ := h
    exact rd_cmQ hc ⟨F, ρ, U, o, ρ', g, e, fun F' H' U' g' x hc => ⟨o, rfl, k F' H' U' g' x hc⟩⟩
theorem se_cmpQ {op : CmpOp} {r : R2} (hr : OpR X (compareOp op) r) (hc : CmG G r (cmpD op)) {p : P} (ha : PE X a (rd G ca fa)) (hb : PE X b (tPl G p)) (hm : behindInMarks op b = false) :
    PE X (.Compare a [op] [b] pos) (rd G ca (bnd (cmpQM op fa p) fun r => rtn (.d (.bl r)))) :=
  se_tv (PE.imp (pe_cmpR hr (pe_fz ha) hb hm) fun σ H Q h => by
    obtain ⟨F, ρ, U, o, ρ', g, e, k⟩ := h
    exact rd_cmQ hc ⟨F, ρ, U, o, ρ', g, e, k⟩)
theorem len_owned {v : V} {o : O} {n : Int} (s : Sub F H) (r : RpO G F H v o W) (e : lenO o = some n) : ∃ m : Nat, n = m ∧ LenV G.K v H m := by
  cases r with
  | d h =>
    rename_i x
    unfold lenO at e
    cases x <;> simp only at e <;> try (cases e)
    · split at e <;> cases e
      cases h
      rename_i hz
      exact ⟨_, rfl, Nat.le_trans hz big_line, rfl⟩
    · obtain ⟨a, vs, rfl, h, q⟩ := h.tupE
      exact ⟨_, rfl, .inr ⟨vs, s.sqT h, q.length.symm⟩⟩
    · obtain ⟨a, vs, rfl, h, q⟩ := h.lstE
      exact ⟨_, rfl, .inl ⟨vs, .inl (.inl (s _ _ h)), q.length.symm⟩⟩
    · obtain ⟨a, vs, rfl, h, q⟩ := h.xlE
      exact ⟨_, rfl, .inl ⟨vs, s.sqL h, q.length.symm⟩⟩
  | fl h r => cases e; exact ⟨_, rfl, .inl ⟨_, .inl (.inl h), r.length.symm⟩⟩
  | ml h r => cases e; exact ⟨_, rfl, .inl ⟨_, .inl (.inl h), r.len.symm⟩⟩
  | ob _ _ _ => cases e
def lenPM (p : P) : M O := fun ρ => match getP ρ p with
    | some o => match lenO o with
      | some n => some (.d (.int n), ρ)
      | none => none
    | none => none
theorem se_lenP (hK : X.K = G.K) {pl : P} (ha : PE X a (tPl G pl)) (hg : Gl X "len") (hm : X.mg "len" = none) {p : Pos}
    (he : starEach [a] X.env = (false, eval a X.env) :: starEach [] X.env) (hpl : (backTo pos (starEach [] X.env)).any (·.1) = false) :
    PE X (.Call (.Name "len" p) [a] [] pos) (rd G true (lenPM pl)) := PE.imp (pe_callB call_len hg hm PySem.boot_len (pa_cons ha pa_nil he) (by decide) (by decide) he hpl) fun σ H Q h => by
  obtain ⟨F, ρ, U, o, ρ', g, e, k⟩ := h
  unfold lenPM at e
  cases q : getP ρ pl with
  | none => simp only [q] at e; cases e
  | some o1 =>
    simp only [q] at e
    cases q2 : lenO o1 with
    | none => simp only [q2] at e; cases e
    | some n =>
      simp only [q2] at e
      cases e
      obtain ⟨v, W, A, B, hv, hr, _⟩ := focus g.env g.sub q
      obtain ⟨m, rfl, hl⟩ := len_owned g.sub hr q2
      exact ⟨v, hv, v, m, rfl, by rw [hK]; exact hl, k _ F H U [] g (.d (.int _)) (by simpa using g.nd) (fun _ h => nomatch h) (by simpa using Ext.refl F H U) fun _ => Sub.refl H⟩

/-! ### slices -/
theorem so_none : PO X none (rdO G true (rtn none)) := PO.imp po_none fun σ H Q h => by
  obtain ⟨F, ρ, U, o, ρ', g, e, k⟩ := h
  cases e
  exact k F H U g (Ext.refl F H U) fun _ => Sub.refl H
theorem so_some (ha : PE X a (rd G ca fa)) : PO X (some a) (rdO G ca (bnd (fzM fa) fun x => match x with
    | .int i => rtn (some i)
    | _ => fun _ => none)) := PO.imp (po_some (pe_fz ha)) fun σ H Q h => by
  obtain ⟨F, ρ, U, o, ρ', g, e, k⟩ := h
  obtain ⟨x, ρ1, e1, e⟩ := bnd_some e
  refine ⟨F, ρ, U, x, ρ1, g, e1, fun v1 F1 H1 U1 g1 r1 x1 c1 => ?_⟩
  cases x <;> simp only at e <;> try (cases e)
  cases r1
  exact ⟨_, rfl, k F1 H1 U1 g1 x1 c1⟩
theorem cut_rp {vs : List V} {ds : List D} {lo hi : Option Int} (r : RpA G F vs ds) : RpA G F (cutV vs lo hi) (cutL ds lo hi) := by
  unfold cutV cutL
  rw [r.length]
  exact (r.drop _).take _
def rSlAll (K : PySem.W.Frag) : V → Option Int → Option Int → Hp → VK → Prop := fun x lo hi H Q => rSlL K x lo hi H Q ∨ rSlA K x lo hi H Q ∨ rSlS x lo hi H Q
theorem sl_all : SlR X (rSlAll X.K) := sl_list.or (sl_tupA.or sl_str)
theorem cut_whole {α : Type} {xs : List α} {lo hi : Option Int} (h : HT.sIx xs.length 0 lo = 0 ∧ HT.sIx xs.length xs.length hi = xs.length) : cutL xs lo hi = xs := by
  unfold cutL
  rw [h.1, h.2]
  simp
theorem sl_data {x : V} {d : D} {lo hi : Option Int} {o : O} (s : Sub F H) (r : Rp G F x d) (e : slD d lo hi = some o) (k : ∀ v F' H' W, New F H F' H' W → RpO G F' H' v o W → Q v H') : rSlAll G.K x lo hi H Q := by
  cases d <;> simp only [slD] at e <;> try (cases e)
  · cases r
    split at e <;> cases e
    rename_i hz
    exact .inr (.inr ⟨_, rfl, Nat.le_trans hz big_line, plainV s (.str _) k⟩)
  · rename_i ds
    obtain ⟨p, vs, rfl, h, q⟩ := id r.tupE
    refine .inr (.inl ⟨p, vs, rfl, s.sqT h, fun hw => ?_, fun hw t ht => ?_⟩)
    · rw [q.length] at hw
      rw [cut_whole hw] at k
      exact plainV s r k
    · obtain ⟨n, r⟩ := new_tup s ht (cut_rp (lo := lo) (hi := hi) q)
      exact k _ _ _ _ n r
  · obtain ⟨p, vs, rfl, h, q⟩ := r.lstE
    refine .inl ⟨p, vs, rfl, .inl (.inl (s _ _ h)), fun t ht => ?_⟩
    obtain ⟨n, r⟩ := new_lst s ht (cut_rp (lo := lo) (hi := hi) q)
    exact k _ _ _ _ n r
  · obtain ⟨p, vs, rfl, h, q⟩ := r.xlE
    refine .inl ⟨p, vs, rfl, s.sqL h, fun t ht => ?_⟩
    obtain ⟨n, r⟩ := new_lst s ht (cut_rp (lo := lo) (hi := hi) q)
    exact k _ _ _ _ n r
theorem se_sl (hK : X.K = G.K) {lo hi : Option PySem.Expr} {fl fh : M (Option Int)} {p2 : Pos} (ha : PE X a (rd G ca fa)) (hl : PO X lo (rdO G cb fl)) (hh : PO X hi (rdO G cc fh)) :
    PE X (.Subscript a (.Slice lo hi none p2) pos) (rd G (ca && cb && cc) (bnd (fzM fa) fun x => bnd fl fun l => bnd fh fun h => lift (slD x l h))) := PE.imp (pe_slice sl_all (pe_fz ha) hl hh) fun σ H Q h => by
  obtain ⟨F, ρ, U, o, ρ', g, e, k⟩ := h
  obtain ⟨x, ρ1, e1, e⟩ := bnd_some e
  obtain ⟨l, ρ2, e2, e⟩ := bnd_some e
  obtain ⟨u, ρ3, e3, e⟩ := bnd_some e
  obtain ⟨e4, e5⟩ := lift_some e
  cases e5
  refine ⟨F, ρ, U, x, ρ1, g, e1, fun v1 F1 H1 U1 g1 r1 x1 c1 => ⟨F1, ρ1, U1, l, ρ2, g1, e2, fun F2 H2 U2 g2 x2 c2 => ⟨F2, ρ2, U2, u, _, g2, e3, fun F3 H3 U3 g3 x3 c3 => ?_⟩⟩⟩
  rw [hK]
  refine sl_data g3.sub ((r1.mono x2.ff).mono x3.ff) e4 fun v F' H' W n r => ?_
  obtain ⟨g4, nd4⟩ := g3.new n
  refine k v F' H' U3 W g4 r nd4 n.off (((x1.trans g.sub x2).trans g.sub x3).trans g.sub (n.ext U3)) fun hc => ?_
  rw [Bool.and_eq_true, Bool.and_eq_true] at hc
  exact (((c1 hc.1.1).trans (c2 hc.1.2)).trans (c3 hc.2)).trans n.hh
theorem se_rev (hK : X.K = G.K) {k : Nat} {p1 p2 p3 : Pos} (ha : PE X a (rd G ca fa)) :
    PE X (.Subscript a (.Slice none none (some (.UnaryOp .USub (.Constant (.int 1) k p1) p2)) p3) pos) (rd G ca (bnd (fzM fa) fun x => lift (revD x))) := PE.imp (pe_revL (pe_fz ha)) fun σ H Q h => by
  obtain ⟨F, ρ, U, o, ρ', g, e, k⟩ := h
  obtain ⟨x, ρ1, e1, e⟩ := bnd_some e
  obtain ⟨e4, e5⟩ := lift_some e
  cases e5
  refine ⟨F, ρ, U, x, _, g, e1, fun v1 F1 H1 U1 g1 r1 x1 c1 => ?_⟩
  cases x <;> simp only [revD] at e4 <;> try (cases e4)
  obtain ⟨p, vs, rfl, h, q⟩ := r1.lstE
  refine ⟨p, vs, rfl, .inl (.inl (g1.sub _ _ h)), fun t ht => ?_⟩
  obtain ⟨n, r⟩ := new_lst (G := G) g1.sub ht q.rev
  obtain ⟨g4, nd4⟩ := g1.new n
  exact k _ _ _ U1 _ g4 r nd4 n.off (x1.trans g.sub (n.ext U1)) fun hc => (c1 hc).trans n.hh

/-! ### isinstance -/
theorem tyX_of (s : Sub F H) {v : V} {d : D} {t : String} (r : Rp G F v d) (e : tyOf d = some t) : TyX G.K H v (.type t) := by
  cases d <;> simp only [tyOf] at e <;> cases e
  · cases r; exact .base .non
  · cases r; exact .base (.bl _)
  · cases r; exact .base (.int _)
  · cases r; exact .base (.str _)
  · obtain ⟨a, vs, rfl, h, q⟩ := r.tupE
    rcases s.sqT h with (h | ⟨o, h⟩) | ⟨o, its, n, h1, h2, _⟩
    · exact .base (.tup h)
    · exact .fTuple h
    · exact .kTuple h1 h2
  · obtain ⟨a, vs, rfl, h, q⟩ := r.lstE
    exact .base (.lst (s _ _ h))
  · cases r with
    | dic h _ => exact .base (.dK (s _ _ h))
end
end Pw

/-! PHz: zip of two things, each a list, a tuple or a text. -/
namespace Pw
open PySem PySem.Spec PyProof.Rows L2
/-- what is walked -/
inductive Src where
  | L (a : Addr) | T (a : Addr) | S (x : Str)
def Src.St (k : Src) (it : Addr) (i : Nat) (h : Heap) : Prop := match k with
  | .L a => h.IsListIter it a i
  | .T a => h.IsTupleIter it a i
  | .S x => ∃ t, h.IsStrIter it (strIterType x) x t i
def Src.fp (k : Src) (it : Addr) : List Addr := match k with
  | .L a => [it, a]
  | .T a => [it, a]
  | .S _ => [it]
def Src.At (K : PySem.W.Frag) (H : Hp) (k : Src) (xs : List V) : Prop := match k with
  | .L a => SqL K H a xs
  | .T a => SqT K H a xs
  | .S x => xs = x.cps.toList.map fun c => V.str ⟨#[c]⟩
def Src.V (k : Src) : V := match k with
  | .L a => .ref a
  | .T a => .ref a
  | .S x => .str x
def Src.Apart (k : Src) (it : Addr) : Prop := match k with
  | .L a => a ≠ it
  | .T a => a ≠ it
  | .S _ => True
theorem Src.St.at {k : Src} {it : Addr} {i : Nat} {h h' : Heap} (st : k.St it i h) (e : ∀ o, h.get? it = some o → h'.get? it = some o) : k.St it i h' := by
  cases k with
  | L a => exact Heap.IsListIter.at st e
  | T a => exact Heap.IsTupleIter.at st e
  | S x => obtain ⟨t, o, ho, r⟩ := st; exact ⟨t, o, e o ho, r⟩
theorem Src.St.obj {k : Src} {it : Addr} {i : Nat} {h : Heap} (st : k.St it i h) : ∃ o, h.get? it = some o ∧ ∀ v, o.data ≠ .cell v := by
  cases k with
  | L a => obtain ⟨o, e, c, d⟩ := st; exact ⟨o, e, fun v z => by rw [d] at z; cases z⟩
  | T a => obtain ⟨o, e, c, d⟩ := st; exact ⟨o, e, fun v z => by rw [d] at z; cases z⟩
  | S x => obtain ⟨t, o, e, c, d⟩ := st; exact ⟨o, e, fun v z => by rw [d] at z; cases z⟩
section
variable {X : Cx} {pins : List (Addr × Obj)} {σ : L2.St} {H : Hp} {s : Shared}
theorem src_draws (hh : X.A.handled = none) (I : Inv X pins σ H s) {k : Src} {it : Addr} {xs : List V} {i : Nat} (ap : k.Apart it) (ha : k.At X.K H xs) (st : k.St it i s.heap) :
    ∃ P St', Draws X.prog X.w X.A.in1 it (k.fp it) xs.length P St' ∧ St' i s.heap ∧ (∀ i v, P i v → ∃ x, xs[i]? = some x ∧ RelV x v) ∧ ∀ i h, St' i h → k.St it i h := by
  have hh1 : X.A.in1.handled = none := hh
  have get : ∀ {its : List Value}, Vals xs its → ∀ (i : Nat) (v : Value), its.toArray[i]? = some v → ∃ x, xs[i]? = some x ∧ RelV x v := fun {its} rv i v e => by
    have e' : its[i]? = some v := by simpa using e
    have hi : i < xs.length := by rw [rv.length]; exact (List.getElem?_eq_some_iff.mp e').1
    obtain ⟨u, hu, ru⟩ := rv.get (List.getElem?_eq_getElem hi)
    rw [e'] at hu
    cases hu
    exact ⟨_, List.getElem?_eq_getElem hi, ru⟩
  cases k with
  | L a =>
    obtain ⟨its, rv, pl, hz⟩ := I.list ha
    have e : its.toArray.size = xs.length := by rw [List.size_toArray, rv.length]
    refine ⟨_, _, e ▸ Draws.list hh1 it a ap its.toArray, ⟨st, pl.isList⟩, get rv, fun i h q => q.1⟩
  | T a =>
    obtain ⟨its, rv, pl, hz⟩ := I.tuple ha
    have e : its.toArray.size = xs.length := by rw [List.size_toArray, rv.length]
    refine ⟨_, _, e ▸ Draws.tuple hh1 it a ap its.toArray, ⟨st, pl⟩, get rv, fun i h q => q.1⟩
  | S x =>
    obtain ⟨t, st⟩ := st
    have ha' : xs = x.cps.toList.map fun c => V.str ⟨#[c]⟩ := ha
    have e : x.cps.size = xs.length := by rw [ha', List.length_map, Array.length_toList]
    refine ⟨_, _, e ▸ Draws.text hh1 it x t, st, ?_, fun i h q => ⟨t, q⟩⟩
    rintro i v ⟨c, u, hc, rfl⟩
    refine ⟨.str ⟨#[c]⟩, ?_, ⟨u, rfl⟩⟩
    rw [ha', List.getElem?_map]
    have : x.cps.toList[i]? = some c := by simpa using hc
    rw [this]
    rfl
/-- the two as they stand at each turn, the items in new pairs -/
def ItzD (K : PySem.W.Frag) (k1 k2 : Src) : It :=
  ⟨fun i H => ∃ (xs ys : List V) (x y : V), k1.At K H xs ∧ k2.At K H ys ∧ xs[i]? = some x ∧ ys[i]? = some y,
    fun i H v H' => ∃ T x y, v = .ref T ∧ H T = none ∧ H' = upd H T (.tup [x, y]) ∧ (∀ xs, k1.At K H xs → xs[i]? = some x) ∧ ∀ ys, k2.At K H ys → ys[i]? = some y,
    fun i H => ∃ xs ys : List V, k1.At K H xs ∧ k2.At K H ys ∧ i ≤ xs.length ∧ i ≤ ys.length ∧ (i = xs.length ∨ i = ys.length)⟩
theorem at_inj (I : Inv X pins σ H s) {k : Src} {xs ys : List V} (h1 : k.At X.K H xs) (h2 : k.At X.K H ys) : xs = ys := by
  cases k with
  | L a => exact I.list_inj h1 h2
  | T a => exact I.tuple_inj h1 h2
  | S x => exact Eq.trans h1 (Eq.symm h2)
theorem turn_zipD {P : Program} {w : World} {K : PySem.W.Frag} {elts : List PySem.Expr} {kk : Nat} {tpos : Pos} {k1 k2 : Src} {z TI TO i1 i2 : Addr} (S : ZipSep2 z TI TO i1 i2 (k1.fp i1) (k2.fp i2)) (a1 : k1.Apart i1) (a2 : k2.Apart i2) :
    Turn P w K (.Tuple elts kk tpos) (ItzD K k1 k2) [z, TI, TO, i1, i2] z (fun i h => IsZip h z TI TO .none ∧ IsTupOf2 h TI (.ref i1) (.ref i2) ∧ (∃ x y, IsTupOf2 h TO x y) ∧ k1.St i1 i h ∧ k2.St i2 i h) where
  mem := by simp
  obj := fun i h st c hc => by
    obtain ⟨hz, hTI, ⟨x, y, hTO⟩, h1, h2⟩ := st
    have e' : c = z ∨ c = TI ∨ c = TO ∨ c = i1 ∨ c = i2 := by simpa using hc
    rcases e' with q | q | q | q | q
    · rw [q]; exact ⟨_, hz, fun v q => nomatch q⟩
    · rw [q]; exact ⟨_, hTI, fun v q => nomatch q⟩
    · rw [q]; exact ⟨_, hTO, fun v q => nomatch q⟩
    · rw [q]; exact h1.obj
    · rw [q]; exact h2.obj
  keep := fun i h h' st k => by
    obtain ⟨hz, hTI, ⟨x, y, hTO⟩, h1, h2⟩ := st
    exact ⟨k z (by simp) _ hz, k TI (by simp) _ hTI, ⟨x, y, k TO (by simp) _ hTO⟩, h1.at fun o q => k i1 (by simp) o q, h2.at fun o q => k i2 (by simp) o q⟩
  item := by
    intro X hP hw hK hc i pins s σ H E I hf st hg
    subst hP hw hK
    obtain ⟨hz, hTI, ⟨x0, y0, hTO⟩, h1, h2⟩ := st
    obtain ⟨xs, ys, x, y, hqx, hqy, hx, hy⟩ := hg
    obtain ⟨P1, St1, D1, s1, p1, b1⟩ := src_draws (I.ok.hd hc) I a1 hqx h1
    obtain ⟨P2, St2, D2, s2, p2, b2⟩ := src_draws (I.ok.hd hc) I a2 hqy h2
    have l1 : i < xs.length := (List.getElem?_eq_some_iff.mp hx).1
    have l2 : i < ys.length := (List.getElem?_eq_some_iff.mp hy).1
    have GN := GoesN.zip2 (elts := elts) (x1 := kk) (pos := tpos) S D1 D2
    refine GN.goes i s _ E (by omega) ⟨hz, hTI, ⟨x0, y0, hTO⟩, s1, s2⟩ fun v h' tk hY st' kp ht => ?_
    obtain ⟨T, x', y', rfl, hT, hpx, hpy, o, ho, hc', n, hd⟩ := hY
    obtain ⟨u, hu, ru⟩ := p1 _ _ hpx
    obtain ⟨u2, hu2, ru2⟩ := p2 _ _ hpy
    rw [hx] at hu
    cases hu
    rw [hy] at hu2
    cases hu2
    have new : ObjOk X.prog X.w (upd H T (.tup [x, y])) h' T (.tup [x, y]) :=
      ⟨by show 2 ≤ sizeLine; decide, [x', y'], .cons ru (.cons ru2 .nil), ⟨o, ho, hc', n, hd⟩⟩
    have I1 : Inv X pins σ (upd H T (.tup [x, y])) { s with heap := h', toks := tk } :=
      I.turnedNew (t' := tk) (ch := [z, TI, TO, i1, i2]) (fun c o hb q => kp c o (fun q' => hb (by
        have e' : c = z ∨ c = TO ∨ c = i1 ∨ c = i2 := by simpa using q'
        rcases e' with e | e | e | e <;> simp [e])) q) hf hT new
    obtain ⟨g1, g2, g3, g4, g5⟩ := st'
    refine ⟨.ref T, _, I1, rfl, ⟨T, x, y, rfl, I.hok.fresh hT, rfl, fun l hl => by rw [at_inj I hl hqx]; exact hx, fun l hl => by rw [at_inj I hl hqy]; exact hy⟩, ⟨g1, g2, g3, b1 _ _ g4, b2 _ _ g5⟩, fun c hcm => ?_⟩
    have hlt : c < s.heap.objs.size := by
      have e' : c = z ∨ c = TI ∨ c = TO ∨ c = i1 ∨ c = i2 := by simpa using hcm
      rcases e' with q | q | q | q | q
      · rw [q]; exact Heap.lt_size hz
      · rw [q]; exact Heap.lt_size hTI
      · rw [q]; exact Heap.lt_size hTO
      · rw [q]; obtain ⟨_, e1, _⟩ := h1.obj; exact Heap.lt_size e1
      · rw [q]; obtain ⟨_, e1, _⟩ := h2.obj; exact Heap.lt_size e1
    rw [upd_ne (Nat.ne_of_lt (Nat.lt_of_lt_of_le hlt hT))]
    exact (hf c hcm).1
  done := by
    intro X hP hw hK hc i pins s σ H E I hf st hg
    subst hP hw hK
    obtain ⟨hz, hTI, ⟨x0, y0, hTO⟩, h1, h2⟩ := st
    obtain ⟨xs, ys, hqx, hqy, l1, l2, hend⟩ := hg
    obtain ⟨P1, St1, D1, s1, p1, b1⟩ := src_draws (I.ok.hd hc) I a1 hqx h1
    obtain ⟨P2, St2, D2, s2, p2, b2⟩ := src_draws (I.ok.hd hc) I a2 hqy h2
    have GN := GoesN.zip2 (elts := elts) (x1 := kk) (pos := tpos) S D1 D2
    have e : i = min xs.length ys.length := by omega
    have st0 : IsZip s.heap z TI TO .none ∧ IsTupOf2 s.heap TI (.ref i1) (.ref i2) ∧ (∃ a1 a2, IsTupOf2 s.heap TO a1 a2) ∧ St1 (min xs.length ys.length) s.heap ∧ St2 (min xs.length ys.length) s.heap := by
      rw [← e]; exact ⟨hz, hTI, ⟨x0, y0, hTO⟩, s1, s2⟩
    refine GN.stops s _ E st0 fun h' tk kp ht => ?_
    exact I.turnedL (t' := tk) (ch := [z, TI, TO, i1, i2]) (fun c o hb q => kp c o (fun q' => hb (by
        have e' : c = z ∨ c = TO ∨ c = i1 ∨ c = i2 := by simpa using q'
        rcases e' with e | e | e | e <;> simp [e])) q) hf
  self := fun A i s Q E st h => wpAny_pyIter_zip st.1 h
/-! ### zip(a, b) made -/
/-- iter(v) is a new object o -/
def Iter1 (v : Value) (o : Obj) (h : Heap) : Prop := ∀ (prog : Program) (w : World) (A : Around) (E : Value → Shared → Prop) (Q : Value → Shared → Prop) (s : Shared), s.heap = h → Q (.ref h.objs.size) { s with heap := h.push o } → wpAny (model prog w) A (pyIter v) Q E s
abbrev zdH2 (h : Heap) (o1 o2 : Obj) : Heap := (h.push o1).push o2
abbrev zdH3 (h : Heap) (o1 o2 : Obj) : Heap := (zdH2 h o1 o2).push { cls := .type "tuple", data := .seq #[.ref h.objs.size, .ref (h.push o1).objs.size] }
abbrev zdH4 (h : Heap) (o1 o2 : Obj) : Heap := (zdH3 h o1 o2).push { cls := .type "tuple", data := .seq #[.none, .none] }
abbrev zdH5 (h : Heap) (o1 o2 : Obj) : Heap := (zdH4 h o1 o2).push { cls := .type "zip", data := .fields #[.none, .bool false, .bool false, .ref (zdH2 h o1 o2).objs.size, .ref (zdH3 h o1 o2).objs.size] }
theorem meets_zipD_new (v1 v2 : Value) (o1 o2 : Obj) :
    Meets (Builtin.«zip.__new__» ⟨[.type "zip", v1, v2], []⟩) (fun _ R s => Iter1 v1 o1 s.heap ∧ Iter1 v2 o2 (s.heap.push o1) ∧
      R (.ok (.ret (.ref (zdH4 s.heap o1 o2).objs.size))) { s with heap := zdH5 s.heap o1 o2 }) :=
  .of_wp fun prog w A R s h => by
    obtain ⟨hp, g, d, tk, os⟩ := s; obtain ⟨hl1, hl2, h⟩ := h
    have hsub := sub_zip
    have hL1 : ∀ {A : Around} {E : Value → Shared → Prop} {Q : Value → Shared → Prop}, Q (.ref hp.objs.size) ⟨hp.push o1, g, d, tk, os⟩ → wpAny (model prog w) A (pyIter v1) Q E ⟨hp, g, d, tk, os⟩ := fun {A E Q} q => hl1 prog w A E Q ⟨hp, g, d, tk, os⟩ rfl q
    have hL2 : ∀ {A : Around} {E : Value → Shared → Prop} {Q : Value → Shared → Prop}, Q (.ref (hp.push o1).objs.size) ⟨(hp.push o1).push o2, g, d, tk, os⟩ → wpAny (model prog w) A (pyIter v2) Q E ⟨hp.push o1, g, d, tk, os⟩ := fun {A E Q} q => hl2 prog w A E Q ⟨hp.push o1, g, d, tk, os⟩ rfl q
    wp_walk using hL1, hL2
    exact ⟨_, rfl, h⟩
end
end Pw

/-! PHy: zip as a rule of the layer. -/
namespace Pw
open PySem PySem.Spec PyProof.Rows L2
section
variable {prog : Program} {w : World} {A : Around} {E : Value → Shared → Prop} {s : Shared}
theorem call_zipD {v1 v2 : Value} {o1 o2 : Obj} {Q : Value → Shared → Prop} (h1 : Iter1 v1 o1 s.heap) (h2 : Iter1 v2 o2 (s.heap.push o1)) (f1 : o1.isFreed = false) (f2 : o2.isFreed = false)
    (h : ∀ h', IsZip h' (s.heap.objs.size + 4) (s.heap.objs.size + 2) (s.heap.objs.size + 3) .none → IsTupOf2 h' (s.heap.objs.size + 2) (.ref s.heap.objs.size) (.ref (s.heap.objs.size + 1)) →
      IsTupOf2 h' (s.heap.objs.size + 3) .none .none → h'.get? s.heap.objs.size = some o1 → h'.get? (s.heap.objs.size + 1) = some o2 → h'.objs.size = s.heap.objs.size + 5 →
      (∀ c o, s.heap.get? c = some o → h'.get? c = some o) → Q (.ref (s.heap.objs.size + 4)) { s with heap := h' }) :
    wpAny (model prog w) A (call (.type "zip") [v1, v2]) Q E s := by
  refine callType_new F.called_zip (by decide) (F.typeCall_zip_2 _ _) (F.newCall_zip_2 _ _) (fun obj => F.args_object_init_3 obj _ _) F.entry_zip_new
    (meets_zipD_new v1 v2 o1 o2) ⟨h1, h2, ?_⟩
  have z1 : (s.heap.push o1).objs.size = s.heap.objs.size + 1 := Heap.size_push ..
  have z2 : (zdH2 s.heap o1 o2).objs.size = s.heap.objs.size + 2 := by rw [Heap.size_push, z1]
  have z3 : (zdH3 s.heap o1 o2).objs.size = s.heap.objs.size + 3 := by rw [Heap.size_push, z2]
  have z4 : (zdH4 s.heap o1 o2).objs.size = s.heap.objs.size + 4 := by rw [Heap.size_push, z3]
  have z5 : (zdH5 s.heap o1 o2).objs.size = s.heap.objs.size + 5 := by rw [Heap.size_push, z4]
  have g5 : (zdH5 s.heap o1 o2).get? (zdH4 s.heap o1 o2).objs.size = some _ := Heap.get?_push_size _ rfl
  have g4 : (zdH5 s.heap o1 o2).get? (zdH3 s.heap o1 o2).objs.size = some _ := Heap.get?_push_of_some _ (Heap.get?_push_size _ rfl)
  have g3 : (zdH5 s.heap o1 o2).get? (zdH2 s.heap o1 o2).objs.size = some _ := Heap.get?_push_of_some _ (Heap.get?_push_of_some _ (Heap.get?_push_size _ rfl))
  have g2 : (zdH5 s.heap o1 o2).get? (s.heap.push o1).objs.size = some _ := Heap.get?_push_of_some _ (Heap.get?_push_of_some _ (Heap.get?_push_of_some _ (Heap.get?_push_size _ f2)))
  have g1 : (zdH5 s.heap o1 o2).get? s.heap.objs.size = some _ := Heap.get?_push_of_some _ (Heap.get?_push_of_some _ (Heap.get?_push_of_some _ (Heap.get?_push_of_some _ (Heap.get?_push_size _ f1))))
  show _ ∧ _
  rw [z2, z3, z4] at g5
  rw [z1, z2] at g3
  rw [z3] at g4
  rw [z1] at g2
  rw [z4]
  exact ⟨⟨_, g5, rfl⟩, h _ g5 g3 g4 g1 g2 z5 fun c o x =>
    Heap.get?_push_of_some _ (Heap.get?_push_of_some _ (Heap.get?_push_of_some _ (Heap.get?_push_of_some _ (Heap.get?_push_of_some _ x))))⟩
end
/-- the iterator that a source's iter() lays -/
def Src.Ob (k : Src) (u : Value) : Obj := match k with
  | .L a => { cls := .type "list_iterator", data := .fields #[.ref a, .int 0 0] }
  | .T a => { cls := .type "tuple_iterator", data := .fields #[.ref a, .int 0 0] }
  | .S x => { cls := .type (strIterType x), data := .fields #[u, .int 0 0] }
section
variable {X : Cx} {pins : List (Addr × Obj)} {σ : L2.St} {H : Hp} {s : Shared}
theorem src_iter (I : Inv X pins σ H s) {k : Src} {u : Value} {xs : List V} (ru : RelV k.V u) (ha : k.At X.K H xs) {h' : Heap} (kp : ∀ c o, s.heap.get? c = some o → h'.get? c = some o) : Iter1 u (k.Ob u) h' := by
  intro prog w A E Q s' e q
  subst e
  cases k with
  | L a =>
    obtain rfl : u = .ref a := ru
    obtain ⟨its, rv, ⟨o, n, ho, hc, hd, hdd⟩, hz⟩ := I.list ha
    exact wpAny_pyIter_list ⟨o, kp _ _ ho, hc, n, hdd⟩ q
  | T a =>
    obtain rfl : u = .ref a := ru
    obtain ⟨its, rv, ⟨o, ho, hc, n, hd⟩, hz⟩ := I.tuple ha
    exact wpAny_pyIter_tuple ⟨o, kp _ _ ho, hc, n, hd⟩ q
  | S x =>
    obtain ⟨t, rfl⟩ := ru
    have q' : Q (.ref s'.heap.objs.size) { s' with heap := s'.heap.push { cls := .type (strIterType x), data := .fields #[.str x t, .int 0 0] } } := q
    unfold strIterType at q'
    cases hx : x.cps.all (· < 128)
    · rw [hx, if_neg Bool.false_ne_true] at q'
      exact wpAny_pyIter_wide hx q'
    · rw [hx, if_pos rfl] at q'
      exact wpAny_pyIter_ascii hx q'
theorem src_st {k : Src} {u : Value} {h : Heap} {it : Addr} (ru : RelV k.V u) (e : h.get? it = some (k.Ob u)) : k.St it 0 h := by
  cases k with
  | L a => exact ⟨_, e, rfl, rfl⟩
  | T a => exact ⟨_, e, rfl, rfl⟩
  | S x => obtain ⟨t, rfl⟩ := ru; exact ⟨t, _, e, rfl, rfl⟩
theorem src_lt (I : Inv X pins σ H s) {k : Src} {xs : List V} (ha : k.At X.K H xs) : ∀ b, (k = .L b ∨ k = .T b) → b < s.heap.objs.size := by
  rintro b (rfl | rfl)
  · obtain ⟨its, rv, ⟨o, n, ho, _⟩, hz⟩ := I.list ha
    exact Heap.lt_size ho
  · obtain ⟨its, rv, ⟨o, ho, _⟩, hz⟩ := I.tuple ha
    exact Heap.lt_size ho
theorem fp_cases {k : Src} {it c : Addr} (h : c ∈ k.fp it) : c = it ∨ k = .L c ∨ k = .T c := by
  cases k with
  | L a =>
    have : c = it ∨ c = a := by simpa [Src.fp] using h
    rcases this with e | e
    · exact .inl e
    · subst e; exact .inr (.inl rfl)
  | T a =>
    have : c = it ∨ c = a := by simpa [Src.fp] using h
    rcases this with e | e
    · exact .inl e
    · subst e; exact .inr (.inr rfl)
  | S x => exact .inl (by simpa [Src.fp] using h)
theorem fp_mem (k : Src) (it : Addr) : it ∈ k.fp it := by cases k <;> simp [Src.fp]
theorem sep_of {n : Nat} {k1 k2 : Src} (h1 : ∀ b, (k1 = .L b ∨ k1 = .T b) → b < n) (h2 : ∀ b, (k2 = .L b ∨ k2 = .T b) → b < n) : ZipSep2 (n + 4) (n + 2) (n + 3) n (n + 1) (k1.fp n) (k2.fp (n + 1)) where
  TIz := Nat.ne_of_lt (by omega)
  TOz := Nat.ne_of_lt (by omega)
  TITO := Nat.ne_of_lt (by omega)
  TIi1 := Nat.ne_of_gt (by omega)
  mem1 := fp_mem _ _
  zf1 := fun h => by
    rcases fp_cases h with e | e
    · exact absurd e (Nat.ne_of_gt (by omega))
    · exact absurd (h1 _ e) (by simp)
  Tf1 := fun h => by
    rcases fp_cases h with e | e
    · exact absurd e (Nat.ne_of_gt (by omega))
    · exact absurd (h1 _ e) (by simp)
  TIi2 := Nat.ne_of_gt (by omega)
  mem2 := fp_mem _ _
  zf2 := fun h => by
    rcases fp_cases h with e | e
    · exact absurd e (Nat.ne_of_gt (by omega))
    · exact absurd (h2 _ e) (by simp)
  Tf2 := fun h => by
    rcases fp_cases h with e | e
    · exact absurd e (Nat.ne_of_gt (by omega))
    · exact absurd (h2 _ e) (by simp)
  sep1_2 := fun h => by
    rcases fp_cases h with e | e
    · exact absurd e (Nat.ne_of_lt (by omega))
    · exact absurd (h2 _ e) (by simp)
  sep2_1 := fun h => by
    rcases fp_cases h with e | e
    · exact absurd e (Nat.ne_of_gt (by omega))
    · exact absurd (h1 _ e) (by simp)
theorem apart_of {n m : Nat} {k : Src} (h : ∀ b, (k = .L b ∨ k = .T b) → b < n) (hm : n ≤ m) : k.Apart m := by
  cases k with
  | L a => exact Nat.ne_of_lt (Nat.lt_of_lt_of_le (h a (.inl rfl)) hm)
  | T a => exact Nat.ne_of_lt (Nat.lt_of_lt_of_le (h a (.inr rfl)) hm)
  | S x => trivial
def iZipD (K : PySem.W.Frag) (ta : TA) : TI := fun σ H R => ta σ H fun vs H1 => ∃ k1 k2 xs ys, vs = [k1.V, k2.V] ∧ Src.At K H1 k1 xs ∧ Src.At K H1 k2 ys ∧ R (ItzD K k1 k2) H1
theorem pi_zipD {X : Cx} {e e2 : PySem.Expr} {ta : TA} {p pos tpos : Pos} {elts : List PySem.Expr} {kk : Nat} (hg : Gl X "zip") (hm : X.mg "zip" = none) (ha : PA X [e, e2] ta)
    (hs : starEach [e, e2] X.env = (false, eval e X.env) :: starEach [e2] X.env) (hpl : (backTo pos (starEach [e2] X.env)).any (·.1) = false) :
    PI X (.Tuple elts kk tpos) (.Call (.Name "zip" p) [e, e2] [] pos) (iZipD X.K ta) := by
  refine ⟨fun pins s σ H R I h => ?_⟩
  refine Call_ (ld_blt I hg hm PyProof.Rows.boot_zip (PyProof.Rows.callWith_type1 (thn (ha.run pos pins s σ H _ I h) fun us s1 ⟨vs, H1, I1, r1, q1⟩ => ?_) hs hpl))
  obtain ⟨k1, k2, xs, ys, ex, hqx, hqy, q⟩ := q1
  subst ex
  cases r1 with
  | cons r rr =>
    rename_i u us
    cases rr with
    | cons r' rr =>
      rename_i u2 us2
      cases rr
      have fresh5 : ∀ c, c ∈ [s1.heap.objs.size + 4, s1.heap.objs.size + 2, s1.heap.objs.size + 3, s1.heap.objs.size, s1.heap.objs.size + 1] → FpOk X pins H1 c := fun c hcm => by
        have e' : c = s1.heap.objs.size + 4 ∨ c = s1.heap.objs.size + 2 ∨ c = s1.heap.objs.size + 3 ∨ c = s1.heap.objs.size ∨ c = s1.heap.objs.size + 1 := by simpa using hcm
        have hle : s1.heap.objs.size ≤ c := by
          rcases e' with z | z | z | z | z
          · rw [z]; exact Nat.le_add_right _ _
          · rw [z]; exact Nat.le_add_right _ _
          · rw [z]; exact Nat.le_add_right _ _
          · rw [z]; exact Nat.le_refl _
          · rw [z]; exact Nat.le_add_right _ _
        exact I1.fpOk hle (I1.hok.fresh hle)
      have lt1 := src_lt I1 hqx
      have lt2 := src_lt I1 hqy
      refine call_zipD (src_iter I1 r hqx fun _ _ z => z) (src_iter I1 r' hqy fun _ _ z => Heap.get?_push_of_some _ z) (by cases k1 <;> rfl) (by cases k2 <;> rfl) fun h' hz hTI hTO h1 h2 hsz hk => wpAny_pyIter_zip hz ?_
      have I2 : Inv X pins σ H1 { s1 with heap := h' } := I1.kept (t' := s1.toks) hk
      exact ⟨s1.heap.objs.size + 4, [s1.heap.objs.size + 4, s1.heap.objs.size + 2, s1.heap.objs.size + 3, s1.heap.objs.size, s1.heap.objs.size + 1], _, _, H1, rfl, I2,
        turn_zipD (sep_of lt1 lt2) (apart_of lt1 (Nat.le_refl _)) (apart_of lt2 (Nat.le_succ _)), ⟨hz, hTI, ⟨_, _, hTO⟩, src_st r h1, src_st r' h2⟩, fresh5, q⟩
end
end Pw

/-! PH1: names by places, targets, what is walked, comprehensions. -/
namespace Pw
open PySem PySem.Spec PyProof.Rows L2

/-- one name: what it holds owns U -/
def Sl (G : Wd) (F H : Hp) (v : Option V) (o : Option O) (U : List Addr) : Prop := match o with
  | none => U = []
  | some o => ∃ x, v = some x ∧ RpO G F H x o U
section
variable {G : Wd} {F F' H H' : Hp} {σ : L2.St} {ρ : Env} {U W : List Addr}
theorem RpS.toPt (r : RpS G F H σ ρ U) : ∃ Us : List (List Addr), Us.flatten = U ∧ Us.length = ρ.length ∧ σ.length = ρ.length ∧ ∀ (i : Nat) (v : Option V) (o : Option O) (Z : List Addr), σ[i]? = some v → ρ[i]? = some o → Us[i]? = some Z → Sl G F H v o Z := by
  induction r with
  | nil => exact ⟨[], rfl, rfl, rfl, fun i v o Z h => by simp at h⟩
  | no _ ih =>
    obtain ⟨Us, h1, h2, h3, h4⟩ := ih
    refine ⟨[] :: Us, by simpa using h1, by simp [h2], by simp [h3], fun i v o Z a b c => ?_⟩
    cases i with
    | zero =>
      simp at a b c
      subst b c
      exact rfl
    | succ i => exact h4 i v o Z (by simpa using a) (by simpa using b) (by simpa using c)
  | yes h _ ih =>
    obtain ⟨Us, h1, h2, h3, h4⟩ := ih
    refine ⟨_ :: Us, by rw [List.flatten_cons, h1], by simp [h2], by simp [h3], fun i v o Z a b c => ?_⟩
    cases i with
    | zero =>
      simp at a b c
      subst a b c
      exact ⟨_, rfl, h⟩
    | succ i => exact h4 i v o Z (by simpa using a) (by simpa using b) (by simpa using c)
theorem RpS.ofPt : ∀ (ρ : Env) (σ : L2.St) (Us : List (List Addr)), Us.length = ρ.length → σ.length = ρ.length → (∀ (i : Nat) (v : Option V) (o : Option O) (Z : List Addr), σ[i]? = some v → ρ[i]? = some o → Us[i]? = some Z → Sl G F H v o Z) → RpS G F H σ ρ Us.flatten
  | [], [], [], _, _, _ => .nil
  | o :: ρ, v :: σ, Z :: Us, h1, h2, h => by
    have ih := RpS.ofPt ρ σ Us (by simpa using h1) (by simpa using h2) fun i v o Z a b c => h (i + 1) v o Z (by simpa using a) (by simpa using b) (by simpa using c)
    have h0 := h 0 v o Z rfl rfl rfl
    rw [List.flatten_cons]
    cases o with
    | none =>
      have e : Z = [] := h0
      subst e
      exact .no ih
    | some o =>
      obtain ⟨x, e, r⟩ := h0
      subst e
      exact .yes r ih
  | [], _ :: _, _, _, h2, _ => by simp at h2
  | [], [], _ :: _, h1, _, _ => by simp at h1
  | _ :: _, [], _, _, h2, _ => by simp at h2
  | _ :: _, _ :: _, [], h1, _, _ => by simp at h1
theorem Sl.mono (s : Sub F F') {v : Option V} {o : Option O} (k : Kp H H' U) (h : Sl G F H v o U) : Sl G F' H' v o U := by
  cases o with
  | none => exact h
  | some o => obtain ⟨x, e, r⟩ := h; exact ⟨x, e, r.mono s k⟩
theorem wipe_in {i : Nat} : ∀ {is : List Nat}, i ∈ is → ∀ {v : Option V}, (wipe σ is)[i]? = some v → v = none
  | j :: is, h, v, e => by
    unfold wipe at e
    by_cases hj : j = i
    · subst hj
      by_cases hl : j < (wipe σ is).length
      · rw [List.getElem?_set_self hl] at e; cases e; rfl
      · rw [List.getElem?_eq_none (by simpa using hl)] at e; cases e
    · rw [List.getElem?_set_ne hj] at e
      rcases List.mem_cons.mp h with z | z
      · exact absurd z.symm hj
      · exact wipe_in z e
theorem wipeE_length (is : List Nat) : (wipeE ρ is).length = ρ.length := by
  induction is with
  | nil => rfl
  | cons i is ih => unfold wipeE; rw [List.length_set, ih]
theorem wipeE_in {i : Nat} : ∀ {is : List Nat}, i ∈ is → ∀ {v : Option O}, (wipeE ρ is)[i]? = some v → v = none
  | j :: is, h, v, e => by
    unfold wipeE at e
    by_cases hj : j = i
    · subst hj
      by_cases hl : j < (wipeE ρ is).length
      · rw [List.getElem?_set_self hl] at e; cases e; rfl
      · rw [List.getElem?_eq_none (by simpa using hl)] at e; cases e
    · rw [List.getElem?_set_ne hj] at e
      rcases List.mem_cons.mp h with z | z
      · exact absurd z.symm hj
      · exact wipeE_in z e
theorem wipeE_out {i : Nat} : ∀ {is : List Nat}, i ∉ is → (wipeE ρ is)[i]? = ρ[i]?
  | [], _ => rfl
  | j :: is, h => by
    unfold wipeE
    rw [List.getElem?_set_ne (fun e : j = i => h (by rw [e]; exact List.mem_cons_self)), wipeE_out fun z => h (List.mem_cons_of_mem _ z)]
theorem backE_length (ρ0 : Env) (is : List Nat) : (backE ρ0 ρ is).length = ρ.length := by
  induction is with
  | nil => rfl
  | cons i is ih => unfold backE; rw [List.length_set, ih]
theorem backE_in {ρ0 : Env} {i : Nat} : ∀ {is : List Nat}, i ∈ is → i < ρ.length → (backE ρ0 ρ is)[i]? = some (ρ0[i]?).join
  | j :: is, h, hl => by
    unfold backE
    by_cases hj : j = i
    · subst hj; rw [List.getElem?_set_self (by rw [backE_length]; exact hl)]
    · rw [List.getElem?_set_ne hj]
      rcases List.mem_cons.mp h with z | z
      · exact absurd z.symm hj
      · exact backE_in z hl
theorem backE_out {ρ0 : Env} {i : Nat} : ∀ {is : List Nat}, i ∉ is → (backE ρ0 ρ is)[i]? = ρ[i]?
  | [], _ => rfl
  | j :: is, h => by
    unfold backE
    rw [List.getElem?_set_ne (fun e : j = i => h (by rw [e]; exact List.mem_cons_self)), backE_out fun z => h (List.mem_cons_of_mem _ z)]
theorem wipe_out' {i : Nat} {is : List Nat} (hi : i ∉ is) : (wipe σ is)[i]? = σ[i]? := by
  induction is with
  | nil => rfl
  | cons j is ih =>
    unfold wipe
    rw [List.getElem?_set_ne (fun z : j = i => hi (by rw [z]; exact List.mem_cons_self))]
    exact ih (fun z => hi (List.mem_cons_of_mem _ z))
/-- the block's own names forgotten -/
theorem RpS.wiped (r : RpS G F H σ ρ U) (is : List Nat) : ∃ U', U'.Sublist U ∧ RpS G F H (wipe σ is) (wipeE ρ is) U' := by
  obtain ⟨Us, h1, h2, h3, h4⟩ := r.toPt
  refine ⟨(Us.mapIdx fun i Z => if i ∈ is then [] else Z).flatten, ?_, RpS.ofPt _ _ _ (by rw [List.length_mapIdx, wipeE_length, h2]) (by rw [wipe_length, wipeE_length, h3]) fun i v o Z a b c => ?_⟩
  · rw [← h1]
    clear h1 h2 h4
    -- each part is a part
    suffices ∀ (l : List (List Addr)) (n : Nat), ((l.mapIdx fun i Z => if i + n ∈ is then [] else Z).flatten).Sublist l.flatten by
      simpa using this Us 0
    intro l
    induction l with
    | nil => intro n; simp
    | cons Z l ih =>
      intro n
      rw [List.mapIdx_cons, List.flatten_cons, List.flatten_cons]
      refine List.Sublist.append ?_ ?_
      · split
        · exact List.nil_sublist _
        · exact List.Sublist.refl _
      · have := ih (n + 1)
        simpa [Nat.add_assoc, Nat.add_comm 1 n] using this
  · rw [List.getElem?_mapIdx] at c
    cases q : Us[i]? with
    | none => rw [q] at c; cases c
    | some Z0 =>
      rw [q] at c
      by_cases hi : i ∈ is
      · have e := wipeE_in hi b
        subst e
        have c' : (if i ∈ is then [] else Z0) = Z := Option.some.inj c
        rw [if_pos hi] at c'
        exact c'.symm
      · have c' : (if i ∈ is then [] else Z0) = Z := Option.some.inj c
        rw [if_neg hi] at c'
        subst c'
        rw [wipeE_out hi] at b
        cases o with
        | none =>
          have hl : i < σ.length := by rw [h3]; exact (List.getElem?_eq_some_iff.mp b).1
          have hz : Sl G F H σ[i] none Z0 := h4 i _ none Z0 (List.getElem?_eq_getElem hl) b q
          exact hz
        | some o =>
          have hl : i < σ.length := by rw [h3]; exact (List.getElem?_eq_some_iff.mp b).1
          have hv := h4 i _ (some o) Z0 (List.getElem?_eq_getElem hl) b q
          obtain ⟨x, e, rr⟩ := hv
          refine ⟨x, ?_, rr⟩
          have e2 : (wipe σ is)[i]? = σ[i]? := wipe_out' hi
          rw [e2, List.getElem?_eq_getElem hl, e] at a
          exact (Option.some.inj a).symm
/-- .. and put back as they were: they were data -/
theorem RpS.back {ρ0 ρ1 : Env} {F0 H0 : Hp} {U0 : List Addr} {is : List Nat} (r0 : RpS G F0 H0 σ ρ0 U0) (pl : plainAt ρ0 is = true) (s : Sub F0 F) (r : RpS G F H (wipe σ is) (wipeE ρ1 is) U) : RpS G F H σ (backE ρ0 ρ1 is) U := by
  obtain ⟨Us, h1, h2, h3, h4⟩ := r.toPt
  obtain ⟨Us0, g1, g2, g3, g4⟩ := r0.toPt
  rw [wipe_length, wipeE_length] at h3
  rw [wipeE_length] at h2
  rw [← h1]
  refine RpS.ofPt _ _ _ (by rw [backE_length, h2]) (by rw [backE_length, h3]) fun i v o Z a b c => ?_
  have hl : i < ρ1.length := by
    have := (List.getElem?_eq_some_iff.mp b).1
    rwa [backE_length] at this
  by_cases hi : i ∈ is
  · rw [backE_in hi hl] at b
    have e : (ρ0[i]?).join = o := Option.some.inj b
    -- the part is empty
    have hz : Z = [] := by
      have w1 : ∃ z, (wipe σ is)[i]? = some z := ⟨_, List.getElem?_eq_getElem (by rw [wipe_length, h3]; exact hl)⟩
      have w2 : ∃ z, (wipeE ρ1 is)[i]? = some z := ⟨_, List.getElem?_eq_getElem (by rw [wipeE_length]; exact hl)⟩
      obtain ⟨z1, w1⟩ := w1
      obtain ⟨z2, w2⟩ := w2
      have := h4 i z1 z2 Z w1 w2 c
      rw [wipeE_in hi w2] at this
      exact this
    subst hz
    unfold plainAt at pl
    have := List.all_eq_true.mp pl i hi
    rw [e] at this
    cases o with
    | none => exact rfl
    | some o =>
      cases o with
      | d x =>
        have hi0 : i < ρ0.length := by
          cases q : ρ0[i]? with
          | none => rw [q] at e; cases e
          | some z => exact (List.getElem?_eq_some_iff.mp q).1
        have q : ρ0[i]? = some (some (.d x)) := by
          cases q : ρ0[i]? with
          | none => rw [q] at e; cases e
          | some z => rw [q] at e; cases z with
            | none => cases e
            | some z => cases e; rfl
        have hU : ∃ Z0, Us0[i]? = some Z0 := ⟨_, List.getElem?_eq_getElem (by rw [g2]; exact hi0)⟩
        obtain ⟨Z0, hU⟩ := hU
        obtain ⟨y, e2, rr⟩ := g4 i v (some (.d x)) Z0 a q hU
        refine ⟨y, e2, ?_⟩
        cases rr with
        | d h => exact .d (h.mono s)
      | fl _ => exact absurd this Bool.false_ne_true
      | ml _ => exact absurd this Bool.false_ne_true
      | ob _ _ => exact absurd this Bool.false_ne_true
  · rw [backE_out hi] at b
    exact h4 i v o Z (by rw [wipe_out' hi]; exact a) (by rw [wipeE_out hi]; exact b) c
/-- a name stored: what it held is dropped -/
theorem RpS.store (r : RpS G F H σ ρ U) {i : Nat} (hi : i < ρ.length) : ∃ A W B, U = A ++ W ++ B ∧
    ∀ F' H', Sub F F' → Kp H H' (A ++ B) → ∀ v o W', RpO G F' H' v o W' → RpS G F' H' (σ.set i (some v)) (ρ.set i (some o)) (A ++ W' ++ B) := by
  cases q : ρ[i]? with
  | none => exact absurd (List.getElem?_eq_none_iff.mp q) (by omega)
  | some z =>
    cases z with
    | none =>
      obtain ⟨A, B, h1, h2⟩ := r.put q
      exact ⟨A, [], B, by simpa using h1, h2⟩
    | some o =>
      obtain ⟨v, W, A, B, h1, h2, h3, h4⟩ := r.at q
      exact ⟨A, W, B, h3, fun F' H' s k => (h4 F' H' s k).1⟩

/-! ### targets -/
mutual
def tvars : T → List Nat
  | .v i => [i]
  | .tup ts => tvarss ts
def tvarss : List T → List Nat
  | [] => []
  | t :: ts => tvars t ++ tvarss ts
end
theorem wipe_set {i : Nat} {v : Option V} {is : List Nat} (h : i ∈ is) : wipe (σ.set i v) is = wipe σ is := by
  apply List.ext_getElem?
  intro j
  by_cases hj : j ∈ is
  · by_cases hl : j < σ.length
    · obtain ⟨z1, w1⟩ : ∃ z, (wipe (σ.set i v) is)[j]? = some z := ⟨_, List.getElem?_eq_getElem (by rw [wipe_length, List.length_set]; exact hl)⟩
      obtain ⟨z2, w2⟩ : ∃ z, (wipe σ is)[j]? = some z := ⟨_, List.getElem?_eq_getElem (by rw [wipe_length]; exact hl)⟩
      rw [w1, w2, wipe_in hj w1, wipe_in hj w2]
    · rw [List.getElem?_eq_none (by rw [wipe_length, List.length_set]; omega), List.getElem?_eq_none (by rw [wipe_length]; omega)]
  · rw [wipe_out' hj, wipe_out' hj, List.getElem?_set_ne (fun e : i = j => hj (by rw [← e]; exact h))]
def Same (σ σ' : L2.St) (is : List Nat) : Prop := ∀ own : List Nat, (∀ i ∈ is, i ∈ own) → wipe σ' own = wipe σ own
def rdG (G : Wd) (t : T) : TG := fun v σ H Q => ∃ F ρ U d ρ', Good G F H σ ρ U ∧ Rp G F v d ∧ bindT t d ρ = some ρ' ∧
  ∀ σ' U', Good G F H σ' ρ' U' → U'.Sublist U → Same σ σ' (tvars t) → Q σ' H
def rdGs (G : Wd) (ts : List T) : TGs := fun vs σ H Q => ∃ F ρ U ds ρ', Good G F H σ ρ U ∧ RpA G F vs ds ∧ bindTs ts ds ρ = some ρ' ∧
  ∀ σ' U', Good G F H σ' ρ' U' → U'.Sublist U → Same σ σ' (tvarss ts) → Q σ' H
variable {X : Cx} {tg : PySem.Expr} {tgs : List PySem.Expr} {pos : Pos}
theorem Good.drop {A B : List Addr} (g : Good G F H σ ρ U) (hU : U = A ++ W ++ B) : (A ++ B).Nodup ∧ Off F (A ++ B) ∧ (A ++ B).Sublist U := by
  have hs : (A ++ B).Sublist U := by rw [hU, List.append_assoc]; exact List.Sublist.append (List.Sublist.refl A) (List.sublist_append_right W B)
  exact ⟨hs.nodup g.nd, fun b hb => g.off b (hs.subset hb), hs⟩
theorem sg_v {i : Nat} (h : PG X tg (gName i)) : PG X tg (rdG G (.v i)) := PG.imp h fun v σ H Q q => by
  obtain ⟨F, ρ, U, d, ρ', g, r, e, k⟩ := q
  unfold bindT at e
  split at e
  · rename_i hi
    cases e
    obtain ⟨A, W, B, hU, hs⟩ := g.env.store hi
    obtain ⟨n, o, sb⟩ := g.drop hU
    have := hs F H (Sub.refl F) (fun _ _ _ h => h) v (.d d) [] (.d r)
    rw [List.append_nil] at this
    exact k _ (A ++ B) ⟨g.sub, this, n, o⟩ sb fun own h => wipe_set (h i (by simp [tvars]))
  · cases e
theorem sgs_nil : PGs X [] (rdGs G []) := ⟨fun pins s σ H vs us Q I r q => pgs_nil.run pins s σ H vs us Q I r (by
  obtain ⟨F, ρ, U, ds, ρ', g, r, e, k⟩ := q
  cases ds with
  | nil =>
    cases r
    cases e
    exact ⟨rfl, k σ U g (List.Sublist.refl U) fun _ _ => rfl⟩
  | cons _ _ => unfold bindTs at e; cases e)⟩
theorem sgs_cons {t : T} {ts : List T} (h : PG X tg (rdG G t)) (hr : PGs X tgs (rdGs G ts)) (hs : (assignEach (tg :: tgs) X.env).map (·.2) = assign tg X.env :: (assignEach tgs X.env).map (·.2)) : PGs X (tg :: tgs) (rdGs G (t :: ts)) :=
  ⟨fun pins s σ H vs us Q I r q => (pgs_cons h hr hs).run pins s σ H vs us Q I r (by
    obtain ⟨F, ρ, U, ds, ρ', g, r, e, k⟩ := q
    cases r with
    | nil => unfold bindTs at e; cases e
    | cons h1 h2 =>
      unfold bindTs at e
      cases q : bindT t _ ρ with
      | none => rw [q] at e; cases e
      | some ρ1 =>
        rw [q] at e
        refine ⟨_, _, rfl, F, ρ, U, _, ρ1, g, h1, q, fun σ1 U1 g1 s1 m1 => ⟨F, ρ1, U1, _, ρ', g1, h2, e, fun σ2 U2 g2 s2 m2 => k σ2 U2 g2 (s2.trans s1) fun own hown => ?_⟩⟩
        rw [m2 own fun i hi => hown i (by simp [tvarss, hi]), m1 own fun i hi => hown i (by simp [tvarss, hi])])⟩
theorem bindTs_len : ∀ {ts : List T} {ds : List D} {ρ ρ' : Env}, bindTs ts ds ρ = some ρ' → ds.length = ts.length
  | [], [], _, _, _ => rfl
  | t :: ts, d :: ds, ρ, ρ', e => by
    unfold bindTs at e
    cases q : bindT t d ρ with
    | none => rw [q] at e; cases e
    | some ρ1 => rw [q] at e; exact congrArg (· + 1) (bindTs_len (show bindTs ts ds ρ1 = some ρ' from e))
  | [], _ :: _, _, _, e => by unfold bindTs at e; cases e
  | _ :: _, [], _, _, e => by unfold bindTs at e; cases e
theorem sg_tup (hK : X.K = G.K) (hc : X.calm = true) {ts : List T} {k : Nat} (h : PGs X tgs (rdGs G ts)) (hn : (assignEach tgs X.env).length = ts.length) (hst : (assignEach tgs X.env).findIdx? (·.1) = none) : PG X (.Tuple tgs k pos) (rdG G (.tup ts)) :=
  PG.imp (pg_tup hc h hn hst) fun v σ H Q q => by
    obtain ⟨F, ρ, U, d, ρ', g, r, e, k⟩ := q
    unfold bindT at e
    cases d <;> simp only [tupOf] at e <;> try (cases e)
    obtain ⟨a, vs, rfl, h1, h2⟩ := r.tupE
    exact ⟨a, vs, rfl, by rw [hK]; exact g.sub.sqT h1, by rw [h2.length]; exact bindTs_len e, F, ρ, U, _, ρ', g, h2, e, fun σ' U' g' s m => k σ' U' g' s fun own ho => m own (by simpa [tvars] using ho)⟩

/-! ### what is walked -/
structure Walk (G : Wd) (J : It) (F : Hp) (ds : List D) : Prop where
  go : ∀ i H, Sub F H → i < ds.length → J.go i H
  yl : ∀ i d F1 H x H', Sub F F1 → Sub F1 H → ds[i]? = some d → J.yld i H x H' → ∃ F', New F1 H F' H' [] ∧ Rp G F' x d
  st : ∀ H, Sub F H → J.stop ds.length H
  bd : ds.length ≤ sizeLine
def rdI (G : Wd) (c : Bool) (f : M (List D)) : TI := fun σ H R => ∃ F ρ U ds ρ', Good G F H σ ρ U ∧ f ρ = some (ds, ρ') ∧
  ∀ J F' H' U', Good G F' H' σ ρ' U' → Walk G J F' ds → Ext F H U F' H' U' → (c = true → Sub H H') → R J H'
theorem walk_lst' {a : Addr} {vs : List V} {ds : List D} (h : F a = some (.lst vs)) (r : RpA G F vs ds) (hz : vs.length ≤ sizeLine) : Walk G (Itl G.K a) F ds where
  go := fun i H s hi => ⟨vs, vs[i]'(by rw [r.length]; exact hi), .inl (.inl (s _ _ h)), by simp⟩
  yl := fun i d F1 H x H' s1 s2 e q => by
    obtain ⟨rfl, q⟩ := q
    obtain ⟨v, h1, h2⟩ := r.get e
    have := q vs (.inl (.inl (s2 _ _ (s1 _ _ h))))
    rw [h1] at this
    cases this
    exact ⟨F1, New.refl s2, h2.mono s1⟩
  st := fun H s => ⟨vs, .inl (.inl (s _ _ h)), by rw [r.length]; exact Nat.le_refl _⟩
  bd := by rw [← r.length]; exact hz
theorem walk_tup {a : Addr} {vs : List V} {ds : List D} (h : SqT G.K F a vs) (r : RpA G F vs ds) (hz : vs.length ≤ sizeLine) : Walk G (Itt G.K a) F ds where
  go := fun i H s hi => ⟨vs, vs[i]'(by rw [r.length]; exact hi), s.sqT h, by simp⟩
  yl := fun i d F1 H x H' s1 s2 e q => by
    obtain ⟨rfl, q⟩ := q
    obtain ⟨v, h1, h2⟩ := r.get e
    have := q vs (s2.sqT (s1.sqT h))
    rw [h1] at this
    cases this
    exact ⟨F1, New.refl s2, h2.mono s1⟩
  st := fun H s => ⟨vs, s.sqT h, by rw [r.length]; exact Nat.le_refl _⟩
  bd := by rw [← r.length]; exact hz
theorem rngL_len : ∀ (n : Nat) (a : Int), (rngL a n).length = n
  | 0, _ => rfl
  | n + 1, a => congrArg (· + 1) (rngL_len n (a + 1))
theorem rngL_at : ∀ (n : Nat) (a : Int) (i : Nat), i < n → (rngL a n)[i]? = some (.int (a + i))
  | n + 1, a, 0, _ => by simp [rngL]
  | n + 1, a, i + 1, h => by
    unfold rngL
    rw [List.getElem?_cons_succ, rngL_at n (a + 1) i (by omega)]
    congr 2
    omega
theorem walk_rng {lo : Int} {n : Nat} (hz : n ≤ sizeLine) : Walk G (Itr lo n) F (rngL lo n) where
  go := fun i H s hi => by rw [rngL_len] at hi; exact hi
  yl := fun i d F1 H x H' s1 s2 e q => by
    obtain ⟨rfl, rfl⟩ := q
    have hi : i < n := by
      have := (List.getElem?_eq_some_iff.mp e).1
      rwa [rngL_len] at this
    rw [rngL_at n lo i hi] at e
    cases e
    exact ⟨F1, New.refl s2, .int _⟩
  st := fun H s => by rw [rngL_len]; exact Nat.le_refl n
  bd := by rw [rngL_len]; exact hz
/-- what a value's sequence is, is bounded -/
theorem pe_bound {a : PySem.Expr} {t : TE} (h : PE X a t) : PE X a (fun σ H Q => t σ H fun v H1 => (∀ p xs, v = .ref p → SqL X.K H1 p xs ∨ SqT X.K H1 p xs → xs.length ≤ sizeLine) → Q v H1) := by
  refine ⟨fun pins s σ H Q I q => thn (h.run pins s σ H _ I q) fun u s' ⟨v, H', I', r, k⟩ => ⟨v, H', I', r, k fun p xs e hx => ?_⟩⟩
  rcases hx with hx | hx
  · exact (I'.list hx).choose_spec.2.2
  · exact (I'.tuple hx).choose_spec.2.2
variable {c ca cb cc : Bool} {a b : PySem.Expr} {fa fb : M O}
theorem signs_len (x : Str) : (signs x).length = x.cps.size := by unfold signs; rw [List.length_map, Array.length_toList]
theorem walk_str {x : Str} (hz : x.cps.size ≤ sizeLine) : Walk G (Its x) F (signs x) where
  go := fun i H s hi => by rw [signs_len] at hi; exact hi
  yl := fun i d F1 H v H' s1 s2 e q => by
    obtain ⟨rfl, c, hc, rfl⟩ := q
    unfold signs at e
    rw [List.getElem?_map] at e
    have hc' : x.cps.toList[i]? = some c := by simpa using hc
    rw [hc'] at e
    cases e
    exact ⟨F1, New.refl s2, .str _⟩
  st := fun H s => by rw [signs_len]; exact Nat.le_refl _
  bd := by rw [signs_len]; exact hz
theorem si_seq (hK : X.K = G.K) (ha : PE X a (rd G ca fa)) : PI X tg a (rdI G ca (bnd (fzM fa) fun x => lift (items x))) :=
  PI.imp (PI.or (pi_list (pe_bound (pe_fz ha))) (PI.or (pi_tup (pe_bound (pe_fz ha))) (pi_str (pe_fz ha)))) fun σ H R h => by
    obtain ⟨F, ρ, U, ds, ρ', g, e, k⟩ := h
    obtain ⟨x, ρ1, e1, e⟩ := bnd_some e
    obtain ⟨e2, e3⟩ := lift_some e
    cases e3
    cases x <;> simp only [items] at e2 <;> try (cases e2)
    · split at e2
      · rename_i hz
        have hz' := hz
        cases e2
        refine .inr (.inr ⟨F, ρ, U, _, _, g, e1, fun v F1 H1 U1 g1 r1 x1 c1 => ?_⟩)
        cases r1
        exact ⟨_, rfl, k _ F1 H1 U1 g1 (walk_str (Nat.le_trans hz' big_line)) x1 c1⟩
      · cases e2
    · refine .inr (.inl ⟨F, ρ, U, _, _, g, e1, fun v F1 H1 U1 g1 r1 x1 c1 => fun bd => ?_⟩)
      obtain ⟨p, vs, rfl, h, r⟩ := r1.tupE
      rw [hK] at bd ⊢
      exact ⟨p, rfl, ⟨vs, g1.sub.sqT h⟩, k _ F1 H1 U1 g1 (walk_tup h r (bd p vs rfl (.inr (g1.sub.sqT h)))) x1 c1⟩
    · refine .inl ⟨F, ρ, U, _, _, g, e1, fun v F1 H1 U1 g1 r1 x1 c1 => fun bd => ?_⟩
      obtain ⟨p, vs, rfl, h, r⟩ := r1.lstE
      rw [hK] at bd ⊢
      exact ⟨p, rfl, ⟨vs, .inl (.inl (g1.sub _ _ h))⟩, k _ F1 H1 U1 g1 (walk_lst' h r (bd p vs rfl (.inl (.inl (.inl (g1.sub _ _ h)))))) x1 c1⟩
/-! ### zip -/
theorem zipD_len : ∀ xs ys : List D, (zipD xs ys).length = min xs.length ys.length
  | [], _ => by simp [zipD]
  | _ :: _, [] => by simp [zipD]
  | x :: xs, y :: ys => by simp [zipD, zipD_len xs ys]
theorem zipD_at : ∀ (xs ys : List D) (i : Nat) (d : D), (zipD xs ys)[i]? = some d → ∃ x y, xs[i]? = some x ∧ ys[i]? = some y ∧ d = .tup [x, y]
  | [], _, i, d, e => by simp [zipD] at e
  | _ :: _, [], i, d, e => by simp [zipD] at e
  | x :: xs, y :: ys, 0, d, e => by simp [zipD] at e; exact ⟨x, y, rfl, rfl, e.symm⟩
  | x :: xs, y :: ys, i + 1, d, e => by
    obtain ⟨a, b, h1, h2, h3⟩ := zipD_at xs ys i d (by simpa [zipD] using e)
    exact ⟨a, b, by simpa using h1, by simpa using h2, h3⟩
/-- a value that is walked by a zip -/
theorem src_of {v : V} {x : D} {ds : List D} (r : Rp G F v x) (e : items x = some ds) : ∃ k vs, v = Src.V k ∧ RpA G F vs ds ∧ ∀ H, Sub F H → Src.At G.K H k vs := by
  cases x <;> simp only [items] at e <;> try (cases e)
  · split at e
    · rename_i z hz
      cases e
      cases r
      refine ⟨.S z, z.cps.toList.map fun c => V.str ⟨#[c]⟩, rfl, ?_, fun H s => rfl⟩
      unfold signs
      generalize z.cps.toList = l
      induction l with
      | nil => exact .nil
      | cons c l ih => exact .cons (.str _) ih
    · cases e
  · obtain ⟨p, vs, rfl, h, r⟩ := r.tupE
    exact ⟨.T p, vs, rfl, r, fun H s => s.sqT h⟩
  · obtain ⟨p, vs, rfl, h, r⟩ := r.lstE
    exact ⟨.L p, vs, rfl, r, fun H s => .inl (.inl (s _ _ h))⟩
theorem walk_zip {k1 k2 : Src} {vs ws : List V} {xs ys : List D} (h1 : ∀ H, Sub F H → Src.At G.K H k1 vs) (h2 : ∀ H, Sub F H → Src.At G.K H k2 ws) (r1 : RpA G F vs xs) (r2 : RpA G F ws ys) (hz : xs.length ≤ sizeLine) : Walk G (ItzD G.K k1 k2) F (zipD xs ys) where
  go := fun i H s hi => by
    rw [zipD_len] at hi
    have l1 : i < vs.length := by rw [r1.length]; omega
    have l2 : i < ws.length := by rw [r2.length]; omega
    exact ⟨vs, ws, vs[i], ws[i], h1 H s, h2 H s, List.getElem?_eq_getElem l1, List.getElem?_eq_getElem l2⟩
  yl := fun i d F1 H v H' s1 s2 e q => by
    obtain ⟨T, x, y, rfl, hT, rfl, q1, q2⟩ := q
    obtain ⟨dx, dy, e1, e2, rfl⟩ := zipD_at xs ys i d e
    obtain ⟨x', hx, rx⟩ := r1.get e1
    obtain ⟨y', hy, ry⟩ := r2.get e2
    have := q1 vs (h1 H (s1.trans s2))
    rw [hx] at this
    cases this
    have := q2 ws (h2 H (s1.trans s2))
    rw [hy] at this
    cases this
    obtain ⟨n, r⟩ := new_tup (G := G) s2 hT (RpA.cons (rx.mono s1) (.cons (ry.mono s1) .nil))
    cases r with
    | d r => exact ⟨_, n, r⟩
  st := fun H s => ⟨vs, ws, h1 H s, h2 H s, by rw [zipD_len, r1.length]; omega, by rw [zipD_len, r2.length]; omega, by rw [zipD_len, r1.length, r2.length]; omega⟩
  bd := by rw [zipD_len]; omega
def zipM (fa fb : M O) : M (List D) := bnd (fzM fa) fun x => bnd (fzM fb) fun y => match items x, items y with
    | some xs, some ys => rtn (zipD xs ys)
    | _, _ => fun _ => none
/-- a list's, a tuple's length is bounded -/
theorem pe_bound1 {a : PySem.Expr} {t : TE} (h : PE X a t) : PE X a (fun σ H Q => t σ H fun v H1 => (∀ p xs, v = .ref p → SqL X.K H1 p xs ∨ SqT X.K H1 p xs → xs.length ≤ sizeLine) → Q v H1) := pe_bound h
theorem si_zip (hK : X.K = G.K) {p tpos : Pos} {elts : List PySem.Expr} {kk : Nat} (hg : Gl X "zip") (hm : X.mg "zip" = none) (ha : PE X a (rd G ca fa)) (hb : PE X b (rd G cb fb)) (hs : starEach [a, b] X.env = (false, eval a X.env) :: starEach [b] X.env) (hs2 : starEach [b] X.env = (false, eval b X.env) :: starEach [] X.env) :
    PI X (.Tuple elts kk tpos) (.Call (.Name "zip" p) [a, b] [] pos) (rdI G (ca && cb) (zipM fa fb)) :=
  PI.imp (pi_zipD hg hm (pa_cons (pe_bound (pe_fz ha)) (pa_cons (pe_fz hb) pa_nil hs2) hs) hs (by rw [hs2]; rfl)) fun σ H R h => by
    obtain ⟨F, ρ, U, ds, ρ', g, e, k⟩ := h
    obtain ⟨x, ρ1, e1, e⟩ := bnd_some e
    obtain ⟨y, ρ2, e2, e⟩ := bnd_some e
    refine ⟨F, ρ, U, x, ρ1, g, e1, fun v F1 H1 U1 g1 r1 x1 c1 => fun bd => ⟨F1, ρ1, U1, y, ρ2, g1, e2, fun v2 F2 H2 U2 g2 r2 x2 c2 => ?_⟩⟩
    cases q1 : items x with
    | none => simp only [q1] at e; cases e
    | some xs =>
      cases q2 : items y with
      | none => simp only [q1, q2] at e; cases e
      | some ys =>
        simp only [q1, q2] at e
        cases e
        obtain ⟨k1, vs, rfl, ra, h1⟩ := src_of r1 q1
        obtain ⟨k2, ws, rfl, rb, h2⟩ := src_of r2 q2
        have hz : xs.length ≤ sizeLine := by
          rw [← ra.length]
          cases k1 with
          | L p => exact bd p vs rfl (.inl (by rw [hK]; exact h1 H1 g1.sub))
          | T p => exact bd p vs rfl (.inr (by rw [hK]; exact h1 H1 g1.sub))
          | S z =>
            cases x <;> simp only [items] at q1 <;> try (cases q1)
            · split at q1
              · rename_i hz'
                have hz'' := hz'
                cases q1
                rw [ra.length, signs_len]
                exact Nat.le_trans hz'' big_line
              · cases q1
            · obtain ⟨_, _, e, _⟩ := r1.tupE; cases e
            · obtain ⟨_, _, e, _⟩ := r1.lstE; cases e
        refine ⟨k1, k2, vs, ws, rfl, by rw [hK]; exact h1 H2 (x2.ff.trans g2.sub), by rw [hK]; exact h2 H2 g2.sub, ?_⟩
        rw [hK]
        refine k _ F2 H2 U2 g2 (walk_zip (fun H s => h1 H (x2.ff.trans s)) h2 (ra.mono x2.ff) rb hz) (x1.trans g.sub x2) fun hc => ?_
        rw [Bool.and_eq_true] at hc
        exact (c1 hc.1).trans (c2 hc.2)
end
end Pw

/-! PI1: ranges, comprehensions, isinstance, pop. -/
namespace Pw
open PySem PySem.Spec PyProof.Rows L2
section
variable {G : Wd} {X : Cx} {c ca cb cc ci cw ce : Bool} {a b e3 tg elt : PySem.Expr} {es ifs : List PySem.Expr} {f fa fb fc me : M O} {fs : M (List Arg)} {σ : L2.St} {F H F' H' : Hp} {Q : VK} {pos : Pos} {ga gb mw : M Bool} {mi : M (List D)} {ρ : Env} {U W : List Addr}
theorem rngD_some {lo hi : Int} {ds : List D} (e : rngD lo hi = some ds) : ds = rngL lo (hi - lo).toNat ∧ (hi - lo).toNat ≤ sizeLine ∧ -(2 ^ 62) ≤ lo ∧ lo < 2 ^ 62 ∧ -(2 ^ 62) ≤ hi ∧ hi < 2 ^ 62 := by
  unfold rngD at e
  split at e
  · rename_i h
    cases e
    exact ⟨rfl, Nat.le_trans (by omega : (hi - lo).toNat ≤ 2000000) (by decide), by omega, by omega, by omega, by omega⟩
  · cases e
def rng1M (fa : M O) : M (List D) := bnd (fzM fa) fun x => match x with
    | .int n => lift (rngD 0 n)
    | _ => fun _ => none
def rng2M (fa fb : M O) : M (List D) := bnd (fzM fa) fun x => bnd (fzM fb) fun y => match x, y with
    | .int m, .int n => lift (rngD m n)
    | _, _ => fun _ => none
theorem si_rng1 {p : Pos} (hg : Gl X "range") (hm : X.mg "range" = none) (ha : PE X a (rd G ca fa)) (hs : starEach [a] X.env = [(false, eval a X.env)]) : PI X tg (.Call (.Name "range" p) [a] [] pos) (rdI G ca (rng1M fa)) :=
  PI.imp (pi_range1 hg hm (pa_cons (pe_fz ha) pa_nil hs) hs) fun σ H R h => by
    obtain ⟨F, ρ, U, ds, ρ', g, e, k⟩ := h
    obtain ⟨x, ρ1, e1, e⟩ := bnd_some e
    refine ⟨F, ρ, U, x, ρ1, g, e1, fun v F1 H1 U1 g1 r1 x1 c1 => ?_⟩
    cases x <;> simp only at e <;> try (cases e)
    rename_i n
    obtain ⟨e2, e3⟩ := lift_some e
    cases e3
    obtain ⟨h1, h2, h3, h4, h5, h6⟩ := rngD_some e2
    cases r1
    subst h1
    rw [Int.sub_zero] at h2
    refine ⟨n, rfl, h5, h6, ?_⟩
    have := k (Itr 0 n.toNat) F1 H1 U1 g1 (by rw [Int.sub_zero]; exact walk_rng h2) x1 c1
    exact this
theorem si_rng2 {p : Pos} (hg : Gl X "range") (hm : X.mg "range" = none) (ha : PE X a (rd G ca fa)) (hb : PE X b (rd G cb fb)) (hs : starEach [a, b] X.env = [(false, eval a X.env), (false, eval b X.env)]) (hs2 : starEach [b] X.env = [(false, eval b X.env)]) :
    PI X tg (.Call (.Name "range" p) [a, b] [] pos) (rdI G (ca && cb) (rng2M fa fb)) :=
  PI.imp (pi_range2 hg hm (pa_cons (pe_fz ha) (pa_cons (pe_fz hb) pa_nil hs2) (by rw [hs, hs2])) hs hs2) fun σ H R h => by
    obtain ⟨F, ρ, U, ds, ρ', g, e, k⟩ := h
    obtain ⟨x, ρ1, e1, e⟩ := bnd_some e
    obtain ⟨y, ρ2, e2, e⟩ := bnd_some e
    refine ⟨F, ρ, U, x, ρ1, g, e1, fun v F1 H1 U1 g1 r1 x1 c1 => ⟨F1, ρ1, U1, y, ρ2, g1, e2, fun v2 F2 H2 U2 g2 r2 x2 c2 => ?_⟩⟩
    cases x <;> cases y <;> simp only at e <;> try (cases e)
    obtain ⟨e7, e8⟩ := lift_some e
    cases e8
    obtain ⟨h1, h2, h3, h4, h5, h6⟩ := rngD_some e7
    cases r1
    cases r2
    subst h1
    refine ⟨_, _, rfl, ⟨h3, h4, h5, h6⟩, k (Itr _ _) F2 H2 U2 g2 (walk_rng h2) (x1.trans g.sub x2) fun hc => ?_⟩
    rw [Bool.and_eq_true] at hc
    exact (c1 hc.1).trans (c2 hc.2)

/-! ### comprehensions -/
def lcOne (t : T) (mw : M Bool) (me : M O) (own : List Nat) : D → Env → Option (Option D × Env) := fun x ρ1 => match bindT t x (wipeE ρ1 own) with
        | some ρ2 => match mw ρ2 with
          | some (true, ρ3) => match fzM me ρ3 with
            | some (y, ρ4) => some (some y, ρ4)
            | none => none
          | some (false, ρ3) => some (none, ρ3)
          | none => none
        | none => none
def lcM (mi : M (List D)) (t : T) (mw : M Bool) (me : M O) (own : List Nat) : M O := bnd mi fun xs => fun ρ =>
    if plainAt ρ own then
      match lcRun (lcOne t mw me own) xs [] (wipeE ρ own) with
      | some (acc, ρ') => some (.fl acc, backE ρ ρ' own)
      | none => none
    else none
theorem wipe_wipe (is : List Nat) : wipe (wipe σ is) is = wipe σ is := by
  apply List.ext_getElem?
  intro j
  by_cases hj : j ∈ is
  · by_cases hl : j < σ.length
    · obtain ⟨z1, w1⟩ : ∃ z, (wipe (wipe σ is) is)[j]? = some z := ⟨_, List.getElem?_eq_getElem (by rw [wipe_length, wipe_length]; exact hl)⟩
      obtain ⟨z2, w2⟩ : ∃ z, (wipe σ is)[j]? = some z := ⟨_, List.getElem?_eq_getElem (by rw [wipe_length]; exact hl)⟩
      rw [w1, w2, wipe_in hj w1, wipe_in hj w2]
    · rw [List.getElem?_eq_none (by rw [wipe_length, wipe_length]; omega), List.getElem?_eq_none (by rw [wipe_length]; omega)]
  · rw [wipe_out' hj]
theorem wipeE_wipeE (is : List Nat) : wipeE (wipeE ρ is) is = wipeE ρ is := by
  apply List.ext_getElem?
  intro j
  by_cases hj : j ∈ is
  · by_cases hl : j < ρ.length
    · obtain ⟨z1, w1⟩ : ∃ z, (wipeE (wipeE ρ is) is)[j]? = some z := ⟨_, List.getElem?_eq_getElem (by rw [wipeE_length, wipeE_length]; exact hl)⟩
      obtain ⟨z2, w2⟩ : ∃ z, (wipeE ρ is)[j]? = some z := ⟨_, List.getElem?_eq_getElem (by rw [wipeE_length]; exact hl)⟩
      rw [w1, w2, wipeE_in hj w1, wipeE_in hj w2]
    · rw [List.getElem?_eq_none (by rw [wipeE_length, wipeE_length]; omega), List.getElem?_eq_none (by rw [wipeE_length]; omega)]
  · rw [wipeE_out hj]
theorem lcRun_cons {one : D → Env → Option (Option D × Env)} {x : D} {xs acc : List D} {r : List D × Env} (h : lcRun one (x :: xs) acc ρ = some r) :
    (∃ y ρ', one x ρ = some (some y, ρ') ∧ lcRun one xs (acc ++ [y]) ρ' = some r) ∨ ∃ ρ', one x ρ = some (none, ρ') ∧ lcRun one xs acc ρ' = some r := by
  unfold lcRun at h
  cases q : one x ρ with
  | none => rw [q] at h; cases h
  | some p =>
    obtain ⟨y, ρ'⟩ := p
    rw [q] at h
    cases y with
    | none => exact .inr ⟨ρ', rfl, h⟩
    | some y => exact .inl ⟨y, ρ', rfl, h⟩
/-- an addition at the end of a list that nobody's name owns -/
theorem grow (g : Good G F H σ ρ U) {D0 : Addr} {vs : List V} (hD : H D0 = some (.lst vs)) (hF : F D0 = none) (hU : D0 ∉ U) (o : HO) : Good G F (upd H D0 o) σ ρ U :=
  ⟨fun b u e => by
    have : b ≠ D0 := fun z => by rw [z, hF] at e; cases e
    rw [upd_ne this]; exact g.sub b u e, g.env.mono (Sub.refl F) fun b hb u e => by
    have : b ≠ D0 := fun z => hU (z ▸ hb)
    rw [upd_ne this]; exact e, g.nd, g.off⟩
theorem lc_read {own : List Nat} {t : T} (hG : (tvars t).all (own.contains ·) = true) (h : rd G (ci && (cw && ce)) (lcM mi t mw me own) σ H Q) :
    tLc (rdI G ci mi) (rdG G t) (rdT G cw mw) (rdD G ce (fzM me)) own σ H Q := by
  obtain ⟨F, ρ, U, o, ρo, g, e, k⟩ := h
  obtain ⟨ds, ρI, e1, e⟩ := bnd_some e
  refine ⟨F, ρ, U, ds, ρI, g, e1, fun J FI HI UI gI wk xI cI => fun D0 hD0 => ?_⟩
  replace e : (if plainAt ρI own then
      match lcRun (lcOne t mw me own) ds [] (wipeE ρI own) with
      | some (acc, ρ') => some (O.fl acc, backE ρI ρ' own)
      | none => none
    else none) = some (o, ρo) := e
  split at e
  · rename_i hpl
    cases hrun : lcRun (lcOne t mw me own) ds [] (wipeE ρI own) with
    | none => rw [hrun] at e; cases e
    | some pr =>
      obtain ⟨res, ρE⟩ := pr
      rw [hrun] at e
      cases e
      have hown : ∀ i ∈ tvars t, i ∈ own := fun i hi => by
        have := List.all_eq_true.mp hG i hi
        simpa using this
      refine ⟨fun i m H1 => m = ds.length - i ∧ i ≤ ds.length ∧ ∃ F1 ρ1 U1 vs acc, Good G F1 H1 (wipe σ own) (wipeE ρ1 own) U1 ∧ H1 D0 = some (.lst vs) ∧ RpA G F1 vs acc ∧ F1 D0 = none ∧ D0 ∉ U1 ∧ acc.length ≤ i ∧
        lcRun (lcOne t mw me own) (ds.drop i) acc ρ1 = some (res, ρE) ∧ Sub FI F1 ∧ Ext F H U F1 H1 (U1 ++ [D0]) ∧ ((ci && (cw && ce)) = true → Sub H H1), ⟨ds.length, by simp, Nat.zero_le _, ?_⟩, ?_⟩
      · -- the start
        obtain ⟨U1, hsub, rw1⟩ := gI.env.wiped own
        have hn : D0 ∉ UI := fun z => gI.there D0 z hD0
        refine ⟨FI, wipeE ρI own, U1, [], [], ?_, upd_same, .nil, gI.sub.no hD0, fun z => hn (hsub.subset z), Nat.le_refl _, by simpa using hrun, Sub.refl FI, ?_, fun hc => ?_⟩
        · rw [wipeE_wipeE]
          refine ⟨gI.sub.trans (Sub.new hD0), rw1.mono (Sub.refl FI) fun b hb u e => ?_, hsub.nodup gI.nd, fun b hb => gI.off b (hsub.subset hb)⟩
          rw [upd_ne (ne_of_none e hD0)]; exact e
        · refine xI.trans g.sub ?_
          refine ⟨Sub.refl FI, fun b u e _ => by rw [upd_ne (ne_of_none e hD0)]; exact e, fun _ h => .inl h, fun b hb => ?_, fun b hb => ?_⟩
          · rcases List.mem_append.mp hb with z | z
            · exact .inl (hsub.subset z)
            · have : b = D0 := by simpa using z
              subst this; exact .inr hD0
          · intro z
            by_cases hbd : b = D0
            · subst hbd; exact hb hD0
            · rw [upd_ne hbd] at z; exact hb z
        · rw [Bool.and_eq_true] at hc
          exact (cI hc.1).trans (Sub.new hD0)
      · rintro i m H1 ⟨rfl, hi, F1, ρ1, U1, vs, acc, g1, hD, ra, hF, hU, hl, hr, hs, xe, hcalm⟩
        by_cases hlt : i < ds.length
        · -- a turn
          refine .inr ⟨wk.go i H1 (hs.trans g1.sub) hlt, fun H' => ds.length - (i + 1) = ds.length - (i + 1) ∧ i + 1 ≤ ds.length ∧ ∃ F1 ρ1 U1 vs acc, Good G F1 H' (wipe σ own) (wipeE ρ1 own) U1 ∧ H' D0 = some (.lst vs) ∧ RpA G F1 vs acc ∧ F1 D0 = none ∧ D0 ∉ U1 ∧ acc.length ≤ i + 1 ∧
            lcRun (lcOne t mw me own) (ds.drop (i + 1)) acc ρ1 = some (res, ρE) ∧ Sub FI F1 ∧ Ext F H U F1 H' (U1 ++ [D0]) ∧ ((ci && (cw && ce)) = true → Sub H H'), fun H' h => ⟨ds.length - (i + 1), by omega, h⟩, fun x H2 hy => ?_⟩
          have hd : ds[i]? = some ds[i] := List.getElem?_eq_getElem hlt
          obtain ⟨F2, n2, rx⟩ := wk.yl i ds[i] F1 H1 x H2 hs g1.sub hd hy
          obtain ⟨g2, _⟩ := g1.new n2
          have hdrop : ds.drop i = ds[i] :: ds.drop (i + 1) := List.drop_eq_getElem_cons hlt
          rw [hdrop] at hr
          have hD2 : H2 D0 = some (.lst vs) := n2.hh _ _ hD
          have hF2 : F2 D0 = none := by
            cases q : F2 D0 with
            | none => rfl
            | some u =>
              rcases n2.fn D0 (by rw [q]; exact fun z => by cases z) with z | z
              · exact absurd hF z
              · rw [hD] at z; cases z
          have x2 : Ext F1 H1 U1 F2 H2 U1 := by simpa using n2.ext U1
          -- what one turn is
          have one : ∃ ρ2, bindT t ds[i] (wipeE ρ1 own) = some ρ2 := by
            rcases lcRun_cons hr with ⟨y, ρ', q, _⟩ | ⟨ρ', q, _⟩ <;>
            · unfold lcOne at q
              cases z : bindT t ds[i] (wipeE ρ1 own) with
              | none => rw [z] at q; cases q
              | some ρ2 => exact ⟨ρ2, rfl⟩
          obtain ⟨ρ2, hb⟩ := one
          refine ⟨F2, wipeE ρ1 own, U1, ds[i], ρ2, g2, rx, hb, fun σ2 U2 g3 sb same => ?_⟩
          have hw : wipe σ2 own = wipe σ own := (same own hown).trans (wipe_wipe own)
          refine ⟨hw, ?_⟩
          have hU2 : D0 ∉ U2 := fun z => hU (sb.subset z)
          have x3 : Ext F2 H2 U1 F2 H2 U2 := (Ext.refl F2 H2 U1).less fun b hb => sb.subset hb
          have one2 : ∃ bb ρ3, mw ρ2 = some (bb, ρ3) := by
            rcases lcRun_cons hr with ⟨y, ρ', q, _⟩ | ⟨ρ', q, _⟩ <;>
            · unfold lcOne at q
              rw [hb] at q
              cases z : mw ρ2 with
              | none => simp only [z] at q; cases q
              | some pr => exact ⟨pr.1, pr.2, rfl⟩
          obtain ⟨bb, ρ3, hwm⟩ := one2
          refine ⟨F2, ρ2, U2, bb, ρ3, g3, hwm, fun F4 H4 U4 g4 x4 c4 => ?_⟩
          have stay : ∀ {F4 H4 : Hp} {U4 : List Addr}, Ext F2 H2 U2 F4 H4 U4 → H4 D0 = some (.lst vs) ∧ F4 D0 = none ∧ D0 ∉ U4 := fun {F4 H4 U4} x => by
            obtain ⟨a1, a2, a3⟩ := x.apart (W := [D0]) (fun b hb => by
              have : b = D0 := by simpa using hb
              subst this; rw [hD2]; exact fun z => by cases z) (fun b hb => by
              have : b = D0 := by simpa using hb
              subst this; exact hF2) (fun b hb => by
              have : b = D0 := by simpa using hb
              subst this; exact hU2)
            exact ⟨a1 D0 (by simp) _ hD2, a2 D0 (by simp), a3 D0 (by simp)⟩
          have toNext : ∀ {F4 H4 : Hp} {U4 : List Addr} {ρ4 : Env}, Good G F4 H4 σ2 ρ4 U4 → Ext F2 H2 U2 F4 H4 U4 → ∃ U5, U5.Sublist U4 ∧ Good G F4 H4 (wipe σ own) (wipeE ρ4 own) U5 := fun {F4 H4 U4 ρ4} g x => by
            obtain ⟨U5, h1, h2⟩ := g.env.wiped own
            rw [hw] at h2
            exact ⟨U5, h1, g.sub, h2, h1.nodup g.nd, fun b hb => g.off b (h1.subset hb)⟩
          cases bb with
          | false =>
            refine iteF ?_
            have hr2 : lcRun (lcOne t mw me own) (ds.drop (i + 1)) acc ρ3 = some (res, ρE) := by
              rcases lcRun_cons hr with ⟨y, ρ', q, q2⟩ | ⟨ρ', q, q2⟩
              · unfold lcOne at q; rw [hb] at q; simp only [hwm] at q; cases q
              · unfold lcOne at q; rw [hb] at q; simp only [hwm] at q; cases q; exact q2
            obtain ⟨s1, s2, s3⟩ := stay x4
            obtain ⟨U5, h1, g5⟩ := toNext g4 x4
            refine ⟨rfl, hlt, F4, ρ3, U5, vs, acc, g5, s1, ra.mono (n2.ff.trans x4.ff), s2, fun z => s3 (h1.subset z), Nat.le_succ_of_le hl, hr2, hs.trans (n2.ff.trans x4.ff), ?_, fun hc => ?_⟩
            · refine xe.trans g.sub (((x2.trans g1.sub x3).trans g1.sub x4).more [D0]) |>.less fun b hb => ?_
              rcases List.mem_append.mp hb with z | z
              · exact List.mem_append_left _ (h1.subset z)
              · exact List.mem_append_right _ z
            · have hc' := hc
              rw [Bool.and_eq_true, Bool.and_eq_true] at hc
              exact ((hcalm hc').trans n2.hh).trans (c4 hc.2.1)
          | true =>
            refine iteT ?_
            have hr2 : ∃ y ρ4, fzM me ρ3 = some (y, ρ4) ∧ lcRun (lcOne t mw me own) (ds.drop (i + 1)) (acc ++ [y]) ρ4 = some (res, ρE) := by
              rcases lcRun_cons hr with ⟨y, ρ', q, q2⟩ | ⟨ρ', q, q2⟩
              · unfold lcOne at q
                rw [hb] at q
                simp only [hwm] at q
                cases z : fzM me ρ3 with
                | none => rw [z] at q; cases q
                | some pr => rw [z] at q; cases q; exact ⟨_, _, rfl, q2⟩
              · unfold lcOne at q
                rw [hb] at q
                simp only [hwm] at q
                cases z : fzM me ρ3 with
                | none => rw [z] at q; cases q
                | some pr => rw [z] at q; cases q
            obtain ⟨y, ρ4, hy1, hy2⟩ := hr2
            refine ⟨F4, ρ3, U4, y, ρ4, g4, hy1, fun yv F5 H5 U5 g5 ry x5 c5 => ?_⟩
            have x45 := x4.trans g3.sub x5
            obtain ⟨s1, s2, s3⟩ := stay x45
            obtain ⟨U6, h1, g6⟩ := toNext g5 x45
            have hlen : vs.length = acc.length := ra.length
            refine ⟨vs, s1, by rw [hlen]; exact Nat.lt_of_le_of_lt hl (Nat.lt_of_lt_of_le hlt wk.bd), rfl, hlt, F5, ρ4, U6, vs ++ [yv], acc ++ [y], grow g6 s1 s2 (fun z => s3 (h1.subset z)) _, upd_same,
              (ra.mono (n2.ff.trans x45.ff)).app (.cons ry .nil), s2, fun z => s3 (h1.subset z), by rw [List.length_append]; simpa using hl, hy2, hs.trans (n2.ff.trans x45.ff), ?_, fun hc => ?_⟩
            · have xx := xe.trans g.sub (((x2.trans g1.sub x3).trans g1.sub x45).more [D0])
              refine (xx.trans g.sub (F3 := F5) (H3 := upd H5 D0 (.lst (vs ++ [yv]))) (U3 := U5 ++ [D0]) ⟨Sub.refl F5, fun b u e n => ?_, fun _ h => .inl h, fun b hb => .inl hb, fun b hb => ?_⟩).less fun b hb => ?_
              · have : b ≠ D0 := fun z => n (by rw [z]; simp)
                rw [upd_ne this]; exact e
              · intro z
                by_cases hbd : b = D0
                · subst hbd; rw [upd_same] at z; cases z
                · rw [upd_ne hbd] at z; exact hb z
              · rcases List.mem_append.mp hb with z | z
                · exact List.mem_append_left _ (h1.subset z)
                · exact List.mem_append_right _ z
            · have hc' := hc
              rw [Bool.and_eq_true, Bool.and_eq_true] at hc
              have h6 := (((hcalm hc').trans n2.hh).trans (c4 hc.2.1)).trans (c5 hc.2.2)
              intro b u e
              have : b ≠ D0 := fun z => by
                subst z
                -- it was not there ahead
                have := cI hc.1 b u e
                rw [hD0] at this; cases this
              rw [upd_ne this]
              exact h6 b u e
        · -- the end
          have hei : i = ds.length := by omega
          subst hei
          rw [List.drop_length] at hr
          cases hr
          refine .inl ⟨wk.st H1 (hs.trans g1.sub), ?_⟩
          have back := gI.env.back hpl hs g1.env
          refine k (.ref D0) F1 H1 U1 [D0] ⟨g1.sub, back, g1.nd, g1.off⟩ (.fl hD ra) ?_ (fun b hb => by
            have : b = D0 := by simpa using hb
            subst this; exact hF) xe hcalm
          refine List.nodup_append.mpr ⟨g1.nd, by simp, fun a ha b hb e => ?_⟩
          have : b = D0 := by simpa using hb
          subst this; subst e; exact hU ha
  · cases e
end
end Pw

/-! PJ1: a def's promise where no repr runs around it, its call. -/
namespace Pw
open PySem PySem.Spec PyProof.Rows L2

/-- a def keeps a promise, called where nothing is being shown -/
structure FnG (P : Program) (w : World) (K : PySem.W.Frag) (mg : Str → Option Value) (base : Heap) (k : Nat) (f : Addr) (fd : FuncData) (ps : List Str) (sp : Sp) : Prop where
  len : ∀ vs H Q E, sp vs H Q E → vs.length = ps.length
  run : ∀ (A : Around) (outer : List PySem.Env) (s : Shared) (H : Hp) (args : Args) (us : List Value) (vs : List V) (Q : VK), A.guards = some [] → Room k A → Env0 P w K mg base A outer s H →
    BindsTo s fd args (ps.zip us) → Vals vs us → sp vs H Q E0 → codeAny (model P w) A (.call (.ref f) args) (CR CX0 outer P w H s Q E0) s
section
variable {P : Program} {w : World} {K : PySem.W.Frag} {mg : Str → Option Value} {base : Heap} {k : Nat} {f : Addr} {fd : FuncData} {ps : List Str} {sp : Sp}
/-- from the body's reading, at each entry -/
theorem fnG_of {x qual : Str} {params : Arguments} {body : List Stmt} {sc : Scope} {dV kV doc pm cdv ct oc : Value} {an od : Option Addr} {osl : Array (Option Value)} {N : List Str}
    (lk : K.lookup f = some ⟨oc, od, .func (PySem.W.fnOf x qual params body sc dV kV doc pm an cdv ct), osl⟩) (hcd : PySem.W.codeIn K cdv qual = true) (S : FnScope N ps sc) (len : ∀ vs H Q E, sp vs H Q E → vs.length = ps.length)
    (hb : ∀ (A : Around) (outer : List PySem.Env) (s : Shared) (H : Hp) (vs : List V) (Q : VK), A.guards = some [] → Room k (A.deeper (envOfC qual sc s.heap.objs.size f cdv)) → sp vs H Q E0 →
      ∃ t, PSs (cxOf CX0 P w K mg base N qual sc f cdv A outer s H E0) body t ∧ t { nx := fun _ H' => Q .non H', rt := Q } (L2.start N vs) H) :
    FnG P w K mg base (k + 1) f (PySem.W.fnOf x qual params body sc dV kV doc pm an cdv ct) ps sp := by
  constructor
  · exact len
  · intro A outer s H args us vs Q hgd hr e0 hbind r hsp
    have hl := len _ _ _ _ hsp
    have stood : ∀ b o, base.get? b = some o → s.heap.get? b = some o := fun b o e => (e0.bs b o e).1
    have KX := e0.mod.kin.keeps stood
    have lim := e0.mod.nolimit.keeps stood
    have kinds : ∀ y ∈ ps.zip us, sc.names.lookup y.1 = some .local ∨ (sc.names.lookup y.1 = some .cell ∧ ((cellsFrom (s.heap.objs.size + 1) sc.names []).lookup y.1).isSome = true) := by
      rintro ⟨n, v⟩ hy
      refine (S.par n (List.of_mem_zip hy).1).imp_right fun q => ⟨q, ?_⟩
      exact PySem.W.cellsFrom_some _ _ _ (.inl q)
    apply codeAny_call_function hr.depth (KX _ _ lk) rfl S.co S.gen rfl (PySem.W.codeRec_of KX hcd)
    apply hbind
    apply wpAny_newFunctionEnv_cells S.kind kinds
    rintro env rfl s1 x
    refine ⟨lim.keeps x.toInCall.keep, ?_⟩
    apply codeAny_func
    obtain ⟨t, ht, hq⟩ := hb A outer s H vs Q hgd (hr.deeper _) hsp
    have I := inv_start (CX := CX0) (E := E0) S hr.hd e0 hl r x
    refine wpAny_mono (ht.run [] s1 _ H _ I hq) (fun fl s' hs => ?_) (fun _ _ hs => hs)
    have fin : ∀ {σ' : L2.St} {H' : Hp} {v : V} {u : Value}, Inv (cxOf CX0 P w K mg base N qual sc f cdv A outer s H E0) [] σ' H' s' → RelV v u → Q v H' → CE outer P w H s Q u s' := by
      intro σ' H' v u J rv q
      exact ⟨v, H', J.os, J.bare, J.base, J.hok, rv, q⟩
    rcases fl with _ | u | _ | _
    · obtain ⟨_, _, J, q⟩ := hs
      exact fin (v := V.non) (u := Value.none) J rfl q
    all_goals first
      | (obtain ⟨_, _, _, J, rv, q⟩ := hs; exact fin J rv q)
      | (obtain ⟨_, _, _, q⟩ := hs; exact False.elim q)
theorem FnG.mono {j : Nat} (F : FnG P w K mg base j f fd ps sp) (h : j ≤ k) : FnG P w K mg base k f fd ps sp := ⟨F.len, fun A outer s H args us vs Q hg hr => F.run A outer s H args us vs Q hg (hr.mono h)⟩
end

/-! ### where code runs -/
structure Stat where
  G : Wd
  P : Program
  w : World
  K : PySem.W.Frag
  mg : Str → Option Value
  base : Heap
  A : Around
/-- a context of such code -/
structure In (S : Stat) (X : Cx) : Prop where
  prog : X.prog = S.P
  w : X.w = S.w
  K : X.K = S.K
  GK : S.K = S.G.K
  mg : X.mg = S.mg
  base : X.base = S.base
  A : X.A = S.A
  calm : X.calm = true
  nd : X.N.Nodup
  gd : S.A.guards = some []

/-- arguments by keywords -/
theorem PK.imp {X : Cx} {kws : List Keyword} {t t' : TA} (h : PK X kws t) (k : ∀ σ H Q, t' σ H Q → t σ H Q) : PK X kws t' := ⟨fun pos pins s σ H Q I q => h.run pos pins s σ H Q I (k σ H Q q)⟩
section
variable {G : Wd} {X : Cx} {c ca cb cc : Bool} {a b : PySem.Expr} {es : List PySem.Expr} {kws : List Keyword} {f fa fb fc : M O} {fs fk : M (List Arg)} {σ : L2.St} {F H F' H' : Hp} {Q : VK} {pos kpos : Pos} {nm : Option Str} {ρ : Env} {U W : List Addr}
theorem sk_nil : PK X [] (rdA G true (rtn [])) := PK.imp pk_nil fun σ H Q h => by
  obtain ⟨F, ρ, U, as, ρ', g, e, k⟩ := h
  cases e
  exact k [] F H U [] g .nil (by simpa using g.nd) (fun _ h => nomatch h) (by simpa using Ext.refl F H U) fun _ => Sub.refl H
theorem sk_cons (ha : PE X a (rd G ca fa)) (hr : PK X kws (rdA G cb fs)) : PK X (⟨nm, a, kpos⟩ :: kws) (rdA G (ca && cb) (bnd fa fun o => bnd fs fun r => rtn (.inl o :: r))) := PK.imp (pk_cons ha hr) fun σ H Q h => by
  obtain ⟨F, ρ, U, as, ρ', g, e, k⟩ := h
  obtain ⟨o, ρ1, e1, e⟩ := bnd_some e
  obtain ⟨r, ρ2, e2, e⟩ := bnd_some e
  cases e
  refine ⟨F, ρ, U, o, ρ1, g, e1, fun v F1 H1 U1 W1 g1 r1 nd1 off1 x1 c1 => ⟨F1, ρ1, U1, r, ρ', g1, e2, fun xs F2 H2 U2 W2 g2 r2 nd2 off2 x2 c2 => ?_⟩⟩
  obtain ⟨r1', off1', d1⟩ := temp r1 nd1 off1 x2
  refine k (v :: xs) F2 H2 U2 (W1 ++ W2) g2 (.own r1' r2) (nd_three nd2 (List.nodup_append.mp nd1).2.1 d1) (off1'.app off2) ?_ fun hc => ?_
  · refine (x1.trans g.sub (x2.more W1)).less fun b hb => ?_
    simp only [List.mem_append] at hb ⊢
    rcases hb with z | z | z
    · exact .inl (.inl z)
    · exact .inr z
    · exact .inl (.inr z)
  · rw [Bool.and_eq_true] at hc
    exact (c1 hc.1).trans (c2 hc.2)
theorem RpAs.app : ∀ {vs ws : List V} {as bs : List Arg} {U W : List Addr}, RpAs G F H σ vs as U → RpAs G F H σ ws bs W → RpAs G F H σ (vs ++ ws) (as ++ bs) (U ++ W)
  | _, _, _, _, _, _, .nil, s => s
  | _, _, _, _, _, _, .own h r, s => by
    rw [List.append_assoc]
    exact .own h (RpAs.app r s)
  | _, _, _, _, _, _, .lent h r, s => .lent h (RpAs.app r s)

/-! ### what is handed to a call -/
def lentV : List V → List Arg → List V
  | _ :: vs, .inl _ :: as => lentV vs as
  | v :: vs, .inr _ :: as => v :: lentV vs as
  | _, _ => []
def sel (vs : List V) (io : List Nat) : List V := io.filterMap (vs[·]?)
theorem sel_lent : ∀ {vs : List V} {as : List Arg} {W : List Addr}, RpAs G F H σ vs as W → ∀ (pre : List V), sel (pre ++ vs) (lendPos pre.length as) = lentV vs as
  | _, _, _, .nil, pre => rfl
  | v :: vs, .inl o :: as, _, .own h r, pre => by
    have := sel_lent r (pre ++ [v])
    rw [List.append_assoc, List.length_append] at this
    exact this
  | v :: vs, .inr i :: as, _, .lent h r, pre => by
    have := sel_lent r (pre ++ [v])
    rw [List.append_assoc, List.length_append] at this
    have e : (pre ++ v :: vs)[pre.length]? = some v := by simp
    show (pre.length :: lendPos (pre.length + 1) as).filterMap ((pre ++ v :: vs)[·]?) = v :: lentV vs as
    rw [List.filterMap_cons, e]
    show v :: _ = v :: _
    exact congrArg (v :: ·) this
theorem take_args : ∀ {as : List Arg} {vs : List V} {W : List Addr} {ρ : Env} {U : List Addr} {os : List O} {ρ' : Env}, RpAs G F H σ vs as W → RpS G F H σ ρ U → takeArgs as ρ = some (os, ρ') →
    ∃ U' Z, RpOs G F H vs os Z ∧ RpS G F H σ ρ' U' ∧ (U' ++ Z).Perm (U ++ W)
  | _, _, _, ρ, U, os, ρ', .nil, rs, e => by
    cases e
    exact ⟨U, [], .nil, rs, List.Perm.refl _⟩
  | _, _, _, ρ, U, os, ρ', .own (o := o) (as := as) (U := Uo) (W := W') h r, rs, e => by
    unfold takeArgs at e
    cases q : takeArgs as ρ with
    | none => rw [q] at e; cases e
    | some p =>
      rw [q] at e
      cases e
      obtain ⟨U', Z, h1, h2, h3⟩ := take_args r rs q
      refine ⟨U', Uo ++ Z, .cons h h1, h2, ?_⟩
      -- U' ++ (Uo ++ Z) ~ U ++ (Uo ++ W')
      have a1 : (U' ++ (Uo ++ Z)).Perm (Uo ++ (U' ++ Z)) := by
        rw [← List.append_assoc, ← List.append_assoc]
        exact List.Perm.append_right Z List.perm_append_comm
      have a2 : (Uo ++ (U ++ W')).Perm (U ++ (Uo ++ W')) := by
        rw [← List.append_assoc, ← List.append_assoc]
        exact List.Perm.append_right W' List.perm_append_comm
      exact a1.trans ((List.Perm.append_left Uo h3).trans a2)
  | _, _, _, ρ, U, os, ρ', .lent (i := i) (as := as) (W := W') h r, rs, e => by
    unfold takeArgs at e
    cases q : ρ[i]? with
    | none => rw [q] at e; cases e
    | some z =>
      cases z with
      | none => rw [q] at e; cases e
      | some o =>
        rw [q] at e
        simp only [Option.join_some] at e
        cases q2 : takeArgs as (ρ.set i none) with
        | none => rw [q2] at e; cases e
        | some p =>
          rw [q2] at e
          cases e
          obtain ⟨v, Wi, A, B, hv, hr, hU, hs⟩ := rs.at q
          rw [h] at hv
          cases hv
          obtain ⟨U', Z, h1, h2, h3⟩ := take_args r (hs F H (Sub.refl F) fun _ _ _ h => h).2 q2
          refine ⟨U', Wi ++ Z, .cons hr h1, h2, ?_⟩
          have a1 : (U' ++ (Wi ++ Z)).Perm (Wi ++ (U' ++ Z)) := by
            rw [← List.append_assoc, ← List.append_assoc]
            exact List.Perm.append_right Z List.perm_append_comm
          have a2 : (Wi ++ (A ++ B ++ W')).Perm (U ++ W') := by
            rw [hU, ← List.append_assoc, ← List.append_assoc]
            exact List.Perm.append_right W' (List.Perm.append_right B List.perm_append_comm)
          exact a1.trans ((List.Perm.append_left Wi h3).trans a2)
theorem give_back : ∀ {as : List Arg} {vs : List V} {outs : List O} {ρ ρ' : Env} {U Z : List Addr} {F0 H0 : Hp} {W0 : List Addr}, RpAs G F0 H0 σ vs as W0 → RpOs G F H (lentV vs as) outs Z → RpS G F H σ ρ U → (U ++ Z).Nodup → giveBack as outs ρ = some ρ' →
    ∃ U', RpS G F H σ ρ' U' ∧ U'.Nodup ∧ ∀ b ∈ U', b ∈ U ++ Z
  | _, _, outs, ρ, ρ', U, Z, _, _, _, .nil, ro, rs, nd, e => by
    cases outs with
    | nil =>
      cases e
      exact ⟨U, rs, (List.nodup_append.mp nd).1, fun b hb => List.mem_append_left _ hb⟩
    | cons _ _ => cases e
  | _, _, outs, ρ, ρ', U, Z, _, _, _, .own h r, ro, rs, nd, e => by
    cases outs with
    | nil => exact give_back r ro rs nd (show giveBack _ [] ρ = some ρ' from e)
    | cons o os => exact give_back r ro rs nd (show giveBack _ (o :: os) ρ = some ρ' from e)
  | _, _, outs, ρ, ρ', U, Z, _, _, _, .lent (v := v) (i := i) (vs := vs) (as := as) h r, ro, rs, nd, e => by
    cases outs with
    | nil => cases e
    | cons o os =>
      have ro' : RpOs G F H (v :: lentV vs as) (o :: os) Z := ro
      cases ro' with
      | @cons _ _ _ _ Zo Zr h1 h2 =>
        have hi : i < ρ.length := by rw [← rs.length]; exact (List.getElem?_eq_some_iff.mp h).1
        obtain ⟨A, W, B, hU, hs⟩ := rs.store hi
        have hst := hs F H (Sub.refl F) (fun _ _ _ h => h) v o Zo h1
        rw [set_self h] at hst
        have sub : ∀ b ∈ A ++ Zo ++ B ++ Zr, b ∈ U ++ (Zo ++ Zr) := fun b hb => by
          rw [hU]
          simp only [List.mem_append] at hb ⊢
          rcases hb with ((z | z) | z) | z
          · exact .inl (.inl (.inl z))
          · exact .inr (.inl z)
          · exact .inl (.inr z)
          · exact .inr (.inr z)
        have nd2 : (A ++ Zo ++ B ++ Zr).Nodup := by
          have hp : (A ++ Zo ++ B ++ Zr).Perm ((A ++ B) ++ (Zo ++ Zr)) := by
            rw [← List.append_assoc]
            refine List.Perm.append_right Zr ?_
            rw [List.append_assoc, List.append_assoc]
            exact List.Perm.append_left A List.perm_append_comm
          refine hp.nodup_iff.mpr (List.Nodup.sublist ?_ nd)
          rw [hU]
          refine List.Sublist.append ?_ (List.Sublist.refl _)
          rw [List.append_assoc]
          exact List.Sublist.append (List.Sublist.refl A) (List.sublist_append_right W B)
        obtain ⟨U', g1, g2, g3⟩ := give_back r h2 hst nd2 (show giveBack as os (ρ.set i (some o)) = some ρ' from e)
        exact ⟨U', g1, g2, fun b hb => sub b (g3 b hb)⟩

/-- what a def of the module promises: as Φ tells -/
def spF (G : Wd) (Φ : Orc) (f : Str) (n : Nat) (io : List Nat) : Sp := fun vs H Q _ => vs.length = n ∧ ∃ F U os o outs, Sub F H ∧ RpOs G F H vs os U ∧ U.Nodup ∧ Off F U ∧ Φ f os = some (o, outs) ∧
  ∀ v F' H' U' W, Sub F' H' → RpOs G F' H' (sel vs io) outs U' → RpO G F' H' v o W → (U' ++ W).Nodup → Off F' (U' ++ W) → Ext F H U F' H' (U' ++ W) → Q v H'
theorem rd_call {Φ : Orc} {fn : Str} {n : Nat} {io : List Nat} {as : List Arg} {vs : List V} {F0 H0 : Hp} {U0 : List Addr} {o : O} {ρ' : Env} (g0 : Good G F H σ ρ U) (r : RpAs G F H σ vs as W) (nd : (U ++ W).Nodup) (off : Off F W) (hl : vs.length = n)
    (e : callM Φ io fn as ρ = some (o, ρ')) (sub0 : Sub F0 H0) (x0 : Ext F0 H0 U0 F H (U ++ W))
    (k : ∀ v F' H' U' W, Good G F' H' σ ρ' U' → RpO G F' H' v o W → (U' ++ W).Nodup → Off F' W → Ext F0 H0 U0 F' H' (U' ++ W) → Q v H') : spF G Φ fn n io vs H Q E0 := by
  unfold callM at e
  split at e
  · rename_i hio
    cases q : takeArgs as ρ with
    | none => rw [q] at e; cases e
    | some p =>
      obtain ⟨os, ρ1⟩ := p
      rw [q] at e
      cases q2 : Φ fn os with
      | none => simp only [q2] at e; cases e
      | some p2 =>
        obtain ⟨o2, outs⟩ := p2
        simp only [q2] at e
        cases q3 : giveBack as outs ρ1 with
        | none => simp only [q3] at e; cases e
        | some ρ2 =>
          simp only [q3] at e
          cases e
          obtain ⟨U2, Z, h1, h2, h3⟩ := take_args r g0.env q
          have nd2 : (U2 ++ Z).Nodup := h3.nodup_iff.mpr nd
          have mem2 : ∀ b, b ∈ U2 ++ Z ↔ b ∈ U ++ W := fun b => h3.mem_iff
          have offU : Off F (U ++ W) := g0.off.app off
          refine ⟨hl, F, Z, os, o, outs, g0.sub, h1, (List.nodup_append.mp nd2).2.1, fun b hb => offU b ((mem2 b).mp (List.mem_append_right _ hb)), q2, fun v F' H' U' W' s' ro rv ndw offw x => ?_⟩
          -- what stayed behind stands
          obtain ⟨a1, a2, a3⟩ := x.apart (W := U2) h2.there (fun b hb => offU b ((mem2 b).mp (List.mem_append_left _ hb))) (fun b hb z => (List.nodup_append.mp nd2).2.2 b hb b z rfl)
          have h2' := h2.mono x.ff a1
          have hsel : sel vs io = lentV vs as := by
            rw [← hio]
            exact sel_lent r []
          rw [hsel] at ro
          have nd3 : (U2 ++ U').Nodup := List.nodup_append.mpr ⟨(List.nodup_append.mp nd2).1, (List.nodup_append.mp ndw).1, fun a ha b hb e => a3 a ha (e ▸ List.mem_append_left _ hb)⟩
          obtain ⟨U3, b1, b2, b3⟩ := give_back r ro h2' nd3 q3
          have inn : ∀ b ∈ U3 ++ W', b ∈ U2 ++ (U' ++ W') := fun b hb => by
            rcases List.mem_append.mp hb with z | z
            · rcases List.mem_append.mp (b3 b z) with y | y
              · exact List.mem_append_left _ y
              · exact List.mem_append_right _ (List.mem_append_left _ y)
            · exact List.mem_append_right _ (List.mem_append_right _ z)
          refine k v F' H' U3 W' ⟨s', b1, b2, fun b hb => ?_⟩ rv ?_ (fun b hb => offw b (List.mem_append_right _ hb)) ?_
          · rcases List.mem_append.mp (b3 b hb) with z | z
            · exact a2 b z
            · exact offw b (List.mem_append_left _ z)
          · refine List.nodup_append.mpr ⟨b2, (List.nodup_append.mp ndw).2.1, fun a ha b hb e => ?_⟩
            subst e
            rcases List.mem_append.mp (b3 a ha) with z | z
            · exact a3 a z (List.mem_append_right _ hb)
            · exact (List.nodup_append.mp ndw).2.2 a z a hb rfl
          · have xx := x.more U2
            refine x0.trans sub0 ((xx.perm (W := U ++ W) (W' := U3 ++ W') (fun b hb => ?_) fun b hb => ?_))
            · exact (mem2 b).mp (by
                rcases List.mem_append.mp hb with z | z
                · exact List.mem_append_right _ z
                · exact List.mem_append_left _ z)
            · rcases List.mem_append.mp (inn b hb) with z | z
              · exact List.mem_append_right _ z
              · exact List.mem_append_left _ z
  · cases e

/-- data, or lent -/
inductive RpAd (G : Wd) (F : Hp) (σ : L2.St) : List V → List Arg → Prop
  | nil : RpAd G F σ [] []
  | dat {v : V} {x : D} {vs : List V} {as : List Arg} : Rp G F v x → RpAd G F σ vs as → RpAd G F σ (v :: vs) (.inl (.d x) :: as)
  | lent {v : V} {i : Nat} {vs : List V} {as : List Arg} : σ[i]? = some (some v) → RpAd G F σ vs as → RpAd G F σ (v :: vs) (.inr i :: as)
theorem RpAd.as : ∀ {vs : List V} {as : List Arg}, RpAd G F σ vs as → RpAs G F H σ vs as []
  | _, _, .nil => .nil
  | _, _, .dat h r => .own (U := []) (.d h) r.as
  | _, _, .lent h r => .lent h r.as
theorem RpAd.length : ∀ {vs : List V} {as : List Arg}, RpAd G F σ vs as → vs.length = as.length
  | _, _, .nil => rfl
  | _, _, .dat _ r => congrArg (· + 1) r.length
  | _, _, .lent _ r => congrArg (· + 1) r.length
theorem RpAd.mono (s : Sub F F') : ∀ {vs : List V} {as : List Arg}, RpAd G F σ vs as → RpAd G F' σ vs as
  | _, _, .nil => .nil
  | _, _, .dat h r => .dat (h.mono s) (RpAd.mono s r)
  | _, _, .lent h r => .lent h (RpAd.mono s r)
theorem RpAs.dat : ∀ {vs : List V} {as : List Arg} {W : List Addr}, RpAs G F H σ vs as W → Off F W → RpAd G (mix F H W) σ vs (as.map frzA)
  | _, _, _, .nil, _ => .nil
  | _, _, _, .own h r, k => .dat ((h.frz k.left).mono (mix_sub (fun b hb => List.mem_append_left _ hb) k)) ((RpAs.dat r k.right).mono (mix_sub (fun b hb => List.mem_append_right _ hb) k))
  | _, _, _, .lent h r, k => .lent h (RpAs.dat r k)
theorem RpAd.app : ∀ {vs ws : List V} {as bs : List Arg}, RpAd G F σ vs as → RpAd G F σ ws bs → RpAd G F σ (vs ++ ws) (as ++ bs)
  | _, _, _, _, .nil, s => s
  | _, _, _, _, .dat h r, s => .dat h (RpAd.app r s)
  | _, _, _, _, .lent h r, s => .lent h (RpAd.app r s)
theorem RpAd.get : ∀ {vs : List V} {as : List Arg} {j : Nat} {a : Arg}, RpAd G F σ vs as → as[j]? = some a → ∃ v, vs[j]? = some v ∧ ∀ {ws : List V} {bs : List Arg}, RpAd G F σ ws bs → RpAd G F σ (v :: ws) (a :: bs)
  | _, _, _, _, .nil, e => by simp at e
  | _, _, 0, _, .dat h r, e => by simp at e; subst e; exact ⟨_, rfl, fun q => .dat h q⟩
  | _, _, 0, _, .lent h r, e => by simp at e; subst e; exact ⟨_, rfl, fun q => .lent h q⟩
  | _, _, j + 1, _, .dat h r, e => by
    obtain ⟨v, h1, h2⟩ := r.get (j := j) (by simpa using e)
    exact ⟨v, by simpa using h1, h2⟩
  | _, _, j + 1, _, .lent h r, e => by
    obtain ⟨v, h1, h2⟩ := r.get (j := j) (by simpa using e)
    exact ⟨v, by simpa using h1, h2⟩
/-- the arguments' values in the parameters' order; d: a default -/
inductive Filled (G : Wd) (xs : List V) : List (Sum Nat D) → List V → Prop
  | nil : Filled G xs [] []
  | arg {j : Nat} {v : V} {r : List (Sum Nat D)} {ys : List V} : xs[j]? = some v → Filled G xs r ys → Filled G xs (.inl j :: r) (v :: ys)
  | dfl {d : D} {v : V} {r : List (Sum Nat D)} {ys : List V} : (∀ F, Rp G F v d) → Filled G xs r ys → Filled G xs (.inr d :: r) (v :: ys)
theorem Filled.args {xs : List V} {as : List Arg} (r : RpAd G F σ xs as) : ∀ {fill : List (Sum Nat D)} {ys : List V} {bs : List Arg}, Filled G xs fill ys → fillArgs as fill = some bs → RpAd G F σ ys bs
  | _, _, _, .nil, e => by cases e; exact .nil
  | _, _, _, .arg (j := j) (r := rf) h q, e => by
    unfold fillArgs at e
    cases q1 : as[j]? with
    | none => rw [q1] at e; cases e
    | some a =>
      cases q2 : fillArgs as rf with
      | none => rw [q1, q2] at e; cases e
      | some b =>
        rw [q1, q2] at e
        cases e
        obtain ⟨v, h1, h2⟩ := r.get q1
        rw [h] at h1
        cases h1
        exact h2 (Filled.args r q q2)
  | _, _, _, .dfl (r := rf) h q, e => by
    unfold fillArgs at e
    cases q2 : fillArgs as rf with
    | none => rw [q2] at e; cases e
    | some b => rw [q2] at e; cases e; exact .dat (h F) (Filled.args r q q2)

/-- a def that may be called so: np arguments by their places, those named ks, the others filled in -/
structure CallOk (S : Stat) (Φ : Orc) (io : List Nat) (f : Str) (np : Nat) (ks : List Str) (fill : List (Sum Nat D)) : Prop where
  ex : ∃ (k : Nat) (fa : Addr) (fd : FuncData) (ps : List Str) (g : List Value → List Value → List Value) (gV : List V → List V → List V),
    FnG S.P S.w S.K S.mg S.base k fa fd ps (spF S.G Φ f ps.length io) ∧ Room k S.A ∧ S.mg f = some (.ref fa) ∧ PySem.W.keepIn S.K (.ref fa) = true ∧ KBn S.K fd ps np ks g gV ∧
      ∀ vs zs : List V, vs.length = np → zs.length = ks.length → (gV vs zs).length = ps.length ∧ Filled S.G (vs ++ zs) fill (gV vs zs)
variable {S : Stat}
theorem run_fg {k n : Nat} {f : Addr} {fd : FuncData} {ps ks : List Str} {sp : Sp} {g : List Value → List Value → List Value} {gV : List V → List V → List V} {pins : List (Addr × Obj)} {s : Shared} {us ws : List Value} {vs zs : List V} (hX : In S X)
    (Fk : FnG S.P S.w S.K S.mg S.base k f fd ps sp) (hr : Room k S.A) (hb : KBn S.K fd ps n ks g gV) (I : Inv X pins σ H s) (r : Vals vs us) (rz : Vals zs ws) (l1 : vs.length = n) (l2 : zs.length = ks.length) (h : sp (gV vs zs) H Q E0) :
    wpAny (model X.prog X.w) X.A (PySem.call (.ref f) us (ks.zip ws)) (EP X pins σ Q) X.xe s := by
  have K1 := I.kIn
  have e0 := I.env0
  have e1 := hX.prog
  have e2 := hX.w
  have e3 := hX.A
  rw [hX.K] at K1
  rw [hX.prog, hX.w, hX.K, hX.mg, hX.base, hX.A] at e0
  have hbind := hb.to s us ws K1 (r.length.symm.trans l1) (rz.length.symm.trans l2)
  have main := Fk.run S.A X.stack s H ⟨us, ks.zip ws⟩ (g us ws) (gV vs zs) Q hX.gd hr e0 hbind (hb.rel r rz) h
  rw [e1, e2, e3]
  apply wpAny_call
  refine codeAny_mono main fun rr s' hq => ?_
  cases rr with
  | error er => exact False.elim hq
  | ok fl =>
    cases fl with
    | ret u =>
      have hq' : CE X.stack X.prog X.w H s Q u s' := by rw [e1, e2]; exact hq
      exact I.after hq'
    | next => exact False.elim hq
    | brk => exact False.elim hq
    | cont => exact False.elim hq
/-- f(..): positions, then names -/
theorem se_call {Φ : Orc} {io : List Nat} {f : Str} {np : Nat} {ks : List Str} {fill : List (Sum Nat D)} (hX : In S X) (hc : CallOk S Φ io f np ks fill) (hg : Gl X f) {p : Pos} (ha : PA X es (rdA S.G ca fs)) (hk : PK X kws (rdA S.G cb fk))
    (l1 : es.length = np) (hks : (backToKw pos (keywordEach kws X.env)).filterMap (·.1) = ks) (l2 : kws.length = ks.length) (hall : (backToKw pos (keywordEach kws X.env)).all (·.1.isSome) = true) (hdb : (f == ("__debug__" : Str)) = false)
    (he : ∀ a r, es = a :: r → starEach es X.env = (false, eval a X.env) :: starEach r X.env) (hpl : ((backTo pos (starEach es X.env)).any (·.1) || (backToKw pos (keywordEach kws X.env)).any (·.1.isNone)) = false)
    (hnil : es = [] → fs = rtn []) (hl1 : ∀ ρ as ρ', fs ρ = some (as, ρ') → as.length = np) (hl2 : ∀ ρ as ρ', fk ρ = some (as, ρ') → as.length = ks.length) :
    PE X (.Call (.Name f p) es kws pos) (rd S.G false (bnd fs fun vs => bnd fk fun ws => callF Φ io f fill (vs ++ ws))) := by
  obtain ⟨k, fa, fd, ps, g, gV, Fk, hr, hm, hkp, hb, hgv⟩ := hc.ex
  refine ⟨fun pins s σ H Q I h => ?_⟩
  refine wpAny_Call_Name_kw (ld_glob I hg (by rw [hX.mg]; exact hm) ?_ hdb)
  have hkp' : PySem.W.keepIn X.K (.ref fa) = true := by rw [hX.K]; exact hkp
  obtain ⟨F, ρ, U, o, ρ', g0, e, kk⟩ := h
  obtain ⟨as, ρ1, e1, e⟩ := bnd_some e
  obtain ⟨bs, ρ2, e2, e⟩ := bnd_some e
  have cont : ∀ vs F1 H1 U1 W1, Good S.G F1 H1 σ ρ1 U1 → RpAs S.G F1 H1 σ vs as W1 → (U1 ++ W1).Nodup → Off F1 W1 → Ext F H U F1 H1 (U1 ++ W1) →
      rdA S.G cb fk σ H1 fun zs H2 => vs.length = np ∧ zs.length = ks.length ∧ spF S.G Φ f ps.length io (gV vs zs) H2 Q E0 := by
    refine fun vs F1 H1 U1 W1 g1 r1 nd1 off1 x1 => ⟨F1, ρ1, U1, bs, ρ2, g1, e2, fun zs F2 H2 U2 W2 g2 r2 nd2 off2 x2 c2 => ?_⟩
    have lenOf : ∀ {F H : Hp} {vs : List V} {as : List Arg} {W : List Addr}, RpAs S.G F H σ vs as W → vs.length = as.length := fun {F H vs as W} r => by
      induction as generalizing vs W with
      | nil => cases r; rfl
      | cons a as ih =>
        cases r with
        | own h r => exact congrArg (· + 1) (ih r)
        | lent h r => exact congrArg (· + 1) (ih r)
    have lv : vs.length = np := (lenOf r1).trans (hl1 _ _ _ e1)
    have lz : zs.length = ks.length := (lenOf r2).trans (hl2 _ _ _ e2)
    refine ⟨lv, lz, ?_⟩
    obtain ⟨hps, hfl⟩ := hgv vs zs lv lz
    -- all that is handed in turns to data
    obtain ⟨a1, a2, a3⟩ := x2.apart (W := W1) r1.there off1 (fun b hb z => (List.nodup_append.mp nd1).2.2 b z b hb rfl)
    have offW : Off F2 (W1 ++ W2) := a2.app off2
    have ndW : (U2 ++ (W1 ++ W2)).Nodup := nd_three nd2 (List.nodup_append.mp nd1).2.1 a3
    have rAll : RpAs S.G F2 H2 σ (vs ++ zs) (as ++ bs) (W1 ++ W2) := (r1.mono x2.ff a1).app r2
    have rd := rAll.dat offW
    have hsub := mix_of (H := H2) offW
    have g3 : Good S.G (mix F2 H2 (W1 ++ W2)) H2 σ ρ2 U2 := ⟨mix_to g2.sub, g2.env.mono hsub (fun _ _ _ h => h), g2.nd, fun b hb => by
      rw [mix_out fun z => (List.nodup_append.mp ndW).2.2 b hb b z rfl]; exact g2.off b hb⟩
    have xx : Ext F H U F2 H2 (U2 ++ (W1 ++ W2)) := (x1.trans g0.sub (x2.more W1)).less fun b hb => by
      simp only [List.mem_append] at hb ⊢
      rcases hb with z | z | z
      · exact .inl (.inl z)
      · exact .inr z
      · exact .inl (.inr z)
    unfold callF at e
    cases q : fillArgs ((as ++ bs).map frzA) fill with
    | none => rw [q] at e; cases e
    | some cs =>
      rw [q] at e
      have rc := hfl.args rd q
      exact rd_call (F0 := F) (H0 := H) (U0 := U) (W := []) g3 rc.as (by simpa using g3.nd) (fun _ h => nomatch h) hps e g0.sub (by simpa using ext_thaw xx hsub) fun v F' H' U' W g' r nd off x => kk v F' H' U' W g' r nd off x fun z => by cases z
  cases es with
  | cons a r =>
    have hA : rdA S.G ca fs σ H fun vs H1 => rdA S.G cb fk σ H1 fun zs H2 => vs.length = np ∧ zs.length = ks.length ∧ spF S.G Φ f ps.length io (gV vs zs) H2 Q E0 :=
      ⟨F, ρ, U, as, ρ1, g0, e1, fun vs F1 H1 U1 W1 g1 r1 nd1 off1 x1 c1 => cont vs F1 H1 U1 W1 g1 r1 nd1 off1 x1⟩
    refine PySem.W.callWith_KW (h₀ := X.base) I.ok.mod.kin hkp' hall (thn (ha.run pos pins s σ H _ I hA) fun us s1 ⟨vs, H1, I1, r1, q⟩ => ?_) hpl (he a r rfl)
    refine thn (hk.run pos pins s1 σ H1 _ I1 q) fun ws s2 ⟨zs, H2, I2, rz, q1, q2, q3⟩ => ⟨I2.kIn, ?_⟩
    rw [hks]
    exact run_fg hX Fk hr hb I2 r1 rz q1 q2 q3
  | nil =>
    refine PySem.W.callWith_KW0 (h₀ := X.base) I.ok.mod.kin hkp' hall ?_ hpl
    rw [hnil rfl] at e1
    cases e1
    have := cont [] F H U [] g0 .nil (by simpa using g0.nd) (fun _ h => nomatch h) (by simpa using Ext.refl F H U)
    refine thn (hk.run pos pins s σ H _ I this) fun ws s2 ⟨zs, H2, I2, rz, q1, q2, q3⟩ => ⟨I2.kIn, ?_⟩
    rw [hks]
    exact run_fg hX Fk hr hb I2 .nil rz q1 q2 q3
end
end Pw

/-! PK1: statements. -/
namespace Pw
open PySem PySem.Spec PyProof.Rows L2

/-- which names keep what they were bound to: the first n -/
def Fix (io : List Nat) (σ σ' : L2.St) : Prop := ∀ i ∈ io, σ'[i]? = σ[i]?
theorem Fix.refl {io : List Nat} (σ : L2.St) : Fix io σ σ := fun _ _ => rfl
theorem Fix.trans {io : List Nat} {a b c : L2.St} (h : Fix io a b) (k : Fix io b c) : Fix io a c := fun i hi => (k i hi).trans (h i hi)
/-- what is wanted behind a statement -/
def SQ (G : Wd) (io : List Nat) (De : Ends) (σ : L2.St) (F H : Hp) (U : List Addr) (fl : Fl) (ρ' : Env) : Prop := match fl with
  | .nx => ∀ σ' F' H' U', Good G F' H' σ' ρ' U' → Ext F H U F' H' U' → Fix io σ σ' → De.nx σ' H'
  | .bk => ∀ σ' F' H' U', Good G F' H' σ' ρ' U' → Ext F H U F' H' U' → Fix io σ σ' → De.bk σ' H'
  | .ct => ∀ σ' F' H' U', Good G F' H' σ' ρ' U' → Ext F H U F' H' U' → Fix io σ σ' → De.ct σ' H'
  | .rt o => ∀ v σ' F' H' U' W, Good G F' H' σ' ρ' U' → RpO G F' H' v o W → (U' ++ W).Nodup → Off F' W → Ext F H U F' H' (U' ++ W) → Fix io σ σ' → De.rt v H'
def rdS (G : Wd) (io : List Nat) (f : M Fl) : TS := fun De σ H => ∃ F ρ U fl ρ', Good G F H σ ρ U ∧ f ρ = some (fl, ρ') ∧ SQ G io De σ F H U fl ρ'
section
variable {G : Wd} {io : List Nat} {X : Cx} {c ca cb cc : Bool} {a b e3 tg : PySem.Expr} {st : PySem.Stmt} {sts sts2 : List PySem.Stmt} {f fa fb fc fe : M O} {fs : M (List Arg)} {mi : M (List D)} {gc : M Bool} {g1 g2 : M Fl} {σ σ1 : L2.St} {F H F' H' F1 H1 : Hp} {U U1 : List Addr} {De : Ends} {Q : VK} {pos : Pos} {ρ : Env} {fl : Fl} {ρ' : Env}
theorem SQ.step (sub : Sub F H) (x : Ext F H U F1 H1 U1) (fx : Fix io σ σ1) (h : SQ G io De σ F H U fl ρ') : SQ G io De σ1 F1 H1 U1 fl ρ' := by
  cases fl with
  | nx => exact fun σ' F' H' U' g x' f' => h σ' F' H' U' g (x.trans sub x') (fx.trans f')
  | bk => exact fun σ' F' H' U' g x' f' => h σ' F' H' U' g (x.trans sub x') (fx.trans f')
  | ct => exact fun σ' F' H' U' g x' f' => h σ' F' H' U' g (x.trans sub x') (fx.trans f')
  | rt o => exact fun v σ' F' H' U' W g r nd off x' f' => h v σ' F' H' U' W g r nd off (x.trans sub x') (fx.trans f')
theorem ss_nil : PSs X [] (rdS G io (rtn .nx)) := PSs.imp pss_nil fun De σ H h => by
  obtain ⟨F, ρ, U, fl, ρ', g, e, k⟩ := h
  cases e
  exact k σ F H U g (Ext.refl F H U) (Fix.refl σ)
def seqM (a b : M Fl) : M Fl := bnd a fun f => match f with
  | .nx => b
  | f => rtn f
theorem ss_cons (h1 : PS X st (rdS G io g1)) (h2 : PSs X sts (rdS G io g2)) : PSs X (st :: sts) (rdS G io (seqM g1 g2)) := PSs.imp (pss_cons h1 h2) fun De σ H h => by
  obtain ⟨F, ρ, U, fl, ρ', g, e, k⟩ := h
  obtain ⟨f1, ρ1, e1, e⟩ := bnd_some e
  refine ⟨F, ρ, U, f1, ρ1, g, e1, ?_⟩
  cases f1 with
  | nx => exact fun σ' F' H' U' g' x fx => ⟨F', ρ1, U', fl, ρ', g', e, k.step g.sub x fx⟩
  | bk => cases e; exact k
  | ct => cases e; exact k
  | rt o => cases e; exact k
theorem Fix.set {i : Nat} (h : i ∉ io) (v : Option V) : Fix io σ (σ.set i v) := fun j hj => by
  rw [List.getElem?_set_ne fun z => h (by rw [z]; exact hj)]
/-- a name is stored -/
theorem stored (gd : Good G F H σ ρ U) {i : Nat} (hi : i < ρ.length) {v : V} {o : O} {W : List Addr} (r : RpO G F H v o W) (nd : (U ++ W).Nodup) (off : Off F W) : ∃ U', Good G F H (σ.set i (some v)) (ρ.set i (some o)) U' ∧ ∀ b ∈ U', b ∈ U ++ W := by
  obtain ⟨A, Z, B, hU, hs⟩ := gd.env.store hi
  obtain ⟨n, ob, sb⟩ := gd.drop hU
  have e := hs F H (Sub.refl F) (fun _ _ _ h => h) v o W r
  have hp : (A ++ W ++ B).Perm (A ++ B ++ W) := by
    rw [List.append_assoc, List.append_assoc]
    exact List.Perm.append_left A List.perm_append_comm
  refine ⟨A ++ W ++ B, ⟨gd.sub, e, hp.nodup_iff.mpr (List.nodup_append.mpr ⟨n, (List.nodup_append.mp nd).2.1, fun a ha b hb e => (List.nodup_append.mp nd).2.2 a (sb.subset ha) b hb e⟩), fun b hb => ?_⟩, fun b hb => ?_⟩
  · rcases List.mem_append.mp (hp.mem_iff.mp hb) with z | z
    · exact ob b z
    · exact off b z
  · rcases List.mem_append.mp (hp.mem_iff.mp hb) with z | z
    · exact List.mem_append_left _ (sb.subset z)
    · exact List.mem_append_right _ z
def setM (i : Nat) (fe : M O) : M Fl := bnd fe fun o => fun ρ => if i < ρ.length then some (.nx, ρ.set i (some o)) else none
theorem ss_set {i : Nat} {te : TE} (hio : i ∉ io) (h : PS X st (tAsg te (gName i))) (ht : ∀ σ H Q, rd G c fe σ H Q → te σ H Q) : PS X st (rdS G io (setM i fe)) := PS.imp h fun De σ H q => by
  refine ht σ H _ ?_
  obtain ⟨F, ρ, U, fl, ρ', g, e, k⟩ := q
  obtain ⟨o, ρ1, e1, e⟩ := bnd_some e
  refine ⟨F, ρ, U, o, ρ1, g, e1, fun v F1 H1 U1 W1 g1 r1 nd1 off1 x1 c1 => ?_⟩
  replace e : (if i < ρ1.length then some (Fl.nx, ρ1.set i (some o)) else none) = some (fl, ρ') := e
  split at e
  · rename_i hi
    cases e
    obtain ⟨U2, g2, sb⟩ := stored g1 hi r1 nd1 off1
    exact k _ F1 H1 U2 g2 (x1.less sb) (Fix.set hio _)
  · cases e
def setTM (t : T) (fe : M O) : M Fl := bnd (fzM fe) fun x => fun ρ => match bindT t x ρ with
    | some ρ' => some (.nx, ρ')
    | none => none
/-- only own names changed: those of io stand -/
theorem Same.fix {is : List Nat} (h : Same σ σ1 is) (hio : ∀ i ∈ io, i ∉ is) : Fix io σ σ1 := fun i hi => by
  have := h is fun _ z => z
  have e : (wipe σ1 is)[i]? = (wipe σ is)[i]? := by rw [this]
  rwa [wipe_out' (hio i hi), wipe_out' (hio i hi)] at e
theorem ss_setT {t : T} {te : TE} (hio : ∀ i ∈ io, i ∉ tvars t) (h : PS X st (tAsg te (rdG G t))) (ht : ∀ σ H Q, rdD G c (fzM fe) σ H Q → te σ H Q) : PS X st (rdS G io (setTM t fe)) := PS.imp h fun De σ H q => by
  refine ht σ H _ ?_
  obtain ⟨F, ρ, U, fl, ρ', g, e, k⟩ := q
  obtain ⟨x, ρ1, e1, e⟩ := bnd_some e
  refine ⟨F, ρ, U, x, ρ1, g, e1, fun v F1 H1 U1 g1 r1 x1 c1 => ?_⟩
  replace e : (match bindT t x ρ1 with
    | some ρ' => some (Fl.nx, ρ')
    | none => none) = some (fl, ρ') := e
  cases q : bindT t x ρ1 with
  | none => rw [q] at e; cases e
  | some ρ2 =>
    rw [q] at e
    cases e
    exact ⟨F1, ρ1, U1, x, ρ', g1, r1, q, fun σ' U' g' sb sm => k σ' F1 H1 U' g' (x1.less fun b hb => sb.subset hb) (sm.fix hio)⟩
def tupM (fs : M (List Arg)) : M O := bnd fs fun vs => match argsO vs with
    | some os => if os.length ≤ big then rtn (O.d (D.tup (frzs os))) else fun _ => none
    | none => fun _ => none
/-- a, b = x, y with both sides written -/
theorem ss_par {i j : Nat} (hi : i ∉ io) (hj : j ∉ io) (h : PS X st (tPar i j (rdA G c fs))) : PS X st (rdS G io (setTM (.tup [.v i, .v j]) (tupM fs))) := PS.imp h fun De σ H q => by
  obtain ⟨F, ρ, U, fl, ρ', g, e, k⟩ := q
  obtain ⟨x, ρ1, e1, e⟩ := bnd_some e
  unfold fzM at e1
  cases q1 : tupM fs ρ with
  | none => rw [q1] at e1; cases e1
  | some p =>
    obtain ⟨o, ρ2⟩ := p
    rw [q1] at e1
    cases e1
    obtain ⟨as, ρ3, e2, e3⟩ := bnd_some q1
    refine ⟨F, ρ, U, as, ρ3, g, e2, fun xs F1 H1 U1 W1 g1 r1 nd1 off1 x1 c1 => ?_⟩
    cases q2 : argsO as with
    | none => simp only [q2] at e3; cases e3
    | some os =>
      simp only [q2] at e3
      split at e3
      · cases e3
        have ro := r1.os q2
        have ra := ro.frz off1
        have hsub := mix_of (H := H1) off1
        have g2 : Good G (mix F1 H1 W1) H1 σ ρ1 U1 := ⟨mix_to g1.sub, g1.env.mono hsub (fun _ _ _ h => h), g1.nd, fun b hb => by
          rw [mix_out fun z => (List.nodup_append.mp nd1).2.2 b hb b z rfl]; exact g1.off b hb⟩
        replace e : (match bindT (.tup [.v i, .v j]) (.tup (frzs os)) ρ1 with
          | some ρ' => some (Fl.nx, ρ')
          | none => none) = some (fl, ρ') := e
        cases q3 : bindT (.tup [.v i, .v j]) (.tup (frzs os)) ρ1 with
        | none => rw [q3] at e; cases e
        | some ρ4 =>
          rw [q3] at e
          cases e
          unfold bindT tupOf at q3
          generalize frzs os = ys at ra q3
          cases ra with
          | nil => simp [bindTs] at q3
          | cons ha ra =>
            cases ra with
            | nil =>
              simp only [bindTs, bindT] at q3
              split at q3 <;> simp at q3
            | cons hb ra =>
              cases ra with
              | cons _ _ =>
                simp only [bindTs, bindT] at q3
                split at q3
                · simp only [Option.bind_some] at q3
                  split at q3 <;> simp at q3
                · simp at q3
              | nil =>
                simp only [bindTs, bindT] at q3
                split at q3
                · rename_i hl1
                  simp only [Option.bind_some] at q3
                  split at q3
                  · rename_i hl2
                    simp only [Option.bind_some] at q3
                    cases q3
                    obtain ⟨U2, g3, sb3⟩ := stored g2 hl1 (RpO.d ha) (by simpa using g2.nd) (fun _ h => nomatch h)
                    obtain ⟨U3, g4, sb4⟩ := stored g3 hl2 (RpO.d hb) (by simpa using g3.nd) (fun _ h => nomatch h)
                    refine ⟨_, _, rfl, k _ _ H1 U3 g4 ((ext_thaw x1 hsub).less fun b hb => ?_) ((Fix.set hi _).trans (Fix.set hj _))⟩
                    have h1 := sb4 b hb
                    rw [List.append_nil] at h1
                    have h2 := sb3 b h1
                    rwa [List.append_nil] at h2
                  · simp at q3
                · simp at q3
      · cases e3
def exM (fe : M O) : M Fl := bnd fe fun _ => rtn .nx
theorem ss_ex (h : PE X a (rd G c fe)) (hs : swapsWith a none pos.line X.env = pure false) : PS X (.Expr a pos) (rdS G io (exM fe)) := PS.imp (ps_expr h hs) fun De σ H q => by
  obtain ⟨F, ρ, U, fl, ρ', g, e, k⟩ := q
  obtain ⟨o, ρ1, e1, e⟩ := bnd_some e
  cases e
  exact ⟨F, ρ, U, o, ρ', g, e1, fun v F1 H1 U1 W1 g1 r1 nd1 off1 x1 c1 => k σ F1 H1 U1 g1 (x1.less fun b hb => List.mem_append_left _ hb) (Fix.refl σ)⟩
def retM (fe : M O) : M Fl := bnd fe fun o => rtn (.rt o)
theorem ss_ret (h : PE X a (rd G c fe)) : PS X (.Return (some a) pos) (rdS G io (retM fe)) := PS.imp (ps_ret h) fun De σ H q => by
  obtain ⟨F, ρ, U, fl, ρ', g, e, k⟩ := q
  obtain ⟨o, ρ1, e1, e⟩ := bnd_some e
  cases e
  exact ⟨F, ρ, U, o, ρ', g, e1, fun v F1 H1 U1 W1 g1 r1 nd1 off1 x1 c1 => k v σ F1 H1 U1 W1 g1 r1 nd1 off1 x1 (Fix.refl σ)⟩
theorem ss_retN : PS X (.Return none pos) (rdS G io (rtn (.rt (.d .non)))) := PS.imp ps_retN fun De σ H q => by
  obtain ⟨F, ρ, U, fl, ρ', g, e, k⟩ := q
  cases e
  exact k .non σ F H U [] g (.d .non) (by simpa using g.nd) (fun _ h => nomatch h) (by simpa using Ext.refl F H U) (Fix.refl σ)
theorem ss_pass : PS X (.Pass pos) (rdS G io (rtn .nx)) := PS.imp ps_pass fun De σ H h => by
  obtain ⟨F, ρ, U, fl, ρ', g, e, k⟩ := h
  cases e
  exact k σ F H U g (Ext.refl F H U) (Fix.refl σ)
theorem ss_brk : PS X (.Break pos) (rdS G io (rtn .bk)) := PS.imp ps_break fun De σ H h => by
  obtain ⟨F, ρ, U, fl, ρ', g, e, k⟩ := h
  cases e
  exact k σ F H U g (Ext.refl F H U) (Fix.refl σ)
theorem ss_cont : PS X (.Continue pos) (rdS G io (rtn .ct)) := PS.imp ps_continue fun De σ H h => by
  obtain ⟨F, ρ, U, fl, ρ', g, e, k⟩ := h
  cases e
  exact k σ F H U g (Ext.refl F H U) (Fix.refl σ)
theorem ss_never : PS X st (rdS G io (fun _ => none)) := PS.imp ps_never fun De σ H h => by
  obtain ⟨F, ρ, U, fl, ρ', g, e, k⟩ := h
  cases e
def ifM (gc : M Bool) (a b : M Fl) : M Fl := bnd gc fun t => if t then a else b
theorem ss_if (hc : PT X e3 (rdT G c gc)) (ha : PSs X sts (rdS G io g1)) (hb : PSs X sts2 (rdS G io g2)) : PS X (.If e3 sts sts2 pos) (rdS G io (ifM gc g1 g2)) := PS.imp (ps_if hc ha hb) fun De σ H h => by
  obtain ⟨F, ρ, U, fl, ρ', g, e, k⟩ := h
  obtain ⟨t, ρ1, e1, e⟩ := bnd_some e
  refine ⟨F, ρ, U, t, ρ1, g, e1, fun F1 H1 U1 g1 x1 c1 => ?_⟩
  cases t with
  | true => exact iteT ⟨F1, ρ1, U1, fl, ρ', g1, e, k.step g.sub x1 (Fix.refl σ)⟩
  | false => exact iteF ⟨F1, ρ1, U1, fl, ρ', g1, e, k.step g.sub x1 (Fix.refl σ)⟩
def forM (mi : M (List D)) (t : T) (b : M Fl) : M Fl := bnd mi fun xs => forRun (fun x ρ => match bindT t x ρ with
    | some ρ' => b ρ'
    | none => none) xs
theorem ss_for {t : T} (hio : ∀ i ∈ io, i ∉ tvars t) (hp : PassesOwn (model X.prog X.w) X.A X.env X.xe) (hc : X.calm = true) (hi : PI X tg a (rdI G c mi)) (hg : PG X tg (rdG G t)) (hb : PSs X sts (rdS G io g1))
    (hs : ∀ x, foldedSetIterable a X.env x = pure x) : PS X (.For tg a sts [] pos) (rdS G io (forM mi t g1)) := PS.imp (ps_for hp hc hi hg hb hs) fun De σ H h => by
  obtain ⟨F, ρ, U, fl, ρ', g, e, k⟩ := h
  obtain ⟨ds, ρI, e1, e⟩ := bnd_some e
  refine ⟨F, ρ, U, ds, ρI, g, e1, fun J FI HI UI gI wk xI cI => ?_⟩
  let body : D → M Fl := fun x ρ => match bindT t x ρ with
    | some ρ' => g1 ρ'
    | none => none
  refine ⟨fun i m σ1 H1 => m = ds.length - i ∧ i ≤ ds.length ∧ ∃ F1 ρ1 U1, Good G F1 H1 σ1 ρ1 U1 ∧ Sub FI F1 ∧ forRun body (ds.drop i) ρ1 = some (fl, ρ') ∧ SQ G io De σ1 F1 H1 U1 fl ρ',
    ⟨ds.length, by simp, Nat.zero_le _, FI, ρI, UI, gI, Sub.refl FI, by simpa using e, k.step g.sub xI (Fix.refl σ)⟩, ?_⟩
  rintro i m σ1 H1 ⟨rfl, hi, F1, ρ1, U1, g1', hs1, hr, kq⟩
  by_cases hlt : i < ds.length
  · refine .inr ⟨wk.go i H1 (hs1.trans g1'.sub) hlt, fun σ2 H2 => ds.length - (i + 1) = ds.length - (i + 1) ∧ i + 1 ≤ ds.length ∧ ∃ F2 ρ2 U2, Good G F2 H2 σ2 ρ2 U2 ∧ Sub FI F2 ∧ forRun body (ds.drop (i + 1)) ρ2 = some (fl, ρ') ∧ SQ G io De σ2 F2 H2 U2 fl ρ',
      fun σ2 H2 h => ⟨ds.length - (i + 1), by omega, h⟩, fun x H2 hy => ?_⟩
    have hd : ds[i]? = some ds[i] := List.getElem?_eq_getElem hlt
    obtain ⟨F2, n2, rx⟩ := wk.yl i ds[i] F1 H1 x H2 hs1 g1'.sub hd hy
    obtain ⟨g2', _⟩ := g1'.new n2
    have x2 : Ext F1 H1 U1 F2 H2 U1 := by simpa using n2.ext U1
    have hdrop : ds.drop i = ds[i] :: ds.drop (i + 1) := List.drop_eq_getElem_cons hlt
    rw [hdrop] at hr
    unfold forRun at hr
    cases q : bindT t ds[i] ρ1 with
    | none =>
      have : body ds[i] ρ1 = none := by show (match bindT t ds[i] ρ1 with | some ρ' => g1 ρ' | none => none) = none; rw [q]
      rw [this] at hr; cases hr
    | some ρ2 =>
      have hbe : body ds[i] ρ1 = g1 ρ2 := by show (match bindT t ds[i] ρ1 with | some ρ' => g1 ρ' | none => none) = _; rw [q]
      rw [hbe] at hr
      refine ⟨F2, ρ1, U1, ds[i], ρ2, g2', rx, q, fun σ2 U2 g3 sb sm => ?_⟩
      have x3 : Ext F1 H1 U1 F2 H2 U2 := x2.less fun b hb => sb.subset hb
      have kq2 : SQ G io De σ2 F2 H2 U2 fl ρ' := kq.step g1'.sub x3 (sm.fix hio)
      cases q3 : g1 ρ2 with
      | none => rw [q3] at hr; cases hr
      | some p =>
        obtain ⟨f2, ρ3⟩ := p
        rw [q3] at hr
        refine ⟨F2, ρ2, U2, f2, ρ3, g3, q3, ?_⟩
        cases f2 with
        | nx => exact fun σ' F' H' U' g' x' fx => ⟨rfl, hlt, F', ρ3, U', g', hs1.trans (n2.ff.trans x'.ff), hr, kq2.step g3.sub x' fx⟩
        | ct => exact fun σ' F' H' U' g' x' fx => ⟨rfl, hlt, F', ρ3, U', g', hs1.trans (n2.ff.trans x'.ff), hr, kq2.step g3.sub x' fx⟩
        | bk => cases hr; exact fun σ' F' H' U' g' x' fx => kq2 σ' F' H' U' g' x' fx
        | rt o => cases hr; exact kq2
  · have hei : i = ds.length := by omega
    subst hei
    rw [List.drop_length] at hr
    cases hr
    exact .inl ⟨wk.st H1 (hs1.trans g1'.sub), kq σ1 F1 H1 U1 g1' (Ext.refl F1 H1 U1) (Fix.refl σ1)⟩
theorem ss_while {n : Nat} (hp : PassesOwn (model X.prog X.w) X.A X.env X.xe) (hc : PT X e3 (rdT G c gc)) (hb : PSs X sts (rdS G io g1)) : PS X (.While e3 sts [] pos) (rdS G io (whileRun gc g1 n)) := PS.imp (ps_while hp hc hb) fun De σ H h => by
  obtain ⟨F, ρ, U, fl, ρ', g, e, k⟩ := h
  refine ⟨fun m σ1 H1 => ∃ F1 ρ1 U1, Good G F1 H1 σ1 ρ1 U1 ∧ whileRun gc g1 m ρ1 = some (fl, ρ') ∧ SQ G io De σ1 F1 H1 U1 fl ρ', ⟨n, F, ρ, U, g, e, k⟩, ?_⟩
  rintro m σ1 H1 ⟨F1, ρ1, U1, g', hr, kq⟩
  cases m with
  | zero => cases hr
  | succ m =>
    unfold whileRun at hr
    cases q : gc ρ1 with
    | none => rw [q] at hr; cases hr
    | some p =>
      obtain ⟨t, ρ2⟩ := p
      rw [q] at hr
      refine ⟨F1, ρ1, U1, t, ρ2, g', q, fun F2 H2 U2 g2' x2 c2 => ?_⟩
      have kq2 := kq.step g'.sub x2 (Fix.refl σ1)
      cases t with
      | false =>
        cases hr
        exact iteF (kq2 σ1 F2 H2 U2 g2' (Ext.refl F2 H2 U2) (Fix.refl σ1))
      | true =>
        refine iteT ⟨fun σ2 H2 => ∃ F1 ρ1 U1, Good G F1 H2 σ2 ρ1 U1 ∧ whileRun gc g1 m ρ1 = some (fl, ρ') ∧ SQ G io De σ2 F1 H2 U1 fl ρ', fun σ2 H2 h => ⟨m, Nat.lt_succ_self m, h⟩, ?_⟩
        simp only at hr
        cases q3 : g1 ρ2 with
        | none => rw [q3] at hr; cases hr
        | some p =>
          obtain ⟨f2, ρ3⟩ := p
          rw [q3] at hr
          refine ⟨F2, ρ2, U2, f2, ρ3, g2', q3, ?_⟩
          cases f2 with
          | nx => exact fun σ' F' H' U' g' x' fx => ⟨F', ρ3, U', g', hr, kq2.step g2'.sub x' fx⟩
          | ct => exact fun σ' F' H' U' g' x' fx => ⟨F', ρ3, U', g', hr, kq2.step g2'.sub x' fx⟩
          | bk => cases hr; exact fun σ' F' H' U' g' x' fx => kq2 σ' F' H' U' g' x' fx
          | rt o => cases hr; exact kq2
end
end Pw

/-! PL1: stores into owned lists, pop, isinstance, comprehensions. -/
namespace Pw
open PySem PySem.Spec PyProof.Rows L2
section
variable {G : Wd} {io : List Nat} {X : Cx} {c ca cb cc ci cw ce : Bool} {a b i e tg it : PySem.Expr} {es ifs : List PySem.Expr} {f fa fb fi fe : M O} {fs : M (List Arg)} {σ : L2.St} {F H F' H' : Hp} {Q : VK} {pos pos2 apos tpos : Pos} {ρ : Env} {U W : List Addr} {p : P}
  {mi : M (List D)} {mw : M Bool} {t : T}
/-- an owned object is written anew -/
theorem wrote (g : Good G F H σ ρ U) {o : O} (q : getP ρ p = some o) : ∃ v W, PlV G p σ H v ∧ RpO G F H v o W ∧ W.Nodup ∧ Off F W ∧ ∀ (a : Addr) (ho : HO) (o' : O) (W' : List Addr) (ρ' : Env), a ∈ W → W'.Nodup → (∀ b ∈ W', b ∈ W) → RpO G F (upd H a ho) v o' W' → setP ρ p o' = some ρ' →
    ∃ U', Good G F (upd H a ho) σ ρ' U' ∧ Ext F H U F (upd H a ho) U' := by
  obtain ⟨v, W, A, B, hv, hr, hU, hs⟩ := focus g.env g.sub q
  have nd : (A ++ W ++ B).Nodup := hU ▸ g.nd
  obtain ⟨n1, n2⟩ := nd_mid nd
  have inU : ∀ b ∈ W, b ∈ U := fun b hb => by rw [hU]; simp [hb]
  refine ⟨v, W, hv, hr, (List.nodup_append.mp (List.nodup_append.mp nd).1).2.1, fun b hb => g.off b (inU b hb), fun a ho o' W' ρ' ha nW hW r e => ?_⟩
  have ne : ∀ b ∈ A ++ B, b ≠ a := fun b hb z => n2 b hb (z ▸ ha)
  have env := hs F (upd H a ho) o' W' ρ' (Sub.refl F) (fun b hb u z => by rw [upd_ne (ne b hb)]; exact z) r e
  have sub : ∀ b ∈ A ++ W' ++ B, b ∈ U := fun b hb => by
    rw [hU]
    simp only [List.mem_append] at hb ⊢
    rcases hb with (z | z) | z
    · exact .inl (.inl z)
    · exact .inl (.inr (hW b z))
    · exact .inr z
  refine ⟨A ++ W' ++ B, ⟨fun b u z => ?_, env, nd_put nd nW fun b hb => .inl (hW b hb), fun b hb => g.off b (sub b hb)⟩, Sub.refl F, fun b u z n => ?_, fun _ h => .inl h, fun b hb => .inl (sub b hb), fun b z => ?_⟩
  · have : b ≠ a := fun y => by
      rw [y, g.off a (inU a ha)] at z; cases z
    rw [upd_ne this]; exact g.sub b u z
  · have : b ≠ a := fun y => n (by rw [y]; exact inU a ha)
    rw [upd_ne this]; exact z
  · by_cases y : b = a
    · subst y; rw [upd_same]; exact fun w => by cases w
    · rw [upd_ne y]; exact z
theorem RpA.getLast {vs : List V} {ds : List D} {x : D} (r : RpA G F vs ds) (e : ds.getLast? = some x) : ∃ v, vs[vs.length - 1]? = some v ∧ Rp G F v x := by
  rw [List.getLast?_eq_getElem?] at e
  obtain ⟨v, h1, h2⟩ := r.get e
  exact ⟨v, by rw [r.length]; exact h1, h2⟩
/-- p.pop() -/
def popM (p : P) : M O := fun ρ => match getP ρ p with
  | some (.fl xs) => match xs.getLast? with
    | some x => match setP ρ p (.fl xs.dropLast) with
      | some ρ' => some (.d x, ρ')
      | none => none
    | none => none
  | _ => none
theorem se_pop (ho : PE X a (tPl G p)) (hbase : attributeBase a "pop" X.env (eval a X.env) = eval a X.env) (hline : (apos.endLine == pos.line) = true) :
    PE X (.Call (.Attribute a "pop" apos) [] [] pos) (rd G false (popM p)) := PE.imp (pe_bm0 PySem.F.plainAttrs_list PySem.F.slot_list_pop PySem.F.type_list_pop mt_pop ho hbase hline) fun σ H Q h => by
  obtain ⟨F, ρ, U, o, ρ', g, e, k⟩ := h
  unfold popM at e
  split at e
  · rename_i xs q
    split at e
    · rename_i x hx
      split at e
      · rename_i ρ2 q2
        cases e
        obtain ⟨v, W, hv, hr, nd, off, hw⟩ := wrote g q
        cases hr with
        | @fl a vs _ ha hf =>
          obtain ⟨y, hy, ry⟩ := hf.getLast hx
          refine ⟨.ref a, hv, .inl ⟨rfl, _, SqL.of ha⟩, a, vs, y, rfl, rfl, ha, hy, ?_⟩
          obtain ⟨U', g', x'⟩ := hw a (.lst vs.dropLast) (.fl xs.dropLast) [a] _ (by simp) (by simp) (fun b hb => hb) (.fl upd_same hf.last) q2
          exact k y F _ U' [] g' (.d ry) (by simpa using g'.nd) (fun _ h => nomatch h) (by simpa using x') fun z => by cases z
      · cases e
    · cases e
  · cases e
/-- p.append(e) as a statement -/
def appM (p : P) (fe : M O) : M Fl := fun ρ => if isFl (getP ρ p) then bnd (fzM fe) (fun x => fun ρ' => match getP ρ' p with
    | some (.fl xs) => if xs.length < big then match setP ρ' p (.fl (xs ++ [x])) with
        | some ρ2 => some (.nx, ρ2)
        | none => none
      else none
    | _ => none) ρ else none
theorem one_arg (h : PE X e (rd G c fe)) (hs : starEach [e] X.env = (false, eval e X.env) :: starEach [] X.env) : PA X [e] (fun σ H Q => rdD G c (fzM fe) σ H fun v H' => Q [v] H') := PA.imp (pa_cons (pe_fz h) pa_nil hs) fun σ H Q q => q
/-- the value at a place stays the same behind what is calm -/
theorem PlV.stay {v w : V} (hv : PlV G p σ H v) (hc : c = true ∨ p.isV = true) (c1 : c = true → Sub H H') (hw : PlV G p σ H' w) : w = v := by
  rcases hc with z | z
  · exact PlV.same hw (hv.mono (c1 z))
  · cases p with
    | v i =>
      have e : some (some w) = some (some v) := (show σ[i]? = some (some w) from hw).symm.trans hv
      cases e; rfl
    | f p x => cases z
    | «at» p k => cases z
theorem ss_app (hp : c = true ∨ p.isV = true) (ho : PE X a (tPl G p)) (he : PE X e (rd G c fe)) (hbase : attributeBase a "append" X.env (eval a X.env) = eval a X.env) (hline : (apos.endLine == pos.line) = true)
    (hs : starEach [e] X.env = (false, eval e X.env) :: starEach [] X.env) :
    PS X (.Expr (.Call (.Attribute a "append" apos) [e] [] pos) pos2) (rdS G io (appM p fe)) := PS.imp (ps_expr (pe_bm PySem.F.plainAttrs_list PySem.F.slot_list_append PySem.F.type_list_append mt_append ho (one_arg he hs) hbase (by rw [hs]; rfl) hline hs rfl) rfl) fun De σ H h => by
  obtain ⟨F, ρ, U, fl, ρ', g, e, k⟩ := h
  unfold appM at e
  split at e
  · rename_i hi
    obtain ⟨x, ρ1, e1, e⟩ := bnd_some e
    cases h0 : getP ρ p with
    | none => rw [h0] at hi; cases hi
    | some o0 =>
      obtain ⟨v, W, A, B, hv, hr, hU, _⟩ := focus g.env g.sub h0
      rw [h0] at hi
      cases hr with
      | d _ => cases hi
      | ml _ _ => cases hi
      | ob _ _ _ => cases hi
      | @fl a vs ds ha hf =>
        refine ⟨.ref a, hv, .inl ⟨rfl, _, SqL.of ha⟩, F, ρ, U, x, ρ1, g, e1, fun v1 F1 H1 U1 g1 r1 x1 c1 => ?_⟩
        split at e
        · rename_i xs q1
          split at e
          · rename_i hb
            split at e
            · rename_i ρ2 q2
              cases e
              obtain ⟨w, W', hw, hr2, nd, off, hwr⟩ := wrote g1 q1
              have := PlV.stay hv hp c1 hw
              subst this
              cases hr2 with
              | @fl _ ws _ ha' hf' =>
                refine ⟨a, ws, v1, rfl, rfl, ha', by rw [hf'.length]; exact Nat.lt_of_lt_of_le hb big_line, ?_⟩
                obtain ⟨U', g', x'⟩ := hwr a (.lst (ws ++ [v1])) (.fl (xs ++ [x])) [a] _ (by simp) (by simp) (fun b hb => hb) (.fl upd_same (hf'.app (.cons r1 .nil))) q2
                exact k σ F1 _ U' g' (x1.trans g.sub x') (Fix.refl σ)
            · cases e
          · cases e
        · cases e
  · cases e
/-- p[i] = e -/
def setIM (p : P) (fi fe : M O) : M Fl := bnd (fzM fe) fun x => fun ρ => if (getP ρ p).isSome then bnd (fzM fi) (fun y => fun ρ' => match y, getP ρ' p with
    | .int j, some o => match putAt o j x with
      | some o' => match setP ρ' p o' with
        | some ρ2 => some (.nx, ρ2)
        | none => none
      | none => none
    | _, _ => none) ρ else none
theorem ss_setI (hp : ci = true ∨ p.isV = true) (ho : PE X a (tPl G p)) (hi : PE X i (rd G ci fi)) (he : PE X e (rd G c fe))
    (ha : ∀ v, assign (.Subscript a i tpos) X.env v = (do
      let ov ← holding [v] (eval a X.env)
      let iv ← holding [v, ov] (eval i X.env)
      standAt tpos
      holding [v, ov, iv] (setItem ov iv v)
      release [v, ov, iv] [])) (hs : swapsWithSole [.Subscript a i tpos] e pos.line X.env = pure false) (hw : swappedStores [.Subscript a i tpos] e X.env = pure none) :
    PS X (.Assign [.Subscript a i tpos] e pos) (rdS G io (setIM p fi fe)) := PS.imp (ps_asg (pe_fz he) (pg_sub ho (pe_fz hi) set_list ha) hs hw rfl) fun De σ H h => by
  obtain ⟨F, ρ, U, fl, ρ', g, e, k⟩ := h
  obtain ⟨x, ρ1, e1, e⟩ := bnd_some e
  refine ⟨F, ρ, U, x, ρ1, g, e1, fun v1 F1 H1 U1 g1 r1 x1 c1 => ?_⟩
  split at e
  · rename_i hi
    obtain ⟨o0, h0⟩ := getP_some hi
    obtain ⟨y, ρ2, e2, e⟩ := bnd_some e
    obtain ⟨v, W, A, B, hv, hr, hU, _⟩ := focus g1.env g1.sub h0
    refine ⟨v, hv, F1, ρ1, U1, y, ρ2, g1, e2, fun v2 F2 H2 U2 g2 r2 x2 c2 => ?_⟩
    split at e
    · rename_i j o q
      split at e
      · rename_i o' q1
        split at e
        · rename_i ρ3 q2
          cases e
          obtain ⟨w, W', hw2, hr2, nd, off, hwr⟩ := wrote g2 q
          have hwv := PlV.stay hv hp c2 hw2
          subst hwv
          cases r2
          have r1' := r1.mono x2.ff
          cases hr2 with
          | d _ => cases q1
          | ob _ _ _ => cases q1
          | @fl a vs ds ha hf =>
            have q1' : (ixN ds.length j).map (fun m => O.fl (ds.set m x)) = some o' := q1
            cases q3 : ixN ds.length j with
            | none => rw [q3] at q1'; cases q1'
            | some m =>
              rw [q3] at q1'
              cases q1'
              obtain ⟨U', g', x'⟩ := hwr a (.lst (vs.set m v1)) (.fl (ds.set m x)) [a] _ (by simp) (by simp) (fun b hb => hb) (.fl upd_same (RpA.set r1' m hf)) q2
              exact ⟨a, vs, j, m, rfl, rfl, ha, by rw [hf.length]; exact q3, k σ F2 _ U' g' ((x1.trans g.sub x2).trans g.sub x') (Fix.refl σ)⟩
          | @ml a vs os Z ha hf =>
            have q1' : (ixN os.length j).map (fun m => O.ml (os.set m (.d x))) = some o' := q1
            cases q3 : ixN os.length j with
            | none => rw [q3] at q1'; cases q1'
            | some m =>
              rw [q3] at q1'
              cases q1'
              have hm : m < os.length := (ixN_seq q3).2.1
              obtain ⟨w, Z1, A1, B1, h1, h2, h3, h4⟩ := hf.focus (List.getElem?_eq_getElem hm)
              have hnd : (A1 ++ B1).Nodup ∧ ∀ b ∈ A1 ++ B1, b ∉ Z1 := nd_mid (by rw [← h3]; exact (List.nodup_cons.mp nd).2)
              have hin : ∀ b ∈ A1 ++ B1, b ∈ Z := fun b hb => by
                rw [h3]
                simp only [List.mem_append] at hb ⊢
                rcases hb with z | z
                · exact .inl (.inl z)
                · exact .inr z
              have hna : a ∉ A1 ++ B1 := fun z => (List.nodup_cons.mp nd).1 (hin a z)
              have hk : Kp H2 (upd H2 a (.lst (vs.set m v1))) (A1 ++ B1) := fun b hb u z => by
                rw [upd_ne fun y => hna (by rw [← y]; exact hb)]; exact z
              have hset := h4 F2 (upd H2 a (.lst (vs.set m v1))) v1 (.d x) [] (Sub.refl F2) hk (.d r1')
              obtain ⟨U', g', x'⟩ := hwr a (.lst (vs.set m v1)) (.ml (os.set m (.d x))) (a :: (A1 ++ [] ++ B1)) _ (by simp) (by
                rw [List.append_nil]
                exact List.nodup_cons.mpr ⟨hna, hnd.1⟩) (fun b hb => by
                rw [List.append_nil] at hb
                rcases List.mem_cons.mp hb with z | z
                · rw [z]; simp
                · exact List.mem_cons_of_mem _ (hin b z)) (.ml upd_same hset) q2
              exact ⟨a, vs, j, m, rfl, rfl, ha, by rw [hf.len]; exact q3, k σ F2 _ U' g' ((x1.trans g.sub x2).trans g.sub x') (Fix.refl σ)⟩
        · cases e
      · cases e
    · cases e
  · cases e
/-- isinstance(a, T) -/
def isiM (fa : M O) (t : String) : M O := bnd (fzM fa) fun x => match isiD x t with
  | some b => rtn (.d (.bl b))
  | none => fun _ => none
theorem se_isi (hK : X.K = G.K) {t : String} {x : Str} {p p2 : Pos} (ht : PE X (.Name x p2) (tC (.ty t))) (ha : PE X a (rd G c fa)) (hg : Gl X "isinstance") (hm : X.mg "isinstance" = none)
    (hs : ∀ b, starEach [a, b] X.env = (false, eval a X.env) :: starEach [b] X.env) : PE X (.Call (.Name "isinstance" p) [a, .Name x p2] [] pos) (rd G c (isiM fa t)) :=
  PE.imp (pe_callB call_isi hg hm PyProof.Rows.boot_isinstance (pa_cons (pe_fz ha) (pa_cons ht pa_nil rfl) (hs _)) (by decide) (by decide) (hs _) rfl) fun σ H Q h => by
    obtain ⟨F, ρ, U, o, ρ', g, e, k⟩ := h
    obtain ⟨x, ρ1, e1, e⟩ := bnd_some e
    refine ⟨F, ρ, U, x, ρ1, g, e1, fun v F1 H1 U1 g1 r1 x1 c1 => ?_⟩
    cases q : isiD x t with
    | none => rw [q] at e; cases e
    | some b =>
      rw [q] at e
      cases e
      unfold isiD at q
      split at q
      · cases q2 : tyOf x with
        | none => rw [q2] at q; cases q
        | some s =>
          rw [q2] at q
          refine ⟨v, .ty t, .type s, .type t, b, rfl, .ty t, by rw [hK]; exact tyX_of g1.sub r1 q2, kit_ty q, ?_⟩
          exact k _ F1 H1 U1 [] g1 (.d (.bl _)) (by simpa using g1.nd) (fun _ h => nomatch h) (by simpa using x1) c1
      · cases q
/-- [e for t in it if ..] -/
theorem se_lc {scope : Scope} {own : List (Str × Nat)} (hG : (tvars t).all ((own.map (·.2)).contains ·) = true) (hc : X.calm = true) (hN : X.N.Nodup) (hi : PI X tg it (rdI G ci mi)) (ok : BlkOk X.N X.env.scope scope own)
    (hg : ∀ (s : Shared) (H : Hp) (C : Addr) (cl : List (Str × Addr)) (fp : List Addr), PG (X.blk s H scope (compEnvC scope cl C X.env) fp) tg (rdG G t)) (ht : ∀ (s : Shared) (H : Hp) (C : Addr) (cl : List (Str × Addr)) (fp : List Addr), PTs (X.blk s H scope (compEnvC scope cl C X.env) fp) ifs (rdT G cw mw))
    (he : ∀ (s : Shared) (H : Hp) (C : Addr) (cl : List (Str × Addr)) (fp : List Addr), PE (X.blk s H scope (compEnvC scope cl C X.env) fp) e (rd G ce fe)) (hs : ∀ x, foldedSetIterable it X.env x = pure x) :
    PE X (.ListComp e [⟨tg, it, ifs, 0⟩] scope pos) (rd G (ci && (cw && ce)) (lcM mi t mw fe (own.map (·.2)))) :=
  PE.imp (pe_lc hc hN hi ok hg ht (fun s H C cl fp => pe_fz (he s H C cl fp)) hs) fun σ H Q h => lc_read hG h
/-- x = [e for t in it if ..] on one line -/
theorem ss_setLc {i : Nat} {y : Str} {py spos : Pos} {scope : Scope} {own : List (Str × Nat)} (hio : i ∉ io) (hy : X.N[i]? = some y) (hyl : X.env.scope.names.lookup y = some .local)
    (hsw : swapsWith (.ListComp e [⟨tg, it, ifs, 0⟩] scope pos) (some (.Name y py)) spos.line X.env = pure true)
    (hG : (tvars t).all ((own.map (·.2)).contains ·) = true) (hc : X.calm = true) (hN : X.N.Nodup) (hi : PI X tg it (rdI G ci mi)) (ok : BlkOk X.N X.env.scope scope own)
    (hg : ∀ (s : Shared) (H : Hp) (C : Addr) (cl : List (Str × Addr)) (fp : List Addr), PG (X.blk s H scope (compEnvC scope cl C X.env) fp) tg (rdG G t)) (ht : ∀ (s : Shared) (H : Hp) (C : Addr) (cl : List (Str × Addr)) (fp : List Addr), PTs (X.blk s H scope (compEnvC scope cl C X.env) fp) ifs (rdT G cw mw))
    (he : ∀ (s : Shared) (H : Hp) (C : Addr) (cl : List (Str × Addr)) (fp : List Addr), PE (X.blk s H scope (compEnvC scope cl C X.env) fp) e (rd G ce fe)) (hs : ∀ x, foldedSetIterable it X.env x = pure x) :
    PS X (.Assign [.Name y py] (.ListComp e [⟨tg, it, ifs, 0⟩] scope pos) spos) (rdS G io (setM i (lcM mi t mw fe (own.map (·.2))))) :=
  ss_set (c := ci && (cw && ce)) hio (ps_setLc hc hN hy hyl hsw hi ok hg ht (fun s H C cl fp => pe_fz (he s H C cl fp)) hs) fun σ H Q h => lc_read hG h
end
end Pw

/-! PL2: sorted(set(rows)); texts' join, upper. -/
namespace Pw
open PySem PySem.Spec PyProof.Rows L2
section
variable {G : Wd} {X : Cx} {c ca cb : Bool} {a b : PySem.Expr} {fa fb : M O} {fs : M (List Arg)} {σ : L2.St} {F H F' H' : Hp} {Q : VK} {pos : Pos} {ρ : Env} {U W : List Addr}
theorem rows_keys {K : PySem.W.Frag} : ∀ {xs : List V} {rs : List (List Int)}, RowsV K F xs rs → ∃ ks : List (Addr × List Int), xs = ks.map (fun p => V.ref p.1) ∧ rs = ks.map (·.2) ∧ ∀ p ∈ ks, SqT K F p.1 (p.2.map V.int)
  | _, _, .nil => ⟨[], rfl, rfl, fun _ h => nomatch h⟩
  | _, _, .cons (r := n) ⟨t, e, h⟩ r => by
    obtain ⟨ks, e1, e2, h2⟩ := rows_keys r
    subst e e1 e2
    refine ⟨(t, n) :: ks, rfl, rfl, fun p hp => ?_⟩
    rcases List.mem_cons.mp hp with z | z
    · rw [z]; exact h
    · exact h2 p z
theorem nodup_dups {α : Type} [BEq α] [LawfulBEq α] : ∀ (n : Nat) (l : List α), l.length ≤ n → l.eraseDups.Nodup
  | _, [], _ => by simp
  | n + 1, a :: l, h => by
    rw [List.eraseDups_cons]
    refine List.nodup_cons.mpr ⟨fun z => ?_, nodup_dups n _ (Nat.le_trans (List.length_filter_le _ _) (by simpa using h))⟩
    rw [List.mem_eraseDups, List.mem_filter] at z
    simp at z
def ssetM (fa : M O) : M O := bnd (fzM fa) fun x => match x with
    | .lst xs => lift (ssetD xs)
    | _ => fun _ => none
theorem rp_keys : ∀ {L : List (Addr × List Int)}, (∀ q ∈ L, SqT G.K F q.1 (q.2.map V.int)) → RpA G F (L.map fun q => V.ref q.1) ((L.map (·.2)).map rowD)
  | [], _ => .nil
  | q :: L, h => .cons (.tup (h q List.mem_cons_self) (RpA.ofInts _)) (rp_keys fun z hz => h z (List.mem_cons_of_mem _ hz))
theorem se_sset (hK : X.K = G.K) (hc : X.calm = true) (hu : X.A.units + 64 < cLine) (ha : PE X a (rd G c fa)) (hg1 : Gl X "sorted") (hm1 : X.mg "sorted" = none) (hg2 : Gl X "set") (hm2 : X.mg "set" = none) {p p2 pos2 : Pos}
    (hs : starEach [a] X.env = (false, eval a X.env) :: starEach [] X.env) :
    PE X (.Call (.Name "sorted" p) [.Call (.Name "set" p2) [a] [] pos2] [] pos) (rd G c (ssetM fa)) :=
  PE.imp (pe_callB (cr_sortedSet2 hc) hg1 hm1 (by decide +kernel) (pa_cons (pe_callTy (cr_setOfT hc hu) hg2 hm2 (by decide +kernel) (pa_cons (pe_fz ha) pa_nil hs) (by decide) (by decide) hs rfl) pa_nil rfl) (by decide) (by decide) rfl rfl) fun σ H Q h => by
    obtain ⟨F, ρ, U, o, ρ', g, e, k⟩ := h
    obtain ⟨x, ρ1, e1, e⟩ := bnd_some e
    refine ⟨F, ρ, U, x, ρ1, g, e1, fun v F1 H1 U1 g1 r1 x1 c1 => ?_⟩
    cases x <;> simp only at e <;> try (cases e)
    rename_i ds
    obtain ⟨e2, e3⟩ := lift_some e
    cases e3
    obtain ⟨l, vs, rfl, h, q⟩ := r1.lstE
    unfold ssetD at e2
    cases q2 : rowsD ds with
    | none => rw [q2] at e2; cases e2
    | some rs =>
      rw [q2] at e2
      simp only at e2
      split at e2
      · rename_i hcn
        cases e2
        obtain ⟨rv, erow⟩ := q.rows q2
        obtain ⟨ks, rfl, rfl, hk⟩ := rows_keys rv
        refine ⟨l, ks, rfl, by rw [hK]; exact .inl (.inl (g1.sub _ _ h)), fun q hq => by rw [hK]; exact g1.sub.sqT (hk q hq), by have := hcn.1; rw [List.length_map] at this; omega, fun A L hn h1 h2 => ?_⟩
        obtain ⟨g2, nd2⟩ := g1.new (New.own (o := SetTO X.prog X.w A L) g1.sub hn)
        have n1 := New.own (F := F1) (o := SetTO X.prog X.w A L) g1.sub hn
        refine ⟨A, L, rfl, upd_same, fun q hq => by rw [hK]; exact g2.sub.sqT (hk q (h1 q hq)), fun q hq z => ?_, fun L' p2 nd pm hsr few hp2 => ?_⟩
        · have := List.all_eq_true.mp hcn.2 q.2 (List.mem_map_of_mem (h1 q hq))
          rw [z] at this
          cases this
        · have hL : (L.map (·.2)).Perm (ks.map (·.2)).eraseDups := by
            refine (List.perm_ext_iff_of_nodup nd (nodup_dups _ _ (Nat.le_refl _))).mpr fun z => ?_
            rw [List.mem_eraseDups]
            refine ⟨fun hz => ?_, fun hz => ?_⟩
            · obtain ⟨q, hq, rfl⟩ := List.mem_map.mp hz
              exact List.mem_map_of_mem (h1 q hq)
            · obtain ⟨q, hq, rfl⟩ := List.mem_map.mp hz
              exact h2 q hq
          have hsr2 : L'.map (·.2) = srt lexLt (ks.map (·.2)).eraseDups := by
            rw [hsr]
            exact srt_is (srt_rises (lt := lexLt) (fun _ _ => lexLt_asym) (fun _ _ _ => lexLt_ltr) _) ((srt_perm lexLt _).trans hL)
          have hrp : RpA G F1 (L'.map fun q => V.ref q.1) ((srt lexLt (ks.map (·.2)).eraseDups).map rowD) := by
            rw [← hsr2]
            exact rp_keys fun q hq => hk q (h1 q (pm.mem_iff.mp hq))
          obtain ⟨n2, r2⟩ := new_lst (G := G) g2.sub hp2 hrp
          obtain ⟨g3, nd3⟩ := g2.new n2
          refine k _ _ _ U1 _ g3 r2 nd3 n2.off ((x1.trans g.sub ((n1.ext U1).less fun b hb => List.mem_append_left _ hb)).trans g.sub (n2.ext U1)) fun hc => ((c1 hc).trans n1.hh).trans n2.hh
      · cases e2
/-! ### texts -/
def joinM (fa fb : M O) : M O := bnd (fzM fa) fun x => bnd (fzM fb) fun y => lift (bmD .join x [y])
end
end Pw

/-! PL3: texts' join, upper; displays of dicts with written keys and values; {..}.get(a, b). -/
namespace Pw
open PySem PySem.Spec PyProof.Rows L2
section
variable {G : Wd} {X : Cx} {c ca cb : Bool} {a b : PySem.Expr} {fa fb : M O} {fs : M (List Arg)} {σ : L2.St} {F H F' H' : Hp} {Q : VK} {pos apos : Pos} {ρ : Env} {U W : List Addr}
theorem RpA.strs : ∀ {vs : List V} {ds : List D} {bs : List Str}, RpA G F vs ds → strsD ds = some bs → vs = bs.map V.str
  | _, _, bs, .nil, e => by simp [strsD] at e; subst e; rfl
  | _, _, bs, .cons (d := d) (ds := ds) h r, e => by
    cases d <;> simp only [strsD] at e <;> try (cases e)
    rename_i s
    cases q : strsD ds with
    | none => rw [q] at e; cases e
    | some l =>
      rw [q] at e
      cases e
      cases h
      rw [r.strs q]; rfl
theorem se_join (hK : X.K = G.K) (ha : PE X a (rd G ca fa)) (hb : PE X b (rd G cb fb)) (hs : starEach [b] X.env = [(false, eval b X.env)]) (hbase : attributeBase a "join" X.env (eval a X.env) = eval a X.env) (hline : (apos.endLine == pos.line) = true) :
    PE X (.Call (.Attribute a "join" apos) [b] [] pos) (rd G (ca && cb) (joinM fa fb)) := PE.imp (pe_join (pe_fz ha) (pe_fz hb) hs hbase hline) fun σ H Q h => by
  obtain ⟨F, ρ, U, o, ρ', g, e, k⟩ := h
  obtain ⟨x, ρ1, e1, e⟩ := bnd_some e
  obtain ⟨y, ρ2, e2, e⟩ := bnd_some e
  obtain ⟨e3, e4⟩ := lift_some e
  cases e4
  refine ⟨F, ρ, U, x, ρ1, g, e1, fun v F1 H1 U1 g1 r1 x1 c1 => ?_⟩
  cases x <;> simp only [bmD] at e3 <;> try (cases e3)
  rename_i s _
  cases r1
  refine ⟨⟨s, rfl⟩, F1, ρ1, U1, y, _, g1, e2, fun v2 F2 H2 U2 g2 r2 x2 c2 => ?_⟩
  cases q : strsOf y with
  | none => rw [q] at e3; cases e3
  | some bs =>
    rw [q] at e3
    simp only at e3
    split at e3
    · rename_i hz
      cases e3
      have fin : ∀ p, v2 = V.ref p → (SqL X.K H2 p (bs.map V.str) ∨ SqT X.K H2 p (bs.map V.str)) → ∃ (a : Str) (p : Addr) (ys : List Str), V.str s = V.str a ∧ [v2] = [V.ref p] ∧ (SqL X.K H2 p (ys.map V.str) ∨ SqT X.K H2 p (ys.map V.str)) ∧
          (ys.map (·.length)).sum + ys.length * a.length ≤ 16777216 ∧ Q (.str (Txt.join a ys)) H2 := fun p ep h => by
        refine ⟨s, p, bs, rfl, by rw [ep], h, Nat.le_trans hz (by decide), ?_⟩
        refine k _ F2 H2 U2 [] g2 (.d (.str _)) (by simpa using g2.nd) (fun _ h => nomatch h) (by simpa using x1.trans g.sub x2) fun hc => ?_
        rw [Bool.and_eq_true] at hc
        exact (c1 hc.1).trans (c2 hc.2)
      cases y <;> simp only [strsOf] at q <;> try (cases q)
      · obtain ⟨p, vs, rfl, h, r⟩ := r2.tupE
        rw [r.strs q] at h
        exact fin p rfl (.inr (by rw [hK]; exact g2.sub.sqT h))
      · obtain ⟨p, vs, rfl, h, r⟩ := r2.lstE
        rw [r.strs q] at h
        exact fin p rfl (.inl (.inl (.inl (g2.sub _ _ h))))
    · cases e3
def upM (fa : M O) : M O := bnd (fzM fa) fun x => lift (bmD .upper x [])
theorem se_upper (ha : PE X a (rd G ca fa)) (hbase : attributeBase a "upper" X.env (eval a X.env) = eval a X.env) (hline : (apos.endLine == pos.line) = true) :
    PE X (.Call (.Attribute a "upper" apos) [] [] pos) (rd G ca (upM fa)) := PE.imp (pe_upper (pe_fz ha) hbase hline) fun σ H Q h => by
  obtain ⟨F, ρ, U, o, ρ', g, e, k⟩ := h
  obtain ⟨x, ρ1, e1, e⟩ := bnd_some e
  obtain ⟨e3, e4⟩ := lift_some e
  cases e4
  refine ⟨F, ρ, U, x, _, g, e1, fun v F1 H1 U1 g1 r1 x1 c1 => ?_⟩
  cases x <;> simp only [bmD] at e3 <;> try (cases e3)
  rename_i s
  split at e3
  · rename_i hz
    cases e3
    cases r1
    exact ⟨⟨s, rfl⟩, s, rfl, rfl, Nat.le_trans hz (by decide), k _ F1 H1 U1 [] g1 (.d (.str _)) (by simpa using g1.nd) (fun _ h => nomatch h) (by simpa using x1) c1⟩
  · cases e3
/-! ### displays of dicts -/
def vS : D → V
  | .bl b => .bl b
  | .int i => .int i
  | .str s => .str s
  | _ => .non
def isS : D → Bool
  | .non => true
  | .bl _ => true
  | .int _ => true
  | .str _ => true
  | _ => false
theorem rp_vS {d : D} (h : isS d = true) : Rp G F (vS d) d := by
  cases d <;> first | cases h | skip
  · exact .non
  · exact .bl _
  · exact .int _
  · exact .str _
def kvV (kvs : List (Str × D)) : List (Key × V) := kvs.map fun p => (Sum.inr p.1, vS p.2)
def trsOf (kvs : List (Str × D)) : List (TE × TE) := kvs.map fun p => (tC (.str p.1), tC (vS p.2))
theorem trs_run : ∀ (kvs : List (Str × D)) (σ : L2.St) (H : Hp) (Q : List (V × V) → Hp → Prop), Q ((kvV kvs).map fun kv => (kV kv.1, kv.2)) H → tPairs (trsOf kvs) σ H Q
  | [], σ, H, Q, h => h
  | p :: kvs, σ, H, Q, h => trs_run kvs σ H (fun ps H3 => Q ((V.str p.1, vS p.2) :: ps) H3) h
theorem put_new : ∀ (acc : List (Key × V)) (k : Key) (v : V), k ∉ acc.map (·.1) → putK acc k v = acc ++ [(k, v)]
  | acc, k, v, h => by
    unfold putK
    have : acc.any (fun kv => decide (kv.1 = k)) = false := by
      rw [Bool.eq_false_iff]
      intro z
      obtain ⟨q, hq, e⟩ := List.any_eq_true.mp z
      exact h (List.mem_map.mpr ⟨q, hq, of_decide_eq_true e⟩)
    rw [if_neg (by rw [this]; exact Bool.false_ne_true)]
theorem merge_new : ∀ (more acc : List (Key × V)), (acc.map (·.1) ++ more.map (·.1)).Nodup → mergeK acc more = acc ++ more
  | [], acc, _ => by show acc = acc ++ []; simp
  | p :: more, acc, h => by
    show mergeK (putK acc p.1 p.2) more = _
    have hn : p.1 ∉ acc.map (·.1) := fun z => (List.nodup_append.mp h).2.2 _ z _ List.mem_cons_self rfl
    rw [put_new acc p.1 p.2 hn, merge_new more (acc ++ [p])]
    · simp
    · simpa using h
theorem rpK_of : ∀ {kvs : List (Str × D)}, kvs.all (fun p => isS p.2) = true → RpK G F (kvV kvs) (dsKv kvs)
  | [], _ => .nil
  | p :: kvs, h => by
    rw [List.all_cons, Bool.and_eq_true] at h
    exact .cons (k := Sum.inr p.1) (rp_vS h.1) (rpK_of h.2)
/-- what a display lays -/
theorem se_dsp {keys : List (Option PySem.Expr)} {values : List PySem.Expr} {kvs : List (Str × D)} (h : PE X (.Dict keys values pos) (tDisp (trsOf kvs)) ∨ (kvs = [] ∧ PE X (.Dict keys values pos) tDNewK)) (hS : kvs.all (fun p => isS p.2) = true) (hn : (kvs.map (·.1)).Nodup) (hl : kvs.length ≤ 15) :
    PE X (.Dict keys values pos) (rd G true (rtn (.d (.dic (dsKv kvs))))) := by
  have main : ∀ (σ : L2.St) (H : Hp) (Q : VK), rd G true (rtn (.d (.dic (dsKv kvs)))) σ H Q → ∀ p, H p = none → Q (.ref p) (upd H p (.dK (kvV kvs))) := fun σ H Q h p hp => by
    obtain ⟨F, ρ, U, o, ρ', g, e, k⟩ := h
    cases e
    have nw : New F H (upd F p (.dK (kvV kvs))) (upd H p (.dK (kvV kvs))) [] := New.lay g.sub hp
    obtain ⟨g2, nd2⟩ := g.new nw
    exact k _ _ _ U [] g2 (.d (.dic upd_same (rpK_of hS))) nd2 nw.off (nw.ext U) fun _ => nw.hh
  rcases h with h | ⟨rfl, h⟩
  · refine PE.imp h fun σ H Q q => fun p hp => trs_run kvs σ _ _ ⟨upd_same, kvV kvs, rfl, by unfold kvV; rw [List.length_map]; exact hl, ?_⟩
    have e : mergeK [] (kvV kvs) = kvV kvs := by
      refine (merge_new _ _ ?_).trans (List.nil_append _)
      have : (kvV kvs).map (·.1) = (kvs.map (·.1)).map Sum.inr := by unfold kvV; rw [List.map_map, List.map_map]; rfl
      rw [this]
      exact hn.map _ fun a b hab e => hab (Sum.inr.inj e)
    rw [e]
    have := main σ H Q q p hp
    have e2 : upd (upd H p (.dK [])) p (.dK (kvV kvs)) = upd H p (.dK (kvV kvs)) := by
      funext b
      by_cases hb : b = p
      · subst hb; rw [upd_same, upd_same]
      · rw [upd_ne hb, upd_ne hb, upd_ne hb]
    rw [e2]
    exact this
  · exact PE.imp h fun σ H Q q => fun p hp => main σ H Q q p hp
theorem val_look : ∀ (kvs : List (Str × D)) (x : Str), valV (kvV kvs) (Sum.inr x) = (kvs.lookup x).map vS
  | [], x => rfl
  | p :: kvs, x => by
    obtain ⟨k, d⟩ := p
    have ih := val_look kvs x
    by_cases h : k = x
    · subst h
      have e : ((k, d) :: kvs).lookup k = some d := by simp [List.lookup]
      rw [e]
      unfold valV kvV
      simp
    · have e : ((k, d) :: kvs).lookup x = kvs.lookup x := by
        have : (x == k) = false := by simpa using fun z => h z.symm
        simp [List.lookup, this]
      rw [e, ← ih]
      unfold valV kvV
      simp [h]
def dgetM (kvs : List (Str × D)) (fa : M O) (d : D) : M O := bnd (fzM fa) fun y => match y with
    | .str s => rtn (.d ((kvs.lookup s).getD d))
    | _ => fun _ => none
theorem rp_look : ∀ {kvs : List (Str × D)} {x : Str} {d : D}, kvs.all (fun p => isS p.2) = true → isS d = true → Rp G F (((kvs.lookup x).map vS).getD (vS d)) ((kvs.lookup x).getD d)
  | [], x, d, _, h => rp_vS h
  | p :: kvs, x, d, hS, h => by
    rw [List.all_cons, Bool.and_eq_true] at hS
    obtain ⟨k, v⟩ := p
    by_cases hk : (x == k) = true
    · have e : ((k, v) :: kvs).lookup x = some v := by simp [List.lookup, hk]
      rw [e]
      exact rp_vS hS.1
    · have e : ((k, v) :: kvs).lookup x = kvs.lookup x := by simp [List.lookup, hk]
      rw [e]
      exact rp_look hS.2 h
theorem se_dgetd {keys : List (Option PySem.Expr)} {values : List PySem.Expr} {kvs : List (Str × D)} {d : D} {pos2 : Pos} (hu : X.A.units + 1 < cLine) (h : PE X (.Dict keys values pos2) (tDisp (trsOf kvs))) (hS : kvs.all (fun p => isS p.2) = true) (hn : (kvs.map (·.1)).Nodup) (hl : kvs.length ≤ 15)
    (ha : PE X a (rd G ca fa)) (hd : PE X b (tC (vS d))) (hdS : isS d = true) (m : M2 X (.Dict keys values pos2) "get" apos a b pos) :
    PE X (.Call (.Attribute (.Dict keys values pos2) "get" apos) [a, b] [] pos) (rd G ca (dgetM kvs fa d)) := PE.imp (pe_dget2 hu h (pe_fz ha) hd m) fun σ H Q q => fun p hp => trs_run kvs σ _ _ ⟨upd_same, kvV kvs, rfl, by unfold kvV; rw [List.length_map]; exact hl, by
    have e : mergeK [] (kvV kvs) = kvV kvs := by
      refine (merge_new _ _ ?_).trans (List.nil_append _)
      have : (kvV kvs).map (·.1) = (kvs.map (·.1)).map Sum.inr := by unfold kvV; rw [List.map_map, List.map_map]; rfl
      rw [this]
      exact hn.map _ fun a b hab e => hab (Sum.inr.inj e)
    have e2 : upd (upd H p (.dK [])) p (.dK (kvV kvs)) = upd H p (.dK (kvV kvs)) := by
      funext b
      by_cases hb : b = p
      · subst hb; rw [upd_same, upd_same]
      · rw [upd_ne hb, upd_ne hb, upd_ne hb]
    rw [e, e2]
    obtain ⟨F, ρ, U, o, ρ', g, e, k⟩ := q
    obtain ⟨y, ρ1, e1, e⟩ := bnd_some e
    have nw : New F H (upd F p (.dK (kvV kvs))) (upd H p (.dK (kvV kvs))) [] := New.lay g.sub hp
    obtain ⟨g0, _⟩ := g.new nw
    refine ⟨p, rfl, .inl ⟨_, .inl upd_same⟩, _, ρ, U, y, ρ1, g0, e1, fun v F1 H1 U1 g1 r1 x1 c1 => ?_⟩
    cases y <;> simp only at e <;> try (cases e)
    rename_i s
    cases r1
    refine ⟨((kvs.lookup s).map vS), .inl ⟨kvV kvs, Sum.inr s, .inl (g1.sub _ _ (x1.ff _ _ upd_same)), rfl, (val_look kvs s).symm⟩, ?_⟩
    refine k _ F1 H1 U1 [] g1 (.d (rp_look hS hdS)) (by simpa using g1.nd) (fun _ h => nomatch h) ?_ fun hc => nw.hh.trans (c1 hc)
    have := (nw.ext U).trans g.sub (by simpa using x1)
    simpa using this⟩
end
end Pw

/-! PM1: whether an expression of the program is one of the small language; if so, what it comes to. -/
namespace Pw
open PySem PySem.Spec PyProof.Rows L2

structure Shape where
  f : Str
  np : Nat
  ks : List Str
  fill : List (Sum Nat D)
structure Tb where
  gs : List Str
  bn : List Str
  calls : List Shape
/-- the names about: slots, kinds, which cells may be stored to -/
structure Cc where
  N : List Str
  sc : Scope
  fnc : Str → Bool
structure InX (S : Stat) (cc : Cc) (X : Cx) : Prop where
  i : In S X
  N : X.N = cc.N
  sc : X.env.scope = cc.sc
  kind : cc.sc.kind = .function
  fn : ∀ x, cc.fnc x = true → X.fn x = true
  xe : X.xe = fun _ _ => False
def Cc.blk (cc : Cc) (scope : Scope) : Cc := { N := cc.N, sc := relS scope cc.sc, fnc := fun x => scope.names.lookup x == some .cell }
theorem InX.blk {S : Stat} {cc : Cc} {X : Cx} (h : InX S cc X) {scope : Scope} (hk : scope.kind = .function) (s : Shared) (H : Hp) (C : Addr) (cl : List (Str × Addr)) (fp : List Addr) : InX S (cc.blk scope) (X.blk s H scope (compEnvC scope cl C X.env) fp) := by
  refine ⟨⟨h.i.prog, h.i.w, h.i.K, h.i.GK, h.i.mg, h.i.base, h.i.A, h.i.calm, h.i.nd, h.i.gd⟩, h.N, ?_, hk, fun x hx => hx, rfl⟩
  show relS scope X.env.scope = relS scope cc.sc
  rw [h.sc]
structure TbOk (S : Stat) (Φ : Orc) (Gv : Gv) (tb : Tb) : Prop where
  hu : S.A.units + 100 < cLine
  bn : ∀ x ∈ tb.bn, S.mg x = none
  gl : ∀ x ∈ tb.gs, ∃ d v u, Gv.gv x = some d ∧ S.mg x = some u ∧ RelV v u ∧ ∀ F, Rp S.G F v d
  calls : ∀ s ∈ tb.calls, CallOk S Φ (Gv.io s.f) s.f s.np s.ks s.fill

/-! ### calm: nothing that stands is written -/
mutual
def calmE : E → Bool
  | .k _ => true
  | .pl _ => true
  | .mv _ => true
  | .gl _ => true
  | .fn _ => true
  | .bin _ a b => calmE a && calmE b
  | .neg a => calmE a
  | .tv b => calmB b
  | .and a b => calmE a && calmE b
  | .or a b => calmE a && calmE b
  | .ife c a b => calmB c && (calmE a && calmE b)
  | .tup es => calmEs es
  | .lst es => calmEs es
  | .ix a i => calmE a && calmE i
  | .ixP p i => calmE i
  | .lenP p => true
  | .sl a lo hi => calmE a && calmO lo && calmO hi
  | .rev a => calmE a
  | .call f es ks names fill => false
  | .bi f es => calmEs es
  | .isi a t => calmE a
  | .lc elt t it cond own => calmI it && (calmW cond && calmE elt)
  | .pop p => false
  | .pop0 p => false
  | .bm m a es => calmE a && calmEs es
  | .dsp kvs => true
  | .dgetd kvs a d => calmE a
  | .sset a => calmE a
  | .dget g a => calmE a
  | .callv i es => false
  | .new c es => false
  | .meth i c m es => false
  | .lc2 elt t it c t2 it2 c2 own => false
def calmEs : Es → Bool
  | .nil => true
  | .cons e es => calmE e && calmEs es
  | .lend i es => calmEs es
def calmO : Eo → Bool
  | .none => true
  | .some e => calmE e
def calmW : Bo → Bool
  | .none => true
  | .some b => calmB b
def calmI : I → Bool
  | .seq e => calmE e
  | .rng1 a => calmE a
  | .rng2 a b => calmE a && calmE b
  | .zip a b => calmE a && calmE b
  | .enum a => calmE a
def calmB : B → Bool
  | .val e => calmE e
  | .not b => calmB b
  | .and a b => calmB a && calmB b
  | .or a b => calmB a && calmB b
  | .cmp op a b => calmE a && calmE b
  | .cmpP op p b => calmE b
  | .cmpQ op a p => calmE a
  | .chain op op' a b c => calmE a && calmE b && calmE c
end

/-! ### names, places -/
def noStar : PySem.Expr → Bool
  | .Starred _ _ => false
  | _ => true
theorem star_cons {a : PySem.Expr} {es : List PySem.Expr} {env : PySem.Env} (h : noStar a = true) : starEach (a :: es) env = (false, eval a env) :: starEach es env := by
  cases a <;> first | rfl | cases h
theorem star_all {es : List PySem.Expr} {env : PySem.Env} {pos : Pos} (h : es.all noStar = true) : (backTo pos (starEach es env)).any (·.1) = false := by
  induction es with
  | nil => rfl
  | cons a es ih =>
    rw [List.all_cons, Bool.and_eq_true] at h
    rw [star_cons h.1]
    exact ih h.2
theorem asg_cons {a : PySem.Expr} {es : List PySem.Expr} {env : PySem.Env} (h : noStar a = true) : assignEach (a :: es) env = (false, assign a env) :: assignEach es env := by
  cases a <;> first | rfl | cases h
theorem asg_all {es : List PySem.Expr} {env : PySem.Env} (h : es.all noStar = true) : (assignEach es env).length = es.length ∧ (assignEach es env).findIdx? (·.1) = none := by
  induction es with
  | nil => exact ⟨rfl, rfl⟩
  | cons a es ih =>
    rw [List.all_cons, Bool.and_eq_true] at h
    rw [asg_cons h.1]
    refine ⟨congrArg (· + 1) (ih h.2).1, ?_⟩
    rw [List.findIdx?_cons]
    simp [(ih h.2).2]
def seen (sc : Scope) (x : Str) : Bool := match sc.names.lookup x with
  | some .local => true
  | some .cell => true
  | some .free => true
  | _ => false
theorem seen_vis {sc : Scope} {x : Str} (h : seen sc x = true) : Vis sc x := by
  unfold seen at h
  split at h
  · exact .inl (by assumption)
  · exact .inr (.inl (by assumption))
  · exact .inr (.inr (by assumption))
  · cases h
def chkN (cc : Cc) (i : Nat) (x : PySem.Expr) : Bool := match x with
  | .Name n _ => decide (cc.N[i]? = some n) && seen cc.sc n && !(n == ("__debug__" : Str)) && !(n == ("__classdict__" : Str))
  | _ => false
def chkP (cc : Cc) : P → PySem.Expr → Bool
  | .v i, x => chkN cc i x
  | .at p k, x => match x with
    | .Subscript a (.Constant (.int j) _ _) _ => decide (j = (k : Int)) && chkP cc p a
    | _ => false
  | .f _ _, _ => false
def chkK (d : D) (x : PySem.Expr) : Bool := match x with
  | .Constant c _ _ => match d, c with
    | .non, .none => true
    | .bl a, .bool b => a == b
    | .int a, .int b => decide (a = b)
    | .str a, .str b => decide (a = b)
    | _, _ => false
  | _ => false
/-- a global name -/
def chkG (cc : Cc) (f : Str) (x : PySem.Expr) : Bool := match x with
  | .Name n _ => decide (n = f) && decide (cc.sc.names.lookup n = some .globalImplicit) && !(n == ("__debug__" : Str))
  | _ => false
/-- a name to store to -/
def chkV (cc : Cc) (i : Nat) (x : PySem.Expr) : Bool := match x with
  | .Name n _ => decide (cc.N[i]? = some n) && (decide (cc.sc.names.lookup n = some .local) || (decide (cc.sc.names.lookup n = some .cell) && cc.fnc n))
  | _ => false
mutual
def chkT (cc : Cc) : T → PySem.Expr → Bool
  | .v i, x => chkV cc i x
  | .tup ts, x => match x with
    | .Tuple es _ _ => es.all noStar && decide (es.length = ts.length) && chkTs cc ts es
    | _ => false
def chkTs (cc : Cc) : List T → List PySem.Expr → Bool
  | [], [] => true
  | t :: ts, e :: es => chkT cc t e && chkTs cc ts es
  | _, _ => false
end
/-- an index that is no slice -/
def plainI : PySem.Expr → Bool
  | .Slice _ _ _ _ => false
  | _ => true
theorem plain_ix {b : PySem.Expr} (h : plainI b = true) : PlainIx b := by
  intro o i
  cases b <;> first | rfl | cases h
/-- no test of its own kind -/
def plainT : PySem.Expr → Bool
  | .UnaryOp .Not _ _ => false
  | .BoolOp _ _ _ => false
  | .IfExp _ _ _ _ => false
  | .Compare _ _ _ _ => false
  | _ => true
theorem plain_t {a : PySem.Expr} {env : PySem.Env} (h : plainT a = true) : ∀ whole, isTrue a env whole = (do let v ← whole; standAt a.pos; holding [v] (truthy v)) := by
  intro whole
  cases a <;> try rfl
  all_goals try cases h
  rename_i op _ _
  cases op <;> first | rfl | cases h
def noSet : PySem.Expr → Bool
  | .Set _ _ _ => false
  | _ => true
theorem no_set {a : PySem.Expr} {env : PySem.Env} (h : noSet a = true) : ∀ x, foldedSetIterable a env x = pure x := by
  intro x
  cases a <;> first | rfl | cases h
theorem no_mark {a : PySem.Expr} (h : noSet a = true) (op : CmpOp) : behindInMarks op a = false := by
  cases a <;> first | rfl | cases h
/-- a value that is no comprehension -/
def noComp : PySem.Expr → Bool
  | .ListComp _ _ _ _ => false
  | .SetComp _ _ _ _ => false
  | .DictComp _ _ _ _ _ => false
  | _ => true
theorem no_comp {a : PySem.Expr} (h : noComp a = true) (t : Option PySem.Expr) (l : Nat) (env : PySem.Env) : swapsWith a t l env = pure false := by
  cases a <;> first | rfl | cases h
def chkIT (it : I) (tg : PySem.Expr) : Bool := match it with
  | .zip _ _ => match tg with
    | .Tuple _ _ _ => true
    | _ => false
  | _ => true
def fillEq : List (Sum Nat D) → List (Sum Nat D) → Bool
  | [], [] => true
  | .inl i :: r, .inl j :: s => decide (i = j) && fillEq r s
  | .inr d :: r, .inr e :: s => (match d, e with
    | .non, .non => true
    | .bl a, .bl b => a == b
    | .int a, .int b => decide (a = b)
    | .str a, .str b => decide (a = b)
    | .tup [], .tup [] => true
    | _, _ => false) && fillEq r s
  | _, _ => false
theorem fill_eq : ∀ {a b : List (Sum Nat D)}, fillEq a b = true → a = b := by
  intro a
  induction a with
  | nil =>
    intro b h
    cases b with
    | nil => rfl
    | cons y s => cases h
  | cons x r ih =>
    intro b h
    cases b with
    | nil => cases x <;> cases h
    | cons y s =>
      cases x with
      | inl i =>
        cases y with
        | inl j =>
          unfold fillEq at h
          simp only [Bool.and_eq_true, decide_eq_true_eq] at h
          rw [h.1, ih h.2]
        | inr e => cases h
      | inr d =>
        cases y with
        | inl j => cases h
        | inr e =>
          unfold fillEq at h
          rw [Bool.and_eq_true] at h
          have hd : d = e := by
            have h1 := h.1
            split at h1
            · rfl
            · simpa using h1
            · simpa using h1
            · simpa using h1
            · rfl
            · cases h1
          rw [hd, ih h.2]
/-- what attributeBase leaves as it is -/
def plainA : PySem.Expr → Bool
  | .Constant _ _ _ => true
  | .Name _ _ => true
  | .Subscript _ _ _ => true
  | _ => false
theorem plain_a {x : PySem.Expr} (h : plainA x = true) (m : Str) (env : PySem.Env) (whole : Sem Value) : attributeBase x m env whole = whole := by
  cases x <;> first | rfl | cases h
/-- a dict's display, keys and values written -/
def chkD : List (Str × D) → List (Option PySem.Expr) → List PySem.Expr → Bool
  | [], [], [] => true
  | (k, d) :: r, some (.Constant (.str s) _ _) :: ks, v :: vs => decide (s = k) && chkK d v && isS d && chkD r ks vs
  | _, _, _ => false
def okD (kvs : List (Str × D)) : Bool := decide ((kvs.map (·.1)).Nodup) && decide (kvs.length ≤ 15)
/-! ### the check -/
mutual
def chkE (tb : Tb) (cc : Cc) : E → PySem.Expr → Bool
  | .k d, x => chkK d x
  | .pl p, x => chkP cc p x
  | .mv i, x => chkN cc i x
  | .gl g, x => chkG cc g x && tb.gs.contains g
  | .fn _, _ => false
  | .bin op a b, x => match x with
    | .BinOp l o r _ => decide (o = op) && chkE tb cc a l && chkE tb cc b r
    | _ => false
  | .neg a, x => match x with
    | .UnaryOp .USub y _ => chkE tb cc a y
    | _ => false
  | .tv b, x => chkBV tb cc b x
  | .and a b, x => match x with
    | .BoolOp .And (y :: z :: []) _ => chkE tb cc a y && chkE tb cc b z
    | .BoolOp .And (y :: z :: w :: r) pos => chkE tb cc a y && chkE tb cc b (.BoolOp .And (z :: w :: r) pos)
    | _ => false
  | .or a b, x => match x with
    | .BoolOp .Or (y :: z :: []) _ => chkE tb cc a y && chkE tb cc b z
    | .BoolOp .Or (y :: z :: w :: r) pos => chkE tb cc a y && chkE tb cc b (.BoolOp .Or (z :: w :: r) pos)
    | _ => false
  | .ife c a b, x => match x with
    | .IfExp t y z _ => chkB tb cc c t && chkE tb cc a y && chkE tb cc b z
    | _ => false
  | .tup es, x => match x with
    | .Tuple ys _ _ => chkEs tb cc es ys
    | _ => false
  | .lst es, x => match x with
    | .List ys _ => chkEs tb cc es ys
    | _ => false
  | .ix a i, x => match x with
    | .Subscript y z _ => plainI z && chkE tb cc a y && chkE tb cc i z
    | _ => false
  | .ixP p i, x => match x with
    | .Subscript y z _ => plainI z && chkP cc p y && chkE tb cc i z && (calmE i || p.isV)
    | _ => false
  | .lenP p, x => match x with
    | .Call f [y] [] _ => chkG cc "len" f && tb.bn.contains "len" && noStar y && chkP cc p y
    | _ => false
  | .sl a lo hi, x => match x with
    | .Subscript y (.Slice l h none _) _ => chkE tb cc a y && chkO tb cc lo l && chkO tb cc hi h
    | _ => false
  | .rev a, x => match x with
    | .Subscript y (.Slice none none (some (.UnaryOp .USub (.Constant (.int 1) _ _) _)) _) _ => chkE tb cc a y
    | _ => false
  | .call f es ks names fill, x => match x with
    | .Call g ys kws _ => chkG cc f g && chkEs tb cc es ys && chkKs tb cc ks names kws && tb.calls.any fun s => decide (s.f = f) && decide (s.np = ys.length) && decide (s.ks = names) && fillEq s.fill fill
    | _ => false
  | .bi f es, x => match x with
    | .Call g (y :: ys) [] _ => chkG cc (biName f) g && tb.bn.contains (biName f) && chkEs tb cc es (y :: ys)
    | _ => false
  | .isi a t, x => match x with
    | .Call g [y, .Name n p] [] _ => chkG cc "isinstance" g && tb.bn.contains "isinstance" && noStar y && chkE tb cc a y && chkG cc t (.Name n p) && tb.bn.contains t && isiTs.contains t
    | _ => false
  | .lc elt t it cond own, x => match x with
    | .ListComp e [⟨tg, iter, ifs, 0⟩] scope _ => noSet iter && (chkI tb cc it iter && chkIT it tg) && blkC cc.N cc.sc scope (own.map fun i => ((cc.N[i]?).getD "", i)) && (tvars t).all (own.contains ·) && chkT (cc.blk scope) t tg && chkW tb (cc.blk scope) cond ifs && chkE tb (cc.blk scope) elt e
    | _ => false
  | .pop p, x => match x with
    | .Call (.Attribute y m apos) [] [] pos => decide (m = ("pop" : Str)) && chkP cc p y && (apos.endLine == pos.line)
    | _ => false
  | .pop0 _, _ => false
  | .bm m a es, x => match m, es, x with
    | .join, .cons e .nil, .Call (.Attribute y n apos) [z] [] pos => decide (n = ("join" : Str)) && plainA y && noStar z && (apos.endLine == pos.line) && chkE tb cc a y && chkE tb cc e z
    | .upper, .nil, .Call (.Attribute y n apos) [] [] pos => decide (n = ("upper" : Str)) && plainA y && (apos.endLine == pos.line) && chkE tb cc a y
    | _, _, _ => false
  | .dsp kvs, x => match x with
    | .Dict keys values _ => chkD kvs keys values && okD kvs
    | _ => false
  | .dgetd kvs a d, x => match x with
    | .Call (.Attribute (.Dict keys values _) n apos) [z, w] [] pos => decide (n = ("get" : Str)) && chkD kvs keys values && okD kvs && !kvs.isEmpty && noStar z && noStar w && (apos.endLine == pos.line) && chkE tb cc a z && chkK d w && isS d
    | _ => false
  | .sset a, x => match x with
    | .Call f [.Call g [y] [] _] [] _ => chkG cc "sorted" f && tb.bn.contains "sorted" && chkG cc "set" g && tb.bn.contains "set" && noStar y && chkE tb cc a y
    | _ => false
  | .dget _ _, _ => false
  | .callv _ _, _ => false
  | .new _ _, _ => false
  | .meth _ _ _ _, _ => false
  | .lc2 _ _ _ _ _ _ _ _, _ => false
def chkEs (tb : Tb) (cc : Cc) : Es → List PySem.Expr → Bool
  | .nil, [] => true
  | .cons e es, y :: ys => noStar y && chkE tb cc e y && chkEs tb cc es ys
  | .lend i es, y :: ys => noStar y && chkN cc i y && chkEs tb cc es ys
  | _, _ => false
def chkKs (tb : Tb) (cc : Cc) : Es → List Str → List Keyword → Bool
  | .nil, [], [] => true
  | .cons e es, n :: ns, ⟨some m, y, _⟩ :: ys => decide (m = n) && chkE tb cc e y && chkKs tb cc es ns ys
  | _, _, _ => false
def chkO (tb : Tb) (cc : Cc) : Eo → Option PySem.Expr → Bool
  | .none, none => true
  | .some e, some x => chkE tb cc e x
  | _, _ => false
def chkW (tb : Tb) (cc : Cc) : Bo → List PySem.Expr → Bool
  | .none, [] => true
  | .some b, [x] => chkB tb cc b x
  | _, _ => false
def chkI (tb : Tb) (cc : Cc) : I → PySem.Expr → Bool
  | .seq e, x => chkE tb cc e x
  | .rng1 a, x => match x with
    | .Call f [y] [] _ => chkG cc "range" f && tb.bn.contains "range" && noStar y && chkE tb cc a y
    | _ => false
  | .rng2 a b, x => match x with
    | .Call f [y, z] [] _ => chkG cc "range" f && tb.bn.contains "range" && noStar y && noStar z && chkE tb cc a y && chkE tb cc b z
    | _ => false
  | .zip a b, x => match x with
    | .Call f [y, z] [] _ => chkG cc "zip" f && tb.bn.contains "zip" && noStar y && noStar z && chkE tb cc a y && chkE tb cc b z
    | _ => false
  | .enum _, _ => false
def chkB (tb : Tb) (cc : Cc) : B → PySem.Expr → Bool
  | .val e, x => plainT x && chkE tb cc e x
  | .not b, x => match x with
    | .UnaryOp .Not y _ => chkB tb cc b y
    | _ => false
  | .and a b, x => match x with
    | .BoolOp .And (y :: z :: []) _ => chkB tb cc a y && chkB tb cc b z
    | .BoolOp .And (y :: z :: w :: r) pos => chkB tb cc a y && chkB tb cc b (.BoolOp .And (z :: w :: r) pos)
    | _ => false
  | .or a b, x => match x with
    | .BoolOp .Or (y :: z :: []) _ => chkB tb cc a y && chkB tb cc b z
    | .BoolOp .Or (y :: z :: w :: r) pos => chkB tb cc a y && chkB tb cc b (.BoolOp .Or (z :: w :: r) pos)
    | _ => false
  | .cmp op a b, x => match x with
    | .Compare y [o] [z] _ => decide (o = op) && noSet z && chkE tb cc a y && chkE tb cc b z
    | _ => false
  | .cmpQ op a p, x => match x with
    | .Compare y [o] [z] _ => decide (o = op) && noSet z && chkE tb cc a y && chkP cc p z
    | _ => false
  | .cmpP op p b, x => match x with
    | .Compare y [o] [z] _ => decide (o = op) && noSet z && chkP cc p y && chkE tb cc b z && (calmE b || p.isV)
    | _ => false
  | .chain op op' a b c, x => match x with
    | .Compare y [o, o'] [z, w] _ => decide (o = op) && decide (o' = op') && noSet w && chkE tb cc a y && chkE tb cc b z && chkE tb cc c w
    | _ => false
/-- a test as a value -/
def chkBV (tb : Tb) (cc : Cc) : B → PySem.Expr → Bool
  | .not (.val e), x => match x with
    | .UnaryOp .Not y _ => chkE tb cc e y
    | _ => false
  | .cmp op a b, x => match x with
    | .Compare y [o] [z] _ => decide (o = op) && noSet z && chkE tb cc a y && chkE tb cc b z
    | _ => false
  | .cmpQ op a p, x => match x with
    | .Compare y [o] [z] _ => decide (o = op) && noSet z && chkE tb cc a y && chkP cc p z
    | _ => false
  | .cmpP op p b, x => match x with
    | .Compare y [o] [z] _ => decide (o = op) && noSet z && chkP cc p y && chkE tb cc b z && (calmE b || p.isV)
    | _ => false
  | .chain op op' a b c, x => match x with
    | .Compare y [o, o'] [z, w] _ => decide (o = op) && decide (o' = op') && noSet w && chkE tb cc a y && chkE tb cc b z && chkE tb cc c w
    | _ => false
  | _, _ => false
end
end Pw

/-! PN1: what is checked reads as the small language tells. -/
namespace Pw
open PySem PySem.Spec PyProof.Rows L2
section
variable {S : Stat} {Φ : Orc} {Gv : Gv} {tb : Tb} {cc : Cc} {X : Cx} {x : PySem.Expr}
theorem InX.nd (h : InX S cc X) : X.N.Nodup := h.i.nd
theorem InX.hK (h : InX S cc X) : X.K = S.G.K := h.i.K.trans h.i.GK
theorem chkN_get {i : Nat} (h : chkN cc i x = true) : ∃ n p, x = .Name n p ∧ cc.N[i]? = some n ∧ Vis cc.sc n ∧ (n == ("__debug__" : Str)) = false ∧ (n == ("__classdict__" : Str)) = false := by
  unfold chkN at h
  split at h
  · simp only [Bool.and_eq_true, decide_eq_true_eq, Bool.not_eq_true'] at h
    exact ⟨_, _, rfl, h.1.1.1, seen_vis h.1.1.2, h.1.2, h.2⟩
  · cases h
theorem okN {i : Nat} (h : chkN cc i x = true) (hX : InX S cc X) : PE X x (tVar i) := by
  obtain ⟨n, p, rfl, h1, h2, h3, h4⟩ := chkN_get h
  exact pe_var (by rw [hX.N]; exact h1) (by rw [hX.sc]; exact h2) h3 h4
theorem okP : ∀ {p : P} {x : PySem.Expr}, chkP cc p x = true → InX S cc X → PE X x (tPl S.G p)
  | .v i, x, h, hX => pl_var (okN h hX)
  | .at p k, x, h, hX => by
    unfold chkP at h
    split at h
    · rw [Bool.and_eq_true, decide_eq_true_eq] at h
      obtain ⟨rfl, h2⟩ := h
      exact pl_at (okP h2 hX) fun _ _ => rfl
    · cases h
  | .f _ _, x, h, hX => by cases h
theorem chkP_plain : ∀ {p : P} {x : PySem.Expr}, chkP cc p x = true → ∀ m env whole, attributeBase x m env whole = whole := by
  intro p x h m env whole
  cases p with
  | v i =>
    obtain ⟨n, q, rfl, _⟩ := chkN_get (show chkN cc i x = true from h)
    rfl
  | «at» p k =>
    unfold chkP at h
    split at h
    · rfl
    · cases h
  | f _ _ => cases h
theorem chkG_get {f : Str} (h : chkG cc f x = true) : ∃ p, x = .Name f p ∧ cc.sc.names.lookup f = some .globalImplicit ∧ (f == ("__debug__" : Str)) = false := by
  unfold chkG at h
  split at h
  · simp only [Bool.and_eq_true, decide_eq_true_eq, Bool.not_eq_true'] at h
    obtain ⟨⟨rfl, h2⟩, h3⟩ := h
    exact ⟨_, rfl, h2, h3⟩
  · cases h
theorem InX.gl (hX : InX S cc X) {f : Str} (h : cc.sc.names.lookup f = some .globalImplicit) : Gl X f := by
  show X.env.scope.names.lookup f = _
  rw [hX.sc]; exact h
theorem okK {d : D} (h : chkK d x = true) : PE X x (rd S.G true (rtn (.d d))) := by
  unfold chkK at h
  split at h
  · split at h
    · exact se_const pe_non fun _ => .non
    · cases (show _ = _ from by simpa using h)
      exact se_const pe_bl fun _ => .bl _
    · cases (show _ = _ from by simpa using h)
      exact se_const pe_int fun _ => .int _
    · cases (show _ = _ from by simpa using h)
      exact se_const pe_str fun _ => .str _
    · cases h
  · cases h
theorem kS_pe {d : D} (h : chkK d x = true) : PE X x (tC (vS d)) := by
  unfold chkK at h
  split at h
  · split at h
    · exact pe_non
    · cases (show _ = _ from by simpa using h)
      exact pe_bl
    · cases (show _ = _ from by simpa using h)
      exact pe_int
    · cases (show _ = _ from by simpa using h)
      exact pe_str
    · cases h
  · cases h
theorem okDs : ∀ {kvs : List (Str × D)} {keys : List (Option PySem.Expr)} {values : List PySem.Expr}, chkD kvs keys values = true → kvs.all (fun p => isS p.2) = true ∧ (∀ pos, PPs X pos keys values (trsOf kvs)) ∧ True
  | [], [], [], _ => ⟨rfl, fun _ => pps_nil, trivial⟩
  | (k, d) :: r, some (.Constant (.str s) _ _) :: ks, v :: vs, h => by
    simp only [chkD, Bool.and_eq_true, decide_eq_true_eq] at h
    obtain ⟨⟨⟨rfl, h1⟩, h2⟩, h3⟩ := h
    obtain ⟨i1, i2, _⟩ := okDs h3
    exact ⟨by rw [List.all_cons, h2, i1]; rfl, fun pos => pps_cons pe_str (kS_pe h1) (i2 pos), trivial⟩
theorem chkD_nil {keys : List (Option PySem.Expr)} {values : List PySem.Expr} (h : chkD [] keys values = true) : keys = [] ∧ values = [] := by
  cases keys with
  | nil =>
    cases values with
    | nil => exact ⟨rfl, rfl⟩
    | cons _ _ => cases h
  | cons _ _ => cases h
theorem chkD_len : ∀ {kvs : List (Str × D)} {keys : List (Option PySem.Expr)} {values : List PySem.Expr}, chkD kvs keys values = true → keys.length = values.length ∧ keys.length = kvs.length
  | [], [], [], _ => ⟨rfl, rfl⟩
  | (k, d) :: r, some (.Constant (.str s) _ _) :: ks, v :: vs, h => by
    simp only [chkD, Bool.and_eq_true] at h
    obtain ⟨i1, i2⟩ := chkD_len h.2
    exact ⟨congrArg (· + 1) i1, congrArg (· + 1) i2⟩
theorem chkD_some : ∀ {kvs : List (Str × D)} {keys : List (Option PySem.Expr)} {values : List PySem.Expr}, chkD kvs keys values = true → keys.all (·.isSome) = true
  | [], [], [], _ => rfl
  | (k, d) :: r, some (.Constant (.str s) _ _) :: ks, v :: vs, h => by
    simp only [chkD, Bool.and_eq_true] at h
    rw [List.all_cons, chkD_some h.2]; rfl
theorem okD_nd {kvs : List (Str × D)} (h : okD kvs = true) : (kvs.map (·.1)).Nodup ∧ kvs.length ≤ 15 := by
  unfold okD at h
  simpa using h
theorem okV {i : Nat} (h : chkV cc i x = true) (hX : InX S cc X) : PG X x (gName i) ∧ ∃ n p, x = .Name n p ∧ X.N[i]? = some n ∧ Loc X.env.scope n ∧ (X.fn n = true ∨ X.env.scope.names.lookup n = some .local) := by
  unfold chkV at h
  split at h
  · rename_i n p
    rw [Bool.and_eq_true, Bool.or_eq_true, Bool.and_eq_true, decide_eq_true_eq, decide_eq_true_eq, decide_eq_true_eq] at h
    obtain ⟨h1, h2⟩ := h
    have e1 : X.N[i]? = some n := by rw [hX.N]; exact h1
    have e2 : Loc X.env.scope n := by
      rw [hX.sc]
      exact h2.imp_right fun q => q.1
    have e3 : X.fn n = true ∨ X.env.scope.names.lookup n = some .local := by
      rw [hX.sc]
      rcases h2 with z | z
      · exact .inr z
      · exact .inl (hX.fn n z.2)
    exact ⟨pg_name hX.nd e1 e2 e3, n, p, rfl, e1, e2, e3⟩
  · cases h
mutual
theorem okT (hX : InX S cc X) : ∀ (t : T) (x : PySem.Expr), chkT cc t x = true → PG X x (rdG S.G t)
  | .v i, x, h => sg_v (okV (by simpa only [chkT] using h) hX).1
  | .tup ts, x, h => by
    simp only [chkT] at h
    split at h
    · rename_i es k p
      simp only [Bool.and_eq_true, decide_eq_true_eq] at h
      obtain ⟨a1, a2⟩ := asg_all (env := X.env) h.1.1
      exact sg_tup hX.hK hX.i.calm (okTs hX ts es h.1.1 h.2) (a1.trans h.1.2) a2
    · cases h
theorem okTs (hX : InX S cc X) : ∀ (ts : List T) (es : List PySem.Expr), es.all noStar = true → chkTs cc ts es = true → PGs X es (rdGs S.G ts)
  | [], [], _, _ => sgs_nil
  | [], _ :: _, _, h => by simp only [chkTs] at h; cases h
  | _ :: _, [], _, h => by simp only [chkTs] at h; cases h
  | t :: ts, e :: es, hs, h => by
    simp only [chkTs, Bool.and_eq_true] at h
    rw [List.all_cons, Bool.and_eq_true] at hs
    exact sgs_cons (okT hX t e h.1) (okTs hX ts es hs.2 h.2) (by rw [asg_cons hs.1]; rfl)
end
theorem cmp_rule (TB : TbOk S Φ Gv tb) (hX : InX S cc X) (op : CmpOp) : ∃ r : R2, OpR X (compareOp op) r ∧ CmG S.G r (cmpD op) := cm_rule hX.hK (by rw [hX.i.A]; exact TB.hu) op
theorem PTs.imp {ifs : List PySem.Expr} {t t' : TT} (h : PTs X ifs t) (k : ∀ σ H Q, t' σ H Q → t σ H Q) : PTs X ifs t' := ⟨fun pins s σ H Q I q => h.run pins s σ H Q I (k σ H Q q)⟩
theorem pts_yes {G : Wd} : PTs X [] (rdT G true (rtn true)) := PTs.imp pts_nil fun σ H Q h => by
  obtain ⟨F, ρ, U, b, ρ', g, e, k⟩ := h
  cases e
  exact k F H U g (Ext.refl F H U) fun _ => Sub.refl H
theorem bool_pw {op : BoolOp} {es : List PySem.Expr} {pos : Pos} {t : TT} (h : PT X (.BoolOp op es pos) t) : PW X (.BoolOp op es pos) t := ⟨fun _ pins s σ H Q I q => h.run pins s σ H Q I q⟩
theorem chkEs_len (tb : Tb) : ∀ (es : Es) (xs : List PySem.Expr), chkEs tb cc es xs = true → xs.all noStar = true ∧ ∀ ρ as ρ', evs Φ Gv es ρ = some (as, ρ') → as.length = xs.length
  | .nil, [], _ => ⟨rfl, fun ρ as ρ' e => by simp only [evs, rtn] at e; cases e; rfl⟩
  | .nil, _ :: _, h => by simp only [chkEs] at h; cases h
  | .cons _ _, [], h => by simp only [chkEs] at h; cases h
  | .lend _ _, [], h => by simp only [chkEs] at h; cases h
  | .cons a es, y :: ys, h => by
    simp only [chkEs, Bool.and_eq_true] at h
    obtain ⟨i1, i2⟩ := chkEs_len tb es ys h.2
    refine ⟨by rw [List.all_cons, h.1.1, i1]; rfl, fun ρ as ρ' e => ?_⟩
    simp only [evs] at e
    obtain ⟨o, ρ1, _, e⟩ := bnd_some e
    obtain ⟨r, ρ2, e2, e⟩ := bnd_some e
    cases e
    exact congrArg (· + 1) (i2 _ _ _ e2)
  | .lend i es, y :: ys, h => by
    simp only [chkEs, Bool.and_eq_true] at h
    obtain ⟨i1, i2⟩ := chkEs_len tb es ys h.2
    refine ⟨by rw [List.all_cons, h.1.1, i1]; rfl, fun ρ as ρ' e => ?_⟩
    simp only [evs] at e
    split at e
    · obtain ⟨r, ρ2, e2, e⟩ := bnd_some e
      cases e
      exact congrArg (· + 1) (i2 _ _ _ e2)
    · cases e
theorem chkKs_len (tb : Tb) : ∀ (es : Es) (ns : List Str) (ks : List Keyword), chkKs tb cc es ns ks = true → (∀ pos, (backToKw pos (keywordEach ks X.env)).filterMap (·.1) = ns) ∧ ks.length = ns.length ∧ (∀ pos, (backToKw pos (keywordEach ks X.env)).all (·.1.isSome) = true) ∧
    (∀ pos, (backToKw pos (keywordEach ks X.env)).any (·.1.isNone) = false) ∧ ∀ ρ as ρ', evs Φ Gv es ρ = some (as, ρ') → as.length = ns.length
  | .nil, [], [], _ => ⟨fun _ => rfl, rfl, fun _ => rfl, fun _ => rfl, fun ρ as ρ' e => by simp only [evs, rtn] at e; cases e; rfl⟩
  | .nil, _ :: _, _, h => by simp only [chkKs] at h; cases h
  | .nil, [], _ :: _, h => by simp only [chkKs] at h; cases h
  | .cons _ _, [], _, h => by simp only [chkKs] at h; cases h
  | .cons _ _, _ :: _, [], h => by simp only [chkKs] at h; cases h
  | .cons _ _, _ :: _, ⟨none, _, _⟩ :: _, h => by simp only [chkKs] at h; cases h
  | .lend _ _, _, _, h => by simp only [chkKs] at h; cases h
  | .cons a es, n :: ns, ⟨some m, y, kp⟩ :: ks, h => by
    simp only [chkKs, Bool.and_eq_true, decide_eq_true_eq] at h
    obtain ⟨⟨rfl, h1⟩, h2⟩ := h
    obtain ⟨i1, i2, i3, i4, i5⟩ := chkKs_len tb es ns ks h2
    refine ⟨fun pos => congrArg (m :: ·) (i1 pos), congrArg (· + 1) i2, fun pos => i3 pos, fun pos => i4 pos, fun ρ as ρ' e => ?_⟩
    simp only [evs] at e
    obtain ⟨o, ρ1, _, e⟩ := bnd_some e
    obtain ⟨r, ρ2, e2, e⟩ := bnd_some e
    cases e
    exact congrArg (· + 1) (i5 _ _ _ e2)
theorem ty_pe {t : String} (h : isiTs.contains t = true) (hg : Gl X t) (hm : X.mg t = none) {p : Pos} : PE X (.Name t p) (tC (.ty t)) := by
  have : t = "bool" ∨ t = "int" ∨ t = "str" ∨ t = "tuple" ∨ t = "list" := by simpa [isiTs] using h
  rcases this with rfl | rfl | rfl | rfl | rfl <;> exact pe_bltn hg hm (by decide +kernel) rfl (by decide +kernel) (by decide +kernel)
set_option maxHeartbeats 2000000 in
mutual
theorem okE (TB : TbOk S Φ Gv tb) : ∀ (e : E) (cc : Cc) (X : Cx) (x : PySem.Expr), chkE tb cc e x = true → InX S cc X → PE X x (rd S.G (calmE e) (ev Φ Gv e))
  | .k d, cc, X, x, h, hX => by
    simp only [chkE] at h
    simp only [ev, calmE]
    exact okK h
  | .pl p, cc, X, x, h, hX => by
    simp only [chkE] at h
    simp only [ev, calmE]
    exact se_pl (okP h hX)
  | .mv i, cc, X, x, h, hX => by
    simp only [chkE] at h
    simp only [ev, calmE]
    exact se_mv (okN h hX)
  | .gl g, cc, X, x, h, hX => by
    simp only [chkE, Bool.and_eq_true] at h
    simp only [ev, calmE]
    obtain ⟨p, rfl, h1, h2⟩ := chkG_get h.1
    obtain ⟨d, v, u, e1, e2, e3, e4⟩ := TB.gl g (by simpa using h.2)
    rw [e1]
    exact se_const (pe_glob (hX.gl h1) (by rw [hX.i.mg]; exact e2) e3 h2) e4
  | .fn _, cc, X, x, h, hX => by
    simp only [chkE] at h
    cases h
  | .bin op a b, cc, X, x, h, hX => by
    simp only [chkE] at h
    split at h
    · simp only [Bool.and_eq_true, decide_eq_true_eq] at h
      obtain ⟨⟨rfl, h1⟩, h2⟩ := h
      simp only [ev, calmE]
      exact se_op hX.hK _ (okE TB a cc X _ h1 hX) (okE TB b cc X _ h2 hX)
    · cases h
  | .neg a, cc, X, x, h, hX => by
    simp only [chkE] at h
    split at h
    · simp only [ev, calmE]
      exact se_neg (okE TB a cc X _ h hX)
    · cases h
  | .tv b, cc, X, x, h, hX => by
    simp only [chkE] at h
    simp only [ev, calmE]
    exact okBV TB b cc X x h hX
  | .and a b, cc, X, x, h, hX => by
    simp only [chkE] at h
    split at h
    · rw [Bool.and_eq_true] at h
      simp only [ev, calmE]
      exact se_and hX.hK (okE TB a cc X _ h.1 hX) (se_one (okE TB b cc X _ h.2 hX))
    · rw [Bool.and_eq_true] at h
      simp only [ev, calmE]
      exact se_and hX.hK (okE TB a cc X _ h.1 hX) (okE TB b cc X _ h.2 hX)
    · cases h
  | .or a b, cc, X, x, h, hX => by
    simp only [chkE] at h
    split at h
    · rw [Bool.and_eq_true] at h
      simp only [ev, calmE]
      exact se_or hX.hK (okE TB a cc X _ h.1 hX) (se_one (okE TB b cc X _ h.2 hX))
    · rw [Bool.and_eq_true] at h
      simp only [ev, calmE]
      exact se_or hX.hK (okE TB a cc X _ h.1 hX) (okE TB b cc X _ h.2 hX)
    · cases h
  | .ife c a b, cc, X, x, h, hX => by
    simp only [chkE] at h
    split at h
    · simp only [Bool.and_eq_true] at h
      simp only [ev, calmE]
      exact se_ife (okB TB c cc X _ h.1.1 hX) (okE TB a cc X _ h.1.2 hX) (okE TB b cc X _ h.2 hX)
    · cases h
  | .tup es, cc, X, x, h, hX => by
    simp only [chkE] at h
    split at h
    · simp only [ev, calmE]
      exact se_tup (okEs TB es cc X _ h hX)
    · cases h
  | .lst es, cc, X, x, h, hX => by
    simp only [chkE] at h
    split at h
    · simp only [ev, calmE]
      exact se_lst (okEs TB es cc X _ h hX)
    · cases h
  | .ix a i, cc, X, x, h, hX => by
    simp only [chkE] at h
    split at h
    · simp only [Bool.and_eq_true] at h
      simp only [ev, calmE]
      exact se_ix hX.hK (okE TB a cc X _ h.1.2 hX) (okE TB i cc X _ h.2 hX) (plain_ix h.1.1)
    · cases h
  | .ixP p i, cc, X, x, h, hX => by
    simp only [chkE] at h
    split at h
    · simp only [Bool.and_eq_true, Bool.or_eq_true] at h
      simp only [ev, calmE]
      exact se_ixP hX.hK h.2 (okP h.1.1.2 hX) (okE TB i cc X _ h.1.2 hX) (plain_ix h.1.1.1)
    · cases h
  | .lenP p, cc, X, x, h, hX => by
    simp only [chkE] at h
    split at h
    · simp only [Bool.and_eq_true] at h
      obtain ⟨q, rfl, h1, h2⟩ := chkG_get h.1.1.1
      simp only [ev, calmE]
      exact se_lenP hX.hK (okP h.2 hX) (hX.gl h1) (by rw [hX.i.mg]; exact TB.bn _ (by simpa using h.1.1.2)) (star_cons h.1.2) rfl
    · cases h
  | .sl a lo hi, cc, X, x, h, hX => by
    simp only [chkE] at h
    split at h
    · simp only [Bool.and_eq_true] at h
      simp only [ev, calmE]
      exact se_sl hX.hK (okE TB a cc X _ h.1.1 hX) (okO TB lo cc X _ h.1.2 hX) (okO TB hi cc X _ h.2 hX)
    · cases h
  | .rev a, cc, X, x, h, hX => by
    simp only [chkE] at h
    split at h
    · simp only [ev, calmE]
      exact se_rev hX.hK (okE TB a cc X _ h hX)
    · cases h
  | .call f es ks names fill, cc, X, x, h, hX => by
    simp only [chkE] at h
    split at h
    · rename_i g ys kws pos
      simp only [Bool.and_eq_true, List.any_eq_true, decide_eq_true_eq] at h
      obtain ⟨⟨⟨hg, h1⟩, h2⟩, ⟨sh, hm, ⟨⟨e1, e2⟩, e3⟩, e4⟩⟩ := h
      obtain ⟨q, rfl, g1, g2⟩ := chkG_get hg
      have hc := TB.calls sh hm
      rw [e1, e2, e3, fill_eq e4] at hc
      obtain ⟨a1, a2⟩ := chkEs_len (Φ := Φ) (Gv := Gv) tb es ys h1
      obtain ⟨b1, b2, b3, b4, b5⟩ := chkKs_len (Φ := Φ) (Gv := Gv) (X := X) tb ks names kws h2
      simp only [ev, calmE]
      refine se_call hX.i hc (hX.gl g1) (okEs TB es cc X _ h1 hX) (okKs TB ks cc X _ _ h2 hX) rfl (b1 _) b2 (b3 _) g2 (fun a r e => ?_) ?_ (fun e => ?_) a2 b5
      · subst e
        rw [List.all_cons, Bool.and_eq_true] at a1
        exact star_cons a1.1
      · rw [star_all a1, b4]; rfl
      · subst e
        cases es with
        | nil => simp only [evs]
        | cons _ _ => simp only [chkEs] at h1; cases h1
        | lend _ _ => simp only [chkEs] at h1; cases h1
    · cases h
  | .bi f es, cc, X, x, h, hX => by
    simp only [chkE] at h
    split at h
    · simp only [Bool.and_eq_true] at h
      obtain ⟨q, rfl, g1, g2⟩ := chkG_get h.1.1
      obtain ⟨a1, a2⟩ := chkEs_len (Φ := Φ) (Gv := Gv) tb es _ h.2
      rw [List.all_cons, Bool.and_eq_true] at a1
      simp only [ev, calmE]
      exact se_bi hX.hK hX.i.calm (by rw [hX.i.A]; exact hX.i.gd) (by rw [hX.i.A]; exact TB.hu) f (okEs TB es cc X _ h.2 hX) (hX.gl g1) (by rw [hX.i.mg]; exact TB.bn _ (by simpa using h.1.2)) (star_cons a1.1) (star_all a1.2)
    · cases h
  | .isi a t, cc, X, x, h, hX => by
    simp only [chkE] at h
    split at h
    · simp only [Bool.and_eq_true] at h
      obtain ⟨⟨⟨⟨⟨⟨h1, h2⟩, h3⟩, h4⟩, h5⟩, h6⟩, h7⟩ := h
      obtain ⟨q, rfl, g1, g2⟩ := chkG_get h1
      obtain ⟨q2, e, g3, g4⟩ := chkG_get h5
      cases e
      simp only [ev, calmE]
      exact se_isi hX.hK (ty_pe h7 (hX.gl g3) (by rw [hX.i.mg]; exact TB.bn _ (by simpa using h6))) (okE TB a cc X _ h4 hX) (hX.gl g1) (by rw [hX.i.mg]; exact TB.bn _ (by simpa using h2)) fun b => star_cons h3
    · cases h
  | .lc elt t it cond own, cc, X, x, h, hX => by
    simp only [chkE] at h
    split at h
    · rename_i e tg iter ifs scope pos
      simp only [Bool.and_eq_true] at h
      obtain ⟨⟨⟨⟨⟨⟨h1, h2⟩, h3⟩, h4⟩, h5⟩, h6⟩, h7⟩ := h
      have ok := blkOk_by h3
      have hm : (own.map fun i => (((cc.N[i]?).getD "", i) : Str × Nat)).map (·.2) = own := by rw [List.map_map]; exact List.map_id own
      have main := se_lc (pos := pos) (own := own.map fun i => ((cc.N[i]?).getD "", i)) (by rw [hm]; exact h4) hX.i.calm hX.nd (okI TB it cc X iter h2.1 hX h2.2) (by rw [hX.N, hX.sc]; exact ok)
        (fun s H C cl fp => okT (hX.blk ok.kind s H C cl fp) t tg h5) (fun s H C cl fp => okW TB cond (cc.blk scope) _ ifs h6 (hX.blk ok.kind s H C cl fp)) (fun s H C cl fp => okE TB elt (cc.blk scope) _ e h7 (hX.blk ok.kind s H C cl fp)) (no_set h1)
      rw [hm] at main
      simp only [ev, calmE]
      exact main
    · cases h
  | .pop p, cc, X, x, h, hX => by
    simp only [chkE] at h
    split at h
    · simp only [Bool.and_eq_true, decide_eq_true_eq] at h
      obtain ⟨⟨rfl, h1⟩, h2⟩ := h
      simp only [ev, calmE]
      exact se_pop (okP h1 hX) (chkP_plain h1 _ _ _) h2
    · cases h
  | .pop0 _, cc, X, x, h, hX => by
    simp only [chkE] at h
    cases h
  | .bm m a es, cc, X, x, h, hX => by
    unfold chkE at h
    split at h
    · simp only [Bool.and_eq_true, decide_eq_true_eq] at h
      obtain ⟨⟨⟨⟨⟨rfl, h1⟩, h2⟩, h3⟩, h4⟩, h5⟩ := h
      have main := se_join hX.hK (okE TB _ cc X _ h4 hX) (okE TB _ cc X _ h5 hX) (star_cons h2) (plain_a h1 _ _ _) h3
      simp only [calmE, calmEs, Bool.and_true, ev]
      refine PE.imp main fun σ H Q q => ?_
      obtain ⟨F, ρ, U, o, ρ', g, e, k⟩ := q
      refine ⟨F, ρ, U, o, ρ', g, ?_, k⟩
      obtain ⟨x, ρ1, e1, e8⟩ := bnd_some e
      obtain ⟨as, ρ2, e2, e9⟩ := bnd_some e8
      simp only [evs] at e2
      obtain ⟨u, ρ3, e3, e5⟩ := bnd_some e2
      obtain ⟨r, ρ4, e4, e6⟩ := bnd_some e5
      cases e4
      cases e6
      unfold joinM bnd fzM
      unfold fzM at e1
      cases z : ev Φ Gv _ ρ with
      | none => rw [z] at e1; cases e1
      | some pr =>
        rw [z] at e1
        cases e1
        simp only
        rw [e3]
        exact e9
    · simp only [Bool.and_eq_true, decide_eq_true_eq] at h
      obtain ⟨⟨⟨rfl, h1⟩, h3⟩, h4⟩ := h
      have main := se_upper (okE TB _ cc X _ h4 hX) (plain_a h1 _ _ _) h3
      simp only [calmE, calmEs, Bool.and_true, ev]
      refine PE.imp main fun σ H Q q => ?_
      obtain ⟨F, ρ, U, o, ρ', g, e, k⟩ := q
      refine ⟨F, ρ, U, o, ρ', g, ?_, k⟩
      obtain ⟨x, ρ1, e1, e⟩ := bnd_some e
      unfold upM bnd
      rw [e1]
      exact e
    · cases h
  | .dsp kvs, cc, X, x, h, hX => by
    simp only [chkE] at h
    split at h
    · rw [Bool.and_eq_true] at h
      obtain ⟨h1, h2, h3⟩ := okDs h.1
      simp only [ev, calmE]
      refine se_dsp ?_ h1 (okD_nd h.2).1 (okD_nd h.2).2
      cases kvs with
      | nil =>
        obtain ⟨rfl, rfl⟩ := chkD_nil h.1
        exact .inr ⟨rfl, pe_dnewK⟩
      | cons p kvs =>
        refine .inl (pe_disp (h2 _) (chkD_some h.1) (chkD_len h.1).1 (fun e => ?_) ?_)
        · have := (chkD_len h.1).2
          rw [e] at this
          cases this
        · rw [(chkD_len h.1).2]; exact (okD_nd h.2).2
    · cases h
  | .dgetd kvs a d, cc, X, x, h, hX => by
    simp only [chkE] at h
    split at h
    · simp only [Bool.and_eq_true, decide_eq_true_eq] at h
      obtain ⟨⟨⟨⟨⟨⟨⟨⟨⟨rfl, a1⟩, a2⟩, a3⟩, a4⟩, a5⟩, a6⟩, a7⟩, a8⟩, a9⟩ := h
      obtain ⟨h1, h2, h3⟩ := okDs a1
      simp only [ev, calmE]
      refine se_dgetd (by rw [hX.i.A]; have := TB.hu; omega) (pe_disp (h2 _) (chkD_some a1) (chkD_len a1).1 (fun e => ?_) ?_) h1 (okD_nd a2).1 (okD_nd a2).2 (okE TB a cc X _ a7 hX) (kS_pe a8) a9 ⟨rfl, ?_, a6, ?_⟩
      · have := (chkD_len a1).2
        rw [e] at this
        cases kvs with
        | nil => cases a3
        | cons _ _ => cases this
      · rw [(chkD_len a1).2]; exact (okD_nd a2).2
      · rw [star_cons a4, star_cons a5]; rfl
      · rw [star_cons a4, star_cons a5]; rfl
    · cases h
  | .dget _ _, cc, X, x, h, hX => by
    simp only [chkE] at h
    cases h
  | .callv _ _, cc, X, x, h, hX => by
    simp only [chkE] at h
    cases h
  | .new _ _, cc, X, x, h, hX => by
    simp only [chkE] at h
    cases h
  | .meth _ _ _ _, cc, X, x, h, hX => by
    simp only [chkE] at h
    cases h
  | .lc2 _ _ _ _ _ _ _ _, cc, X, x, h, hX => by
    simp only [chkE] at h
    cases h
  | .sset a, cc, X, x, h, hX => by
    simp only [chkE] at h
    split at h
    · simp only [Bool.and_eq_true] at h
      obtain ⟨⟨⟨⟨⟨h1, h2⟩, h3⟩, h4⟩, h5⟩, h6⟩ := h
      obtain ⟨q, rfl, g1, g2⟩ := chkG_get h1
      obtain ⟨q', rfl, g3, g4⟩ := chkG_get h3
      simp only [ev, calmE]
      exact se_sset hX.hK hX.i.calm (by rw [hX.i.A]; have := TB.hu; omega) (okE TB a cc X _ h6 hX) (hX.gl g1) (by rw [hX.i.mg]; exact TB.bn _ (by simpa using h2)) (hX.gl g3) (by rw [hX.i.mg]; exact TB.bn _ (by simpa using h4)) (star_cons h5)
    · cases h
theorem okEs (TB : TbOk S Φ Gv tb) : ∀ (e : Es) (cc : Cc) (X : Cx) (x : List PySem.Expr), chkEs tb cc e x = true → InX S cc X → PA X x (rdA S.G (calmEs e) (evs Φ Gv e))
  | .nil, cc, X, [], h, hX => by
    simp only [evs, calmEs]
    exact sa_nil
  | .nil, cc, X, _ :: _, h, hX => by simp only [chkEs] at h; cases h
  | .cons _ _, cc, X, [], h, hX => by simp only [chkEs] at h; cases h
  | .lend _ _, cc, X, [], h, hX => by simp only [chkEs] at h; cases h
  | .cons a es, cc, X, y :: ys, h, hX => by
    simp only [chkEs, Bool.and_eq_true] at h
    simp only [evs, calmEs]
    exact sa_cons (okE TB a cc X y h.1.2 hX) (okEs TB es cc X ys h.2 hX) (star_cons h.1.1)
  | .lend i es, cc, X, y :: ys, h, hX => by
    simp only [chkEs, Bool.and_eq_true] at h
    simp only [evs, calmEs]
    exact sa_lend (okN h.1.2 hX) (okEs TB es cc X ys h.2 hX) (star_cons h.1.1)
theorem okKs (TB : TbOk S Φ Gv tb) : ∀ (e : Es) (cc : Cc) (X : Cx) (ns : List Str) (x : List Keyword), chkKs tb cc e ns x = true → InX S cc X → PK X x (rdA S.G (calmEs e) (evs Φ Gv e))
  | .nil, cc, X, [], [], h, hX => by
    simp only [evs, calmEs]
    exact sk_nil
  | .nil, cc, X, _ :: _, _, h, hX => by simp only [chkKs] at h; cases h
  | .nil, cc, X, [], _ :: _, h, hX => by simp only [chkKs] at h; cases h
  | .cons _ _, cc, X, [], _, h, hX => by simp only [chkKs] at h; cases h
  | .cons _ _, cc, X, _ :: _, [], h, hX => by simp only [chkKs] at h; cases h
  | .cons _ _, cc, X, _ :: _, ⟨none, _, _⟩ :: _, h, hX => by simp only [chkKs] at h; cases h
  | .lend _ _, cc, X, _, _, h, hX => by simp only [chkKs] at h; cases h
  | .cons a es, cc, X, n :: ns, ⟨some m, y, kp⟩ :: ks, h, hX => by
    simp only [chkKs, Bool.and_eq_true, decide_eq_true_eq] at h
    simp only [evs, calmEs]
    exact sk_cons (okE TB a cc X y h.1.2 hX) (okKs TB es cc X ns ks h.2 hX)
theorem okO (TB : TbOk S Φ Gv tb) : ∀ (e : Eo) (cc : Cc) (X : Cx) (x : Option PySem.Expr), chkO tb cc e x = true → InX S cc X → PO X x (rdO S.G (calmO e) (evo Φ Gv e))
  | .none, cc, X, none, h, hX => by
    simp only [evo, calmO]
    exact so_none
  | .none, cc, X, some _, h, hX => by simp only [chkO] at h; cases h
  | .some _, cc, X, none, h, hX => by simp only [chkO] at h; cases h
  | .some e, cc, X, some x, h, hX => by
    simp only [chkO] at h
    simp only [evo, calmO]
    exact so_some (okE TB e cc X x h hX)
theorem okW (TB : TbOk S Φ Gv tb) : ∀ (e : Bo) (cc : Cc) (X : Cx) (x : List PySem.Expr), chkW tb cc e x = true → InX S cc X → PTs X x (rdT S.G (calmW e) (evW Φ Gv e))
  | .none, cc, X, [], h, hX => by
    simp only [evW, calmW]
    exact pts_yes
  | .none, cc, X, _ :: _, h, hX => by simp only [chkW] at h; cases h
  | .some _, cc, X, [], h, hX => by simp only [chkW] at h; cases h
  | .some _, cc, X, _ :: _ :: _, h, hX => by simp only [chkW] at h; cases h
  | .some b, cc, X, [x], h, hX => by
    simp only [chkW] at h
    simp only [evW, calmW]
    exact pts_one (okB TB b cc X x h hX)
theorem okI (TB : TbOk S Φ Gv tb) : ∀ (e : I) (cc : Cc) (X : Cx) (x : PySem.Expr), chkI tb cc e x = true → InX S cc X → ∀ {tg : PySem.Expr}, chkIT e tg = true → PI X tg x (rdI S.G (calmI e) (evI Φ Gv e))
  | .seq e, cc, X, x, h, hX, tg, ht => by
    simp only [chkI] at h
    simp only [evI, calmI]
    exact si_seq hX.hK (okE TB e cc X x h hX)
  | .rng1 a, cc, X, x, h, hX, tg, ht => by
    simp only [chkI] at h
    split at h
    · simp only [Bool.and_eq_true] at h
      obtain ⟨q, rfl, g1, g2⟩ := chkG_get h.1.1.1
      simp only [evI, calmI]
      exact si_rng1 (hX.gl g1) (by rw [hX.i.mg]; exact TB.bn _ (by simpa using h.1.1.2)) (okE TB a cc X _ h.2 hX) (star_cons h.1.2)
    · cases h
  | .zip a b, cc, X, x, h, hX, tg, ht => by
    simp only [chkI] at h
    split at h
    · simp only [Bool.and_eq_true] at h
      obtain ⟨⟨⟨⟨⟨h1, h2⟩, h3⟩, h4⟩, h5⟩, h6⟩ := h
      obtain ⟨q, rfl, g1, g2⟩ := chkG_get h1
      simp only [evI, calmI]
      simp only [chkIT] at ht
      split at ht
      · exact si_zip hX.hK (hX.gl g1) (by rw [hX.i.mg]; exact TB.bn _ (by simpa using h2)) (okE TB a cc X _ h5 hX) (okE TB b cc X _ h6 hX) (star_cons h3) (star_cons h4)
      · cases ht
    · cases h
  | .enum _, cc, X, x, h, hX, tg, ht => by
    simp only [chkI] at h
    cases h
  | .rng2 a b, cc, X, x, h, hX, tg, ht => by
    simp only [chkI] at h
    split at h
    · simp only [Bool.and_eq_true] at h
      obtain ⟨⟨⟨⟨⟨h1, h2⟩, h3⟩, h4⟩, h5⟩, h6⟩ := h
      obtain ⟨q, rfl, g1, g2⟩ := chkG_get h1
      simp only [evI, calmI]
      exact si_rng2 (hX.gl g1) (by rw [hX.i.mg]; exact TB.bn _ (by simpa using h2)) (okE TB a cc X _ h5 hX) (okE TB b cc X _ h6 hX) (by rw [star_cons h3, star_cons h4]; rfl) (star_cons h4)
    · cases h
theorem okB (TB : TbOk S Φ Gv tb) : ∀ (e : B) (cc : Cc) (X : Cx) (x : PySem.Expr), chkB tb cc e x = true → InX S cc X → PT X x (rdT S.G (calmB e) (evB Φ Gv e))
  | .val e, cc, X, x, h, hX => by
    simp only [chkB, Bool.and_eq_true] at h
    simp only [evB, calmB]
    exact st_val hX.hK (okE TB e cc X x h.2 hX) (plain_t h.1)
  | .not b, cc, X, x, h, hX => by
    simp only [chkB] at h
    split at h
    · simp only [evB, calmB]
      exact st_not (okB TB b cc X _ h hX)
    · cases h
  | .and a b, cc, X, x, h, hX => by
    simp only [chkB] at h
    split at h
    · rw [Bool.and_eq_true] at h
      simp only [evB, calmB]
      exact (sw_and (okB TB a cc X _ h.1 hX) (sw_one (okB TB b cc X _ h.2 hX))).pt
    · rw [Bool.and_eq_true] at h
      simp only [evB, calmB]
      exact (sw_and (okB TB a cc X _ h.1 hX) (bool_pw (okB TB b cc X _ h.2 hX))).pt
    · cases h
  | .or a b, cc, X, x, h, hX => by
    simp only [chkB] at h
    split at h
    · rw [Bool.and_eq_true] at h
      simp only [evB, calmB]
      exact (sw_or (okB TB a cc X _ h.1 hX) (sw_one (okB TB b cc X _ h.2 hX))).pt
    · rw [Bool.and_eq_true] at h
      simp only [evB, calmB]
      exact (sw_or (okB TB a cc X _ h.1 hX) (bool_pw (okB TB b cc X _ h.2 hX))).pt
    · cases h
  | .cmp op a b, cc, X, x, h, hX => by
    simp only [chkB] at h
    split at h
    · simp only [Bool.and_eq_true, decide_eq_true_eq] at h
      obtain ⟨⟨⟨rfl, h1⟩, h2⟩, h3⟩ := h
      obtain ⟨r, r1, r2⟩ := cmp_rule TB hX _
      simp only [evB, calmB]
      exact st_cmp r1 r2 (okE TB a cc X _ h2 hX) (okE TB b cc X _ h3 hX) (no_mark h1 _)
    · cases h
  | .cmpQ op a p, cc, X, x, h, hX => by
    simp only [chkB] at h
    split at h
    · simp only [Bool.and_eq_true, decide_eq_true_eq] at h
      obtain ⟨⟨⟨rfl, h1⟩, h2⟩, h3⟩ := h
      obtain ⟨r, r1, r2⟩ := cmp_rule TB hX _
      simp only [evB, calmB]
      exact st_cmpQ r1 r2 (okE TB a cc X _ h2 hX) (okP h3 hX) (no_mark h1 _)
    · cases h
  | .cmpP op p b, cc, X, x, h, hX => by
    simp only [chkB] at h
    split at h
    · simp only [Bool.and_eq_true, Bool.or_eq_true, decide_eq_true_eq] at h
      obtain ⟨⟨⟨⟨rfl, h1⟩, h2⟩, h3⟩, h4⟩ := h
      obtain ⟨r, r1, r2⟩ := cmp_rule TB hX _
      simp only [evB, calmB]
      exact st_cmpP r1 r2 h4 (okP h2 hX) (okE TB b cc X _ h3 hX) (no_mark h1 _)
    · cases h
  | .chain op op' a b c, cc, X, x, h, hX => by
    simp only [chkB] at h
    split at h
    · simp only [Bool.and_eq_true, decide_eq_true_eq] at h
      obtain ⟨⟨⟨⟨⟨rfl, rfl⟩, h1⟩, h2⟩, h3⟩, h4⟩ := h
      obtain ⟨r, r1, r2⟩ := cmp_rule TB hX _
      obtain ⟨r', r3, r4⟩ := cmp_rule TB hX _
      simp only [evB, calmB]
      exact st_chain r1 r2 r3 r4 (okE TB a cc X _ h2 hX) (okE TB b cc X _ h3 hX) (okE TB c cc X _ h4 hX) (no_mark h1 _)
    · cases h
theorem okBV (TB : TbOk S Φ Gv tb) : ∀ (e : B) (cc : Cc) (X : Cx) (x : PySem.Expr), chkBV tb cc e x = true → InX S cc X → PE X x (rd S.G (calmB e) (bnd (evB Φ Gv e) fun r => rtn (.d (.bl r))))
  | .not (.val e), cc, X, x, h, hX => by
    simp only [chkBV] at h
    split at h
    · simp only [evB, calmB]
      exact se_not hX.hK (okE TB e cc X _ h hX)
    · cases h
  | .cmp op a b, cc, X, x, h, hX => by
    simp only [chkBV] at h
    split at h
    · simp only [Bool.and_eq_true, decide_eq_true_eq] at h
      obtain ⟨⟨⟨rfl, h1⟩, h2⟩, h3⟩ := h
      obtain ⟨r, r1, r2⟩ := cmp_rule TB hX _
      simp only [evB, calmB]
      exact se_cmp r1 r2 (okE TB a cc X _ h2 hX) (okE TB b cc X _ h3 hX) (no_mark h1 _)
    · cases h
  | .cmpQ op a p, cc, X, x, h, hX => by
    simp only [chkBV] at h
    split at h
    · simp only [Bool.and_eq_true, decide_eq_true_eq] at h
      obtain ⟨⟨⟨rfl, h1⟩, h2⟩, h3⟩ := h
      obtain ⟨r, r1, r2⟩ := cmp_rule TB hX _
      simp only [evB, calmB]
      exact se_cmpQ r1 r2 (okE TB a cc X _ h2 hX) (okP h3 hX) (no_mark h1 _)
    · cases h
  | .cmpP op p b, cc, X, x, h, hX => by
    simp only [chkBV] at h
    split at h
    · simp only [Bool.and_eq_true, Bool.or_eq_true, decide_eq_true_eq] at h
      obtain ⟨⟨⟨⟨rfl, h1⟩, h2⟩, h3⟩, h4⟩ := h
      obtain ⟨r, r1, r2⟩ := cmp_rule TB hX _
      simp only [evB, calmB]
      exact se_cmpP r1 r2 h4 (okP h2 hX) (okE TB b cc X _ h3 hX) (no_mark h1 _)
    · cases h
  | .chain op op' a b c, cc, X, x, h, hX => by
    simp only [chkBV] at h
    split at h
    · simp only [Bool.and_eq_true, decide_eq_true_eq] at h
      obtain ⟨⟨⟨⟨⟨rfl, rfl⟩, h1⟩, h2⟩, h3⟩, h4⟩ := h
      obtain ⟨r, r1, r2⟩ := cmp_rule TB hX _
      obtain ⟨r', r3, r4⟩ := cmp_rule TB hX _
      simp only [evB, calmB]
      exact se_chain r1 r2 r3 r4 (okE TB a cc X _ h2 hX) (okE TB b cc X _ h3 hX) (okE TB c cc X _ h4 hX) (no_mark h1 _)
    · cases h
  | .val _, cc, X, x, h, hX => by simp only [chkBV] at h; cases h
  | .and _ _, cc, X, x, h, hX => by simp only [chkBV] at h; cases h
  | .or _ _, cc, X, x, h, hX => by simp only [chkBV] at h; cases h
  | .not (.not _), cc, X, x, h, hX => by simp only [chkBV] at h; cases h
  | .not (.and _ _), cc, X, x, h, hX => by simp only [chkBV] at h; cases h
  | .not (.or _ _), cc, X, x, h, hX => by simp only [chkBV] at h; cases h
  | .not (.cmp _ _ _), cc, X, x, h, hX => by simp only [chkBV] at h; cases h
  | .not (.cmpQ _ _ _), cc, X, x, h, hX => by simp only [chkBV] at h; cases h
  | .not (.cmpP _ _ _), cc, X, x, h, hX => by simp only [chkBV] at h; cases h
  | .not (.chain _ _ _ _ _), cc, X, x, h, hX => by simp only [chkBV] at h; cases h
end
end
end Pw

/-! PO1: statements checked; a def. -/
namespace Pw
open PySem PySem.Spec PyProof.Rows L2

/-! ### stores that are swapped -/
def spots (sc : Scope) (line : Nat) (ts : List PySem.Expr) : List Str := ts.filterMap fun
    | .Name id pos => if sc.names.lookup id == some .local && pos.line == line then some id else none
    | _ => none
/-- no swap -/
def swN (sc : Scope) (tg v : PySem.Expr) : Bool := match tg, v with
  | .Tuple ts _ _, .Tuple vs _ _ => !(ts.length == 2 || ts.length == 3) || vs.length != ts.length || (vs.any fun | .Starred .. => true | _ => false) ||
      (spots sc ((ts.head?.map (·.pos.line)).getD 0) ts).length != ts.length || (spots sc ((ts.head?.map (·.pos.line)).getD 0) ts).eraseDups.length != (spots sc ((ts.head?.map (·.pos.line)).getD 0) ts).length || vs.all (foldedForSure 8)
  | .List _ _, _ => false
  | _, _ => true
theorem sw_none {env : PySem.Env} {sc : Scope} (he : env.scope = sc) (hk : sc.kind = .function) {tg v : PySem.Expr} (h : swN sc tg v = true) : swappedStores [tg] v env = pure none := by
  have hb : env.blockKind = .function := by unfold Env.blockKind; rw [he, hk]; rfl
  unfold swN at h
  split at h
  · rename_i ts k p vs k2 p2
    have hkind : ∀ id, env.kindOf id = sc.names.lookup id := fun id => by unfold Env.kindOf; rw [he]
    have hsp : spots sc ((ts.head?.map (·.pos.line)).getD 0) ts = (ts.filterMap fun
      | .Name id pos => if env.kindOf id == some .local && pos.line == (ts.head?.map (·.pos.line)).getD 0 then some id else none
      | _ => none) := by
      unfold spots
      simp only [hkind]
    rw [hsp] at h
    simp only [Bool.or_eq_true] at h
    unfold swappedStores
    show (if (!(ts.length == 2 || ts.length == 3) || vs.length != ts.length || env.blockKind != .function) = true then _ else _) = _
    rw [hb]
    by_cases c1 : (!(ts.length == 2 || ts.length == 3) || vs.length != ts.length || ScopeKind.function != .function) = true
    · rw [if_pos c1]
    · rw [if_neg c1]
      dsimp only
      split
      · rfl
      · rename_i c2
        split
        · rfl
        · rename_i c3
          split
          · rfl
          · rename_i c4
            exfalso
            simp only [Bool.or_eq_true] at c1 c3
            rcases h with ((((h | h) | h) | h) | h) | h
            · exact c1 (.inl (.inl h))
            · exact c1 (.inl (.inr h))
            · exact c2 h
            · exact c3 (.inl h)
            · exact c3 (.inr h)
            · exact c4 h
  · cases h
  · rename_i a b
    cases tg <;> try rfl
    · exact absurd rfl (a _ _)
    · cases v <;> first | rfl | exact (b _ _ _ _ _ _ rfl rfl).elim
theorem sw_two {env : PySem.Env} {sc : Scope} (he : env.scope = sc) (hk : sc.kind = .function) {x y : Str} {px py pt p2 : Pos} {kt k2 : Nat} {a b : PySem.Expr} (hx : sc.names.lookup x = some .local) (hy : sc.names.lookup y = some .local) (hl : px.line = py.line) (hxy : x ≠ y)
    (ha : noStar a = true) (hb : noStar b = true) (h1 : ([a, b].all (foldedForSure 8)) = false) (h2 : ([a, b].all (constantsAlone 8)) = false) :
    swappedStores [.Tuple [.Name x px, .Name y py] kt pt] (.Tuple [a, b] k2 p2) env = pure (some [x, y]) := by
  have hbk : env.blockKind = .function := by unfold Env.blockKind; rw [he, hk]; rfl
  have kx : env.kindOf x = some .local := by unfold Env.kindOf; rw [he]; exact hx
  have ky : env.kindOf y = some .local := by unfold Env.kindOf; rw [he]; exact hy
  have hs : ([a, b].any fun | .Starred .. => true | _ => false) = false := by
    have st : ∀ e : PySem.Expr, noStar e = true → (match e with | .Starred .. => true | _ => false) = false := by
      intro e h
      cases e <;> first | rfl | cases h
    show (_ || (_ || false)) = false
    simp only [Bool.or_eq_false_iff]
    exact ⟨st a ha, st b hb, trivial⟩
  unfold swappedStores
  show (if (!([PySem.Expr.Name x px, PySem.Expr.Name y py].length == 2 || [PySem.Expr.Name x px, PySem.Expr.Name y py].length == 3) || [a, b].length != [PySem.Expr.Name x px, PySem.Expr.Name y py].length || env.blockKind != .function) = true then _ else _) = _
  rw [hbk, if_neg (by simp)]
  dsimp only
  rw [if_neg (by rw [Bool.not_eq_true]; exact hs)]
  have hn : ([PySem.Expr.Name x px, PySem.Expr.Name y py].filterMap fun
      | .Name id pos => if env.kindOf id == some .local && pos.line == (([PySem.Expr.Name x px, PySem.Expr.Name y py].head?.map (·.pos.line)).getD 0) then some id else none
      | _ => none) = [x, y] := by
    simp [kx, ky, hl, PySem.Expr.pos]
  have hd : [x, y].eraseDups = [x, y] := by
    rw [List.eraseDups_cons]
    have : (List.filter (fun b => !b == x) [y]) = [y] := by simp [Ne.symm hxy]
    rw [this]
    rfl
  refine Eq.trans (b := if ([x, y].length != [PySem.Expr.Name x px, PySem.Expr.Name y py].length || [x, y].eraseDups.length != [x, y].length) = true then pure none else if ([a, b].all (foldedForSure 8)) = true then pure none else if ([a, b].all (constantsAlone 8)) = true then (do unsupported "assign.tuple-of-constant-expressions:order-of-the-stores"; pure (some [x, y])) else pure (some [x, y])) ?_ ?_
  · rw [← hn]; rfl
  · rw [hd, if_neg (by simp), h1, h2]
    rfl
end Pw

/-! PQ1: statements checked; a def of the module. -/
namespace Pw
open PySem PySem.Spec PyProof.Rows L2
def isName : PySem.Expr → Bool
  | .Name _ _ => true
  | _ => false
/-- a, b = x, y, both local names of one line -/
def parOk (cc : Cc) (io : List Nat) (t : T) (e : E) (tg v : PySem.Expr) : Bool := match t, e, tg, v with
  | .tup [.v i, .v j], .tup _, .Tuple [.Name x px, .Name y py] _ _, .Tuple [a, b] _ _ =>
    decide (cc.N[i]? = some x) && decide (cc.N[j]? = some y) && decide (i ≠ j) && decide (cc.sc.names.lookup x = some .local) && decide (cc.sc.names.lookup y = some .local) && decide (px.line = py.line) && decide (x ≠ y) && noStar a && noStar b &&
      !([a, b].all (foldedForSure 8)) && !([a, b].all (constantsAlone 8)) && !(io.contains i) && !(io.contains j)
  | _, _, _, _ => false
mutual
def chkS (tb : Tb) (cc : Cc) (io : List Nat) : S → Stmt → Bool
  | .set i e, x => match x with
    | .Assign [tg] v _ => chkV cc i tg && !(io.contains i) && chkE tb cc e v
    | _ => false
  | .setT t e, x => match x with
    | .Assign [tg] v _ => !(isName tg) && chkE tb cc e v && (parOk cc io t e tg v || (chkT cc t tg && (tvars t).all (fun i => !(io.contains i)) && swN cc.sc tg v))
    | _ => false
  | .setI p i e, x => match x with
    | .Assign [.Subscript a ix _] v _ => plainI ix && chkP cc p a && chkE tb cc i ix && chkE tb cc e v && (calmE i || p.isV)
    | _ => false
  | .app p e, x => match x with
    | .Expr (.Call (.Attribute a m apos) [v] [] pos) _ => decide (m = ("append" : Str)) && chkP cc p a && noStar v && chkE tb cc e v && (calmE e || p.isV) && (apos.endLine == pos.line)
    | _ => false
  | .ext _ _, _ => false
  | .setF _ _ _, _ => false
  | .ex e, x => match x with
    | .Expr v _ => noComp v && chkE tb cc e v
    | _ => false
  | .ret e, x => match x with
    | .Return (some v) _ => chkE tb cc e v
    | _ => false
  | .retN, x => match x with
    | .Return none _ => true
    | _ => false
  | .ifs c a b, x => match x with
    | .If t xs ys _ => chkB tb cc c t && chkSs tb cc io a xs && chkSs tb cc io b ys
    | _ => false
  | .for_ t it b, x => match x with
    | .For tg iter xs [] _ => noSet iter && (chkI tb cc it iter && chkIT it tg) && chkT cc t tg && (tvars t).all (fun i => !(io.contains i)) && chkSs tb cc io b xs
    | _ => false
  | .while_ c b, x => match x with
    | .While t xs [] _ => chkB tb cc c t && chkSs tb cc io b xs
    | _ => false
  | .pass, x => match x with
    | .Pass _ => true
    | _ => false
  | .brk, x => match x with
    | .Break _ => true
    | _ => false
  | .cont, x => match x with
    | .Continue _ => true
    | _ => false
  | .never, _ => true
def chkSs (tb : Tb) (cc : Cc) (io : List Nat) : List S → List Stmt → Bool
  | [], [] => true
  | s :: r, x :: xs => chkS tb cc io s x && chkSs tb cc io r xs
  | _, _ => false
end
section
variable {S : Stat} {Φ : Orc} {Gv : Gv} {tb : Tb} {cc : Cc} {X : Cx} {x : PySem.Expr} {io : List Nat}
theorem out_io {i : Nat} (h : (!(io.contains i)) = true) : i ∉ io := by
  intro z
  rw [Bool.not_eq_true'] at h
  rw [List.contains_eq_mem] at h
  simp [z] at h
theorem all_io {is : List Nat} (h : is.all (fun i => !(io.contains i)) = true) : ∀ i ∈ io, i ∉ is := fun i hi z => out_io (List.all_eq_true.mp h i z) hi
theorem sole_false {tg v : PySem.Expr} {l : Nat} {env : PySem.Env} (h : isName tg = false) : swapsWithSole [tg] v l env = pure false := by
  show swapsWith v (some tg) l env = pure false
  cases v <;> try rfl
  all_goals cases tg <;> first | rfl | cases h
theorem chkBV_comp {x : PySem.Expr} (hc : noComp x = false) : ∀ b : B, chkBV tb cc b x = true → False := by
  intro b h
  cases x <;> first | cases hc | skip
  all_goals
    match b, h with
    | .not (.val _), h => simp only [chkBV] at h; cases h
    | .cmp _ _ _, h => simp only [chkBV] at h; cases h
    | .cmpQ _ _ _, h => simp only [chkBV] at h; cases h
    | .cmpP _ _ _, h => simp only [chkBV] at h; cases h
    | .chain _ _ _ _ _, h => simp only [chkBV] at h; cases h
    | .val _, h => simp only [chkBV] at h; cases h
    | .and _ _, h => simp only [chkBV] at h; cases h
    | .or _ _, h => simp only [chkBV] at h; cases h
    | .not (.not _), h => simp only [chkBV] at h; cases h
    | .not (.and _ _), h => simp only [chkBV] at h; cases h
    | .not (.or _ _), h => simp only [chkBV] at h; cases h
    | .not (.cmp _ _ _), h => simp only [chkBV] at h; cases h
    | .not (.cmpQ _ _ _), h => simp only [chkBV] at h; cases h
    | .not (.cmpP _ _ _), h => simp only [chkBV] at h; cases h
    | .not (.chain _ _ _ _ _), h => simp only [chkBV] at h; cases h
theorem chkP_comp {x : PySem.Expr} (hc : noComp x = false) (p : P) (h : chkP cc p x = true) : False := by
  cases x <;> first | cases hc | skip
  all_goals cases p <;> simp only [chkP, chkN] at h <;> cases h
theorem chkE_comp {x : PySem.Expr} (hc : noComp x = false) (e : E) (h : chkE tb cc e x = true) : ∃ elt' t it cond own, e = .lc elt' t it cond own := by
  cases e with
  | lc elt' t it cond own => exact ⟨_, _, _, _, _, rfl⟩
  | tv b => simp only [chkE] at h; exact (chkBV_comp hc b h).elim
  | pl p => simp only [chkE] at h; exact (chkP_comp hc p h).elim
  | k d =>
    exfalso
    simp only [chkE] at h
    cases x <;> cases hc
    all_goals
      simp only [chkK] at h
      cases h
  | mv d =>
    exfalso
    simp only [chkE] at h
    cases x <;> cases hc
    all_goals
      simp only [chkN] at h
      cases h
  | gl d =>
    exfalso
    simp only [chkE] at h
    cases x <;> cases hc
    all_goals
      simp only [chkG, Bool.false_and] at h
      cases h
  | bm m a es =>
    exfalso
    unfold chkE at h
    split at h
    · cases hc
    · cases hc
    · cases h
  | _ =>
    exfalso
    simp only [chkE] at h
    cases x <;> cases hc
    all_goals cases h
theorem set_ok (TB : TbOk S Φ Gv tb) {i : Nat} {e : E} {tg v : PySem.Expr} {pos : Pos} (h1 : chkV cc i tg = true) (h2 : i ∉ io) (h3 : chkE tb cc e v = true) (hX : InX S cc X) : PS X (.Assign [tg] v pos) (rdS S.G io (setM i (ev Φ Gv e))) := by
  obtain ⟨_, n, p, rfl, e1, e2, e3⟩ := okV h1 hX
  have main := okE TB e cc X v h3 hX
  by_cases hc : noComp v = true
  · exact ss_set (c := calmE e) h2 (ps_set hX.nd e1 e2 main (no_comp hc _ _ _) e3) fun σ H Q h => h
  · obtain ⟨elt', t, it, cond, own, rfl⟩ := chkE_comp (by simpa using hc) e h3
    simp only [chkE] at h3
    split at h3
    · rename_i elt tg iter ifs scope vpos
      simp only [Bool.and_eq_true] at h3
      obtain ⟨⟨⟨⟨⟨⟨a1, a2⟩, a3⟩, a4⟩, a5⟩, a6⟩, a7⟩ := h3
      have ok := blkOk_by a3
      have hm : (own.map fun i => (((cc.N[i]?).getD "", i) : Str × Nat)).map (·.2) = own := by rw [List.map_map]; exact List.map_id own
      have hsw : swapsWith (.ListComp elt [⟨tg, iter, ifs, 0⟩] scope vpos) (some (.Name n p)) pos.line X.env = pure (X.env.blockKind == .function && X.env.kindOf n == some .local && p.line == vpos.line
      && !(scope.names.any fun (m, k) => m == n && (k == .local || k == .cell))) := rfl
      generalize hb : (X.env.blockKind == ScopeKind.function && X.env.kindOf n == some NameKind.local && p.line == vpos.line
      && !(scope.names.any fun (m, k) => m == n && (k == .local || k == .cell))) = bb at hsw
      cases bb with
      | false => exact ss_set (c := calmE (.lc elt' t it cond own)) h2 (ps_set hX.nd e1 e2 main hsw e3) fun σ H Q h => h
      | true =>
        have hl : X.env.scope.names.lookup n = some .local := by
          simp only [Bool.and_eq_true, beq_iff_eq] at hb
          exact hb.1.1.2
        have fin := ss_setLc (io := io) (pos := vpos) (own := own.map fun i => ((cc.N[i]?).getD "", i)) h2 e1 hl hsw (by rw [hm]; exact a4) hX.i.calm hX.nd (okI TB it cc X iter a2.1 hX a2.2) (by rw [hX.N, hX.sc]; exact ok)
          (fun s H C cl fp => okT (hX.blk ok.kind s H C cl fp) t tg a5) (fun s H C cl fp => okW TB cond (cc.blk scope) _ ifs a6 (hX.blk ok.kind s H C cl fp)) (fun s H C cl fp => okE TB elt' (cc.blk scope) _ elt a7 (hX.blk ok.kind s H C cl fp)) (no_set a1)
        rw [hm] at fin
        simp only [ev]
        exact fin
    · cases h3
theorem par_ok (TB : TbOk S Φ Gv tb) {t : T} {e : E} {tg v : PySem.Expr} {pos : Pos} (h : parOk cc io t e tg v = true) (h3 : chkE tb cc e v = true) (hX : InX S cc X) : PS X (.Assign [tg] v pos) (rdS S.G io (setTM t (ev Φ Gv e))) := by
  unfold parOk at h
  split at h
  · rename_i i j es x px y py kt pt a b k2 p2
    simp only [Bool.and_eq_true, decide_eq_true_eq, Bool.not_eq_true'] at h
    obtain ⟨⟨⟨⟨⟨⟨⟨⟨⟨⟨⟨⟨a1, a2⟩, a3⟩, a4⟩, a5⟩, a6⟩, a7⟩, a8⟩, a9⟩, a10⟩, a11⟩, a12⟩, a13⟩ := h
    simp only [chkE] at h3
    simp only [ev]
    refine ss_par (c := calmEs es) (fs := evs Φ Gv es) (out_io (by rw [a12]; rfl)) (out_io (by rw [a13]; rfl)) (ps_par hX.i.calm hX.nd (by rw [hX.N]; exact a1) (by rw [hX.N]; exact a2) a3 (by rw [hX.sc]; exact a4) (by rw [hX.sc]; exact a5) (okEs TB es cc X _ h3 hX) (sw_two hX.sc hX.kind a4 a5 a6 a7 a8 a9 a10 a11) (sole_false rfl))
  · cases h
theorem Xp (hX : InX S cc X) : PassesOwn (model X.prog X.w) X.A X.env X.xe := by rw [hX.xe]; exact PassesOwn.never
mutual
theorem okS (TB : TbOk S Φ Gv tb) (hX : InX S cc X) : ∀ (s : Pw.S) (x : Stmt), chkS tb cc io s x = true → PS X x (rdS S.G io (exS Φ Gv s))
  | .set i e, x, h => by
    simp only [chkS] at h
    split at h
    · simp only [Bool.and_eq_true] at h
      simp only [exS]
      exact set_ok TB h.1.1 (out_io h.1.2) h.2 hX
    · cases h
  | .setT t e, x, h => by
    simp only [chkS] at h
    split at h
    · rename_i tg v pos
      simp only [Bool.and_eq_true, Bool.or_eq_true, Bool.not_eq_true'] at h
      obtain ⟨⟨h1, h2⟩, h3 | ⟨⟨h3, h4⟩, h5⟩⟩ := h
      · simp only [exS]
        exact par_ok TB h3 h2 hX
      · simp only [exS]
        exact ss_setT (c := calmE e) (all_io h4) (ps_asg (pe_fz (okE TB e cc X v h2 hX)) (okT hX t tg h3) (sole_false h1) (sw_none hX.sc hX.kind h5) (by cases tg <;> first | rfl | (cases t <;> simp only [chkT, chkV] at h3 <;> cases h3))) fun σ H Q h => h
    · cases h
  | .setI p i e, x, h => by
    simp only [chkS] at h
    split at h
    · rename_i a ix tp v pos
      simp only [Bool.and_eq_true, Bool.or_eq_true] at h
      obtain ⟨⟨⟨⟨h1, h2⟩, h3⟩, h4⟩, h5⟩ := h
      simp only [exS]
      exact ss_setI h5 (okP h2 hX) (okE TB i cc X ix h3 hX) (okE TB e cc X v h4 hX) (fun _ => by cases ix <;> first | rfl | cases h1) (sole_false rfl) (by cases v <;> rfl)
    · cases h
  | .app p e, x, h => by
    simp only [chkS] at h
    split at h
    · simp only [Bool.and_eq_true, Bool.or_eq_true, decide_eq_true_eq] at h
      obtain ⟨⟨⟨⟨⟨rfl, h1⟩, h2⟩, h3⟩, h4⟩, h5⟩ := h
      simp only [exS]
      exact ss_app h4 (okP h1 hX) (okE TB e cc X _ h3 hX) (chkP_plain h1 _ _ _) h5 (star_cons h2)
    · cases h
  | .ext _ _, x, h => by
    simp only [chkS] at h
    cases h
  | .setF _ _ _, x, h => by
    simp only [chkS] at h
    cases h
  | .ex e, x, h => by
    simp only [chkS] at h
    split at h
    · rw [Bool.and_eq_true] at h
      simp only [exS]
      exact ss_ex (okE TB e cc X _ h.2 hX) (no_comp h.1 _ _ _)
    · cases h
  | .ret e, x, h => by
    simp only [chkS] at h
    split at h
    · simp only [exS]
      exact ss_ret (okE TB e cc X _ h hX)
    · cases h
  | .retN, x, h => by
    simp only [chkS] at h
    split at h
    · simp only [exS]
      exact ss_retN
    · cases h
  | .ifs c a b, x, h => by
    simp only [chkS] at h
    split at h
    · simp only [Bool.and_eq_true] at h
      simp only [exS]
      exact ss_if (okB TB c cc X _ h.1.1 hX) (okSs TB hX a _ h.1.2) (okSs TB hX b _ h.2)
    · cases h
  | .for_ t it b, x, h => by
    simp only [chkS] at h
    split at h
    · simp only [Bool.and_eq_true] at h
      obtain ⟨⟨⟨⟨h1, h2⟩, h3⟩, h4⟩, h5⟩ := h
      simp only [exS]
      exact ss_for (all_io h4) (Xp hX) hX.i.calm (okI TB it cc X _ h2.1 hX h2.2) (okT hX t _ h3) (okSs TB hX b _ h5) (no_set h1)
    · cases h
  | .while_ c b, x, h => by
    simp only [chkS] at h
    split at h
    · rw [Bool.and_eq_true] at h
      simp only [exS]
      exact ss_while (Xp hX) (okB TB c cc X _ h.1 hX) (okSs TB hX b _ h.2)
    · cases h
  | .pass, x, h => by
    simp only [chkS] at h
    split at h
    · simp only [exS]
      exact ss_pass
    · cases h
  | .brk, x, h => by
    simp only [chkS] at h
    split at h
    · simp only [exS]
      exact ss_brk
    · cases h
  | .cont, x, h => by
    simp only [chkS] at h
    split at h
    · simp only [exS]
      exact ss_cont
    · cases h
  | .never, x, h => by
    simp only [exS]
    exact ss_never
theorem okSs (TB : TbOk S Φ Gv tb) (hX : InX S cc X) : ∀ (s : List Pw.S) (x : List Stmt), chkSs tb cc io s x = true → PSs X x (rdS S.G io (exSs Φ Gv s))
  | [], [], _ => by
    simp only [exSs]
    exact ss_nil
  | [], _ :: _, h => by simp only [chkSs] at h; cases h
  | _ :: _, [], h => by simp only [chkSs] at h; cases h
  | s :: r, x :: xs, h => by
    simp only [chkSs, Bool.and_eq_true] at h
    simp only [exSs]
    exact ss_cons (okS TB hX s x h.1) (okSs TB hX r xs h.2)
end
end
end Pw

/-! PR1: a def, all defs of a module. -/
namespace Pw
open PySem PySem.Spec PyProof.Rows L2
section
variable {G : Wd} {F H : Hp} {σ : L2.St}
theorem RpS.nones : ∀ n : Nat, RpS G F H (List.replicate n none) (List.replicate n none) []
  | 0 => .nil
  | n + 1 => .no (RpS.nones n)
theorem RpOs.start (n : Nat) : ∀ {vs : List V} {os : List O} {U : List Addr}, RpOs G F H vs os U → RpS G F H (vs.map some ++ List.replicate n none) (os.map some ++ List.replicate n none) U
  | _, _, _, .nil => RpS.nones n
  | _, _, _, .cons h r => .yes h (RpOs.start n r)
theorem outs_set {ρ : Env} {i : Nat} : ∀ {io : List Nat}, i ∉ io → outsOf (ρ.set i none) io = outsOf ρ io
  | [], _ => rfl
  | j :: r, h => by
    unfold outsOf
    rw [List.getElem?_set_ne (fun e : i = j => h (by rw [e]; exact List.mem_cons_self)), outs_set fun z => h (List.mem_cons_of_mem _ z)]
theorem outs_read {vs : List V} : ∀ {io : List Nat} {ρ : Env} {U : List Addr} {outs : List O}, io.Nodup → (∀ i ∈ io, ∃ v, vs[i]? = some v ∧ σ[i]? = some (some v)) → RpS G F H σ ρ U → U.Nodup → outsOf ρ io = some outs →
    ∃ Z, RpOs G F H (sel vs io) outs Z ∧ (∀ b ∈ Z, b ∈ U) ∧ Z.Nodup
  | [], ρ, U, outs, _, _, _, _, e => by
    cases e
    exact ⟨[], .nil, fun _ h => (nomatch h), List.nodup_nil⟩
  | i :: r, ρ, U, outs, nd, hv, rs, ndU, e => by
    unfold outsOf at e
    cases q : ρ[i]? with
    | none => rw [q] at e; cases e
    | some z =>
      cases z with
      | none => rw [q] at e; cases e
      | some o =>
        rw [q] at e
        cases q2 : outsOf ρ r with
        | none => rw [q2] at e; cases e
        | some os =>
          rw [q2] at e
          cases e
          obtain ⟨v', W, A, B, hv', hr, hU, hs⟩ := rs.at q
          obtain ⟨v, h1, h2⟩ := hv i List.mem_cons_self
          rw [h2] at hv'
          cases hv'
          obtain ⟨n1, n2⟩ := nd_mid (hU ▸ ndU)
          obtain ⟨Z, a1, a2, a3⟩ := outs_read (List.nodup_cons.mp nd).2 (fun j hj => hv j (List.mem_cons_of_mem _ hj)) (hs F H (Sub.refl F) fun _ _ _ h => h).2 n1 ((outs_set (List.nodup_cons.mp nd).1).trans q2)
          have hsel : sel vs (i :: r) = v' :: sel vs r := by
            unfold sel
            rw [List.filterMap_cons, h1]
          rw [hsel]
          refine ⟨W ++ Z, .cons hr a1, fun b hb => ?_, List.nodup_append.mpr ⟨(List.nodup_append.mp (List.nodup_append.mp (hU ▸ ndU)).1).2.1, a3, fun a ha b hb e => ?_⟩⟩
          · rw [hU]
            rcases List.mem_append.mp hb with z | z
            · simp [z]
            · have := a2 b z
              simp only [List.mem_append] at this ⊢
              rcases this with y | y
              · exact .inl (.inl y)
              · exact .inr y
          · subst e
            exact n2 a (a2 a hb) ha
end
section
variable {G : Wd} {P : Program} {w : World} {K : PySem.W.Frag} {mg : Str → Option Value} {base : Heap} {tab : Str → Option Fd} {Gv : Pw.Gv} {tb : Tb}
/-- a def of the module, checked -/
structure DefOk (K : PySem.W.Frag) (tb : Tb) (tab : Str → Option Fd) (f : Str) (fa : Addr) (ps : List Str) (fd : FuncData) (d : Fd) : Prop where
  ht : tab f = some d
  ex : ∃ (x qual : Str) (params : Arguments) (body : List Stmt) (sc : Scope) (dV kV doc pm : Value) (an : Option Addr) (cdv ct oc : Value) (od : Option Addr) (osl : Array (Option Value)) (N : List Str),
    fd = PySem.W.fnOf x qual params body sc dV kV doc pm an cdv ct ∧ K.lookup fa = some ⟨oc, od, .func fd, osl⟩ ∧ PySem.W.codeIn K cdv qual = true ∧ FnScope N ps sc ∧ d.nl = N.length ∧ chkSs tb ⟨N, sc, fun _ => true⟩ d.io d.body body = true
  np : d.np = ps.length
  nd : d.io.Nodup
  lt : ∀ i ∈ d.io, i < ps.length
theorem run_ok (hK : K = G.K) {f : Str} {fa : Addr} {ps : List Str} {fd : FuncData} {d : Fd} (h : DefOk K tb tab f fa ps fd d) {n : Nat}
    (TB : ∀ A : Around, Room n A → TbOk ⟨G, P, w, K, mg, base, A⟩ (run tab Gv n) Gv tb) : FnG P w K mg base (n + 1) fa fd ps (spF G (run tab Gv (n + 1)) f ps.length d.io) := by
  obtain ⟨x, qual, params, body, sc, dV, kV, doc, pm, an, cdv, ct, oc, od, osl, N, rfl, lk, hcd, Sc, hnl, hchk⟩ := h.ex
  refine fnG_of lk hcd Sc (fun vs H Q E q => q.1) fun A outer s H vs Q hg hr hsp => ?_
  have hX : InX ⟨G, P, w, K, mg, base, A.deeper (envOfC qual sc s.heap.objs.size fa cdv)⟩ ⟨N, sc, fun _ => true⟩ (cxOf CX0 P w K mg base N qual sc fa cdv A outer s H E0).nox :=
    ⟨⟨rfl, rfl, rfl, hK, rfl, rfl, rfl, rfl, Sc.nd, hg⟩, rfl, rfl, Sc.kind, fun _ _ => rfl, rfl⟩
  refine ⟨rdS G d.io (exSs (run tab Gv n) Gv d.body), PSs.nox (okSs (TB _ hr) hX d.body body hchk), ?_⟩
  obtain ⟨hl, F, U, os, o, outs, sub, ro, nd, off, e, k⟩ := hsp
  have hos : os.length = ps.length := ro.len.symm.trans hl
  have e' : runFd (run tab Gv n) Gv d os = some (o, outs) := by
    have : (match tab f with | some fd => runFd (run tab Gv n) Gv fd os | none => none) = some (o, outs) := e
    rw [h.ht] at this
    exact this
  unfold runFd at e'
  rw [if_pos (hos.trans h.np.symm)] at e'
  have hst : Pw.start d.nl os = os.map some ++ List.replicate (N.length - vs.length) none := by
    unfold Pw.start
    rw [hnl, ← ro.len]
  have g0 : Good G F H (L2.start N vs) (Pw.start d.nl os) U := ⟨sub, by rw [hst]; exact ro.start _, nd, off⟩
  have fixed : ∀ {σ' : L2.St}, Fix d.io (L2.start N vs) σ' → ∀ i ∈ d.io, ∃ v, vs[i]? = some v ∧ σ'[i]? = some (some v) := fun {σ'} fx i hi => by
    have hlt : i < vs.length := by rw [hl]; exact h.lt i hi
    refine ⟨vs[i], List.getElem?_eq_getElem hlt, ?_⟩
    rw [fx i hi]
    unfold L2.start
    rw [List.getElem?_append_left (by rw [List.length_map]; exact hlt), List.getElem?_map, List.getElem?_eq_getElem hlt]
    rfl
  cases q : exSs (run tab Gv n) Gv d.body (Pw.start d.nl os) with
  | none => rw [q] at e'; cases e'
  | some pr =>
    obtain ⟨fl, ρ'⟩ := pr
    rw [q] at e'
    refine ⟨F, _, U, fl, ρ', g0, q, ?_⟩
    cases fl with
    | bk => cases e'
    | ct => cases e'
    | nx =>
      cases q2 : outsOf ρ' d.io with
      | none => simp only [q2] at e'; cases e'
      | some outs' =>
        simp only [q2] at e'
        cases e'
        refine fun σ' F' H' U' g x fx => ?_
        obtain ⟨Z, a1, a2, a3⟩ := outs_read h.nd (fixed fx) g.env g.nd q2
        exact k .non F' H' Z [] g.sub a1 (.d .non) (by simpa using a3) (fun b hb => g.off b (a2 b (by simpa using hb))) (x.less fun b hb => a2 b (by simpa using hb))
    | rt o' =>
      cases q2 : outsOf ρ' d.io with
      | none => simp only [q2] at e'; cases e'
      | some outs' =>
        simp only [q2] at e'
        cases e'
        refine fun v σ' F' H' U' W g r ndW offW x fx => ?_
        obtain ⟨Z, a1, a2, a3⟩ := outs_read h.nd (fixed fx) g.env g.nd q2
        refine k v F' H' Z W g.sub a1 r (List.nodup_append.mpr ⟨a3, (List.nodup_append.mp ndW).2.1, fun a ha b hb e => (List.nodup_append.mp ndW).2.2 a (a2 a ha) b hb e⟩) (fun b hb => ?_) (x.less fun b hb => ?_)
        · rcases List.mem_append.mp hb with z | z
          · exact g.off b (a2 b z)
          · exact offW b z
        · rcases List.mem_append.mp hb with z | z
          · exact List.mem_append_left _ (a2 b z)
          · exact List.mem_append_right _ z
/-- a call's shape, checked -/
structure ShOk (K : PySem.W.Frag) (mg : Str → Option Value) (G : Wd) (tb : Tb) (tab : Str → Option Fd) (Gv : Pw.Gv) (s : Shape) : Prop where
  ex : ∃ (fa : Addr) (ps : List Str) (fd : FuncData) (d : Fd) (g : List Value → List Value → List Value) (gV : List V → List V → List V), DefOk K tb tab s.f fa ps fd d ∧ Gv.io s.f = d.io ∧ mg s.f = some (.ref fa) ∧ PySem.W.keepIn K (.ref fa) = true ∧ KBn K fd ps s.np s.ks g gV ∧
    ∀ vs zs : List V, vs.length = s.np → zs.length = s.ks.length → (gV vs zs).length = ps.length ∧ Filled G (vs ++ zs) s.fill (gV vs zs)
/-- what the module's names are -/
structure ModOk (K : PySem.W.Frag) (mg : Str → Option Value) (G : Wd) (tb : Tb) (tab : Str → Option Fd) (Gv : Pw.Gv) : Prop where
  hK : K = G.K
  bn : ∀ x ∈ tb.bn, mg x = none
  gl : ∀ x ∈ tb.gs, ∃ d v u, Gv.gv x = some d ∧ mg x = some u ∧ RelV v u ∧ ∀ F, Rp G F v d
  calls : ∀ s ∈ tb.calls, ShOk K mg G tb tab Gv s
theorem zero_ok {f : Str} {fa : Addr} {ps : List Str} {fd : FuncData} {m : Nat} {io : List Nat} (hm : m = ps.length) : FnG P w K mg base 0 fa fd ps (spF G (run tab Gv 0) f m io) :=
  ⟨fun vs H Q E q => q.1.trans hm, fun A outer s H args us vs Q _ _ _ _ _ q => by
    obtain ⟨_, _, _, _, _, _, _, _, _, _, e, _⟩ := q
    cases e⟩
theorem mod_tb (M : ModOk K mg G tb tab Gv) : ∀ n : Nat, ∀ A : Around, Room n A → TbOk ⟨G, P, w, K, mg, base, A⟩ (run tab Gv n) Gv tb
  | 0, A, hr => ⟨by show A.units + 100 < cLine; have := hr.un; omega, M.bn, M.gl, fun s hs => by
    obtain ⟨fa, ps, fd, d, g, gV, h1, h2, h3, h4, h5, h6⟩ := (M.calls s hs).ex
    exact ⟨0, fa, fd, ps, g, gV, zero_ok rfl, hr, h3, h4, h5, h6⟩⟩
  | n + 1, A, hr => ⟨by show A.units + 100 < cLine; have := hr.un; omega, M.bn, M.gl, fun s hs => by
    obtain ⟨fa, ps, fd, d, g, gV, h1, h2, h3, h4, h5, h6⟩ := (M.calls s hs).ex
    exact ⟨n + 1, fa, fd, ps, g, gV, by rw [h2]; exact run_ok M.hK h1 (mod_tb M n), hr, h3, h4, h5, h6⟩⟩
/-- any checked def keeps what the small language tells -/
theorem mod_ok (M : ModOk K mg G tb tab Gv) {f : Str} {fa : Addr} {ps : List Str} {fd : FuncData} {d : Fd} (h : DefOk K tb tab f fa ps fd d) : ∀ n : Nat, FnG P w K mg base n fa fd ps (spF G (run tab Gv n) f ps.length d.io)
  | 0 => zero_ok rfl
  | n + 1 => run_ok M.hK h (mod_tb M n)
end
end Pw

/-! PS1: the law's end: from what the small language tells of the law's def to the statement. -/
namespace Pw
open PySem PySem.Spec PyProof.Rows L2
/-- the heap at the law's call: at most the script -/
def scr (K : PySem.W.Frag) (a : Addr) (o : Obj) (xs : List V) : Hp := fun b => if b = a then (match K.lookup a with | none => some (.frz o (.lst xs)) | some _ => none) else none
theorem scr_ne {K : PySem.W.Frag} {a b : Addr} {o : Obj} {xs : List V} (h : b ≠ a) : scr K a o xs b = none := if_neg h
theorem scr_at {K : PySem.W.Frag} {a : Addr} {o : Obj} {xs : List V} (h : K.lookup a = none) : scr K a o xs a = some (.frz o (.lst xs)) := by
  unfold scr
  rw [if_pos rfl, h]
theorem scr_is {K : PySem.W.Frag} {a b : Addr} {o : Obj} {xs : List V} {u : HO} (h : scr K a o xs b = some u) : b = a ∧ K.lookup a = none ∧ u = .frz o (.lst xs) := by
  by_cases hb : b = a
  · subst hb
    cases q : K.lookup b with
    | none => rw [scr_at q] at h; cases h; exact ⟨rfl, rfl, rfl⟩
    | some z =>
      unfold scr at h
      rw [if_pos rfl, q] at h
      cases h
  · rw [scr_ne hb] at h; cases h
section
variable {P : Program} {w : World} {K : PySem.W.Frag} {mg mb : Str → Option Value} {k : Nat} {fa a : Addr} {fd : FuncData} {x : Str} {sp : Sp} {s0 : Shared} {us : List Value} {ns : List Int}
theorem called (hIn : K.In s0.heap) (hMg : s0.heap.Ns mainGlobals mg) (hMb : s0.heap.Ns builtinsNs mb) (hBoot : ∀ y : Str, y ≠ "__name__" → mb y = bootBuiltins y) (hNo : s0.heap.NoLimit) (hGen : s0.gens = #[])
    (hObj : s0.heap.get? a = some { cls := .type "list", data := .seq us.toArray }) (hNs : IntsAre us ns) (hLen : ns.length ≤ sizeLine) (room : Room k callerA)
    (prom : ∀ base : Heap, K.In base → base.Ns mainGlobals mg → FnG P w K mg base k fa fd [x] sp) (binds : ∀ (s : Shared) (u : Value), BindsTo s fd ⟨[u], []⟩ [(x, u)])
    (tells : ∀ H : Hp, SqL K H a (ns.map V.int) → sp [.ref a] H (fun v _ => v = .bl true) E0) :
    codeAny (model P w) callerA (.call (.ref fa) ⟨[.ref a], []⟩) (fun r s' => r = .ok (.ret (.bool true)) ∧ OldK s0.heap s'.heap ∧ s'.os = s0.os ∧ AllBare s'.gens) s0 := by
  generalize hH : scr K a { cls := .type "list", data := .seq us.toArray } (ns.map V.int) = H
  have only : ∀ {b : Addr} {u : HO}, H b = some u → b = a ∧ K.lookup a = none ∧ u = .frz { cls := .type "list", data := .seq us.toArray } (.lst (ns.map V.int)) := fun {b u} e => scr_is (hH ▸ e)
  have isList : SqL K H a (ns.map V.int) := by
    cases q : K.lookup a with
    | none => exact .inl (.inr ⟨_, by rw [← hH]; exact scr_at q⟩)
    | some o =>
      have e := hIn a o q
      rw [hObj] at e
      cases e
      exact .inr ⟨_, us.toArray, _, q, rfl, rfl, rfl, by rw [List.size_toArray, hNs.length]; exact hLen, by simpa using vals_ints hNs⟩
  have hidden : ∀ {b : Addr} {o : Obj}, s0.heap.get? b = some o → H b = none → (hidT s0.heap H).get? b = some o := fun e z => hidT_get e z
  have dictsOut : ∀ {b : Addr} {m : Str → Option Value}, s0.heap.Ns b m → (hidT s0.heap H).Ns b m := by
    rintro b m ⟨o, es, ep, e, d, r⟩
    refine ⟨o, es, ep, hidden e ?_, d, r⟩
    cases q : H b with
    | none => rfl
    | some u =>
      obtain ⟨rfl, _, _⟩ := only q
      rw [hObj] at e
      cases e
      cases (show Data.seq us.toArray _ = Data.dict es ep from d)
  have baseIn : K.In (hidT s0.heap H) := fun b o e => hidden (hIn b o e) (by
    cases q : H b with
    | none => rfl
    | some u =>
      obtain ⟨rfl, z, _⟩ := only q
      rw [z] at e; cases e)
  have md : Mod K mg (hidT s0.heap H) := ⟨baseIn, dictsOut hMg, ⟨mb, dictsOut hMb, hBoot⟩, by
    obtain ⟨mc, z1, z2⟩ := hNo
    exact ⟨mc, dictsOut z1, z2⟩⟩
  have heapOk : HOk P w H s0.heap := fun b u e => by
    obtain ⟨rfl, _, rfl⟩ := only e
    exact ⟨hObj, by rw [List.length_map]; exact hLen, us, _, vals_ints hNs, hObj⟩
  have around : Env0 P w K mg (hidT s0.heap H) callerA [] s0 H := ⟨rfl, md, fun _ _ e => of_hidT e, Nat.le_of_eq (hidT_size _ _), trivial, fun _ z => absurd z (List.not_mem_nil), heapOk, AllBare.of_eq hGen⟩
  refine codeAny_mono ((prom _ baseIn md.glob).run callerA [] s0 H ⟨[.ref a], []⟩ [.ref a] [.ref a] _ rfl room around (binds s0 (.ref a)) (.cons rfl .nil) (tells H isList)) fun r s' h => ?_
  match r, h with
  | .ok (.ret u), h =>
    obtain ⟨v, H', os, bare, un, ok', rel, q⟩ := h
    cases (show v = V.bl true from q)
    cases (show u = Value.bool true from rel)
    refine ⟨rfl, OldK.of_keep fun b o e => ?_, os, bare⟩
    cases q : H b with
    | none => exact un.keep b o e q (fun z => absurd z List.not_mem_nil) List.not_mem_nil
    | some u =>
      obtain ⟨rfl, _, rfl⟩ := only q
      have later := (ok' b _ (un.frzs b _ _ q)).1
      rw [hObj] at e
      cases e
      exact later
end
/-- the goal behind the head -/
theorem walked {l : PySem.W.OpenLaw} {n k : Nat} {q : Program} {loose : List Str} {XP : (Str → Option Value) → Heap → Prop} {YP : World → Heap → Prop} {d : DefRec} {K : Params → PySem.W.Frag} {x : Str} {tab : Str → Option Fd} {Gv : Gv} {f : Str}
    (most : l.most = some n) (fits : n ≤ sizeLine) (noDef : d.params.defaults = []) (room : Room k callerA) (inK : ∀ (w : World) (h : Heap), YP w h → (K w.params).In h)
    (prom : ∀ (w : World) (mg : Str → Option Value) (fa : Addr) (h : Heap), (K w.params).In h → h.Ns mainGlobals mg → mg d.name = some (.ref fa) →
      ∃ (fd : FuncData) (G : Wd), G.K = K w.params ∧ (∀ (s : Shared) (u : Value), BindsTo s fd ⟨[u], []⟩ [(x, u)]) ∧ ∀ base : Heap, (K w.params).In base → base.Ns mainGlobals mg → FnG l.prog w (K w.params) mg base k fa fd [x] (spF G (run tab Gv k) f 1 []))
    (plain : ∀ ns : List Int, ns.length ≤ n → run tab Gv k f [.d (.xl (ns.map D.int))] = some (.d (.bl true), [])) :
    PySem.W.WalkO q loose XP YP l.row.toRowW d [] (fun f vs => PySem.call f vs) := by
  refine Att.attach_call most noDef fun w s₀ s₁ mg mb fa o pm cd doc a vs ns gr Y ho hd hcd hmg hobj hints hlen hg => ?_
  obtain ⟨fd, G, hK, hb, hF⟩ := prom w mg fa _ (inK w _ Y) gr.T.g hmg
  refine called (inK w _ Y) gr.T.g gr.T.b gr.T.builtins gr.T.nolimit hg hobj hints (Nat.le_trans hlen fits) room hF hb fun H hs => ?_
  have hr : RpA G H (ns.map V.int) (ns.map D.int) := by
    clear plain hlen hints hs
    induction ns with
    | nil => exact .nil
    | cons i r ih => exact .cons (.int i) ih
  refine ⟨rfl, H, [], _, _, [], Sub.refl H, .cons (U := []) (W := []) (.d (.xl (by rw [hK]; exact hs) hr)) .nil, List.nodup_nil, fun _ z => absurd z List.not_mem_nil, plain ns hlen, fun v F' H' U' W _ _ r _ _ _ => ?_⟩
  cases r with
  | d r => cases r; rfl
end Pw

/-! PT1: how a call's values fall into the parameters' places. -/
namespace Pw
open PySem PySem.Spec PyProof.Rows L2
/-- the values in the parameters' order; ds: the defaults, in that order -/
def gF {α : Type} : List (Sum Nat D) → List α → List α → List α
  | [], _, _ => []
  | .inl j :: r, ds, xs => match xs[j]? with
    | some x => x :: gF r ds xs
    | none => gF r ds xs
  | .inr _ :: r, d :: ds, xs => d :: gF r ds xs
  | .inr _ :: r, [], xs => gF r [] xs
def vOf : D → V
  | .bl b => .bl b
  | .int i => .int i
  | .str s => .str s
  | _ => .non
def plainD : D → Bool
  | .non => true
  | .bl _ => true
  | .int _ => true
  | .str _ => true
  | _ => false
theorem rp_vOf {G : Wd} {d : D} (h : plainD d = true) : ∀ F, Rp G F (vOf d) d := by
  intro F
  cases d <;> first | cases h | skip
  · exact .non
  · exact .bl _
  · exact .int _
  · exact .str _
theorem rpA_vOf {G : Wd} : ∀ {ds : List D}, ds.all plainD = true → ∀ F, RpA G F (ds.map vOf) ds
  | [], _, F => .nil
  | d :: ds, h, F => by
    rw [List.all_cons, Bool.and_eq_true] at h
    exact .cons (rp_vOf h.1 F) (rpA_vOf h.2 F)
/-- a written tuple of scalars -/
theorem rp_tupW {G : Wd} {a : Addr} {oc : Value} {od : Option Addr} {osl : Array (Option Value)} {its : Array Value} {n : Nat} {ds : List D} (hl : G.K.lookup a = some ⟨oc, od, .seq its n, osl⟩) (hc : oc = .type "tuple") (hs : its.size ≤ sizeLine) (hv : Vals (ds.map vOf) its.toList) (hd : ds.all plainD = true) : ∀ F, Rp G F (.ref a) (.tup ds) :=
  fun F => .tup (.inr ⟨_, its, n, hl, hc, rfl, hs, hv⟩) (rpA_vOf hd F)
def dfl : List (Sum Nat D) → List V
  | [] => []
  | .inl _ :: r => dfl r
  | .inr d :: r => vOf d :: dfl r
def fits (m : Nat) : List (Sum Nat D) → Bool
  | [] => true
  | .inl j :: r => decide (j < m) && fits m r
  | .inr d :: r => plainD d && fits m r
theorem gF_vals : ∀ (fill : List (Sum Nat D)) {vs : List V} {us : List Value} {ds : List V} {es : List Value}, Vals vs us → Vals ds es → Vals (gF fill ds vs) (gF fill es us)
  | [], _, _, _, _, _, _ => .nil
  | .inl j :: r, vs, us, ds, es, h, k => by
    unfold gF
    have ih := gF_vals r h k
    cases q : vs[j]? with
    | none =>
      have hl : us[j]? = none := by
        rw [List.getElem?_eq_none_iff] at q ⊢
        rw [← h.length]; exact q
      rw [hl]
      exact ih
    | some v =>
      obtain ⟨u, hu, ru⟩ := h.get q
      rw [hu]
      exact .cons ru ih
  | .inr _ :: r, vs, us, _, _, h, .nil => by
    unfold gF
    exact gF_vals r h .nil
  | .inr _ :: r, vs, us, _, _, h, .cons a k => by
    unfold gF
    exact .cons a (gF_vals r h k)
theorem gF_fill {G : Wd} : ∀ {fill : List (Sum Nat D)} {xs : List V}, fits xs.length fill = true → (gF fill (dfl fill) xs).length = fill.length ∧ Filled G xs fill (gF fill (dfl fill) xs)
  | [], xs, _ => ⟨rfl, .nil⟩
  | .inl j :: r, xs, h => by
    unfold fits at h
    rw [Bool.and_eq_true, decide_eq_true_eq] at h
    obtain ⟨i1, i2⟩ := gF_fill (G := G) (fill := r) h.2
    have e : xs[j]? = some xs[j] := List.getElem?_eq_getElem h.1
    unfold gF dfl
    rw [e]
    exact ⟨congrArg (· + 1) i1, .arg e i2⟩
  | .inr d :: r, xs, h => by
    unfold fits at h
    rw [Bool.and_eq_true] at h
    obtain ⟨i1, i2⟩ := gF_fill (G := G) (fill := r) h.2
    unfold gF dfl
    exact ⟨congrArg (· + 1) i1, .dfl (rp_vOf h.1) i2⟩
section
variable {K : PySem.W.Frag} {mg : Str → Option Value} {G : Wd} {tb : Tb} {tab : Str → Option Fd} {Gv : Gv} {f : Str} {fa : Addr} {ps : List Str} {fd : FuncData} {d : Fd} {n : Nat} {ks : List Str} {fill : List (Sum Nat D)}
/-- a shape of calls, the binding given -/
theorem sh_mk (h : DefOk K tb tab f fa ps fd d) (hio : Gv.io f = d.io) (hm : mg f = some (.ref fa)) (hk : PySem.W.keepIn K (.ref fa) = true) (hf : fits (n + ks.length) fill = true) (hl : fill.length = ps.length) (its : List Value) (hv : Vals (dfl fill) its)
    (hb : ∀ (s : Shared) (us ws : List Value), K.In s.heap → us.length = n → ws.length = ks.length → BindsTo s fd ⟨us, ks.zip ws⟩ (ps.zip (gF fill its (us ++ ws)))) : ShOk K mg G tb tab Gv ⟨f, n, ks, fill⟩ :=
  ⟨fa, ps, fd, d, fun us ws => gF fill its (us ++ ws), fun vs zs => gF fill (dfl fill) (vs ++ zs), h, hio, hm, hk, ⟨hb, fun r1 r2 => gF_vals fill (r1.append r2) hv⟩, fun vs zs l1 l2 => by
    have := gF_fill (G := G) (fill := fill) (xs := vs ++ zs) (by rw [List.length_append, l1, l2]; exact hf)
    exact ⟨this.1.trans hl, this.2⟩⟩
/-- all is written -/
theorem sh_all (h : DefOk K tb tab f fa ps fd d) (hio : Gv.io f = d.io) (hm : mg f = some (.ref fa)) (hk : PySem.W.keepIn K (.ref fa) = true) (hf : fits (n + ks.length) fill = true) (hl : fill.length = ps.length) (hd : dfl fill = [])
    (hb : ∀ us ws : List Value, us.length = n → ws.length = ks.length → bindArgs fd ⟨us, ks.zip ws⟩ = pure (ps.zip (gF fill [] (us ++ ws)))) : ShOk K mg G tb tab Gv ⟨f, n, ks, fill⟩ :=
  sh_mk h hio hm hk hf hl [] (by rw [hd]; exact .nil) fun s us ws _ l1 l2 => .of_eq (hb us ws l1 l2)
/-- keyword-only ones lack -/
theorem sh_kw (h : DefOk K tb tab f fa ps fd d) (hio : Gv.io f = d.io) (hm : mg f = some (.ref fa)) (hk : PySem.W.keepIn K (.ref fa) = true) (hf : fits (n + ks.length) fill = true) (hl : fill.length = ps.length) (A : Addr) (ms : List (Str × Value)) (hv : Vals (dfl fill) (ms.map (·.2)))
    (hms : ∀ q ∈ ms, PySem.W.nsIn K A q.1 = some (some q.2))
    (hb : ∀ us ws : List Value, us.length = n → ws.length = ks.length → KwChain A ms (bindArgs fd ⟨us, ks.zip ws⟩) (ps.zip (gF fill (ms.map (·.2)) (us ++ ws)))) : ShOk K mg G tb tab Gv ⟨f, n, ks, fill⟩ :=
  sh_mk h hio hm hk hf hl (ms.map (·.2)) hv fun s us ws X l1 l2 => L2.BindsTo.of_looks fun M => KwChain.looks X hms (hb us ws l1 l2)
/-- keyword-only ones lack; the def has defaults by place, too -/
theorem sh_both (h : DefOk K tb tab f fa ps fd d) (hio : Gv.io f = d.io) (hm : mg f = some (.ref fa)) (hk : PySem.W.keepIn K (.ref fa) = true) (hf : fits (n + ks.length) fill = true) (hl : fill.length = ps.length) (A B : Addr) (o : Obj) (its : Array Value) (m : Nat) (hB : K.lookup B = some o) (ho : o.data = .seq its m) (js : List Value) (ms : List (Str × Value)) (hv : Vals (dfl fill) (js ++ ms.map (·.2)))
    (hms : ∀ q ∈ ms, PySem.W.nsIn K A q.1 = some (some q.2))
    (hb : ∀ us ws : List Value, us.length = n → ws.length = ks.length → ∃ k, bindArgs fd ⟨us, ks.zip ws⟩ = seqItems? (.ref B) >>= k ∧ KwChain A ms (k (some its)) (ps.zip (gF fill (js ++ ms.map (·.2)) (us ++ ws)))) : ShOk K mg G tb tab Gv ⟨f, n, ks, fill⟩ :=
  sh_mk h hio hm hk hf hl (js ++ ms.map (·.2)) hv fun s us ws X l1 l2 => L2.BindsTo.of_looks fun M => by
    obtain ⟨k, e1, e2⟩ := hb us ws l1 l2
    rw [e1]
    exact looks_items X hB ho (KwChain.looks X hms e2)
/-- a def, from what stands behind the top -/
theorem def_mk {x qual : Str} {params : Arguments} {body : List Stmt} {sc : Scope} {dV kV doc pm : Value} {an : Option Addr} {cdv ct oc : Value} {od : Option Addr} {osl : Array (Option Value)} {N : List Str} (ht : tab f = some d)
    (lk : K.lookup fa = some ⟨oc, od, .func (PySem.W.fnOf x qual params body sc dV kV doc pm an cdv ct), osl⟩) (cd : PySem.W.codeIn K cdv qual = true) (S : FnScope N ps sc) (hN : d.nl = N.length) (hp : d.np = ps.length) (hd : d.io.Nodup) (hi : ∀ i ∈ d.io, i < ps.length)
    (hc : chkSs tb ⟨N, sc, fun _ => true⟩ d.io d.body body = true) : DefOk K tb tab f fa ps (PySem.W.fnOf x qual params body sc dV kV doc pm an cdv ct) d :=
  ⟨ht, ⟨x, qual, params, body, sc, dV, kV, doc, pm, an, cdv, ct, oc, od, osl, N, rfl, lk, cd, S, hN, hc⟩, hp, hd, hi⟩
end
end Pw

/-! PU1: how the small language is reckoned with: one equation for each form, rules for loops. -/
namespace Pw
open PySem
section
variable {Φ : Orc} {G : Gv} {ρ : Env}
theorem bnd_eq {α β : Type} (m : M α) (f : α → M β) (ρ : Env) : bnd m f ρ = (m ρ).bind fun p => f p.1 p.2 := by
  unfold bnd
  cases m ρ <;> rfl
theorem fzM_eq (m : M O) (ρ : Env) : fzM m ρ = (m ρ).map fun p => (frz p.1, p.2) := by
  unfold fzM
  cases m ρ <;> rfl
theorem lift_eq {α : Type} (a : Option α) (ρ : Env) : lift a ρ = a.map fun x => (x, ρ) := by
  unfold lift
  cases a <;> rfl
theorem rtn_eq {α : Type} (a : α) (ρ : Env) : rtn a ρ = some (a, ρ) := rfl
theorem e_k (d : D) : ev Φ G (.k d) ρ = some (.d d, ρ) := rfl
theorem e_pl (p : P) : ev Φ G (.pl p) ρ = plM p ρ := rfl
theorem e_mv (i : Nat) : ev Φ G (.mv i) ρ = mvM i ρ := rfl
theorem e_gl (x : Str) : ev Φ G (.gl x) ρ = (G.gv x).map fun d => (.d d, ρ) := by
  simp only [ev, lift_eq, Option.map_map, Function.comp_def]
theorem e_bin (op : Operator) (a b : E) : ev Φ G (.bin op a b) ρ = (ev Φ G a ρ).bind fun p => (ev Φ G b p.2).bind fun q => (opD op (frz p.1) (frz q.1)).map fun o => (o, q.2) := by
  simp only [ev, bnd_eq, fzM_eq, lift_eq, Option.bind_map, Function.comp_def]
theorem e_neg (a : E) : ev Φ G (.neg a) ρ = (ev Φ G a ρ).bind fun p => match frz p.1 with
    | .int i => some (.d (.int (-i)), p.2)
    | _ => none := by
  simp only [ev, bnd_eq, fzM_eq, Option.bind_map, Function.comp_def]
  refine congrArg _ (funext fun p => ?_)
  cases frz p.1 <;> rfl
theorem e_tv (b : B) : ev Φ G (.tv b) ρ = (evB Φ G b ρ).map fun p => (.d (.bl p.1), p.2) := by
  simp only [ev, bnd_eq, rtn_eq]
  cases evB Φ G b ρ <;> rfl
theorem e_and (a b : E) : ev Φ G (.and a b) ρ = (ev Φ G a ρ).bind fun p => match tru (frz p.1) with
    | some true => ev Φ G b p.2
    | some false => some (.d (frz p.1), p.2)
    | none => none := by
  simp only [ev, bnd_eq, fzM_eq, Option.bind_map, Function.comp_def]
  refine congrArg _ (funext fun p => ?_)
  cases tru (frz p.1) with
  | none => rfl
  | some t => cases t <;> rfl
theorem e_or (a b : E) : ev Φ G (.or a b) ρ = (ev Φ G a ρ).bind fun p => match tru (frz p.1) with
    | some false => ev Φ G b p.2
    | some true => some (.d (frz p.1), p.2)
    | none => none := by
  simp only [ev, bnd_eq, fzM_eq, Option.bind_map, Function.comp_def]
  refine congrArg _ (funext fun p => ?_)
  cases tru (frz p.1) with
  | none => rfl
  | some t => cases t <;> rfl
theorem e_ife (c : B) (a b : E) : ev Φ G (.ife c a b) ρ = (evB Φ G c ρ).bind fun p => if p.1 then ev Φ G a p.2 else ev Φ G b p.2 := by
  simp only [ev, bnd_eq]
  refine congrArg _ (funext fun p => ?_)
  cases p.1 <;> rfl
theorem e_tup (es : Es) : ev Φ G (.tup es) ρ = (evs Φ G es ρ).bind fun p => (argsO p.1).bind fun os => if os.length ≤ big then some (.d (.tup (frzs os)), p.2) else none := by
  simp only [ev, bnd_eq]
  refine congrArg _ (funext fun p => ?_)
  cases argsO p.1 with
  | none => rfl
  | some os =>
    show (if os.length ≤ big then rtn _ else fun _ => none) p.2 = if os.length ≤ big then _ else none
    split <;> rfl
theorem e_lst (es : Es) : ev Φ G (.lst es) ρ = (evs Φ G es ρ).bind fun p => (argsO p.1).bind fun os => if os.length ≤ big then some (lstO os, p.2) else none := by
  simp only [ev, bnd_eq]
  refine congrArg _ (funext fun p => ?_)
  cases argsO p.1 with
  | none => rfl
  | some os =>
    show (if os.length ≤ big then rtn _ else fun _ => none) p.2 = if os.length ≤ big then _ else none
    split <;> rfl
theorem e_ix (a i : E) : ev Φ G (.ix a i) ρ = (ev Φ G a ρ).bind fun p => (ev Φ G i p.2).bind fun q => (ixI (frz p.1) (frz q.1)).map fun o => (o, q.2) := by
  simp only [ev, bnd_eq, fzM_eq, lift_eq, Option.bind_map, Function.comp_def]
theorem e_ixP (p : P) (i : E) : ev Φ G (.ixP p i) ρ = if (getP ρ p).isSome then (ev Φ G i ρ).bind fun q => (getP q.2 p).bind fun o => (ixOI o (frz q.1)).map fun d => (.d d, q.2) else none := by
  simp only [ev, bnd_eq, fzM_eq, Option.bind_map, Function.comp_def]
  split
  · refine congrArg _ (funext fun q => ?_)
    cases getP q.2 p with
    | none => rfl
    | some o =>
      show (match ixOI o (frz q.1) with | some d => some (O.d d, q.2) | none => none) = (ixOI o (frz q.1)).map fun d => (.d d, q.2)
      cases ixOI o (frz q.1) <;> rfl
  · rfl
theorem e_lenP (p : P) : ev Φ G (.lenP p) ρ = (getP ρ p).bind fun o => (lenO o).map fun n => (.d (.int n), ρ) := by
  simp only [ev]
  cases getP ρ p with
  | none => rfl
  | some o =>
    show (match lenO o with | some n => some (O.d (.int n), ρ) | none => none) = (lenO o).map fun n => (.d (.int n), ρ)
    cases lenO o <;> rfl
theorem e_sl (a : E) (lo hi : Eo) : ev Φ G (.sl a lo hi) ρ = (ev Φ G a ρ).bind fun p => (evo Φ G lo p.2).bind fun q => (evo Φ G hi q.2).bind fun r => (slD (frz p.1) q.1 r.1).map fun o => (o, r.2) := by
  simp only [ev, bnd_eq, fzM_eq, lift_eq, Option.bind_map, Function.comp_def]
theorem e_rev (a : E) : ev Φ G (.rev a) ρ = (ev Φ G a ρ).bind fun p => (revD (frz p.1)).map fun o => (o, p.2) := by
  simp only [ev, bnd_eq, fzM_eq, lift_eq, Option.bind_map, Function.comp_def]
theorem e_call (f : Str) (es ks : Es) (names : List Str) (fill : List (Sum Nat D)) : ev Φ G (.call f es ks names fill) ρ = (evs Φ G es ρ).bind fun p => (evs Φ G ks p.2).bind fun q => (fillArgs ((p.1 ++ q.1).map frzA) fill).bind fun as => callM Φ (G.io f) f as q.2 := by
  simp only [ev, bnd_eq, callF]
  refine congrArg _ (funext fun p => congrArg _ (funext fun q => ?_))
  cases fillArgs ((p.1 ++ q.1).map frzA) fill <;> rfl
theorem e_bi (f : Bi) (es : Es) : ev Φ G (.bi f es) ρ = (evs Φ G es ρ).bind fun p => (argsO p.1).bind fun os => (biD f (frzs os)).map fun o => (o, p.2) := by
  simp only [ev, bnd_eq]
  refine congrArg _ (funext fun p => ?_)
  cases argsO p.1 with
  | none => rfl
  | some os => exact lift_eq _ _
theorem e_isi (a : E) (t : String) : ev Φ G (.isi a t) ρ = (ev Φ G a ρ).bind fun p => (isiD (frz p.1) t).map fun b => (.d (.bl b), p.2) := by
  simp only [ev, bnd_eq, fzM_eq, Option.bind_map, Function.comp_def]
  refine congrArg _ (funext fun p => ?_)
  cases isiD (frz p.1) t <;> rfl
/-- a comprehension's turn -/
def turn (Φ : Orc) (G : Gv) (elt : E) (t : T) (cond : Bo) (own : List Nat) (x : D) (ρ1 : Env) : Option (Option D × Env) := (bindT t x (wipeE ρ1 own)).bind fun ρ2 => (evW Φ G cond ρ2).bind fun p => if p.1 then (ev Φ G elt p.2).map fun q => (some (frz q.1), q.2) else some (none, p.2)
theorem e_lc (elt : E) (t : T) (it : I) (cond : Bo) (own : List Nat) : ev Φ G (.lc elt t it cond own) ρ = (evI Φ G it ρ).bind fun p => if plainAt p.2 own then (lcRun (turn Φ G elt t cond own) p.1 [] (wipeE p.2 own)).map fun q => (.fl q.1, backE p.2 q.2 own) else none := by
  have h : turn Φ G elt t cond own = fun x ρ1 => match bindT t x (wipeE ρ1 own) with
        | some ρ2 => match evW Φ G cond ρ2 with
          | some (true, ρ3) => match fzM (ev Φ G elt) ρ3 with
            | some (y, ρ4) => some (some y, ρ4)
            | none => none
          | some (false, ρ3) => some (none, ρ3)
          | none => none
        | none => none := by
    funext x ρ1
    unfold turn
    cases bindT t x (wipeE ρ1 own) with
    | none => rfl
    | some ρ2 =>
      show (evW Φ G cond ρ2).bind _ = _
      cases q : evW Φ G cond ρ2 with
      | none => simp [q]
      | some p =>
        obtain ⟨b, ρ3⟩ := p
        cases b with
        | false => simp [q]
        | true =>
          simp only [q, fzM_eq]
          show (ev Φ G elt ρ3).map _ = _
          cases ev Φ G elt ρ3 <;> rfl
  simp only [ev, bnd_eq]
  refine congrArg _ (funext fun p => ?_)
  rw [h]
  split
  · show (match lcRun _ p.1 [] (wipeE p.2 own) with
      | some (acc, ρ') => some (O.fl acc, backE p.2 ρ' own)
      | none => none) = _
    cases lcRun _ p.1 [] (wipeE p.2 own) <;> rfl
  · rfl
theorem e_pop (p : P) : ev Φ G (.pop p) ρ = match getP ρ p with
    | some (.fl xs) => match xs.getLast? with
      | some x => (setP ρ p (.fl xs.dropLast)).map fun ρ' => (.d x, ρ')
      | none => none
    | _ => none := by
  simp only [ev]
  generalize getP ρ p = o
  cases o with
  | none => rfl
  | some o =>
    cases o <;> try rfl
    rename_i xs
    show (match xs.getLast? with | some x => (match setP ρ p (.fl xs.dropLast) with | some ρ' => some (O.d x, ρ') | none => none) | none => none) = (match xs.getLast? with | some x => (setP ρ p (.fl xs.dropLast)).map fun ρ' => (O.d x, ρ') | none => none)
    cases xs.getLast? with
    | none => rfl
    | some x =>
      show (match setP ρ p (.fl xs.dropLast) with | some ρ' => some (O.d x, ρ') | none => none) = (setP ρ p (.fl xs.dropLast)).map fun ρ' => (O.d x, ρ')
      cases setP ρ p (.fl xs.dropLast) <;> rfl
theorem es_nil : evs Φ G .nil ρ = some ([], ρ) := rfl
theorem es_cons (e : E) (es : Es) : evs Φ G (.cons e es) ρ = (ev Φ G e ρ).bind fun p => (evs Φ G es p.2).map fun q => (.inl p.1 :: q.1, q.2) := by
  simp only [evs, bnd_eq, rtn_eq]
  refine congrArg _ (funext fun p => ?_)
  cases evs Φ G es p.2 <;> rfl
theorem es_lend (i : Nat) (es : Es) : evs Φ G (.lend i es) ρ = if ((ρ[i]?).join).isSome then (evs Φ G es ρ).map fun q => (.inr i :: q.1, q.2) else none := by
  simp only [evs, bnd_eq, rtn_eq]
  split
  · cases evs Φ G es ρ <;> rfl
  · rfl
theorem eo_none : evo Φ G .none ρ = some (none, ρ) := rfl
theorem eo_some (e : E) : evo Φ G (.some e) ρ = (ev Φ G e ρ).bind fun p => match frz p.1 with
    | .int i => some (some i, p.2)
    | _ => none := by
  simp only [evo, bnd_eq, fzM_eq, Option.bind_map, Function.comp_def]
  refine congrArg _ (funext fun p => ?_)
  cases frz p.1 <;> rfl
theorem ew_none : evW Φ G .none ρ = some (true, ρ) := rfl
theorem ew_some (e : B) : evW Φ G (.some e) ρ = evB Φ G e ρ := rfl
theorem ei_seq (e : E) : evI Φ G (.seq e) ρ = (ev Φ G e ρ).bind fun p => (items (frz p.1)).map fun xs => (xs, p.2) := by
  simp only [evI, bnd_eq, fzM_eq, lift_eq, Option.bind_map, Function.comp_def]
theorem ei_rng1 (a : E) : evI Φ G (.rng1 a) ρ = (ev Φ G a ρ).bind fun p => match frz p.1 with
    | .int n => (rngD 0 n).map fun xs => (xs, p.2)
    | _ => none := by
  simp only [evI, bnd_eq, fzM_eq, Option.bind_map, Function.comp_def]
  refine congrArg _ (funext fun p => ?_)
  cases frz p.1 <;> first | rfl | exact lift_eq _ _
theorem ei_rng2 (a b : E) : evI Φ G (.rng2 a b) ρ = (ev Φ G a ρ).bind fun p => (ev Φ G b p.2).bind fun q => match frz p.1, frz q.1 with
    | .int m, .int n => (rngD m n).map fun xs => (xs, q.2)
    | _, _ => none := by
  simp only [evI, bnd_eq, fzM_eq, Option.bind_map, Function.comp_def]
  refine congrArg _ (funext fun p => congrArg _ (funext fun q => ?_))
  cases frz p.1 <;> cases frz q.1 <;> first | rfl | exact lift_eq _ _
theorem eb_val (e : E) : evB Φ G (.val e) ρ = (ev Φ G e ρ).bind fun p => (tru (frz p.1)).map fun b => (b, p.2) := by
  simp only [evB, bnd_eq, fzM_eq, lift_eq, Option.bind_map, Function.comp_def]
theorem eb_not (b : B) : evB Φ G (.not b) ρ = (evB Φ G b ρ).map fun p => (!p.1, p.2) := by
  simp only [evB, bnd_eq, rtn_eq]
  cases evB Φ G b ρ <;> rfl
theorem eb_and (a b : B) : evB Φ G (.and a b) ρ = (evB Φ G a ρ).bind fun p => if p.1 then evB Φ G b p.2 else some (false, p.2) := by
  simp only [evB, bnd_eq]
  refine congrArg _ (funext fun p => ?_)
  cases p.1 <;> rfl
theorem eb_or (a b : B) : evB Φ G (.or a b) ρ = (evB Φ G a ρ).bind fun p => if p.1 then some (true, p.2) else evB Φ G b p.2 := by
  simp only [evB, bnd_eq]
  refine congrArg _ (funext fun p => ?_)
  cases p.1 <;> rfl
theorem eb_cmp (op : CmpOp) (a b : E) : evB Φ G (.cmp op a b) ρ = (ev Φ G a ρ).bind fun p => (ev Φ G b p.2).bind fun q => (cmpD op (frz p.1) (frz q.1)).map fun r => (r, q.2) := by
  simp only [evB, bnd_eq, fzM_eq, lift_eq, Option.bind_map, Function.comp_def]
theorem eb_cmpP (op : CmpOp) (p : P) (b : E) : evB Φ G (.cmpP op p b) ρ = if (getP ρ p).isSome then (ev Φ G b ρ).bind fun q => (getP q.2 p).bind fun o => (cmpD op (frz o) (frz q.1)).map fun r => (r, q.2) else none := by
  simp only [evB, bnd_eq, fzM_eq, Option.bind_map, Function.comp_def]
  split
  · refine congrArg _ (funext fun q => ?_)
    cases getP q.2 p with
    | none => rfl
    | some o =>
      show (match cmpD op (frz o) (frz q.1) with | some r => some (r, q.2) | none => none) = (cmpD op (frz o) (frz q.1)).map fun r => (r, q.2)
      cases cmpD op (frz o) (frz q.1) <;> rfl
  · rfl
theorem eb_chain (op op' : CmpOp) (a b c : E) : evB Φ G (.chain op op' a b c) ρ = (ev Φ G a ρ).bind fun p => (ev Φ G b p.2).bind fun q => match cmpD op (frz p.1) (frz q.1) with
    | some true => (ev Φ G c q.2).bind fun r => (cmpD op' (frz q.1) (frz r.1)).map fun t => (t, r.2)
    | some false => some (false, q.2)
    | none => none := by
  simp only [evB, bnd_eq, fzM_eq, lift_eq, Option.bind_map, Function.comp_def]
  refine congrArg _ (funext fun p => congrArg _ (funext fun q => ?_))
  cases cmpD op (frz p.1) (frz q.1) with
  | none => rfl
  | some t =>
    cases t
    · rfl
    · simp only [bnd_eq, fzM_eq, lift_eq, Option.bind_map, Function.comp_def]
/-! statements -/
theorem x_set (i : Nat) (e : E) : exS Φ G (.set i e) ρ = (ev Φ G e ρ).bind fun p => if i < p.2.length then some (.nx, p.2.set i (some p.1)) else none := by
  simp only [exS, bnd_eq]
theorem x_setT (t : T) (e : E) : exS Φ G (.setT t e) ρ = (ev Φ G e ρ).bind fun p => (bindT t (frz p.1) p.2).map fun ρ' => (.nx, ρ') := by
  simp only [exS, bnd_eq, fzM_eq, Option.bind_map, Function.comp_def]
  refine congrArg _ (funext fun p => ?_)
  cases bindT t (frz p.1) p.2 <;> rfl
theorem x_setI (p : P) (i e : E) : exS Φ G (.setI p i e) ρ = (ev Φ G e ρ).bind fun a => if (getP a.2 p).isSome then (ev Φ G i a.2).bind fun b => (getP b.2 p).bind fun o => match frz b.1 with
    | .int j => (putAt o j (frz a.1)).bind fun o' => (setP b.2 p o').map fun ρ' => (.nx, ρ')
    | _ => none else none := by
  simp only [exS, bnd_eq, fzM_eq, Option.bind_map, Function.comp_def]
  refine congrArg _ (funext fun a => ?_)
  split
  · refine congrArg _ (funext fun b => ?_)
    cases getP b.2 p with
    | none => cases frz b.1 <;> rfl
    | some o =>
      cases frz b.1 <;> try rfl
      rename_i j
      show (match putAt o j (frz a.1) with | some o' => (match setP b.2 p o' with | some ρ2 => some (Fl.nx, ρ2) | none => none) | none => none) = (putAt o j (frz a.1)).bind fun o' => (setP b.2 p o').map fun ρ' => (.nx, ρ')
      cases putAt o j (frz a.1) with
      | none => rfl
      | some o' =>
        show (match setP b.2 p o' with | some ρ2 => some (Fl.nx, ρ2) | none => none) = (setP b.2 p o').map fun ρ' => (.nx, ρ')
        cases setP b.2 p o' <;> rfl
  · rfl
theorem x_app (p : P) (e : E) : exS Φ G (.app p e) ρ = if isFl (getP ρ p) then (ev Φ G e ρ).bind fun a => match getP a.2 p with
    | some (.fl xs) => if xs.length < big then (setP a.2 p (.fl (xs ++ [frz a.1]))).map fun ρ' => (.nx, ρ') else none
    | _ => none else none := by
  simp only [exS, bnd_eq, fzM_eq, Option.bind_map, Function.comp_def]
  split
  · refine congrArg _ (funext fun a => ?_)
    generalize getP a.2 p = o
    cases o with
    | none => rfl
    | some o =>
      cases o <;> try rfl
      rename_i xs
      show (if xs.length < big then (match setP a.2 p (.fl (xs ++ [frz a.1])) with | some ρ2 => some (Fl.nx, ρ2) | none => none) else none) = if xs.length < big then (setP a.2 p (.fl (xs ++ [frz a.1]))).map fun ρ' => (Fl.nx, ρ') else none
      cases setP a.2 p (.fl (xs ++ [frz a.1])) <;> rfl
  · rfl
theorem x_ex (e : E) : exS Φ G (.ex e) ρ = (ev Φ G e ρ).map fun p => (.nx, p.2) := by
  simp only [exS, bnd_eq, rtn_eq]
  cases ev Φ G e ρ <;> rfl
theorem x_ret (e : E) : exS Φ G (.ret e) ρ = (ev Φ G e ρ).map fun p => (.rt p.1, p.2) := by
  simp only [exS, bnd_eq, rtn_eq]
  cases ev Φ G e ρ <;> rfl
theorem x_retN : exS Φ G .retN ρ = some (.rt (.d .non), ρ) := rfl
theorem x_ifs (c : B) (a b : List S) : exS Φ G (.ifs c a b) ρ = (evB Φ G c ρ).bind fun p => if p.1 then exSs Φ G a p.2 else exSs Φ G b p.2 := by
  simp only [exS, bnd_eq]
  refine congrArg _ (funext fun p => ?_)
  cases p.1 <;> rfl
/-- a loop's turn -/
def fturn (Φ : Orc) (G : Gv) (t : T) (b : List S) (x : D) (ρ : Env) : Option (Fl × Env) := (bindT t x ρ).bind fun ρ' => exSs Φ G b ρ'
theorem x_for (t : T) (it : I) (b : List S) : exS Φ G (.for_ t it b) ρ = (evI Φ G it ρ).bind fun p => forRun (fturn Φ G t b) p.1 p.2 := by
  have h : fturn Φ G t b = fun x ρ => match bindT t x ρ with
    | some ρ' => exSs Φ G b ρ'
    | none => none := by
    funext x ρ
    unfold fturn
    cases bindT t x ρ <;> rfl
  simp only [exS, bnd_eq]
  rw [h]
  first | done | rfl
theorem x_while (c : B) (b : List S) : exS Φ G (.while_ c b) ρ = whileRun (evB Φ G c) (exSs Φ G b) G.fuel ρ := by
  simp only [exS]
theorem x_pass : exS Φ G .pass ρ = some (.nx, ρ) := rfl
theorem x_brk : exS Φ G .brk ρ = some (.bk, ρ) := rfl
theorem x_cont : exS Φ G .cont ρ = some (.ct, ρ) := rfl
theorem xs_nil : exSs Φ G [] ρ = some (.nx, ρ) := rfl
/-- what comes behind a statement -/
def more (Φ : Orc) (G : Gv) (r : List S) : Fl × Env → Option (Fl × Env)
  | (.nx, ρ) => exSs Φ G r ρ
  | (f, ρ) => some (f, ρ)
theorem more_nx (r : List S) : more Φ G r (.nx, ρ) = exSs Φ G r ρ := rfl
theorem more_rt (r : List S) (o : O) : more Φ G r (.rt o, ρ) = some (.rt o, ρ) := rfl
theorem more_bk (r : List S) : more Φ G r (.bk, ρ) = some (.bk, ρ) := rfl
theorem more_ct (r : List S) : more Φ G r (.ct, ρ) = some (.ct, ρ) := rfl
theorem xs_cons (s : S) (r : List S) : exSs Φ G (s :: r) ρ = (exS Φ G s ρ).bind (more Φ G r) := by
  simp only [exSs, bnd_eq]
  refine congrArg _ (funext fun p => ?_)
  obtain ⟨f, ρ'⟩ := p
  cases f <;> rfl
end
/-! loops -/
theorem for_inv {body : D → M Fl} (I : Nat → Env → Prop) {xs : List D} (step : ∀ i x ρ, xs[i]? = some x → I i ρ → ∃ ρ', body x ρ = some (.nx, ρ') ∧ I (i + 1) ρ') : ∀ (m : Nat) {ρ : Env}, m ≤ xs.length → I m ρ → ∃ ρ', forRun body (xs.drop m) ρ = some (.nx, ρ') ∧ I xs.length ρ' := by
  intro m
  generalize hk : xs.length - m = k
  induction k generalizing m with
  | zero =>
    intro ρ hm h
    have : m = xs.length := by omega
    subst this
    rw [List.drop_length]
    exact ⟨ρ, rfl, h⟩
  | succ k ih =>
    intro ρ hm h
    have hlt : m < xs.length := by omega
    obtain ⟨ρ', e, h'⟩ := step m xs[m] ρ (List.getElem?_eq_getElem hlt) h
    obtain ⟨ρ2, e2, h2⟩ := ih (m + 1) (by omega) (by omega) h'
    refine ⟨ρ2, ?_, h2⟩
    rw [List.drop_eq_getElem_cons hlt]
    unfold forRun
    rw [e]
    exact e2
theorem for_all {body : D → M Fl} (I : Nat → Env → Prop) {xs : List D} {ρ : Env} (h : I 0 ρ) (step : ∀ i x ρ, xs[i]? = some x → I i ρ → ∃ ρ', body x ρ = some (.nx, ρ') ∧ I (i + 1) ρ') : ∃ ρ', forRun body xs ρ = some (.nx, ρ') ∧ I xs.length ρ' := by
  have := for_inv I step 0 (Nat.zero_le _) h
  simpa using this
theorem lc_inv {one : D → Env → Option (Option D × Env)} (I : Nat → List D → Env → Prop) {xs : List D} (step : ∀ i x acc ρ, xs[i]? = some x → I i acc ρ → (∃ y ρ', one x ρ = some (some y, ρ') ∧ I (i + 1) (acc ++ [y]) ρ') ∨ ∃ ρ', one x ρ = some (none, ρ') ∧ I (i + 1) acc ρ') :
    ∀ (m : Nat) {acc : List D} {ρ : Env}, m ≤ xs.length → I m acc ρ → ∃ acc' ρ', lcRun one (xs.drop m) acc ρ = some (acc', ρ') ∧ I xs.length acc' ρ' := by
  intro m
  generalize hk : xs.length - m = k
  induction k generalizing m with
  | zero =>
    intro acc ρ hm h
    have : m = xs.length := by omega
    subst this
    rw [List.drop_length]
    exact ⟨acc, ρ, rfl, h⟩
  | succ k ih =>
    intro acc ρ hm h
    have hlt : m < xs.length := by omega
    rw [List.drop_eq_getElem_cons hlt]
    unfold lcRun
    rcases step m xs[m] acc ρ (List.getElem?_eq_getElem hlt) h with ⟨y, ρ', e, h'⟩ | ⟨ρ', e, h'⟩
    · rw [e]
      exact ih (m + 1) (by omega) (by omega) h'
    · rw [e]
      exact ih (m + 1) (by omega) (by omega) h'
theorem lc_all {one : D → Env → Option (Option D × Env)} (I : Nat → List D → Env → Prop) {xs : List D} {ρ : Env} (h : I 0 [] ρ) (step : ∀ i x acc ρ, xs[i]? = some x → I i acc ρ → (∃ y ρ', one x ρ = some (some y, ρ') ∧ I (i + 1) (acc ++ [y]) ρ') ∨ ∃ ρ', one x ρ = some (none, ρ') ∧ I (i + 1) acc ρ') :
    ∃ acc' ρ', lcRun one xs [] ρ = some (acc', ρ') ∧ I xs.length acc' ρ' := by
  have := lc_inv I step 0 (Nat.zero_le _) h
  simpa using this
/-- a comprehension that changes nothing about it -/
theorem lc_map {one : D → Env → Option (Option D × Env)} {ρ : Env} (g : D → D) : ∀ {xs acc : List D}, (∀ x ∈ xs, one x ρ = some (some (g x), ρ)) → lcRun one xs acc ρ = some (acc ++ xs.map g, ρ)
  | [], acc, _ => by simp [lcRun]
  | x :: xs, acc, h => by
    unfold lcRun
    rw [h x List.mem_cons_self]
    show lcRun one xs (acc ++ [g x]) ρ = _
    rw [lc_map g fun y hy => h y (List.mem_cons_of_mem _ hy)]
    simp
theorem rngL_get : ∀ {n i : Nat} {a : Int} {x : D}, (rngL a n)[i]? = some x → i < n ∧ x = .int (a + i)
  | 0, i, a, x, h => by simp [rngL] at h
  | n + 1, 0, a, x, h => by
    simp [rngL] at h
    exact ⟨Nat.succ_pos n, by rw [← h]; simp⟩
  | n + 1, i + 1, a, x, h => by
    have := rngL_get (n := n) (i := i) (a := a + 1) (x := x) (by simpa [rngL] using h)
    refine ⟨Nat.succ_lt_succ this.1, ?_⟩
    rw [this.2]
    congr 1
    omega
theorem rngL_length : ∀ (n : Nat) (a : Int), (rngL a n).length = n
  | 0, a => rfl
  | n + 1, a => congrArg (· + 1) (rngL_length n (a + 1))
theorem rngD_le {a b : Int} (h1 : -1000000 ≤ a) (h2 : a ≤ 1000000) (h3 : -1000000 ≤ b) (h4 : b ≤ 1000000) : rngD a b = some (rngL a (b - a).toNat) := if_pos ⟨h1, h2, h3, h4⟩
theorem run_eq {tab : Str → Option Fd} {G : Gv} {f : Str} {d : Fd} (h : tab f = some d) (k : Nat) (os : List O) : run tab G (k + 1) f os = runFd (run tab G k) G d os := by
  unfold run
  rw [h]
/-- a def's run, from its body's -/
theorem fd_rt {Φ : Orc} {G : Gv} {d : Fd} {os outs : List O} {o : O} {ρ : Env} (hl : os.length = d.np) (h : exSs Φ G d.body (start d.nl os) = some (.rt o, ρ)) (ho : outsOf ρ d.io = some outs) : runFd Φ G d os = some (o, outs) := by
  unfold runFd
  rw [if_pos hl, h]
  show (match outsOf ρ d.io with | some outs => some (o, outs) | none => none) = _
  rw [ho]
end Pw

/-! PV1: the operations, one by one. -/
namespace Pw
open PySem
theorem p64 : (2 : Int) ^ 64 = 18446744073709551616 := by decide +kernel
theorem o_add (i j : Int) : opD .Add (.int i) (.int j) = some (.d (.int (i + j))) := rfl
theorem o_sub (i j : Int) : opD .Sub (.int i) (.int j) = some (.d (.int (i - j))) := rfl
theorem o_mul {i j : Int} (h : (-18446744073709551616 < i ∧ i < 18446744073709551616) ∨ (-18446744073709551616 < j ∧ j < 18446744073709551616)) : opD .Mult (.int i) (.int j) = some (.d (.int (i * j))) := if_pos (by rw [p64]; exact h)
theorem o_div {i j : Int} (h : 0 < j ∧ j < 1073741824) : opD .FloorDiv (.int i) (.int j) = some (.d (.int (i / j))) := if_pos h
theorem o_mod {i j : Int} (h : 0 < j) : opD .Mod (.int i) (.int j) = some (.d (.int (i % j))) := if_pos h
theorem o_pow {i j : Int} (h : 0 ≤ j) (h1 : j ≤ 1000000) (h2 : i.natAbs < 18446744073709551616) : opD .Pow (.int i) (.int j) = some (.d (.int (i ^ j.toNat))) := if_pos ⟨h, h1, by
  have : (2 : Nat) ^ 64 = 18446744073709551616 := by decide +kernel
  rw [this]; exact h2⟩
theorem o_shl {i j : Int} (h : 0 ≤ j) (h1 : j ≤ 1000000) (h2 : i.natAbs < 18446744073709551616) : opD .LShift (.int i) (.int j) = some (.d (.int (i * 2 ^ j.toNat))) := if_pos ⟨h, h1, by
  have : (2 : Nat) ^ 64 = 18446744073709551616 := by decide +kernel
  rw [this]; exact h2⟩
theorem o_shr {i j : Int} (h : 0 ≤ j) : opD .RShift (.int i) (.int j) = some (.d (.int (i / 2 ^ j.toNat))) := if_pos h
theorem o_and (i j : Int) : opD .BitAnd (.int i) (.int j) = some (.d (.int (Builtin.bitAnd i j))) := rfl
theorem o_or (i j : Int) : opD .BitOr (.int i) (.int j) = some (.d (.int (Builtin.bitOr i j))) := rfl
theorem o_xor (i j : Int) : opD .BitXor (.int i) (.int j) = some (.d (.int (Builtin.bitXor i j))) := rfl
theorem o_addT {a b : List D} (h : a.length + b.length ≤ big) : opD .Add (.tup a) (.tup b) = some (.d (.tup (a ++ b))) := if_pos h
theorem o_addL {a b : List D} (h : a.length + b.length ≤ big) : opD .Add (.lst a) (.lst b) = some (.fl (a ++ b)) := if_pos h
theorem o_addS {a b : Str} (h : a.length + b.length ≤ big) : opD .Add (.str a) (.str b) = some (.d (.str (a ++ b))) := if_pos h
/-! comparisons -/
theorem q_int (i j : Int) : eqD (.int i) (.int j) = some (i == j) := rfl
theorem q_bl (i j : Bool) : eqD (.bl i) (.bl j) = some (i == j) := rfl
theorem q_str (i j : Str) : eqD (.str i) (.str j) = some (i == j) := rfl
theorem c_eq (x y : D) : cmpD .Eq x y = eqD x y := by unfold cmpD; cases x <;> rfl
theorem c_ne (x y : D) : cmpD .NotEq x y = (eqD x y).map (!·) := by unfold cmpD; cases x <;> rfl
theorem c_lt (i j : Int) : cmpD .Lt (.int i) (.int j) = some (decide (i < j)) := rfl
theorem c_le (i j : Int) : cmpD .LtE (.int i) (.int j) = some (decide (i ≤ j)) := rfl
theorem c_gt (i j : Int) : cmpD .Gt (.int i) (.int j) = some (decide (j < i)) := rfl
theorem c_ge (i j : Int) : cmpD .GtE (.int i) (.int j) = some (decide (j ≤ i)) := rfl
/-! a list of numbers, beside a list -/
theorem toPys_ints : ∀ ns : List Int, toPys (ns.map D.int) = some (ns.map PyData.int)
  | [] => rfl
  | n :: r => by
    show (match toPy (.int n), toPys (r.map D.int) with | some a, some b => some (a :: b) | _, _ => none) = _
    rw [toPys_ints r]
    rfl
theorem u_non : tru .non = some false := rfl
theorem u_bl (b : Bool) : tru (.bl b) = some b := rfl
theorem u_int (i : Int) : tru (.int i) = some (i != 0) := rfl
theorem u_tup (xs : List D) : tru (.tup xs) = some (!xs.isEmpty) := rfl
theorem u_lst (xs : List D) : tru (.lst xs) = some (!xs.isEmpty) := rfl
theorem f_d (x : D) : frz (.d x) = x := rfl
theorem f_fl (xs : List D) : frz (.fl xs) = .lst xs := rfl
theorem f_ml (xs : List O) : frz (.ml xs) = .lst (frzs xs) := rfl
theorem fs_nil : frzs [] = [] := rfl
theorem fs_cons (x : O) (xs : List O) : frzs (x :: xs) = frz x :: frzs xs := rfl
theorem lst_fl {os : List O} (h : os.all isDt = true) : lstO os = .fl (frzs os) := if_pos h
theorem a_nil : argsO [] = some [] := rfl
theorem a_cons (o : O) (r : List Arg) : argsO (.inl o :: r) = (argsO r).map (o :: ·) := rfl
theorem at_get {α : Type} {xs : List α} {i : Int} {n : Nat} (h : i = n) : L2.atI xs i = xs[n]? := by
  subst h
  unfold L2.atI L2.ixN
  rw [if_pos (Int.natCast_nonneg n)]
  by_cases hn : n < xs.length
  · rw [if_pos (by omega)]; rfl
  · rw [if_neg (by omega), List.getElem?_eq_none (by omega)]; rfl
/-- an int, taken out of a list of numbers -/
theorem last_map {ns : List Int} : (ns.map D.int).getLast? = ns.getLast?.map D.int := by
  rw [List.getLast?_map]
theorem drop_map {ns : List Int} : (ns.map D.int).dropLast = ns.dropLast.map D.int := by
  rw [List.map_dropLast]
theorem ints_map : ∀ ns : List Int, intsD (ns.map D.int) = some ns
  | [] => rfl
  | n :: r => by
    show (intsD (r.map D.int)).map (n :: ·) = _
    rw [ints_map r]; rfl
end Pw

/-! PW1: the deck that all laws draw from. -/
namespace Pw
open PySem
def F_full : Fd := ⟨1, 3, [], [
    .set 1 (.k (.int 1)),
    .for_ (.v 2) (.rng1 (.pl (.v 0))) [
      .set 1 (.bin .Mult (.pl (.v 1)) (.k (.int 2)))],
    .ret (.pl (.v 1))]⟩
def F_draw : Fd := ⟨2, 4, [0], [
    .setI (.v 0) (.k (.int 2)) (.bin .Add (.ixP (.v 0) (.k (.int 2))) (.k (.int 1))),
    .set 2 (.ixP (.v 0) (.k (.int 1))),
    .ifs (.cmpP .NotEq (.at (.v 0) 0) (.lst .nil)) [
      .set 2 (.pop (.at (.v 0) 0)),
      .ifs (.cmp .GtE (.pl (.v 2)) (.bin .Pow (.k (.int 10)) (.k (.int 18)))) [
        .app (.at (.v 0) 0) (.bin .FloorDiv (.pl (.v 2)) (.pl (.v 1))),
        .ret (.bin .Mod (.pl (.v 2)) (.pl (.v 1)))] []] [],
    .set 3 (.bin .Mod (.bin .Mult (.bin .Add (.bin .Add (.bin .Mod (.pl (.v 2)) (.k (.int 2147483629))) (.bin .Mult (.k (.int 65537)) (.ixP (.v 0) (.k (.int 2))))) (.k (.int 19))) (.k (.int 48271))) (.k (.int 2147483647))),
    .set 3 (.bin .Mod (.bin .Add (.bin .Add (.bin .Mult (.pl (.v 3)) (.pl (.v 3))) (.bin .Mult (.k (.int 69621)) (.ixP (.v 0) (.k (.int 2))))) (.k (.int 23))) (.k (.int 2147483587))),
    .ret (.bin .Mod (.bin .FloorDiv (.bin .Mod (.bin .Add (.bin .Mult (.pl (.v 3)) (.pl (.v 3))) (.bin .Mult (.k (.int 39373)) (.pl (.v 3)))) (.k (.int 2147483563))) (.k (.int 64))) (.pl (.v 1)))]⟩
def F_deck : Fd := ⟨1, 3, [], [
    .set 1 (.bi .list (.cons (.sl (.pl (.v 0)) .none (.some (.k (.int 63)))) .nil)),
    .ret (.lst (.cons (.rev (.pl (.v 1))) (.cons (.bin .Add (.bi .sum (.cons (.lc (.bin .Mod (.pl (.v 2)) (.k (.int 1000003))) (.v 2) (.seq (.pl (.v 1))) .none [2]) .nil)) (.bin .Mult (.k (.int 7919)) (.bi .len (.cons (.pl (.v 1)) .nil)))) (.cons (.k (.int 0)) .nil))))]⟩
/-- a deck of cells -/
def deck (cs : List Int) (b c : Int) : O := .ml [.fl (cs.map .int), .d (.int b), .d (.int c)]
def DeckOk (cs : List Int) : Prop := cs.length ≤ 1000000
section
variable {Φ : Orc} {G : Gv} {tab : Str → Option Fd}
theorem full_turn (w : Nat) (i : Nat) (x : D) (y : Option O) : fturn Φ G (.v 2) [.set 1 (.bin .Mult (.pl (.v 1)) (.k (.int 2)))] x [some (.d (.int w)), some (.d (.int (2 ^ i))), y] = some (.nx, [some (.d (.int w)), some (.d (.int (2 ^ (i + 1)))), some (.d x)]) := by
  have h : opD .Mult (.int (2 ^ i)) (.int 2) = some (.d (.int (2 ^ (i + 1)))) := by
    rw [o_mul (.inr ⟨by decide, by decide⟩), Int.pow_succ]
  simp -implicitDefEqProofs [fturn, bindT, xs_cons, x_set, e_bin, e_pl, e_k, plM, getP, f_d, xs_nil, more_nx, h]
theorem full_loop (w : Nat) : ∃ y, forRun (fturn Φ G (.v 2) [.set 1 (.bin .Mult (.pl (.v 1)) (.k (.int 2)))]) (rngL 0 w) [some (.d (.int w)), some (.d (.int 1)), none] = some (.nx, [some (.d (.int w)), some (.d (.int (2 ^ w))), y]) := by
  obtain ⟨ρ', e, y, rfl⟩ := for_all (body := fturn Φ G (.v 2) [.set 1 (.bin .Mult (.pl (.v 1)) (.k (.int 2)))]) (fun i ρ => ∃ y, ρ = [some (.d (.int w)), some (.d (.int (2 ^ i))), y]) (xs := rngL 0 w) (ρ := [some (.d (.int w)), some (.d (.int 1)), none]) ⟨none, rfl⟩ (by
    rintro i x ρ hx ⟨y, rfl⟩
    exact ⟨_, full_turn w i x y, _, rfl⟩)
  rw [rngL_length] at e
  exact ⟨y, e⟩
theorem rng_nat {w : Nat} (h : w ≤ 1000000) : rngD 0 w = some (rngL 0 w) := by
  rw [rngD_le (by omega) (by omega) (by omega) (by omega)]
  simp
theorem full_ok (ht : tab "_law_full" = some F_full) (k : Nat) {w : Nat} (h : w ≤ 1000000) : run tab G (k + 1) "_law_full" [.d (.int w)] = some (.d (.int (2 ^ w)), []) := by
  refine (run_eq ht k _).trans ?_
  obtain ⟨y, e⟩ := full_loop (Φ := run tab G k) (G := G) w
  refine fd_rt (ρ := [some (.d (.int w)), some (.d (.int (2 ^ w))), y]) rfl ?_ rfl
  simp -implicitDefEqProofs [F_full, Pw.start, xs_cons, x_set, x_for, x_ret, ei_rng1, e_pl, e_k, plM, getP, f_d, more_nx, more_rt, rng_nat h, e]
theorem shaped_ints (ns : List Int) : PySem.SeqAt.shaped (.list (ns.map PyData.int)) = true := by
  have h1 : ∀ ns : List Int, PyData.canLayAll0 (ns.map PyData.int) = true := by
    intro ns
    induction ns with
    | nil => rfl
    | cons n r ih =>
      show (true && PyData.canLayAll0 (r.map PyData.int)) = true
      rw [ih]; rfl
  have h2 : ∀ ns : List Int, PyData.depthAll (ns.map PyData.int) = 0 := by
    intro ns
    induction ns with
    | nil => rfl
    | cons n r ih =>
      show max 0 (PyData.depthAll (r.map PyData.int)) = 0
      rw [ih]; rfl
  unfold SeqAt.shaped
  have e1 : (PyData.list (ns.map PyData.int)).canLay0 = true := h1 ns
  have e2 : (PyData.list (ns.map PyData.int)).depth = 1 := congrArg (· + 1) (h2 ns)
  rw [e1, e2]
  rfl
theorem eq_ints_nil (ns : List Int) : eqD (.lst (ns.map D.int)) (.lst []) = some ns.isEmpty := by
  have e : toPy (.lst (ns.map D.int)) = some (.list (ns.map PyData.int)) := by
    show (toPys (ns.map D.int)).map PyData.list = _
    rw [toPys_ints]; rfl
  have e0 : toPy (.lst []) = some (.list []) := rfl
  have s0 : SeqAt.shaped (.list []) = true := shaped_ints []
  show (match toPy (.lst (ns.map D.int)), toPy (.lst []) with
    | some a, some b => if SeqAt.shaped a && SeqAt.shaped b then some (PyData.eqv a b) else none
    | _, _ => none) = _
  rw [e, e0]
  show (if (SeqAt.shaped (.list (ns.map PyData.int)) && SeqAt.shaped (.list [])) = true then _ else _) = _
  rw [shaped_ints, s0]
  cases ns <;> rfl
theorem deck_at0 (cs : List Int) (b c : Int) (r : Pw.Env) : getP (some (deck cs b c) :: r) (.at (.v 0) 0) = some (.fl (cs.map .int)) := rfl
theorem deck_set (cs cs' : List Int) (b c : Int) (r : Pw.Env) : setP (some (deck cs b c) :: r) (.at (.v 0) 0) (.fl (cs'.map .int)) = some (some (deck cs' b c) :: r) := rfl
theorem getP_1 (a b : Option O) (r : Pw.Env) : getP (a :: b :: r) (.v 1) = b := by cases b <;> rfl
theorem getP_2 (a b c : Option O) (r : Pw.Env) : getP (a :: b :: c :: r) (.v 2) = c := by cases c <;> rfl
theorem getP_3 (a b c d : Option O) (r : Pw.Env) : getP (a :: b :: c :: d :: r) (.v 3) = d := by cases d <;> rfl
theorem set_3 (a b c d e : Option O) (r : Pw.Env) : (a :: b :: c :: d :: r).set 3 e = a :: b :: c :: e :: r := rfl
theorem set_2 (a b c e : Option O) (r : Pw.Env) : (a :: b :: c :: r).set 2 e = a :: b :: e :: r := rfl
theorem deck_v (cs : List Int) (b c : Int) (r : Pw.Env) : getP (some (deck cs b c) :: r) (.v 0) = some (deck cs b c) := rfl
theorem deck_ix1 (cs : List Int) (b c : Int) : ixOI (deck cs b c) (.int 1) = some (.int b) := rfl
theorem deck_ix2 (cs : List Int) (b c : Int) : ixOI (deck cs b c) (.int 2) = some (.int c) := rfl
theorem deck_put (cs : List Int) (b c c' : Int) : putAt (deck cs b c) 2 (.int c') = some (deck cs b c') := rfl
theorem deck_setv (o o' : O) (r : Pw.Env) : setP (some o :: r) (.v 0) o' = some (some o' :: r) := by
  show (if 0 < (some o :: r).length then some ((some o :: r).set 0 (some o')) else none) = _
  rw [if_pos (by simp)]
  rfl
/-- a draw: a number below m, the deck another one -/
theorem draw_ok (ht : tab "_law_draw" = some F_draw) (k : Nat) {m : Int} (h0 : 0 < m) (h1 : m < 1073741824) {cs : List Int} (b c : Int) (hd : DeckOk cs) :
    ∃ v cs' b' c', run tab G (k + 1) "_law_draw" [deck cs b c, .d (.int m)] = some (.d (.int v), [deck cs' b' c']) ∧ 0 ≤ v ∧ v < m ∧ DeckOk cs' := by
  have first : ∀ r : List S, exSs (run tab G k) G (.setI (.v 0) (.k (.int 2)) (.bin .Add (.ixP (.v 0) (.k (.int 2))) (.k (.int 1))) :: .set 2 (.ixP (.v 0) (.k (.int 1))) :: r) [some (deck cs b c), some (.d (.int m)), none, none] = exSs (run tab G k) G r [some (deck cs b (c + 1)), some (.d (.int m)), some (.d (.int b)), none] := by
    intro r
    simp -implicitDefEqProofs [xs_cons, x_setI, x_set, e_bin, e_ixP, e_k, deck_v, deck_ix2, deck_ix1, f_d, o_add, deck_put, deck_setv, more_nx]
  have last : ∀ (cs : List Int) (b c q : Int) , ∃ v q', exSs (run tab G k) G (F_draw.body.drop 3) [some (deck cs b c), some (.d (.int m)), some (.d (.int q)), none] = some (.rt (.d (.int v)), [some (deck cs b c), some (.d (.int m)), some (.d (.int q)), some (.d (.int q'))]) ∧ 0 ≤ v ∧ v < m := by
    intro cs b c q
    generalize hy : (q % 2147483629 + 65537 * c + 19) * 48271 % 2147483647 = y
    have y0 : 0 ≤ y := by rw [← hy]; exact Int.emod_nonneg _ (by decide)
    have y1 : y < 2147483647 := by rw [← hy]; exact Int.emod_lt_of_pos _ (by decide)
    generalize hz : (y * y + 69621 * c + 23) % 2147483587 = z
    have z0 : 0 ≤ z := by rw [← hz]; exact Int.emod_nonneg _ (by decide)
    have z1 : z < 2147483587 := by rw [← hz]; exact Int.emod_lt_of_pos _ (by decide)
    have m1 : opD .Mod (.int q) (.int 2147483629) = some (.d (.int (q % 2147483629))) := o_mod (by decide)
    have m2 : opD .Mult (.int 65537) (.int c) = some (.d (.int (65537 * c))) := o_mul (.inl ⟨by decide, by decide⟩)
    have m3 : ∀ x : Int, opD .Mult (.int x) (.int 48271) = some (.d (.int (x * 48271))) := fun x => o_mul (.inr ⟨by decide, by decide⟩)
    have m4 : ∀ x : Int, opD .Mod (.int x) (.int 2147483647) = some (.d (.int (x % 2147483647))) := fun x => o_mod (by decide)
    have m5 : opD .Mult (.int y) (.int y) = some (.d (.int (y * y))) := o_mul (.inl ⟨by omega, by omega⟩)
    have m6 : opD .Mult (.int 69621) (.int c) = some (.d (.int (69621 * c))) := o_mul (.inl ⟨by decide, by decide⟩)
    have m7 : ∀ x : Int, opD .Mod (.int x) (.int 2147483587) = some (.d (.int (x % 2147483587))) := fun x => o_mod (by decide)
    have m8 : opD .Mult (.int z) (.int z) = some (.d (.int (z * z))) := o_mul (.inl ⟨by omega, by omega⟩)
    have m9 : opD .Mult (.int 39373) (.int z) = some (.d (.int (39373 * z))) := o_mul (.inl ⟨by decide, by decide⟩)
    have m10 : ∀ x : Int, opD .Mod (.int x) (.int 2147483563) = some (.d (.int (x % 2147483563))) := fun x => o_mod (by decide)
    have m11 : ∀ x : Int, opD .FloorDiv (.int x) (.int 64) = some (.d (.int (x / 64))) := fun x => o_div ⟨by decide, by decide⟩
    have m12 : ∀ x : Int, opD .Mod (.int x) (.int m) = some (.d (.int (x % m))) := fun x => o_mod h0
    refine ⟨(z * z + 39373 * z) % 2147483563 / 64 % m, z, ?_, Int.emod_nonneg _ (by omega), Int.emod_lt_of_pos _ h0⟩
    simp -implicitDefEqProofs only [F_draw, List.drop_succ_cons, List.drop_zero, xs_cons, x_set, x_ret, e_bin, e_ixP, e_k, e_pl, plM, deck_v, deck_ix2, f_d, o_add, more_nx, more_rt, m1, m2, m3, m4, Option.bind_some, Option.map_some, Option.isSome_some, if_true, getP_2, getP_1, getP_3, List.length_cons, List.length_nil, set_3, hy, m5, m6, m7, hz, m8, m9, m10, m11, m12, Nat.reduceAdd, Nat.reduceLT]
  have enter : run tab G (k + 1) "_law_draw" [deck cs b c, .d (.int m)] = runFd (run tab G k) G F_draw [deck cs b c, .d (.int m)] := run_eq ht k _
  rw [enter]
  have p18 : opD .Pow (.int 10) (.int 18) = some (.d (.int 1000000000000000000)) := by
    have : (10 : Int) ^ (Int.toNat 18) = 1000000000000000000 := by decide +kernel
    rw [o_pow (by decide) (by decide) (by decide), this]
  have md : ∀ x : Int, opD .Mod (.int x) (.int m) = some (.d (.int (x % m))) := fun x => o_mod h0
  have dv : ∀ x : Int, opD .FloorDiv (.int x) (.int m) = some (.d (.int (x / m))) := fun x => o_div ⟨h0, h1⟩
  have body : exSs (run tab G k) G F_draw.body (Pw.start F_draw.nl [deck cs b c, .d (.int m)]) = exSs (run tab G k) G F_draw.body [some (deck cs b c), some (.d (.int m)), none, none] := rfl
  have split : cs = [] ∨ ∃ l x, cs = l ++ [x] := by
    rcases List.eq_nil_or_concat cs with h | ⟨l, x, h⟩
    · exact .inl h
    · exact .inr ⟨l, x, by rw [h, List.concat_eq_append]⟩
  rcases split with rfl | ⟨cs, x, rfl⟩
  ·
    obtain ⟨v, q', e, v0, v1⟩ := last [] b (c + 1) b
    refine ⟨v, [], b, c + 1, fd_rt (ρ := [some (deck [] b (c + 1)), some (.d (.int m)), some (.d (.int b)), some (.d (.int q'))]) rfl (body.trans ?_) rfl, v0, v1, hd⟩
    show exSs (run tab G k) G (_ :: _ :: _) _ = _
    rw [first]
    rw [xs_cons, x_ifs, eb_cmpP]
    have n0 : eqD (.lst []) (.lst []) = some true := eq_ints_nil []
    have g0 : getP [some (deck [] b (c + 1)), some (.d (.int m)), some (.d (.int b)), none] (.at (.v 0) 0) = some (.fl []) := rfl
    have l0 : lstO [] = .fl [] := rfl
    simp -implicitDefEqProofs only [g0, Option.isSome_some, if_true, e_lst, es_nil, Option.bind_some, a_nil, List.length_nil, l0, f_fl, fs_nil, c_ne, n0, Option.map_some, Bool.not_true, Nat.zero_le, Bool.false_eq_true, if_false, xs_nil, more_nx]
    exact e
  · have hd' : DeckOk cs := by
      unfold DeckOk at hd ⊢
      rw [List.length_append, List.length_singleton] at hd
      omega
    have ne : eqD (.lst ((cs ++ [x]).map D.int)) (.lst []) = some false := by
      rw [eq_ints_nil]
      cases cs <;> rfl
    have g0 : getP [some (deck (cs ++ [x]) b (c + 1)), some (.d (.int m)), some (.d (.int b)), none] (.at (.v 0) 0) = some (.fl ((cs ++ [x]).map .int)) := rfl
    have l0 : lstO [] = .fl [] := rfl
    have gl : ((cs ++ [x]).map D.int).getLast? = some (.int x) := by simp
    have dl : ((cs ++ [x]).map D.int).dropLast = cs.map D.int := by simp
    have st : setP [some (deck (cs ++ [x]) b (c + 1)), some (.d (.int m)), some (.d (.int b)), none] (.at (.v 0) 0) (.fl (cs.map .int)) = some [some (deck cs b (c + 1)), some (.d (.int m)), some (.d (.int b)), none] := rfl
    have g1 : getP [some (deck cs b (c + 1)), some (.d (.int m)), some (.d (.int x)), none] (.at (.v 0) 0) = some (.fl (cs.map .int)) := rfl
    by_cases hx : 1000000000000000000 ≤ x
    · refine ⟨x % m, cs ++ [x / m], b, c + 1, fd_rt (ρ := [some (deck (cs ++ [x / m]) b (c + 1)), some (.d (.int m)), some (.d (.int x)), none]) rfl (body.trans ?_) rfl, Int.emod_nonneg _ (by omega), Int.emod_lt_of_pos _ h0, ?_⟩
      · show exSs (run tab G k) G (_ :: _ :: _) _ = _
        rw [first]
        rw [xs_cons, x_ifs, eb_cmpP]
        have s1 : setP [some (deck cs b (c + 1)), some (.d (.int m)), some (.d (.int x)), none] (.at (.v 0) 0) (.fl (cs.map D.int ++ [D.int (x / m)])) = some [some (deck (cs ++ [x / m]) b (c + 1)), some (.d (.int m)), some (.d (.int x)), none] := by
          have : cs.map D.int ++ [D.int (x / m)] = (cs ++ [x / m]).map D.int := by simp
          rw [this]; rfl
        have lb : (cs.map D.int).length < big := by
          rw [List.length_map]
          unfold DeckOk at hd'
          unfold big
          omega
        simp -implicitDefEqProofs only [g0, Option.isSome_some, if_true, e_lst, es_nil, Option.bind_some, a_nil, List.length_nil, l0, f_fl, fs_nil, c_ne, ne, Option.map_some, Bool.not_false, Nat.zero_le, xs_cons, x_set, e_pop, gl, dl, st, List.length_cons, Nat.reduceAdd, Nat.reduceLT, set_2, more_nx,
          x_ifs, eb_cmp, e_pl, plM, getP_2, getP_1, e_bin, e_k, f_d, p18, c_ge, hx, decide_true, x_app, g1, isFl, dv, lb, s1, x_ret, md, more_rt]
      · unfold DeckOk at hd' ⊢
        unfold DeckOk at hd
        rw [List.length_append, List.length_singleton] at hd ⊢
        omega
    · obtain ⟨v, q', e, v0, v1⟩ := last cs b (c + 1) x
      refine ⟨v, cs, b, c + 1, fd_rt (ρ := [some (deck cs b (c + 1)), some (.d (.int m)), some (.d (.int x)), some (.d (.int q'))]) rfl (body.trans ?_) rfl, v0, v1, hd'⟩
      show exSs (run tab G k) G (_ :: _ :: (.ifs (.cmpP .NotEq (.at (.v 0) 0) (.lst .nil)) _ []) :: F_draw.body.drop 3) _ = _
      rw [first]
      rw [xs_cons, x_ifs, eb_cmpP]
      simp -implicitDefEqProofs only [g0, Option.isSome_some, if_true, e_lst, es_nil, Option.bind_some, a_nil, List.length_nil, l0, f_fl, fs_nil, c_ne, ne, Option.map_some, Bool.not_false, Nat.zero_le, xs_cons, x_set, e_pop, gl, dl, st, List.length_cons, Nat.reduceAdd, Nat.reduceLT, set_2, more_nx,
        x_ifs, eb_cmp, e_pl, plM, getP_2, getP_1, e_bin, e_k, f_d, p18, c_ge, hx, decide_false, Bool.false_eq_true, if_false, xs_nil]
      exact e
theorem cut_map (ns : List Int) (lo hi : Option Int) : cutL (ns.map D.int) lo hi = (cutL ns lo hi).map D.int := by
  unfold cutL
  rw [List.length_map, List.map_take, List.map_drop]
theorem cut_len (ns : List Int) (lo hi : Option Int) : (cutL ns lo hi).length ≤ ns.length := by
  unfold cutL
  rw [List.length_take, List.length_drop]
  omega
/-- the deck of a script -/
theorem deck_ok (ht : tab "_law_deck" = some F_deck) (k : Nat) {ns : List Int} (hl : ns.length ≤ 63) : ∃ cs b, run tab G (k + 1) "_law_deck" [.d (.xl (ns.map D.int))] = some (deck cs b 0, []) ∧ DeckOk cs := by
  generalize hc : cutL ns none (some 63) = cs
  have hcl : cs.length ≤ 63 := by rw [← hc]; exact Nat.le_trans (cut_len ns _ _) hl
  have cut : slD (.xl (ns.map D.int)) none (some 63) = some (.fl (cs.map D.int)) := by
    rw [← hc, ← cut_map]; rfl
  obtain ⟨acc, ρ', e, ⟨ms, rfl, hm⟩, y, rfl⟩ := lc_all (one := turn (run tab G k) G (.bin .Mod (.pl (.v 2)) (.k (.int 1000003))) (.v 2) .none [2]) (fun i acc ρ => (∃ ms : List Int, acc = ms.map D.int ∧ ms.length = i) ∧ ∃ y, ρ = [some (.d (.xl (ns.map D.int))), some (.d (.lst (cs.map D.int))), y])
    (xs := cs.map D.int) (ρ := [some (.d (.xl (ns.map D.int))), some (.d (.lst (cs.map D.int))), none]) ⟨⟨[], rfl, rfl⟩, none, rfl⟩ (by
    rintro i x acc ρ hx ⟨⟨ms, rfl, hm⟩, y, rfl⟩
    rw [List.getElem?_map] at hx
    cases q : cs[i]? with
    | none => rw [q] at hx; cases hx
    | some n =>
      rw [q] at hx
      cases hx
      refine .inl ⟨.int (n % 1000003), [some (.d (.xl (ns.map D.int))), some (.d (.lst (cs.map D.int))), some (.d (.int n))], ?_, ⟨ms ++ [n % 1000003], by simp, by simp [hm]⟩, _, rfl⟩
      have md : opD .Mod (.int n) (.int 1000003) = some (.d (.int (n % 1000003))) := o_mod (by decide)
      have bt : bindT (.v 2) (.int n) (wipeE [some (.d (.xl (ns.map D.int))), some (.d (.lst (cs.map D.int))), y] [2]) = some [some (.d (.xl (ns.map D.int))), some (.d (.lst (cs.map D.int))), some (.d (.int n))] := rfl
      simp -implicitDefEqProofs only [turn, bt, Option.bind_some, ew_none, if_true, e_bin, e_pl, plM, getP_2, e_k, f_d, md, Option.map_some])
  refine ⟨cs.reverse, ms.sum + 7919 * cs.length, ?_, ?_⟩
  · refine (run_eq ht k _).trans (fd_rt (ρ := [some (.d (.xl (ns.map D.int))), some (.d (.lst (cs.map D.int))), none]) rfl ?_ rfl)
    have body : exSs (run tab G k) G F_deck.body (Pw.start F_deck.nl [.d (.xl (ns.map D.int))]) = exSs (run tab G k) G F_deck.body [some (.d (.xl (ns.map D.int))), none, none] := rfl
    rw [body]
    have bl : biD .list [.lst (cs.map D.int)] = some (.fl (cs.map D.int)) := rfl
    have g0 : ∀ r : Pw.Env, getP (some (.d (.xl (ns.map D.int))) :: r) (.v 0) = some (.d (.xl (ns.map D.int))) := fun r => rfl
    have g1 : ∀ (a : Option O) (r : Pw.Env), getP (a :: some (.fl (cs.map D.int)) :: r) (.v 1) = some (.fl (cs.map D.int)) := fun a r => rfl
    have s1 : ∀ (a b c : Option O) (e : O), setP [a, b, c] (.v 1) e = some [a, some e, c] := fun a b c e => rfl
    have st1 : ∀ (a b c e : Option O), [a, b, c].set 1 e = [a, e, c] := fun a b c e => rfl
    have rv : revD (.lst (cs.map D.int)) = some (.fl (cs.reverse.map D.int)) := by
      show some (O.fl (cs.map D.int).reverse) = _
      rw [List.map_reverse]
    have it : items (.lst (cs.map D.int)) = some (cs.map D.int) := rfl
    have pn : plainAt [some (.d (.xl (ns.map D.int))), some (.d (.lst (cs.map D.int))), none] [2] = true := rfl
    have wp : wipeE [some (.d (.xl (ns.map D.int))), some (.d (.lst (cs.map D.int))), none] [2] = [some (.d (.xl (ns.map D.int))), some (.d (.lst (cs.map D.int))), none] := rfl
    have bk : backE [some (.d (.xl (ns.map D.int))), some (.d (.lst (cs.map D.int))), none] [some (.d (.xl (ns.map D.int))), some (.d (.lst (cs.map D.int))), y] [2] = [some (.d (.xl (ns.map D.int))), some (.d (.lst (cs.map D.int))), none] := rfl
    have sm : biD .sum [.lst (ms.map D.int)] = some (.d (.int ms.sum)) := by
      show (intsD (ms.map D.int)).map (fun ns => O.d (.int ns.sum)) = _
      rw [ints_map]; rfl
    have ln : biD .len [.lst (cs.map D.int)] = some (.d (.int cs.length)) := by
      show some (O.d (.int (cs.map D.int).length)) = _
      rw [List.length_map]
    have ml : opD .Mult (.int 7919) (.int cs.length) = some (.d (.int (7919 * cs.length))) := o_mul (.inl ⟨by decide, by decide⟩)
    have lo : lstO [.fl (cs.reverse.map D.int), .d (.int (ms.sum + 7919 * cs.length)), .d (.int 0)] = deck cs.reverse (ms.sum + 7919 * cs.length) 0 := rfl
    have bg : 0 + 1 + 1 + 1 ≤ big := by decide
    simp -implicitDefEqProofs only [F_deck, xs_cons, x_set, e_bi, es_cons, es_nil, e_sl, e_pl, plM, g0, getP_1, s1, st1, eo_none, eo_some, e_k, f_d, f_fl, fs_nil, fs_cons, cut, Option.bind_some, Option.map_some, a_nil, a_cons, bl, List.length_cons, List.length_nil, Nat.reduceAdd, Nat.reduceLT, if_true, more_nx,
      x_ret, e_lst, e_rev, rv, e_bin, e_lc, ei_seq, it, pn, wp, e, bk, sm, ln, ml, o_add, lo, bg, more_rt]
  · unfold DeckOk
    rw [List.length_reverse]
    omega
end
end Pw

/-! PX1: calls, reckoned with. -/
namespace Pw
open PySem
section
variable {Φ : Orc} {G : Gv} {ρ ρ1 ρ2 : Env}
theorem take_data : ∀ (os : List O) (ρ : Env), takeArgs (os.map Sum.inl) ρ = some (os, ρ)
  | [], ρ => rfl
  | o :: r, ρ => by
    show (match takeArgs (r.map Sum.inl) ρ with | some (os, ρ') => some (o :: os, ρ') | none => none) = _
    rw [take_data r ρ]
theorem give_data : ∀ (os : List O) (ρ : Env), giveBack (os.map Sum.inl) [] ρ = some ρ
  | [], ρ => rfl
  | o :: r, ρ => give_data r ρ
theorem lend_data : ∀ (os : List O) (n : Nat), lendPos n (os.map Sum.inl) = []
  | [], n => rfl
  | o :: r, n => lend_data r (n + 1)
theorem callM_data {f : Str} {os : List O} {o : O} (h : Φ f os = some (o, [])) : callM Φ [] f (os.map Sum.inl) ρ = some (o, ρ) := by
  unfold callM
  rw [if_pos (lend_data os 0), take_data]
  show (match Φ f os with | some (o, outs) => (match giveBack (os.map Sum.inl) outs ρ with | some ρ2 => some (o, ρ2) | none => none) | none => none) = _
  rw [h]
  show (match giveBack (os.map Sum.inl) [] ρ with | some ρ2 => some (o, ρ2) | none => none) = _
  rw [give_data]
theorem callM_lend {f : Str} {os : List O} {o a a' : O} {i : Nat} (hi : ρ[i]? = some (some a)) (h : Φ f (a :: os) = some (o, [a'])) : callM Φ [0] f (Sum.inr i :: os.map Sum.inl) ρ = some (o, ρ.set i (some a')) := by
  have hl : lendPos 0 (Sum.inr i :: os.map Sum.inl) = [0] := by
    show 0 :: lendPos 1 (os.map Sum.inl) = _
    rw [lend_data]
  have ht : takeArgs (Sum.inr i :: os.map Sum.inl) ρ = some (a :: os, ρ.set i none) := by
    show (match (ρ[i]?).join with | some o => (match takeArgs (os.map Sum.inl) (ρ.set i none) with | some (os, ρ') => some (o :: os, ρ') | none => none) | none => none) = _
    rw [hi]
    show (match takeArgs (os.map Sum.inl) (ρ.set i none) with | some (os, ρ') => some (a :: os, ρ') | none => none) = _
    rw [take_data]
  have hg : giveBack (Sum.inr i :: os.map Sum.inl) [a'] (ρ.set i none) = some (ρ.set i (some a')) := by
    show giveBack (os.map Sum.inl) [] ((ρ.set i none).set i (some a')) = _
    rw [give_data, List.set_set]
  unfold callM
  rw [if_pos hl, ht]
  show (match Φ f (a :: os) with | some (o, outs) => (match giveBack (Sum.inr i :: os.map Sum.inl) outs (ρ.set i none) with | some ρ2 => some (o, ρ2) | none => none) | none => none) = _
  rw [h]
  show (match giveBack (Sum.inr i :: os.map Sum.inl) [a'] (ρ.set i none) with | some ρ2 => some (o, ρ2) | none => none) = _
  rw [hg]
/-- a call that is handed data alone -/
theorem e_dcall {f : Str} {es ks : Es} {names : List Str} {fill : List (Sum Nat D)} {xs ys : List Arg} {os : List O} {o : O} (h1 : evs Φ G es ρ = some (xs, ρ1)) (h2 : evs Φ G ks ρ1 = some (ys, ρ2)) (h3 : fillArgs ((xs ++ ys).map frzA) fill = some (os.map Sum.inl)) (hio : G.io f = [])
    (h4 : Φ f os = some (o, [])) : ev Φ G (.call f es ks names fill) ρ = some (o, ρ2) := by
  rw [e_call, h1]
  show (evs Φ G ks ρ1).bind _ = _
  rw [h2]
  show (fillArgs ((xs ++ ys).map frzA) fill).bind _ = _
  rw [h3]
  show callM Φ (G.io f) f (os.map Sum.inl) ρ2 = _
  rw [hio]
  exact callM_data h4
/-- a call whose first argument is lent -/
theorem e_lcall {f : Str} {es : Es} {fill : List (Sum Nat D)} {xs : List Arg} {os : List O} {o a a' : O} {i : Nat} (h1 : evs Φ G (.lend i es) ρ = some (.inr i :: xs, ρ1)) (h3 : fillArgs ((Sum.inr i :: xs).map frzA) fill = some (Sum.inr i :: os.map Sum.inl)) (hio : G.io f = [0])
    (hi : ρ1[i]? = some (some a)) (h4 : Φ f (a :: os) = some (o, [a'])) : ev Φ G (.call f (.lend i es) .nil [] fill) ρ = some (o, ρ1.set i (some a')) := by
  rw [e_call, h1]
  show (fillArgs (((Sum.inr i :: xs) ++ []).map frzA) fill).bind _ = _
  rw [List.append_nil, h3]
  show callM Φ (G.io f) f (Sum.inr i :: os.map Sum.inl) ρ1 = _
  rw [hio]
  exact callM_lend hi h4
/-- a draw below a written number -/
theorem e_draw {tab : Str → Option Fd} (ht : tab "_law_draw" = some F_draw) (hio : G.io "_law_draw" = [0]) {k : Nat} {i : Nat} {e : E} {m : Int} {cs : List Int} {b c : Int} (h0 : 0 < m) (h1 : m < 1073741824) (hd : DeckOk cs) (hi : ρ[i]? = some (some (deck cs b c))) (he : ev (run tab G (k + 1)) G e ρ = some (.d (.int m), ρ)) :
    ∃ v cs' b' c', ev (run tab G (k + 1)) G (.call "_law_draw" (.lend i (.cons e .nil)) .nil [] [.inl 0, .inl 1]) ρ = some (.d (.int v), ρ.set i (some (deck cs' b' c'))) ∧ 0 ≤ v ∧ v < m ∧ DeckOk cs' := by
  obtain ⟨v, cs', b', c', e1, v0, v1, hd'⟩ := draw_ok (G := G) ht k h0 h1 b c hd
  refine ⟨v, cs', b', c', e_lcall (xs := [.inl (.d (.int m))]) (os := [.d (.int m)]) ?_ rfl hio hi e1, v0, v1, hd'⟩
  rw [es_lend, hi]
  show (if true = true then (evs (run tab G (k + 1)) G (.cons e .nil) ρ).map fun q => (Sum.inr i :: q.1, q.2) else none) = _
  rw [if_pos rfl, es_cons, he]
  rfl
end
end Pw

/-! PY1: what is wished of a run, asked from behind: one rule for each form of the small language. -/
namespace Pw
open PySem
/-- a run ends well, and what is wished holds -/
def W {α : Type} (r : Option (α × Env)) (Q : α → Env → Prop) : Prop := ∃ a ρ, r = some (a, ρ) ∧ Q a ρ
def Wo {α : Type} (r : Option α) (Q : α → Prop) : Prop := ∃ a, r = some a ∧ Q a
def Wc (r : Option (O × List O)) (Q : O → List O → Prop) : Prop := ∃ o outs, r = some (o, outs) ∧ Q o outs
section
variable {α β : Type}
theorem wo_some {a : α} {Q : α → Prop} : Wo (some a) Q ↔ Q a := ⟨fun ⟨b, e, h⟩ => by cases e; exact h, fun h => ⟨a, rfl, h⟩⟩
theorem wo_none {Q : α → Prop} : Wo none Q ↔ False := ⟨fun ⟨b, e, h⟩ => (by cases e), False.elim⟩
theorem wo_bind {x : Option α} {f : α → Option β} {Q : β → Prop} : Wo (x.bind f) Q ↔ Wo x fun a => Wo (f a) Q := by
  cases x with
  | none => rw [wo_none]; exact ⟨fun h => (wo_none.mp h).elim, False.elim⟩
  | some a => rw [wo_some]; exact Iff.rfl
theorem wo_map {x : Option α} {f : α → β} {Q : β → Prop} : Wo (x.map f) Q ↔ Wo x fun a => Q (f a) := by
  cases x with
  | none => rw [wo_none]; exact ⟨fun h => (wo_none.mp h).elim, False.elim⟩
  | some a => rw [wo_some]; exact wo_some
theorem w_some {a : α} {ρ : Env} {Q : α → Env → Prop} : W (some (a, ρ)) Q ↔ Q a ρ := ⟨fun ⟨b, σ, e, h⟩ => by cases e; exact h, fun h => ⟨a, ρ, rfl, h⟩⟩
theorem w_none {Q : α → Env → Prop} : W none Q ↔ False := ⟨fun ⟨b, σ, e, h⟩ => (by cases e), False.elim⟩
theorem w_bind {x : Option (β × Env)} {f : β × Env → Option (α × Env)} {Q : α → Env → Prop} : W (x.bind f) Q ↔ W x fun a ρ => W (f (a, ρ)) Q := by
  cases x with
  | none => rw [w_none]; exact ⟨fun h => (w_none.mp h).elim, False.elim⟩
  | some p => obtain ⟨a, ρ⟩ := p; rw [w_some]; exact Iff.rfl
theorem w_map {x : Option (β × Env)} {f : β × Env → α × Env} {Q : α → Env → Prop} : W (x.map f) Q ↔ W x fun a ρ => Q (f (a, ρ)).1 (f (a, ρ)).2 := by
  cases x with
  | none => rw [w_none]; exact ⟨fun h => (w_none.mp h).elim, False.elim⟩
  | some p => obtain ⟨a, ρ⟩ := p; rw [w_some]; exact w_some
theorem w_omap {x : Option β} {f : β → α × Env} {Q : α → Env → Prop} : W (x.map f) Q ↔ Wo x fun a => Q (f a).1 (f a).2 := by
  cases x with
  | none => rw [wo_none]; exact ⟨fun h => (w_none.mp h).elim, False.elim⟩
  | some a => rw [wo_some]; exact w_some
theorem w_obind {x : Option β} {f : β → Option (α × Env)} {Q : α → Env → Prop} : W (x.bind f) Q ↔ Wo x fun a => W (f a) Q := by
  cases x with
  | none => rw [wo_none]; exact ⟨fun h => (w_none.mp h).elim, False.elim⟩
  | some a => rw [wo_some]; exact Iff.rfl
theorem w_ite {c : Prop} [Decidable c] {x y : Option (α × Env)} {Q : α → Env → Prop} : W (if c then x else y) Q ↔ if c then W x Q else W y Q := by
  split <;> exact Iff.rfl
theorem wo_ite {c : Prop} [Decidable c] {x y : Option α} {Q : α → Prop} : Wo (if c then x else y) Q ↔ if c then Wo x Q else Wo y Q := by
  split <;> exact Iff.rfl
theorem W.mono {r : Option (α × Env)} {Q Q' : α → Env → Prop} (h : W r Q) (k : ∀ a ρ, Q a ρ → Q' a ρ) : W r Q' := by
  obtain ⟨a, ρ, e, q⟩ := h
  exact ⟨a, ρ, e, k a ρ q⟩
theorem Wo.mono {r : Option α} {Q Q' : α → Prop} (h : Wo r Q) (k : ∀ a, Q a → Q' a) : Wo r Q' := by
  obtain ⟨a, e, q⟩ := h
  exact ⟨a, e, k a q⟩
theorem Wc.mono {r : Option (O × List O)} {Q Q' : O → List O → Prop} (h : Wc r Q) (k : ∀ a ρ, Q a ρ → Q' a ρ) : Wc r Q' := by
  obtain ⟨a, ρ, e, q⟩ := h
  exact ⟨a, ρ, e, k a ρ q⟩
theorem wc_some {o : O} {os : List O} {Q : O → List O → Prop} : Wc (some (o, os)) Q ↔ Q o os := ⟨fun ⟨b, σ, e, h⟩ => by cases e; exact h, fun h => ⟨o, os, rfl, h⟩⟩
theorem Wo.of {r : Option α} {a : α} {Q : α → Prop} (e : r = some a) (h : Q a) : Wo r Q := ⟨a, e, h⟩
theorem Wc.of {r : Option (O × List O)} {o : O} {os : List O} {Q : O → List O → Prop} (e : r = some (o, os)) (h : Q o os) : Wc r Q := ⟨o, os, e, h⟩
theorem W.of {r : Option (α × Env)} {a : α} {ρ : Env} {Q : α → Env → Prop} (e : r = some (a, ρ)) (h : Q a ρ) : W r Q := ⟨a, ρ, e, h⟩
end
section
variable {Φ : Orc} {G : Gv} {ρ : Env} {Q : O → Env → Prop} {QB : Bool → Env → Prop} {QL : List Arg → Env → Prop} {QF : Fl → Env → Prop} {QI : List D → Env → Prop} {QO : Option Int → Env → Prop}
/-! ### expressions -/
theorem w_k (d : D) : W (ev Φ G (.k d) ρ) Q ↔ Q (.d d) ρ := w_some
theorem pl_v (i : Nat) (ρ : Env) : plM (.v i) ρ = ((ρ[i]?).join).map fun o => (.d (frz o), ρ.set i (some (.d (frz o)))) := by
  unfold plM
  show (match (ρ[i]?).join with | some (.d x) => some (O.d x, ρ) | some o => (match setP ρ (.v i) (.d (frz o)) with | some ρ' => some (O.d (frz o), ρ') | none => none) | none => none) = _
  cases q : ρ[i]? with
  | none => rfl
  | some z =>
    cases z with
    | none => rfl
    | some o =>
      have hi : i < ρ.length := (List.getElem?_eq_some_iff.mp q).1
      have hs : ∀ u : O, setP ρ (.v i) u = some (ρ.set i (some u)) := fun u => if_pos hi
      cases o with
      | d x =>
        show some (O.d x, ρ) = some (O.d x, ρ.set i (some (.d x)))
        rw [set_self q]
      | fl xs => show (match setP ρ (.v i) _ with | some ρ' => some (O.d _, ρ') | none => none) = _; rw [hs]; rfl
      | ml xs => show (match setP ρ (.v i) _ with | some ρ' => some (O.d _, ρ') | none => none) = _; rw [hs]; rfl
      | ob c xs => show (match setP ρ (.v i) _ with | some ρ' => some (O.d _, ρ') | none => none) = _; rw [hs]; rfl
theorem w_pl (i : Nat) : W (ev Φ G (.pl (.v i)) ρ) Q ↔ Wo ((ρ[i]?).join) fun o => Q (.d (frz o)) (ρ.set i (some (.d (frz o)))) := by
  rw [e_pl, pl_v, w_omap]
theorem w_plp (p : P) : W (ev Φ G (.pl p) ρ) Q ↔ W (plM p ρ) Q := by rw [e_pl]
theorem w_mv (i : Nat) : W (ev Φ G (.mv i) ρ) Q ↔ Wo ((ρ[i]?).join) fun o => Q o (ρ.set i none) := by
  rw [e_mv]
  unfold mvM
  cases (ρ[i]?).join with
  | none => rw [wo_none]; exact w_none
  | some o => rw [wo_some]; exact w_some
theorem w_gl (x : Str) : W (ev Φ G (.gl x) ρ) Q ↔ Wo (G.gv x) fun d => Q (.d d) ρ := by rw [e_gl, w_omap]
def Kbin2 (op : Operator) (x : D) (Q : O → Env → Prop) : O → Env → Prop := fun y ρ => Wo (opD op x (frz y)) fun o => Q o ρ
def Kbin (Φ : Orc) (G : Gv) (op : Operator) (b : E) (Q : O → Env → Prop) : O → Env → Prop := fun x ρ => W (ev Φ G b ρ) (Kbin2 op (frz x) Q)
theorem k_bin2 (op : Operator) (x : D) (y : O) : Kbin2 op x Q y ρ ↔ Wo (opD op x (frz y)) fun o => Q o ρ := Iff.rfl
theorem k_bin (op : Operator) (b : E) (x : O) : Kbin Φ G op b Q x ρ ↔ W (ev Φ G b ρ) (Kbin2 op (frz x) Q) := Iff.rfl
theorem w_bin (op : Operator) (a b : E) : W (ev Φ G (.bin op a b) ρ) Q ↔ W (ev Φ G a ρ) (Kbin Φ G op b Q) := by
  rw [e_bin, w_bind]
  simp only [w_bind, w_omap]
  exact Iff.rfl
def Kneg (Q : O → Env → Prop) : O → Env → Prop := fun x ρ => match frz x with
  | .int i => Q (.d (.int (-i))) ρ
  | _ => False
theorem k_neg (i : Int) : Kneg Q (.d (.int i)) ρ ↔ Q (.d (.int (-i))) ρ := Iff.rfl
theorem w_neg (a : E) : W (ev Φ G (.neg a) ρ) Q ↔ W (ev Φ G a ρ) (Kneg Q) := by
  rw [e_neg, w_bind]
  refine iff_of_eq (congrArg _ (funext fun x => funext fun ρ => propext ?_))
  unfold Kneg
  cases frz x <;> first | exact w_some | exact w_none
def Ktv (Q : O → Env → Prop) : Bool → Env → Prop := fun b ρ => Q (.d (.bl b)) ρ
theorem k_tv (b : Bool) : Ktv Q b ρ ↔ Q (.d (.bl b)) ρ := Iff.rfl
theorem w_tv (b : B) : W (ev Φ G (.tv b) ρ) Q ↔ W (evB Φ G b ρ) (Ktv Q) := by rw [e_tv, w_map]; exact Iff.rfl
/-- an answer is asked for its truth -/
def Ktru (x : D) (t f : Prop) : Prop := Wo (tru x) fun b => if b then t else f
theorem k_tru (x : D) (t f : Prop) : Ktru x t f ↔ Wo (tru x) fun b => if b then t else f := Iff.rfl
def Kand (Φ : Orc) (G : Gv) (b : E) (Q : O → Env → Prop) : O → Env → Prop := fun x ρ => Ktru (frz x) (W (ev Φ G b ρ) Q) (Q (.d (frz x)) ρ)
def Kor (Φ : Orc) (G : Gv) (b : E) (Q : O → Env → Prop) : O → Env → Prop := fun x ρ => Ktru (frz x) (Q (.d (frz x)) ρ) (W (ev Φ G b ρ) Q)
theorem k_and (b : E) (x : O) : Kand Φ G b Q x ρ ↔ Ktru (frz x) (W (ev Φ G b ρ) Q) (Q (.d (frz x)) ρ) := Iff.rfl
theorem k_or (b : E) (x : O) : Kor Φ G b Q x ρ ↔ Ktru (frz x) (Q (.d (frz x)) ρ) (W (ev Φ G b ρ) Q) := Iff.rfl
theorem w_and (a b : E) : W (ev Φ G (.and a b) ρ) Q ↔ W (ev Φ G a ρ) (Kand Φ G b Q) := by
  rw [e_and, w_bind]
  refine iff_of_eq (congrArg _ (funext fun x => funext fun ρ => propext ?_))
  unfold Kand Ktru
  cases tru (frz x) with
  | none => rw [wo_none]; exact w_none
  | some t =>
    rw [wo_some]
    cases t with
    | true => exact Iff.rfl
    | false => exact w_some
theorem w_or (a b : E) : W (ev Φ G (.or a b) ρ) Q ↔ W (ev Φ G a ρ) (Kor Φ G b Q) := by
  rw [e_or, w_bind]
  refine iff_of_eq (congrArg _ (funext fun x => funext fun ρ => propext ?_))
  unfold Kor Ktru
  cases tru (frz x) with
  | none => rw [wo_none]; exact w_none
  | some t =>
    rw [wo_some]
    cases t with
    | true => exact w_some
    | false => exact Iff.rfl
def Kife (Φ : Orc) (G : Gv) (a b : E) (Q : O → Env → Prop) : Bool → Env → Prop := fun t ρ => if t then W (ev Φ G a ρ) Q else W (ev Φ G b ρ) Q
theorem k_ife (a b : E) (t : Bool) : Kife Φ G a b Q t ρ ↔ if t then W (ev Φ G a ρ) Q else W (ev Φ G b ρ) Q := Iff.rfl
theorem w_ife (c : B) (a b : E) : W (ev Φ G (.ife c a b) ρ) Q ↔ W (evB Φ G c ρ) (Kife Φ G a b Q) := by
  rw [e_ife, w_bind]
  refine iff_of_eq (congrArg _ (funext fun t => funext fun ρ => propext ?_))
  unfold Kife
  cases t <;> exact Iff.rfl
def Ktup (Q : O → Env → Prop) : List Arg → Env → Prop := fun as ρ => Wo (argsO as) fun os => os.length ≤ big ∧ Q (.d (.tup (frzs os))) ρ
def Klst (Q : O → Env → Prop) : List Arg → Env → Prop := fun as ρ => Wo (argsO as) fun os => os.length ≤ big ∧ Q (lstO os) ρ
theorem k_tup (as : List Arg) : Ktup Q as ρ ↔ Wo (argsO as) fun os => os.length ≤ big ∧ Q (.d (.tup (frzs os))) ρ := Iff.rfl
theorem k_lst (as : List Arg) : Klst Q as ρ ↔ Wo (argsO as) fun os => os.length ≤ big ∧ Q (lstO os) ρ := Iff.rfl
theorem w_if {α : Type} {c : Prop} [Decidable c] {a : α} {QA : α → Env → Prop} : W (if c then some (a, ρ) else none) QA ↔ c ∧ QA a ρ := by
  split
  · rename_i h; rw [w_some]; exact ⟨fun q => ⟨h, q⟩, And.right⟩
  · rename_i h; rw [w_none]; exact ⟨False.elim, fun q => h q.1⟩
theorem w_tup (es : Es) : W (ev Φ G (.tup es) ρ) Q ↔ W (evs Φ G es ρ) (Ktup Q) := by
  rw [e_tup, w_bind]
  simp only [w_obind, w_if]
  exact Iff.rfl
theorem w_lst (es : Es) : W (ev Φ G (.lst es) ρ) Q ↔ W (evs Φ G es ρ) (Klst Q) := by
  rw [e_lst, w_bind]
  simp only [w_obind, w_if]
  exact Iff.rfl
def Kix2 (x : D) (Q : O → Env → Prop) : O → Env → Prop := fun y ρ => Wo (ixI x (frz y)) fun o => Q o ρ
def Kix (Φ : Orc) (G : Gv) (b : E) (Q : O → Env → Prop) : O → Env → Prop := fun x ρ => W (ev Φ G b ρ) (Kix2 (frz x) Q)
theorem k_ix2 (x : D) (y : O) : Kix2 x Q y ρ ↔ Wo (ixI x (frz y)) fun o => Q o ρ := Iff.rfl
theorem k_ix (b : E) (x : O) : Kix Φ G b Q x ρ ↔ W (ev Φ G b ρ) (Kix2 (frz x) Q) := Iff.rfl
theorem w_ix (a i : E) : W (ev Φ G (.ix a i) ρ) Q ↔ W (ev Φ G a ρ) (Kix Φ G i Q) := by
  rw [e_ix, w_bind]
  simp only [w_bind, w_omap]
  exact Iff.rfl
def KixP (p : P) (Q : O → Env → Prop) : O → Env → Prop := fun y ρ => Wo (getP ρ p) fun o => Wo (ixOI o (frz y)) fun d => Q (.d d) ρ
theorem k_ixP (p : P) (y : O) : KixP p Q y ρ ↔ Wo (getP ρ p) fun o => Wo (ixOI o (frz y)) fun d => Q (.d d) ρ := Iff.rfl
theorem w_iff {α : Type} {c : Prop} [Decidable c] {x : Option (α × Env)} {QA : α → Env → Prop} : W (if c then x else none) QA ↔ c ∧ W x QA := by
  split
  · rename_i h; exact ⟨fun q => ⟨h, q⟩, And.right⟩
  · rename_i h; rw [w_none]; exact ⟨False.elim, fun q => h q.1⟩
theorem w_ixP (p : P) (i : E) : W (ev Φ G (.ixP p i) ρ) Q ↔ (getP ρ p).isSome ∧ W (ev Φ G i ρ) (KixP p Q) := by
  rw [e_ixP, w_iff, w_bind]
  simp only [w_obind, w_omap]
  exact Iff.rfl
theorem w_lenP (p : P) : W (ev Φ G (.lenP p) ρ) Q ↔ Wo (getP ρ p) fun o => Wo (lenO o) fun n => Q (.d (.int n)) ρ := by
  rw [e_lenP]
  simp only [w_obind, w_omap]
def Ksl3 (x : D) (l : Option Int) (Q : O → Env → Prop) : Option Int → Env → Prop := fun h ρ => Wo (slD x l h) fun o => Q o ρ
def Ksl2 (Φ : Orc) (G : Gv) (x : D) (hi : Eo) (Q : O → Env → Prop) : Option Int → Env → Prop := fun l ρ => W (evo Φ G hi ρ) (Ksl3 x l Q)
def Ksl (Φ : Orc) (G : Gv) (lo hi : Eo) (Q : O → Env → Prop) : O → Env → Prop := fun x ρ => W (evo Φ G lo ρ) (Ksl2 Φ G (frz x) hi Q)
theorem k_sl3 (x : D) (l h : Option Int) : Ksl3 x l Q h ρ ↔ Wo (slD x l h) fun o => Q o ρ := Iff.rfl
theorem k_sl2 (x : D) (hi : Eo) (l : Option Int) : Ksl2 Φ G x hi Q l ρ ↔ W (evo Φ G hi ρ) (Ksl3 x l Q) := Iff.rfl
theorem k_sl (lo hi : Eo) (x : O) : Ksl Φ G lo hi Q x ρ ↔ W (evo Φ G lo ρ) (Ksl2 Φ G (frz x) hi Q) := Iff.rfl
theorem w_sl (a : E) (lo hi : Eo) : W (ev Φ G (.sl a lo hi) ρ) Q ↔ W (ev Φ G a ρ) (Ksl Φ G lo hi Q) := by
  rw [e_sl, w_bind]
  simp only [w_bind, w_omap]
  exact Iff.rfl
theorem wo_eo_none : W (evo Φ G .none ρ) QO ↔ QO none ρ := w_some
def Keo (QO : Option Int → Env → Prop) : O → Env → Prop := fun x ρ => match frz x with
  | .int i => QO (some i) ρ
  | _ => False
theorem k_eo (i : Int) : Keo QO (.d (.int i)) ρ ↔ QO (some i) ρ := Iff.rfl
theorem wo_eo_some (e : E) : W (evo Φ G (.some e) ρ) QO ↔ W (ev Φ G e ρ) (Keo QO) := by
  rw [eo_some, w_bind]
  refine iff_of_eq (congrArg _ (funext fun x => funext fun ρ => propext ?_))
  unfold Keo
  cases frz x <;> first | exact w_some | exact w_none
def Krev (Q : O → Env → Prop) : O → Env → Prop := fun x ρ => Wo (revD (frz x)) fun o => Q o ρ
theorem k_rev (x : O) : Krev Q x ρ ↔ Wo (revD (frz x)) fun o => Q o ρ := Iff.rfl
theorem w_rev (a : E) : W (ev Φ G (.rev a) ρ) Q ↔ W (ev Φ G a ρ) (Krev Q) := by
  rw [e_rev, w_bind]
  simp only [w_omap]
  exact Iff.rfl
/-- a call: what is lent goes along -/
def Kback (as : List Arg) (ρ : Env) (Q : O → Env → Prop) : O → List O → Prop := fun o outs => Wo (giveBack as outs ρ) fun ρ2 => Q o ρ2
theorem k_back (as : List Arg) (o : O) (outs : List O) : Kback as ρ Q o outs ↔ Wo (giveBack as outs ρ) fun ρ2 => Q o ρ2 := Iff.rfl
theorem w_callM (io : List Nat) (f : Str) (as : List Arg) : W (callM Φ io f as ρ) Q ↔ lendPos 0 as = io ∧ Wo (takeArgs as ρ) fun p => Wc (Φ f p.1) (Kback as p.2 Q) := by
  unfold callM
  rw [w_iff]
  refine and_congr Iff.rfl ?_
  cases takeArgs as ρ with
  | none => rw [wo_none]; exact w_none
  | some p =>
    rw [wo_some]
    obtain ⟨os, ρ1⟩ := p
    show W (match Φ f os with | some (o, outs) => (match giveBack as outs ρ1 with | some ρ2 => some (o, ρ2) | none => none) | none => none) Q ↔ _
    cases Φ f os with
    | none => exact ⟨fun h => (w_none.mp h).elim, fun ⟨_, _, e, _⟩ => by cases e⟩
    | some r =>
      obtain ⟨o, outs⟩ := r
      rw [wc_some, k_back]
      show W (match giveBack as outs ρ1 with | some ρ2 => some (o, ρ2) | none => none) Q ↔ _
      cases giveBack as outs ρ1 with
      | none => rw [wo_none]; exact w_none
      | some ρ2 => rw [wo_some]; exact w_some
def Kcall2 (Φ : Orc) (G : Gv) (f : Str) (fill : List (Sum Nat D)) (vs : List Arg) (Q : O → Env → Prop) : List Arg → Env → Prop := fun ws ρ => Wo (fillArgs ((vs ++ ws).map frzA) fill) fun as => W (callM Φ (G.io f) f as ρ) Q
def Kcall (Φ : Orc) (G : Gv) (f : Str) (ks : Es) (fill : List (Sum Nat D)) (Q : O → Env → Prop) : List Arg → Env → Prop := fun vs ρ => W (evs Φ G ks ρ) (Kcall2 Φ G f fill vs Q)
theorem k_call2 (f : Str) (fill : List (Sum Nat D)) (vs ws : List Arg) : Kcall2 Φ G f fill vs Q ws ρ ↔ Wo (fillArgs ((vs ++ ws).map frzA) fill) fun as => W (callM Φ (G.io f) f as ρ) Q := Iff.rfl
theorem k_call (f : Str) (ks : Es) (fill : List (Sum Nat D)) (vs : List Arg) : Kcall Φ G f ks fill Q vs ρ ↔ W (evs Φ G ks ρ) (Kcall2 Φ G f fill vs Q) := Iff.rfl
theorem w_call (f : Str) (es ks : Es) (names : List Str) (fill : List (Sum Nat D)) : W (ev Φ G (.call f es ks names fill) ρ) Q ↔ W (evs Φ G es ρ) (Kcall Φ G f ks fill Q) := by
  rw [e_call, w_bind]
  refine iff_of_eq (congrArg _ (funext fun vs => funext fun ρ => propext ?_))
  rw [w_bind]
  refine iff_of_eq (congrArg _ (funext fun ws => funext fun ρ => propext ?_))
  rw [w_obind]
  exact Iff.rfl
def Kbi (f : Bi) (Q : O → Env → Prop) : List Arg → Env → Prop := fun as ρ => Wo (argsO as) fun os => Wo (biD f (frzs os)) fun o => Q o ρ
theorem k_bi (f : Bi) (as : List Arg) : Kbi f Q as ρ ↔ Wo (argsO as) fun os => Wo (biD f (frzs os)) fun o => Q o ρ := Iff.rfl
theorem w_bi (f : Bi) (es : Es) : W (ev Φ G (.bi f es) ρ) Q ↔ W (evs Φ G es ρ) (Kbi f Q) := by
  rw [e_bi, w_bind]
  simp only [w_obind, w_omap]
  exact Iff.rfl
def Kisi (t : String) (Q : O → Env → Prop) : O → Env → Prop := fun x ρ => Wo (isiD (frz x) t) fun b => Q (.d (.bl b)) ρ
theorem k_isi (t : String) (x : O) : Kisi t Q x ρ ↔ Wo (isiD (frz x) t) fun b => Q (.d (.bl b)) ρ := Iff.rfl
theorem w_isi (a : E) (t : String) : W (ev Φ G (.isi a t) ρ) Q ↔ W (ev Φ G a ρ) (Kisi t Q) := by
  rw [e_isi, w_bind]
  simp only [w_omap]
  exact Iff.rfl
def Klcb (own : List Nat) (ρ : Env) (Q : O → Env → Prop) : List D → Env → Prop := fun acc ρ' => Q (.fl acc) (backE ρ ρ' own)
theorem k_lcb (own : List Nat) (ρ ρ' : Env) (acc : List D) : Klcb own ρ Q acc ρ' ↔ Q (.fl acc) (backE ρ ρ' own) := Iff.rfl
def Klc (Φ : Orc) (G : Gv) (elt : E) (t : T) (cond : Bo) (own : List Nat) (Q : O → Env → Prop) : List D → Env → Prop := fun xs ρ => plainAt ρ own = true ∧ W (lcRun (turn Φ G elt t cond own) xs [] (wipeE ρ own)) (Klcb own ρ Q)
theorem k_lc (elt : E) (t : T) (cond : Bo) (own : List Nat) (xs : List D) : Klc Φ G elt t cond own Q xs ρ ↔ plainAt ρ own = true ∧ W (lcRun (turn Φ G elt t cond own) xs [] (wipeE ρ own)) (Klcb own ρ Q) := Iff.rfl
theorem w_lc (elt : E) (t : T) (it : I) (cond : Bo) (own : List Nat) : W (ev Φ G (.lc elt t it cond own) ρ) Q ↔ W (evI Φ G it ρ) (Klc Φ G elt t cond own Q) := by
  rw [e_lc, w_bind]
  simp only [w_iff, w_map]
  exact Iff.rfl
/-! ### arguments, tests, what is walked -/
theorem w_nil : W (evs Φ G .nil ρ) QL ↔ QL [] ρ := w_some
def Kcons2 (o : Arg) (QL : List Arg → Env → Prop) : List Arg → Env → Prop := fun r ρ => QL (o :: r) ρ
def Kcons (Φ : Orc) (G : Gv) (es : Es) (QL : List Arg → Env → Prop) : O → Env → Prop := fun o ρ => W (evs Φ G es ρ) (Kcons2 (.inl o) QL)
theorem k_cons2 (o : Arg) (r : List Arg) : Kcons2 o QL r ρ ↔ QL (o :: r) ρ := Iff.rfl
theorem k_cons (es : Es) (o : O) : Kcons Φ G es QL o ρ ↔ W (evs Φ G es ρ) (Kcons2 (.inl o) QL) := Iff.rfl
theorem w_cons (e : E) (es : Es) : W (evs Φ G (.cons e es) ρ) QL ↔ W (ev Φ G e ρ) (Kcons Φ G es QL) := by
  rw [es_cons, w_bind]
  simp only [w_map]
  exact Iff.rfl
theorem w_lend (i : Nat) (es : Es) : W (evs Φ G (.lend i es) ρ) QL ↔ ((ρ[i]?).join).isSome ∧ W (evs Φ G es ρ) (Kcons2 (.inr i) QL) := by
  rw [es_lend, w_iff, w_map]
  exact Iff.rfl
theorem w_wn : W (evW Φ G .none ρ) QB ↔ QB true ρ := w_some
theorem w_ws (b : B) : W (evW Φ G (.some b) ρ) QB ↔ W (evB Φ G b ρ) QB := by rw [ew_some]
def Kseq (QI : List D → Env → Prop) : O → Env → Prop := fun x ρ => Wo (items (frz x)) fun xs => QI xs ρ
theorem k_seq (x : O) : Kseq QI x ρ ↔ Wo (items (frz x)) fun xs => QI xs ρ := Iff.rfl
theorem w_seq (e : E) : W (evI Φ G (.seq e) ρ) QI ↔ W (ev Φ G e ρ) (Kseq QI) := by
  rw [ei_seq, w_bind]
  simp only [w_omap]
  exact Iff.rfl
def Krng1 (QI : List D → Env → Prop) : O → Env → Prop := fun x ρ => match frz x with
  | .int n => Wo (rngD 0 n) fun xs => QI xs ρ
  | _ => False
theorem k_rng1 (n : Int) : Krng1 QI (.d (.int n)) ρ ↔ Wo (rngD 0 n) fun xs => QI xs ρ := Iff.rfl
theorem w_rng1 (a : E) : W (evI Φ G (.rng1 a) ρ) QI ↔ W (ev Φ G a ρ) (Krng1 QI) := by
  rw [ei_rng1, w_bind]
  refine iff_of_eq (congrArg _ (funext fun x => funext fun ρ => propext ?_))
  unfold Krng1
  cases frz x <;> first | exact w_omap | exact w_none
def Krng22 (m : D) (QI : List D → Env → Prop) : O → Env → Prop := fun y ρ => match m, frz y with
  | .int m, .int n => Wo (rngD m n) fun xs => QI xs ρ
  | _, _ => False
def Krng2 (Φ : Orc) (G : Gv) (b : E) (QI : List D → Env → Prop) : O → Env → Prop := fun x ρ => W (ev Φ G b ρ) (Krng22 (frz x) QI)
theorem k_rng22 (m n : Int) : Krng22 (.int m) QI (.d (.int n)) ρ ↔ Wo (rngD m n) fun xs => QI xs ρ := Iff.rfl
theorem k_rng2 (b : E) (x : O) : Krng2 Φ G b QI x ρ ↔ W (ev Φ G b ρ) (Krng22 (frz x) QI) := Iff.rfl
theorem w_rng2 (a b : E) : W (evI Φ G (.rng2 a b) ρ) QI ↔ W (ev Φ G a ρ) (Krng2 Φ G b QI) := by
  rw [ei_rng2, w_bind]
  refine iff_of_eq (congrArg _ (funext fun x => funext fun ρ => propext ?_))
  unfold Krng2
  rw [w_bind]
  refine iff_of_eq (congrArg _ (funext fun y => funext fun ρ => propext ?_))
  unfold Krng22
  cases frz x <;> cases frz y <;> first | exact w_omap | exact w_none
def Kval (QB : Bool → Env → Prop) : O → Env → Prop := fun x ρ => Wo (tru (frz x)) fun b => QB b ρ
theorem k_val (x : O) : Kval QB x ρ ↔ Wo (tru (frz x)) fun b => QB b ρ := Iff.rfl
theorem w_val (e : E) : W (evB Φ G (.val e) ρ) QB ↔ W (ev Φ G e ρ) (Kval QB) := by
  rw [eb_val, w_bind]
  simp only [w_omap]
  exact Iff.rfl
def Knot (QB : Bool → Env → Prop) : Bool → Env → Prop := fun b ρ => QB (!b) ρ
theorem k_not (b : Bool) : Knot QB b ρ ↔ QB (!b) ρ := Iff.rfl
theorem w_not (b : B) : W (evB Φ G (.not b) ρ) QB ↔ W (evB Φ G b ρ) (Knot QB) := by
  rw [eb_not, w_map]
  exact Iff.rfl
def KandB (Φ : Orc) (G : Gv) (b : B) (QB : Bool → Env → Prop) : Bool → Env → Prop := fun t ρ => if t then W (evB Φ G b ρ) QB else QB false ρ
def KorB (Φ : Orc) (G : Gv) (b : B) (QB : Bool → Env → Prop) : Bool → Env → Prop := fun t ρ => if t then QB true ρ else W (evB Φ G b ρ) QB
theorem k_andB (b : B) (t : Bool) : KandB Φ G b QB t ρ ↔ if t then W (evB Φ G b ρ) QB else QB false ρ := Iff.rfl
theorem k_orB (b : B) (t : Bool) : KorB Φ G b QB t ρ ↔ if t then QB true ρ else W (evB Φ G b ρ) QB := Iff.rfl
theorem w_andB (a b : B) : W (evB Φ G (.and a b) ρ) QB ↔ W (evB Φ G a ρ) (KandB Φ G b QB) := by
  rw [eb_and, w_bind]
  refine iff_of_eq (congrArg _ (funext fun t => funext fun ρ => propext ?_))
  unfold KandB
  cases t <;> first | exact Iff.rfl | exact w_some
theorem w_orB (a b : B) : W (evB Φ G (.or a b) ρ) QB ↔ W (evB Φ G a ρ) (KorB Φ G b QB) := by
  rw [eb_or, w_bind]
  refine iff_of_eq (congrArg _ (funext fun t => funext fun ρ => propext ?_))
  unfold KorB
  cases t <;> first | exact Iff.rfl | exact w_some
def Kcmp2 (op : CmpOp) (x : D) (QB : Bool → Env → Prop) : O → Env → Prop := fun y ρ => Wo (cmpD op x (frz y)) fun r => QB r ρ
def Kcmp (Φ : Orc) (G : Gv) (op : CmpOp) (b : E) (QB : Bool → Env → Prop) : O → Env → Prop := fun x ρ => W (ev Φ G b ρ) (Kcmp2 op (frz x) QB)
theorem k_cmp2 (op : CmpOp) (x : D) (y : O) : Kcmp2 op x QB y ρ ↔ Wo (cmpD op x (frz y)) fun r => QB r ρ := Iff.rfl
theorem k_cmp (op : CmpOp) (b : E) (x : O) : Kcmp Φ G op b QB x ρ ↔ W (ev Φ G b ρ) (Kcmp2 op (frz x) QB) := Iff.rfl
theorem w_cmp (op : CmpOp) (a b : E) : W (evB Φ G (.cmp op a b) ρ) QB ↔ W (ev Φ G a ρ) (Kcmp Φ G op b QB) := by
  rw [eb_cmp, w_bind]
  simp only [w_bind, w_omap]
  exact Iff.rfl
def KcmpP (op : CmpOp) (p : P) (QB : Bool → Env → Prop) : O → Env → Prop := fun y ρ => Wo (getP ρ p) fun o => Wo (cmpD op (frz o) (frz y)) fun r => QB r ρ
theorem k_cmpP (op : CmpOp) (p : P) (y : O) : KcmpP op p QB y ρ ↔ Wo (getP ρ p) fun o => Wo (cmpD op (frz o) (frz y)) fun r => QB r ρ := Iff.rfl
theorem w_cmpP (op : CmpOp) (p : P) (b : E) : W (evB Φ G (.cmpP op p b) ρ) QB ↔ (getP ρ p).isSome ∧ W (ev Φ G b ρ) (KcmpP op p QB) := by
  rw [eb_cmpP, w_iff, w_bind]
  simp only [w_obind, w_omap]
  exact Iff.rfl
def Kch3 (op' : CmpOp) (y : D) (QB : Bool → Env → Prop) : O → Env → Prop := fun z ρ => Wo (cmpD op' y (frz z)) fun r => QB r ρ
def Kch2 (Φ : Orc) (G : Gv) (op op' : CmpOp) (x : D) (c : E) (QB : Bool → Env → Prop) : O → Env → Prop := fun y ρ => Wo (cmpD op x (frz y)) fun t => if t then W (ev Φ G c ρ) (Kch3 op' (frz y) QB) else QB false ρ
def Kch (Φ : Orc) (G : Gv) (op op' : CmpOp) (b c : E) (QB : Bool → Env → Prop) : O → Env → Prop := fun x ρ => W (ev Φ G b ρ) (Kch2 Φ G op op' (frz x) c QB)
theorem k_ch3 (op' : CmpOp) (y : D) (z : O) : Kch3 op' y QB z ρ ↔ Wo (cmpD op' y (frz z)) fun r => QB r ρ := Iff.rfl
theorem k_ch2 (op op' : CmpOp) (x : D) (c : E) (y : O) : Kch2 Φ G op op' x c QB y ρ ↔ Wo (cmpD op x (frz y)) fun t => if t then W (ev Φ G c ρ) (Kch3 op' (frz y) QB) else QB false ρ := Iff.rfl
theorem k_ch (op op' : CmpOp) (b c : E) (x : O) : Kch Φ G op op' b c QB x ρ ↔ W (ev Φ G b ρ) (Kch2 Φ G op op' (frz x) c QB) := Iff.rfl
theorem w_ch (op op' : CmpOp) (a b c : E) : W (evB Φ G (.chain op op' a b c) ρ) QB ↔ W (ev Φ G a ρ) (Kch Φ G op op' b c QB) := by
  rw [eb_chain, w_bind]
  refine iff_of_eq (congrArg _ (funext fun x => funext fun ρ => propext ?_))
  rw [w_bind]
  unfold Kch
  refine iff_of_eq (congrArg _ (funext fun y => funext fun ρ => propext ?_))
  unfold Kch2
  cases cmpD op (frz x) (frz y) with
  | none => rw [wo_none]; exact w_none
  | some t =>
    rw [wo_some]
    cases t with
    | false => exact w_some
    | true =>
      rw [if_pos rfl]
      show W ((ev Φ G c ρ).bind _) QB ↔ _
      rw [w_bind]
      simp only [w_omap]
      exact Iff.rfl
/-! ### statements -/
def Kset (i : Nat) (QF : Fl → Env → Prop) : O → Env → Prop := fun o ρ => i < ρ.length ∧ QF .nx (ρ.set i (some o))
theorem k_set (i : Nat) (o : O) : Kset i QF o ρ ↔ i < ρ.length ∧ QF .nx (ρ.set i (some o)) := Iff.rfl
theorem w_set (i : Nat) (e : E) : W (exS Φ G (.set i e) ρ) QF ↔ W (ev Φ G e ρ) (Kset i QF) := by
  rw [x_set, w_bind]
  simp only [w_if]
  exact Iff.rfl
def KsetT (t : T) (QF : Fl → Env → Prop) : O → Env → Prop := fun o ρ => Wo (bindT t (frz o) ρ) fun ρ' => QF .nx ρ'
theorem k_setT (t : T) (o : O) : KsetT t QF o ρ ↔ Wo (bindT t (frz o) ρ) fun ρ' => QF .nx ρ' := Iff.rfl
theorem w_setT (t : T) (e : E) : W (exS Φ G (.setT t e) ρ) QF ↔ W (ev Φ G e ρ) (KsetT t QF) := by
  rw [x_setT, w_bind]
  simp only [w_omap]
  exact Iff.rfl
def KsetI2 (p : P) (x : D) (QF : Fl → Env → Prop) : O → Env → Prop := fun y ρ => Wo (getP ρ p) fun o => match frz y with
  | .int j => Wo (putAt o j x) fun o' => Wo (setP ρ p o') fun ρ' => QF .nx ρ'
  | _ => False
def KsetI (Φ : Orc) (G : Gv) (p : P) (i : E) (QF : Fl → Env → Prop) : O → Env → Prop := fun x ρ => (getP ρ p).isSome ∧ W (ev Φ G i ρ) (KsetI2 p (frz x) QF)
theorem k_setI2 (p : P) (x : D) (j : Int) : KsetI2 p x QF (.d (.int j)) ρ ↔ Wo (getP ρ p) fun o => Wo (putAt o j x) fun o' => Wo (setP ρ p o') fun ρ' => QF .nx ρ' := Iff.rfl
theorem k_setI (p : P) (i : E) (x : O) : KsetI Φ G p i QF x ρ ↔ (getP ρ p).isSome ∧ W (ev Φ G i ρ) (KsetI2 p (frz x) QF) := Iff.rfl
theorem w_setI (p : P) (i e : E) : W (exS Φ G (.setI p i e) ρ) QF ↔ W (ev Φ G e ρ) (KsetI Φ G p i QF) := by
  rw [x_setI, w_bind]
  refine iff_of_eq (congrArg _ (funext fun x => funext fun ρ => propext ?_))
  show W (if (getP ρ p).isSome = true then _ else none) QF ↔ _
  rw [w_iff]
  refine and_congr Iff.rfl ?_
  rw [w_bind]
  refine iff_of_eq (congrArg _ (funext fun y => funext fun ρ => propext ?_))
  rw [w_obind]
  unfold KsetI2
  refine iff_of_eq (congrArg _ (funext fun o => propext ?_))
  cases frz y <;> first | exact w_none | skip
  show W ((putAt o _ (frz x)).bind _) QF ↔ _
  rw [w_obind]
  simp only [w_omap]
def Kapp (p : P) (QF : Fl → Env → Prop) : O → Env → Prop := fun x ρ => Wo (getP ρ p) fun o => match o with
  | .fl xs => xs.length < big ∧ Wo (setP ρ p (.fl (xs ++ [frz x]))) fun ρ' => QF .nx ρ'
  | _ => False
/-- what an append asks of the list -/
def Kapp2 (p : P) (x : D) (ρ : Env) (QF : Fl → Env → Prop) : O → Prop := fun o => match o with
  | .fl xs => xs.length < big ∧ Wo (setP ρ p (.fl (xs ++ [x]))) fun ρ' => QF .nx ρ'
  | _ => False
theorem k_app (p : P) (x : O) : Kapp p QF x ρ ↔ Wo (getP ρ p) (Kapp2 p (frz x) ρ QF) := Iff.rfl
theorem k_app2 (p : P) (x : D) (xs : List D) : Kapp2 p x ρ QF (.fl xs) ↔ xs.length < big ∧ Wo (setP ρ p (.fl (xs ++ [x]))) fun ρ' => QF .nx ρ' := Iff.rfl
theorem w_app (p : P) (e : E) : W (exS Φ G (.app p e) ρ) QF ↔ isFl (getP ρ p) = true ∧ W (ev Φ G e ρ) (Kapp p QF) := by
  rw [x_app, w_iff, w_bind]
  refine and_congr Iff.rfl (iff_of_eq (congrArg _ (funext fun x => funext fun ρ => propext ?_)))
  unfold Kapp
  show W (match getP ρ p with | some (.fl xs) => if xs.length < big then (setP ρ p (.fl (xs ++ [frz x]))).map fun ρ' => (Fl.nx, ρ') else none | _ => none) QF ↔ _
  cases getP ρ p with
  | none => rw [wo_none]; exact w_none
  | some o =>
    rw [wo_some]
    cases o with
    | fl xs =>
      show W (if xs.length < big then _ else none) QF ↔ _
      rw [w_iff, w_omap]
    | _ => exact w_none
def Kex (QF : Fl → Env → Prop) : O → Env → Prop := fun o ρ => QF .nx ρ
theorem k_ex (o : O) : Kex QF o ρ ↔ QF .nx ρ := Iff.rfl
theorem w_ex (e : E) : W (exS Φ G (.ex e) ρ) QF ↔ W (ev Φ G e ρ) (Kex QF) := by
  rw [x_ex, w_map]; exact Iff.rfl
def Krt (QF : Fl → Env → Prop) : O → Env → Prop := fun o ρ => QF (.rt o) ρ
theorem k_rt (o : O) : Krt QF o ρ ↔ QF (.rt o) ρ := Iff.rfl
theorem w_ret (e : E) : W (exS Φ G (.ret e) ρ) QF ↔ W (ev Φ G e ρ) (Krt QF) := by
  rw [x_ret, w_map]; exact Iff.rfl
theorem w_retN : W (exS Φ G .retN ρ) QF ↔ QF (.rt (.d .non)) ρ := by rw [x_retN, w_some]
def Kifs (Φ : Orc) (G : Gv) (a b : List S) (QF : Fl → Env → Prop) : Bool → Env → Prop := fun t ρ => if t then W (exSs Φ G a ρ) QF else W (exSs Φ G b ρ) QF
theorem k_ifs (a b : List S) (t : Bool) : Kifs Φ G a b QF t ρ ↔ if t then W (exSs Φ G a ρ) QF else W (exSs Φ G b ρ) QF := Iff.rfl
theorem w_ifs (c : B) (a b : List S) : W (exS Φ G (.ifs c a b) ρ) QF ↔ W (evB Φ G c ρ) (Kifs Φ G a b QF) := by
  rw [x_ifs, w_bind]
  refine iff_of_eq (congrArg _ (funext fun t => funext fun ρ => propext ?_))
  unfold Kifs
  cases t <;> exact Iff.rfl
def Kfor (Φ : Orc) (G : Gv) (t : T) (b : List S) (QF : Fl → Env → Prop) : List D → Env → Prop := fun xs ρ => W (forRun (fturn Φ G t b) xs ρ) QF
theorem k_for (t : T) (b : List S) (xs : List D) : Kfor Φ G t b QF xs ρ ↔ W (forRun (fturn Φ G t b) xs ρ) QF := Iff.rfl
theorem w_for (t : T) (it : I) (b : List S) : W (exS Φ G (.for_ t it b) ρ) QF ↔ W (evI Φ G it ρ) (Kfor Φ G t b QF) := by
  rw [x_for, w_bind]; exact Iff.rfl
theorem w_while (c : B) (b : List S) : W (exS Φ G (.while_ c b) ρ) QF ↔ W (whileRun (evB Φ G c) (exSs Φ G b) G.fuel ρ) QF := by rw [x_while]
theorem w_pass : W (exS Φ G .pass ρ) QF ↔ QF .nx ρ := by rw [x_pass, w_some]
theorem w_brk : W (exS Φ G .brk ρ) QF ↔ QF .bk ρ := by rw [x_brk, w_some]
theorem w_cont : W (exS Φ G .cont ρ) QF ↔ QF .ct ρ := by rw [x_cont, w_some]
def Kmore (Φ : Orc) (G : Gv) (r : List S) (QF : Fl → Env → Prop) : Fl → Env → Prop := fun f ρ => match f with
  | .nx => W (exSs Φ G r ρ) QF
  | f => QF f ρ
theorem k_nx (r : List S) : Kmore Φ G r QF .nx ρ ↔ W (exSs Φ G r ρ) QF := Iff.rfl
theorem k_mrt (r : List S) (o : O) : Kmore Φ G r QF (.rt o) ρ ↔ QF (.rt o) ρ := Iff.rfl
theorem k_mbk (r : List S) : Kmore Φ G r QF .bk ρ ↔ QF .bk ρ := Iff.rfl
theorem k_mct (r : List S) : Kmore Φ G r QF .ct ρ ↔ QF .ct ρ := Iff.rfl
theorem w_snil : W (exSs Φ G [] ρ) QF ↔ QF .nx ρ := w_some
theorem w_scons (s : S) (r : List S) : W (exSs Φ G (s :: r) ρ) QF ↔ W (exS Φ G s ρ) (Kmore Φ G r QF) := by
  rw [xs_cons, w_bind]
  refine iff_of_eq (congrArg _ (funext fun f => funext fun ρ => propext ?_))
  cases f <;> first | exact Iff.rfl | exact w_some
theorem w_fturn (t : T) (b : List S) (x : D) : W (fturn Φ G t b x ρ) QF ↔ Wo (bindT t x ρ) fun ρ' => W (exSs Φ G b ρ') QF := by
  unfold fturn
  rw [w_obind]
def Kturn2 (QT : Option D → Env → Prop) : O → Env → Prop := fun o ρ => QT (some (frz o)) ρ
def Kturn (Φ : Orc) (G : Gv) (elt : E) (QT : Option D → Env → Prop) : Bool → Env → Prop := fun b ρ => if b then W (ev Φ G elt ρ) (Kturn2 QT) else QT none ρ
theorem k_turn2 {QT : Option D → Env → Prop} (o : O) : Kturn2 QT o ρ ↔ QT (some (frz o)) ρ := Iff.rfl
theorem k_turn {QT : Option D → Env → Prop} (elt : E) (b : Bool) : Kturn Φ G elt QT b ρ ↔ if b then W (ev Φ G elt ρ) (Kturn2 QT) else QT none ρ := Iff.rfl
theorem w_turn {QT : Option D → Env → Prop} (elt : E) (t : T) (cond : Bo) (own : List Nat) (x : D) : W (turn Φ G elt t cond own x ρ) QT ↔ Wo (bindT t x (wipeE ρ own)) fun ρ2 => W (evW Φ G cond ρ2) (Kturn Φ G elt QT) := by
  unfold turn
  rw [w_obind]
  refine iff_of_eq (congrArg _ (funext fun ρ2 => propext ?_))
  rw [w_bind]
  refine iff_of_eq (congrArg _ (funext fun b => funext fun ρ3 => propext ?_))
  unfold Kturn
  cases b with
  | true =>
    show W ((ev Φ G elt ρ3).map _) QT ↔ _
    rw [w_map]; exact Iff.rfl
  | false => exact w_some
/-! ### loops -/
def Kloop (I : Nat → Env → Prop) (i : Nat) (QF : Fl → Env → Prop) : Fl → Env → Prop := fun f ρ => match f with
  | .nx => I (i + 1) ρ
  | .ct => I (i + 1) ρ
  | .bk => QF .nx ρ
  | .rt o => QF (.rt o) ρ
theorem k_lnx {I : Nat → Env → Prop} (i : Nat) : Kloop I i QF .nx ρ ↔ I (i + 1) ρ := Iff.rfl
theorem k_lct {I : Nat → Env → Prop} (i : Nat) : Kloop I i QF .ct ρ ↔ I (i + 1) ρ := Iff.rfl
theorem k_lbk {I : Nat → Env → Prop} (i : Nat) : Kloop I i QF .bk ρ ↔ QF .nx ρ := Iff.rfl
theorem k_lrt {I : Nat → Env → Prop} (i : Nat) (o : O) : Kloop I i QF (.rt o) ρ ↔ QF (.rt o) ρ := Iff.rfl
theorem w_loop {body : D → M Fl} (I : Nat → Env → Prop) {xs : List D} (h0 : I 0 ρ) (step : ∀ i x ρ, xs[i]? = some x → I i ρ → W (body x ρ) (Kloop I i QF)) (fin : ∀ ρ, I xs.length ρ → QF .nx ρ) : W (forRun body xs ρ) QF := by
  suffices ∀ (m k : Nat) (ρ : Env), k = xs.length - m → m ≤ xs.length → I m ρ → W (forRun body (xs.drop m) ρ) QF by
    have := this 0 xs.length ρ (by simp) (Nat.zero_le _) h0
    simpa using this
  intro m k
  induction k generalizing m with
  | zero =>
    intro ρ hk hm h
    have : m = xs.length := by omega
    subst this
    rw [List.drop_length]
    exact ⟨.nx, ρ, rfl, fin ρ h⟩
  | succ k ih =>
    intro ρ hk hm h
    have hlt : m < xs.length := by omega
    obtain ⟨f, ρ', e, q⟩ := step m xs[m] ρ (List.getElem?_eq_getElem hlt) h
    rw [List.drop_eq_getElem_cons hlt]
    unfold forRun
    rw [e]
    cases f with
    | nx => exact ih (m + 1) ρ' (by omega) (by omega) q
    | ct => exact ih (m + 1) ρ' (by omega) (by omega) q
    | bk => exact ⟨.nx, ρ', rfl, q⟩
    | rt o => exact ⟨.rt o, ρ', rfl, q⟩
/-- a while by a measure: I holds with so many turns left at most -/
def Kwl (I : Nat → Env → Prop) (n : Nat) (QF : Fl → Env → Prop) : Fl → Env → Prop := fun f ρ => match f with
  | .nx => ∃ m, m < n ∧ I m ρ
  | .ct => ∃ m, m < n ∧ I m ρ
  | .bk => QF .nx ρ
  | .rt o => QF (.rt o) ρ
theorem k_wnx {I : Nat → Env → Prop} (n : Nat) : Kwl I n QF .nx ρ ↔ ∃ m, m < n ∧ I m ρ := Iff.rfl
theorem k_wct {I : Nat → Env → Prop} (n : Nat) : Kwl I n QF .ct ρ ↔ ∃ m, m < n ∧ I m ρ := Iff.rfl
theorem k_wbk {I : Nat → Env → Prop} (n : Nat) : Kwl I n QF .bk ρ ↔ QF .nx ρ := Iff.rfl
theorem k_wrt {I : Nat → Env → Prop} (n : Nat) (o : O) : Kwl I n QF (.rt o) ρ ↔ QF (.rt o) ρ := Iff.rfl
def Kwc (body : M Fl) (I : Nat → Env → Prop) (n : Nat) (QF : Fl → Env → Prop) : Bool → Env → Prop := fun t ρ => if t then W (body ρ) (Kwl I n QF) else QF .nx ρ
theorem k_wc {body : M Fl} {I : Nat → Env → Prop} (n : Nat) (t : Bool) : Kwc body I n QF t ρ ↔ if t then W (body ρ) (Kwl I n QF) else QF .nx ρ := Iff.rfl
theorem w_wloop {c : M Bool} {body : M Fl} (I : Nat → Env → Prop) {n f : Nat} (hn : n < f) (h0 : I n ρ) (step : ∀ n ρ, I n ρ → W (c ρ) (Kwc body I n QF)) : W (whileRun c body f ρ) QF := by
  induction f generalizing n ρ with
  | zero => omega
  | succ f ih =>
    obtain ⟨t, ρ1, e, q⟩ := step n ρ h0
    unfold whileRun
    rw [e]
    cases t with
    | false => exact ⟨.nx, ρ1, rfl, q⟩
    | true =>
      have q' : W (body ρ1) (Kwl I n QF) := q
      obtain ⟨g, ρ2, e2, q2⟩ := q'
      show W (match body ρ1 with | some (.nx, ρ') => whileRun c body f ρ' | some (.ct, ρ') => whileRun c body f ρ' | some (.bk, ρ') => some (.nx, ρ') | some (.rt o, ρ') => some (.rt o, ρ') | none => none) QF
      rw [e2]
      cases g with
      | nx => obtain ⟨m, hm, h⟩ := q2; exact ih (by omega) h
      | ct => obtain ⟨m, hm, h⟩ := q2; exact ih (by omega) h
      | bk => exact ⟨.nx, ρ2, rfl, q2⟩
      | rt o => exact ⟨.rt o, ρ2, rfl, q2⟩
/-- a comprehension's turn -/
def Klt (I : Nat → List D → Env → Prop) (i : Nat) (acc : List D) : Option D → Env → Prop := fun oy ρ => match oy with
  | some y => I (i + 1) (acc ++ [y]) ρ
  | none => I (i + 1) acc ρ
theorem k_lts {I : Nat → List D → Env → Prop} (i : Nat) (acc : List D) (y : D) : Klt I i acc (some y) ρ ↔ I (i + 1) (acc ++ [y]) ρ := Iff.rfl
theorem k_ltn {I : Nat → List D → Env → Prop} (i : Nat) (acc : List D) : Klt I i acc none ρ ↔ I (i + 1) acc ρ := Iff.rfl
theorem w_comp {one : D → Env → Option (Option D × Env)} (I : Nat → List D → Env → Prop) {xs : List D} {QL : List D → Env → Prop} (h0 : I 0 [] ρ) (step : ∀ i x acc ρ, xs[i]? = some x → I i acc ρ → W (one x ρ) (Klt I i acc)) (fin : ∀ acc ρ, I xs.length acc ρ → QL acc ρ) : W (lcRun one xs [] ρ) QL := by
  obtain ⟨acc, ρ', e, h⟩ := lc_all (one := one) I h0 (fun i x acc ρ hx h => by
    obtain ⟨oy, ρ', e, q⟩ := step i x acc ρ hx h
    cases oy with
    | none => exact .inr ⟨ρ', e, q⟩
    | some y => exact .inl ⟨y, ρ', e, q⟩)
  exact ⟨acc, ρ', e, fin acc ρ' h⟩
/-- .. each item's answer as wished, E what stays of the names -/
theorem w_compF {one : D → Env → Option (Option D × Env)} (E : Env → Prop) (R : D → D → Prop) {QL : List D → Env → Prop} : ∀ {xs : List D} {ρ : Env}, E ρ → (∀ x ρ, x ∈ xs → E ρ → W (one x ρ) fun oy ρ' => ∃ y, oy = some y ∧ R x y ∧ E ρ') →
    (∀ acc ρ, acc.length = xs.length → (∀ (i : Nat) (x y : D), xs[i]? = some x → acc[i]? = some y → R x y) → E ρ → QL acc ρ) → W (lcRun one xs [] ρ) QL := by
  intro xs ρ h0 step fin
  refine w_comp (fun i acc ρ => acc.length = i ∧ (∀ (j : Nat) (x y : D), xs[j]? = some x → acc[j]? = some y → R x y) ∧ E ρ) ⟨rfl, fun j x y _ h => by simp at h, h0⟩ ?_ ?_
  · rintro i x acc ρ hx ⟨hl, hr, he⟩
    refine (step x ρ (List.mem_of_getElem? hx) he).mono ?_
    rintro oy ρ' ⟨y, rfl, hy, he'⟩
    refine ⟨by simp [hl], fun j u v hu hv => ?_, he'⟩
    by_cases hj : j < acc.length
    · rw [List.getElem?_append_left hj] at hv
      exact hr j u v hu hv
    · have : j = acc.length := by
        have := (List.getElem?_eq_some_iff.mp hv).1
        simp at this
        omega
      subst this
      rw [List.getElem?_append_right (Nat.le_refl _)] at hv
      simp at hv
      rw [hl] at hu
      rw [hx] at hu
      cases hu
      rw [← hv]
      exact hy
  · rintro acc ρ ⟨h1, h2, h3⟩
    exact fin acc ρ h1 h2 h3
/-- .. a map -/
theorem w_compM {one : D → Env → Option (Option D × Env)} (E : Env → Prop) (g : D → D) {QL : List D → Env → Prop} {xs : List D} (h0 : E ρ) (step : ∀ x ρ, x ∈ xs → E ρ → W (one x ρ) fun oy ρ' => oy = some (g x) ∧ E ρ') (fin : ∀ ρ, E ρ → QL (xs.map g) ρ) : W (lcRun one xs [] ρ) QL := by
  refine w_compF E (fun x y => y = g x) h0 (fun x ρ hx he => (step x ρ hx he).mono fun oy ρ' h => ⟨g x, h.1, rfl, h.2⟩) fun acc ρ hl hr he => ?_
  have : acc = xs.map g := by
    apply List.ext_getElem?
    intro j
    rw [List.getElem?_map]
    by_cases hj : j < xs.length
    · rw [List.getElem?_eq_getElem hj, List.getElem?_eq_getElem (by omega : j < acc.length)]
      rw [hr j _ _ (List.getElem?_eq_getElem hj) (List.getElem?_eq_getElem (by omega))]
      rfl
    · rw [List.getElem?_eq_none (by omega), List.getElem?_eq_none (by omega)]
      rfl
  rw [this]
  exact fin ρ he
/-! ### a def's run -/
def Kdef (io : List Nat) (Q : O → List O → Prop) : Fl → Env → Prop := fun f ρ => match f with
  | .rt o => Wo (outsOf ρ io) fun outs => Q o outs
  | .nx => Wo (outsOf ρ io) fun outs => Q (.d .non) outs
  | _ => False
theorem k_drt {QC : O → List O → Prop} (io : List Nat) (o : O) : Kdef io QC (.rt o) ρ ↔ Wo (outsOf ρ io) fun outs => QC o outs := Iff.rfl
theorem k_dnx {QC : O → List O → Prop} (io : List Nat) : Kdef io QC .nx ρ ↔ Wo (outsOf ρ io) fun outs => QC (.d .non) outs := Iff.rfl
theorem wc_run {tab : Str → Option Fd} {f : Str} {d : Fd} {os : List O} {QC : O → List O → Prop} (ht : tab f = some d) (hl : os.length = d.np) (k : Nat) : Wc (run tab G (k + 1) f os) QC ↔ W (exSs (run tab G k) G d.body (start d.nl os)) (Kdef d.io QC) := by
  rw [run_eq ht]
  unfold runFd
  rw [if_pos hl]
  cases exSs (run tab G k) G d.body (start d.nl os) with
  | none => exact ⟨fun ⟨_, _, e, _⟩ => (by cases e), fun h => (w_none.mp h).elim⟩
  | some p =>
    obtain ⟨fl, ρ⟩ := p
    rw [w_some]
    cases fl with
    | rt o =>
      rw [k_drt]
      show Wc (match outsOf ρ d.io with | some outs => some (o, outs) | none => none) QC ↔ _
      cases outsOf ρ d.io with
      | none => exact ⟨fun ⟨_, _, e, _⟩ => (by cases e), fun h => (wo_none.mp h).elim⟩
      | some outs => rw [wo_some]; exact wc_some
    | nx =>
      rw [k_dnx]
      show Wc (match outsOf ρ d.io with | some outs => some (O.d .non, outs) | none => none) QC ↔ _
      cases outsOf ρ d.io with
      | none => exact ⟨fun ⟨_, _, e, _⟩ => (by cases e), fun h => (wo_none.mp h).elim⟩
      | some outs => rw [wo_some]; exact wc_some
    | bk => exact ⟨fun ⟨_, _, e, _⟩ => (by cases e), False.elim⟩
    | ct => exact ⟨fun ⟨_, _, e, _⟩ => (by cases e), False.elim⟩
end
/-! ### small equations -/
theorem t_nil (ρ : Env) : takeArgs [] ρ = some ([], ρ) := rfl
theorem t_inl (o : O) (r : List Arg) (ρ : Env) : takeArgs (.inl o :: r) ρ = (takeArgs r ρ).map fun p => (o :: p.1, p.2) := by
  show (match takeArgs r ρ with | some (os, ρ') => some (o :: os, ρ') | none => none) = _
  cases takeArgs r ρ <;> rfl
theorem t_inr (i : Nat) (r : List Arg) (ρ : Env) : takeArgs (.inr i :: r) ρ = ((ρ[i]?).join).bind fun o => (takeArgs r (ρ.set i none)).map fun p => (o :: p.1, p.2) := by
  show (match (ρ[i]?).join with | some o => (match takeArgs r (ρ.set i none) with | some (os, ρ') => some (o :: os, ρ') | none => none) | none => none) = _
  cases (ρ[i]?).join with
  | none => rfl
  | some o =>
    show (match takeArgs r (ρ.set i none) with | some (os, ρ') => some (o :: os, ρ') | none => none) = (takeArgs r (ρ.set i none)).map fun p => (o :: p.1, p.2)
    cases takeArgs r (ρ.set i none) <;> rfl
theorem b_nil (ρ : Env) : giveBack [] [] ρ = some ρ := rfl
theorem b_inl (o : O) (r : List Arg) (os : List O) (ρ : Env) : giveBack (.inl o :: r) os ρ = giveBack r os ρ := by cases os <;> rfl
theorem b_inr (i : Nat) (r : List Arg) (o : O) (os : List O) (ρ : Env) : giveBack (.inr i :: r) (o :: os) ρ = giveBack r os (ρ.set i (some o)) := rfl
theorem l_nil (n : Nat) : lendPos n [] = [] := rfl
theorem l_inl (n : Nat) (o : O) (r : List Arg) : lendPos n (.inl o :: r) = lendPos (n + 1) r := rfl
theorem l_inr (n i : Nat) (r : List Arg) : lendPos n (.inr i :: r) = n :: lendPos (n + 1) r := rfl
theorem fa_nil (vs : List Arg) : fillArgs vs [] = some [] := rfl
theorem fa_inl (vs : List Arg) (j : Nat) (r : List (Sum Nat D)) : fillArgs vs (.inl j :: r) = (vs[j]?).bind fun a => (fillArgs vs r).map (a :: ·) := by
  show (match vs[j]?, fillArgs vs r with | some a, some b => some (a :: b) | _, _ => none) = _
  cases vs[j]? <;> cases fillArgs vs r <;> rfl
theorem fa_inr (vs : List Arg) (d : D) (r : List (Sum Nat D)) : fillArgs vs (.inr d :: r) = (fillArgs vs r).map (.inl (.d d) :: ·) := rfl
theorem z_inl (o : O) : frzA (.inl o) = .inl (.d (frz o)) := rfl
theorem z_inr (i : Nat) : frzA (.inr i) = .inr i := rfl
theorem bt_v (i : Nat) (x : D) (ρ : Env) : bindT (.v i) x ρ = if i < ρ.length then some (ρ.set i (some (.d x))) else none := rfl
theorem bt_tup (ts : List T) (xs : List D) (ρ : Env) : bindT (.tup ts) (.tup xs) ρ = bindTs ts xs ρ := rfl
theorem bs_nil (ρ : Env) : bindTs [] [] ρ = some ρ := rfl
theorem bs_cons (t : T) (ts : List T) (x : D) (xs : List D) (ρ : Env) : bindTs (t :: ts) (x :: xs) ρ = (bindT t x ρ).bind (bindTs ts xs) := rfl
theorem g_v (i : Nat) (ρ : Env) : getP ρ (.v i) = (ρ[i]?).join := rfl
theorem g_at (p : P) (k : Nat) (ρ : Env) : getP ρ (.at p k) = (getP ρ p).bind fun o => subA o k := rfl
theorem s_v (i : Nat) (u : O) (ρ : Env) : setP ρ (.v i) u = if i < ρ.length then some (ρ.set i (some u)) else none := rfl
theorem ou_nil (ρ : Env) : outsOf ρ [] = some [] := rfl
theorem ou_cons (i : Nat) (r : List Nat) (ρ : Env) : outsOf ρ (i :: r) = ((ρ[i]?).join).bind fun o => (outsOf ρ r).map (o :: ·) := by
  show (match (ρ[i]?).join, outsOf ρ r with | some o, some os => some (o :: os) | _, _ => none) = _
  cases (ρ[i]?).join <;> cases outsOf ρ r <;> rfl
theorem wi_nil (ρ : Env) : wipeE ρ [] = ρ := rfl
theorem wi_cons (i : Nat) (is : List Nat) (ρ : Env) : wipeE ρ (i :: is) = (wipeE ρ is).set i none := rfl
theorem ba_nil (ρ ρ' : Env) : backE ρ ρ' [] = ρ' := rfl
theorem ba_cons (i : Nat) (is : List Nat) (ρ ρ' : Env) : backE ρ ρ' (i :: is) = (backE ρ ρ' is).set i ((ρ[i]?).join) := rfl
theorem pa_nil' (ρ : Env) : plainAt ρ [] = true := rfl
/-- data or nothing -/
def plainO (o : Option O) : Bool := match o with
  | none => true
  | some (.d _) => true
  | _ => false
theorem pa_cons' (i : Nat) (is : List Nat) (ρ : Env) : plainAt ρ (i :: is) = (plainO (ρ[i]?).join && plainAt ρ is) := rfl
theorem po_none' : plainO none = true := rfl
theorem po_some' (d : D) : plainO (some (.d d)) = true := rfl
theorem it_lst (xs : List D) : items (.lst xs) = some xs := rfl
theorem it_tup (xs : List D) : items (.tup xs) = some xs := rfl
theorem fl_fl (xs : List D) : isFl (some (.fl xs)) = true := rfl
theorem ix_i (x : D) (i : Int) : ixI x (.int i) = (ixD x i).map .d := rfl
theorem ixd_l (xs : List D) (i : Int) : ixD (.lst xs) i = L2.atI xs i := rfl
theorem ixd_t (xs : List D) (i : Int) : ixD (.tup xs) i = L2.atI xs i := rfl
theorem lo_nil : lstO [] = .fl [] := rfl
theorem lo_d (x : D) (os : List O) : lstO (.d x :: os) = match lstO os with
    | .fl xs => .fl (x :: xs)
    | _ => .ml (.d x :: os) := by
  unfold lstO
  rw [List.all_cons]
  show (if (true && os.all isDt) = true then O.fl (frzs (.d x :: os)) else .ml (.d x :: os)) = _
  rw [Bool.true_and]
  split <;> rfl
theorem big_le {n : Nat} (h : n ≤ 16000000) : n ≤ big := h
theorem big_lt {n : Nat} (h : n < 16000000) : n < big := h
theorem big_eq : big = 16000000 := rfl
end Pw

/-! PY2: more rules for readings from behind; rows of numbers; draws. -/
namespace Pw
open PySem
section
variable {Φ : Orc} {G : Gv} {ρ : Env} {Q : O → Env → Prop} {QI : List D → Env → Prop}
def Ksset (Q : O → Env → Prop) : O → Env → Prop := fun x ρ => match frz x with
  | .lst xs => Wo (ssetD xs) fun o => Q o ρ
  | _ => False
theorem k_sset (xs : List D) : Ksset Q (.d (.lst xs)) ρ ↔ Wo (ssetD xs) fun o => Q o ρ := Iff.rfl
theorem k_sset' (xs : List D) : Ksset Q (.fl xs) ρ ↔ Wo (ssetD xs) fun o => Q o ρ := Iff.rfl
theorem w_sset (a : E) : W (ev Φ G (.sset a) ρ) Q ↔ W (ev Φ G a ρ) (Ksset Q) := by
  simp only [ev, bnd_eq, fzM_eq, Option.bind_map, Function.comp_def]
  rw [w_bind]
  refine iff_of_eq (congrArg _ (funext fun x => funext fun ρ => propext ?_))
  unfold Ksset
  cases frz x <;> first | exact w_none | (simp only [lift_eq]; exact w_omap)
def KcmpQ (op : CmpOp) (p : P) (QB : Bool → Env → Prop) : O → Env → Prop := fun x ρ => Wo (getP ρ p) fun o => Wo (cmpD op (frz x) (frz o)) fun r => QB r ρ
theorem k_cmpQ {QB : Bool → Env → Prop} (op : CmpOp) (p : P) (x : O) : KcmpQ op p QB x ρ ↔ Wo (getP ρ p) fun o => Wo (cmpD op (frz x) (frz o)) fun r => QB r ρ := Iff.rfl
theorem w_cmpQ {QB : Bool → Env → Prop} (op : CmpOp) (a : E) (p : P) : W (evB Φ G (.cmpQ op a p) ρ) QB ↔ W (ev Φ G a ρ) (KcmpQ op p QB) := by
  simp only [evB, bnd_eq, fzM_eq, Option.bind_map, Function.comp_def]
  rw [w_bind]
  refine iff_of_eq (congrArg _ (funext fun x => funext fun ρ => propext ?_))
  unfold KcmpQ
  cases getP ρ p with
  | none => rw [wo_none]; exact w_none
  | some o =>
    rw [wo_some]
    show W (match cmpD op (frz x) (frz o) with | some r => some (r, ρ) | none => none) QB ↔ _
    cases cmpD op (frz x) (frz o) with
    | none => rw [wo_none]; exact w_none
    | some r => rw [wo_some]; exact w_some
def Kbm2 (m : Bm) (x : D) (Q : O → Env → Prop) : List Arg → Env → Prop := fun as ρ => Wo (argsO as) fun os => Wo (bmD m x (frzs os)) fun o => Q o ρ
def Kbm (Φ : Orc) (G : Gv) (m : Bm) (es : Es) (Q : O → Env → Prop) : O → Env → Prop := fun x ρ => W (evs Φ G es ρ) (Kbm2 m (frz x) Q)
theorem k_bm2 (m : Bm) (x : D) (as : List Arg) : Kbm2 m x Q as ρ ↔ Wo (argsO as) fun os => Wo (bmD m x (frzs os)) fun o => Q o ρ := Iff.rfl
theorem k_bm (m : Bm) (es : Es) (x : O) : Kbm Φ G m es Q x ρ ↔ W (evs Φ G es ρ) (Kbm2 m (frz x) Q) := Iff.rfl
theorem w_bm (m : Bm) (a : E) (es : Es) : W (ev Φ G (.bm m a es) ρ) Q ↔ W (ev Φ G a ρ) (Kbm Φ G m es Q) := by
  simp only [ev, bnd_eq, fzM_eq, Option.bind_map, Function.comp_def]
  rw [w_bind]
  refine iff_of_eq (congrArg _ (funext fun x => funext fun ρ => propext ?_))
  unfold Kbm
  rw [w_bind]
  refine iff_of_eq (congrArg _ (funext fun as => funext fun ρ => propext ?_))
  unfold Kbm2
  cases argsO as with
  | none => rw [wo_none]; exact w_none
  | some os =>
    rw [wo_some]
    simp only [lift_eq]
    exact w_omap
theorem w_dsp (kvs : List (Str × D)) : W (ev Φ G (.dsp kvs) ρ) Q ↔ Q (.d (.dic (dsKv kvs))) ρ := w_some
def Kdg (kvs : List (Str × D)) (d : D) (Q : O → Env → Prop) : O → Env → Prop := fun x ρ => match frz x with
  | .str s => Q (.d ((kvs.lookup s).getD d)) ρ
  | _ => False
theorem k_dg (kvs : List (Str × D)) (d : D) (s : Str) : Kdg kvs d Q (.d (.str s)) ρ ↔ Q (.d ((kvs.lookup s).getD d)) ρ := Iff.rfl
theorem w_dgetd (kvs : List (Str × D)) (a : E) (d : D) : W (ev Φ G (.dgetd kvs a d) ρ) Q ↔ W (ev Φ G a ρ) (Kdg kvs d Q) := by
  simp only [ev, bnd_eq, fzM_eq, Option.bind_map, Function.comp_def]
  rw [w_bind]
  refine iff_of_eq (congrArg _ (funext fun x => funext fun ρ => propext ?_))
  unfold Kdg
  cases frz x <;> first | exact w_none | exact w_some
def Kzip2 (x : D) (QI : List D → Env → Prop) : O → Env → Prop := fun y ρ => Wo (items x) fun xs => Wo (items (frz y)) fun ys => QI (zipD xs ys) ρ
def Kzip (Φ : Orc) (G : Gv) (b : E) (QI : List D → Env → Prop) : O → Env → Prop := fun x ρ => W (ev Φ G b ρ) (Kzip2 (frz x) QI)
theorem k_zip2 (x : D) (y : O) : Kzip2 x QI y ρ ↔ Wo (items x) fun xs => Wo (items (frz y)) fun ys => QI (zipD xs ys) ρ := Iff.rfl
theorem k_zip (b : E) (x : O) : Kzip Φ G b QI x ρ ↔ W (ev Φ G b ρ) (Kzip2 (frz x) QI) := Iff.rfl
theorem w_zip (a b : E) : W (evI Φ G (.zip a b) ρ) QI ↔ W (ev Φ G a ρ) (Kzip Φ G b QI) := by
  simp only [evI, bnd_eq, fzM_eq, Option.bind_map, Function.comp_def]
  rw [w_bind]
  refine iff_of_eq (congrArg _ (funext fun x => funext fun ρ => propext ?_))
  unfold Kzip
  rw [w_bind]
  refine iff_of_eq (congrArg _ (funext fun y => funext fun ρ => propext ?_))
  unfold Kzip2
  cases items (frz x) with
  | none => rw [wo_none]; exact w_none
  | some xs =>
    rw [wo_some]
    cases items (frz y) with
    | none => rw [wo_none]; exact w_none
    | some ys => rw [wo_some]; exact w_some
end
theorem c_in (x y : D) : cmpD .In x y = inD x y := by unfold cmpD; cases x <;> rfl
theorem c_nin (x y : D) : cmpD .NotIn x y = (inD x y).map (!·) := by unfold cmpD; cases x <;> rfl
theorem c_isb (a b : Bool) : cmpD .Is (.bl a) (.bl b) = some (decide (a = b)) := rfl
theorem c_isnb (a b : Bool) : cmpD .IsNot (.bl a) (.bl b) = some (!decide (a = b)) := rfl
theorem Wc.eq {r : Option (O × List O)} {o : O} {os : List O} (h : Wc r fun a b => a = o ∧ b = os) : r = some (o, os) := by
  obtain ⟨a, b, e, rfl, rfl⟩ := h
  exact e
/-! loops over what is written as a map -/
theorem lcRun_filt {α : Type} {one : D → Env → Option (Option D × Env)} (E : Env → Prop) (f g : α → D) (p : α → Bool) : ∀ (l : List α) (acc : List D) (ρ : Env), E ρ → (∀ a ρ, a ∈ l → E ρ → W (one (f a) ρ) fun oy ρ' => oy = (if p a then some (g a) else none) ∧ E ρ') →
    ∃ ρ', lcRun one (l.map f) acc ρ = some (acc ++ (l.filter p).map g, ρ') ∧ E ρ'
  | [], acc, ρ, h, _ => ⟨ρ, by simp [lcRun], h⟩
  | a :: l, acc, ρ, h, step => by
    obtain ⟨oy, ρ1, e, hy, h1⟩ := step a ρ List.mem_cons_self h
    rw [List.map_cons]
    unfold lcRun
    rw [e]
    subst hy
    by_cases hp : p a = true
    · obtain ⟨ρ2, e2, h2⟩ := lcRun_filt E f g p l (acc ++ [g a]) ρ1 h1 fun b σ hb => step b σ (List.mem_cons_of_mem _ hb)
      refine ⟨ρ2, ?_, h2⟩
      rw [if_pos hp]
      show lcRun one (l.map f) (acc ++ [g a]) ρ1 = _
      rw [e2, List.filter_cons, if_pos hp]
      simp
    · obtain ⟨ρ2, e2, h2⟩ := lcRun_filt E f g p l acc ρ1 h1 fun b σ hb => step b σ (List.mem_cons_of_mem _ hb)
      refine ⟨ρ2, ?_, h2⟩
      rw [if_neg hp]
      show lcRun one (l.map f) acc ρ1 = _
      rw [e2, List.filter_cons, if_neg hp]
/-- a comprehension with a test: what passes, mapped -/
theorem w_filtI {α : Type} {one : D → Env → Option (Option D × Env)} (E : Env → Prop) {ρ : Env} (l : List α) (f g : α → D) (p : α → Bool) {QL : List D → Env → Prop} (h0 : E ρ) (step : ∀ a ρ, a ∈ l → E ρ → W (one (f a) ρ) fun oy ρ' => oy = (if p a then some (g a) else none) ∧ E ρ')
    (fin : ∀ ρ, E ρ → QL ((l.filter p).map g) ρ) : W (lcRun one (l.map f) [] ρ) QL := by
  obtain ⟨ρ', e, h⟩ := lcRun_filt E f g p l [] ρ h0 step
  exact ⟨_, ρ', e, by simpa using fin ρ' h⟩
/-- .. without a test -/
theorem w_mapI {α : Type} {one : D → Env → Option (Option D × Env)} (E : Env → Prop) {ρ : Env} (l : List α) (f g : α → D) {QL : List D → Env → Prop} (h0 : E ρ) (step : ∀ a ρ, a ∈ l → E ρ → W (one (f a) ρ) fun oy ρ' => oy = some (g a) ∧ E ρ')
    (fin : ∀ ρ, E ρ → QL (l.map g) ρ) : W (lcRun one (l.map f) [] ρ) QL :=
  w_filtI E l f g (fun _ => true) h0 (fun a ρ ha h => (step a ρ ha h).mono fun oy ρ' q => ⟨by rw [q.1]; rfl, q.2⟩) fun ρ h => by rw [List.filter_eq_self.mpr (fun _ _ => rfl)]; exact fin ρ h
theorem lcRun_draw {β : Type} {one : D → Env → Option (Option D × Env)} (E : Env → Prop) (P : β → Prop) (g : β → D) : ∀ (xs acc : List D) (ρ : Env), E ρ → (∀ x ρ, x ∈ xs → E ρ → W (one x ρ) fun oy ρ' => (∃ b, P b ∧ oy = some (g b)) ∧ E ρ') →
    ∃ (bs : List β) (ρ' : Env), lcRun one xs acc ρ = some (acc ++ bs.map g, ρ') ∧ E ρ' ∧ bs.length = xs.length ∧ ∀ b ∈ bs, P b
  | [], acc, ρ, h, _ => ⟨[], ρ, by simp [lcRun], h, rfl, fun _ h => nomatch h⟩
  | x :: xs, acc, ρ, h, step => by
    obtain ⟨oy, ρ1, e, ⟨b, hb, hy⟩, h1⟩ := step x ρ List.mem_cons_self h
    unfold lcRun
    rw [e]
    subst hy
    obtain ⟨bs, ρ2, e2, h2, h3, h4⟩ := lcRun_draw E P g xs (acc ++ [g b]) ρ1 h1 fun y σ hy => step y σ (List.mem_cons_of_mem _ hy)
    refine ⟨b :: bs, ρ2, ?_, h2, by simp [h3], fun c hc => ?_⟩
    · show lcRun one xs (acc ++ [g b]) ρ1 = _
      rw [e2]
      simp
    · rcases List.mem_cons.mp hc with z | z
      · rw [z]; exact hb
      · exact h4 c z
/-- a comprehension that draws: each thing as wished -/
theorem w_drawI {β : Type} {one : D → Env → Option (Option D × Env)} (E : Env → Prop) {ρ : Env} (P : β → Prop) (g : β → D) {xs : List D} {QL : List D → Env → Prop} (h0 : E ρ) (step : ∀ x ρ, x ∈ xs → E ρ → W (one x ρ) fun oy ρ' => (∃ b, P b ∧ oy = some (g b)) ∧ E ρ')
    (fin : ∀ (bs : List β) (ρ : Env), bs.length = xs.length → (∀ b ∈ bs, P b) → E ρ → QL (bs.map g) ρ) : W (lcRun one xs [] ρ) QL := by
  obtain ⟨bs, ρ', e, h, h2, h3⟩ := lcRun_draw E P g xs [] ρ h0 step
  exact ⟨_, ρ', e, by simpa using fin bs ρ' h2 h3 h⟩
/-! rows of numbers -/
def rowP (r : List Int) : PyData := .tuple (r.map .int)
theorem toPy_row (r : List Int) : toPy (rowD r) = some (rowP r) := by
  show (toPys (r.map D.int)).map PyData.tuple = _
  rw [toPys_ints]; rfl
theorem toPys_rows : ∀ rs : List (List Int), toPys (rs.map rowD) = some (rs.map rowP)
  | [] => rfl
  | r :: rs => by
    show (match toPy (rowD r), toPys (rs.map rowD) with | some a, some b => some (a :: b) | _, _ => none) = _
    rw [toPys_rows rs, toPy_row]
    rfl
theorem lay_ints : ∀ r : List Int, PyData.canLayAll0 (r.map PyData.int) = true
  | [] => rfl
  | n :: r => by simp [PyData.canLayAll0, PyData.canLay0, lay_ints r]
theorem dep_ints : ∀ r : List Int, PyData.depthAll (r.map PyData.int) ≤ 1
  | [] => Nat.zero_le _
  | n :: r => by
    show max (PyData.depth (.int n)) (PyData.depthAll (r.map PyData.int)) ≤ 1
    have := dep_ints r
    have h2 : PyData.depth (.int n) ≤ 1 := by simp [PyData.depth]
    omega
theorem lay_rows : ∀ r : List (List Int), PyData.canLayAll0 (r.map rowP) = true
  | [] => rfl
  | n :: r => by
    have : PyData.canLay0 (rowP n) = true := by unfold rowP; simp only [PyData.canLay0]; exact lay_ints n
    simp [PyData.canLayAll0, this, lay_rows r]
theorem dep_row (n : List Int) : PyData.depth (rowP n) ≤ 2 := by
  unfold rowP
  simp only [PyData.depth]
  have := dep_ints n
  omega
theorem dep_rows : ∀ r : List (List Int), PyData.depthAll (r.map rowP) ≤ 2
  | [] => Nat.zero_le _
  | n :: r => by
    show max (PyData.depth (rowP n)) (PyData.depthAll (r.map rowP)) ≤ 2
    have := dep_rows r
    have := dep_row n
    omega
theorem sh_int (n : Int) : SeqAt.shaped (.int n) = true := by simp [SeqAt.shaped, PyData.canLay0, PyData.depth]
theorem sh_ints (r : List Int) : SeqAt.shaped (.list (r.map .int)) = true := by
  have := dep_ints r
  have hd : PyData.depth (.list (r.map .int)) ≤ 2 := by simp only [PyData.depth]; omega
  have h : PyData.canLay0 (.list (r.map .int)) = true := by simp only [PyData.canLay0]; exact lay_ints r
  unfold SeqAt.shaped
  rw [h, Bool.true_and, decide_eq_true_eq]
  omega
theorem sh_row (r : List Int) : SeqAt.shaped (rowP r) = true := by
  have := dep_row r
  unfold SeqAt.shaped
  have h : PyData.canLay0 (rowP r) = true := by unfold rowP; simp only [PyData.canLay0]; exact lay_ints r
  rw [h, Bool.true_and, decide_eq_true_eq]
  omega
theorem sh_rows (r : List (List Int)) : SeqAt.shaped (.list (r.map rowP)) = true ∧ SeqAt.shaped (.tuple (r.map rowP)) = true := by
  have := dep_rows r
  have hd : PyData.depth (.list (r.map rowP)) ≤ 3 := by simp only [PyData.depth]; omega
  have h : PyData.canLay0 (.list (r.map rowP)) = true := by simp only [PyData.canLay0]; exact lay_rows r
  have hd2 : PyData.depth (.tuple (r.map rowP)) ≤ 3 := by simp only [PyData.depth]; omega
  have h2 : PyData.canLay0 (.tuple (r.map rowP)) = true := by simp only [PyData.canLay0]; exact lay_rows r
  constructor
  · unfold SeqAt.shaped
    rw [h, Bool.true_and, decide_eq_true_eq]
    omega
  · unfold SeqAt.shaped
    rw [h2, Bool.true_and, decide_eq_true_eq]
    omega
theorem eqv_ints : ∀ a b : List Int, PyData.eqvAll (a.map .int) (b.map .int) = decide (a = b)
  | [], [] => by simp [PyData.eqvAll]
  | [], _ :: _ => by simp [PyData.eqvAll]
  | _ :: _, [] => by simp [PyData.eqvAll]
  | x :: a, y :: b => by
    simp only [List.map_cons, PyData.eqvAll, PyData.eqv, eqv_ints a b, List.cons.injEq]
    by_cases h : x = y <;> by_cases h2 : a = b <;> simp [h, h2]
theorem eqv_row (a b : List Int) : PyData.eqv (rowP a) (rowP b) = decide (a = b) := by
  unfold rowP
  simp only [PyData.eqv]
  exact eqv_ints a b
theorem eqv_rows : ∀ a b : List (List Int), PyData.eqvAll (a.map rowP) (b.map rowP) = decide (a = b)
  | [], [] => by simp [PyData.eqvAll]
  | [], _ :: _ => by simp [PyData.eqvAll]
  | _ :: _, [] => by simp [PyData.eqvAll]
  | x :: a, y :: b => by
    simp only [List.map_cons, PyData.eqvAll, eqv_row, eqv_rows a b, List.cons.injEq]
    by_cases h : x = y <;> by_cases h2 : a = b <;> simp [h, h2]
theorem q_row (a b : List Int) : eqD (rowD a) (rowD b) = some (decide (a = b)) := by
  show (match toPy (rowD a), toPy (rowD b) with | some a, some b => if SeqAt.shaped a && SeqAt.shaped b then some (PyData.eqv a b) else none | _, _ => none) = _
  rw [toPy_row, toPy_row]
  simp only [sh_row, Bool.and_self, if_true, eqv_row]
theorem q_rows (a b : List (List Int)) : eqD (.lst (a.map rowD)) (.lst (b.map rowD)) = some (decide (a = b)) := by
  show (match (toPys (a.map rowD)).map PyData.list, (toPys (b.map rowD)).map PyData.list with | some a, some b => if SeqAt.shaped a && SeqAt.shaped b then some (PyData.eqv a b) else none | _, _ => none) = _
  rw [toPys_rows, toPys_rows]
  simp only [Option.map_some, sh_rows, Bool.and_self, if_true, PyData.eqv, eqv_rows]
theorem q_ints (a b : List Int) : eqD (.lst (a.map D.int)) (.lst (b.map D.int)) = some (decide (a = b)) := by
  show (match (toPys (a.map D.int)).map PyData.list, (toPys (b.map D.int)).map PyData.list with | some a, some b => if SeqAt.shaped a && SeqAt.shaped b then some (PyData.eqv a b) else none | _, _ => none) = _
  rw [toPys_ints, toPys_ints]
  simp only [Option.map_some, sh_ints, Bool.and_self, if_true, PyData.eqv, eqv_ints]
theorem in_ints (a : Int) (b : List Int) : inD (.int a) (.tup (b.map D.int)) = some (decide (a ∈ b)) := by
  show inP (.int a) (b.map D.int) = _
  unfold inP
  rw [toPys_ints]
  show (if SeqAt.shaped (.int a) && SeqAt.shaped (.list (b.map PyData.int)) then some ((b.map PyData.int).any fun z => PyData.eqv z (.int a)) else none) = _
  rw [sh_int, sh_ints]
  simp only [Bool.and_self, if_true, List.any_map]
  congr 1
  rw [Bool.eq_iff_iff]
  simp [PyData.eqv]
theorem in_rows (a : List Int) (b : List (List Int)) : inD (rowD a) (.tup (b.map rowD)) = some (decide (a ∈ b)) := by
  show inP (rowD a) (b.map rowD) = _
  unfold inP
  rw [toPys_rows, toPy_row]
  show (if SeqAt.shaped (rowP a) && SeqAt.shaped (.list (b.map rowP)) then some ((b.map rowP).any fun z => PyData.eqv z (rowP a)) else none) = _
  rw [sh_row, (sh_rows b).1]
  simp only [Bool.and_self, if_true, List.any_map]
  congr 1
  rw [Bool.eq_iff_iff]
  simp [eqv_row]
/-! the deck -/
def Deck (o : O) : Prop := ∃ cs b c, o = deck cs b c ∧ DeckOk cs
theorem wc_draw {tab : Str → Option Fd} {G : Gv} (ht : tab "_law_draw" = some F_draw) (k : Nat) {o : O} {m : Int} (ho : Deck o) (h0 : 0 < m) (h1 : m < 1073741824) {QC : O → List O → Prop}
    (q : ∀ v o', Deck o' → 0 ≤ v → v < m → QC (.d (.int v)) [o']) : Wc (run tab G (k + 1) "_law_draw" [o, .d (.int m)]) QC := by
  obtain ⟨cs, b, c, rfl, hd⟩ := ho
  obtain ⟨v, cs', b', c', e1, v0, v1, hd'⟩ := draw_ok (G := G) ht k h0 h1 b c hd
  exact Wc.of e1 (q v _ ⟨_, _, _, rfl, hd'⟩ v0 v1)
end Pw

/-! PY3: what laws share: picks, ranges, cuts, sorted sets of rows. -/
namespace Pw
open PySem
theorem at_in {α : Type} {xs : List α} {v : Int} (h0 : 0 ≤ v) (h1 : v < xs.length) : ∃ x, L2.atI xs v = some x ∧ x ∈ xs ∧ xs[v.toNat]? = some x := by
  have hl : v.toNat < xs.length := by omega
  refine ⟨xs[v.toNat], ?_, List.getElem_mem hl, List.getElem?_eq_getElem hl⟩
  rw [at_get (n := v.toNat) (by omega), List.getElem?_eq_getElem hl]
theorem bi_lenL (xs : List D) : biD .len [.lst xs] = some (.d (.int xs.length)) := rfl
theorem bi_lenT (xs : List D) : biD .len [.tup xs] = some (.d (.int xs.length)) := rfl
theorem bi_lenR (r : List Int) : biD .len [rowD r] = some (.d (.int r.length)) := by
  show some (O.d (.int (r.map D.int).length)) = _
  rw [List.length_map]
theorem bi_tupL (xs : List D) : biD .tuple [.lst xs] = some (.d (.tup xs)) := rfl
theorem bi_intB (b : Bool) : biD .int [.bl b] = some (.d (.int (if b then 1 else 0))) := rfl
theorem rng0 {m : Int} (h0 : 0 ≤ m) (h1 : m ≤ 1000000) : rngD 0 m = some (rngL 0 m.toNat) := by
  rw [rngD_le (by omega) (by omega) (by omega) h1]
  simp
theorem cut_mapR {α : Type} (f : α → D) (ns : List α) (lo hi : Option Int) : cutL (ns.map f) lo hi = (cutL ns lo hi).map f := by
  unfold cutL
  rw [List.length_map, List.map_take, List.map_drop]
theorem cut_to {α : Type} (xs : List α) {v : Int} (h0 : 0 ≤ v) : cutL xs none (some v) = xs.take v.toNat := by
  unfold cutL
  have e := HT.sIx_nat xs.length xs.length v.toNat
  rw [Int.toNat_of_nonneg h0] at e
  rw [e, HT.sIx_none, List.drop_zero, Nat.sub_zero]
  by_cases h : v.toNat ≤ xs.length
  · rw [Nat.min_eq_left h]
  · rw [Nat.min_eq_right (by omega), List.take_of_length_le (by omega), List.take_of_length_le (by omega)]
theorem cut_from {α : Type} (xs : List α) {v : Int} (h0 : 0 ≤ v) : cutL xs (some v) none = xs.drop v.toNat := by
  unfold cutL
  have e := HT.sIx_nat xs.length 0 v.toNat
  rw [Int.toNat_of_nonneg h0] at e
  rw [e, HT.sIx_none]
  by_cases h : v.toNat ≤ xs.length
  · rw [Nat.min_eq_left h, List.take_of_length_le (by simp)]
  · rw [Nat.min_eq_right (by omega), List.drop_of_length_le (by omega), List.drop_of_length_le (by omega)]; simp
theorem add_rows {a b : List Int} (h : a.length + b.length ≤ 1000000) : opD .Add (rowD a) (rowD b) = some (.d (rowD (a ++ b))) := by
  unfold rowD
  rw [List.map_append]
  exact o_addT (by simp only [List.length_map]; have : big = 16000000 := rfl; omega)
theorem sl_row (r : List Int) (lo hi : Option Int) : slD (rowD r) lo hi = some (.d (rowD (cutL r lo hi))) := by
  show some (O.d (.tup (cutL (r.map D.int) lo hi))) = _
  rw [cut_mapR]; rfl
theorem sl_rows (rs : List (List Int)) (lo hi : Option Int) : slD (.lst (rs.map rowD)) lo hi = some (.fl ((cutL rs lo hi).map rowD)) := by
  show some (O.fl (cutL (rs.map rowD) lo hi)) = _
  rw [cut_mapR]
theorem rows_of : ∀ rs : List (List Int), rowsD (rs.map rowD) = some rs
  | [] => rfl
  | r :: rs => by
    show (match intsD (r.map D.int), rowsD (rs.map rowD) with | some a, some b => some (a :: b) | _, _ => none) = _
    rw [rows_of rs, ints_map]
theorem sset_rows {rs : List (List Int)} (h : rs.length < 60) (h1 : ∀ r ∈ rs, r ≠ []) : ssetD (rs.map rowD) = some (.fl ((srt lexLt rs.eraseDups).map rowD)) := by
  unfold ssetD
  rw [rows_of]
  show (if rs.length < 60 ∧ rs.all (fun r => !r.isEmpty) = true then _ else _) = _
  rw [if_pos ⟨h, List.all_eq_true.mpr fun r hr => by
    cases r with
    | nil => exact absurd rfl (h1 _ hr)
    | cons _ _ => rfl⟩]
theorem dups_le {α : Type} [BEq α] [LawfulBEq α] : ∀ (n : Nat) (l : List α), l.length ≤ n → l.eraseDups.length ≤ l.length
  | _, [], _ => by simp
  | n + 1, a :: l, h => by
    rw [List.eraseDups_cons]
    have h1 := List.length_filter_le (fun b => !b == a) l
    have h2 := dups_le n (l.filter fun b => !b == a) (Nat.le_trans h1 (by simpa using h))
    simp only [List.length_cons]
    omega
theorem sset_mem {rs : List (List Int)} {r : List Int} : r ∈ srt lexLt rs.eraseDups ↔ r ∈ rs := by
  rw [(srt_perm lexLt _).mem_iff, List.mem_eraseDups]
theorem sset_len (rs : List (List Int)) : (srt lexLt rs.eraseDups).length ≤ rs.length := by
  rw [(srt_perm lexLt _).length_eq]
  exact dups_le _ _ (Nat.le_refl _)
/-- a pick -/
abbrev F_pick : Fd := ⟨2, 2, [0], [
    .ret (.ix (.pl (.v 1)) (.call "_law_draw" (.lend 0 (.cons (.bi .len (.cons (.pl (.v 1)) .nil)) .nil)) .nil [] [.inl 0, .inl 1]))]⟩
theorem wc_pick {tab : Str → Option Fd} {G : Gv} (ht : tab "_law_draw" = some F_draw) (hp : tab "_law_pick" = some F_pick) (hio : G.io "_law_draw" = [0]) (k : Nat) {o : O} {xs : List D} (ho : Deck o) (h0 : 0 < xs.length) (h1 : xs.length < 1000000) {QC : O → List O → Prop}
    (q : ∀ x o', x ∈ xs → Deck o' → QC (.d x) [o']) : Wc (run tab G (k + 2) "_law_pick" [o, .d (.lst xs)]) QC := by
  rw [wc_run hp rfl]
  simp -implicitDefEqProofs only [w_k, w_sset, k_sset, k_sset', w_cmpQ, k_cmpQ, w_bm, k_bm, k_bm2, w_dsp, w_dgetd, k_dg, w_zip, k_zip, k_zip2, c_in, c_nin, c_isb, c_isnb, w_pl, w_mv, w_gl, w_bin, k_bin, k_bin2, w_neg, k_neg, w_tv, k_tv, k_tru, w_and, k_and, w_or, k_or, w_ife, k_ife, w_tup, k_tup, w_lst, k_lst, w_ix, k_ix, k_ix2, w_ixP, k_ixP, w_lenP, w_sl, k_sl, k_sl2, k_sl3, wo_eo_none, wo_eo_some, k_eo, w_rev, k_rev, k_back, w_callM, w_call, k_call, k_call2, w_bi, k_bi, w_isi, k_isi, w_lc, k_lc, k_lcb, w_nil, w_cons, k_cons, k_cons2, w_lend, w_wn, w_ws, w_seq, k_seq, w_rng1, k_rng1, w_rng2, k_rng2, k_rng22, w_val, k_val, w_not, k_not, w_andB, k_andB, w_orB, k_orB, w_cmp, k_cmp, k_cmp2, w_cmpP, k_cmpP, w_ch, k_ch, k_ch2, k_ch3, w_set, k_set, w_setT, k_setT, w_setI, k_setI, k_setI2, w_app, k_app, k_app2, w_ex, k_ex, w_ret, k_rt, w_retN, w_ifs, k_ifs, w_for, k_for, w_while, w_pass, w_brk, w_cont, k_nx, k_mrt, k_mbk, k_mct, w_snil, w_scons, w_fturn, w_turn, k_turn, k_turn2, k_lnx, k_lct, k_lbk, k_lrt, k_wnx, k_wct, k_wbk, k_wrt, k_wc, k_lts, k_ltn, k_drt, k_dnx, t_nil, t_inl, t_inr, b_nil, b_inl, b_inr, l_nil, l_inl, l_inr, fa_nil, fa_inl, fa_inr, z_inl, z_inr, bt_v, bt_tup, bs_nil, bs_cons, g_v, g_at, s_v, ou_nil, ou_cons, wi_nil, wi_cons, ba_nil, ba_cons, pa_nil', pa_cons', po_none', po_some', it_lst, it_tup, fl_fl, ix_i, ixd_l, ixd_t, lo_nil, lo_d, wo_some, wo_none, wo_bind, wo_map, w_some, wo_ite, f_d, f_fl, fs_nil, fs_cons, a_nil, a_cons, o_add, o_sub, c_eq, c_ne, c_lt, c_le, c_gt, c_ge, q_int, q_bl, q_str, u_non, u_bl, u_int, u_tup, u_lst, big_eq, List.getElem?_cons_zero, List.getElem?_cons_succ, Option.join_some, Option.join_none, List.set_cons_zero, List.set_cons_succ, List.length_cons, List.length_nil, Nat.reduceAdd, Nat.reduceLT, Nat.reduceLeDiff, Nat.reduceSub, Nat.zero_le, Option.isSome_some, true_and, and_true, if_true, if_false, Bool.false_eq_true, Option.map_some, Option.map_none, Option.bind_some, List.map_cons, List.map_nil, List.cons_append, List.nil_append, List.append_nil, Bool.not_true, Bool.not_false, Bool.and_true, Bool.true_and, Bool.and_self, beq_self_eq_true, List.getElem?_nil, List.reduceReplicate, F_pick, Pw.start, bi_lenL, hio]
  refine wc_draw ht k ho (by omega) (by omega) fun v o' ho' v0 v1 => ?_
  obtain ⟨x, e, hx, _⟩ := at_in v0 v1
  simp -implicitDefEqProofs only [w_k, w_sset, k_sset, k_sset', w_cmpQ, k_cmpQ, w_bm, k_bm, k_bm2, w_dsp, w_dgetd, k_dg, w_zip, k_zip, k_zip2, c_in, c_nin, c_isb, c_isnb, w_pl, w_mv, w_gl, w_bin, k_bin, k_bin2, w_neg, k_neg, w_tv, k_tv, k_tru, w_and, k_and, w_or, k_or, w_ife, k_ife, w_tup, k_tup, w_lst, k_lst, w_ix, k_ix, k_ix2, w_ixP, k_ixP, w_lenP, w_sl, k_sl, k_sl2, k_sl3, wo_eo_none, wo_eo_some, k_eo, w_rev, k_rev, k_back, w_callM, w_call, k_call, k_call2, w_bi, k_bi, w_isi, k_isi, w_lc, k_lc, k_lcb, w_nil, w_cons, k_cons, k_cons2, w_lend, w_wn, w_ws, w_seq, k_seq, w_rng1, k_rng1, w_rng2, k_rng2, k_rng22, w_val, k_val, w_not, k_not, w_andB, k_andB, w_orB, k_orB, w_cmp, k_cmp, k_cmp2, w_cmpP, k_cmpP, w_ch, k_ch, k_ch2, k_ch3, w_set, k_set, w_setT, k_setT, w_setI, k_setI, k_setI2, w_app, k_app, k_app2, w_ex, k_ex, w_ret, k_rt, w_retN, w_ifs, k_ifs, w_for, k_for, w_while, w_pass, w_brk, w_cont, k_nx, k_mrt, k_mbk, k_mct, w_snil, w_scons, w_fturn, w_turn, k_turn, k_turn2, k_lnx, k_lct, k_lbk, k_lrt, k_wnx, k_wct, k_wbk, k_wrt, k_wc, k_lts, k_ltn, k_drt, k_dnx, t_nil, t_inl, t_inr, b_nil, b_inl, b_inr, l_nil, l_inl, l_inr, fa_nil, fa_inl, fa_inr, z_inl, z_inr, bt_v, bt_tup, bs_nil, bs_cons, g_v, g_at, s_v, ou_nil, ou_cons, wi_nil, wi_cons, ba_nil, ba_cons, pa_nil', pa_cons', po_none', po_some', it_lst, it_tup, fl_fl, ix_i, ixd_l, ixd_t, lo_nil, lo_d, wo_some, wo_none, wo_bind, wo_map, w_some, wo_ite, f_d, f_fl, fs_nil, fs_cons, a_nil, a_cons, o_add, o_sub, c_eq, c_ne, c_lt, c_le, c_gt, c_ge, q_int, q_bl, q_str, u_non, u_bl, u_int, u_tup, u_lst, big_eq, List.getElem?_cons_zero, List.getElem?_cons_succ, Option.join_some, Option.join_none, List.set_cons_zero, List.set_cons_succ, List.length_cons, List.length_nil, Nat.reduceAdd, Nat.reduceLT, Nat.reduceLeDiff, Nat.reduceSub, Nat.zero_le, Option.isSome_some, true_and, and_true, if_true, if_false, Bool.false_eq_true, Option.map_some, Option.map_none, Option.bind_some, List.map_cons, List.map_nil, List.cons_append, List.nil_append, List.append_nil, Bool.not_true, Bool.not_false, Bool.and_true, Bool.true_and, Bool.and_self, beq_self_eq_true, List.getElem?_nil, List.reduceReplicate, e]
  exact q x o' hx ho'
end Pw

/-! PY4: texts, sign by sign. -/
namespace Pw
open PySem
abbrev sL (s : Str) : List Nat := s.cps.toList
abbrev sg (c : Nat) : Str := ⟨#[c]⟩
theorem sL_ext {a b : Str} (h : sL a = sL b) : a = b := by
  cases a; cases b
  congr 1
  exact Array.toList_inj.mp h
theorem sL_len (s : Str) : s.length = (sL s).length := by unfold Str.length; rw [Array.length_toList]
theorem sL_add (a b : Str) : sL (a ++ b) = sL a ++ sL b := Array.toList_append ..
theorem sL_cut (s : Str) (lo hi : Option Int) : sL (L2.cutS s lo hi) = cutL (sL s) lo hi := by
  unfold L2.cutS cutL
  rw [sL_len]
theorem len_cutL {α : Type} (xs : List α) (lo hi : Option Int) : (cutL xs lo hi).length ≤ xs.length := by
  unfold cutL
  rw [List.length_take, List.length_drop]
  omega
theorem mem_cutL {α : Type} {xs : List α} {lo hi : Option Int} {x : α} (h : x ∈ cutL xs lo hi) : x ∈ xs := List.mem_of_mem_drop (List.mem_of_mem_take h)
/-- a text with real signs, not too long -/
def Sok (n : Nat) (s : Str) : Prop := (sL s).length ≤ n ∧ ∀ c ∈ sL s, c < 0x110000
theorem Sok.mono {n m : Nat} {s : Str} (h : Sok n s) (k : n ≤ m) : Sok m s := ⟨Nat.le_trans h.1 k, h.2⟩
theorem Sok.add {n m : Nat} {a b : Str} (h : Sok n a) (k : Sok m b) : Sok (n + m) (a ++ b) := by
  refine ⟨by rw [sL_add, List.length_append]; exact Nat.add_le_add h.1 k.1, fun c hc => ?_⟩
  rw [sL_add] at hc
  rcases List.mem_append.mp hc with z | z
  · exact h.2 c z
  · exact k.2 c z
theorem Sok.cut {n : Nat} {a : Str} (h : Sok n a) (lo hi : Option Int) : Sok n (L2.cutS a lo hi) := by
  refine ⟨by rw [sL_cut]; exact Nat.le_trans (len_cutL _ _ _) h.1, fun c hc => ?_⟩
  rw [sL_cut] at hc
  exact h.2 c (mem_cutL hc)
theorem Sok.ok {n : Nat} {s : Str} (h : Sok n s) : PyData.strOk s = true := by
  unfold PyData.strOk
  rw [Array.all_eq_true_iff_forall_mem]
  intro c hc
  exact decide_eq_true (h.2 c (by simpa using hc))
theorem Sok.of {n : Nat} {s : Str} (h : PyData.strOk s = true) (h2 : (sL s).length ≤ n) : Sok n s := by
  refine ⟨h2, fun c hc => ?_⟩
  unfold PyData.strOk at h
  rw [Array.all_eq_true_iff_forall_mem] at h
  exact of_decide_eq_true (h c (by simpa using hc))
theorem Sok.sg {c : Nat} (h : c < 0x110000) : Sok 1 (sg c) := ⟨Nat.le_refl _, fun d hd => by simp at hd; subst hd; exact h⟩
theorem Sok.len {n : Nat} {s : Str} (h : Sok n s) (k : n ≤ 16000000) : s.length ≤ big := by rw [sL_len]; exact Nat.le_trans h.1 k
theorem sh_str {s : Str} (h : PyData.strOk s = true) : SeqAt.shaped (.str s) = true := by
  unfold SeqAt.shaped
  rw [PyData.canLay0, h]
  simp [PyData.depth]
theorem toPys_strs : ∀ bs : List Str, toPys (bs.map D.str) = some (bs.map PyData.str)
  | [] => rfl
  | b :: bs => by
    show (match toPy (.str b), toPys (bs.map D.str) with | some a, some b => some (a :: b) | _, _ => none) = _
    rw [toPys_strs bs]
    rfl
theorem lay_strs : ∀ bs : List Str, (∀ b ∈ bs, PyData.strOk b = true) → PyData.canLayAll0 (bs.map PyData.str) = true
  | [], _ => rfl
  | b :: bs, h => by
    rw [List.map_cons, PyData.canLayAll0, PyData.canLay0, h b List.mem_cons_self, lay_strs bs fun c hc => h c (List.mem_cons_of_mem _ hc)]
    rfl
theorem dep_strs : ∀ bs : List Str, PyData.depthAll (bs.map PyData.str) ≤ 1
  | [] => Nat.zero_le _
  | b :: bs => by
    show max (PyData.depth (.str b)) (PyData.depthAll (bs.map PyData.str)) ≤ 1
    have := dep_strs bs
    have h2 : PyData.depth (.str b) ≤ 1 := by simp [PyData.depth]
    omega
theorem sh_strs {bs : List Str} (h : ∀ b ∈ bs, PyData.strOk b = true) : SeqAt.shaped (.list (bs.map .str)) = true := by
  have hd : PyData.depth (.list (bs.map .str)) ≤ 2 := by
    have := dep_strs bs
    simp only [PyData.depth]; omega
  have hc : PyData.canLay0 (.list (bs.map .str)) = true := by rw [PyData.canLay0]; exact lay_strs bs h
  unfold SeqAt.shaped
  rw [hc, Bool.true_and, decide_eq_true_eq]
  omega
theorem inP_strs {a : Str} {bs : List Str} (ha : PyData.strOk a = true) (h : ∀ b ∈ bs, PyData.strOk b = true) : inP (.str a) (bs.map D.str) = some (decide (a ∈ bs)) := by
  unfold inP
  rw [toPys_strs]
  show (if SeqAt.shaped (.str a) && SeqAt.shaped (.list (bs.map PyData.str)) then some ((bs.map PyData.str).any fun z => PyData.eqv z (.str a)) else none) = _
  rw [sh_str ha, sh_strs h]
  simp only [Bool.and_self, if_true, List.any_map]
  congr 1
  rw [Bool.eq_iff_iff]
  simp [PyData.eqv]
theorem in_strsL {a : Str} {bs : List Str} (ha : PyData.strOk a = true) (h : ∀ b ∈ bs, PyData.strOk b = true) : inD (.str a) (.lst (bs.map D.str)) = some (decide (a ∈ bs)) := inP_strs ha h
theorem in_strsT {a : Str} {bs : List Str} (ha : PyData.strOk a = true) (h : ∀ b ∈ bs, PyData.strOk b = true) : inD (.str a) (.tup (bs.map D.str)) = some (decide (a ∈ bs)) := inP_strs ha h
theorem in_sg (c : Nat) (t : Str) : inD (.str (sg c)) (.str t) = some (decide (c ∈ sL t)) := rfl
theorem q_strs_nil {bs : List Str} (h : ∀ b ∈ bs, PyData.strOk b = true) : eqD (.lst (bs.map D.str)) (.lst []) = some bs.isEmpty := by
  show (match (toPys (bs.map D.str)).map PyData.list, (toPys []).map PyData.list with | some a, some b => if SeqAt.shaped a && SeqAt.shaped b then some (PyData.eqv a b) else none | _, _ => none) = _
  rw [toPys_strs]
  show (if SeqAt.shaped (.list (bs.map .str)) && SeqAt.shaped (.list []) then some (PyData.eqv (.list (bs.map .str)) (.list [])) else none) = _
  have h0 : SeqAt.shaped (.list []) = true := sh_ints []
  rw [sh_strs h, h0]
  simp only [Bool.and_self, if_true]
  cases bs <;> simp [PyData.eqv, PyData.eqvAll]
theorem it_str {s : Str} (h : s.length ≤ big) : items (.str s) = some ((sL s).map fun c => D.str (sg c)) := if_pos h
theorem ix_str {s : Str} {v : Int} (h : s.length ≤ big) (h0 : 0 ≤ v) (h1 : v < (sL s).length) : ∃ c ∈ sL s, ixD (.str s) v = some (.str (sg c)) := by
  obtain ⟨c, e, hc, _⟩ := at_in h0 h1
  refine ⟨c, hc, ?_⟩
  show (if s.length ≤ big then (L2.atI s.cps.toList v).map fun c => D.str ⟨#[c]⟩ else none) = _
  rw [if_pos h, e]
  rfl
theorem sl_str {s : Str} (h : s.length ≤ big) (lo hi : Option Int) : slD (.str s) lo hi = some (.d (.str (L2.cutS s lo hi))) := if_pos h
theorem bi_lenS {s : Str} (h : s.length ≤ big) : biD .len [.str s] = some (.d (.int (sL s).length)) := by
  show (if s.length ≤ big then some (O.d (.int s.length)) else none) = _
  rw [if_pos h, sL_len]
theorem add_str {a b : Str} (h : (sL a).length + (sL b).length ≤ 16000000) : opD .Add (.str a) (.str b) = some (.d (.str (a ++ b))) := o_addS (by rw [sL_len, sL_len]; exact h)
theorem repr_str {s : Str} (h : Sok 1000000 s) : reprD (.str s) = some (.d (.str (reprText s))) := by
  show reprP (.str s) = _
  unfold reprP
  show (if SeqAt.shaped (.str s) = true ∧ PyData.showable (.str s) = true ∧ (PyData.shown (.str s)).length ≤ big then some (O.d (.str (PyData.shown (.str s)))) else none) = _
  have hz : (PyData.shown (.str s)).length ≤ big := by
    rw [PyData.shown]
    unfold reprText
    show Array.size _ ≤ _
    rw [Array.size_push, ← Array.foldl_toList]
    have := StrLaws.foldl_repr_len (reprQuote s) s.cps.toList #[reprQuote s] fun c hc => Nat.lt_of_lt_of_le (h.2 c hc) (by decide)
    have h2 : s.cps.toList.length ≤ 1000000 := h.1
    have hb : big = 16000000 := rfl
    have h3 : (#[reprQuote s] : Array Nat).size = 1 := rfl
    rw [h3] at this
    omega
  refine (if_pos ⟨sh_str h.ok, by simp [PyData.showable], hz⟩).trans ?_
  rw [PyData.shown]
/-! '' joined -/
theorem fold_join : ∀ (ts : List Str) (acc : Array Nat), (ts.foldl (fun acc p => acc ++ (Str.ofString "").cps ++ p.cps) acc).toList = acc.toList ++ (ts.map sL).flatten
  | [], acc => by simp
  | t :: ts, acc => by
    rw [List.foldl_cons, fold_join ts]
    have : (Str.ofString "").cps = #[] := by decide +kernel
    rw [this]
    simp
theorem sL_join (ts : List Str) : sL (Txt.join "" ts) = (ts.map sL).flatten := by
  show ((ts.drop 1).foldl (fun acc p => acc ++ (Str.ofString "").cps ++ p.cps) (ts.headD Str.empty).cps).toList = _
  rw [fold_join]
  cases ts with
  | nil => rfl
  | cons t ts => simp
theorem strsD_map {α : Type} (f : α → Str) : ∀ l : List α, strsD (l.map fun c => D.str (f c)) = some (l.map f)
  | [] => rfl
  | c :: l => by
    show (strsD (l.map fun c => D.str (f c))).map (f c :: ·) = _
    rw [strsD_map f l]; rfl
theorem join_sg {cs : List Nat} (h : cs.length ≤ 1000) : ∃ w, bmD .join (.str "") [.lst (cs.map fun c => D.str (sg c))] = some (.d (.str w)) ∧ sL w = cs := by
  refine ⟨Txt.join "" (cs.map sg), ?_, ?_⟩
  · show (match strsOf (.lst (cs.map fun c => D.str (sg c))) with | some bs => if (bs.map (fun b : Str => b.length)).sum + bs.length * (Str.ofString "").length ≤ big then some (O.d (.str (Txt.join "" bs))) else none | none => none) = _
    have e : strsOf (.lst (cs.map fun c => D.str (sg c))) = some (cs.map sg) := strsD_map sg cs
    rw [e]
    show (if ((cs.map sg).map (fun b : Str => b.length)).sum + (cs.map sg).length * (Str.ofString "").length ≤ big then _ else none) = _
    have h0 : (Str.ofString "").length = 0 := by decide +kernel
    have h1 : ((cs.map sg).map (fun b : Str => b.length)).sum = cs.length := by
      rw [List.map_map]
      clear h e
      induction cs with
      | nil => rfl
      | cons c cs ih =>
        rw [List.map_cons, List.sum_cons, ih, List.length_cons]
        show 1 + cs.length = _
        omega
    rw [if_pos (by rw [h0, h1]; have : big = 16000000 := rfl; omega)]
  · rw [sL_join, List.map_map]
    clear h
    induction cs with
    | nil => rfl
    | cons c cs ih =>
      rw [List.map_cons, List.flatten_cons, ih]
      rfl
theorem mul_str {a : Str} {j : Int} (h : 2 ≤ j) (h1 : j ≤ 1000) (h2 : 1 ≤ (sL a).length) (h3 : (sL a).length ≤ 1000) : ∃ w, opD .Mult (.str a) (.int j) = some (.d (.str w)) ∧ (∀ c ∈ sL w, c ∈ sL a) ∧ (sL w).length = j.toNat * (sL a).length := by
  refine ⟨_, if_pos ⟨h, h1, by rw [sL_len]; exact h2, by rw [sL_len]; exact h3⟩, ?_, ?_⟩
  · intro c hc
    have key : ∀ (n : Nat) (acc : Array Nat), (∀ c ∈ acc.toList, c ∈ sL a) → ∀ c ∈ ((List.replicate n a.cps).foldl (· ++ ·) acc).toList, c ∈ sL a := by
      intro n
      induction n with
      | zero => intro acc h c hc; exact h c hc
      | succ n ih =>
        intro acc h c hc
        rw [List.replicate_succ, List.foldl_cons] at hc
        refine ih _ (fun d hd => ?_) c hc
        rw [Array.toList_append] at hd
        rcases List.mem_append.mp hd with z | z
        · exact h d z
        · exact z
    exact key _ _ (fun _ h => by simp at h) c hc
  · show (Array.toList _).length = _
    rw [Array.length_toList, fold_app_size]
    simp [Array.length_toList]
end Pw

/-! PY5: the names that laws draw. -/
namespace Pw
open PySem
def L26 : List Nat := List.range' 97 26
theorem mem26 {c : Nat} : c ∈ L26 ↔ 97 ≤ c ∧ c ≤ 122 := by
  unfold L26
  rw [List.mem_range'_1]
  omega
theorem lets : sL (Str.ofString "abcdefghijklmnopqrstuvwxyz") = L26 := by decide +kernel
def keptB : List Str := ["and", "below", "choice", "copy", "froze", "if", "in", "left", "less", "not", "or", "out", "quot", "rest", "right", "rule", "same", "sum", "times", "to", "twice", "under", "unlike", "width", "xor"]
theorem keptB_ok : ∀ b ∈ keptB, PyData.strOk b = true := by decide +kernel
theorem kept_fold : [D.str "and", D.str "below", D.str "choice", D.str "copy", D.str "froze", D.str "if", D.str "in", D.str "left", D.str "less", D.str "not", D.str "or", D.str "out", D.str "quot", D.str "rest", D.str "right", D.str "rule", D.str "same", D.str "sum", D.str "times", D.str "to", D.str "twice", D.str "under", D.str "unlike", D.str "width", D.str "xor"] = keptB.map D.str := rfl
theorem kept_add : opD .Add (.lst [D.str "and", D.str "below", D.str "choice", D.str "copy", D.str "froze", D.str "if", D.str "in", D.str "left", D.str "less", D.str "not", D.str "or", D.str "out", D.str "quot", D.str "rest"]) (.lst [D.str "right", D.str "rule", D.str "same", D.str "sum", D.str "times", D.str "to", D.str "twice", D.str "under", D.str "unlike", D.str "width", D.str "xor"]) = some (.fl (keptB.map D.str)) := o_addL (by decide)
abbrev F_names : Fd := ⟨2, 14, [0], [
    .set 2 (.lst (.cons (.k (.str "and")) (.cons (.k (.str "below")) (.cons (.k (.str "choice")) (.cons (.k (.str "copy")) (.cons (.k (.str "froze")) (.cons (.k (.str "if")) (.cons (.k (.str "in")) (.cons (.k (.str "left")) (.cons (.k (.str "less")) (.cons (.k (.str "not")) (.cons (.k (.str "or")) (.cons (.k (.str "out")) (.cons (.k (.str "quot")) (.cons (.k (.str "rest")) .nil))))))))))))))),
    .set 2 (.bin .Add (.pl (.v 2)) (.lst (.cons (.k (.str "right")) (.cons (.k (.str "rule")) (.cons (.k (.str "same")) (.cons (.k (.str "sum")) (.cons (.k (.str "times")) (.cons (.k (.str "to")) (.cons (.k (.str "twice")) (.cons (.k (.str "under")) (.cons (.k (.str "unlike")) (.cons (.k (.str "width")) (.cons (.k (.str "xor")) .nil))))))))))))),
    .set 3 (.k (.str "abcdefghijklmnopqrstuvwxyz")),
    .setT (.tup [(.v 11), (.v 12)]) (.tup (.cons (.call "_law_draw" (.lend 0 (.cons (.k (.int 3)) .nil)) .nil [] [.inl 0, .inl 1]) (.cons (.call "_law_draw" (.lend 0 (.cons (.k (.int 26)) .nil)) .nil [] [.inl 0, .inl 1]) .nil))),
    .set 4 (.bm .join (.k (.str "")) (.cons (.lc (.ix (.pl (.v 3)) (.call "_law_draw" (.lend 0 (.cons (.k (.int 26)) .nil)) .nil [] [.inl 0, .inl 1])) (.v 7) (.rng1 (.k (.int 7))) .none [7]) .nil)),
    .set 5 (.call "_law_draw" (.lend 0 (.cons (.k (.int 7)) .nil)) .nil [] [.inl 0, .inl 1]),
    .set 6 (.lst .nil),
    .for_ (.v 7) (.rng1 (.k (.int 24))) [
      .set 13 (.ix (.pl (.v 3)) (.bin .Mod (.bin .Add (.pl (.v 12)) (.pl (.v 7))) (.k (.int 26)))),
      .app (.v 6) (.ix (.lst (.cons (.pl (.v 13)) (.cons (.bin .Add (.bin .Add (.sl (.pl (.v 4)) .none (.some (.pl (.v 5)))) (.pl (.v 13))) (.sl (.pl (.v 4)) (.some (.pl (.v 5))) .none)) (.cons (.sl (.bin .Mult (.pl (.v 4)) (.k (.int 4))) .none (.some (.bin .Add (.bin .Mod (.pl (.v 7)) (.k (.int 8))) (.k (.int 1))))) .nil)))) (.pl (.v 11)))],
    .set 8 (.lc (.pl (.v 10)) (.v 10) (.seq (.bin .Add (.sl (.pl (.v 6)) .none (.some (.k (.int 8)))) (.sl (.pl (.v 6)) (.some (.k (.int 8))) .none))) (.some (.cmp .NotIn (.pl (.v 10)) (.pl (.v 2)))) [10]),
    .set 9 (.lst .nil),
    .for_ (.v 10) (.seq (.bin .Add (.pl (.v 8)) (.lst (.cons (.k (.str "qqa")) (.cons (.k (.str "qqb")) (.cons (.k (.str "qqc")) (.cons (.k (.str "qqd")) (.cons (.k (.str "qqe")) (.cons (.k (.str "qqf")) (.cons (.k (.str "qqg")) (.cons (.k (.str "qqh")) .nil))))))))))) [
      .ifs (.cmpQ .NotIn (.pl (.v 10)) (.v 9)) [
        .app (.v 9) (.pl (.v 10))] []],
    .ret (.sl (.pl (.v 9)) .none (.some (.pl (.v 1))))]⟩
/-- a name but for the kept ones -/
def Nm0 (s : Str) : Prop := 1 ≤ (sL s).length ∧ (sL s).length ≤ 8 ∧ ∀ c ∈ sL s, c ∈ L26
def Nm (s : Str) : Prop := Nm0 s ∧ s ∉ keptB
theorem Nm0.ok {s : Str} (h : Nm0 s) : Sok 8 s := ⟨h.2.1, fun c hc => by have := mem26.mp (h.2.2 c hc); omega⟩
def qqB : List Str := ["qqa", "qqb", "qqc", "qqd", "qqe", "qqf", "qqg", "qqh"]
theorem qqB_ok : ∀ b ∈ qqB, Nm b := by
  have h : ∀ b ∈ qqB, 1 ≤ (sL b).length ∧ (sL b).length ≤ 8 ∧ ((sL b).all fun c => decide (c ∈ L26)) = true ∧ b ∉ keptB := by decide +kernel
  intro b hb
  obtain ⟨h1, h2, h3, h4⟩ := h b hb
  exact ⟨⟨h1, h2, fun c hc => of_decide_eq_true (List.all_eq_true.mp h3 c hc)⟩, h4⟩
theorem o_mod26 (i : Int) : opD .Mod (.int i) (.int 26) = some (.d (.int (i % 26))) := o_mod (by decide)
theorem o_mod8 (i : Int) : opD .Mod (.int i) (.int 8) = some (.d (.int (i % 8))) := o_mod (by decide)
theorem sl_strs (rs : List Str) (lo hi : Option Int) : slD (.lst (rs.map D.str)) lo hi = some (.fl ((cutL rs lo hi).map D.str)) := by
  show some (O.fl (cutL (rs.map D.str) lo hi)) = _
  rw [cut_mapR]
theorem add_strs {a b : List Str} (h : a.length + b.length ≤ 1000000) : opD .Add (.lst (a.map D.str)) (.lst (b.map D.str)) = some (.fl ((a ++ b).map D.str)) := by
  rw [List.map_append]
  exact o_addL (by simp only [List.length_map]; have : big = 16000000 := rfl; omega)
theorem put_str (F : List Str) (s : Str) : F.map D.str ++ [D.str s] = (F ++ [s]).map D.str := by simp
theorem wc_names {tab : Str → Option Fd} {G : Gv} (ht : tab "_law_draw" = some F_draw) (hn : tab "_law_names" = some F_names) (hio : G.io "_law_draw" = [0]) (k : Nat) {o : O} {m : Int} (ho : Deck o) {QC : O → List O → Prop}
    (q : ∀ (N : List Str) o', (∀ s ∈ N, Nm s) → N.length ≤ 32 → Deck o' → QC (.fl (N.map D.str)) [o']) : Wc (run tab G (k + 2) "_law_names" [o, .d (.int m)]) QC := by
  rw [wc_run hn rfl]
  have lok : (Str.ofString "abcdefghijklmnopqrstuvwxyz").length ≤ big := by decide +kernel
  simp -implicitDefEqProofs only [w_k, w_sset, k_sset, k_sset', w_cmpQ, k_cmpQ, w_bm, k_bm, k_bm2, w_dsp, w_dgetd, k_dg, w_zip, k_zip, k_zip2, c_in, c_nin, c_isb, c_isnb, w_pl, w_mv, w_gl, w_bin, k_bin, k_bin2, w_neg, k_neg, w_tv, k_tv, k_tru, w_and, k_and, w_or, k_or, w_ife, k_ife, w_tup, k_tup, w_lst, k_lst, w_ix, k_ix, k_ix2, w_ixP, k_ixP, w_lenP, w_sl, k_sl, k_sl2, k_sl3, wo_eo_none, wo_eo_some, k_eo, w_rev, k_rev, k_back, w_callM, w_call, k_call, k_call2, w_bi, k_bi, w_isi, k_isi, w_lc, k_lc, k_lcb, w_nil, w_cons, k_cons, k_cons2, w_lend, w_wn, w_ws, w_seq, k_seq, w_rng1, k_rng1, w_rng2, k_rng2, k_rng22, w_val, k_val, w_not, k_not, w_andB, k_andB, w_orB, k_orB, w_cmp, k_cmp, k_cmp2, w_cmpP, k_cmpP, w_ch, k_ch, k_ch2, k_ch3, w_set, k_set, w_setT, k_setT, w_setI, k_setI, k_setI2, w_app, k_app, k_app2, w_ex, k_ex, w_ret, k_rt, w_retN, w_ifs, k_ifs, w_for, k_for, w_while, w_pass, w_brk, w_cont, k_nx, k_mrt, k_mbk, k_mct, w_snil, w_scons, w_fturn, w_turn, k_turn, k_turn2, k_lnx, k_lct, k_lbk, k_lrt, k_wnx, k_wct, k_wbk, k_wrt, k_wc, k_lts, k_ltn, k_drt, k_dnx, t_nil, t_inl, t_inr, b_nil, b_inl, b_inr, l_nil, l_inl, l_inr, fa_nil, fa_inl, fa_inr, z_inl, z_inr, bt_v, bt_tup, bs_nil, bs_cons, g_v, g_at, s_v, ou_nil, ou_cons, wi_nil, wi_cons, ba_nil, ba_cons, pa_nil', pa_cons', po_none', po_some', it_lst, it_tup, fl_fl, ix_i, ixd_l, ixd_t, lo_nil, lo_d, wo_some, wo_none, wo_bind, wo_map, w_some, wo_ite, f_d, f_fl, fs_nil, fs_cons, a_nil, a_cons, o_add, o_sub, c_eq, c_ne, c_lt, c_le, c_gt, c_ge, q_int, q_bl, q_str, u_non, u_bl, u_int, u_tup, u_lst, big_eq, List.getElem?_cons_zero, List.getElem?_cons_succ, Option.join_some, Option.join_none, List.set_cons_zero, List.set_cons_succ, List.length_cons, List.length_nil, Nat.reduceAdd, Nat.reduceLT, Nat.reduceLeDiff, Nat.reduceSub, Nat.zero_le, Option.isSome_some, true_and, and_true, if_true, if_false, Bool.false_eq_true, Option.map_some, Option.map_none, Option.bind_some, List.map_cons, List.map_nil, List.cons_append, List.nil_append, List.append_nil, Bool.not_true, Bool.not_false, Bool.and_true, Bool.true_and, Bool.and_self, beq_self_eq_true, List.getElem?_nil, List.reduceReplicate, F_names, Pw.start, hio, kept_add]
  refine wc_draw ht _ ho (by omega) (by omega) fun way o1 ho1 w0 w1 => ?_
  simp -implicitDefEqProofs only [w_k, w_sset, k_sset, k_sset', w_cmpQ, k_cmpQ, w_bm, k_bm, k_bm2, w_dsp, w_dgetd, k_dg, w_zip, k_zip, k_zip2, c_in, c_nin, c_isb, c_isnb, w_pl, w_mv, w_gl, w_bin, k_bin, k_bin2, w_neg, k_neg, w_tv, k_tv, k_tru, w_and, k_and, w_or, k_or, w_ife, k_ife, w_tup, k_tup, w_lst, k_lst, w_ix, k_ix, k_ix2, w_ixP, k_ixP, w_lenP, w_sl, k_sl, k_sl2, k_sl3, wo_eo_none, wo_eo_some, k_eo, w_rev, k_rev, k_back, w_callM, w_call, k_call, k_call2, w_bi, k_bi, w_isi, k_isi, w_lc, k_lc, k_lcb, w_nil, w_cons, k_cons, k_cons2, w_lend, w_wn, w_ws, w_seq, k_seq, w_rng1, k_rng1, w_rng2, k_rng2, k_rng22, w_val, k_val, w_not, k_not, w_andB, k_andB, w_orB, k_orB, w_cmp, k_cmp, k_cmp2, w_cmpP, k_cmpP, w_ch, k_ch, k_ch2, k_ch3, w_set, k_set, w_setT, k_setT, w_setI, k_setI, k_setI2, w_app, k_app, k_app2, w_ex, k_ex, w_ret, k_rt, w_retN, w_ifs, k_ifs, w_for, k_for, w_while, w_pass, w_brk, w_cont, k_nx, k_mrt, k_mbk, k_mct, w_snil, w_scons, w_fturn, w_turn, k_turn, k_turn2, k_lnx, k_lct, k_lbk, k_lrt, k_wnx, k_wct, k_wbk, k_wrt, k_wc, k_lts, k_ltn, k_drt, k_dnx, t_nil, t_inl, t_inr, b_nil, b_inl, b_inr, l_nil, l_inl, l_inr, fa_nil, fa_inl, fa_inr, z_inl, z_inr, bt_v, bt_tup, bs_nil, bs_cons, g_v, g_at, s_v, ou_nil, ou_cons, wi_nil, wi_cons, ba_nil, ba_cons, pa_nil', pa_cons', po_none', po_some', it_lst, it_tup, fl_fl, ix_i, ixd_l, ixd_t, lo_nil, lo_d, wo_some, wo_none, wo_bind, wo_map, w_some, wo_ite, f_d, f_fl, fs_nil, fs_cons, a_nil, a_cons, o_add, o_sub, c_eq, c_ne, c_lt, c_le, c_gt, c_ge, q_int, q_bl, q_str, u_non, u_bl, u_int, u_tup, u_lst, big_eq, List.getElem?_cons_zero, List.getElem?_cons_succ, Option.join_some, Option.join_none, List.set_cons_zero, List.set_cons_succ, List.length_cons, List.length_nil, Nat.reduceAdd, Nat.reduceLT, Nat.reduceLeDiff, Nat.reduceSub, Nat.zero_le, Option.isSome_some, true_and, and_true, if_true, if_false, Bool.false_eq_true, Option.map_some, Option.map_none, Option.bind_some, List.map_cons, List.map_nil, List.cons_append, List.nil_append, List.append_nil, Bool.not_true, Bool.not_false, Bool.and_true, Bool.true_and, Bool.and_self, beq_self_eq_true, List.getElem?_nil, List.reduceReplicate, hio]
  refine wc_draw ht _ ho1 (by omega) (by omega) fun fst o2 ho2 f0 f1 => ?_
  simp -implicitDefEqProofs only [w_k, w_sset, k_sset, k_sset', w_cmpQ, k_cmpQ, w_bm, k_bm, k_bm2, w_dsp, w_dgetd, k_dg, w_zip, k_zip, k_zip2, c_in, c_nin, c_isb, c_isnb, w_pl, w_mv, w_gl, w_bin, k_bin, k_bin2, w_neg, k_neg, w_tv, k_tv, k_tru, w_and, k_and, w_or, k_or, w_ife, k_ife, w_tup, k_tup, w_lst, k_lst, w_ix, k_ix, k_ix2, w_ixP, k_ixP, w_lenP, w_sl, k_sl, k_sl2, k_sl3, wo_eo_none, wo_eo_some, k_eo, w_rev, k_rev, k_back, w_callM, w_call, k_call, k_call2, w_bi, k_bi, w_isi, k_isi, w_lc, k_lc, k_lcb, w_nil, w_cons, k_cons, k_cons2, w_lend, w_wn, w_ws, w_seq, k_seq, w_rng1, k_rng1, w_rng2, k_rng2, k_rng22, w_val, k_val, w_not, k_not, w_andB, k_andB, w_orB, k_orB, w_cmp, k_cmp, k_cmp2, w_cmpP, k_cmpP, w_ch, k_ch, k_ch2, k_ch3, w_set, k_set, w_setT, k_setT, w_setI, k_setI, k_setI2, w_app, k_app, k_app2, w_ex, k_ex, w_ret, k_rt, w_retN, w_ifs, k_ifs, w_for, k_for, w_while, w_pass, w_brk, w_cont, k_nx, k_mrt, k_mbk, k_mct, w_snil, w_scons, w_fturn, w_turn, k_turn, k_turn2, k_lnx, k_lct, k_lbk, k_lrt, k_wnx, k_wct, k_wbk, k_wrt, k_wc, k_lts, k_ltn, k_drt, k_dnx, t_nil, t_inl, t_inr, b_nil, b_inl, b_inr, l_nil, l_inl, l_inr, fa_nil, fa_inl, fa_inr, z_inl, z_inr, bt_v, bt_tup, bs_nil, bs_cons, g_v, g_at, s_v, ou_nil, ou_cons, wi_nil, wi_cons, ba_nil, ba_cons, pa_nil', pa_cons', po_none', po_some', it_lst, it_tup, fl_fl, ix_i, ixd_l, ixd_t, lo_nil, lo_d, wo_some, wo_none, wo_bind, wo_map, w_some, wo_ite, f_d, f_fl, fs_nil, fs_cons, a_nil, a_cons, o_add, o_sub, c_eq, c_ne, c_lt, c_le, c_gt, c_ge, q_int, q_bl, q_str, u_non, u_bl, u_int, u_tup, u_lst, big_eq, List.getElem?_cons_zero, List.getElem?_cons_succ, Option.join_some, Option.join_none, List.set_cons_zero, List.set_cons_succ, List.length_cons, List.length_nil, Nat.reduceAdd, Nat.reduceLT, Nat.reduceLeDiff, Nat.reduceSub, Nat.zero_le, Option.isSome_some, true_and, and_true, if_true, if_false, Bool.false_eq_true, Option.map_some, Option.map_none, Option.bind_some, List.map_cons, List.map_nil, List.cons_append, List.nil_append, List.append_nil, Bool.not_true, Bool.not_false, Bool.and_true, Bool.true_and, Bool.and_self, beq_self_eq_true, List.getElem?_nil, List.reduceReplicate, rng0 (show (0 : Int) ≤ 7 by omega) (show (7 : Int) ≤ 1000000 by omega)]
  refine w_drawI (fun ρ => ∃ o x, Deck o ∧ ρ = [some o, some (.d (.int m)), some (.fl (keptB.map D.str)), some (.d (.str "abcdefghijklmnopqrstuvwxyz")), none, none, none, x, none, none, none, some (.d (.int way)), some (.d (.int fst)), none]) (fun c => c ∈ L26) (fun c => D.str (sg c)) ⟨_, _, ho2, rfl⟩ ?_ ?_
  · rintro x _ hx ⟨o, y, ho, rfl⟩
    simp -implicitDefEqProofs only [w_k, w_sset, k_sset, k_sset', w_cmpQ, k_cmpQ, w_bm, k_bm, k_bm2, w_dsp, w_dgetd, k_dg, w_zip, k_zip, k_zip2, c_in, c_nin, c_isb, c_isnb, w_pl, w_mv, w_gl, w_bin, k_bin, k_bin2, w_neg, k_neg, w_tv, k_tv, k_tru, w_and, k_and, w_or, k_or, w_ife, k_ife, w_tup, k_tup, w_lst, k_lst, w_ix, k_ix, k_ix2, w_ixP, k_ixP, w_lenP, w_sl, k_sl, k_sl2, k_sl3, wo_eo_none, wo_eo_some, k_eo, w_rev, k_rev, k_back, w_callM, w_call, k_call, k_call2, w_bi, k_bi, w_isi, k_isi, w_lc, k_lc, k_lcb, w_nil, w_cons, k_cons, k_cons2, w_lend, w_wn, w_ws, w_seq, k_seq, w_rng1, k_rng1, w_rng2, k_rng2, k_rng22, w_val, k_val, w_not, k_not, w_andB, k_andB, w_orB, k_orB, w_cmp, k_cmp, k_cmp2, w_cmpP, k_cmpP, w_ch, k_ch, k_ch2, k_ch3, w_set, k_set, w_setT, k_setT, w_setI, k_setI, k_setI2, w_app, k_app, k_app2, w_ex, k_ex, w_ret, k_rt, w_retN, w_ifs, k_ifs, w_for, k_for, w_while, w_pass, w_brk, w_cont, k_nx, k_mrt, k_mbk, k_mct, w_snil, w_scons, w_fturn, w_turn, k_turn, k_turn2, k_lnx, k_lct, k_lbk, k_lrt, k_wnx, k_wct, k_wbk, k_wrt, k_wc, k_lts, k_ltn, k_drt, k_dnx, t_nil, t_inl, t_inr, b_nil, b_inl, b_inr, l_nil, l_inl, l_inr, fa_nil, fa_inl, fa_inr, z_inl, z_inr, bt_v, bt_tup, bs_nil, bs_cons, g_v, g_at, s_v, ou_nil, ou_cons, wi_nil, wi_cons, ba_nil, ba_cons, pa_nil', pa_cons', po_none', po_some', it_lst, it_tup, fl_fl, ix_i, ixd_l, ixd_t, lo_nil, lo_d, wo_some, wo_none, wo_bind, wo_map, w_some, wo_ite, f_d, f_fl, fs_nil, fs_cons, a_nil, a_cons, o_add, o_sub, c_eq, c_ne, c_lt, c_le, c_gt, c_ge, q_int, q_bl, q_str, u_non, u_bl, u_int, u_tup, u_lst, big_eq, List.getElem?_cons_zero, List.getElem?_cons_succ, Option.join_some, Option.join_none, List.set_cons_zero, List.set_cons_succ, List.length_cons, List.length_nil, Nat.reduceAdd, Nat.reduceLT, Nat.reduceLeDiff, Nat.reduceSub, Nat.zero_le, Option.isSome_some, true_and, and_true, if_true, if_false, Bool.false_eq_true, Option.map_some, Option.map_none, Option.bind_some, List.map_cons, List.map_nil, List.cons_append, List.nil_append, List.append_nil, Bool.not_true, Bool.not_false, Bool.and_true, Bool.true_and, Bool.and_self, beq_self_eq_true, List.getElem?_nil, List.reduceReplicate, hio]
    refine wc_draw ht _ ho (by omega) (by omega) fun v o' ho' v0 v1 => ?_
    obtain ⟨c, hc, e⟩ := ix_str (v := v) lok v0 (by rw [lets]; show v < ((26 : Nat) : Int); omega)
    rw [lets] at hc
    simp -implicitDefEqProofs only [w_k, w_sset, k_sset, k_sset', w_cmpQ, k_cmpQ, w_bm, k_bm, k_bm2, w_dsp, w_dgetd, k_dg, w_zip, k_zip, k_zip2, c_in, c_nin, c_isb, c_isnb, w_pl, w_mv, w_gl, w_bin, k_bin, k_bin2, w_neg, k_neg, w_tv, k_tv, k_tru, w_and, k_and, w_or, k_or, w_ife, k_ife, w_tup, k_tup, w_lst, k_lst, w_ix, k_ix, k_ix2, w_ixP, k_ixP, w_lenP, w_sl, k_sl, k_sl2, k_sl3, wo_eo_none, wo_eo_some, k_eo, w_rev, k_rev, k_back, w_callM, w_call, k_call, k_call2, w_bi, k_bi, w_isi, k_isi, w_lc, k_lc, k_lcb, w_nil, w_cons, k_cons, k_cons2, w_lend, w_wn, w_ws, w_seq, k_seq, w_rng1, k_rng1, w_rng2, k_rng2, k_rng22, w_val, k_val, w_not, k_not, w_andB, k_andB, w_orB, k_orB, w_cmp, k_cmp, k_cmp2, w_cmpP, k_cmpP, w_ch, k_ch, k_ch2, k_ch3, w_set, k_set, w_setT, k_setT, w_setI, k_setI, k_setI2, w_app, k_app, k_app2, w_ex, k_ex, w_ret, k_rt, w_retN, w_ifs, k_ifs, w_for, k_for, w_while, w_pass, w_brk, w_cont, k_nx, k_mrt, k_mbk, k_mct, w_snil, w_scons, w_fturn, w_turn, k_turn, k_turn2, k_lnx, k_lct, k_lbk, k_lrt, k_wnx, k_wct, k_wbk, k_wrt, k_wc, k_lts, k_ltn, k_drt, k_dnx, t_nil, t_inl, t_inr, b_nil, b_inl, b_inr, l_nil, l_inl, l_inr, fa_nil, fa_inl, fa_inr, z_inl, z_inr, bt_v, bt_tup, bs_nil, bs_cons, g_v, g_at, s_v, ou_nil, ou_cons, wi_nil, wi_cons, ba_nil, ba_cons, pa_nil', pa_cons', po_none', po_some', it_lst, it_tup, fl_fl, ix_i, ixd_l, ixd_t, lo_nil, lo_d, wo_some, wo_none, wo_bind, wo_map, w_some, wo_ite, f_d, f_fl, fs_nil, fs_cons, a_nil, a_cons, o_add, o_sub, c_eq, c_ne, c_lt, c_le, c_gt, c_ge, q_int, q_bl, q_str, u_non, u_bl, u_int, u_tup, u_lst, big_eq, List.getElem?_cons_zero, List.getElem?_cons_succ, Option.join_some, Option.join_none, List.set_cons_zero, List.set_cons_succ, List.length_cons, List.length_nil, Nat.reduceAdd, Nat.reduceLT, Nat.reduceLeDiff, Nat.reduceSub, Nat.zero_le, Option.isSome_some, true_and, and_true, if_true, if_false, Bool.false_eq_true, Option.map_some, Option.map_none, Option.bind_some, List.map_cons, List.map_nil, List.cons_append, List.nil_append, List.append_nil, Bool.not_true, Bool.not_false, Bool.and_true, Bool.true_and, Bool.and_self, beq_self_eq_true, List.getElem?_nil, List.reduceReplicate, e]
    exact ⟨⟨c, hc, rfl⟩, _, _, ho', rfl⟩
  · rintro cs _ hl hcs ⟨o, y, ho, rfl⟩
    rw [rngL_length] at hl
    have hl7 : cs.length = 7 := hl
    obtain ⟨w, ew, hw⟩ := join_sg (cs := cs) (by omega)
    have wok : Sok 7 w := ⟨by rw [hw]; omega, fun c hc => by rw [hw] at hc; have := mem26.mp (hcs c hc); omega⟩
    have w26 : ∀ c ∈ sL w, c ∈ L26 := fun c hc => hcs c (by rw [hw] at hc; exact hc)
    have wl : (sL w).length = 7 := by rw [hw]; exact hl7
    simp -implicitDefEqProofs only [w_k, w_sset, k_sset, k_sset', w_cmpQ, k_cmpQ, w_bm, k_bm, k_bm2, w_dsp, w_dgetd, k_dg, w_zip, k_zip, k_zip2, c_in, c_nin, c_isb, c_isnb, w_pl, w_mv, w_gl, w_bin, k_bin, k_bin2, w_neg, k_neg, w_tv, k_tv, k_tru, w_and, k_and, w_or, k_or, w_ife, k_ife, w_tup, k_tup, w_lst, k_lst, w_ix, k_ix, k_ix2, w_ixP, k_ixP, w_lenP, w_sl, k_sl, k_sl2, k_sl3, wo_eo_none, wo_eo_some, k_eo, w_rev, k_rev, k_back, w_callM, w_call, k_call, k_call2, w_bi, k_bi, w_isi, k_isi, w_lc, k_lc, k_lcb, w_nil, w_cons, k_cons, k_cons2, w_lend, w_wn, w_ws, w_seq, k_seq, w_rng1, k_rng1, w_rng2, k_rng2, k_rng22, w_val, k_val, w_not, k_not, w_andB, k_andB, w_orB, k_orB, w_cmp, k_cmp, k_cmp2, w_cmpP, k_cmpP, w_ch, k_ch, k_ch2, k_ch3, w_set, k_set, w_setT, k_setT, w_setI, k_setI, k_setI2, w_app, k_app, k_app2, w_ex, k_ex, w_ret, k_rt, w_retN, w_ifs, k_ifs, w_for, k_for, w_while, w_pass, w_brk, w_cont, k_nx, k_mrt, k_mbk, k_mct, w_snil, w_scons, w_fturn, w_turn, k_turn, k_turn2, k_lnx, k_lct, k_lbk, k_lrt, k_wnx, k_wct, k_wbk, k_wrt, k_wc, k_lts, k_ltn, k_drt, k_dnx, t_nil, t_inl, t_inr, b_nil, b_inl, b_inr, l_nil, l_inl, l_inr, fa_nil, fa_inl, fa_inr, z_inl, z_inr, bt_v, bt_tup, bs_nil, bs_cons, g_v, g_at, s_v, ou_nil, ou_cons, wi_nil, wi_cons, ba_nil, ba_cons, pa_nil', pa_cons', po_none', po_some', it_lst, it_tup, fl_fl, ix_i, ixd_l, ixd_t, lo_nil, lo_d, wo_some, wo_none, wo_bind, wo_map, w_some, wo_ite, f_d, f_fl, fs_nil, fs_cons, a_nil, a_cons, o_add, o_sub, c_eq, c_ne, c_lt, c_le, c_gt, c_ge, q_int, q_bl, q_str, u_non, u_bl, u_int, u_tup, u_lst, big_eq, List.getElem?_cons_zero, List.getElem?_cons_succ, Option.join_some, Option.join_none, List.set_cons_zero, List.set_cons_succ, List.length_cons, List.length_nil, Nat.reduceAdd, Nat.reduceLT, Nat.reduceLeDiff, Nat.reduceSub, Nat.zero_le, Option.isSome_some, true_and, and_true, if_true, if_false, Bool.false_eq_true, Option.map_some, Option.map_none, Option.bind_some, List.map_cons, List.map_nil, List.cons_append, List.nil_append, List.append_nil, Bool.not_true, Bool.not_false, Bool.and_true, Bool.true_and, Bool.and_self, beq_self_eq_true, List.getElem?_nil, List.reduceReplicate, ew, hio]
    refine wc_draw ht _ ho (by omega) (by omega) fun at_ o3 ho3 a0 a1 => ?_
    simp -implicitDefEqProofs only [w_k, w_sset, k_sset, k_sset', w_cmpQ, k_cmpQ, w_bm, k_bm, k_bm2, w_dsp, w_dgetd, k_dg, w_zip, k_zip, k_zip2, c_in, c_nin, c_isb, c_isnb, w_pl, w_mv, w_gl, w_bin, k_bin, k_bin2, w_neg, k_neg, w_tv, k_tv, k_tru, w_and, k_and, w_or, k_or, w_ife, k_ife, w_tup, k_tup, w_lst, k_lst, w_ix, k_ix, k_ix2, w_ixP, k_ixP, w_lenP, w_sl, k_sl, k_sl2, k_sl3, wo_eo_none, wo_eo_some, k_eo, w_rev, k_rev, k_back, w_callM, w_call, k_call, k_call2, w_bi, k_bi, w_isi, k_isi, w_lc, k_lc, k_lcb, w_nil, w_cons, k_cons, k_cons2, w_lend, w_wn, w_ws, w_seq, k_seq, w_rng1, k_rng1, w_rng2, k_rng2, k_rng22, w_val, k_val, w_not, k_not, w_andB, k_andB, w_orB, k_orB, w_cmp, k_cmp, k_cmp2, w_cmpP, k_cmpP, w_ch, k_ch, k_ch2, k_ch3, w_set, k_set, w_setT, k_setT, w_setI, k_setI, k_setI2, w_app, k_app, k_app2, w_ex, k_ex, w_ret, k_rt, w_retN, w_ifs, k_ifs, w_for, k_for, w_while, w_pass, w_brk, w_cont, k_nx, k_mrt, k_mbk, k_mct, w_snil, w_scons, w_fturn, w_turn, k_turn, k_turn2, k_lnx, k_lct, k_lbk, k_lrt, k_wnx, k_wct, k_wbk, k_wrt, k_wc, k_lts, k_ltn, k_drt, k_dnx, t_nil, t_inl, t_inr, b_nil, b_inl, b_inr, l_nil, l_inl, l_inr, fa_nil, fa_inl, fa_inr, z_inl, z_inr, bt_v, bt_tup, bs_nil, bs_cons, g_v, g_at, s_v, ou_nil, ou_cons, wi_nil, wi_cons, ba_nil, ba_cons, pa_nil', pa_cons', po_none', po_some', it_lst, it_tup, fl_fl, ix_i, ixd_l, ixd_t, lo_nil, lo_d, wo_some, wo_none, wo_bind, wo_map, w_some, wo_ite, f_d, f_fl, fs_nil, fs_cons, a_nil, a_cons, o_add, o_sub, c_eq, c_ne, c_lt, c_le, c_gt, c_ge, q_int, q_bl, q_str, u_non, u_bl, u_int, u_tup, u_lst, big_eq, List.getElem?_cons_zero, List.getElem?_cons_succ, Option.join_some, Option.join_none, List.set_cons_zero, List.set_cons_succ, List.length_cons, List.length_nil, Nat.reduceAdd, Nat.reduceLT, Nat.reduceLeDiff, Nat.reduceSub, Nat.zero_le, Option.isSome_some, true_and, and_true, if_true, if_false, Bool.false_eq_true, Option.map_some, Option.map_none, Option.bind_some, List.map_cons, List.map_nil, List.cons_append, List.nil_append, List.append_nil, Bool.not_true, Bool.not_false, Bool.and_true, Bool.true_and, Bool.and_self, beq_self_eq_true, List.getElem?_nil, List.reduceReplicate, rng0 (show (0 : Int) ≤ 24 by omega) (show (24 : Int) ≤ 1000000 by omega)]
    refine w_loop (fun i ρ => ∃ F x7 x13, ρ = [some o3, some (.d (.int m)), some (.fl (keptB.map D.str)), some (.d (.str "abcdefghijklmnopqrstuvwxyz")), some (.d (.str w)), some (.d (.int at_)), some (.fl (F.map D.str)), x7, none, none, none, some (.d (.int way)), some (.d (.int fst)), x13] ∧ F.length = i ∧ ∀ s ∈ F, Nm0 s) ⟨[], _, _, rfl, rfl, fun _ h => nomatch h⟩ ?_ ?_
    · rintro i d _ hd ⟨F, x7, x13, rfl, hF, hN⟩
      obtain ⟨hi, rfl⟩ := rngL_get hd
      obtain ⟨c, hc, e⟩ := ix_str (v := (fst + (0 + (i : Int))) % 26) lok (by omega) (by rw [lets]; show _ < ((26 : Nat) : Int); omega)
      rw [lets] at hc
      obtain ⟨w4, e4, m4, l4⟩ := mul_str (a := w) (j := 4) (by omega) (by omega) (by omega) (by omega)
      have cok : Sok 1 (sg c) := Sok.sg (by have := mem26.mp hc; omega)
      have w4l : (sL w4).length = 28 := by rw [l4, wl]; rfl
      have wb := wok.len (by omega)
      have w4b : w4.length ≤ big := by rw [sL_len, w4l]; decide
      have A1 : (sL (L2.cutS w none (some at_))).length + (sL (sg c)).length ≤ 16000000 := by
        have := (wok.cut none (some at_)).1
        have := cok.1
        omega
      have A2 : (sL (L2.cutS w none (some at_) ++ sg c)).length + (sL (L2.cutS w (some at_) none)).length ≤ 16000000 := by
        have := ((wok.cut none (some at_)).add cok).1
        have := (wok.cut (some at_) none).1
        omega
      have hs : ∀ s ∈ [sg c, L2.cutS w none (some at_) ++ sg c ++ L2.cutS w (some at_) none, L2.cutS w4 none (some ((0 + (i : Int)) % 8 + 1))], Nm0 s := by
        intro s hs
        simp only [List.mem_cons, List.not_mem_nil, or_false] at hs
        rcases hs with rfl | rfl | rfl
        · refine ⟨Nat.le_refl _, by show 1 ≤ 8; omega, fun d hd => ?_⟩
          have : d = c := by simpa using hd
          subst this; exact hc
        · have el : sL (L2.cutS w none (some at_) ++ sg c ++ L2.cutS w (some at_) none) = (sL w).take at_.toNat ++ [c] ++ (sL w).drop at_.toNat := by
            rw [sL_add, sL_add, sL_cut, sL_cut, cut_to _ a0, cut_from _ a0]
          refine ⟨?_, ?_, fun d hd => ?_⟩
          · rw [el]; simp only [List.length_append, List.length_take, List.length_drop, List.length_cons, List.length_nil]; omega
          · rw [el]; simp only [List.length_append, List.length_take, List.length_drop, List.length_cons, List.length_nil]; omega
          · rw [el] at hd
            rcases List.mem_append.mp hd with z | z
            · rcases List.mem_append.mp z with z | z
              · exact w26 d (List.mem_of_mem_take z)
              · have : d = c := by simpa using z
                subst this; exact hc
            · exact w26 d (List.mem_of_mem_drop z)
        · have el : sL (L2.cutS w4 none (some ((0 + (i : Int)) % 8 + 1))) = (sL w4).take ((0 + (i : Int)) % 8 + 1).toNat := by
            rw [sL_cut, cut_to _ (by omega)]
          refine ⟨?_, ?_, fun d hd => ?_⟩
          · rw [el, List.length_take]; omega
          · rw [el, List.length_take]; omega
          · rw [el] at hd
            exact w26 d (m4 d (List.mem_of_mem_take hd))
      obtain ⟨x, ex, hx, _⟩ := at_in (xs := [D.str (sg c), D.str (L2.cutS w none (some at_) ++ sg c ++ L2.cutS w (some at_) none), D.str (L2.cutS w4 none (some ((0 + (i : Int)) % 8 + 1)))]) w0 (by simpa using w1)
      have hx2 : ∃ s, x = D.str s ∧ Nm0 s := by
        simp only [List.mem_cons, List.not_mem_nil, or_false] at hx
        rcases hx with rfl | rfl | rfl
        · exact ⟨_, rfl, hs _ (by simp)⟩
        · exact ⟨_, rfl, hs _ (by simp)⟩
        · exact ⟨_, rfl, hs _ (by simp)⟩
      obtain ⟨s, rfl, hsn⟩ := hx2
      have hlt : (F.map D.str).length < 16000000 := by
        have : (rngL 0 (Int.toNat 24)).length = 24 := rngL_length _ _
        rw [List.length_map]; omega
      simp -implicitDefEqProofs only [w_k, w_sset, k_sset, k_sset', w_cmpQ, k_cmpQ, w_bm, k_bm, k_bm2, w_dsp, w_dgetd, k_dg, w_zip, k_zip, k_zip2, c_in, c_nin, c_isb, c_isnb, w_pl, w_mv, w_gl, w_bin, k_bin, k_bin2, w_neg, k_neg, w_tv, k_tv, k_tru, w_and, k_and, w_or, k_or, w_ife, k_ife, w_tup, k_tup, w_lst, k_lst, w_ix, k_ix, k_ix2, w_ixP, k_ixP, w_lenP, w_sl, k_sl, k_sl2, k_sl3, wo_eo_none, wo_eo_some, k_eo, w_rev, k_rev, k_back, w_callM, w_call, k_call, k_call2, w_bi, k_bi, w_isi, k_isi, w_lc, k_lc, k_lcb, w_nil, w_cons, k_cons, k_cons2, w_lend, w_wn, w_ws, w_seq, k_seq, w_rng1, k_rng1, w_rng2, k_rng2, k_rng22, w_val, k_val, w_not, k_not, w_andB, k_andB, w_orB, k_orB, w_cmp, k_cmp, k_cmp2, w_cmpP, k_cmpP, w_ch, k_ch, k_ch2, k_ch3, w_set, k_set, w_setT, k_setT, w_setI, k_setI, k_setI2, w_app, k_app, k_app2, w_ex, k_ex, w_ret, k_rt, w_retN, w_ifs, k_ifs, w_for, k_for, w_while, w_pass, w_brk, w_cont, k_nx, k_mrt, k_mbk, k_mct, w_snil, w_scons, w_fturn, w_turn, k_turn, k_turn2, k_lnx, k_lct, k_lbk, k_lrt, k_wnx, k_wct, k_wbk, k_wrt, k_wc, k_lts, k_ltn, k_drt, k_dnx, t_nil, t_inl, t_inr, b_nil, b_inl, b_inr, l_nil, l_inl, l_inr, fa_nil, fa_inl, fa_inr, z_inl, z_inr, bt_v, bt_tup, bs_nil, bs_cons, g_v, g_at, s_v, ou_nil, ou_cons, wi_nil, wi_cons, ba_nil, ba_cons, pa_nil', pa_cons', po_none', po_some', it_lst, it_tup, fl_fl, ix_i, ixd_l, ixd_t, lo_nil, lo_d, wo_some, wo_none, wo_bind, wo_map, w_some, wo_ite, f_d, f_fl, fs_nil, fs_cons, a_nil, a_cons, o_add, o_sub, c_eq, c_ne, c_lt, c_le, c_gt, c_ge, q_int, q_bl, q_str, u_non, u_bl, u_int, u_tup, u_lst, big_eq, List.getElem?_cons_zero, List.getElem?_cons_succ, Option.join_some, Option.join_none, List.set_cons_zero, List.set_cons_succ, List.length_cons, List.length_nil, Nat.reduceAdd, Nat.reduceLT, Nat.reduceLeDiff, Nat.reduceSub, Nat.zero_le, Option.isSome_some, true_and, and_true, if_true, if_false, Bool.false_eq_true, Option.map_some, Option.map_none, Option.bind_some, List.map_cons, List.map_nil, List.cons_append, List.nil_append, List.append_nil, Bool.not_true, Bool.not_false, Bool.and_true, Bool.true_and, Bool.and_self, beq_self_eq_true, List.getElem?_nil, List.reduceReplicate, o_mod26, o_mod8, e, sl_str wb, sl_str w4b, add_str A1, add_str A2, e4, ex, hlt, put_str]
      exact ⟨F ++ [s], _, _, rfl, by simp [hF], fun t ht => by
        rcases List.mem_append.mp ht with z | z
        · exact hN t z
        · simp at z; subst z; exact hsn⟩
    · rintro _ ⟨F, x7, x13, rfl, hF, hN⟩
      rw [rngL_length] at hF
      have hF24 : F.length = 24 := hF
      have c1 := cut_to F (show (0 : Int) ≤ 8 by omega)
      have c2 := cut_from F (show (0 : Int) ≤ 8 by omega)
      have A : (F.take (Int.toNat 8)).length + (F.drop (Int.toNat 8)).length ≤ 1000000 := by
        simp only [List.length_take, List.length_drop]; omega
      simp -implicitDefEqProofs only [w_k, w_sset, k_sset, k_sset', w_cmpQ, k_cmpQ, w_bm, k_bm, k_bm2, w_dsp, w_dgetd, k_dg, w_zip, k_zip, k_zip2, c_in, c_nin, c_isb, c_isnb, w_pl, w_mv, w_gl, w_bin, k_bin, k_bin2, w_neg, k_neg, w_tv, k_tv, k_tru, w_and, k_and, w_or, k_or, w_ife, k_ife, w_tup, k_tup, w_lst, k_lst, w_ix, k_ix, k_ix2, w_ixP, k_ixP, w_lenP, w_sl, k_sl, k_sl2, k_sl3, wo_eo_none, wo_eo_some, k_eo, w_rev, k_rev, k_back, w_callM, w_call, k_call, k_call2, w_bi, k_bi, w_isi, k_isi, w_lc, k_lc, k_lcb, w_nil, w_cons, k_cons, k_cons2, w_lend, w_wn, w_ws, w_seq, k_seq, w_rng1, k_rng1, w_rng2, k_rng2, k_rng22, w_val, k_val, w_not, k_not, w_andB, k_andB, w_orB, k_orB, w_cmp, k_cmp, k_cmp2, w_cmpP, k_cmpP, w_ch, k_ch, k_ch2, k_ch3, w_set, k_set, w_setT, k_setT, w_setI, k_setI, k_setI2, w_app, k_app, k_app2, w_ex, k_ex, w_ret, k_rt, w_retN, w_ifs, k_ifs, w_for, k_for, w_while, w_pass, w_brk, w_cont, k_nx, k_mrt, k_mbk, k_mct, w_snil, w_scons, w_fturn, w_turn, k_turn, k_turn2, k_lnx, k_lct, k_lbk, k_lrt, k_wnx, k_wct, k_wbk, k_wrt, k_wc, k_lts, k_ltn, k_drt, k_dnx, t_nil, t_inl, t_inr, b_nil, b_inl, b_inr, l_nil, l_inl, l_inr, fa_nil, fa_inl, fa_inr, z_inl, z_inr, bt_v, bt_tup, bs_nil, bs_cons, g_v, g_at, s_v, ou_nil, ou_cons, wi_nil, wi_cons, ba_nil, ba_cons, pa_nil', pa_cons', po_none', po_some', it_lst, it_tup, fl_fl, ix_i, ixd_l, ixd_t, lo_nil, lo_d, wo_some, wo_none, wo_bind, wo_map, w_some, wo_ite, f_d, f_fl, fs_nil, fs_cons, a_nil, a_cons, o_add, o_sub, c_eq, c_ne, c_lt, c_le, c_gt, c_ge, q_int, q_bl, q_str, u_non, u_bl, u_int, u_tup, u_lst, big_eq, List.getElem?_cons_zero, List.getElem?_cons_succ, Option.join_some, Option.join_none, List.set_cons_zero, List.set_cons_succ, List.length_cons, List.length_nil, Nat.reduceAdd, Nat.reduceLT, Nat.reduceLeDiff, Nat.reduceSub, Nat.zero_le, Option.isSome_some, true_and, and_true, if_true, if_false, Bool.false_eq_true, Option.map_some, Option.map_none, Option.bind_some, List.map_cons, List.map_nil, List.cons_append, List.nil_append, List.append_nil, Bool.not_true, Bool.not_false, Bool.and_true, Bool.true_and, Bool.and_self, beq_self_eq_true, List.getElem?_nil, List.reduceReplicate, sl_strs, c1, c2, add_strs A, List.take_append_drop]
      refine w_filtI (fun ρ => ∃ x10 z, (z = .fl (keptB.map D.str) ∨ z = .d (.lst (keptB.map D.str))) ∧ ρ = [some o3, some (.d (.int m)), some z, some (.d (.str "abcdefghijklmnopqrstuvwxyz")), some (.d (.str w)), some (.d (.int at_)), some (.d (.lst (F.map D.str))), x7, none, none, x10, some (.d (.int way)), some (.d (.int fst)), x13]) F D.str D.str (fun s => !decide (s ∈ keptB)) ⟨_, _, .inl rfl, rfl⟩ ?_ ?_
      · rintro s _ hm ⟨x10, z, hz, rfl⟩
        have hfz : frz z = .lst (keptB.map D.str) := by rcases hz with rfl | rfl <;> rfl
        simp -implicitDefEqProofs only [w_k, w_sset, k_sset, k_sset', w_cmpQ, k_cmpQ, w_bm, k_bm, k_bm2, w_dsp, w_dgetd, k_dg, w_zip, k_zip, k_zip2, c_in, c_nin, c_isb, c_isnb, w_pl, w_mv, w_gl, w_bin, k_bin, k_bin2, w_neg, k_neg, w_tv, k_tv, k_tru, w_and, k_and, w_or, k_or, w_ife, k_ife, w_tup, k_tup, w_lst, k_lst, w_ix, k_ix, k_ix2, w_ixP, k_ixP, w_lenP, w_sl, k_sl, k_sl2, k_sl3, wo_eo_none, wo_eo_some, k_eo, w_rev, k_rev, k_back, w_callM, w_call, k_call, k_call2, w_bi, k_bi, w_isi, k_isi, w_lc, k_lc, k_lcb, w_nil, w_cons, k_cons, k_cons2, w_lend, w_wn, w_ws, w_seq, k_seq, w_rng1, k_rng1, w_rng2, k_rng2, k_rng22, w_val, k_val, w_not, k_not, w_andB, k_andB, w_orB, k_orB, w_cmp, k_cmp, k_cmp2, w_cmpP, k_cmpP, w_ch, k_ch, k_ch2, k_ch3, w_set, k_set, w_setT, k_setT, w_setI, k_setI, k_setI2, w_app, k_app, k_app2, w_ex, k_ex, w_ret, k_rt, w_retN, w_ifs, k_ifs, w_for, k_for, w_while, w_pass, w_brk, w_cont, k_nx, k_mrt, k_mbk, k_mct, w_snil, w_scons, w_fturn, w_turn, k_turn, k_turn2, k_lnx, k_lct, k_lbk, k_lrt, k_wnx, k_wct, k_wbk, k_wrt, k_wc, k_lts, k_ltn, k_drt, k_dnx, t_nil, t_inl, t_inr, b_nil, b_inl, b_inr, l_nil, l_inl, l_inr, fa_nil, fa_inl, fa_inr, z_inl, z_inr, bt_v, bt_tup, bs_nil, bs_cons, g_v, g_at, s_v, ou_nil, ou_cons, wi_nil, wi_cons, ba_nil, ba_cons, pa_nil', pa_cons', po_none', po_some', it_lst, it_tup, fl_fl, ix_i, ixd_l, ixd_t, lo_nil, lo_d, wo_some, wo_none, wo_bind, wo_map, w_some, wo_ite, f_d, f_fl, fs_nil, fs_cons, a_nil, a_cons, o_add, o_sub, c_eq, c_ne, c_lt, c_le, c_gt, c_ge, q_int, q_bl, q_str, u_non, u_bl, u_int, u_tup, u_lst, big_eq, List.getElem?_cons_zero, List.getElem?_cons_succ, Option.join_some, Option.join_none, List.set_cons_zero, List.set_cons_succ, List.length_cons, List.length_nil, Nat.reduceAdd, Nat.reduceLT, Nat.reduceLeDiff, Nat.reduceSub, Nat.zero_le, Option.isSome_some, true_and, and_true, if_true, if_false, Bool.false_eq_true, Option.map_some, Option.map_none, Option.bind_some, List.map_cons, List.map_nil, List.cons_append, List.nil_append, List.append_nil, Bool.not_true, Bool.not_false, Bool.and_true, Bool.true_and, Bool.and_self, beq_self_eq_true, List.getElem?_nil, List.reduceReplicate, hfz, in_strsL (hN s hm).ok.ok keptB_ok]
        cases decide (s ∈ keptB)
        · exact ⟨rfl, _, _, .inr rfl, rfl⟩
        · exact ⟨rfl, _, _, .inr rfl, rfl⟩
      · rintro _ ⟨x10, z, hz, rfl⟩
        have hS : ∀ s ∈ F.filter (fun s => !decide (s ∈ keptB)), Nm s := fun s hs => by
          obtain ⟨h1, h2⟩ := List.mem_filter.mp hs
          exact ⟨hN s h1, by simpa using h2⟩
        have hSl : (F.filter fun s => !decide (s ∈ keptB)).length ≤ 24 := by
          have := List.length_filter_le (fun s => !decide (s ∈ keptB)) F
          omega
        generalize F.filter (fun s => !decide (s ∈ keptB)) = S at hS hSl
        have A2 : S.length + qqB.length ≤ 1000000 := by
          have : qqB.length = 8 := rfl
          omega
        have eqq : [D.str "qqa", D.str "qqb", D.str "qqc", D.str "qqd", D.str "qqe", D.str "qqf", D.str "qqg", D.str "qqh"] = qqB.map D.str := rfl
        simp -implicitDefEqProofs only [w_k, w_sset, k_sset, k_sset', w_cmpQ, k_cmpQ, w_bm, k_bm, k_bm2, w_dsp, w_dgetd, k_dg, w_zip, k_zip, k_zip2, c_in, c_nin, c_isb, c_isnb, w_pl, w_mv, w_gl, w_bin, k_bin, k_bin2, w_neg, k_neg, w_tv, k_tv, k_tru, w_and, k_and, w_or, k_or, w_ife, k_ife, w_tup, k_tup, w_lst, k_lst, w_ix, k_ix, k_ix2, w_ixP, k_ixP, w_lenP, w_sl, k_sl, k_sl2, k_sl3, wo_eo_none, wo_eo_some, k_eo, w_rev, k_rev, k_back, w_callM, w_call, k_call, k_call2, w_bi, k_bi, w_isi, k_isi, w_lc, k_lc, k_lcb, w_nil, w_cons, k_cons, k_cons2, w_lend, w_wn, w_ws, w_seq, k_seq, w_rng1, k_rng1, w_rng2, k_rng2, k_rng22, w_val, k_val, w_not, k_not, w_andB, k_andB, w_orB, k_orB, w_cmp, k_cmp, k_cmp2, w_cmpP, k_cmpP, w_ch, k_ch, k_ch2, k_ch3, w_set, k_set, w_setT, k_setT, w_setI, k_setI, k_setI2, w_app, k_app, k_app2, w_ex, k_ex, w_ret, k_rt, w_retN, w_ifs, k_ifs, w_for, k_for, w_while, w_pass, w_brk, w_cont, k_nx, k_mrt, k_mbk, k_mct, w_snil, w_scons, w_fturn, w_turn, k_turn, k_turn2, k_lnx, k_lct, k_lbk, k_lrt, k_wnx, k_wct, k_wbk, k_wrt, k_wc, k_lts, k_ltn, k_drt, k_dnx, t_nil, t_inl, t_inr, b_nil, b_inl, b_inr, l_nil, l_inl, l_inr, fa_nil, fa_inl, fa_inr, z_inl, z_inr, bt_v, bt_tup, bs_nil, bs_cons, g_v, g_at, s_v, ou_nil, ou_cons, wi_nil, wi_cons, ba_nil, ba_cons, pa_nil', pa_cons', po_none', po_some', it_lst, it_tup, fl_fl, ix_i, ixd_l, ixd_t, lo_nil, lo_d, wo_some, wo_none, wo_bind, wo_map, w_some, wo_ite, f_d, f_fl, fs_nil, fs_cons, a_nil, a_cons, o_add, o_sub, c_eq, c_ne, c_lt, c_le, c_gt, c_ge, q_int, q_bl, q_str, u_non, u_bl, u_int, u_tup, u_lst, big_eq, List.getElem?_cons_zero, List.getElem?_cons_succ, Option.join_some, Option.join_none, List.set_cons_zero, List.set_cons_succ, List.length_cons, List.length_nil, Nat.reduceAdd, Nat.reduceLT, Nat.reduceLeDiff, Nat.reduceSub, Nat.zero_le, Option.isSome_some, true_and, and_true, if_true, if_false, Bool.false_eq_true, Option.map_some, Option.map_none, Option.bind_some, List.map_cons, List.map_nil, List.cons_append, List.nil_append, List.append_nil, Bool.not_true, Bool.not_false, Bool.and_true, Bool.true_and, Bool.and_self, beq_self_eq_true, List.getElem?_nil, List.reduceReplicate, eqq, add_strs A2]
        have hT : ∀ s ∈ S ++ qqB, Nm s := fun s hs => by
          rcases List.mem_append.mp hs with z | z
          · exact hS s z
          · exact qqB_ok s z
        have hTl : (S ++ qqB).length ≤ 32 := by
          have : qqB.length = 8 := rfl
          rw [List.length_append]; omega
        generalize S ++ qqB = T at hT hTl
        refine w_loop (fun i ρ => ∃ N x10 x8, ρ = [some o3, some (.d (.int m)), some z, some (.d (.str "abcdefghijklmnopqrstuvwxyz")), some (.d (.str w)), some (.d (.int at_)), some (.d (.lst (F.map D.str))), x7, x8, some (.fl (N.map D.str)), x10, some (.d (.int way)), some (.d (.int fst)), x13] ∧ N.length ≤ i ∧ ∀ s ∈ N, Nm s) ⟨[], _, _, rfl, Nat.le_refl _, fun _ h => nomatch h⟩ ?_ ?_
        · rintro i d _ hd ⟨N, x10, x8, rfl, hl, hN⟩
          have hi : i < T.length := by
            have := (List.getElem?_eq_some_iff.mp hd).1
            simpa using this
          rw [List.getElem?_map] at hd
          cases hr : T[i]? with
          | none => rw [hr] at hd; cases hd
          | some s =>
            rw [hr] at hd
            cases hd
            have hs := hT s (List.mem_of_getElem? hr)
            have hlt : (N.map D.str).length < 16000000 := by rw [List.length_map]; omega
            simp -implicitDefEqProofs only [w_k, w_sset, k_sset, k_sset', w_cmpQ, k_cmpQ, w_bm, k_bm, k_bm2, w_dsp, w_dgetd, k_dg, w_zip, k_zip, k_zip2, c_in, c_nin, c_isb, c_isnb, w_pl, w_mv, w_gl, w_bin, k_bin, k_bin2, w_neg, k_neg, w_tv, k_tv, k_tru, w_and, k_and, w_or, k_or, w_ife, k_ife, w_tup, k_tup, w_lst, k_lst, w_ix, k_ix, k_ix2, w_ixP, k_ixP, w_lenP, w_sl, k_sl, k_sl2, k_sl3, wo_eo_none, wo_eo_some, k_eo, w_rev, k_rev, k_back, w_callM, w_call, k_call, k_call2, w_bi, k_bi, w_isi, k_isi, w_lc, k_lc, k_lcb, w_nil, w_cons, k_cons, k_cons2, w_lend, w_wn, w_ws, w_seq, k_seq, w_rng1, k_rng1, w_rng2, k_rng2, k_rng22, w_val, k_val, w_not, k_not, w_andB, k_andB, w_orB, k_orB, w_cmp, k_cmp, k_cmp2, w_cmpP, k_cmpP, w_ch, k_ch, k_ch2, k_ch3, w_set, k_set, w_setT, k_setT, w_setI, k_setI, k_setI2, w_app, k_app, k_app2, w_ex, k_ex, w_ret, k_rt, w_retN, w_ifs, k_ifs, w_for, k_for, w_while, w_pass, w_brk, w_cont, k_nx, k_mrt, k_mbk, k_mct, w_snil, w_scons, w_fturn, w_turn, k_turn, k_turn2, k_lnx, k_lct, k_lbk, k_lrt, k_wnx, k_wct, k_wbk, k_wrt, k_wc, k_lts, k_ltn, k_drt, k_dnx, t_nil, t_inl, t_inr, b_nil, b_inl, b_inr, l_nil, l_inl, l_inr, fa_nil, fa_inl, fa_inr, z_inl, z_inr, bt_v, bt_tup, bs_nil, bs_cons, g_v, g_at, s_v, ou_nil, ou_cons, wi_nil, wi_cons, ba_nil, ba_cons, pa_nil', pa_cons', po_none', po_some', it_lst, it_tup, fl_fl, ix_i, ixd_l, ixd_t, lo_nil, lo_d, wo_some, wo_none, wo_bind, wo_map, w_some, wo_ite, f_d, f_fl, fs_nil, fs_cons, a_nil, a_cons, o_add, o_sub, c_eq, c_ne, c_lt, c_le, c_gt, c_ge, q_int, q_bl, q_str, u_non, u_bl, u_int, u_tup, u_lst, big_eq, List.getElem?_cons_zero, List.getElem?_cons_succ, Option.join_some, Option.join_none, List.set_cons_zero, List.set_cons_succ, List.length_cons, List.length_nil, Nat.reduceAdd, Nat.reduceLT, Nat.reduceLeDiff, Nat.reduceSub, Nat.zero_le, Option.isSome_some, true_and, and_true, if_true, if_false, Bool.false_eq_true, Option.map_some, Option.map_none, Option.bind_some, List.map_cons, List.map_nil, List.cons_append, List.nil_append, List.append_nil, Bool.not_true, Bool.not_false, Bool.and_true, Bool.true_and, Bool.and_self, beq_self_eq_true, List.getElem?_nil, List.reduceReplicate, in_strsL hs.1.ok.ok (fun b hb => (hN b hb).1.ok.ok)]
            by_cases hm : s ∈ N
            · simp -implicitDefEqProofs only [w_k, w_sset, k_sset, k_sset', w_cmpQ, k_cmpQ, w_bm, k_bm, k_bm2, w_dsp, w_dgetd, k_dg, w_zip, k_zip, k_zip2, c_in, c_nin, c_isb, c_isnb, w_pl, w_mv, w_gl, w_bin, k_bin, k_bin2, w_neg, k_neg, w_tv, k_tv, k_tru, w_and, k_and, w_or, k_or, w_ife, k_ife, w_tup, k_tup, w_lst, k_lst, w_ix, k_ix, k_ix2, w_ixP, k_ixP, w_lenP, w_sl, k_sl, k_sl2, k_sl3, wo_eo_none, wo_eo_some, k_eo, w_rev, k_rev, k_back, w_callM, w_call, k_call, k_call2, w_bi, k_bi, w_isi, k_isi, w_lc, k_lc, k_lcb, w_nil, w_cons, k_cons, k_cons2, w_lend, w_wn, w_ws, w_seq, k_seq, w_rng1, k_rng1, w_rng2, k_rng2, k_rng22, w_val, k_val, w_not, k_not, w_andB, k_andB, w_orB, k_orB, w_cmp, k_cmp, k_cmp2, w_cmpP, k_cmpP, w_ch, k_ch, k_ch2, k_ch3, w_set, k_set, w_setT, k_setT, w_setI, k_setI, k_setI2, w_app, k_app, k_app2, w_ex, k_ex, w_ret, k_rt, w_retN, w_ifs, k_ifs, w_for, k_for, w_while, w_pass, w_brk, w_cont, k_nx, k_mrt, k_mbk, k_mct, w_snil, w_scons, w_fturn, w_turn, k_turn, k_turn2, k_lnx, k_lct, k_lbk, k_lrt, k_wnx, k_wct, k_wbk, k_wrt, k_wc, k_lts, k_ltn, k_drt, k_dnx, t_nil, t_inl, t_inr, b_nil, b_inl, b_inr, l_nil, l_inl, l_inr, fa_nil, fa_inl, fa_inr, z_inl, z_inr, bt_v, bt_tup, bs_nil, bs_cons, g_v, g_at, s_v, ou_nil, ou_cons, wi_nil, wi_cons, ba_nil, ba_cons, pa_nil', pa_cons', po_none', po_some', it_lst, it_tup, fl_fl, ix_i, ixd_l, ixd_t, lo_nil, lo_d, wo_some, wo_none, wo_bind, wo_map, w_some, wo_ite, f_d, f_fl, fs_nil, fs_cons, a_nil, a_cons, o_add, o_sub, c_eq, c_ne, c_lt, c_le, c_gt, c_ge, q_int, q_bl, q_str, u_non, u_bl, u_int, u_tup, u_lst, big_eq, List.getElem?_cons_zero, List.getElem?_cons_succ, Option.join_some, Option.join_none, List.set_cons_zero, List.set_cons_succ, List.length_cons, List.length_nil, Nat.reduceAdd, Nat.reduceLT, Nat.reduceLeDiff, Nat.reduceSub, Nat.zero_le, Option.isSome_some, true_and, and_true, if_true, if_false, Bool.false_eq_true, Option.map_some, Option.map_none, Option.bind_some, List.map_cons, List.map_nil, List.cons_append, List.nil_append, List.append_nil, Bool.not_true, Bool.not_false, Bool.and_true, Bool.true_and, Bool.and_self, beq_self_eq_true, List.getElem?_nil, List.reduceReplicate, decide_eq_true hm]
              exact ⟨N, _, _, rfl, by omega, hN⟩
            · simp -implicitDefEqProofs only [w_k, w_sset, k_sset, k_sset', w_cmpQ, k_cmpQ, w_bm, k_bm, k_bm2, w_dsp, w_dgetd, k_dg, w_zip, k_zip, k_zip2, c_in, c_nin, c_isb, c_isnb, w_pl, w_mv, w_gl, w_bin, k_bin, k_bin2, w_neg, k_neg, w_tv, k_tv, k_tru, w_and, k_and, w_or, k_or, w_ife, k_ife, w_tup, k_tup, w_lst, k_lst, w_ix, k_ix, k_ix2, w_ixP, k_ixP, w_lenP, w_sl, k_sl, k_sl2, k_sl3, wo_eo_none, wo_eo_some, k_eo, w_rev, k_rev, k_back, w_callM, w_call, k_call, k_call2, w_bi, k_bi, w_isi, k_isi, w_lc, k_lc, k_lcb, w_nil, w_cons, k_cons, k_cons2, w_lend, w_wn, w_ws, w_seq, k_seq, w_rng1, k_rng1, w_rng2, k_rng2, k_rng22, w_val, k_val, w_not, k_not, w_andB, k_andB, w_orB, k_orB, w_cmp, k_cmp, k_cmp2, w_cmpP, k_cmpP, w_ch, k_ch, k_ch2, k_ch3, w_set, k_set, w_setT, k_setT, w_setI, k_setI, k_setI2, w_app, k_app, k_app2, w_ex, k_ex, w_ret, k_rt, w_retN, w_ifs, k_ifs, w_for, k_for, w_while, w_pass, w_brk, w_cont, k_nx, k_mrt, k_mbk, k_mct, w_snil, w_scons, w_fturn, w_turn, k_turn, k_turn2, k_lnx, k_lct, k_lbk, k_lrt, k_wnx, k_wct, k_wbk, k_wrt, k_wc, k_lts, k_ltn, k_drt, k_dnx, t_nil, t_inl, t_inr, b_nil, b_inl, b_inr, l_nil, l_inl, l_inr, fa_nil, fa_inl, fa_inr, z_inl, z_inr, bt_v, bt_tup, bs_nil, bs_cons, g_v, g_at, s_v, ou_nil, ou_cons, wi_nil, wi_cons, ba_nil, ba_cons, pa_nil', pa_cons', po_none', po_some', it_lst, it_tup, fl_fl, ix_i, ixd_l, ixd_t, lo_nil, lo_d, wo_some, wo_none, wo_bind, wo_map, w_some, wo_ite, f_d, f_fl, fs_nil, fs_cons, a_nil, a_cons, o_add, o_sub, c_eq, c_ne, c_lt, c_le, c_gt, c_ge, q_int, q_bl, q_str, u_non, u_bl, u_int, u_tup, u_lst, big_eq, List.getElem?_cons_zero, List.getElem?_cons_succ, Option.join_some, Option.join_none, List.set_cons_zero, List.set_cons_succ, List.length_cons, List.length_nil, Nat.reduceAdd, Nat.reduceLT, Nat.reduceLeDiff, Nat.reduceSub, Nat.zero_le, Option.isSome_some, true_and, and_true, if_true, if_false, Bool.false_eq_true, Option.map_some, Option.map_none, Option.bind_some, List.map_cons, List.map_nil, List.cons_append, List.nil_append, List.append_nil, Bool.not_true, Bool.not_false, Bool.and_true, Bool.true_and, Bool.and_self, beq_self_eq_true, List.getElem?_nil, List.reduceReplicate, decide_eq_false hm, hlt, put_str]
              exact ⟨N ++ [s], _, _, rfl, by simp; omega, fun t ht => by
                rcases List.mem_append.mp ht with z | z
                · exact hN t z
                · simp at z; subst z; exact hs⟩
        · rintro _ ⟨N, x10, x8, rfl, hl, hN⟩
          rw [List.length_map] at hl
          simp -implicitDefEqProofs only [w_k, w_sset, k_sset, k_sset', w_cmpQ, k_cmpQ, w_bm, k_bm, k_bm2, w_dsp, w_dgetd, k_dg, w_zip, k_zip, k_zip2, c_in, c_nin, c_isb, c_isnb, w_pl, w_mv, w_gl, w_bin, k_bin, k_bin2, w_neg, k_neg, w_tv, k_tv, k_tru, w_and, k_and, w_or, k_or, w_ife, k_ife, w_tup, k_tup, w_lst, k_lst, w_ix, k_ix, k_ix2, w_ixP, k_ixP, w_lenP, w_sl, k_sl, k_sl2, k_sl3, wo_eo_none, wo_eo_some, k_eo, w_rev, k_rev, k_back, w_callM, w_call, k_call, k_call2, w_bi, k_bi, w_isi, k_isi, w_lc, k_lc, k_lcb, w_nil, w_cons, k_cons, k_cons2, w_lend, w_wn, w_ws, w_seq, k_seq, w_rng1, k_rng1, w_rng2, k_rng2, k_rng22, w_val, k_val, w_not, k_not, w_andB, k_andB, w_orB, k_orB, w_cmp, k_cmp, k_cmp2, w_cmpP, k_cmpP, w_ch, k_ch, k_ch2, k_ch3, w_set, k_set, w_setT, k_setT, w_setI, k_setI, k_setI2, w_app, k_app, k_app2, w_ex, k_ex, w_ret, k_rt, w_retN, w_ifs, k_ifs, w_for, k_for, w_while, w_pass, w_brk, w_cont, k_nx, k_mrt, k_mbk, k_mct, w_snil, w_scons, w_fturn, w_turn, k_turn, k_turn2, k_lnx, k_lct, k_lbk, k_lrt, k_wnx, k_wct, k_wbk, k_wrt, k_wc, k_lts, k_ltn, k_drt, k_dnx, t_nil, t_inl, t_inr, b_nil, b_inl, b_inr, l_nil, l_inl, l_inr, fa_nil, fa_inl, fa_inr, z_inl, z_inr, bt_v, bt_tup, bs_nil, bs_cons, g_v, g_at, s_v, ou_nil, ou_cons, wi_nil, wi_cons, ba_nil, ba_cons, pa_nil', pa_cons', po_none', po_some', it_lst, it_tup, fl_fl, ix_i, ixd_l, ixd_t, lo_nil, lo_d, wo_some, wo_none, wo_bind, wo_map, w_some, wo_ite, f_d, f_fl, fs_nil, fs_cons, a_nil, a_cons, o_add, o_sub, c_eq, c_ne, c_lt, c_le, c_gt, c_ge, q_int, q_bl, q_str, u_non, u_bl, u_int, u_tup, u_lst, big_eq, List.getElem?_cons_zero, List.getElem?_cons_succ, Option.join_some, Option.join_none, List.set_cons_zero, List.set_cons_succ, List.length_cons, List.length_nil, Nat.reduceAdd, Nat.reduceLT, Nat.reduceLeDiff, Nat.reduceSub, Nat.zero_le, Option.isSome_some, true_and, and_true, if_true, if_false, Bool.false_eq_true, Option.map_some, Option.map_none, Option.bind_some, List.map_cons, List.map_nil, List.cons_append, List.nil_append, List.append_nil, Bool.not_true, Bool.not_false, Bool.and_true, Bool.true_and, Bool.and_self, beq_self_eq_true, List.getElem?_nil, List.reduceReplicate, sl_strs]
          exact q _ _ (fun s hs => hN s (mem_cutL hs)) (Nat.le_trans (len_cutL _ _ _) (by omega)) ho3
end Pw

namespace Pk01
open PySem PySem.Spec PyProof.Rows L2 Pw
/-- is_name(thing); 0 thing 1 sign -/
def d_is_name : Fd := ⟨1, 2, [], [
    .ifs (.or (.not (.val (.isi (.pl (.v 0)) "str"))) (.not (.chain .LtE .LtE (.k (.int 1)) (.bi .len (.cons (.pl (.v 0)) .nil)) (.gl "LONGEST")))) [
      .ret (.k (.bl false))] [],
    .ret (.and (.bi .all (.cons (.lc (.tv (.cmp .In (.pl (.v 1)) (.gl "LETTERS"))) (.v 1) (.seq (.pl (.v 0))) .none [1]) .nil)) (.tv (.cmp .NotIn (.pl (.v 0)) (.gl "KEPT"))))]⟩
/-- _law_deck(_law_script); 0 _law_script 1 _law_cells 2 _law_cell -/
def d__law_deck : Fd := ⟨1, 3, [], [
    .set 1 (.bi .list (.cons (.sl (.pl (.v 0)) .none (.some (.k (.int 63)))) .nil)),
    .ret (.lst (.cons (.rev (.pl (.v 1))) (.cons (.bin .Add (.bi .sum (.cons (.lc (.bin .Mod (.pl (.v 2)) (.k (.int 1000003))) (.v 2) (.seq (.pl (.v 1))) .none [2]) .nil)) (.bin .Mult (.k (.int 7919)) (.bi .len (.cons (.pl (.v 1)) .nil)))) (.cons (.k (.int 0)) .nil))))]⟩
/-- _law_draw(_law_deck_here, _law_many); 0 _law_deck_here 1 _law_many 2 _law_cell 3 _law_mixed -/
def d__law_draw : Fd := ⟨2, 4, [0], [
    .setI (.v 0) (.k (.int 2)) (.bin .Add (.ixP (.v 0) (.k (.int 2))) (.k (.int 1))),
    .set 2 (.ixP (.v 0) (.k (.int 1))),
    .ifs (.cmpP .NotEq (.at (.v 0) 0) (.lst .nil)) [
      .set 2 (.pop (.at (.v 0) 0)),
      .ifs (.cmp .GtE (.pl (.v 2)) (.bin .Pow (.k (.int 10)) (.k (.int 18)))) [
        .app (.at (.v 0) 0) (.bin .FloorDiv (.pl (.v 2)) (.pl (.v 1))),
        .ret (.bin .Mod (.pl (.v 2)) (.pl (.v 1)))] []] [],
    .set 3 (.bin .Mod (.bin .Mult (.bin .Add (.bin .Add (.bin .Mod (.pl (.v 2)) (.k (.int 2147483629))) (.bin .Mult (.k (.int 65537)) (.ixP (.v 0) (.k (.int 2))))) (.k (.int 19))) (.k (.int 48271))) (.k (.int 2147483647))),
    .set 3 (.bin .Mod (.bin .Add (.bin .Add (.bin .Mult (.pl (.v 3)) (.pl (.v 3))) (.bin .Mult (.k (.int 69621)) (.ixP (.v 0) (.k (.int 2))))) (.k (.int 23))) (.k (.int 2147483587))),
    .ret (.bin .Mod (.bin .FloorDiv (.bin .Mod (.bin .Add (.bin .Mult (.pl (.v 3)) (.pl (.v 3))) (.bin .Mult (.k (.int 39373)) (.pl (.v 3)))) (.k (.int 2147483563))) (.k (.int 64))) (.pl (.v 1)))]⟩
/-- _law_pick(_law_deck_here, _law_some); 0 _law_deck_here 1 _law_some -/
def d__law_pick : Fd := ⟨2, 2, [0], [
    .ret (.ix (.pl (.v 1)) (.call "_law_draw" (.lend 0 (.cons (.bi .len (.cons (.pl (.v 1)) .nil)) .nil)) .nil [] [.inl 0, .inl 1]))]⟩
/-- _law_names(_law_deck_here, _law_many); 0 _law_deck_here 1 _law_many 2 _law_kept_here 3 _law_letters 4 _law_word 5 _law_at 6 _law_found 7 _law_k 8 _law_some 9 _law_good 10 _law_name 11 _law_way 12 _law_first 13 _law_sign -/
def d__law_names : Fd := ⟨2, 14, [0], [
    .set 2 (.lst (.cons (.k (.str "and")) (.cons (.k (.str "below")) (.cons (.k (.str "choice")) (.cons (.k (.str "copy")) (.cons (.k (.str "froze")) (.cons (.k (.str "if")) (.cons (.k (.str "in")) (.cons (.k (.str "left")) (.cons (.k (.str "less")) (.cons (.k (.str "not")) (.cons (.k (.str "or")) (.cons (.k (.str "out")) (.cons (.k (.str "quot")) (.cons (.k (.str "rest")) .nil))))))))))))))),
    .set 2 (.bin .Add (.pl (.v 2)) (.lst (.cons (.k (.str "right")) (.cons (.k (.str "rule")) (.cons (.k (.str "same")) (.cons (.k (.str "sum")) (.cons (.k (.str "times")) (.cons (.k (.str "to")) (.cons (.k (.str "twice")) (.cons (.k (.str "under")) (.cons (.k (.str "unlike")) (.cons (.k (.str "width")) (.cons (.k (.str "xor")) .nil))))))))))))),
    .set 3 (.k (.str "abcdefghijklmnopqrstuvwxyz")),
    .setT (.tup [(.v 11), (.v 12)]) (.tup (.cons (.call "_law_draw" (.lend 0 (.cons (.k (.int 3)) .nil)) .nil [] [.inl 0, .inl 1]) (.cons (.call "_law_draw" (.lend 0 (.cons (.k (.int 26)) .nil)) .nil [] [.inl 0, .inl 1]) .nil))),
    .set 4 (.bm .join (.k (.str "")) (.cons (.lc (.ix (.pl (.v 3)) (.call "_law_draw" (.lend 0 (.cons (.k (.int 26)) .nil)) .nil [] [.inl 0, .inl 1])) (.v 7) (.rng1 (.k (.int 7))) .none [7]) .nil)),
    .set 5 (.call "_law_draw" (.lend 0 (.cons (.k (.int 7)) .nil)) .nil [] [.inl 0, .inl 1]),
    .set 6 (.lst .nil),
    .for_ (.v 7) (.rng1 (.k (.int 24))) [
      .set 13 (.ix (.pl (.v 3)) (.bin .Mod (.bin .Add (.pl (.v 12)) (.pl (.v 7))) (.k (.int 26)))),
      .app (.v 6) (.ix (.lst (.cons (.pl (.v 13)) (.cons (.bin .Add (.bin .Add (.sl (.pl (.v 4)) .none (.some (.pl (.v 5)))) (.pl (.v 13))) (.sl (.pl (.v 4)) (.some (.pl (.v 5))) .none)) (.cons (.sl (.bin .Mult (.pl (.v 4)) (.k (.int 4))) .none (.some (.bin .Add (.bin .Mod (.pl (.v 7)) (.k (.int 8))) (.k (.int 1))))) .nil)))) (.pl (.v 11)))],
    .set 8 (.lc (.pl (.v 10)) (.v 10) (.seq (.bin .Add (.sl (.pl (.v 6)) .none (.some (.k (.int 8)))) (.sl (.pl (.v 6)) (.some (.k (.int 8))) .none))) (.some (.cmp .NotIn (.pl (.v 10)) (.pl (.v 2)))) [10]),
    .set 9 (.lst .nil),
    .for_ (.v 10) (.seq (.bin .Add (.pl (.v 8)) (.lst (.cons (.k (.str "qqa")) (.cons (.k (.str "qqb")) (.cons (.k (.str "qqc")) (.cons (.k (.str "qqd")) (.cons (.k (.str "qqe")) (.cons (.k (.str "qqf")) (.cons (.k (.str "qqg")) (.cons (.k (.str "qqh")) .nil))))))))))) [
      .ifs (.cmpQ .NotIn (.pl (.v 10)) (.v 9)) [
        .app (.v 9) (.pl (.v 10))] []],
    .ret (.sl (.pl (.v 9)) .none (.some (.pl (.v 1))))]⟩
/-- _law_kept(); 0 _law_some -/
def d__law_kept : Fd := ⟨0, 1, [], [
    .set 0 (.lst (.cons (.k (.str "and")) (.cons (.k (.str "below")) (.cons (.k (.str "choice")) (.cons (.k (.str "copy")) (.cons (.k (.str "froze")) (.cons (.k (.str "if")) (.cons (.k (.str "in")) (.cons (.k (.str "left")) (.cons (.k (.str "less")) (.cons (.k (.str "not")) (.cons (.k (.str "or")) (.cons (.k (.str "out")) (.cons (.k (.str "quot")) (.cons (.k (.str "rest")) .nil))))))))))))))),
    .ret (.bin .Add (.pl (.v 0)) (.lst (.cons (.k (.str "right")) (.cons (.k (.str "rule")) (.cons (.k (.str "same")) (.cons (.k (.str "sum")) (.cons (.k (.str "times")) (.cons (.k (.str "to")) (.cons (.k (.str "twice")) (.cons (.k (.str "under")) (.cons (.k (.str "unlike")) (.cons (.k (.str "width")) (.cons (.k (.str "xor")) .nil)))))))))))))]⟩
/-- _law_is_name(_law_it); 0 _law_it 1 _law_sign -/
def d__law_is_name : Fd := ⟨1, 2, [], [
    .ifs (.or (.not (.val (.isi (.pl (.v 0)) "str"))) (.or (.not (.chain .LtE .LtE (.k (.int 1)) (.bi .len (.cons (.pl (.v 0)) .nil)) (.k (.int 8)))) (.cmp .In (.pl (.v 0)) (.call "_law_kept" .nil .nil [] [])))) [
      .ret (.k (.bl false))] [],
    .ret (.tv (.cmp .Eq (.lc (.pl (.v 1)) (.v 1) (.seq (.pl (.v 0))) (.some (.cmp .NotIn (.pl (.v 1)) (.k (.str "abcdefghijklmnopqrstuvwxyz")))) [1]) (.lst .nil)))]⟩
/-- _law_near(_law_deck_here, _law_word); 0 _law_deck_here 1 _law_word 2 _law_way 3 _law_at 4 _law_sign 5 _law_some -/
def d__law_near : Fd := ⟨2, 6, [0], [
    .set 2 (.call "_law_draw" (.lend 0 (.cons (.k (.int 8)) .nil)) .nil [] [.inl 0, .inl 1]),
    .set 3 (.call "_law_draw" (.lend 0 (.cons (.bin .Add (.bi .len (.cons (.pl (.v 1)) .nil)) (.k (.int 1))) .nil)) .nil [] [.inl 0, .inl 1]),
    .set 4 (.call "_law_pick" (.lend 0 (.cons (.k (.str "qzA0 _-.#\n")) .nil)) .nil [] [.inl 0, .inl 1]),
    .set 5 (.lst (.cons (.bin .Add (.bin .Add (.sl (.pl (.v 1)) .none (.some (.pl (.v 3)))) (.pl (.v 4))) (.sl (.pl (.v 1)) (.some (.pl (.v 3))) .none)) (.cons (.bin .Add (.bin .Add (.sl (.pl (.v 1)) .none (.some (.pl (.v 3)))) (.pl (.v 4))) (.sl (.pl (.v 1)) (.some (.bin .Add (.pl (.v 3)) (.k (.int 1)))) .none)) (.cons (.bin .Add (.sl (.pl (.v 1)) .none (.some (.pl (.v 3)))) (.sl (.pl (.v 1)) (.some (.bin .Add (.pl (.v 3)) (.k (.int 1)))) .none)) (.cons (.bm .upper (.pl (.v 1)) .nil) .nil))))),
    .ret (.ix (.bin .Add (.pl (.v 5)) (.lst (.cons (.bin .Add (.pl (.v 1)) (.sl (.k (.str "abcdefgh")) (.some (.bin .Sub (.bi .len (.cons (.pl (.v 1)) .nil)) (.k (.int 1)))) .none)) (.cons (.bin .Add (.pl (.v 1)) (.sl (.k (.str "abcdefgh")) .none (.some (.bin .Sub (.k (.int 8)) (.bi .len (.cons (.pl (.v 1)) .nil)))))) (.cons (.tup (.cons (.pl (.v 1)) .nil)) (.cons (.lst (.cons (.pl (.v 1)) .nil)) .nil)))))) (.pl (.v 2)))]⟩
/-- law(_law_script); 0 _law_script 1 _law_deck_here 2 _law_some 3 _law_turn 4 _law_it 5 _law_word 6 _law_kept_here 7 _law_due -/
def d_law : Fd := ⟨1, 8, [], [
    .set 1 (.call "_law_deck" (.cons (.pl (.v 0)) .nil) .nil [] [.inl 0]),
    .set 2 (.lst (.cons (.k (.str "")) (.cons (.k (.str "a")) (.cons (.k (.str "z")) (.cons (.k (.str "abcdefgh")) (.cons (.k (.str "abcdefghi")) (.cons (.k (.str "A")) (.cons (.k (.str "x1")) (.cons (.k (.str " x")) (.cons (.k (.str "x ")) (.cons (.k (.str "look")) (.cons (.k (.str "const")) (.cons (.k (.str "num")) (.cons (.k (.str "u")) (.cons (.k (.str "us")) (.cons (.k (.str "ands")) .nil)))))))))))))))),
    .set 2 (.bin .Add (.pl (.v 2)) (.lst (.cons (.k (.str "line")) (.cons (.k (.str "any")) (.cons (.k (.str "bad")) (.cons (.k (.str "fault")) (.cons (.k (.str "none")) (.cons (.k (.str "ok")) (.cons (.k (.str "every")) (.cons (.k (.str "words")) (.cons (.k (.str "zero")) (.cons (.k (.str "wrong")) (.cons (.k (.str "paper")) .nil))))))))))))),
    .set 2 (.bin .Add (.bin .Add (.bin .Add (.pl (.v 2)) (.call "_law_kept" .nil .nil [] [])) (.lc (.bin .Add (.pl (.v 5)) (.k (.str "s"))) (.v 5) (.seq (.call "_law_kept" .nil .nil [] [])) .none [5])) (.lc (.sl (.pl (.v 5)) .none (.some (.neg (.k (.int 1))))) (.v 5) (.seq (.call "_law_kept" .nil .nil [] [])) .none [5])),
    .set 2 (.bin .Add (.pl (.v 2)) (.lst (.cons (.k .non) (.cons (.k (.bl true)) (.cons (.k (.bl false)) (.cons (.k (.int 0)) (.cons (.k (.int 1)) (.cons (.tup .nil) (.cons (.tup (.cons (.k (.str "a")) .nil)) (.cons (.lst (.cons (.k (.str "a")) .nil)) (.cons (.dsp []) (.cons (.dsp [("a", (.int 1))]) (.cons (.tup (.cons (.tup (.cons (.k (.str "a")) .nil)) .nil)) (.cons (.lst (.cons (.lst (.cons (.lst (.cons (.lst (.cons (.k (.str "a")) .nil)) .nil)) .nil)) .nil)) (.cons (.bin .Pow (.k (.int 10)) (.k (.int 39))) (.cons (.k (.str "#x")) .nil)))))))))))))))),
    .for_ (.v 3) (.rng1 (.k (.int 3))) [
      .for_ (.v 5) (.seq (.call "_law_names" (.lend 1 (.cons (.k (.int 7)) .nil)) .nil [] [.inl 0, .inl 1])) [
        .set 2 (.bin .Add (.pl (.v 2)) (.lst (.cons (.pl (.v 5)) (.cons (.call "_law_near" (.lend 1 (.cons (.pl (.v 5)) .nil)) .nil [] [.inl 0, .inl 1]) (.cons (.call "_law_near" (.lend 1 (.cons (.pl (.v 5)) .nil)) .nil [] [.inl 0, .inl 1]) .nil)))))]],
    .for_ (.v 4) (.seq (.pl (.v 2))) [
      .set 6 (.bi .repr (.cons (.pl (.v 4)) .nil)),
      .set 7 (.call "_law_is_name" (.cons (.pl (.v 4)) .nil) .nil [] [.inl 0]),
      .ifs (.or (.cmp .NotEq (.bi .repr (.cons (.lst (.cons (.call "is_name" (.cons (.pl (.v 4)) .nil) .nil [] [.inl 0]) (.cons (.call "is_name" .nil (.cons (.pl (.v 4)) .nil) ["thing"] [.inl 0]) .nil))) .nil)) (.bi .repr (.cons (.lst (.cons (.pl (.v 7)) (.cons (.pl (.v 7)) .nil))) .nil))) (.cmp .NotEq (.bi .repr (.cons (.pl (.v 4)) .nil)) (.pl (.v 6)))) [
        .ret (.k (.bl false))] []],
    .ret (.k (.bl true))]⟩
def tab (f : Str) : Option Fd :=
  if f = "is_name" then some d_is_name else
  if f = "_law_deck" then some d__law_deck else
  if f = "_law_draw" then some d__law_draw else
  if f = "_law_pick" then some d__law_pick else
  if f = "_law_names" then some d__law_names else
  if f = "_law_kept" then some d__law_kept else
  if f = "_law_is_name" then some d__law_is_name else
  if f = "_law_near" then some d__law_near else
  if f = "law" then some d_law else
  none
def ioOf (f : Str) : List Nat :=
  if f = "_law_draw" then [0] else
  if f = "_law_pick" then [0] else
  if f = "_law_names" then [0] else
  if f = "_law_near" then [0] else
  []
def gval (x : Str) : Option D :=
  if x = "LONGEST" then some (.int 8) else
  if x = "LETTERS" then some (.str "abcdefghijklmnopqrstuvwxyz") else
  if x = "KEPT" then some (.tup [(.str "and"), (.str "below"), (.str "choice"), (.str "copy"), (.str "froze"), (.str "if"), (.str "in"), (.str "left"), (.str "less"), (.str "not"), (.str "or"), (.str "out"), (.str "quot"), (.str "rest"), (.str "right"), (.str "rule"), (.str "same"), (.str "sum"), (.str "times"), (.str "to"), (.str "twice"), (.str "under"), (.str "unlike"), (.str "width"), (.str "xor")]) else
  none
def gv : Gv := ⟨gval, fun _ => false, ioOf, 1000000, fun _ => none, []⟩
def h0 : Pw.Shape := ⟨"_law_draw", 2, [], [.inl 0, .inl 1]⟩
def h1 : Pw.Shape := ⟨"_law_kept", 0, [], []⟩
def h2 : Pw.Shape := ⟨"_law_pick", 2, [], [.inl 0, .inl 1]⟩
def h3 : Pw.Shape := ⟨"_law_deck", 1, [], [.inl 0]⟩
def h4 : Pw.Shape := ⟨"_law_names", 2, [], [.inl 0, .inl 1]⟩
def h5 : Pw.Shape := ⟨"_law_near", 2, [], [.inl 0, .inl 1]⟩
def h6 : Pw.Shape := ⟨"_law_is_name", 1, [], [.inl 0]⟩
def h7 : Pw.Shape := ⟨"is_name", 1, [], [.inl 0]⟩
def h8 : Pw.Shape := ⟨"is_name", 0, ["thing"], [.inl 0]⟩
def tb : Tb := ⟨["LONGEST", "LETTERS", "KEPT"], ["isinstance", "str", "len", "all", "list", "sum", "range", "repr"], [h0, h1, h2, h3, h4, h5, h6, h7, h8]⟩
abbrev t_is_name : Stmt := PySem.Challenge.pw_poisonrules_k01_what_are_names.main.body.getD 4 (.Pass ⟨0, 0, 0, 0⟩)
theorem sc_is_name : FnScope ["thing", "sign"] ["thing"] (defScope t_is_name) := ⟨rfl, rfl, rfl, by decide +kernel, rfl, by decide +kernel, by decide +kernel⟩
theorem ch_is_name : chkSs tb ⟨["thing", "sign"], defScope t_is_name, fun _ => true⟩ d_is_name.io d_is_name.body (defBody t_is_name) = true := by decide +kernel
abbrev t__law_deck : Stmt := PySem.Challenge.pw_poisonrules_k01_what_are_names.main.body.getD 6 (.Pass ⟨0, 0, 0, 0⟩)
theorem sc__law_deck : FnScope ["_law_script", "_law_cells", "_law_cell"] ["_law_script"] (defScope t__law_deck) := ⟨rfl, rfl, rfl, by decide +kernel, rfl, by decide +kernel, by decide +kernel⟩
theorem ch__law_deck : chkSs tb ⟨["_law_script", "_law_cells", "_law_cell"], defScope t__law_deck, fun _ => true⟩ d__law_deck.io d__law_deck.body (defBody t__law_deck) = true := by decide +kernel
abbrev t__law_draw : Stmt := PySem.Challenge.pw_poisonrules_k01_what_are_names.main.body.getD 7 (.Pass ⟨0, 0, 0, 0⟩)
theorem sc__law_draw : FnScope ["_law_deck_here", "_law_many", "_law_cell", "_law_mixed"] ["_law_deck_here", "_law_many"] (defScope t__law_draw) := ⟨rfl, rfl, rfl, by decide +kernel, rfl, by decide +kernel, by decide +kernel⟩
theorem ch__law_draw : chkSs tb ⟨["_law_deck_here", "_law_many", "_law_cell", "_law_mixed"], defScope t__law_draw, fun _ => true⟩ d__law_draw.io d__law_draw.body (defBody t__law_draw) = true := by decide +kernel
abbrev t__law_pick : Stmt := PySem.Challenge.pw_poisonrules_k01_what_are_names.main.body.getD 8 (.Pass ⟨0, 0, 0, 0⟩)
theorem sc__law_pick : FnScope ["_law_deck_here", "_law_some"] ["_law_deck_here", "_law_some"] (defScope t__law_pick) := ⟨rfl, rfl, rfl, by decide +kernel, rfl, by decide +kernel, by decide +kernel⟩
theorem ch__law_pick : chkSs tb ⟨["_law_deck_here", "_law_some"], defScope t__law_pick, fun _ => true⟩ d__law_pick.io d__law_pick.body (defBody t__law_pick) = true := by decide +kernel
abbrev t__law_names : Stmt := PySem.Challenge.pw_poisonrules_k01_what_are_names.main.body.getD 9 (.Pass ⟨0, 0, 0, 0⟩)
theorem sc__law_names : FnScope ["_law_deck_here", "_law_many", "_law_kept_here", "_law_letters", "_law_word", "_law_at", "_law_found", "_law_k", "_law_some", "_law_good", "_law_name", "_law_way", "_law_first", "_law_sign"] ["_law_deck_here", "_law_many"] (defScope t__law_names) := ⟨rfl, rfl, rfl, by decide +kernel, rfl, by decide +kernel, by decide +kernel⟩
theorem ch__law_names : chkSs tb ⟨["_law_deck_here", "_law_many", "_law_kept_here", "_law_letters", "_law_word", "_law_at", "_law_found", "_law_k", "_law_some", "_law_good", "_law_name", "_law_way", "_law_first", "_law_sign"], defScope t__law_names, fun _ => true⟩ d__law_names.io d__law_names.body (defBody t__law_names) = true := by decide +kernel
abbrev t__law_kept : Stmt := PySem.Challenge.pw_poisonrules_k01_what_are_names.main.body.getD 10 (.Pass ⟨0, 0, 0, 0⟩)
theorem sc__law_kept : FnScope ["_law_some"] [] (defScope t__law_kept) := ⟨rfl, rfl, rfl, by decide +kernel, rfl, by decide +kernel, by decide +kernel⟩
theorem ch__law_kept : chkSs tb ⟨["_law_some"], defScope t__law_kept, fun _ => true⟩ d__law_kept.io d__law_kept.body (defBody t__law_kept) = true := by decide +kernel
abbrev t__law_is_name : Stmt := PySem.Challenge.pw_poisonrules_k01_what_are_names.main.body.getD 11 (.Pass ⟨0, 0, 0, 0⟩)
theorem sc__law_is_name : FnScope ["_law_it", "_law_sign"] ["_law_it"] (defScope t__law_is_name) := ⟨rfl, rfl, rfl, by decide +kernel, rfl, by decide +kernel, by decide +kernel⟩
theorem ch__law_is_name : chkSs tb ⟨["_law_it", "_law_sign"], defScope t__law_is_name, fun _ => true⟩ d__law_is_name.io d__law_is_name.body (defBody t__law_is_name) = true := by decide +kernel
abbrev t__law_near : Stmt := PySem.Challenge.pw_poisonrules_k01_what_are_names.main.body.getD 12 (.Pass ⟨0, 0, 0, 0⟩)
theorem sc__law_near : FnScope ["_law_deck_here", "_law_word", "_law_way", "_law_at", "_law_sign", "_law_some"] ["_law_deck_here", "_law_word"] (defScope t__law_near) := ⟨rfl, rfl, rfl, by decide +kernel, rfl, by decide +kernel, by decide +kernel⟩
theorem ch__law_near : chkSs tb ⟨["_law_deck_here", "_law_word", "_law_way", "_law_at", "_law_sign", "_law_some"], defScope t__law_near, fun _ => true⟩ d__law_near.io d__law_near.body (defBody t__law_near) = true := by decide +kernel
abbrev t_law : Stmt := PySem.Challenge.pw_poisonrules_k01_what_are_names.main.body.getD 13 (.Pass ⟨0, 0, 0, 0⟩)
theorem sc_law : FnScope ["_law_script", "_law_deck_here", "_law_some", "_law_turn", "_law_it", "_law_word", "_law_kept_here", "_law_due"] ["_law_script"] (defScope t_law) := ⟨rfl, rfl, rfl, by decide +kernel, rfl, by decide +kernel, by decide +kernel⟩
theorem ch_law : chkSs tb ⟨["_law_script", "_law_deck_here", "_law_some", "_law_turn", "_law_it", "_law_word", "_law_kept_here", "_law_due"], defScope t_law, fun _ => true⟩ d_law.io d_law.body (defBody t_law) = true := by decide +kernel
theorem tab_is_name : tab "is_name" = some d_is_name := by unfold tab; rw [if_pos rfl]
theorem tab__law_deck : tab "_law_deck" = some d__law_deck := by unfold tab; rw [if_neg (by decide +kernel)]; rw [if_pos rfl]
theorem tab__law_draw : tab "_law_draw" = some d__law_draw := by unfold tab; rw [if_neg (by decide +kernel)]; rw [if_neg (by decide +kernel)]; rw [if_pos rfl]
theorem tab__law_pick : tab "_law_pick" = some d__law_pick := by unfold tab; rw [if_neg (by decide +kernel)]; rw [if_neg (by decide +kernel)]; rw [if_neg (by decide +kernel)]; rw [if_pos rfl]
theorem tab__law_names : tab "_law_names" = some d__law_names := by unfold tab; rw [if_neg (by decide +kernel)]; rw [if_neg (by decide +kernel)]; rw [if_neg (by decide +kernel)]; rw [if_neg (by decide +kernel)]; rw [if_pos rfl]
theorem tab__law_kept : tab "_law_kept" = some d__law_kept := by unfold tab; rw [if_neg (by decide +kernel)]; rw [if_neg (by decide +kernel)]; rw [if_neg (by decide +kernel)]; rw [if_neg (by decide +kernel)]; rw [if_neg (by decide +kernel)]; rw [if_pos rfl]
theorem tab__law_is_name : tab "_law_is_name" = some d__law_is_name := by unfold tab; rw [if_neg (by decide +kernel)]; rw [if_neg (by decide +kernel)]; rw [if_neg (by decide +kernel)]; rw [if_neg (by decide +kernel)]; rw [if_neg (by decide +kernel)]; rw [if_neg (by decide +kernel)]; rw [if_pos rfl]
theorem tab__law_near : tab "_law_near" = some d__law_near := by unfold tab; rw [if_neg (by decide +kernel)]; rw [if_neg (by decide +kernel)]; rw [if_neg (by decide +kernel)]; rw [if_neg (by decide +kernel)]; rw [if_neg (by decide +kernel)]; rw [if_neg (by decide +kernel)]; rw [if_neg (by decide +kernel)]; rw [if_pos rfl]
theorem tab_law : tab "law" = some d_law := by unfold tab; rw [if_neg (by decide +kernel)]; rw [if_neg (by decide +kernel)]; rw [if_neg (by decide +kernel)]; rw [if_neg (by decide +kernel)]; rw [if_neg (by decide +kernel)]; rw [if_neg (by decide +kernel)]; rw [if_neg (by decide +kernel)]; rw [if_neg (by decide +kernel)]; rw [if_pos rfl]
theorem io_is_name : gv.io "is_name" = [] := by decide +kernel
theorem io__law_deck : gv.io "_law_deck" = [] := by decide +kernel
theorem io__law_draw : gv.io "_law_draw" = [0] := by decide +kernel
theorem io__law_pick : gv.io "_law_pick" = [0] := by decide +kernel
theorem io__law_names : gv.io "_law_names" = [0] := by decide +kernel
theorem io__law_kept : gv.io "_law_kept" = [] := by decide +kernel
theorem io__law_is_name : gv.io "_law_is_name" = [] := by decide +kernel
theorem io__law_near : gv.io "_law_near" = [0] := by decide +kernel
theorem io_law : gv.io "law" = [] := by decide +kernel
theorem gv_LONGEST : gv.gv "LONGEST" = some (.int 8) := by show gval "LONGEST" = _; unfold gval; rw [if_pos rfl]
theorem gv_LETTERS : gv.gv "LETTERS" = some (.str "abcdefghijklmnopqrstuvwxyz") := by show gval "LETTERS" = _; unfold gval; rw [if_neg (by decide +kernel)]; rw [if_pos rfl]
theorem gv_KEPT : gv.gv "KEPT" = some (.tup [(.str "and"), (.str "below"), (.str "choice"), (.str "copy"), (.str "froze"), (.str "if"), (.str "in"), (.str "left"), (.str "less"), (.str "not"), (.str "or"), (.str "out"), (.str "quot"), (.str "rest"), (.str "right"), (.str "rule"), (.str "same"), (.str "sum"), (.str "times"), (.str "to"), (.str "twice"), (.str "under"), (.str "unlike"), (.str "width"), (.str "xor")]) := by show gval "KEPT" = _; unfold gval; rw [if_neg (by decide +kernel)]; rw [if_neg (by decide +kernel)]; rw [if_pos rfl]
theorem top_mk {l : PySem.W.OpenLaw} {w : World} {K : PySem.W.Frag} {h : Heap} {mg : Str → Option Value} {fa f0 f1 f2 f3 f4 f5 f6 f7 f8 : Addr} (X : K.In h) (G : h.Ns mainGlobals mg) (hfa : mg "law" = some (.ref fa))
    {od0 an0 od1 an1 od2 an2 od3 an3 od4 an4 od5 an5 od6 an6 od7 an7 od8 an8 : Option Addr} {sl0 sl1 sl2 sl3 sl4 sl5 sl6 sl7 sl8 : Array (Option Value)} {oc0 dc0 pm0 cd0 ct0 kV0 oc1 dc1 pm1 cd1 ct1 kV1 oc2 dc2 pm2 cd2 ct2 kV2 oc3 dc3 pm3 cd3 ct3 kV3 oc4 dc4 pm4 cd4 ct4 kV4 oc5 dc5 pm5 cd5 ct5 kV5 oc6 dc6 pm6 cd6 ct6 kV6 oc7 dc7 pm7 cd7 ct7 kV7 oc8 dc8 pm8 cd8 ct8 kV8 : Value}
    (a0 : PySem.W.nsIn K mainGlobals "is_name" = some (some (.ref f0))) (l0 : K.lookup f0 = some ⟨oc0, od0, .func (PySem.W.fnOf "is_name" "is_name" (defArgs t_is_name) (defBody t_is_name) (defScope t_is_name) .none kV0 dc0 pm0 an0 cd0 ct0), sl0⟩) (c0 : PySem.W.codeIn K cd0 "is_name" = true) (k0 : PySem.W.keepIn K (.ref f0) = true)
    (a1 : PySem.W.nsIn K mainGlobals "_law_deck" = some (some (.ref f1))) (l1 : K.lookup f1 = some ⟨oc1, od1, .func (PySem.W.fnOf "_law_deck" "_law_deck" (defArgs t__law_deck) (defBody t__law_deck) (defScope t__law_deck) .none kV1 dc1 pm1 an1 cd1 ct1), sl1⟩) (c1 : PySem.W.codeIn K cd1 "_law_deck" = true) (k1 : PySem.W.keepIn K (.ref f1) = true)
    (a2 : PySem.W.nsIn K mainGlobals "_law_draw" = some (some (.ref f2))) (l2 : K.lookup f2 = some ⟨oc2, od2, .func (PySem.W.fnOf "_law_draw" "_law_draw" (defArgs t__law_draw) (defBody t__law_draw) (defScope t__law_draw) .none kV2 dc2 pm2 an2 cd2 ct2), sl2⟩) (c2 : PySem.W.codeIn K cd2 "_law_draw" = true) (k2 : PySem.W.keepIn K (.ref f2) = true)
    (a3 : PySem.W.nsIn K mainGlobals "_law_pick" = some (some (.ref f3))) (l3 : K.lookup f3 = some ⟨oc3, od3, .func (PySem.W.fnOf "_law_pick" "_law_pick" (defArgs t__law_pick) (defBody t__law_pick) (defScope t__law_pick) .none kV3 dc3 pm3 an3 cd3 ct3), sl3⟩) (c3 : PySem.W.codeIn K cd3 "_law_pick" = true) (k3 : PySem.W.keepIn K (.ref f3) = true)
    (a4 : PySem.W.nsIn K mainGlobals "_law_names" = some (some (.ref f4))) (l4 : K.lookup f4 = some ⟨oc4, od4, .func (PySem.W.fnOf "_law_names" "_law_names" (defArgs t__law_names) (defBody t__law_names) (defScope t__law_names) .none kV4 dc4 pm4 an4 cd4 ct4), sl4⟩) (c4 : PySem.W.codeIn K cd4 "_law_names" = true) (k4 : PySem.W.keepIn K (.ref f4) = true)
    (a5 : PySem.W.nsIn K mainGlobals "_law_kept" = some (some (.ref f5))) (l5 : K.lookup f5 = some ⟨oc5, od5, .func (PySem.W.fnOf "_law_kept" "_law_kept" (defArgs t__law_kept) (defBody t__law_kept) (defScope t__law_kept) .none kV5 dc5 pm5 an5 cd5 ct5), sl5⟩) (c5 : PySem.W.codeIn K cd5 "_law_kept" = true) (k5 : PySem.W.keepIn K (.ref f5) = true)
    (a6 : PySem.W.nsIn K mainGlobals "_law_is_name" = some (some (.ref f6))) (l6 : K.lookup f6 = some ⟨oc6, od6, .func (PySem.W.fnOf "_law_is_name" "_law_is_name" (defArgs t__law_is_name) (defBody t__law_is_name) (defScope t__law_is_name) .none kV6 dc6 pm6 an6 cd6 ct6), sl6⟩) (c6 : PySem.W.codeIn K cd6 "_law_is_name" = true) (k6 : PySem.W.keepIn K (.ref f6) = true)
    (a7 : PySem.W.nsIn K mainGlobals "_law_near" = some (some (.ref f7))) (l7 : K.lookup f7 = some ⟨oc7, od7, .func (PySem.W.fnOf "_law_near" "_law_near" (defArgs t__law_near) (defBody t__law_near) (defScope t__law_near) .none kV7 dc7 pm7 an7 cd7 ct7), sl7⟩) (c7 : PySem.W.codeIn K cd7 "_law_near" = true) (k7 : PySem.W.keepIn K (.ref f7) = true)
    (a8 : PySem.W.nsIn K mainGlobals "law" = some (some (.ref f8))) (l8 : K.lookup f8 = some ⟨oc8, od8, .func (PySem.W.fnOf "law" "law" (defArgs t_law) (defBody t_law) (defScope t_law) .none kV8 dc8 pm8 an8 cd8 ct8), sl8⟩) (c8 : PySem.W.codeIn K cd8 "law" = true) (k8 : PySem.W.keepIn K (.ref f8) = true)
    {g_LONGEST : Value} (e_LONGEST : PySem.W.nsIn K mainGlobals "LONGEST" = some (some g_LONGEST)) (v_LONGEST : RelV (vOf (.int 8)) g_LONGEST)
    {g_LETTERS : Value} (e_LETTERS : PySem.W.nsIn K mainGlobals "LETTERS" = some (some g_LETTERS)) (v_LETTERS : RelV (vOf (.str "abcdefghijklmnopqrstuvwxyz")) g_LETTERS)
    {g_KEPT : Addr} {oc_KEPT : Value} {od_KEPT : Option Addr} {sl_KEPT : Array (Option Value)} {its_KEPT : Array Value} {n_KEPT : Nat} (e_KEPT : PySem.W.nsIn K mainGlobals "KEPT" = some (some (.ref g_KEPT))) (l_KEPT : K.lookup g_KEPT = some ⟨oc_KEPT, od_KEPT, .seq its_KEPT n_KEPT, sl_KEPT⟩) (cl_KEPT : oc_KEPT = .type "tuple") (s_KEPT : its_KEPT.size ≤ sizeLine) (v_KEPT : Vals ([(.str "and"), (.str "below"), (.str "choice"), (.str "copy"), (.str "froze"), (.str "if"), (.str "in"), (.str "left"), (.str "less"), (.str "not"), (.str "or"), (.str "out"), (.str "quot"), (.str "rest"), (.str "right"), (.str "rule"), (.str "same"), (.str "sum"), (.str "times"), (.str "to"), (.str "twice"), (.str "under"), (.str "unlike"), (.str "width"), (.str "xor")].map vOf) its_KEPT.toList)
    (z0 : PySem.W.nsIn K mainGlobals "isinstance" = some none)
    (z1 : PySem.W.nsIn K mainGlobals "str" = some none)
    (z2 : PySem.W.nsIn K mainGlobals "len" = some none)
    (z3 : PySem.W.nsIn K mainGlobals "all" = some none)
    (z4 : PySem.W.nsIn K mainGlobals "list" = some none)
    (z5 : PySem.W.nsIn K mainGlobals "sum" = some none)
    (z6 : PySem.W.nsIn K mainGlobals "range" = some none)
    (z7 : PySem.W.nsIn K mainGlobals "repr" = some none)
    {n : Nat} : ∃ (fd : FuncData) (G : Wd), G.K = K ∧ (∀ (s : Shared) (u : Value), BindsTo s fd ⟨[u], []⟩ [("_law_script", u)]) ∧ ∀ base : Heap, K.In base → base.Ns mainGlobals mg → FnG l.prog w K mg base n fa fd ["_law_script"] (spF G (run tab gv n) "law" 1 []) := by
  have efa : fa = f8 := Value.ref.inj (Option.some.inj (hfa.symm.trans (PySem.W.mg_of X G a8)))
  rw [efa]
  have D0 : DefOk K tb tab "is_name" f0 ["thing"] _ d_is_name := def_mk tab_is_name l0 c0 sc_is_name rfl rfl (by decide) (by decide) ch_is_name
  have D1 : DefOk K tb tab "_law_deck" f1 ["_law_script"] _ d__law_deck := def_mk tab__law_deck l1 c1 sc__law_deck rfl rfl (by decide) (by decide) ch__law_deck
  have D2 : DefOk K tb tab "_law_draw" f2 ["_law_deck_here", "_law_many"] _ d__law_draw := def_mk tab__law_draw l2 c2 sc__law_draw rfl rfl (by decide) (by decide) ch__law_draw
  have D3 : DefOk K tb tab "_law_pick" f3 ["_law_deck_here", "_law_some"] _ d__law_pick := def_mk tab__law_pick l3 c3 sc__law_pick rfl rfl (by decide) (by decide) ch__law_pick
  have D4 : DefOk K tb tab "_law_names" f4 ["_law_deck_here", "_law_many"] _ d__law_names := def_mk tab__law_names l4 c4 sc__law_names rfl rfl (by decide) (by decide) ch__law_names
  have D5 : DefOk K tb tab "_law_kept" f5 [] _ d__law_kept := def_mk tab__law_kept l5 c5 sc__law_kept rfl rfl (by decide) (by decide) ch__law_kept
  have D6 : DefOk K tb tab "_law_is_name" f6 ["_law_it"] _ d__law_is_name := def_mk tab__law_is_name l6 c6 sc__law_is_name rfl rfl (by decide) (by decide) ch__law_is_name
  have D7 : DefOk K tb tab "_law_near" f7 ["_law_deck_here", "_law_word"] _ d__law_near := def_mk tab__law_near l7 c7 sc__law_near rfl rfl (by decide) (by decide) ch__law_near
  have D8 : DefOk K tb tab "law" f8 ["_law_script"] _ d_law := def_mk tab_law l8 c8 sc_law rfl rfl (by decide) (by decide) ch_law
  have M : ModOk K mg ⟨K, fun _ => none, fun _ => none⟩ tb tab gv := by
    refine ⟨rfl, ?_, ?_, ?_⟩
    · intro x hx
      simp only [tb, List.mem_cons, List.not_mem_nil, or_false] at hx
      rcases hx with rfl | rfl | rfl | rfl | rfl | rfl | rfl | rfl
      · exact PySem.W.mg_none_of X G z0
      · exact PySem.W.mg_none_of X G z1
      · exact PySem.W.mg_none_of X G z2
      · exact PySem.W.mg_none_of X G z3
      · exact PySem.W.mg_none_of X G z4
      · exact PySem.W.mg_none_of X G z5
      · exact PySem.W.mg_none_of X G z6
      · exact PySem.W.mg_none_of X G z7
    · intro x hx
      simp only [tb, List.mem_cons, List.not_mem_nil, or_false] at hx
      rcases hx with rfl | rfl | rfl
      · exact ⟨_, _, _, gv_LONGEST, PySem.W.mg_of X G e_LONGEST, v_LONGEST, rp_vOf rfl⟩
      · exact ⟨_, _, _, gv_LETTERS, PySem.W.mg_of X G e_LETTERS, v_LETTERS, rp_vOf rfl⟩
      · exact ⟨_, .ref g_KEPT, .ref g_KEPT, gv_KEPT, PySem.W.mg_of X G e_KEPT, rfl, rp_tupW l_KEPT cl_KEPT s_KEPT v_KEPT rfl⟩
    · intro s hs
      simp only [tb, List.mem_cons, List.not_mem_nil, or_false] at hs
      rcases hs with rfl | rfl | rfl | rfl | rfl | rfl | rfl | rfl | rfl
      · exact sh_all D2 (by decide +kernel) (PySem.W.mg_of X G a2) k2 (by decide) rfl rfl fun us ws h1 h2 => match us, ws, h1, h2 with | [_, _], [], _, _ => rfl
      · exact sh_all D5 (by decide +kernel) (PySem.W.mg_of X G a5) k5 (by decide) rfl rfl fun us ws h1 h2 => match us, ws, h1, h2 with | [], [], _, _ => rfl
      · exact sh_all D3 (by decide +kernel) (PySem.W.mg_of X G a3) k3 (by decide) rfl rfl fun us ws h1 h2 => match us, ws, h1, h2 with | [_, _], [], _, _ => rfl
      · exact sh_all D1 (by decide +kernel) (PySem.W.mg_of X G a1) k1 (by decide) rfl rfl fun us ws h1 h2 => match us, ws, h1, h2 with | [_], [], _, _ => rfl
      · exact sh_all D4 (by decide +kernel) (PySem.W.mg_of X G a4) k4 (by decide) rfl rfl fun us ws h1 h2 => match us, ws, h1, h2 with | [_, _], [], _, _ => rfl
      · exact sh_all D7 (by decide +kernel) (PySem.W.mg_of X G a7) k7 (by decide) rfl rfl fun us ws h1 h2 => match us, ws, h1, h2 with | [_, _], [], _, _ => rfl
      · exact sh_all D6 (by decide +kernel) (PySem.W.mg_of X G a6) k6 (by decide) rfl rfl fun us ws h1 h2 => match us, ws, h1, h2 with | [_], [], _, _ => rfl
      · exact sh_all D0 (by decide +kernel) (PySem.W.mg_of X G a0) k0 (by decide) rfl rfl fun us ws h1 h2 => match us, ws, h1, h2 with | [_], [], _, _ => rfl
      · exact sh_all D0 (by decide +kernel) (PySem.W.mg_of X G a0) k0 (by decide) rfl rfl fun us ws h1 h2 => match us, ws, h1, h2 with | [], [_], _, _ => rfl
  exact ⟨_, _, rfl, fun s u => .of_eq rfl, fun base _ _ => mod_ok M D8 n⟩
end Pk01

namespace Pk01
open PySem Pw
def ab (s : Str) : Bool := (sL s).all fun c => decide (c ∈ L26)
def nm (s : Str) : Bool := decide (1 ≤ (sL s).length) && (decide ((sL s).length ≤ 8) && (ab s && !decide (s ∈ keptB)))
theorem isi_s (s : Str) : isiD (.str s) "str" = some true := by
  show (if isiTs.contains "str" = true then (some "str").bind fun u => L2.kitB u "str" else none) = some true
  decide +kernel
theorem bools_map {α : Type} (g : α → Bool) : ∀ xs : List α, boolsD (xs.map fun x => D.bl (g x)) = some (xs.map g)
  | [] => rfl
  | x :: r => by
    show (boolsD (r.map fun x => D.bl (g x))).map (g x :: ·) = _
    rw [bools_map g r]; rfl
theorem is_name_no (k : Nat) (d : D) (h : isiD d "str" = some false) : run tab gv (k + 1) "is_name" [.d d] = some (.d (.bl false), []) := by
  refine Wc.eq ?_
  rw [wc_run tab_is_name rfl]
  simp -implicitDefEqProofs only [w_k, w_sset, k_sset, k_sset', w_cmpQ, k_cmpQ, w_bm, k_bm, k_bm2, w_dsp, w_dgetd, k_dg, w_zip, k_zip, k_zip2, c_in, c_nin, c_isb, c_isnb, w_pl, w_mv, w_gl, w_bin, k_bin, k_bin2, w_neg, k_neg, w_tv, k_tv, k_tru, w_and, k_and, w_or, k_or, w_ife, k_ife, w_tup, k_tup, w_lst, k_lst, w_ix, k_ix, k_ix2, w_ixP, k_ixP, w_lenP, w_sl, k_sl, k_sl2, k_sl3, wo_eo_none, wo_eo_some, k_eo, w_rev, k_rev, k_back, w_callM, w_call, k_call, k_call2, w_bi, k_bi, w_isi, k_isi, w_lc, k_lc, k_lcb, w_nil, w_cons, k_cons, k_cons2, w_lend, w_wn, w_ws, w_seq, k_seq, w_rng1, k_rng1, w_rng2, k_rng2, k_rng22, w_val, k_val, w_not, k_not, w_andB, k_andB, w_orB, k_orB, w_cmp, k_cmp, k_cmp2, w_cmpP, k_cmpP, w_ch, k_ch, k_ch2, k_ch3, w_set, k_set, w_setT, k_setT, w_setI, k_setI, k_setI2, w_app, k_app, k_app2, w_ex, k_ex, w_ret, k_rt, w_retN, w_ifs, k_ifs, w_for, k_for, w_while, w_pass, w_brk, w_cont, k_nx, k_mrt, k_mbk, k_mct, w_snil, w_scons, w_fturn, w_turn, k_turn, k_turn2, k_lnx, k_lct, k_lbk, k_lrt, k_wnx, k_wct, k_wbk, k_wrt, k_wc, k_lts, k_ltn, k_drt, k_dnx, t_nil, t_inl, t_inr, b_nil, b_inl, b_inr, l_nil, l_inl, l_inr, fa_nil, fa_inl, fa_inr, z_inl, z_inr, bt_v, bt_tup, bs_nil, bs_cons, g_v, g_at, s_v, ou_nil, ou_cons, wi_nil, wi_cons, ba_nil, ba_cons, pa_nil', pa_cons', po_none', po_some', it_lst, it_tup, fl_fl, ix_i, ixd_l, ixd_t, lo_nil, lo_d, wo_some, wo_none, wo_bind, wo_map, w_some, wo_ite, f_d, f_fl, fs_nil, fs_cons, a_nil, a_cons, o_add, o_sub, c_eq, c_ne, c_lt, c_le, c_gt, c_ge, q_int, q_bl, q_str, u_non, u_bl, u_int, u_tup, u_lst, big_eq, List.getElem?_cons_zero, List.getElem?_cons_succ, Option.join_some, Option.join_none, List.set_cons_zero, List.set_cons_succ, List.length_cons, List.length_nil, Nat.reduceAdd, Nat.reduceLT, Nat.reduceLeDiff, Nat.reduceSub, Nat.zero_le, Option.isSome_some, true_and, and_true, if_true, if_false, Bool.false_eq_true, Option.map_some, Option.map_none, Option.bind_some, List.map_cons, List.map_nil, List.cons_append, List.nil_append, List.append_nil, Bool.not_true, Bool.not_false, Bool.and_true, Bool.true_and, Bool.and_self, beq_self_eq_true, List.getElem?_nil, List.reduceReplicate, d_is_name, Pw.start, h]
theorem is_name_str (k : Nat) (s : Str) (h : Sok 1000 s) : run tab gv (k + 1) "is_name" [.d (.str s)] = some (.d (.bl (nm s)), []) := by
  refine Wc.eq ?_
  rw [wc_run tab_is_name rfl]
  have hl := h.len (by omega)
  by_cases h1 : (1 : Int) ≤ (sL s).length
  · by_cases h2 : ((sL s).length : Int) ≤ 8
    · simp -implicitDefEqProofs only [w_k, w_sset, k_sset, k_sset', w_cmpQ, k_cmpQ, w_bm, k_bm, k_bm2, w_dsp, w_dgetd, k_dg, w_zip, k_zip, k_zip2, c_in, c_nin, c_isb, c_isnb, w_pl, w_mv, w_gl, w_bin, k_bin, k_bin2, w_neg, k_neg, w_tv, k_tv, k_tru, w_and, k_and, w_or, k_or, w_ife, k_ife, w_tup, k_tup, w_lst, k_lst, w_ix, k_ix, k_ix2, w_ixP, k_ixP, w_lenP, w_sl, k_sl, k_sl2, k_sl3, wo_eo_none, wo_eo_some, k_eo, w_rev, k_rev, k_back, w_callM, w_call, k_call, k_call2, w_bi, k_bi, w_isi, k_isi, w_lc, k_lc, k_lcb, w_nil, w_cons, k_cons, k_cons2, w_lend, w_wn, w_ws, w_seq, k_seq, w_rng1, k_rng1, w_rng2, k_rng2, k_rng22, w_val, k_val, w_not, k_not, w_andB, k_andB, w_orB, k_orB, w_cmp, k_cmp, k_cmp2, w_cmpP, k_cmpP, w_ch, k_ch, k_ch2, k_ch3, w_set, k_set, w_setT, k_setT, w_setI, k_setI, k_setI2, w_app, k_app, k_app2, w_ex, k_ex, w_ret, k_rt, w_retN, w_ifs, k_ifs, w_for, k_for, w_while, w_pass, w_brk, w_cont, k_nx, k_mrt, k_mbk, k_mct, w_snil, w_scons, w_fturn, w_turn, k_turn, k_turn2, k_lnx, k_lct, k_lbk, k_lrt, k_wnx, k_wct, k_wbk, k_wrt, k_wc, k_lts, k_ltn, k_drt, k_dnx, t_nil, t_inl, t_inr, b_nil, b_inl, b_inr, l_nil, l_inl, l_inr, fa_nil, fa_inl, fa_inr, z_inl, z_inr, bt_v, bt_tup, bs_nil, bs_cons, g_v, g_at, s_v, ou_nil, ou_cons, wi_nil, wi_cons, ba_nil, ba_cons, pa_nil', pa_cons', po_none', po_some', it_lst, it_tup, fl_fl, ix_i, ixd_l, ixd_t, lo_nil, lo_d, wo_some, wo_none, wo_bind, wo_map, w_some, wo_ite, f_d, f_fl, fs_nil, fs_cons, a_nil, a_cons, o_add, o_sub, c_eq, c_ne, c_lt, c_le, c_gt, c_ge, q_int, q_bl, q_str, u_non, u_bl, u_int, u_tup, u_lst, big_eq, List.getElem?_cons_zero, List.getElem?_cons_succ, Option.join_some, Option.join_none, List.set_cons_zero, List.set_cons_succ, List.length_cons, List.length_nil, Nat.reduceAdd, Nat.reduceLT, Nat.reduceLeDiff, Nat.reduceSub, Nat.zero_le, Option.isSome_some, true_and, and_true, if_true, if_false, Bool.false_eq_true, Option.map_some, Option.map_none, Option.bind_some, List.map_cons, List.map_nil, List.cons_append, List.nil_append, List.append_nil, Bool.not_true, Bool.not_false, Bool.and_true, Bool.true_and, Bool.and_self, beq_self_eq_true, List.getElem?_nil, List.reduceReplicate, d_is_name, Pw.start, isi_s, bi_lenS hl, gv_LONGEST, decide_eq_true h1, decide_eq_true h2, it_str hl]
      refine w_mapI (fun ρ => ∃ x, ρ = [some (.d (.str s)), x]) (sL s) (fun c => .str (sg c)) (fun c => .bl (decide (c ∈ L26))) ⟨_, rfl⟩ ?_ ?_
      · rintro c _ hm ⟨x, rfl⟩
        simp -implicitDefEqProofs only [w_k, w_sset, k_sset, k_sset', w_cmpQ, k_cmpQ, w_bm, k_bm, k_bm2, w_dsp, w_dgetd, k_dg, w_zip, k_zip, k_zip2, c_in, c_nin, c_isb, c_isnb, w_pl, w_mv, w_gl, w_bin, k_bin, k_bin2, w_neg, k_neg, w_tv, k_tv, k_tru, w_and, k_and, w_or, k_or, w_ife, k_ife, w_tup, k_tup, w_lst, k_lst, w_ix, k_ix, k_ix2, w_ixP, k_ixP, w_lenP, w_sl, k_sl, k_sl2, k_sl3, wo_eo_none, wo_eo_some, k_eo, w_rev, k_rev, k_back, w_callM, w_call, k_call, k_call2, w_bi, k_bi, w_isi, k_isi, w_lc, k_lc, k_lcb, w_nil, w_cons, k_cons, k_cons2, w_lend, w_wn, w_ws, w_seq, k_seq, w_rng1, k_rng1, w_rng2, k_rng2, k_rng22, w_val, k_val, w_not, k_not, w_andB, k_andB, w_orB, k_orB, w_cmp, k_cmp, k_cmp2, w_cmpP, k_cmpP, w_ch, k_ch, k_ch2, k_ch3, w_set, k_set, w_setT, k_setT, w_setI, k_setI, k_setI2, w_app, k_app, k_app2, w_ex, k_ex, w_ret, k_rt, w_retN, w_ifs, k_ifs, w_for, k_for, w_while, w_pass, w_brk, w_cont, k_nx, k_mrt, k_mbk, k_mct, w_snil, w_scons, w_fturn, w_turn, k_turn, k_turn2, k_lnx, k_lct, k_lbk, k_lrt, k_wnx, k_wct, k_wbk, k_wrt, k_wc, k_lts, k_ltn, k_drt, k_dnx, t_nil, t_inl, t_inr, b_nil, b_inl, b_inr, l_nil, l_inl, l_inr, fa_nil, fa_inl, fa_inr, z_inl, z_inr, bt_v, bt_tup, bs_nil, bs_cons, g_v, g_at, s_v, ou_nil, ou_cons, wi_nil, wi_cons, ba_nil, ba_cons, pa_nil', pa_cons', po_none', po_some', it_lst, it_tup, fl_fl, ix_i, ixd_l, ixd_t, lo_nil, lo_d, wo_some, wo_none, wo_bind, wo_map, w_some, wo_ite, f_d, f_fl, fs_nil, fs_cons, a_nil, a_cons, o_add, o_sub, c_eq, c_ne, c_lt, c_le, c_gt, c_ge, q_int, q_bl, q_str, u_non, u_bl, u_int, u_tup, u_lst, big_eq, List.getElem?_cons_zero, List.getElem?_cons_succ, Option.join_some, Option.join_none, List.set_cons_zero, List.set_cons_succ, List.length_cons, List.length_nil, Nat.reduceAdd, Nat.reduceLT, Nat.reduceLeDiff, Nat.reduceSub, Nat.zero_le, Option.isSome_some, true_and, and_true, if_true, if_false, Bool.false_eq_true, Option.map_some, Option.map_none, Option.bind_some, List.map_cons, List.map_nil, List.cons_append, List.nil_append, List.append_nil, Bool.not_true, Bool.not_false, Bool.and_true, Bool.true_and, Bool.and_self, beq_self_eq_true, List.getElem?_nil, List.reduceReplicate, gv_LETTERS, in_sg, lets]
        exact ⟨_, rfl⟩
      · rintro _ ⟨x, rfl⟩
        have hk := in_strsT h.ok keptB_ok
        have e : nm s = (ab s && !decide (s ∈ keptB)) := by
          unfold nm
          rw [decide_eq_true (show 1 ≤ (sL s).length by omega), decide_eq_true (show (sL s).length ≤ 8 by omega)]
          rfl
        have ea : (List.map (fun c => decide (c ∈ L26)) (sL s)).all id = ab s := by rw [List.all_map]; rfl
        rw [e]
        simp -implicitDefEqProofs only [w_k, w_sset, k_sset, k_sset', w_cmpQ, k_cmpQ, w_bm, k_bm, k_bm2, w_dsp, w_dgetd, k_dg, w_zip, k_zip, k_zip2, c_in, c_nin, c_isb, c_isnb, w_pl, w_mv, w_gl, w_bin, k_bin, k_bin2, w_neg, k_neg, w_tv, k_tv, k_tru, w_and, k_and, w_or, k_or, w_ife, k_ife, w_tup, k_tup, w_lst, k_lst, w_ix, k_ix, k_ix2, w_ixP, k_ixP, w_lenP, w_sl, k_sl, k_sl2, k_sl3, wo_eo_none, wo_eo_some, k_eo, w_rev, k_rev, k_back, w_callM, w_call, k_call, k_call2, w_bi, k_bi, w_isi, k_isi, w_lc, k_lc, k_lcb, w_nil, w_cons, k_cons, k_cons2, w_lend, w_wn, w_ws, w_seq, k_seq, w_rng1, k_rng1, w_rng2, k_rng2, k_rng22, w_val, k_val, w_not, k_not, w_andB, k_andB, w_orB, k_orB, w_cmp, k_cmp, k_cmp2, w_cmpP, k_cmpP, w_ch, k_ch, k_ch2, k_ch3, w_set, k_set, w_setT, k_setT, w_setI, k_setI, k_setI2, w_app, k_app, k_app2, w_ex, k_ex, w_ret, k_rt, w_retN, w_ifs, k_ifs, w_for, k_for, w_while, w_pass, w_brk, w_cont, k_nx, k_mrt, k_mbk, k_mct, w_snil, w_scons, w_fturn, w_turn, k_turn, k_turn2, k_lnx, k_lct, k_lbk, k_lrt, k_wnx, k_wct, k_wbk, k_wrt, k_wc, k_lts, k_ltn, k_drt, k_dnx, t_nil, t_inl, t_inr, b_nil, b_inl, b_inr, l_nil, l_inl, l_inr, fa_nil, fa_inl, fa_inr, z_inl, z_inr, bt_v, bt_tup, bs_nil, bs_cons, g_v, g_at, s_v, ou_nil, ou_cons, wi_nil, wi_cons, ba_nil, ba_cons, pa_nil', pa_cons', po_none', po_some', it_lst, it_tup, fl_fl, ix_i, ixd_l, ixd_t, lo_nil, lo_d, wo_some, wo_none, wo_bind, wo_map, w_some, wo_ite, f_d, f_fl, fs_nil, fs_cons, a_nil, a_cons, o_add, o_sub, c_eq, c_ne, c_lt, c_le, c_gt, c_ge, q_int, q_bl, q_str, u_non, u_bl, u_int, u_tup, u_lst, big_eq, List.getElem?_cons_zero, List.getElem?_cons_succ, Option.join_some, Option.join_none, List.set_cons_zero, List.set_cons_succ, List.length_cons, List.length_nil, Nat.reduceAdd, Nat.reduceLT, Nat.reduceLeDiff, Nat.reduceSub, Nat.zero_le, Option.isSome_some, true_and, and_true, if_true, if_false, Bool.false_eq_true, Option.map_some, Option.map_none, Option.bind_some, List.map_cons, List.map_nil, List.cons_append, List.nil_append, List.append_nil, Bool.not_true, Bool.not_false, Bool.and_true, Bool.true_and, Bool.and_self, beq_self_eq_true, List.getElem?_nil, List.reduceReplicate, biD, bools_map, gv_KEPT, kept_fold, hk, ea]
        cases ab s
        · simp -implicitDefEqProofs only [w_k, w_sset, k_sset, k_sset', w_cmpQ, k_cmpQ, w_bm, k_bm, k_bm2, w_dsp, w_dgetd, k_dg, w_zip, k_zip, k_zip2, c_in, c_nin, c_isb, c_isnb, w_pl, w_mv, w_gl, w_bin, k_bin, k_bin2, w_neg, k_neg, w_tv, k_tv, k_tru, w_and, k_and, w_or, k_or, w_ife, k_ife, w_tup, k_tup, w_lst, k_lst, w_ix, k_ix, k_ix2, w_ixP, k_ixP, w_lenP, w_sl, k_sl, k_sl2, k_sl3, wo_eo_none, wo_eo_some, k_eo, w_rev, k_rev, k_back, w_callM, w_call, k_call, k_call2, w_bi, k_bi, w_isi, k_isi, w_lc, k_lc, k_lcb, w_nil, w_cons, k_cons, k_cons2, w_lend, w_wn, w_ws, w_seq, k_seq, w_rng1, k_rng1, w_rng2, k_rng2, k_rng22, w_val, k_val, w_not, k_not, w_andB, k_andB, w_orB, k_orB, w_cmp, k_cmp, k_cmp2, w_cmpP, k_cmpP, w_ch, k_ch, k_ch2, k_ch3, w_set, k_set, w_setT, k_setT, w_setI, k_setI, k_setI2, w_app, k_app, k_app2, w_ex, k_ex, w_ret, k_rt, w_retN, w_ifs, k_ifs, w_for, k_for, w_while, w_pass, w_brk, w_cont, k_nx, k_mrt, k_mbk, k_mct, w_snil, w_scons, w_fturn, w_turn, k_turn, k_turn2, k_lnx, k_lct, k_lbk, k_lrt, k_wnx, k_wct, k_wbk, k_wrt, k_wc, k_lts, k_ltn, k_drt, k_dnx, t_nil, t_inl, t_inr, b_nil, b_inl, b_inr, l_nil, l_inl, l_inr, fa_nil, fa_inl, fa_inr, z_inl, z_inr, bt_v, bt_tup, bs_nil, bs_cons, g_v, g_at, s_v, ou_nil, ou_cons, wi_nil, wi_cons, ba_nil, ba_cons, pa_nil', pa_cons', po_none', po_some', it_lst, it_tup, fl_fl, ix_i, ixd_l, ixd_t, lo_nil, lo_d, wo_some, wo_none, wo_bind, wo_map, w_some, wo_ite, f_d, f_fl, fs_nil, fs_cons, a_nil, a_cons, o_add, o_sub, c_eq, c_ne, c_lt, c_le, c_gt, c_ge, q_int, q_bl, q_str, u_non, u_bl, u_int, u_tup, u_lst, big_eq, List.getElem?_cons_zero, List.getElem?_cons_succ, Option.join_some, Option.join_none, List.set_cons_zero, List.set_cons_succ, List.length_cons, List.length_nil, Nat.reduceAdd, Nat.reduceLT, Nat.reduceLeDiff, Nat.reduceSub, Nat.zero_le, Option.isSome_some, true_and, and_true, if_true, if_false, Bool.false_eq_true, Option.map_some, Option.map_none, Option.bind_some, List.map_cons, List.map_nil, List.cons_append, List.nil_append, List.append_nil, Bool.not_true, Bool.not_false, Bool.and_true, Bool.true_and, Bool.and_self, beq_self_eq_true, List.getElem?_nil, List.reduceReplicate]
          rfl
        · simp -implicitDefEqProofs only [w_k, w_sset, k_sset, k_sset', w_cmpQ, k_cmpQ, w_bm, k_bm, k_bm2, w_dsp, w_dgetd, k_dg, w_zip, k_zip, k_zip2, c_in, c_nin, c_isb, c_isnb, w_pl, w_mv, w_gl, w_bin, k_bin, k_bin2, w_neg, k_neg, w_tv, k_tv, k_tru, w_and, k_and, w_or, k_or, w_ife, k_ife, w_tup, k_tup, w_lst, k_lst, w_ix, k_ix, k_ix2, w_ixP, k_ixP, w_lenP, w_sl, k_sl, k_sl2, k_sl3, wo_eo_none, wo_eo_some, k_eo, w_rev, k_rev, k_back, w_callM, w_call, k_call, k_call2, w_bi, k_bi, w_isi, k_isi, w_lc, k_lc, k_lcb, w_nil, w_cons, k_cons, k_cons2, w_lend, w_wn, w_ws, w_seq, k_seq, w_rng1, k_rng1, w_rng2, k_rng2, k_rng22, w_val, k_val, w_not, k_not, w_andB, k_andB, w_orB, k_orB, w_cmp, k_cmp, k_cmp2, w_cmpP, k_cmpP, w_ch, k_ch, k_ch2, k_ch3, w_set, k_set, w_setT, k_setT, w_setI, k_setI, k_setI2, w_app, k_app, k_app2, w_ex, k_ex, w_ret, k_rt, w_retN, w_ifs, k_ifs, w_for, k_for, w_while, w_pass, w_brk, w_cont, k_nx, k_mrt, k_mbk, k_mct, w_snil, w_scons, w_fturn, w_turn, k_turn, k_turn2, k_lnx, k_lct, k_lbk, k_lrt, k_wnx, k_wct, k_wbk, k_wrt, k_wc, k_lts, k_ltn, k_drt, k_dnx, t_nil, t_inl, t_inr, b_nil, b_inl, b_inr, l_nil, l_inl, l_inr, fa_nil, fa_inl, fa_inr, z_inl, z_inr, bt_v, bt_tup, bs_nil, bs_cons, g_v, g_at, s_v, ou_nil, ou_cons, wi_nil, wi_cons, ba_nil, ba_cons, pa_nil', pa_cons', po_none', po_some', it_lst, it_tup, fl_fl, ix_i, ixd_l, ixd_t, lo_nil, lo_d, wo_some, wo_none, wo_bind, wo_map, w_some, wo_ite, f_d, f_fl, fs_nil, fs_cons, a_nil, a_cons, o_add, o_sub, c_eq, c_ne, c_lt, c_le, c_gt, c_ge, q_int, q_bl, q_str, u_non, u_bl, u_int, u_tup, u_lst, big_eq, List.getElem?_cons_zero, List.getElem?_cons_succ, Option.join_some, Option.join_none, List.set_cons_zero, List.set_cons_succ, List.length_cons, List.length_nil, Nat.reduceAdd, Nat.reduceLT, Nat.reduceLeDiff, Nat.reduceSub, Nat.zero_le, Option.isSome_some, true_and, and_true, if_true, if_false, Bool.false_eq_true, Option.map_some, Option.map_none, Option.bind_some, List.map_cons, List.map_nil, List.cons_append, List.nil_append, List.append_nil, Bool.not_true, Bool.not_false, Bool.and_true, Bool.true_and, Bool.and_self, beq_self_eq_true, List.getElem?_nil, List.reduceReplicate]
    · have e : nm s = false := by
        unfold nm
        rw [decide_eq_false (show ¬ (sL s).length ≤ 8 by omega)]
        simp
      rw [e]
      simp -implicitDefEqProofs only [w_k, w_sset, k_sset, k_sset', w_cmpQ, k_cmpQ, w_bm, k_bm, k_bm2, w_dsp, w_dgetd, k_dg, w_zip, k_zip, k_zip2, c_in, c_nin, c_isb, c_isnb, w_pl, w_mv, w_gl, w_bin, k_bin, k_bin2, w_neg, k_neg, w_tv, k_tv, k_tru, w_and, k_and, w_or, k_or, w_ife, k_ife, w_tup, k_tup, w_lst, k_lst, w_ix, k_ix, k_ix2, w_ixP, k_ixP, w_lenP, w_sl, k_sl, k_sl2, k_sl3, wo_eo_none, wo_eo_some, k_eo, w_rev, k_rev, k_back, w_callM, w_call, k_call, k_call2, w_bi, k_bi, w_isi, k_isi, w_lc, k_lc, k_lcb, w_nil, w_cons, k_cons, k_cons2, w_lend, w_wn, w_ws, w_seq, k_seq, w_rng1, k_rng1, w_rng2, k_rng2, k_rng22, w_val, k_val, w_not, k_not, w_andB, k_andB, w_orB, k_orB, w_cmp, k_cmp, k_cmp2, w_cmpP, k_cmpP, w_ch, k_ch, k_ch2, k_ch3, w_set, k_set, w_setT, k_setT, w_setI, k_setI, k_setI2, w_app, k_app, k_app2, w_ex, k_ex, w_ret, k_rt, w_retN, w_ifs, k_ifs, w_for, k_for, w_while, w_pass, w_brk, w_cont, k_nx, k_mrt, k_mbk, k_mct, w_snil, w_scons, w_fturn, w_turn, k_turn, k_turn2, k_lnx, k_lct, k_lbk, k_lrt, k_wnx, k_wct, k_wbk, k_wrt, k_wc, k_lts, k_ltn, k_drt, k_dnx, t_nil, t_inl, t_inr, b_nil, b_inl, b_inr, l_nil, l_inl, l_inr, fa_nil, fa_inl, fa_inr, z_inl, z_inr, bt_v, bt_tup, bs_nil, bs_cons, g_v, g_at, s_v, ou_nil, ou_cons, wi_nil, wi_cons, ba_nil, ba_cons, pa_nil', pa_cons', po_none', po_some', it_lst, it_tup, fl_fl, ix_i, ixd_l, ixd_t, lo_nil, lo_d, wo_some, wo_none, wo_bind, wo_map, w_some, wo_ite, f_d, f_fl, fs_nil, fs_cons, a_nil, a_cons, o_add, o_sub, c_eq, c_ne, c_lt, c_le, c_gt, c_ge, q_int, q_bl, q_str, u_non, u_bl, u_int, u_tup, u_lst, big_eq, List.getElem?_cons_zero, List.getElem?_cons_succ, Option.join_some, Option.join_none, List.set_cons_zero, List.set_cons_succ, List.length_cons, List.length_nil, Nat.reduceAdd, Nat.reduceLT, Nat.reduceLeDiff, Nat.reduceSub, Nat.zero_le, Option.isSome_some, true_and, and_true, if_true, if_false, Bool.false_eq_true, Option.map_some, Option.map_none, Option.bind_some, List.map_cons, List.map_nil, List.cons_append, List.nil_append, List.append_nil, Bool.not_true, Bool.not_false, Bool.and_true, Bool.true_and, Bool.and_self, beq_self_eq_true, List.getElem?_nil, List.reduceReplicate, d_is_name, Pw.start, isi_s, bi_lenS hl, gv_LONGEST, decide_eq_true h1, decide_eq_false h2]
  · have e : nm s = false := by
      unfold nm
      rw [decide_eq_false (show ¬ 1 ≤ (sL s).length by omega)]
      rfl
    rw [e]
    simp -implicitDefEqProofs only [w_k, w_sset, k_sset, k_sset', w_cmpQ, k_cmpQ, w_bm, k_bm, k_bm2, w_dsp, w_dgetd, k_dg, w_zip, k_zip, k_zip2, c_in, c_nin, c_isb, c_isnb, w_pl, w_mv, w_gl, w_bin, k_bin, k_bin2, w_neg, k_neg, w_tv, k_tv, k_tru, w_and, k_and, w_or, k_or, w_ife, k_ife, w_tup, k_tup, w_lst, k_lst, w_ix, k_ix, k_ix2, w_ixP, k_ixP, w_lenP, w_sl, k_sl, k_sl2, k_sl3, wo_eo_none, wo_eo_some, k_eo, w_rev, k_rev, k_back, w_callM, w_call, k_call, k_call2, w_bi, k_bi, w_isi, k_isi, w_lc, k_lc, k_lcb, w_nil, w_cons, k_cons, k_cons2, w_lend, w_wn, w_ws, w_seq, k_seq, w_rng1, k_rng1, w_rng2, k_rng2, k_rng22, w_val, k_val, w_not, k_not, w_andB, k_andB, w_orB, k_orB, w_cmp, k_cmp, k_cmp2, w_cmpP, k_cmpP, w_ch, k_ch, k_ch2, k_ch3, w_set, k_set, w_setT, k_setT, w_setI, k_setI, k_setI2, w_app, k_app, k_app2, w_ex, k_ex, w_ret, k_rt, w_retN, w_ifs, k_ifs, w_for, k_for, w_while, w_pass, w_brk, w_cont, k_nx, k_mrt, k_mbk, k_mct, w_snil, w_scons, w_fturn, w_turn, k_turn, k_turn2, k_lnx, k_lct, k_lbk, k_lrt, k_wnx, k_wct, k_wbk, k_wrt, k_wc, k_lts, k_ltn, k_drt, k_dnx, t_nil, t_inl, t_inr, b_nil, b_inl, b_inr, l_nil, l_inl, l_inr, fa_nil, fa_inl, fa_inr, z_inl, z_inr, bt_v, bt_tup, bs_nil, bs_cons, g_v, g_at, s_v, ou_nil, ou_cons, wi_nil, wi_cons, ba_nil, ba_cons, pa_nil', pa_cons', po_none', po_some', it_lst, it_tup, fl_fl, ix_i, ixd_l, ixd_t, lo_nil, lo_d, wo_some, wo_none, wo_bind, wo_map, w_some, wo_ite, f_d, f_fl, fs_nil, fs_cons, a_nil, a_cons, o_add, o_sub, c_eq, c_ne, c_lt, c_le, c_gt, c_ge, q_int, q_bl, q_str, u_non, u_bl, u_int, u_tup, u_lst, big_eq, List.getElem?_cons_zero, List.getElem?_cons_succ, Option.join_some, Option.join_none, List.set_cons_zero, List.set_cons_succ, List.length_cons, List.length_nil, Nat.reduceAdd, Nat.reduceLT, Nat.reduceLeDiff, Nat.reduceSub, Nat.zero_le, Option.isSome_some, true_and, and_true, if_true, if_false, Bool.false_eq_true, Option.map_some, Option.map_none, Option.bind_some, List.map_cons, List.map_nil, List.cons_append, List.nil_append, List.append_nil, Bool.not_true, Bool.not_false, Bool.and_true, Bool.true_and, Bool.and_self, beq_self_eq_true, List.getElem?_nil, List.reduceReplicate, d_is_name, Pw.start, isi_s, bi_lenS hl, gv_LONGEST, decide_eq_false h1]
theorem law_kept (k : Nat) : run tab gv (k + 1) "_law_kept" [] = some (.fl (keptB.map D.str), []) := by
  refine Wc.eq ?_
  rw [wc_run tab__law_kept rfl]
  have e : opD .Add (.lst [D.str "and", D.str "below", D.str "choice", D.str "copy", D.str "froze", D.str "if", D.str "in", D.str "left", D.str "less", D.str "not", D.str "or", D.str "out", D.str "quot", D.str "rest"]) (.lst [D.str "right", D.str "rule", D.str "same", D.str "sum", D.str "times", D.str "to", D.str "twice", D.str "under", D.str "unlike", D.str "width", D.str "xor"]) = some (.fl (keptB.map D.str)) := o_addL (by decide)
  simp -implicitDefEqProofs only [w_k, w_sset, k_sset, k_sset', w_cmpQ, k_cmpQ, w_bm, k_bm, k_bm2, w_dsp, w_dgetd, k_dg, w_zip, k_zip, k_zip2, c_in, c_nin, c_isb, c_isnb, w_pl, w_mv, w_gl, w_bin, k_bin, k_bin2, w_neg, k_neg, w_tv, k_tv, k_tru, w_and, k_and, w_or, k_or, w_ife, k_ife, w_tup, k_tup, w_lst, k_lst, w_ix, k_ix, k_ix2, w_ixP, k_ixP, w_lenP, w_sl, k_sl, k_sl2, k_sl3, wo_eo_none, wo_eo_some, k_eo, w_rev, k_rev, k_back, w_callM, w_call, k_call, k_call2, w_bi, k_bi, w_isi, k_isi, w_lc, k_lc, k_lcb, w_nil, w_cons, k_cons, k_cons2, w_lend, w_wn, w_ws, w_seq, k_seq, w_rng1, k_rng1, w_rng2, k_rng2, k_rng22, w_val, k_val, w_not, k_not, w_andB, k_andB, w_orB, k_orB, w_cmp, k_cmp, k_cmp2, w_cmpP, k_cmpP, w_ch, k_ch, k_ch2, k_ch3, w_set, k_set, w_setT, k_setT, w_setI, k_setI, k_setI2, w_app, k_app, k_app2, w_ex, k_ex, w_ret, k_rt, w_retN, w_ifs, k_ifs, w_for, k_for, w_while, w_pass, w_brk, w_cont, k_nx, k_mrt, k_mbk, k_mct, w_snil, w_scons, w_fturn, w_turn, k_turn, k_turn2, k_lnx, k_lct, k_lbk, k_lrt, k_wnx, k_wct, k_wbk, k_wrt, k_wc, k_lts, k_ltn, k_drt, k_dnx, t_nil, t_inl, t_inr, b_nil, b_inl, b_inr, l_nil, l_inl, l_inr, fa_nil, fa_inl, fa_inr, z_inl, z_inr, bt_v, bt_tup, bs_nil, bs_cons, g_v, g_at, s_v, ou_nil, ou_cons, wi_nil, wi_cons, ba_nil, ba_cons, pa_nil', pa_cons', po_none', po_some', it_lst, it_tup, fl_fl, ix_i, ixd_l, ixd_t, lo_nil, lo_d, wo_some, wo_none, wo_bind, wo_map, w_some, wo_ite, f_d, f_fl, fs_nil, fs_cons, a_nil, a_cons, o_add, o_sub, c_eq, c_ne, c_lt, c_le, c_gt, c_ge, q_int, q_bl, q_str, u_non, u_bl, u_int, u_tup, u_lst, big_eq, List.getElem?_cons_zero, List.getElem?_cons_succ, Option.join_some, Option.join_none, List.set_cons_zero, List.set_cons_succ, List.length_cons, List.length_nil, Nat.reduceAdd, Nat.reduceLT, Nat.reduceLeDiff, Nat.reduceSub, Nat.zero_le, Option.isSome_some, true_and, and_true, if_true, if_false, Bool.false_eq_true, Option.map_some, Option.map_none, Option.bind_some, List.map_cons, List.map_nil, List.cons_append, List.nil_append, List.append_nil, Bool.not_true, Bool.not_false, Bool.and_true, Bool.true_and, Bool.and_self, beq_self_eq_true, List.getElem?_nil, List.reduceReplicate, d__law_kept, Pw.start, e]
theorem law_is_no (k : Nat) (d : D) (h : isiD d "str" = some false) : run tab gv (k + 1) "_law_is_name" [.d d] = some (.d (.bl false), []) := by
  refine Wc.eq ?_
  rw [wc_run tab__law_is_name rfl]
  simp -implicitDefEqProofs only [w_k, w_sset, k_sset, k_sset', w_cmpQ, k_cmpQ, w_bm, k_bm, k_bm2, w_dsp, w_dgetd, k_dg, w_zip, k_zip, k_zip2, c_in, c_nin, c_isb, c_isnb, w_pl, w_mv, w_gl, w_bin, k_bin, k_bin2, w_neg, k_neg, w_tv, k_tv, k_tru, w_and, k_and, w_or, k_or, w_ife, k_ife, w_tup, k_tup, w_lst, k_lst, w_ix, k_ix, k_ix2, w_ixP, k_ixP, w_lenP, w_sl, k_sl, k_sl2, k_sl3, wo_eo_none, wo_eo_some, k_eo, w_rev, k_rev, k_back, w_callM, w_call, k_call, k_call2, w_bi, k_bi, w_isi, k_isi, w_lc, k_lc, k_lcb, w_nil, w_cons, k_cons, k_cons2, w_lend, w_wn, w_ws, w_seq, k_seq, w_rng1, k_rng1, w_rng2, k_rng2, k_rng22, w_val, k_val, w_not, k_not, w_andB, k_andB, w_orB, k_orB, w_cmp, k_cmp, k_cmp2, w_cmpP, k_cmpP, w_ch, k_ch, k_ch2, k_ch3, w_set, k_set, w_setT, k_setT, w_setI, k_setI, k_setI2, w_app, k_app, k_app2, w_ex, k_ex, w_ret, k_rt, w_retN, w_ifs, k_ifs, w_for, k_for, w_while, w_pass, w_brk, w_cont, k_nx, k_mrt, k_mbk, k_mct, w_snil, w_scons, w_fturn, w_turn, k_turn, k_turn2, k_lnx, k_lct, k_lbk, k_lrt, k_wnx, k_wct, k_wbk, k_wrt, k_wc, k_lts, k_ltn, k_drt, k_dnx, t_nil, t_inl, t_inr, b_nil, b_inl, b_inr, l_nil, l_inl, l_inr, fa_nil, fa_inl, fa_inr, z_inl, z_inr, bt_v, bt_tup, bs_nil, bs_cons, g_v, g_at, s_v, ou_nil, ou_cons, wi_nil, wi_cons, ba_nil, ba_cons, pa_nil', pa_cons', po_none', po_some', it_lst, it_tup, fl_fl, ix_i, ixd_l, ixd_t, lo_nil, lo_d, wo_some, wo_none, wo_bind, wo_map, w_some, wo_ite, f_d, f_fl, fs_nil, fs_cons, a_nil, a_cons, o_add, o_sub, c_eq, c_ne, c_lt, c_le, c_gt, c_ge, q_int, q_bl, q_str, u_non, u_bl, u_int, u_tup, u_lst, big_eq, List.getElem?_cons_zero, List.getElem?_cons_succ, Option.join_some, Option.join_none, List.set_cons_zero, List.set_cons_succ, List.length_cons, List.length_nil, Nat.reduceAdd, Nat.reduceLT, Nat.reduceLeDiff, Nat.reduceSub, Nat.zero_le, Option.isSome_some, true_and, and_true, if_true, if_false, Bool.false_eq_true, Option.map_some, Option.map_none, Option.bind_some, List.map_cons, List.map_nil, List.cons_append, List.nil_append, List.append_nil, Bool.not_true, Bool.not_false, Bool.and_true, Bool.true_and, Bool.and_self, beq_self_eq_true, List.getElem?_nil, List.reduceReplicate, d__law_is_name, Pw.start, h]
theorem filt_all (p : Nat → Bool) (l : List Nat) : (l.filter fun c => !p c).isEmpty = l.all p := by
  rw [Bool.eq_iff_iff]
  simp
theorem filt_ab (s : Str) : ((sL s).filter fun c => !decide (c ∈ L26)).isEmpty = ab s := filt_all _ _
theorem law_is_str (k : Nat) (s : Str) (h : Sok 1000 s) : run tab gv (k + 2) "_law_is_name" [.d (.str s)] = some (.d (.bl (nm s)), []) := by
  refine Wc.eq ?_
  rw [wc_run tab__law_is_name rfl]
  have hl := h.len (by omega)
  have hk := in_strsL h.ok keptB_ok
  by_cases h1 : (1 : Int) ≤ (sL s).length
  · by_cases h2 : ((sL s).length : Int) ≤ 8
    · have e : nm s = (ab s && !decide (s ∈ keptB)) := by
        unfold nm
        rw [decide_eq_true (show 1 ≤ (sL s).length by omega), decide_eq_true (show (sL s).length ≤ 8 by omega)]
        rfl
      rw [e]
      by_cases h3 : s ∈ keptB
      · simp -implicitDefEqProofs only [w_k, w_sset, k_sset, k_sset', w_cmpQ, k_cmpQ, w_bm, k_bm, k_bm2, w_dsp, w_dgetd, k_dg, w_zip, k_zip, k_zip2, c_in, c_nin, c_isb, c_isnb, w_pl, w_mv, w_gl, w_bin, k_bin, k_bin2, w_neg, k_neg, w_tv, k_tv, k_tru, w_and, k_and, w_or, k_or, w_ife, k_ife, w_tup, k_tup, w_lst, k_lst, w_ix, k_ix, k_ix2, w_ixP, k_ixP, w_lenP, w_sl, k_sl, k_sl2, k_sl3, wo_eo_none, wo_eo_some, k_eo, w_rev, k_rev, k_back, w_callM, w_call, k_call, k_call2, w_bi, k_bi, w_isi, k_isi, w_lc, k_lc, k_lcb, w_nil, w_cons, k_cons, k_cons2, w_lend, w_wn, w_ws, w_seq, k_seq, w_rng1, k_rng1, w_rng2, k_rng2, k_rng22, w_val, k_val, w_not, k_not, w_andB, k_andB, w_orB, k_orB, w_cmp, k_cmp, k_cmp2, w_cmpP, k_cmpP, w_ch, k_ch, k_ch2, k_ch3, w_set, k_set, w_setT, k_setT, w_setI, k_setI, k_setI2, w_app, k_app, k_app2, w_ex, k_ex, w_ret, k_rt, w_retN, w_ifs, k_ifs, w_for, k_for, w_while, w_pass, w_brk, w_cont, k_nx, k_mrt, k_mbk, k_mct, w_snil, w_scons, w_fturn, w_turn, k_turn, k_turn2, k_lnx, k_lct, k_lbk, k_lrt, k_wnx, k_wct, k_wbk, k_wrt, k_wc, k_lts, k_ltn, k_drt, k_dnx, t_nil, t_inl, t_inr, b_nil, b_inl, b_inr, l_nil, l_inl, l_inr, fa_nil, fa_inl, fa_inr, z_inl, z_inr, bt_v, bt_tup, bs_nil, bs_cons, g_v, g_at, s_v, ou_nil, ou_cons, wi_nil, wi_cons, ba_nil, ba_cons, pa_nil', pa_cons', po_none', po_some', it_lst, it_tup, fl_fl, ix_i, ixd_l, ixd_t, lo_nil, lo_d, wo_some, wo_none, wo_bind, wo_map, w_some, wo_ite, f_d, f_fl, fs_nil, fs_cons, a_nil, a_cons, o_add, o_sub, c_eq, c_ne, c_lt, c_le, c_gt, c_ge, q_int, q_bl, q_str, u_non, u_bl, u_int, u_tup, u_lst, big_eq, List.getElem?_cons_zero, List.getElem?_cons_succ, Option.join_some, Option.join_none, List.set_cons_zero, List.set_cons_succ, List.length_cons, List.length_nil, Nat.reduceAdd, Nat.reduceLT, Nat.reduceLeDiff, Nat.reduceSub, Nat.zero_le, Option.isSome_some, true_and, and_true, if_true, if_false, Bool.false_eq_true, Option.map_some, Option.map_none, Option.bind_some, List.map_cons, List.map_nil, List.cons_append, List.nil_append, List.append_nil, Bool.not_true, Bool.not_false, Bool.and_true, Bool.true_and, Bool.and_self, beq_self_eq_true, List.getElem?_nil, List.reduceReplicate, d__law_is_name, Pw.start, isi_s, bi_lenS hl, decide_eq_true h1, decide_eq_true h2, io__law_kept, law_kept, wc_some, hk, decide_eq_true h3, Bool.and_false]
      · simp -implicitDefEqProofs only [w_k, w_sset, k_sset, k_sset', w_cmpQ, k_cmpQ, w_bm, k_bm, k_bm2, w_dsp, w_dgetd, k_dg, w_zip, k_zip, k_zip2, c_in, c_nin, c_isb, c_isnb, w_pl, w_mv, w_gl, w_bin, k_bin, k_bin2, w_neg, k_neg, w_tv, k_tv, k_tru, w_and, k_and, w_or, k_or, w_ife, k_ife, w_tup, k_tup, w_lst, k_lst, w_ix, k_ix, k_ix2, w_ixP, k_ixP, w_lenP, w_sl, k_sl, k_sl2, k_sl3, wo_eo_none, wo_eo_some, k_eo, w_rev, k_rev, k_back, w_callM, w_call, k_call, k_call2, w_bi, k_bi, w_isi, k_isi, w_lc, k_lc, k_lcb, w_nil, w_cons, k_cons, k_cons2, w_lend, w_wn, w_ws, w_seq, k_seq, w_rng1, k_rng1, w_rng2, k_rng2, k_rng22, w_val, k_val, w_not, k_not, w_andB, k_andB, w_orB, k_orB, w_cmp, k_cmp, k_cmp2, w_cmpP, k_cmpP, w_ch, k_ch, k_ch2, k_ch3, w_set, k_set, w_setT, k_setT, w_setI, k_setI, k_setI2, w_app, k_app, k_app2, w_ex, k_ex, w_ret, k_rt, w_retN, w_ifs, k_ifs, w_for, k_for, w_while, w_pass, w_brk, w_cont, k_nx, k_mrt, k_mbk, k_mct, w_snil, w_scons, w_fturn, w_turn, k_turn, k_turn2, k_lnx, k_lct, k_lbk, k_lrt, k_wnx, k_wct, k_wbk, k_wrt, k_wc, k_lts, k_ltn, k_drt, k_dnx, t_nil, t_inl, t_inr, b_nil, b_inl, b_inr, l_nil, l_inl, l_inr, fa_nil, fa_inl, fa_inr, z_inl, z_inr, bt_v, bt_tup, bs_nil, bs_cons, g_v, g_at, s_v, ou_nil, ou_cons, wi_nil, wi_cons, ba_nil, ba_cons, pa_nil', pa_cons', po_none', po_some', it_lst, it_tup, fl_fl, ix_i, ixd_l, ixd_t, lo_nil, lo_d, wo_some, wo_none, wo_bind, wo_map, w_some, wo_ite, f_d, f_fl, fs_nil, fs_cons, a_nil, a_cons, o_add, o_sub, c_eq, c_ne, c_lt, c_le, c_gt, c_ge, q_int, q_bl, q_str, u_non, u_bl, u_int, u_tup, u_lst, big_eq, List.getElem?_cons_zero, List.getElem?_cons_succ, Option.join_some, Option.join_none, List.set_cons_zero, List.set_cons_succ, List.length_cons, List.length_nil, Nat.reduceAdd, Nat.reduceLT, Nat.reduceLeDiff, Nat.reduceSub, Nat.zero_le, Option.isSome_some, true_and, and_true, if_true, if_false, Bool.false_eq_true, Option.map_some, Option.map_none, Option.bind_some, List.map_cons, List.map_nil, List.cons_append, List.nil_append, List.append_nil, Bool.not_true, Bool.not_false, Bool.and_true, Bool.true_and, Bool.and_self, beq_self_eq_true, List.getElem?_nil, List.reduceReplicate, d__law_is_name, Pw.start, isi_s, bi_lenS hl, decide_eq_true h1, decide_eq_true h2, io__law_kept, law_kept, wc_some, hk, decide_eq_false h3, it_str hl]
        refine w_filtI (fun ρ => ∃ x, ρ = [some (.d (.str s)), x]) (sL s) (fun c => .str (sg c)) (fun c => .str (sg c)) (fun c => !decide (c ∈ L26)) ⟨_, rfl⟩ ?_ ?_
        · rintro c _ hm ⟨x, rfl⟩
          simp -implicitDefEqProofs only [w_k, w_sset, k_sset, k_sset', w_cmpQ, k_cmpQ, w_bm, k_bm, k_bm2, w_dsp, w_dgetd, k_dg, w_zip, k_zip, k_zip2, c_in, c_nin, c_isb, c_isnb, w_pl, w_mv, w_gl, w_bin, k_bin, k_bin2, w_neg, k_neg, w_tv, k_tv, k_tru, w_and, k_and, w_or, k_or, w_ife, k_ife, w_tup, k_tup, w_lst, k_lst, w_ix, k_ix, k_ix2, w_ixP, k_ixP, w_lenP, w_sl, k_sl, k_sl2, k_sl3, wo_eo_none, wo_eo_some, k_eo, w_rev, k_rev, k_back, w_callM, w_call, k_call, k_call2, w_bi, k_bi, w_isi, k_isi, w_lc, k_lc, k_lcb, w_nil, w_cons, k_cons, k_cons2, w_lend, w_wn, w_ws, w_seq, k_seq, w_rng1, k_rng1, w_rng2, k_rng2, k_rng22, w_val, k_val, w_not, k_not, w_andB, k_andB, w_orB, k_orB, w_cmp, k_cmp, k_cmp2, w_cmpP, k_cmpP, w_ch, k_ch, k_ch2, k_ch3, w_set, k_set, w_setT, k_setT, w_setI, k_setI, k_setI2, w_app, k_app, k_app2, w_ex, k_ex, w_ret, k_rt, w_retN, w_ifs, k_ifs, w_for, k_for, w_while, w_pass, w_brk, w_cont, k_nx, k_mrt, k_mbk, k_mct, w_snil, w_scons, w_fturn, w_turn, k_turn, k_turn2, k_lnx, k_lct, k_lbk, k_lrt, k_wnx, k_wct, k_wbk, k_wrt, k_wc, k_lts, k_ltn, k_drt, k_dnx, t_nil, t_inl, t_inr, b_nil, b_inl, b_inr, l_nil, l_inl, l_inr, fa_nil, fa_inl, fa_inr, z_inl, z_inr, bt_v, bt_tup, bs_nil, bs_cons, g_v, g_at, s_v, ou_nil, ou_cons, wi_nil, wi_cons, ba_nil, ba_cons, pa_nil', pa_cons', po_none', po_some', it_lst, it_tup, fl_fl, ix_i, ixd_l, ixd_t, lo_nil, lo_d, wo_some, wo_none, wo_bind, wo_map, w_some, wo_ite, f_d, f_fl, fs_nil, fs_cons, a_nil, a_cons, o_add, o_sub, c_eq, c_ne, c_lt, c_le, c_gt, c_ge, q_int, q_bl, q_str, u_non, u_bl, u_int, u_tup, u_lst, big_eq, List.getElem?_cons_zero, List.getElem?_cons_succ, Option.join_some, Option.join_none, List.set_cons_zero, List.set_cons_succ, List.length_cons, List.length_nil, Nat.reduceAdd, Nat.reduceLT, Nat.reduceLeDiff, Nat.reduceSub, Nat.zero_le, Option.isSome_some, true_and, and_true, if_true, if_false, Bool.false_eq_true, Option.map_some, Option.map_none, Option.bind_some, List.map_cons, List.map_nil, List.cons_append, List.nil_append, List.append_nil, Bool.not_true, Bool.not_false, Bool.and_true, Bool.true_and, Bool.and_self, beq_self_eq_true, List.getElem?_nil, List.reduceReplicate, in_sg, lets]
          cases decide (c ∈ L26)
          · exact ⟨rfl, _, rfl⟩
          · exact ⟨rfl, _, rfl⟩
        · rintro _ ⟨x, rfl⟩
          have hq := q_strs_nil (bs := (((sL s).filter fun c => !decide (c ∈ L26)).map sg)) (by
            intro b hb
            obtain ⟨c, hc, rfl⟩ := List.mem_map.mp hb
            exact (Sok.sg (h.2 c (List.mem_filter.mp hc).1)).ok)
          rw [List.map_map] at hq
          have hq2 : eqD (.lst (((sL s).filter fun c => !decide (c ∈ L26)).map fun c => D.str (sg c))) (.lst []) = some (ab s) := by
            rw [← filt_ab s]
            refine hq.trans ?_
            simp
          simp -implicitDefEqProofs only [w_k, w_sset, k_sset, k_sset', w_cmpQ, k_cmpQ, w_bm, k_bm, k_bm2, w_dsp, w_dgetd, k_dg, w_zip, k_zip, k_zip2, c_in, c_nin, c_isb, c_isnb, w_pl, w_mv, w_gl, w_bin, k_bin, k_bin2, w_neg, k_neg, w_tv, k_tv, k_tru, w_and, k_and, w_or, k_or, w_ife, k_ife, w_tup, k_tup, w_lst, k_lst, w_ix, k_ix, k_ix2, w_ixP, k_ixP, w_lenP, w_sl, k_sl, k_sl2, k_sl3, wo_eo_none, wo_eo_some, k_eo, w_rev, k_rev, k_back, w_callM, w_call, k_call, k_call2, w_bi, k_bi, w_isi, k_isi, w_lc, k_lc, k_lcb, w_nil, w_cons, k_cons, k_cons2, w_lend, w_wn, w_ws, w_seq, k_seq, w_rng1, k_rng1, w_rng2, k_rng2, k_rng22, w_val, k_val, w_not, k_not, w_andB, k_andB, w_orB, k_orB, w_cmp, k_cmp, k_cmp2, w_cmpP, k_cmpP, w_ch, k_ch, k_ch2, k_ch3, w_set, k_set, w_setT, k_setT, w_setI, k_setI, k_setI2, w_app, k_app, k_app2, w_ex, k_ex, w_ret, k_rt, w_retN, w_ifs, k_ifs, w_for, k_for, w_while, w_pass, w_brk, w_cont, k_nx, k_mrt, k_mbk, k_mct, w_snil, w_scons, w_fturn, w_turn, k_turn, k_turn2, k_lnx, k_lct, k_lbk, k_lrt, k_wnx, k_wct, k_wbk, k_wrt, k_wc, k_lts, k_ltn, k_drt, k_dnx, t_nil, t_inl, t_inr, b_nil, b_inl, b_inr, l_nil, l_inl, l_inr, fa_nil, fa_inl, fa_inr, z_inl, z_inr, bt_v, bt_tup, bs_nil, bs_cons, g_v, g_at, s_v, ou_nil, ou_cons, wi_nil, wi_cons, ba_nil, ba_cons, pa_nil', pa_cons', po_none', po_some', it_lst, it_tup, fl_fl, ix_i, ixd_l, ixd_t, lo_nil, lo_d, wo_some, wo_none, wo_bind, wo_map, w_some, wo_ite, f_d, f_fl, fs_nil, fs_cons, a_nil, a_cons, o_add, o_sub, c_eq, c_ne, c_lt, c_le, c_gt, c_ge, q_int, q_bl, q_str, u_non, u_bl, u_int, u_tup, u_lst, big_eq, List.getElem?_cons_zero, List.getElem?_cons_succ, Option.join_some, Option.join_none, List.set_cons_zero, List.set_cons_succ, List.length_cons, List.length_nil, Nat.reduceAdd, Nat.reduceLT, Nat.reduceLeDiff, Nat.reduceSub, Nat.zero_le, Option.isSome_some, true_and, and_true, if_true, if_false, Bool.false_eq_true, Option.map_some, Option.map_none, Option.bind_some, List.map_cons, List.map_nil, List.cons_append, List.nil_append, List.append_nil, Bool.not_true, Bool.not_false, Bool.and_true, Bool.true_and, Bool.and_self, beq_self_eq_true, List.getElem?_nil, List.reduceReplicate, hq2]
    · have e : nm s = false := by
        unfold nm
        rw [decide_eq_false (show ¬ (sL s).length ≤ 8 by omega)]
        simp
      rw [e]
      simp -implicitDefEqProofs only [w_k, w_sset, k_sset, k_sset', w_cmpQ, k_cmpQ, w_bm, k_bm, k_bm2, w_dsp, w_dgetd, k_dg, w_zip, k_zip, k_zip2, c_in, c_nin, c_isb, c_isnb, w_pl, w_mv, w_gl, w_bin, k_bin, k_bin2, w_neg, k_neg, w_tv, k_tv, k_tru, w_and, k_and, w_or, k_or, w_ife, k_ife, w_tup, k_tup, w_lst, k_lst, w_ix, k_ix, k_ix2, w_ixP, k_ixP, w_lenP, w_sl, k_sl, k_sl2, k_sl3, wo_eo_none, wo_eo_some, k_eo, w_rev, k_rev, k_back, w_callM, w_call, k_call, k_call2, w_bi, k_bi, w_isi, k_isi, w_lc, k_lc, k_lcb, w_nil, w_cons, k_cons, k_cons2, w_lend, w_wn, w_ws, w_seq, k_seq, w_rng1, k_rng1, w_rng2, k_rng2, k_rng22, w_val, k_val, w_not, k_not, w_andB, k_andB, w_orB, k_orB, w_cmp, k_cmp, k_cmp2, w_cmpP, k_cmpP, w_ch, k_ch, k_ch2, k_ch3, w_set, k_set, w_setT, k_setT, w_setI, k_setI, k_setI2, w_app, k_app, k_app2, w_ex, k_ex, w_ret, k_rt, w_retN, w_ifs, k_ifs, w_for, k_for, w_while, w_pass, w_brk, w_cont, k_nx, k_mrt, k_mbk, k_mct, w_snil, w_scons, w_fturn, w_turn, k_turn, k_turn2, k_lnx, k_lct, k_lbk, k_lrt, k_wnx, k_wct, k_wbk, k_wrt, k_wc, k_lts, k_ltn, k_drt, k_dnx, t_nil, t_inl, t_inr, b_nil, b_inl, b_inr, l_nil, l_inl, l_inr, fa_nil, fa_inl, fa_inr, z_inl, z_inr, bt_v, bt_tup, bs_nil, bs_cons, g_v, g_at, s_v, ou_nil, ou_cons, wi_nil, wi_cons, ba_nil, ba_cons, pa_nil', pa_cons', po_none', po_some', it_lst, it_tup, fl_fl, ix_i, ixd_l, ixd_t, lo_nil, lo_d, wo_some, wo_none, wo_bind, wo_map, w_some, wo_ite, f_d, f_fl, fs_nil, fs_cons, a_nil, a_cons, o_add, o_sub, c_eq, c_ne, c_lt, c_le, c_gt, c_ge, q_int, q_bl, q_str, u_non, u_bl, u_int, u_tup, u_lst, big_eq, List.getElem?_cons_zero, List.getElem?_cons_succ, Option.join_some, Option.join_none, List.set_cons_zero, List.set_cons_succ, List.length_cons, List.length_nil, Nat.reduceAdd, Nat.reduceLT, Nat.reduceLeDiff, Nat.reduceSub, Nat.zero_le, Option.isSome_some, true_and, and_true, if_true, if_false, Bool.false_eq_true, Option.map_some, Option.map_none, Option.bind_some, List.map_cons, List.map_nil, List.cons_append, List.nil_append, List.append_nil, Bool.not_true, Bool.not_false, Bool.and_true, Bool.true_and, Bool.and_self, beq_self_eq_true, List.getElem?_nil, List.reduceReplicate, d__law_is_name, Pw.start, isi_s, bi_lenS hl, decide_eq_true h1, decide_eq_false h2]
  · have e : nm s = false := by
      unfold nm
      rw [decide_eq_false (show ¬ 1 ≤ (sL s).length by omega)]
      rfl
    rw [e]
    simp -implicitDefEqProofs only [w_k, w_sset, k_sset, k_sset', w_cmpQ, k_cmpQ, w_bm, k_bm, k_bm2, w_dsp, w_dgetd, k_dg, w_zip, k_zip, k_zip2, c_in, c_nin, c_isb, c_isnb, w_pl, w_mv, w_gl, w_bin, k_bin, k_bin2, w_neg, k_neg, w_tv, k_tv, k_tru, w_and, k_and, w_or, k_or, w_ife, k_ife, w_tup, k_tup, w_lst, k_lst, w_ix, k_ix, k_ix2, w_ixP, k_ixP, w_lenP, w_sl, k_sl, k_sl2, k_sl3, wo_eo_none, wo_eo_some, k_eo, w_rev, k_rev, k_back, w_callM, w_call, k_call, k_call2, w_bi, k_bi, w_isi, k_isi, w_lc, k_lc, k_lcb, w_nil, w_cons, k_cons, k_cons2, w_lend, w_wn, w_ws, w_seq, k_seq, w_rng1, k_rng1, w_rng2, k_rng2, k_rng22, w_val, k_val, w_not, k_not, w_andB, k_andB, w_orB, k_orB, w_cmp, k_cmp, k_cmp2, w_cmpP, k_cmpP, w_ch, k_ch, k_ch2, k_ch3, w_set, k_set, w_setT, k_setT, w_setI, k_setI, k_setI2, w_app, k_app, k_app2, w_ex, k_ex, w_ret, k_rt, w_retN, w_ifs, k_ifs, w_for, k_for, w_while, w_pass, w_brk, w_cont, k_nx, k_mrt, k_mbk, k_mct, w_snil, w_scons, w_fturn, w_turn, k_turn, k_turn2, k_lnx, k_lct, k_lbk, k_lrt, k_wnx, k_wct, k_wbk, k_wrt, k_wc, k_lts, k_ltn, k_drt, k_dnx, t_nil, t_inl, t_inr, b_nil, b_inl, b_inr, l_nil, l_inl, l_inr, fa_nil, fa_inl, fa_inr, z_inl, z_inr, bt_v, bt_tup, bs_nil, bs_cons, g_v, g_at, s_v, ou_nil, ou_cons, wi_nil, wi_cons, ba_nil, ba_cons, pa_nil', pa_cons', po_none', po_some', it_lst, it_tup, fl_fl, ix_i, ixd_l, ixd_t, lo_nil, lo_d, wo_some, wo_none, wo_bind, wo_map, w_some, wo_ite, f_d, f_fl, fs_nil, fs_cons, a_nil, a_cons, o_add, o_sub, c_eq, c_ne, c_lt, c_le, c_gt, c_ge, q_int, q_bl, q_str, u_non, u_bl, u_int, u_tup, u_lst, big_eq, List.getElem?_cons_zero, List.getElem?_cons_succ, Option.join_some, Option.join_none, List.set_cons_zero, List.set_cons_succ, List.length_cons, List.length_nil, Nat.reduceAdd, Nat.reduceLT, Nat.reduceLeDiff, Nat.reduceSub, Nat.zero_le, Option.isSome_some, true_and, and_true, if_true, if_false, Bool.false_eq_true, Option.map_some, Option.map_none, Option.bind_some, List.map_cons, List.map_nil, List.cons_append, List.nil_append, List.append_nil, Bool.not_true, Bool.not_false, Bool.and_true, Bool.true_and, Bool.and_self, beq_self_eq_true, List.getElem?_nil, List.reduceReplicate, d__law_is_name, Pw.start, isi_s, bi_lenS hl, decide_eq_false h1]
end Pk01

namespace Pk01
open PySem Pw
theorem wc_pickS {tab : Str → Option Fd} {G : Gv} (ht : tab "_law_draw" = some F_draw) (hp : tab "_law_pick" = some F_pick) (hio : G.io "_law_draw" = [0]) (k : Nat) {o : O} {t : Str} (ho : Deck o) (h0 : 0 < (sL t).length) (h1 : (sL t).length < 1000000) {QC : O → List O → Prop}
    (q : ∀ c o', c ∈ sL t → Deck o' → QC (.d (.str (sg c))) [o']) : Wc (run tab G (k + 2) "_law_pick" [o, .d (.str t)]) QC := by
  rw [wc_run hp rfl]
  have hb : t.length ≤ big := by rw [sL_len]; have : big = 16000000 := rfl; omega
  simp -implicitDefEqProofs only [w_k, w_sset, k_sset, k_sset', w_cmpQ, k_cmpQ, w_bm, k_bm, k_bm2, w_dsp, w_dgetd, k_dg, w_zip, k_zip, k_zip2, c_in, c_nin, c_isb, c_isnb, w_pl, w_mv, w_gl, w_bin, k_bin, k_bin2, w_neg, k_neg, w_tv, k_tv, k_tru, w_and, k_and, w_or, k_or, w_ife, k_ife, w_tup, k_tup, w_lst, k_lst, w_ix, k_ix, k_ix2, w_ixP, k_ixP, w_lenP, w_sl, k_sl, k_sl2, k_sl3, wo_eo_none, wo_eo_some, k_eo, w_rev, k_rev, k_back, w_callM, w_call, k_call, k_call2, w_bi, k_bi, w_isi, k_isi, w_lc, k_lc, k_lcb, w_nil, w_cons, k_cons, k_cons2, w_lend, w_wn, w_ws, w_seq, k_seq, w_rng1, k_rng1, w_rng2, k_rng2, k_rng22, w_val, k_val, w_not, k_not, w_andB, k_andB, w_orB, k_orB, w_cmp, k_cmp, k_cmp2, w_cmpP, k_cmpP, w_ch, k_ch, k_ch2, k_ch3, w_set, k_set, w_setT, k_setT, w_setI, k_setI, k_setI2, w_app, k_app, k_app2, w_ex, k_ex, w_ret, k_rt, w_retN, w_ifs, k_ifs, w_for, k_for, w_while, w_pass, w_brk, w_cont, k_nx, k_mrt, k_mbk, k_mct, w_snil, w_scons, w_fturn, w_turn, k_turn, k_turn2, k_lnx, k_lct, k_lbk, k_lrt, k_wnx, k_wct, k_wbk, k_wrt, k_wc, k_lts, k_ltn, k_drt, k_dnx, t_nil, t_inl, t_inr, b_nil, b_inl, b_inr, l_nil, l_inl, l_inr, fa_nil, fa_inl, fa_inr, z_inl, z_inr, bt_v, bt_tup, bs_nil, bs_cons, g_v, g_at, s_v, ou_nil, ou_cons, wi_nil, wi_cons, ba_nil, ba_cons, pa_nil', pa_cons', po_none', po_some', it_lst, it_tup, fl_fl, ix_i, ixd_l, ixd_t, lo_nil, lo_d, wo_some, wo_none, wo_bind, wo_map, w_some, wo_ite, f_d, f_fl, fs_nil, fs_cons, a_nil, a_cons, o_add, o_sub, c_eq, c_ne, c_lt, c_le, c_gt, c_ge, q_int, q_bl, q_str, u_non, u_bl, u_int, u_tup, u_lst, big_eq, List.getElem?_cons_zero, List.getElem?_cons_succ, Option.join_some, Option.join_none, List.set_cons_zero, List.set_cons_succ, List.length_cons, List.length_nil, Nat.reduceAdd, Nat.reduceLT, Nat.reduceLeDiff, Nat.reduceSub, Nat.zero_le, Option.isSome_some, true_and, and_true, if_true, if_false, Bool.false_eq_true, Option.map_some, Option.map_none, Option.bind_some, List.map_cons, List.map_nil, List.cons_append, List.nil_append, List.append_nil, Bool.not_true, Bool.not_false, Bool.and_true, Bool.true_and, Bool.and_self, beq_self_eq_true, List.getElem?_nil, List.reduceReplicate, F_pick, Pw.start, bi_lenS hb, hio]
  refine wc_draw ht k ho (by omega) (by omega) fun v o' ho' v0 v1 => ?_
  obtain ⟨c, hc, e⟩ := ix_str hb v0 v1
  simp -implicitDefEqProofs only [w_k, w_sset, k_sset, k_sset', w_cmpQ, k_cmpQ, w_bm, k_bm, k_bm2, w_dsp, w_dgetd, k_dg, w_zip, k_zip, k_zip2, c_in, c_nin, c_isb, c_isnb, w_pl, w_mv, w_gl, w_bin, k_bin, k_bin2, w_neg, k_neg, w_tv, k_tv, k_tru, w_and, k_and, w_or, k_or, w_ife, k_ife, w_tup, k_tup, w_lst, k_lst, w_ix, k_ix, k_ix2, w_ixP, k_ixP, w_lenP, w_sl, k_sl, k_sl2, k_sl3, wo_eo_none, wo_eo_some, k_eo, w_rev, k_rev, k_back, w_callM, w_call, k_call, k_call2, w_bi, k_bi, w_isi, k_isi, w_lc, k_lc, k_lcb, w_nil, w_cons, k_cons, k_cons2, w_lend, w_wn, w_ws, w_seq, k_seq, w_rng1, k_rng1, w_rng2, k_rng2, k_rng22, w_val, k_val, w_not, k_not, w_andB, k_andB, w_orB, k_orB, w_cmp, k_cmp, k_cmp2, w_cmpP, k_cmpP, w_ch, k_ch, k_ch2, k_ch3, w_set, k_set, w_setT, k_setT, w_setI, k_setI, k_setI2, w_app, k_app, k_app2, w_ex, k_ex, w_ret, k_rt, w_retN, w_ifs, k_ifs, w_for, k_for, w_while, w_pass, w_brk, w_cont, k_nx, k_mrt, k_mbk, k_mct, w_snil, w_scons, w_fturn, w_turn, k_turn, k_turn2, k_lnx, k_lct, k_lbk, k_lrt, k_wnx, k_wct, k_wbk, k_wrt, k_wc, k_lts, k_ltn, k_drt, k_dnx, t_nil, t_inl, t_inr, b_nil, b_inl, b_inr, l_nil, l_inl, l_inr, fa_nil, fa_inl, fa_inr, z_inl, z_inr, bt_v, bt_tup, bs_nil, bs_cons, g_v, g_at, s_v, ou_nil, ou_cons, wi_nil, wi_cons, ba_nil, ba_cons, pa_nil', pa_cons', po_none', po_some', it_lst, it_tup, fl_fl, ix_i, ixd_l, ixd_t, lo_nil, lo_d, wo_some, wo_none, wo_bind, wo_map, w_some, wo_ite, f_d, f_fl, fs_nil, fs_cons, a_nil, a_cons, o_add, o_sub, c_eq, c_ne, c_lt, c_le, c_gt, c_ge, q_int, q_bl, q_str, u_non, u_bl, u_int, u_tup, u_lst, big_eq, List.getElem?_cons_zero, List.getElem?_cons_succ, Option.join_some, Option.join_none, List.set_cons_zero, List.set_cons_succ, List.length_cons, List.length_nil, Nat.reduceAdd, Nat.reduceLT, Nat.reduceLeDiff, Nat.reduceSub, Nat.zero_le, Option.isSome_some, true_and, and_true, if_true, if_false, Bool.false_eq_true, Option.map_some, Option.map_none, Option.bind_some, List.map_cons, List.map_nil, List.cons_append, List.nil_append, List.append_nil, Bool.not_true, Bool.not_false, Bool.and_true, Bool.true_and, Bool.and_self, beq_self_eq_true, List.getElem?_nil, List.reduceReplicate, e]
  exact q c o' hc ho'
theorem repr_of {d : D} {p : PyData} (h : toPy d = some p) (hs : SeqAt.shaped p = true) (h2 : p.showable = true) (h3 : p.shown.length ≤ 16000000) (hd : reprD d = reprP d := by rfl) : ∃ r, reprD d = some (.d (.str r)) := by
  refine ⟨p.shown, hd.trans ?_⟩
  unfold reprP
  rw [h]
  exact if_pos ⟨hs, h2, h3⟩
theorem reprK_of {kvs : List (D × D)} {l : List (PyData × PyData)} (h : dicP kvs = some l) (h2 : PyData.showableKv l = true) (h3 : (PyData.shown (.dict l)).length ≤ 16000000) : ∃ r, reprD (.dic kvs) = some (.d (.str r)) := by
  refine ⟨PyData.shown (.dict l), ?_⟩
  show reprK kvs = _
  unfold reprK
  rw [h]
  exact if_pos ⟨h2, h3⟩
/-- what stands among the things that are looked at -/
def It (d : D) : Prop := (∃ s, d = .str s ∧ Sok 1000 s) ∨ (isiD d "str" = some false ∧ ∃ r, reprD d = some (.d (.str r)))
theorem It.repr {d : D} (h : It d) : ∃ r, biD .repr [d] = some (.d (.str r)) := by
  rcases h with ⟨s, rfl, hs⟩ | ⟨_, h⟩
  · exact ⟨_, repr_str (hs.mono (by omega))⟩
  · exact h
def nmD (d : D) : Bool := match d with
  | .str s => nm s
  | _ => false
theorem It.names {d : D} (h : It d) (k : Nat) : run tab gv (k + 2) "is_name" [.d d] = some (.d (.bl (nmD d)), []) ∧ run tab gv (k + 2) "_law_is_name" [.d d] = some (.d (.bl (nmD d)), []) := by
  rcases h with ⟨s, rfl, hs⟩ | ⟨h, _⟩
  · exact ⟨is_name_str (k + 1) s hs, law_is_str k s hs⟩
  · have e : nmD d = false := by
      cases d <;> try rfl
      rename_i s
      rw [isi_s] at h
      cases h
    rw [e]
    exact ⟨is_name_no (k + 1) d h, law_is_no (k + 1) d h⟩
theorem row_w (w : Str) (h : Sok 8 w) : It (.tup [.str w]) ∧ It (.lst [.str w]) := by
  have hl : (reprText w).length ≤ 100 := by
    unfold reprText
    show Array.size _ ≤ _
    rw [Array.size_push, ← Array.foldl_toList]
    have := StrLaws.foldl_repr_len (reprQuote w) w.cps.toList #[reprQuote w] fun c hc => Nat.lt_of_lt_of_le (h.2 c hc) (by decide)
    have h2 : w.cps.toList.length ≤ 8 := h.1
    have h3 : (#[reprQuote w] : Array Nat).size = 1 := rfl
    rw [h3] at this
    omega
  have sh1 : SeqAt.shaped (.tuple [.str w]) = true := by
    unfold SeqAt.shaped
    simp [PyData.canLay0, PyData.canLayAll0, h.ok, PyData.depth, PyData.depthAll]
  have sh2 : SeqAt.shaped (.list [.str w]) = true := by
    unfold SeqAt.shaped
    simp [PyData.canLay0, PyData.canLayAll0, h.ok, PyData.depth, PyData.depthAll]
  refine ⟨.inr ⟨?_, repr_of (p := .tuple [.str w]) rfl sh1 (by simp [PyData.showable, PyData.showableAll]) ?_⟩, .inr ⟨?_, repr_of (p := .list [.str w]) rfl sh2 (by simp [PyData.showable, PyData.showableAll]) ?_⟩⟩
  · show (if isiTs.contains "str" = true then (some "tuple").bind fun u => L2.kitB u "str" else none) = some false
    decide +kernel
  · rw [PyData.shown, PyData.shownAll, PyData.shownAll, PyData.shown]
    unfold tupleText
    have h1 : (("(" : String) : Str).length = 1 := rfl
    have h2 : ((",)" : String) : Str).length = 2 := rfl
    have h3 : (Str.join ", " [reprText w]) = reprText w := rfl
    show (("(" : Str) ++ Str.join ", " [reprText w] ++ ((",)" : String) : Str)).length ≤ _
    rw [h3, strLen_append, strLen_append, h1, h2]
    omega
  · show (if isiTs.contains "str" = true then (some "list").bind fun u => L2.kitB u "str" else none) = some false
    decide +kernel
  · rw [PyData.shown, PyData.shownAll, PyData.shownAll, PyData.shown]
    show (((("[" : String) : Str) ++ (("" : String) : Str) ++ reprText w) ++ (("]" : String) : Str)).length ≤ _
    have h1 : (("[" : String) : Str).length = 1 := rfl
    have h2 : (("]" : String) : Str).length = 1 := rfl
    have h3 : (("" : String) : Str).length = 0 := rfl
    rw [strLen_append, strLen_append, strLen_append, h1, h2, h3]
    omega
theorem up_ok {w : Str} (h : Nm0 w) : Sok 24 (Txt.upper w) := by
  have hl : (Txt.upper w).length ≤ 3 * w.length := PyProof.Rows.len_upper w
  rw [sL_len, sL_len] at hl
  have hu : ∀ c ∈ L26, ∀ d ∈ Unicode.upperOf c, d < 0x110000 := by decide +kernel
  refine ⟨Nat.le_trans hl (by have := h.2.1; omega), fun c hc => ?_⟩
  have hc' : c ∈ (placed w fun _ c => Unicode.upperOf c) := by simpa [Txt.upper] using hc
  unfold placed at hc'
  rw [Array.mem_flatten] at hc'
  obtain ⟨a, ha, hca⟩ := hc'
  rw [Array.mem_mapIdx] at ha
  obtain ⟨i, hi, rfl⟩ := ha
  have hm : w.cps[i] ∈ sL w := by simp
  exact hu _ (h.2.2 _ hm) c (by simpa using hca)
end Pk01

namespace Pk01
open PySem Pw
theorem ht_draw : tab "_law_draw" = some F_draw := tab__law_draw
theorem ht_pick : tab "_law_pick" = some F_pick := tab__law_pick
theorem ht_names : tab "_law_names" = some F_names := tab__law_names
theorem lo_fl (xs : List D) (os : List O) : lstO (.fl xs :: os) = .ml (.fl xs :: os) := if_neg (by simp [isDt])
theorem bm_up {w : Str} (h : w.length ≤ 5000000) : bmD .upper (.str w) [] = some (.d (.str (Txt.upper w))) := if_pos h
theorem o_addLL {a b : List D} (h : a.length + b.length ≤ 16000000) : opD .Add (.lst a) (.lst b) = some (.fl (a ++ b)) := o_addL h
theorem wc_near (k : Nat) {o : O} {w : Str} (ho : Deck o) (hw : Nm0 w) {QC : O → List O → Prop} (q : ∀ d o', It d → Deck o' → QC (.d d) [o']) : Wc (run tab gv (k + 3) "_law_near" [o, .d (.str w)]) QC := by
  rw [wc_run tab__law_near rfl]
  have wok := hw.ok
  have wb := wok.len (by omega)
  have wl := hw.2.1
  simp -implicitDefEqProofs only [w_k, w_sset, k_sset, k_sset', w_cmpQ, k_cmpQ, w_bm, k_bm, k_bm2, w_dsp, w_dgetd, k_dg, w_zip, k_zip, k_zip2, c_in, c_nin, c_isb, c_isnb, w_pl, w_mv, w_gl, w_bin, k_bin, k_bin2, w_neg, k_neg, w_tv, k_tv, k_tru, w_and, k_and, w_or, k_or, w_ife, k_ife, w_tup, k_tup, w_lst, k_lst, w_ix, k_ix, k_ix2, w_ixP, k_ixP, w_lenP, w_sl, k_sl, k_sl2, k_sl3, wo_eo_none, wo_eo_some, k_eo, w_rev, k_rev, k_back, w_callM, w_call, k_call, k_call2, w_bi, k_bi, w_isi, k_isi, w_lc, k_lc, k_lcb, w_nil, w_cons, k_cons, k_cons2, w_lend, w_wn, w_ws, w_seq, k_seq, w_rng1, k_rng1, w_rng2, k_rng2, k_rng22, w_val, k_val, w_not, k_not, w_andB, k_andB, w_orB, k_orB, w_cmp, k_cmp, k_cmp2, w_cmpP, k_cmpP, w_ch, k_ch, k_ch2, k_ch3, w_set, k_set, w_setT, k_setT, w_setI, k_setI, k_setI2, w_app, k_app, k_app2, w_ex, k_ex, w_ret, k_rt, w_retN, w_ifs, k_ifs, w_for, k_for, w_while, w_pass, w_brk, w_cont, k_nx, k_mrt, k_mbk, k_mct, w_snil, w_scons, w_fturn, w_turn, k_turn, k_turn2, k_lnx, k_lct, k_lbk, k_lrt, k_wnx, k_wct, k_wbk, k_wrt, k_wc, k_lts, k_ltn, k_drt, k_dnx, t_nil, t_inl, t_inr, b_nil, b_inl, b_inr, l_nil, l_inl, l_inr, fa_nil, fa_inl, fa_inr, z_inl, z_inr, bt_v, bt_tup, bs_nil, bs_cons, g_v, g_at, s_v, ou_nil, ou_cons, wi_nil, wi_cons, ba_nil, ba_cons, pa_nil', pa_cons', po_none', po_some', it_lst, it_tup, fl_fl, ix_i, ixd_l, ixd_t, lo_nil, lo_d, wo_some, wo_none, wo_bind, wo_map, w_some, wo_ite, f_d, f_fl, fs_nil, fs_cons, a_nil, a_cons, o_add, o_sub, c_eq, c_ne, c_lt, c_le, c_gt, c_ge, q_int, q_bl, q_str, u_non, u_bl, u_int, u_tup, u_lst, big_eq, List.getElem?_cons_zero, List.getElem?_cons_succ, Option.join_some, Option.join_none, List.set_cons_zero, List.set_cons_succ, List.length_cons, List.length_nil, Nat.reduceAdd, Nat.reduceLT, Nat.reduceLeDiff, Nat.reduceSub, Nat.zero_le, Option.isSome_some, true_and, and_true, if_true, if_false, Bool.false_eq_true, Option.map_some, Option.map_none, Option.bind_some, List.map_cons, List.map_nil, List.cons_append, List.nil_append, List.append_nil, Bool.not_true, Bool.not_false, Bool.and_true, Bool.true_and, Bool.and_self, beq_self_eq_true, List.getElem?_nil, List.reduceReplicate, d__law_near, Pw.start, io__law_draw]
  refine wc_draw ht_draw _ ho (by omega) (by omega) fun way o1 ho1 w0 w1 => ?_
  simp -implicitDefEqProofs only [w_k, w_sset, k_sset, k_sset', w_cmpQ, k_cmpQ, w_bm, k_bm, k_bm2, w_dsp, w_dgetd, k_dg, w_zip, k_zip, k_zip2, c_in, c_nin, c_isb, c_isnb, w_pl, w_mv, w_gl, w_bin, k_bin, k_bin2, w_neg, k_neg, w_tv, k_tv, k_tru, w_and, k_and, w_or, k_or, w_ife, k_ife, w_tup, k_tup, w_lst, k_lst, w_ix, k_ix, k_ix2, w_ixP, k_ixP, w_lenP, w_sl, k_sl, k_sl2, k_sl3, wo_eo_none, wo_eo_some, k_eo, w_rev, k_rev, k_back, w_callM, w_call, k_call, k_call2, w_bi, k_bi, w_isi, k_isi, w_lc, k_lc, k_lcb, w_nil, w_cons, k_cons, k_cons2, w_lend, w_wn, w_ws, w_seq, k_seq, w_rng1, k_rng1, w_rng2, k_rng2, k_rng22, w_val, k_val, w_not, k_not, w_andB, k_andB, w_orB, k_orB, w_cmp, k_cmp, k_cmp2, w_cmpP, k_cmpP, w_ch, k_ch, k_ch2, k_ch3, w_set, k_set, w_setT, k_setT, w_setI, k_setI, k_setI2, w_app, k_app, k_app2, w_ex, k_ex, w_ret, k_rt, w_retN, w_ifs, k_ifs, w_for, k_for, w_while, w_pass, w_brk, w_cont, k_nx, k_mrt, k_mbk, k_mct, w_snil, w_scons, w_fturn, w_turn, k_turn, k_turn2, k_lnx, k_lct, k_lbk, k_lrt, k_wnx, k_wct, k_wbk, k_wrt, k_wc, k_lts, k_ltn, k_drt, k_dnx, t_nil, t_inl, t_inr, b_nil, b_inl, b_inr, l_nil, l_inl, l_inr, fa_nil, fa_inl, fa_inr, z_inl, z_inr, bt_v, bt_tup, bs_nil, bs_cons, g_v, g_at, s_v, ou_nil, ou_cons, wi_nil, wi_cons, ba_nil, ba_cons, pa_nil', pa_cons', po_none', po_some', it_lst, it_tup, fl_fl, ix_i, ixd_l, ixd_t, lo_nil, lo_d, wo_some, wo_none, wo_bind, wo_map, w_some, wo_ite, f_d, f_fl, fs_nil, fs_cons, a_nil, a_cons, o_add, o_sub, c_eq, c_ne, c_lt, c_le, c_gt, c_ge, q_int, q_bl, q_str, u_non, u_bl, u_int, u_tup, u_lst, big_eq, List.getElem?_cons_zero, List.getElem?_cons_succ, Option.join_some, Option.join_none, List.set_cons_zero, List.set_cons_succ, List.length_cons, List.length_nil, Nat.reduceAdd, Nat.reduceLT, Nat.reduceLeDiff, Nat.reduceSub, Nat.zero_le, Option.isSome_some, true_and, and_true, if_true, if_false, Bool.false_eq_true, Option.map_some, Option.map_none, Option.bind_some, List.map_cons, List.map_nil, List.cons_append, List.nil_append, List.append_nil, Bool.not_true, Bool.not_false, Bool.and_true, Bool.true_and, Bool.and_self, beq_self_eq_true, List.getElem?_nil, List.reduceReplicate, io__law_draw, bi_lenS wb]
  refine wc_draw ht_draw _ ho1 (by omega) (by omega) fun a o2 ho2 a0 a1 => ?_
  simp -implicitDefEqProofs only [w_k, w_sset, k_sset, k_sset', w_cmpQ, k_cmpQ, w_bm, k_bm, k_bm2, w_dsp, w_dgetd, k_dg, w_zip, k_zip, k_zip2, c_in, c_nin, c_isb, c_isnb, w_pl, w_mv, w_gl, w_bin, k_bin, k_bin2, w_neg, k_neg, w_tv, k_tv, k_tru, w_and, k_and, w_or, k_or, w_ife, k_ife, w_tup, k_tup, w_lst, k_lst, w_ix, k_ix, k_ix2, w_ixP, k_ixP, w_lenP, w_sl, k_sl, k_sl2, k_sl3, wo_eo_none, wo_eo_some, k_eo, w_rev, k_rev, k_back, w_callM, w_call, k_call, k_call2, w_bi, k_bi, w_isi, k_isi, w_lc, k_lc, k_lcb, w_nil, w_cons, k_cons, k_cons2, w_lend, w_wn, w_ws, w_seq, k_seq, w_rng1, k_rng1, w_rng2, k_rng2, k_rng22, w_val, k_val, w_not, k_not, w_andB, k_andB, w_orB, k_orB, w_cmp, k_cmp, k_cmp2, w_cmpP, k_cmpP, w_ch, k_ch, k_ch2, k_ch3, w_set, k_set, w_setT, k_setT, w_setI, k_setI, k_setI2, w_app, k_app, k_app2, w_ex, k_ex, w_ret, k_rt, w_retN, w_ifs, k_ifs, w_for, k_for, w_while, w_pass, w_brk, w_cont, k_nx, k_mrt, k_mbk, k_mct, w_snil, w_scons, w_fturn, w_turn, k_turn, k_turn2, k_lnx, k_lct, k_lbk, k_lrt, k_wnx, k_wct, k_wbk, k_wrt, k_wc, k_lts, k_ltn, k_drt, k_dnx, t_nil, t_inl, t_inr, b_nil, b_inl, b_inr, l_nil, l_inl, l_inr, fa_nil, fa_inl, fa_inr, z_inl, z_inr, bt_v, bt_tup, bs_nil, bs_cons, g_v, g_at, s_v, ou_nil, ou_cons, wi_nil, wi_cons, ba_nil, ba_cons, pa_nil', pa_cons', po_none', po_some', it_lst, it_tup, fl_fl, ix_i, ixd_l, ixd_t, lo_nil, lo_d, wo_some, wo_none, wo_bind, wo_map, w_some, wo_ite, f_d, f_fl, fs_nil, fs_cons, a_nil, a_cons, o_add, o_sub, c_eq, c_ne, c_lt, c_le, c_gt, c_ge, q_int, q_bl, q_str, u_non, u_bl, u_int, u_tup, u_lst, big_eq, List.getElem?_cons_zero, List.getElem?_cons_succ, Option.join_some, Option.join_none, List.set_cons_zero, List.set_cons_succ, List.length_cons, List.length_nil, Nat.reduceAdd, Nat.reduceLT, Nat.reduceLeDiff, Nat.reduceSub, Nat.zero_le, Option.isSome_some, true_and, and_true, if_true, if_false, Bool.false_eq_true, Option.map_some, Option.map_none, Option.bind_some, List.map_cons, List.map_nil, List.cons_append, List.nil_append, List.append_nil, Bool.not_true, Bool.not_false, Bool.and_true, Bool.true_and, Bool.and_self, beq_self_eq_true, List.getElem?_nil, List.reduceReplicate, io__law_pick]
  have hs : ∀ c ∈ sL (Str.ofString "qzA0 _-.#\n"), c < 0x110000 := by decide +kernel
  refine wc_pickS ht_draw ht_pick io__law_draw _ ho2 (by decide +kernel) (by decide +kernel) fun c o3 hc ho3 => ?_
  have cok : Sok 1 (sg c) := Sok.sg (hs c hc)
  have ab8 : Sok 8 (Str.ofString "abcdefgh") := Sok.of (by decide +kernel) (by decide +kernel)
  have ab8b := ab8.len (by omega)
  have k1 := wok.cut none (some a)
  have k2 := wok.cut (some a) none
  have k3 := wok.cut (some (a + 1)) none
  have k4 := ab8.cut (some (((sL w).length : Int) - 1)) none
  have k5 := ab8.cut none (some (8 - ((sL w).length : Int)))
  have A1 : (sL (L2.cutS w none (some a))).length + (sL (sg c)).length ≤ 16000000 := by have := k1.1; have := cok.1; omega
  have A2 : (sL (L2.cutS w none (some a) ++ sg c)).length + (sL (L2.cutS w (some a) none)).length ≤ 16000000 := by have := (k1.add cok).1; have := k2.1; omega
  have A3 : (sL (L2.cutS w none (some a) ++ sg c)).length + (sL (L2.cutS w (some (a + 1)) none)).length ≤ 16000000 := by have := (k1.add cok).1; have := k3.1; omega
  have A4 : (sL (L2.cutS w none (some a))).length + (sL (L2.cutS w (some (a + 1)) none)).length ≤ 16000000 := by have := k1.1; have := k3.1; omega
  have A5 : (sL w).length + (sL (L2.cutS (Str.ofString "abcdefgh") (some (((sL w).length : Int) - 1)) none)).length ≤ 16000000 := by have := k4.1; omega
  have A6 : (sL w).length + (sL (L2.cutS (Str.ofString "abcdefgh") none (some (8 - ((sL w).length : Int))))).length ≤ 16000000 := by have := k5.1; omega
  have U : w.length ≤ 5000000 := by rw [sL_len]; omega
  obtain ⟨t1, t2⟩ := row_w w wok
  have hall : ∀ d ∈ [D.str (L2.cutS w none (some a) ++ sg c ++ L2.cutS w (some a) none), D.str (L2.cutS w none (some a) ++ sg c ++ L2.cutS w (some (a + 1)) none), D.str (L2.cutS w none (some a) ++ L2.cutS w (some (a + 1)) none), D.str (Txt.upper w),
      D.str (w ++ L2.cutS (Str.ofString "abcdefgh") (some (((sL w).length : Int) - 1)) none), D.str (w ++ L2.cutS (Str.ofString "abcdefgh") none (some (8 - ((sL w).length : Int)))), D.tup [.str w], D.lst [.str w]], It d := by
    intro d hd
    simp only [List.mem_cons, List.not_mem_nil, or_false] at hd
    rcases hd with rfl | rfl | rfl | rfl | rfl | rfl | rfl | rfl
    · exact .inl ⟨_, rfl, ((k1.add cok).add k2).mono (by omega)⟩
    · exact .inl ⟨_, rfl, ((k1.add cok).add k3).mono (by omega)⟩
    · exact .inl ⟨_, rfl, (k1.add k3).mono (by omega)⟩
    · exact .inl ⟨_, rfl, (up_ok hw).mono (by omega)⟩
    · exact .inl ⟨_, rfl, (wok.add k4).mono (by omega)⟩
    · exact .inl ⟨_, rfl, (wok.add k5).mono (by omega)⟩
    · exact t1
    · exact t2
  obtain ⟨x, ex, hx, _⟩ := at_in w0 (by simpa using w1 : way < (([D.str (L2.cutS w none (some a) ++ sg c ++ L2.cutS w (some a) none), D.str (L2.cutS w none (some a) ++ sg c ++ L2.cutS w (some (a + 1)) none), D.str (L2.cutS w none (some a) ++ L2.cutS w (some (a + 1)) none), D.str (Txt.upper w),
      D.str (w ++ L2.cutS (Str.ofString "abcdefgh") (some (((sL w).length : Int) - 1)) none), D.str (w ++ L2.cutS (Str.ofString "abcdefgh") none (some (8 - ((sL w).length : Int)))), D.tup [.str w], D.lst [.str w]] : List D).length : Int))
  simp -implicitDefEqProofs only [w_k, w_sset, k_sset, k_sset', w_cmpQ, k_cmpQ, w_bm, k_bm, k_bm2, w_dsp, w_dgetd, k_dg, w_zip, k_zip, k_zip2, c_in, c_nin, c_isb, c_isnb, w_pl, w_mv, w_gl, w_bin, k_bin, k_bin2, w_neg, k_neg, w_tv, k_tv, k_tru, w_and, k_and, w_or, k_or, w_ife, k_ife, w_tup, k_tup, w_lst, k_lst, w_ix, k_ix, k_ix2, w_ixP, k_ixP, w_lenP, w_sl, k_sl, k_sl2, k_sl3, wo_eo_none, wo_eo_some, k_eo, w_rev, k_rev, k_back, w_callM, w_call, k_call, k_call2, w_bi, k_bi, w_isi, k_isi, w_lc, k_lc, k_lcb, w_nil, w_cons, k_cons, k_cons2, w_lend, w_wn, w_ws, w_seq, k_seq, w_rng1, k_rng1, w_rng2, k_rng2, k_rng22, w_val, k_val, w_not, k_not, w_andB, k_andB, w_orB, k_orB, w_cmp, k_cmp, k_cmp2, w_cmpP, k_cmpP, w_ch, k_ch, k_ch2, k_ch3, w_set, k_set, w_setT, k_setT, w_setI, k_setI, k_setI2, w_app, k_app, k_app2, w_ex, k_ex, w_ret, k_rt, w_retN, w_ifs, k_ifs, w_for, k_for, w_while, w_pass, w_brk, w_cont, k_nx, k_mrt, k_mbk, k_mct, w_snil, w_scons, w_fturn, w_turn, k_turn, k_turn2, k_lnx, k_lct, k_lbk, k_lrt, k_wnx, k_wct, k_wbk, k_wrt, k_wc, k_lts, k_ltn, k_drt, k_dnx, t_nil, t_inl, t_inr, b_nil, b_inl, b_inr, l_nil, l_inl, l_inr, fa_nil, fa_inl, fa_inr, z_inl, z_inr, bt_v, bt_tup, bs_nil, bs_cons, g_v, g_at, s_v, ou_nil, ou_cons, wi_nil, wi_cons, ba_nil, ba_cons, pa_nil', pa_cons', po_none', po_some', it_lst, it_tup, fl_fl, ix_i, ixd_l, ixd_t, lo_nil, lo_d, wo_some, wo_none, wo_bind, wo_map, w_some, wo_ite, f_d, f_fl, fs_nil, fs_cons, a_nil, a_cons, o_add, o_sub, c_eq, c_ne, c_lt, c_le, c_gt, c_ge, q_int, q_bl, q_str, u_non, u_bl, u_int, u_tup, u_lst, big_eq, List.getElem?_cons_zero, List.getElem?_cons_succ, Option.join_some, Option.join_none, List.set_cons_zero, List.set_cons_succ, List.length_cons, List.length_nil, Nat.reduceAdd, Nat.reduceLT, Nat.reduceLeDiff, Nat.reduceSub, Nat.zero_le, Option.isSome_some, true_and, and_true, if_true, if_false, Bool.false_eq_true, Option.map_some, Option.map_none, Option.bind_some, List.map_cons, List.map_nil, List.cons_append, List.nil_append, List.append_nil, Bool.not_true, Bool.not_false, Bool.and_true, Bool.true_and, Bool.and_self, beq_self_eq_true, List.getElem?_nil, List.reduceReplicate, sl_str wb, sl_str ab8b, bi_lenS wb, add_str A1, add_str A2, add_str A3, add_str A4, add_str A5, add_str A6, bm_up U, lo_fl, f_ml, o_addLL, ex]
  exact q x o3 (hall x hx) ho3
def lits : List Str := ["", "a", "z", "abcdefgh", "abcdefghi", "A", "x1", " x", "x ", "look", "const", "num", "u", "us", "ands", "line", "any", "bad", "fault", "none", "ok", "every", "words", "zero", "wrong", "paper"]
theorem lits_fold : [D.str "", D.str "a", D.str "z", D.str "abcdefgh", D.str "abcdefghi", D.str "A", D.str "x1", D.str " x", D.str "x ", D.str "look", D.str "const", D.str "num", D.str "u", D.str "us", D.str "ands", D.str "line", D.str "any", D.str "bad", D.str "fault", D.str "none", D.str "ok", D.str "every", D.str "words", D.str "zero", D.str "wrong", D.str "paper"] = lits.map D.str := rfl
theorem lits_ok : ∀ s ∈ lits, Sok 1000 s := by
  have h : ∀ s ∈ lits, PyData.strOk s = true ∧ (sL s).length ≤ 1000 := by decide +kernel
  intro s hs
  exact Sok.of (h s hs).1 (h s hs).2
theorem kept_sok : ∀ s ∈ keptB, Sok 8 s := by
  have h : ∀ s ∈ keptB, PyData.strOk s = true ∧ (sL s).length ≤ 8 := by decide +kernel
  intro s hs
  exact Sok.of (h s hs).1 (h s hs).2
def ten39 : Int := 1000000000000000000000000000000000000000
theorem pow39 : opD .Pow (.int 10) (.int 39) = some (.d (.int ten39)) := by
  have h : (10 : Int) ^ (39 : Int).toNat = ten39 := by decide +kernel
  rw [o_pow (by decide) (by decide) (by decide), h]
def things : List D := [.non, .bl true, .bl false, .int 0, .int 1, .tup [], .tup [.str "a"], .lst [.str "a"], .dic (dsKv []), .dic (dsKv [("a", .int 1)]), .tup [.tup [.str "a"]], .lst [.lst [.lst [.lst [.str "a"]]]], .int ten39, .str "#x"]
theorem things_ok : ∀ d ∈ things, It d := by
  intro d hd
  simp only [things, List.mem_cons, List.not_mem_nil, or_false] at hd
  rcases hd with rfl | rfl | rfl | rfl | rfl | rfl | rfl | rfl | rfl | rfl | rfl | rfl | rfl | rfl
  · exact .inr ⟨by decide +kernel, repr_of (p := .none) rfl (by decide +kernel) (by decide +kernel) (by decide +kernel)⟩
  · exact .inr ⟨by decide +kernel, repr_of (p := .bool true) rfl (by decide +kernel) (by decide +kernel) (by decide +kernel)⟩
  · exact .inr ⟨by decide +kernel, repr_of (p := .bool false) rfl (by decide +kernel) (by decide +kernel) (by decide +kernel)⟩
  · exact .inr ⟨by decide +kernel, repr_of (p := .int 0) rfl (by decide +kernel) (by decide +kernel) (by decide +kernel)⟩
  · exact .inr ⟨by decide +kernel, repr_of (p := .int 1) rfl (by decide +kernel) (by decide +kernel) (by decide +kernel)⟩
  · exact .inr ⟨by decide +kernel, repr_of (p := .tuple []) rfl (by decide +kernel) (by decide +kernel) (by decide +kernel)⟩
  · exact .inr ⟨by decide +kernel, repr_of (p := .tuple [.str "a"]) rfl (by decide +kernel) (by decide +kernel) (by decide +kernel)⟩
  · exact .inr ⟨by decide +kernel, repr_of (p := .list [.str "a"]) rfl (by decide +kernel) (by decide +kernel) (by decide +kernel)⟩
  · exact .inr ⟨by decide +kernel, reprK_of (l := []) rfl (by decide +kernel) (by decide +kernel)⟩
  · exact .inr ⟨by decide +kernel, reprK_of (l := [(.str "a", .int 1)]) rfl (by decide +kernel) (by decide +kernel)⟩
  · exact .inr ⟨by decide +kernel, repr_of (p := .tuple [.tuple [.str "a"]]) rfl (by decide +kernel) (by decide +kernel) (by decide +kernel)⟩
  · exact .inr ⟨by decide +kernel, repr_of (p := .list [.list [.list [.list [.str "a"]]]]) rfl (by decide +kernel) (by decide +kernel) (by decide +kernel)⟩
  · exact .inr ⟨by decide +kernel, repr_of (p := .int ten39) rfl (by decide +kernel) (by decide +kernel) (by decide +kernel)⟩
  · exact .inl ⟨_, rfl, Sok.of (by decide +kernel) (by decide +kernel)⟩
theorem repr_bb (b : Bool) : ∃ r, biD .repr [.lst [.bl b, .bl b]] = some (.d (.str r)) := by
  cases b
  · exact repr_of (d := .lst [.bl false, .bl false]) (p := .list [.bool false, .bool false]) rfl (by decide +kernel) (by decide +kernel) (by decide +kernel)
  · exact repr_of (d := .lst [.bl true, .bl true]) (p := .list [.bool true, .bool true]) rfl (by decide +kernel) (by decide +kernel) (by decide +kernel)
end Pk01

namespace Pk01
open PySem Pw
theorem keptB_len : keptB.length = 25 := rfl
theorem lits_len : lits.length = 26 := rfl
theorem lo_ml (xs : List O) (os : List O) : lstO (.ml xs :: os) = .ml (.ml xs :: os) := if_neg (by simp [isDt])
theorem things_fold : [D.non, .bl true, .bl false, .int 0, .int 1, .tup [], .tup [.str "a"], .lst [.str "a"], .dic (dsKv []), .dic (dsKv [("a", .int 1)]), .tup [.tup [.str "a"]], .lst [.lst [.lst [.lst [.str "a"]]]], .int ten39, .str "#x"] = things := rfl
theorem things_len : things.length = 14 := rfl
theorem plain (ns : List Int) (h : ns.length ≤ 63) : run tab gv 60 "law" [.d (.xl (ns.map D.int))] = some (.d (.bl true), []) := by
  obtain ⟨cs, b, hdk, hok⟩ := deck_ok (G := gv) (tab := tab) tab__law_deck 58 h
  refine Wc.eq ?_
  rw [wc_run tab_law rfl]
  simp -implicitDefEqProofs only [w_k, w_sset, k_sset, k_sset', w_cmpQ, k_cmpQ, w_bm, k_bm, k_bm2, w_dsp, w_dgetd, k_dg, w_zip, k_zip, k_zip2, c_in, c_nin, c_isb, c_isnb, w_pl, w_mv, w_gl, w_bin, k_bin, k_bin2, w_neg, k_neg, w_tv, k_tv, k_tru, w_and, k_and, w_or, k_or, w_ife, k_ife, w_tup, k_tup, w_lst, k_lst, w_ix, k_ix, k_ix2, w_ixP, k_ixP, w_lenP, w_sl, k_sl, k_sl2, k_sl3, wo_eo_none, wo_eo_some, k_eo, w_rev, k_rev, k_back, w_callM, w_call, k_call, k_call2, w_bi, k_bi, w_isi, k_isi, w_lc, k_lc, k_lcb, w_nil, w_cons, k_cons, k_cons2, w_lend, w_wn, w_ws, w_seq, k_seq, w_rng1, k_rng1, w_rng2, k_rng2, k_rng22, w_val, k_val, w_not, k_not, w_andB, k_andB, w_orB, k_orB, w_cmp, k_cmp, k_cmp2, w_cmpP, k_cmpP, w_ch, k_ch, k_ch2, k_ch3, w_set, k_set, w_setT, k_setT, w_setI, k_setI, k_setI2, w_app, k_app, k_app2, w_ex, k_ex, w_ret, k_rt, w_retN, w_ifs, k_ifs, w_for, k_for, w_while, w_pass, w_brk, w_cont, k_nx, k_mrt, k_mbk, k_mct, w_snil, w_scons, w_fturn, w_turn, k_turn, k_turn2, k_lnx, k_lct, k_lbk, k_lrt, k_wnx, k_wct, k_wbk, k_wrt, k_wc, k_lts, k_ltn, k_drt, k_dnx, t_nil, t_inl, t_inr, b_nil, b_inl, b_inr, l_nil, l_inl, l_inr, fa_nil, fa_inl, fa_inr, z_inl, z_inr, bt_v, bt_tup, bs_nil, bs_cons, g_v, g_at, s_v, ou_nil, ou_cons, wi_nil, wi_cons, ba_nil, ba_cons, pa_nil', pa_cons', po_none', po_some', it_lst, it_tup, fl_fl, ix_i, ixd_l, ixd_t, lo_nil, lo_d, wo_some, wo_none, wo_bind, wo_map, w_some, wo_ite, f_d, f_fl, fs_nil, fs_cons, a_nil, a_cons, o_add, o_sub, c_eq, c_ne, c_lt, c_le, c_gt, c_ge, q_int, q_bl, q_str, u_non, u_bl, u_int, u_tup, u_lst, big_eq, List.getElem?_cons_zero, List.getElem?_cons_succ, Option.join_some, Option.join_none, List.set_cons_zero, List.set_cons_succ, List.length_cons, List.length_nil, Nat.reduceAdd, Nat.reduceLT, Nat.reduceLeDiff, Nat.reduceSub, Nat.zero_le, Option.isSome_some, true_and, and_true, if_true, if_false, Bool.false_eq_true, Option.map_some, Option.map_none, Option.bind_some, List.map_cons, List.map_nil, List.cons_append, List.nil_append, List.append_nil, Bool.not_true, Bool.not_false, Bool.and_true, Bool.true_and, Bool.and_self, beq_self_eq_true, List.getElem?_nil, List.reduceReplicate, d_law, Pw.start, io__law_deck, hdk, wc_some, io__law_kept, law_kept, o_addLL, lits_fold, List.length_map, keptB_len, lits_len, List.length_append]
  refine w_mapI (fun ρ => ∃ x, ρ = [some (.d (.xl (ns.map D.int))), some (deck cs b 0), some (.d (.lst (lits.map D.str))), none, none, x, none, none]) keptB D.str (fun s => D.str (s ++ "s")) ⟨_, rfl⟩ ?_ ?_
  · rintro s _ hm ⟨x, rfl⟩
    have A : (sL s).length + (sL (Str.ofString "s")).length ≤ 16000000 := by
      have := (kept_sok s hm).1
      have h1 : (sL (Str.ofString "s")).length = 1 := rfl
      omega
    simp -implicitDefEqProofs only [w_k, w_sset, k_sset, k_sset', w_cmpQ, k_cmpQ, w_bm, k_bm, k_bm2, w_dsp, w_dgetd, k_dg, w_zip, k_zip, k_zip2, c_in, c_nin, c_isb, c_isnb, w_pl, w_mv, w_gl, w_bin, k_bin, k_bin2, w_neg, k_neg, w_tv, k_tv, k_tru, w_and, k_and, w_or, k_or, w_ife, k_ife, w_tup, k_tup, w_lst, k_lst, w_ix, k_ix, k_ix2, w_ixP, k_ixP, w_lenP, w_sl, k_sl, k_sl2, k_sl3, wo_eo_none, wo_eo_some, k_eo, w_rev, k_rev, k_back, w_callM, w_call, k_call, k_call2, w_bi, k_bi, w_isi, k_isi, w_lc, k_lc, k_lcb, w_nil, w_cons, k_cons, k_cons2, w_lend, w_wn, w_ws, w_seq, k_seq, w_rng1, k_rng1, w_rng2, k_rng2, k_rng22, w_val, k_val, w_not, k_not, w_andB, k_andB, w_orB, k_orB, w_cmp, k_cmp, k_cmp2, w_cmpP, k_cmpP, w_ch, k_ch, k_ch2, k_ch3, w_set, k_set, w_setT, k_setT, w_setI, k_setI, k_setI2, w_app, k_app, k_app2, w_ex, k_ex, w_ret, k_rt, w_retN, w_ifs, k_ifs, w_for, k_for, w_while, w_pass, w_brk, w_cont, k_nx, k_mrt, k_mbk, k_mct, w_snil, w_scons, w_fturn, w_turn, k_turn, k_turn2, k_lnx, k_lct, k_lbk, k_lrt, k_wnx, k_wct, k_wbk, k_wrt, k_wc, k_lts, k_ltn, k_drt, k_dnx, t_nil, t_inl, t_inr, b_nil, b_inl, b_inr, l_nil, l_inl, l_inr, fa_nil, fa_inl, fa_inr, z_inl, z_inr, bt_v, bt_tup, bs_nil, bs_cons, g_v, g_at, s_v, ou_nil, ou_cons, wi_nil, wi_cons, ba_nil, ba_cons, pa_nil', pa_cons', po_none', po_some', it_lst, it_tup, fl_fl, ix_i, ixd_l, ixd_t, lo_nil, lo_d, wo_some, wo_none, wo_bind, wo_map, w_some, wo_ite, f_d, f_fl, fs_nil, fs_cons, a_nil, a_cons, o_add, o_sub, c_eq, c_ne, c_lt, c_le, c_gt, c_ge, q_int, q_bl, q_str, u_non, u_bl, u_int, u_tup, u_lst, big_eq, List.getElem?_cons_zero, List.getElem?_cons_succ, Option.join_some, Option.join_none, List.set_cons_zero, List.set_cons_succ, List.length_cons, List.length_nil, Nat.reduceAdd, Nat.reduceLT, Nat.reduceLeDiff, Nat.reduceSub, Nat.zero_le, Option.isSome_some, true_and, and_true, if_true, if_false, Bool.false_eq_true, Option.map_some, Option.map_none, Option.bind_some, List.map_cons, List.map_nil, List.cons_append, List.nil_append, List.append_nil, Bool.not_true, Bool.not_false, Bool.and_true, Bool.true_and, Bool.and_self, beq_self_eq_true, List.getElem?_nil, List.reduceReplicate, add_str A]
    exact ⟨_, rfl⟩
  rintro _ ⟨x, rfl⟩
  simp -implicitDefEqProofs only [w_k, w_sset, k_sset, k_sset', w_cmpQ, k_cmpQ, w_bm, k_bm, k_bm2, w_dsp, w_dgetd, k_dg, w_zip, k_zip, k_zip2, c_in, c_nin, c_isb, c_isnb, w_pl, w_mv, w_gl, w_bin, k_bin, k_bin2, w_neg, k_neg, w_tv, k_tv, k_tru, w_and, k_and, w_or, k_or, w_ife, k_ife, w_tup, k_tup, w_lst, k_lst, w_ix, k_ix, k_ix2, w_ixP, k_ixP, w_lenP, w_sl, k_sl, k_sl2, k_sl3, wo_eo_none, wo_eo_some, k_eo, w_rev, k_rev, k_back, w_callM, w_call, k_call, k_call2, w_bi, k_bi, w_isi, k_isi, w_lc, k_lc, k_lcb, w_nil, w_cons, k_cons, k_cons2, w_lend, w_wn, w_ws, w_seq, k_seq, w_rng1, k_rng1, w_rng2, k_rng2, k_rng22, w_val, k_val, w_not, k_not, w_andB, k_andB, w_orB, k_orB, w_cmp, k_cmp, k_cmp2, w_cmpP, k_cmpP, w_ch, k_ch, k_ch2, k_ch3, w_set, k_set, w_setT, k_setT, w_setI, k_setI, k_setI2, w_app, k_app, k_app2, w_ex, k_ex, w_ret, k_rt, w_retN, w_ifs, k_ifs, w_for, k_for, w_while, w_pass, w_brk, w_cont, k_nx, k_mrt, k_mbk, k_mct, w_snil, w_scons, w_fturn, w_turn, k_turn, k_turn2, k_lnx, k_lct, k_lbk, k_lrt, k_wnx, k_wct, k_wbk, k_wrt, k_wc, k_lts, k_ltn, k_drt, k_dnx, t_nil, t_inl, t_inr, b_nil, b_inl, b_inr, l_nil, l_inl, l_inr, fa_nil, fa_inl, fa_inr, z_inl, z_inr, bt_v, bt_tup, bs_nil, bs_cons, g_v, g_at, s_v, ou_nil, ou_cons, wi_nil, wi_cons, ba_nil, ba_cons, pa_nil', pa_cons', po_none', po_some', it_lst, it_tup, fl_fl, ix_i, ixd_l, ixd_t, lo_nil, lo_d, wo_some, wo_none, wo_bind, wo_map, w_some, wo_ite, f_d, f_fl, fs_nil, fs_cons, a_nil, a_cons, o_add, o_sub, c_eq, c_ne, c_lt, c_le, c_gt, c_ge, q_int, q_bl, q_str, u_non, u_bl, u_int, u_tup, u_lst, big_eq, List.getElem?_cons_zero, List.getElem?_cons_succ, Option.join_some, Option.join_none, List.set_cons_zero, List.set_cons_succ, List.length_cons, List.length_nil, Nat.reduceAdd, Nat.reduceLT, Nat.reduceLeDiff, Nat.reduceSub, Nat.zero_le, Option.isSome_some, true_and, and_true, if_true, if_false, Bool.false_eq_true, Option.map_some, Option.map_none, Option.bind_some, List.map_cons, List.map_nil, List.cons_append, List.nil_append, List.append_nil, Bool.not_true, Bool.not_false, Bool.and_true, Bool.true_and, Bool.and_self, beq_self_eq_true, List.getElem?_nil, List.reduceReplicate, io__law_kept, law_kept, wc_some, o_addLL, List.length_map, keptB_len, lits_len, List.length_append]
  refine w_mapI (fun ρ => ∃ x, ρ = [some (.d (.xl (ns.map D.int))), some (deck cs b 0), some (.d (.lst (lits.map D.str))), none, none, x, none, none]) keptB D.str (fun s => D.str (L2.cutS s none (some (-1)))) ⟨_, rfl⟩ ?_ ?_
  · rintro s _ hm ⟨x, rfl⟩
    simp -implicitDefEqProofs only [w_k, w_sset, k_sset, k_sset', w_cmpQ, k_cmpQ, w_bm, k_bm, k_bm2, w_dsp, w_dgetd, k_dg, w_zip, k_zip, k_zip2, c_in, c_nin, c_isb, c_isnb, w_pl, w_mv, w_gl, w_bin, k_bin, k_bin2, w_neg, k_neg, w_tv, k_tv, k_tru, w_and, k_and, w_or, k_or, w_ife, k_ife, w_tup, k_tup, w_lst, k_lst, w_ix, k_ix, k_ix2, w_ixP, k_ixP, w_lenP, w_sl, k_sl, k_sl2, k_sl3, wo_eo_none, wo_eo_some, k_eo, w_rev, k_rev, k_back, w_callM, w_call, k_call, k_call2, w_bi, k_bi, w_isi, k_isi, w_lc, k_lc, k_lcb, w_nil, w_cons, k_cons, k_cons2, w_lend, w_wn, w_ws, w_seq, k_seq, w_rng1, k_rng1, w_rng2, k_rng2, k_rng22, w_val, k_val, w_not, k_not, w_andB, k_andB, w_orB, k_orB, w_cmp, k_cmp, k_cmp2, w_cmpP, k_cmpP, w_ch, k_ch, k_ch2, k_ch3, w_set, k_set, w_setT, k_setT, w_setI, k_setI, k_setI2, w_app, k_app, k_app2, w_ex, k_ex, w_ret, k_rt, w_retN, w_ifs, k_ifs, w_for, k_for, w_while, w_pass, w_brk, w_cont, k_nx, k_mrt, k_mbk, k_mct, w_snil, w_scons, w_fturn, w_turn, k_turn, k_turn2, k_lnx, k_lct, k_lbk, k_lrt, k_wnx, k_wct, k_wbk, k_wrt, k_wc, k_lts, k_ltn, k_drt, k_dnx, t_nil, t_inl, t_inr, b_nil, b_inl, b_inr, l_nil, l_inl, l_inr, fa_nil, fa_inl, fa_inr, z_inl, z_inr, bt_v, bt_tup, bs_nil, bs_cons, g_v, g_at, s_v, ou_nil, ou_cons, wi_nil, wi_cons, ba_nil, ba_cons, pa_nil', pa_cons', po_none', po_some', it_lst, it_tup, fl_fl, ix_i, ixd_l, ixd_t, lo_nil, lo_d, wo_some, wo_none, wo_bind, wo_map, w_some, wo_ite, f_d, f_fl, fs_nil, fs_cons, a_nil, a_cons, o_add, o_sub, c_eq, c_ne, c_lt, c_le, c_gt, c_ge, q_int, q_bl, q_str, u_non, u_bl, u_int, u_tup, u_lst, big_eq, List.getElem?_cons_zero, List.getElem?_cons_succ, Option.join_some, Option.join_none, List.set_cons_zero, List.set_cons_succ, List.length_cons, List.length_nil, Nat.reduceAdd, Nat.reduceLT, Nat.reduceLeDiff, Nat.reduceSub, Nat.zero_le, Option.isSome_some, true_and, and_true, if_true, if_false, Bool.false_eq_true, Option.map_some, Option.map_none, Option.bind_some, List.map_cons, List.map_nil, List.cons_append, List.nil_append, List.append_nil, Bool.not_true, Bool.not_false, Bool.and_true, Bool.true_and, Bool.and_self, beq_self_eq_true, List.getElem?_nil, List.reduceReplicate, sl_str ((kept_sok s hm).len (by omega))]
    exact ⟨_, rfl⟩
  rintro _ ⟨x, rfl⟩
  simp -implicitDefEqProofs only [w_k, w_sset, k_sset, k_sset', w_cmpQ, k_cmpQ, w_bm, k_bm, k_bm2, w_dsp, w_dgetd, k_dg, w_zip, k_zip, k_zip2, c_in, c_nin, c_isb, c_isnb, w_pl, w_mv, w_gl, w_bin, k_bin, k_bin2, w_neg, k_neg, w_tv, k_tv, k_tru, w_and, k_and, w_or, k_or, w_ife, k_ife, w_tup, k_tup, w_lst, k_lst, w_ix, k_ix, k_ix2, w_ixP, k_ixP, w_lenP, w_sl, k_sl, k_sl2, k_sl3, wo_eo_none, wo_eo_some, k_eo, w_rev, k_rev, k_back, w_callM, w_call, k_call, k_call2, w_bi, k_bi, w_isi, k_isi, w_lc, k_lc, k_lcb, w_nil, w_cons, k_cons, k_cons2, w_lend, w_wn, w_ws, w_seq, k_seq, w_rng1, k_rng1, w_rng2, k_rng2, k_rng22, w_val, k_val, w_not, k_not, w_andB, k_andB, w_orB, k_orB, w_cmp, k_cmp, k_cmp2, w_cmpP, k_cmpP, w_ch, k_ch, k_ch2, k_ch3, w_set, k_set, w_setT, k_setT, w_setI, k_setI, k_setI2, w_app, k_app, k_app2, w_ex, k_ex, w_ret, k_rt, w_retN, w_ifs, k_ifs, w_for, k_for, w_while, w_pass, w_brk, w_cont, k_nx, k_mrt, k_mbk, k_mct, w_snil, w_scons, w_fturn, w_turn, k_turn, k_turn2, k_lnx, k_lct, k_lbk, k_lrt, k_wnx, k_wct, k_wbk, k_wrt, k_wc, k_lts, k_ltn, k_drt, k_dnx, t_nil, t_inl, t_inr, b_nil, b_inl, b_inr, l_nil, l_inl, l_inr, fa_nil, fa_inl, fa_inr, z_inl, z_inr, bt_v, bt_tup, bs_nil, bs_cons, g_v, g_at, s_v, ou_nil, ou_cons, wi_nil, wi_cons, ba_nil, ba_cons, pa_nil', pa_cons', po_none', po_some', it_lst, it_tup, fl_fl, ix_i, ixd_l, ixd_t, lo_nil, lo_d, wo_some, wo_none, wo_bind, wo_map, w_some, wo_ite, f_d, f_fl, fs_nil, fs_cons, a_nil, a_cons, o_add, o_sub, c_eq, c_ne, c_lt, c_le, c_gt, c_ge, q_int, q_bl, q_str, u_non, u_bl, u_int, u_tup, u_lst, big_eq, List.getElem?_cons_zero, List.getElem?_cons_succ, Option.join_some, Option.join_none, List.set_cons_zero, List.set_cons_succ, List.length_cons, List.length_nil, Nat.reduceAdd, Nat.reduceLT, Nat.reduceLeDiff, Nat.reduceSub, Nat.zero_le, Option.isSome_some, true_and, and_true, if_true, if_false, Bool.false_eq_true, Option.map_some, Option.map_none, Option.bind_some, List.map_cons, List.map_nil, List.cons_append, List.nil_append, List.append_nil, Bool.not_true, Bool.not_false, Bool.and_true, Bool.true_and, Bool.and_self, beq_self_eq_true, List.getElem?_nil, List.reduceReplicate, o_addLL, List.length_map, keptB_len, lits_len, List.length_append, lo_fl, lo_ml, f_ml, pow39, things_fold, things_len, rng0 (show (0 : Int) ≤ 3 by omega) (show (3 : Int) ≤ 1000000 by omega)]
  have hL : ∀ d ∈ lits.map D.str ++ keptB.map D.str ++ keptB.map (fun s => D.str (s ++ "s")) ++ keptB.map (fun s => D.str (L2.cutS s none (some (-1)))) ++ things, It d := by
    intro d hd
    have s1 : Sok 1 (Str.ofString "s") := Sok.of (by decide +kernel) (by decide +kernel)
    rcases List.mem_append.mp hd with z | z
    · rcases List.mem_append.mp z with z | z
      · rcases List.mem_append.mp z with z | z
        · rcases List.mem_append.mp z with z | z
          · obtain ⟨s, hs, rfl⟩ := List.mem_map.mp z
            exact .inl ⟨s, rfl, lits_ok s hs⟩
          · obtain ⟨s, hs, rfl⟩ := List.mem_map.mp z
            exact .inl ⟨s, rfl, (kept_sok s hs).mono (by omega)⟩
        · obtain ⟨s, hs, rfl⟩ := List.mem_map.mp z
          exact .inl ⟨_, rfl, ((kept_sok s hs).add s1).mono (by omega)⟩
      · obtain ⟨s, hs, rfl⟩ := List.mem_map.mp z
        exact .inl ⟨_, rfl, ((kept_sok s hs).cut _ _).mono (by omega)⟩
    · exact things_ok d z
  have hLl : (lits.map D.str ++ keptB.map D.str ++ keptB.map (fun s => D.str (s ++ "s")) ++ keptB.map (fun s => D.str (L2.cutS s none (some (-1)))) ++ things).length ≤ 200 := by
    simp only [List.length_append, List.length_map, keptB_len, lits_len, things_len]; omega
  generalize lits.map D.str ++ keptB.map D.str ++ keptB.map (fun s => D.str (s ++ "s")) ++ keptB.map (fun s => D.str (L2.cutS s none (some (-1)))) ++ things = L at hL hLl
  refine w_loop (fun i ρ => ∃ o L x3 x5, ρ = [some (.d (.xl (ns.map D.int))), some o, some (.fl L), x3, none, x5, none, none] ∧ Deck o ∧ (∀ d ∈ L, It d) ∧ L.length ≤ 200 + 100 * i) ⟨_, L, _, _, rfl, ⟨cs, b, 0, rfl, hok⟩, hL, by omega⟩ ?_ ?_
  · rintro i d _ hd ⟨o, L, x3, x5, rfl, ho, hL, hl⟩
    obtain ⟨hi, rfl⟩ := rngL_get hd
    have hi3 : i < 3 := hi
    simp -implicitDefEqProofs only [w_k, w_sset, k_sset, k_sset', w_cmpQ, k_cmpQ, w_bm, k_bm, k_bm2, w_dsp, w_dgetd, k_dg, w_zip, k_zip, k_zip2, c_in, c_nin, c_isb, c_isnb, w_pl, w_mv, w_gl, w_bin, k_bin, k_bin2, w_neg, k_neg, w_tv, k_tv, k_tru, w_and, k_and, w_or, k_or, w_ife, k_ife, w_tup, k_tup, w_lst, k_lst, w_ix, k_ix, k_ix2, w_ixP, k_ixP, w_lenP, w_sl, k_sl, k_sl2, k_sl3, wo_eo_none, wo_eo_some, k_eo, w_rev, k_rev, k_back, w_callM, w_call, k_call, k_call2, w_bi, k_bi, w_isi, k_isi, w_lc, k_lc, k_lcb, w_nil, w_cons, k_cons, k_cons2, w_lend, w_wn, w_ws, w_seq, k_seq, w_rng1, k_rng1, w_rng2, k_rng2, k_rng22, w_val, k_val, w_not, k_not, w_andB, k_andB, w_orB, k_orB, w_cmp, k_cmp, k_cmp2, w_cmpP, k_cmpP, w_ch, k_ch, k_ch2, k_ch3, w_set, k_set, w_setT, k_setT, w_setI, k_setI, k_setI2, w_app, k_app, k_app2, w_ex, k_ex, w_ret, k_rt, w_retN, w_ifs, k_ifs, w_for, k_for, w_while, w_pass, w_brk, w_cont, k_nx, k_mrt, k_mbk, k_mct, w_snil, w_scons, w_fturn, w_turn, k_turn, k_turn2, k_lnx, k_lct, k_lbk, k_lrt, k_wnx, k_wct, k_wbk, k_wrt, k_wc, k_lts, k_ltn, k_drt, k_dnx, t_nil, t_inl, t_inr, b_nil, b_inl, b_inr, l_nil, l_inl, l_inr, fa_nil, fa_inl, fa_inr, z_inl, z_inr, bt_v, bt_tup, bs_nil, bs_cons, g_v, g_at, s_v, ou_nil, ou_cons, wi_nil, wi_cons, ba_nil, ba_cons, pa_nil', pa_cons', po_none', po_some', it_lst, it_tup, fl_fl, ix_i, ixd_l, ixd_t, lo_nil, lo_d, wo_some, wo_none, wo_bind, wo_map, w_some, wo_ite, f_d, f_fl, fs_nil, fs_cons, a_nil, a_cons, o_add, o_sub, c_eq, c_ne, c_lt, c_le, c_gt, c_ge, q_int, q_bl, q_str, u_non, u_bl, u_int, u_tup, u_lst, big_eq, List.getElem?_cons_zero, List.getElem?_cons_succ, Option.join_some, Option.join_none, List.set_cons_zero, List.set_cons_succ, List.length_cons, List.length_nil, Nat.reduceAdd, Nat.reduceLT, Nat.reduceLeDiff, Nat.reduceSub, Nat.zero_le, Option.isSome_some, true_and, and_true, if_true, if_false, Bool.false_eq_true, Option.map_some, Option.map_none, Option.bind_some, List.map_cons, List.map_nil, List.cons_append, List.nil_append, List.append_nil, Bool.not_true, Bool.not_false, Bool.and_true, Bool.true_and, Bool.and_self, beq_self_eq_true, List.getElem?_nil, List.reduceReplicate, io__law_names]
    refine wc_names ht_draw ht_names io__law_draw _ ho fun N o' hN hNl ho' => ?_
    simp -implicitDefEqProofs only [w_k, w_sset, k_sset, k_sset', w_cmpQ, k_cmpQ, w_bm, k_bm, k_bm2, w_dsp, w_dgetd, k_dg, w_zip, k_zip, k_zip2, c_in, c_nin, c_isb, c_isnb, w_pl, w_mv, w_gl, w_bin, k_bin, k_bin2, w_neg, k_neg, w_tv, k_tv, k_tru, w_and, k_and, w_or, k_or, w_ife, k_ife, w_tup, k_tup, w_lst, k_lst, w_ix, k_ix, k_ix2, w_ixP, k_ixP, w_lenP, w_sl, k_sl, k_sl2, k_sl3, wo_eo_none, wo_eo_some, k_eo, w_rev, k_rev, k_back, w_callM, w_call, k_call, k_call2, w_bi, k_bi, w_isi, k_isi, w_lc, k_lc, k_lcb, w_nil, w_cons, k_cons, k_cons2, w_lend, w_wn, w_ws, w_seq, k_seq, w_rng1, k_rng1, w_rng2, k_rng2, k_rng22, w_val, k_val, w_not, k_not, w_andB, k_andB, w_orB, k_orB, w_cmp, k_cmp, k_cmp2, w_cmpP, k_cmpP, w_ch, k_ch, k_ch2, k_ch3, w_set, k_set, w_setT, k_setT, w_setI, k_setI, k_setI2, w_app, k_app, k_app2, w_ex, k_ex, w_ret, k_rt, w_retN, w_ifs, k_ifs, w_for, k_for, w_while, w_pass, w_brk, w_cont, k_nx, k_mrt, k_mbk, k_mct, w_snil, w_scons, w_fturn, w_turn, k_turn, k_turn2, k_lnx, k_lct, k_lbk, k_lrt, k_wnx, k_wct, k_wbk, k_wrt, k_wc, k_lts, k_ltn, k_drt, k_dnx, t_nil, t_inl, t_inr, b_nil, b_inl, b_inr, l_nil, l_inl, l_inr, fa_nil, fa_inl, fa_inr, z_inl, z_inr, bt_v, bt_tup, bs_nil, bs_cons, g_v, g_at, s_v, ou_nil, ou_cons, wi_nil, wi_cons, ba_nil, ba_cons, pa_nil', pa_cons', po_none', po_some', it_lst, it_tup, fl_fl, ix_i, ixd_l, ixd_t, lo_nil, lo_d, wo_some, wo_none, wo_bind, wo_map, w_some, wo_ite, f_d, f_fl, fs_nil, fs_cons, a_nil, a_cons, o_add, o_sub, c_eq, c_ne, c_lt, c_le, c_gt, c_ge, q_int, q_bl, q_str, u_non, u_bl, u_int, u_tup, u_lst, big_eq, List.getElem?_cons_zero, List.getElem?_cons_succ, Option.join_some, Option.join_none, List.set_cons_zero, List.set_cons_succ, List.length_cons, List.length_nil, Nat.reduceAdd, Nat.reduceLT, Nat.reduceLeDiff, Nat.reduceSub, Nat.zero_le, Option.isSome_some, true_and, and_true, if_true, if_false, Bool.false_eq_true, Option.map_some, Option.map_none, Option.bind_some, List.map_cons, List.map_nil, List.cons_append, List.nil_append, List.append_nil, Bool.not_true, Bool.not_false, Bool.and_true, Bool.true_and, Bool.and_self, beq_self_eq_true, List.getElem?_nil, List.reduceReplicate]
    refine w_loop (fun j ρ => ∃ o L z x5, ρ = [some (.d (.xl (ns.map D.int))), some o, some z, some (.d (.int (0 + (i : Int)))), none, x5, none, none] ∧ Deck o ∧ z = .fl L ∧ (∀ d ∈ L, It d) ∧ L.length ≤ 200 + 100 * i + 3 * j) ⟨_, L, _, _, rfl, ho', rfl, hL, by omega⟩ ?_ ?_
    · rintro j d _ hd ⟨o, L, z, x5, rfl, ho, rfl, hL, hl⟩
      have hj : j < N.length := by
        have := (List.getElem?_eq_some_iff.mp hd).1
        simpa using this
      rw [List.getElem?_map] at hd
      cases hr : N[j]? with
      | none => rw [hr] at hd; cases hd
      | some s =>
        rw [hr] at hd
        cases hd
        have hs := (hN s (List.mem_of_getElem? hr)).1
        simp -implicitDefEqProofs only [w_k, w_sset, k_sset, k_sset', w_cmpQ, k_cmpQ, w_bm, k_bm, k_bm2, w_dsp, w_dgetd, k_dg, w_zip, k_zip, k_zip2, c_in, c_nin, c_isb, c_isnb, w_pl, w_mv, w_gl, w_bin, k_bin, k_bin2, w_neg, k_neg, w_tv, k_tv, k_tru, w_and, k_and, w_or, k_or, w_ife, k_ife, w_tup, k_tup, w_lst, k_lst, w_ix, k_ix, k_ix2, w_ixP, k_ixP, w_lenP, w_sl, k_sl, k_sl2, k_sl3, wo_eo_none, wo_eo_some, k_eo, w_rev, k_rev, k_back, w_callM, w_call, k_call, k_call2, w_bi, k_bi, w_isi, k_isi, w_lc, k_lc, k_lcb, w_nil, w_cons, k_cons, k_cons2, w_lend, w_wn, w_ws, w_seq, k_seq, w_rng1, k_rng1, w_rng2, k_rng2, k_rng22, w_val, k_val, w_not, k_not, w_andB, k_andB, w_orB, k_orB, w_cmp, k_cmp, k_cmp2, w_cmpP, k_cmpP, w_ch, k_ch, k_ch2, k_ch3, w_set, k_set, w_setT, k_setT, w_setI, k_setI, k_setI2, w_app, k_app, k_app2, w_ex, k_ex, w_ret, k_rt, w_retN, w_ifs, k_ifs, w_for, k_for, w_while, w_pass, w_brk, w_cont, k_nx, k_mrt, k_mbk, k_mct, w_snil, w_scons, w_fturn, w_turn, k_turn, k_turn2, k_lnx, k_lct, k_lbk, k_lrt, k_wnx, k_wct, k_wbk, k_wrt, k_wc, k_lts, k_ltn, k_drt, k_dnx, t_nil, t_inl, t_inr, b_nil, b_inl, b_inr, l_nil, l_inl, l_inr, fa_nil, fa_inl, fa_inr, z_inl, z_inr, bt_v, bt_tup, bs_nil, bs_cons, g_v, g_at, s_v, ou_nil, ou_cons, wi_nil, wi_cons, ba_nil, ba_cons, pa_nil', pa_cons', po_none', po_some', it_lst, it_tup, fl_fl, ix_i, ixd_l, ixd_t, lo_nil, lo_d, wo_some, wo_none, wo_bind, wo_map, w_some, wo_ite, f_d, f_fl, fs_nil, fs_cons, a_nil, a_cons, o_add, o_sub, c_eq, c_ne, c_lt, c_le, c_gt, c_ge, q_int, q_bl, q_str, u_non, u_bl, u_int, u_tup, u_lst, big_eq, List.getElem?_cons_zero, List.getElem?_cons_succ, Option.join_some, Option.join_none, List.set_cons_zero, List.set_cons_succ, List.length_cons, List.length_nil, Nat.reduceAdd, Nat.reduceLT, Nat.reduceLeDiff, Nat.reduceSub, Nat.zero_le, Option.isSome_some, true_and, and_true, if_true, if_false, Bool.false_eq_true, Option.map_some, Option.map_none, Option.bind_some, List.map_cons, List.map_nil, List.cons_append, List.nil_append, List.append_nil, Bool.not_true, Bool.not_false, Bool.and_true, Bool.true_and, Bool.and_self, beq_self_eq_true, List.getElem?_nil, List.reduceReplicate, io__law_near]
        refine wc_near _ ho hs fun d1 o1 h1 ho1 => ?_
        simp -implicitDefEqProofs only [w_k, w_sset, k_sset, k_sset', w_cmpQ, k_cmpQ, w_bm, k_bm, k_bm2, w_dsp, w_dgetd, k_dg, w_zip, k_zip, k_zip2, c_in, c_nin, c_isb, c_isnb, w_pl, w_mv, w_gl, w_bin, k_bin, k_bin2, w_neg, k_neg, w_tv, k_tv, k_tru, w_and, k_and, w_or, k_or, w_ife, k_ife, w_tup, k_tup, w_lst, k_lst, w_ix, k_ix, k_ix2, w_ixP, k_ixP, w_lenP, w_sl, k_sl, k_sl2, k_sl3, wo_eo_none, wo_eo_some, k_eo, w_rev, k_rev, k_back, w_callM, w_call, k_call, k_call2, w_bi, k_bi, w_isi, k_isi, w_lc, k_lc, k_lcb, w_nil, w_cons, k_cons, k_cons2, w_lend, w_wn, w_ws, w_seq, k_seq, w_rng1, k_rng1, w_rng2, k_rng2, k_rng22, w_val, k_val, w_not, k_not, w_andB, k_andB, w_orB, k_orB, w_cmp, k_cmp, k_cmp2, w_cmpP, k_cmpP, w_ch, k_ch, k_ch2, k_ch3, w_set, k_set, w_setT, k_setT, w_setI, k_setI, k_setI2, w_app, k_app, k_app2, w_ex, k_ex, w_ret, k_rt, w_retN, w_ifs, k_ifs, w_for, k_for, w_while, w_pass, w_brk, w_cont, k_nx, k_mrt, k_mbk, k_mct, w_snil, w_scons, w_fturn, w_turn, k_turn, k_turn2, k_lnx, k_lct, k_lbk, k_lrt, k_wnx, k_wct, k_wbk, k_wrt, k_wc, k_lts, k_ltn, k_drt, k_dnx, t_nil, t_inl, t_inr, b_nil, b_inl, b_inr, l_nil, l_inl, l_inr, fa_nil, fa_inl, fa_inr, z_inl, z_inr, bt_v, bt_tup, bs_nil, bs_cons, g_v, g_at, s_v, ou_nil, ou_cons, wi_nil, wi_cons, ba_nil, ba_cons, pa_nil', pa_cons', po_none', po_some', it_lst, it_tup, fl_fl, ix_i, ixd_l, ixd_t, lo_nil, lo_d, wo_some, wo_none, wo_bind, wo_map, w_some, wo_ite, f_d, f_fl, fs_nil, fs_cons, a_nil, a_cons, o_add, o_sub, c_eq, c_ne, c_lt, c_le, c_gt, c_ge, q_int, q_bl, q_str, u_non, u_bl, u_int, u_tup, u_lst, big_eq, List.getElem?_cons_zero, List.getElem?_cons_succ, Option.join_some, Option.join_none, List.set_cons_zero, List.set_cons_succ, List.length_cons, List.length_nil, Nat.reduceAdd, Nat.reduceLT, Nat.reduceLeDiff, Nat.reduceSub, Nat.zero_le, Option.isSome_some, true_and, and_true, if_true, if_false, Bool.false_eq_true, Option.map_some, Option.map_none, Option.bind_some, List.map_cons, List.map_nil, List.cons_append, List.nil_append, List.append_nil, Bool.not_true, Bool.not_false, Bool.and_true, Bool.true_and, Bool.and_self, beq_self_eq_true, List.getElem?_nil, List.reduceReplicate, io__law_near]
        refine wc_near _ ho1 hs fun d2 o2 h2 ho2 => ?_
        have e := o_addLL (a := L) (b := [D.str s, d1, d2]) (by simp; omega)
        simp -implicitDefEqProofs only [w_k, w_sset, k_sset, k_sset', w_cmpQ, k_cmpQ, w_bm, k_bm, k_bm2, w_dsp, w_dgetd, k_dg, w_zip, k_zip, k_zip2, c_in, c_nin, c_isb, c_isnb, w_pl, w_mv, w_gl, w_bin, k_bin, k_bin2, w_neg, k_neg, w_tv, k_tv, k_tru, w_and, k_and, w_or, k_or, w_ife, k_ife, w_tup, k_tup, w_lst, k_lst, w_ix, k_ix, k_ix2, w_ixP, k_ixP, w_lenP, w_sl, k_sl, k_sl2, k_sl3, wo_eo_none, wo_eo_some, k_eo, w_rev, k_rev, k_back, w_callM, w_call, k_call, k_call2, w_bi, k_bi, w_isi, k_isi, w_lc, k_lc, k_lcb, w_nil, w_cons, k_cons, k_cons2, w_lend, w_wn, w_ws, w_seq, k_seq, w_rng1, k_rng1, w_rng2, k_rng2, k_rng22, w_val, k_val, w_not, k_not, w_andB, k_andB, w_orB, k_orB, w_cmp, k_cmp, k_cmp2, w_cmpP, k_cmpP, w_ch, k_ch, k_ch2, k_ch3, w_set, k_set, w_setT, k_setT, w_setI, k_setI, k_setI2, w_app, k_app, k_app2, w_ex, k_ex, w_ret, k_rt, w_retN, w_ifs, k_ifs, w_for, k_for, w_while, w_pass, w_brk, w_cont, k_nx, k_mrt, k_mbk, k_mct, w_snil, w_scons, w_fturn, w_turn, k_turn, k_turn2, k_lnx, k_lct, k_lbk, k_lrt, k_wnx, k_wct, k_wbk, k_wrt, k_wc, k_lts, k_ltn, k_drt, k_dnx, t_nil, t_inl, t_inr, b_nil, b_inl, b_inr, l_nil, l_inl, l_inr, fa_nil, fa_inl, fa_inr, z_inl, z_inr, bt_v, bt_tup, bs_nil, bs_cons, g_v, g_at, s_v, ou_nil, ou_cons, wi_nil, wi_cons, ba_nil, ba_cons, pa_nil', pa_cons', po_none', po_some', it_lst, it_tup, fl_fl, ix_i, ixd_l, ixd_t, lo_nil, lo_d, wo_some, wo_none, wo_bind, wo_map, w_some, wo_ite, f_d, f_fl, fs_nil, fs_cons, a_nil, a_cons, o_add, o_sub, c_eq, c_ne, c_lt, c_le, c_gt, c_ge, q_int, q_bl, q_str, u_non, u_bl, u_int, u_tup, u_lst, big_eq, List.getElem?_cons_zero, List.getElem?_cons_succ, Option.join_some, Option.join_none, List.set_cons_zero, List.set_cons_succ, List.length_cons, List.length_nil, Nat.reduceAdd, Nat.reduceLT, Nat.reduceLeDiff, Nat.reduceSub, Nat.zero_le, Option.isSome_some, true_and, and_true, if_true, if_false, Bool.false_eq_true, Option.map_some, Option.map_none, Option.bind_some, List.map_cons, List.map_nil, List.cons_append, List.nil_append, List.append_nil, Bool.not_true, Bool.not_false, Bool.and_true, Bool.true_and, Bool.and_self, beq_self_eq_true, List.getElem?_nil, List.reduceReplicate, e]
        refine ⟨o2, L ++ [D.str s, d1, d2], _, _, rfl, ho2, rfl, fun d hd => ?_, by simp; omega⟩
        rcases List.mem_append.mp hd with z | z
        · exact hL d z
        · simp only [List.mem_cons, List.not_mem_nil, or_false] at z
          rcases z with rfl | rfl | rfl
          · exact .inl ⟨s, rfl, hs.ok.mono (by omega)⟩
          · exact h1
          · exact h2
    · rintro _ ⟨o, L, z, x5, rfl, ho, rfl, hL, hl⟩
      rw [List.length_map] at hl
      simp -implicitDefEqProofs only [w_k, w_sset, k_sset, k_sset', w_cmpQ, k_cmpQ, w_bm, k_bm, k_bm2, w_dsp, w_dgetd, k_dg, w_zip, k_zip, k_zip2, c_in, c_nin, c_isb, c_isnb, w_pl, w_mv, w_gl, w_bin, k_bin, k_bin2, w_neg, k_neg, w_tv, k_tv, k_tru, w_and, k_and, w_or, k_or, w_ife, k_ife, w_tup, k_tup, w_lst, k_lst, w_ix, k_ix, k_ix2, w_ixP, k_ixP, w_lenP, w_sl, k_sl, k_sl2, k_sl3, wo_eo_none, wo_eo_some, k_eo, w_rev, k_rev, k_back, w_callM, w_call, k_call, k_call2, w_bi, k_bi, w_isi, k_isi, w_lc, k_lc, k_lcb, w_nil, w_cons, k_cons, k_cons2, w_lend, w_wn, w_ws, w_seq, k_seq, w_rng1, k_rng1, w_rng2, k_rng2, k_rng22, w_val, k_val, w_not, k_not, w_andB, k_andB, w_orB, k_orB, w_cmp, k_cmp, k_cmp2, w_cmpP, k_cmpP, w_ch, k_ch, k_ch2, k_ch3, w_set, k_set, w_setT, k_setT, w_setI, k_setI, k_setI2, w_app, k_app, k_app2, w_ex, k_ex, w_ret, k_rt, w_retN, w_ifs, k_ifs, w_for, k_for, w_while, w_pass, w_brk, w_cont, k_nx, k_mrt, k_mbk, k_mct, w_snil, w_scons, w_fturn, w_turn, k_turn, k_turn2, k_lnx, k_lct, k_lbk, k_lrt, k_wnx, k_wct, k_wbk, k_wrt, k_wc, k_lts, k_ltn, k_drt, k_dnx, t_nil, t_inl, t_inr, b_nil, b_inl, b_inr, l_nil, l_inl, l_inr, fa_nil, fa_inl, fa_inr, z_inl, z_inr, bt_v, bt_tup, bs_nil, bs_cons, g_v, g_at, s_v, ou_nil, ou_cons, wi_nil, wi_cons, ba_nil, ba_cons, pa_nil', pa_cons', po_none', po_some', it_lst, it_tup, fl_fl, ix_i, ixd_l, ixd_t, lo_nil, lo_d, wo_some, wo_none, wo_bind, wo_map, w_some, wo_ite, f_d, f_fl, fs_nil, fs_cons, a_nil, a_cons, o_add, o_sub, c_eq, c_ne, c_lt, c_le, c_gt, c_ge, q_int, q_bl, q_str, u_non, u_bl, u_int, u_tup, u_lst, big_eq, List.getElem?_cons_zero, List.getElem?_cons_succ, Option.join_some, Option.join_none, List.set_cons_zero, List.set_cons_succ, List.length_cons, List.length_nil, Nat.reduceAdd, Nat.reduceLT, Nat.reduceLeDiff, Nat.reduceSub, Nat.zero_le, Option.isSome_some, true_and, and_true, if_true, if_false, Bool.false_eq_true, Option.map_some, Option.map_none, Option.bind_some, List.map_cons, List.map_nil, List.cons_append, List.nil_append, List.append_nil, Bool.not_true, Bool.not_false, Bool.and_true, Bool.true_and, Bool.and_self, beq_self_eq_true, List.getElem?_nil, List.reduceReplicate]
      exact ⟨o, L, _, _, rfl, ho, hL, by omega⟩
  · rintro _ ⟨o, L, x3, x5, rfl, ho, hL, hl⟩
    simp -implicitDefEqProofs only [w_k, w_sset, k_sset, k_sset', w_cmpQ, k_cmpQ, w_bm, k_bm, k_bm2, w_dsp, w_dgetd, k_dg, w_zip, k_zip, k_zip2, c_in, c_nin, c_isb, c_isnb, w_pl, w_mv, w_gl, w_bin, k_bin, k_bin2, w_neg, k_neg, w_tv, k_tv, k_tru, w_and, k_and, w_or, k_or, w_ife, k_ife, w_tup, k_tup, w_lst, k_lst, w_ix, k_ix, k_ix2, w_ixP, k_ixP, w_lenP, w_sl, k_sl, k_sl2, k_sl3, wo_eo_none, wo_eo_some, k_eo, w_rev, k_rev, k_back, w_callM, w_call, k_call, k_call2, w_bi, k_bi, w_isi, k_isi, w_lc, k_lc, k_lcb, w_nil, w_cons, k_cons, k_cons2, w_lend, w_wn, w_ws, w_seq, k_seq, w_rng1, k_rng1, w_rng2, k_rng2, k_rng22, w_val, k_val, w_not, k_not, w_andB, k_andB, w_orB, k_orB, w_cmp, k_cmp, k_cmp2, w_cmpP, k_cmpP, w_ch, k_ch, k_ch2, k_ch3, w_set, k_set, w_setT, k_setT, w_setI, k_setI, k_setI2, w_app, k_app, k_app2, w_ex, k_ex, w_ret, k_rt, w_retN, w_ifs, k_ifs, w_for, k_for, w_while, w_pass, w_brk, w_cont, k_nx, k_mrt, k_mbk, k_mct, w_snil, w_scons, w_fturn, w_turn, k_turn, k_turn2, k_lnx, k_lct, k_lbk, k_lrt, k_wnx, k_wct, k_wbk, k_wrt, k_wc, k_lts, k_ltn, k_drt, k_dnx, t_nil, t_inl, t_inr, b_nil, b_inl, b_inr, l_nil, l_inl, l_inr, fa_nil, fa_inl, fa_inr, z_inl, z_inr, bt_v, bt_tup, bs_nil, bs_cons, g_v, g_at, s_v, ou_nil, ou_cons, wi_nil, wi_cons, ba_nil, ba_cons, pa_nil', pa_cons', po_none', po_some', it_lst, it_tup, fl_fl, ix_i, ixd_l, ixd_t, lo_nil, lo_d, wo_some, wo_none, wo_bind, wo_map, w_some, wo_ite, f_d, f_fl, fs_nil, fs_cons, a_nil, a_cons, o_add, o_sub, c_eq, c_ne, c_lt, c_le, c_gt, c_ge, q_int, q_bl, q_str, u_non, u_bl, u_int, u_tup, u_lst, big_eq, List.getElem?_cons_zero, List.getElem?_cons_succ, Option.join_some, Option.join_none, List.set_cons_zero, List.set_cons_succ, List.length_cons, List.length_nil, Nat.reduceAdd, Nat.reduceLT, Nat.reduceLeDiff, Nat.reduceSub, Nat.zero_le, Option.isSome_some, true_and, and_true, if_true, if_false, Bool.false_eq_true, Option.map_some, Option.map_none, Option.bind_some, List.map_cons, List.map_nil, List.cons_append, List.nil_append, List.append_nil, Bool.not_true, Bool.not_false, Bool.and_true, Bool.true_and, Bool.and_self, beq_self_eq_true, List.getElem?_nil, List.reduceReplicate]
    refine w_loop (fun j ρ => ∃ x4 x6 x7, ρ = [some (.d (.xl (ns.map D.int))), some o, some (.d (.lst L)), x3, x4, x5, x6, x7]) ⟨_, _, _, rfl⟩ ?_ ?_
    · rintro j d _ hd ⟨x4, x6, x7, rfl⟩
      have hI := hL d (List.mem_of_getElem? hd)
      obtain ⟨r, hr⟩ := hI.repr
      obtain ⟨n1, n2⟩ := hI.names 57
      obtain ⟨q, hq⟩ := repr_bb (nmD d)
      simp -implicitDefEqProofs only [w_k, w_sset, k_sset, k_sset', w_cmpQ, k_cmpQ, w_bm, k_bm, k_bm2, w_dsp, w_dgetd, k_dg, w_zip, k_zip, k_zip2, c_in, c_nin, c_isb, c_isnb, w_pl, w_mv, w_gl, w_bin, k_bin, k_bin2, w_neg, k_neg, w_tv, k_tv, k_tru, w_and, k_and, w_or, k_or, w_ife, k_ife, w_tup, k_tup, w_lst, k_lst, w_ix, k_ix, k_ix2, w_ixP, k_ixP, w_lenP, w_sl, k_sl, k_sl2, k_sl3, wo_eo_none, wo_eo_some, k_eo, w_rev, k_rev, k_back, w_callM, w_call, k_call, k_call2, w_bi, k_bi, w_isi, k_isi, w_lc, k_lc, k_lcb, w_nil, w_cons, k_cons, k_cons2, w_lend, w_wn, w_ws, w_seq, k_seq, w_rng1, k_rng1, w_rng2, k_rng2, k_rng22, w_val, k_val, w_not, k_not, w_andB, k_andB, w_orB, k_orB, w_cmp, k_cmp, k_cmp2, w_cmpP, k_cmpP, w_ch, k_ch, k_ch2, k_ch3, w_set, k_set, w_setT, k_setT, w_setI, k_setI, k_setI2, w_app, k_app, k_app2, w_ex, k_ex, w_ret, k_rt, w_retN, w_ifs, k_ifs, w_for, k_for, w_while, w_pass, w_brk, w_cont, k_nx, k_mrt, k_mbk, k_mct, w_snil, w_scons, w_fturn, w_turn, k_turn, k_turn2, k_lnx, k_lct, k_lbk, k_lrt, k_wnx, k_wct, k_wbk, k_wrt, k_wc, k_lts, k_ltn, k_drt, k_dnx, t_nil, t_inl, t_inr, b_nil, b_inl, b_inr, l_nil, l_inl, l_inr, fa_nil, fa_inl, fa_inr, z_inl, z_inr, bt_v, bt_tup, bs_nil, bs_cons, g_v, g_at, s_v, ou_nil, ou_cons, wi_nil, wi_cons, ba_nil, ba_cons, pa_nil', pa_cons', po_none', po_some', it_lst, it_tup, fl_fl, ix_i, ixd_l, ixd_t, lo_nil, lo_d, wo_some, wo_none, wo_bind, wo_map, w_some, wo_ite, f_d, f_fl, fs_nil, fs_cons, a_nil, a_cons, o_add, o_sub, c_eq, c_ne, c_lt, c_le, c_gt, c_ge, q_int, q_bl, q_str, u_non, u_bl, u_int, u_tup, u_lst, big_eq, List.getElem?_cons_zero, List.getElem?_cons_succ, Option.join_some, Option.join_none, List.set_cons_zero, List.set_cons_succ, List.length_cons, List.length_nil, Nat.reduceAdd, Nat.reduceLT, Nat.reduceLeDiff, Nat.reduceSub, Nat.zero_le, Option.isSome_some, true_and, and_true, if_true, if_false, Bool.false_eq_true, Option.map_some, Option.map_none, Option.bind_some, List.map_cons, List.map_nil, List.cons_append, List.nil_append, List.append_nil, Bool.not_true, Bool.not_false, Bool.and_true, Bool.true_and, Bool.and_self, beq_self_eq_true, List.getElem?_nil, List.reduceReplicate, hr, io_is_name, io__law_is_name, n1, n2, wc_some, hq]
      exact ⟨_, _, _, rfl⟩
    · rintro _ ⟨x4, x6, x7, rfl⟩
      simp -implicitDefEqProofs only [w_k, w_sset, k_sset, k_sset', w_cmpQ, k_cmpQ, w_bm, k_bm, k_bm2, w_dsp, w_dgetd, k_dg, w_zip, k_zip, k_zip2, c_in, c_nin, c_isb, c_isnb, w_pl, w_mv, w_gl, w_bin, k_bin, k_bin2, w_neg, k_neg, w_tv, k_tv, k_tru, w_and, k_and, w_or, k_or, w_ife, k_ife, w_tup, k_tup, w_lst, k_lst, w_ix, k_ix, k_ix2, w_ixP, k_ixP, w_lenP, w_sl, k_sl, k_sl2, k_sl3, wo_eo_none, wo_eo_some, k_eo, w_rev, k_rev, k_back, w_callM, w_call, k_call, k_call2, w_bi, k_bi, w_isi, k_isi, w_lc, k_lc, k_lcb, w_nil, w_cons, k_cons, k_cons2, w_lend, w_wn, w_ws, w_seq, k_seq, w_rng1, k_rng1, w_rng2, k_rng2, k_rng22, w_val, k_val, w_not, k_not, w_andB, k_andB, w_orB, k_orB, w_cmp, k_cmp, k_cmp2, w_cmpP, k_cmpP, w_ch, k_ch, k_ch2, k_ch3, w_set, k_set, w_setT, k_setT, w_setI, k_setI, k_setI2, w_app, k_app, k_app2, w_ex, k_ex, w_ret, k_rt, w_retN, w_ifs, k_ifs, w_for, k_for, w_while, w_pass, w_brk, w_cont, k_nx, k_mrt, k_mbk, k_mct, w_snil, w_scons, w_fturn, w_turn, k_turn, k_turn2, k_lnx, k_lct, k_lbk, k_lrt, k_wnx, k_wct, k_wbk, k_wrt, k_wc, k_lts, k_ltn, k_drt, k_dnx, t_nil, t_inl, t_inr, b_nil, b_inl, b_inr, l_nil, l_inl, l_inr, fa_nil, fa_inl, fa_inr, z_inl, z_inr, bt_v, bt_tup, bs_nil, bs_cons, g_v, g_at, s_v, ou_nil, ou_cons, wi_nil, wi_cons, ba_nil, ba_cons, pa_nil', pa_cons', po_none', po_some', it_lst, it_tup, fl_fl, ix_i, ixd_l, ixd_t, lo_nil, lo_d, wo_some, wo_none, wo_bind, wo_map, w_some, wo_ite, f_d, f_fl, fs_nil, fs_cons, a_nil, a_cons, o_add, o_sub, c_eq, c_ne, c_lt, c_le, c_gt, c_ge, q_int, q_bl, q_str, u_non, u_bl, u_int, u_tup, u_lst, big_eq, List.getElem?_cons_zero, List.getElem?_cons_succ, Option.join_some, Option.join_none, List.set_cons_zero, List.set_cons_succ, List.length_cons, List.length_nil, Nat.reduceAdd, Nat.reduceLT, Nat.reduceLeDiff, Nat.reduceSub, Nat.zero_le, Option.isSome_some, true_and, and_true, if_true, if_false, Bool.false_eq_true, Option.map_some, Option.map_none, Option.bind_some, List.map_cons, List.map_nil, List.cons_append, List.nil_append, List.append_nil, Bool.not_true, Bool.not_false, Bool.and_true, Bool.true_and, Bool.and_self, beq_self_eq_true, List.getElem?_nil, List.reduceReplicate]
end Pk01

open PySem PySem.W PyProof.Rows
set_option maxHeartbeats 0 in
theorem PySem.Challenge.cw_poisonrules_k01_what_are_names_holds : PySem.Challenge.rw_poisonrules_k01_what_are_names.Holds := by
  w_on; o_law; k_head; (case hw => w_witness2)
  k_fill
  refine Pw.walked (l := PySem.Challenge.rw_poisonrules_k01_what_are_names) (n := 63) (k := 60) (x := "_law_script") (tab := Pk01.tab) (Gv := Pk01.gv) (f := "law") rfl (by decide) rfl ⟨rfl, by decide, by decide⟩ (fun w h Y => PySem.W.kIn_of Y) ?F Pk01.plain
  case F =>
    intro w mg fa h KX G hmg
    refine' Pk01.top_mk KX G hmg ?a0 ?l0 ?c0 ?k0 ?a1 ?l1 ?c1 ?k1 ?a2 ?l2 ?c2 ?k2 ?a3 ?l3 ?c3 ?k3 ?a4 ?l4 ?c4 ?k4 ?a5 ?l5 ?c5 ?k5 ?a6 ?l6 ?c6 ?k6 ?a7 ?l7 ?c7 ?k7 ?a8 ?l8 ?c8 ?k8 ?e_LONGEST ?v_LONGEST ?e_LETTERS ?v_LETTERS ?e_KEPT ?l_KEPT ?cl_KEPT ?s_KEPT ?v_KEPT ?z0 ?z1 ?z2 ?z3 ?z4 ?z5 ?z6 ?z7
    (case a0 => k_is)
    (case l0 => k_is)
    (case c0 => k_is)
    (case k0 => k_is)
    (case a1 => k_is)
    (case l1 => k_is)
    (case c1 => k_is)
    (case k1 => k_is)
    (case a2 => k_is)
    (case l2 => k_is)
    (case c2 => k_is)
    (case k2 => k_is)
    (case a3 => k_is)
    (case l3 => k_is)
    (case c3 => k_is)
    (case k3 => k_is)
    (case a4 => k_is)
    (case l4 => k_is)
    (case c4 => k_is)
    (case k4 => k_is)
    (case a5 => k_is)
    (case l5 => k_is)
    (case c5 => k_is)
    (case k5 => k_is)
    (case a6 => k_is)
    (case l6 => k_is)
    (case c6 => k_is)
    (case k6 => k_is)
    (case a7 => k_is)
    (case l7 => k_is)
    (case c7 => k_is)
    (case k7 => k_is)
    (case a8 => k_is)
    (case l8 => k_is)
    (case c8 => k_is)
    (case k8 => k_is)
    (case e_LONGEST => k_is)
    (case v_LONGEST => exact ⟨_, rfl⟩)
    (case e_LETTERS => k_is)
    (case v_LETTERS => exact ⟨_, rfl⟩)
    (case e_KEPT => k_is)
    (case l_KEPT => k_is)
    (case cl_KEPT => rfl)
    (case s_KEPT => first | decide | decide +kernel)
    (case v_KEPT => repeat (first | exact .nil | refine .cons ⟨_, rfl⟩ ?_ | refine .cons rfl ?_))
    (case z0 => k_is)
    (case z1 => k_is)
    (case z2 => k_is)
    (case z3 => k_is)
    (case z4 => k_is)
    (case z5 => k_is)
    (case z6 => k_is)
    (case z7 => k_is)

