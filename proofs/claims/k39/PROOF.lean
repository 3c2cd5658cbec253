import PyProof.Rows.All
import Wide.All
import OpenK.AllK
import Wide.FinOn
import HandS.CallSlots
import HandS.Comp
import HandS.Conv
import HandS.Deep
import HandS.Defaults
import HandS.DictComp
import HandS.Exc
import HandS.ExcField
import HandS.ExcInit
import HandS.ExcIs
import HandS.FStr
import HandS.Flow
import HandS.ForMost
import HandS.Head0
import HandS.Head1
import HandS.Head2
import HandS.HeadEnd
import HandS.HeadHook1
import HandS.HeadHook2
import HandS.HeadHook3
import HandS.HeadHook4
import HandS.IsInst
import HandS.MakeKwOnly
import HandS.More
import HandS.RaiseMore
import HandS.Small
import HandS.SortInts
import HandS.SortKw
import HandS.StrMore
import HandS.Strs
import HandS.Style
import HandS.Text
import HandS.TryMany
import HandS.TryOnly
import HandS.TupAny
import HandS.TupLe
import HandS.Wide
import HandS.Words
import HandS.WordsExc
import HandS.Zip
import KE.GoesRaise
import KE.KDictZip
import KE.KUnpackStar
import PyProof.ConsumeS
import PyProof.DictFindH
import PyProof.DictRoadsH
import PyProof.ExcBaseAll.ValueError
import PyProof.FactsAll.bool_1
import PyProof.ListStr
import PyProof.LongRange
import PyProof.MeetsStr3
import PyProof.Rows.TupTab
import PyProof.StrLawsLast
import PyProof.WalkInts
import PySem.Challenge.RW_goalstead_k39_resolved
import PySem.Syntax
set_option Elab.async false
section
set_option linter.all false
/-! GDen: a small interpreter over plain values: what a def of the program computes, as a total Lean function. -/
namespace Gs
open PySem

/-- the largest length -/
abbrev line : Nat := 16777216

/-- plain values: tuples and frozen lists are trees; loc l is an object of the store -/
inductive W where
  | non | bl (b : Bool) | int (i : Int) | str (x : Str) | ty (n : String)
  | tup (xs : List W) | lst (xs : List W) | loc (l : Nat)
  | fn (x : Str)
  /-- the script -/
  | scr (xs : List Int)
  /-- a dict that is never changed: by a truth and a text a number and a text -/
  | tab (kvs : List ((Bool × Str) × (Int × Str)))

abbrev Key := Sum Int Str
/-- an object of the store -/
inductive Ob where
  | lst (xs : List W)
  | dic (kvs : List (Key × W))
  | ins (c : Str) (fs : List (Str × W))
abbrev Store := List (Option Ob)
/-- an exception: its class, its fields -/
structure Xc where
  cls : Str
  fs : List (Str × W)

inductive Out (α : Type) where
  | ok (a : α) (S : Store)
  | ex (x : Xc) (S : Store)
  | no
def Out.bd {α β : Type} (o : Out α) (f : α → Store → Out β) : Out β := match o with
  | .ok a S => f a S
  | .ex x S => .ex x S
  | .no => .no
@[simp] theorem Out.bd_ok {α β : Type} (a : α) (S : Store) (f : α → Store → Out β) : (Out.ok a S).bd f = f a S := rfl
@[simp] theorem Out.bd_ex {α β : Type} (x : Xc) (S : Store) (f : α → Store → Out β) : (Out.ex x S : Out α).bd f = .ex x S := rfl
@[simp] theorem Out.bd_no {α β : Type} (f : α → Store → Out β) : (Out.no : Out α).bd f = .no := rfl
def Out.noex {α : Type} (o : Out α) : Out α := match o with
  | .ok a S => .ok a S
  | _ => .no
@[simp] theorem Out.noex_ok {α : Type} (a : α) (S : Store) : (Out.ok a S).noex = .ok a S := rfl
theorem Out.bd_assoc {α β γ : Type} (o : Out α) (f : α → Store → Out β) (g : β → Store → Out γ) : (o.bd f).bd g = o.bd fun a S => (f a S).bd g := by
  cases o <;> rfl

abbrev Rho := List (Option W)
/-- how a statement ends -/
inductive Fl where
  | nx (ρ : Rho) | rt (w : W) | bk (ρ : Rho) | ct (ρ : Rho)

/-! ### equality, truth -/
mutual
def W.eqb : W → W → Bool
  | .non, .non => true
  | .bl a, .bl b => a == b
  | .bl a, .int j => (if a then 1 else 0) == j
  | .int i, .bl b => i == (if b then 1 else 0)
  | .int i, .int j => i == j
  | .str x, .str y => x == y
  | .tup xs, .tup ys => W.eqbs xs ys
  | .lst xs, .lst ys => W.eqbs xs ys
  | _, _ => false
def W.eqbs : List W → List W → Bool
  | [], [] => true
  | x :: xs, y :: ys => W.eqb x y && W.eqbs xs ys
  | _, _ => false
end
/-- a value with the store's lists put in their places; at most n deep -/
def resW (S : Store) : Nat → W → Option W
  | _, .non => some .non
  | _, .bl b => some (.bl b)
  | _, .int i => some (.int i)
  | _, .str x => some (.str x)
  | n + 1, .tup xs => (xs.mapM (resW S n)).map .tup
  | n + 1, .lst xs => (xs.mapM (resW S n)).map .lst
  | n + 1, .loc l => match S[l]? with
    | some (some (.lst xs)) => (xs.mapM (resW S n)).map .lst
    | _ => none
  | _, _ => none
/-- a dict's value of a key -/
def keyW : W → Option Key
  | .int i => some (.inl i)
  | .str x => some (.inr x)
  | _ => none
def dget (k : Key) : List (Key × W) → Option W
  | [] => none
  | (a, v) :: r => if a = k then some v else dget k r
def dput (k : Key) (v : W) (kvs : List (Key × W)) : List (Key × W) :=
  if (kvs.any fun p => decide (p.1 = k)) = true then kvs.map (fun p => if p.1 = k then (p.1, v) else p) else kvs ++ [(k, v)]
/-- a dict of the store -/
def dicW (S : Store) : W → Option (List (Key × W))
  | .loc l => match S[l]? with
    | some (some (.dic kvs)) => some kvs
    | _ => none
  | _ => none
def dmerge (kvs more : List (Key × W)) : List (Key × W) := more.foldl (fun acc kv => dput kv.1 kv.2 acc) kvs
/-- a dict's items, resolved -/
def resD (S : Store) : List (Key × W) → Option (List (Key × W))
  | [] => some []
  | (k, w) :: r => match resW S 60 w, resD S r with
    | some v, some q => some ((k, v) :: q)
    | _, _ => none
/-- equal dicts, by resolved items -/
def eqDs (a b : List (Key × W)) : Bool := (a.length == b.length) && a.all fun p => match dget p.1 b with
  | some v => W.eqb p.2 v
  | none => false
def eqD (S : Store) (a b : List (Key × W)) : Option Bool := match resD S a, resD S b with
  | some x, some y => some (eqDs x y)
  | _, _ => none
def eqW (S : Store) : W → W → Option Bool
  | .int i, .int j => some (decide (i = j))
  | .str x, .str y => some (decide (x = y))
  | .str _, .int _ => some false
  | .int _, .str _ => some false
  | .non, .non => some true
  | .non, .int _ => some false
  | .int _, .non => some false
  | .non, .str _ => some false
  | .str _, .non => some false
  | a, b => match dicW S a, dicW S b with
    | some x, some y => eqD S x y
    | _, _ => (match resW S 60 a, resW S 60 b with
      | some x, some y => some (W.eqb x y)
      | _, _ => none)
def truW (S : Store) : W → Option Bool
  | .non => some false
  | .bl b => some b
  | .int i => some (i != 0)
  | .str x => some (decide (x.length ≠ 0))
  | .tup xs => some (!xs.isEmpty)
  | .lst xs => some (!xs.isEmpty)
  | .loc l => match S[l]? with
    | some (some (.lst xs)) => some (!xs.isEmpty)
    | some (some (.dic kvs)) => some (!kvs.isEmpty)
    | _ => none
  | _ => none
/-- the items of a list or tuple as it stands -/
def seqW (S : Store) : W → Option (List W)
  | .tup xs => some xs
  | .lst xs => some xs
  | .scr xs => some (xs.map .int)
  | .loc l => match S[l]? with
    | some (some (.lst xs)) => some xs
    | _ => none
  | _ => none

/-! ### making lists -/
def newL (fz : Bool) (xs : List W) (S : Store) : Out W := if xs.length ≤ line then (if fz then .ok (.lst xs) S else .ok (.loc S.length) (S ++ [some (.lst xs)])) else .no

/-! ### operators -/
def mulOk (i j : Int) : Prop := i.natAbs.log2 + j.natAbs.log2 < 1000000
instance (i j : Int) : Decidable (mulOk i j) := by unfold mulOk; infer_instance
def divOk (j : Int) : Prop := j ≠ 0 ∧ j.natAbs.log2 < 9000
instance (j : Int) : Decidable (divOk j) := by unfold divOk; infer_instance
def powOk (i j : Int) : Prop := 0 ≤ j ∧ j ≤ 1000000 ∧ i.natAbs < 2 ^ 64
instance (i j : Int) : Decidable (powOk i j) := by unfold powOk; infer_instance

/-- the items of a list -/
def lstW (S : Store) : W → Option (List W)
  | .lst xs => some xs
  | .loc l => match S[l]? with
    | some (some (.lst xs)) => some xs
    | _ => none
  | _ => none
def addL (fz : Bool) (x y : W) (S : Store) : Out W := match lstW S x, lstW S y with
  | some xs, some ys => newL fz (xs ++ ys) S
  | _, _ => .no
def addW (fz : Bool) (x y : W) (S : Store) : Out W := match x, y with
  | .int i, .int j => .ok (.int (i + j)) S
  | .str a, .str b => if a.length + b.length ≤ line then .ok (.str (a ++ b)) S else .no
  | .tup a, .tup b => if a.length + b.length ≤ line then .ok (.tup (a ++ b)) S else .no
  | x, y => addL fz x y S
/-- a text k times -/
def repS (k : Nat) (x : Str) : Str := ⟨(List.replicate k x.cps.toList).flatten.toArray⟩
def mulW (fz : Bool) (x y : W) (S : Store) : Out W := match x, y with
  | .int i, .int j => if mulOk i j then .ok (.int (i * j)) S else .no
  | .str a, .int j => if 0 ≤ j ∧ j < 2 ^ 62 ∧ a.length * j.toNat ≤ line then .ok (.str (repS j.toNat a)) S else .no
  | x, .int j => (match lstW S x with
    | some xs => if -(2 ^ 63) ≤ j ∧ j < 2 ^ 63 ∧ xs.length * j.toNat ≤ line then newL fz (List.replicate j.toNat xs).flatten S else .no
    | none => .no)
  | _, _ => .no
def binW (fz : Bool) (op : Operator) (x y : W) (S : Store) : Out W := match op with
  | .Add => addW fz x y S
  | .Mult => mulW fz x y S
  | .Sub => (match x, y with
    | .int i, .int j => .ok (.int (i - j)) S
    | _, _ => .no)
  | .FloorDiv => (match x, y with
    | .int i, .int j => if divOk j then .ok (.int (i.fdiv j)) S else .no
    | _, _ => .no)
  | .Mod => (match x, y with
    | .int i, .int j => if j ≠ 0 then .ok (.int (i.fmod j)) S else .no
    | _, _ => .no)
  | .Pow => (match x, y with
    | .int i, .int j => if powOk i j then .ok (.int (i ^ j.toNat)) S else .no
    | _, _ => .no)
  | _ => .no

/-- op= of a name -/
def augW (op : Operator) (x y : W) (S : Store) : Out W := match op, x, y with
  | .Add, .int i, .int j => .ok (.int (i + j)) S
  | .Sub, .int i, .int j => .ok (.int (i - j)) S
  | .Mult, .int i, .int j => if mulOk i j then .ok (.int (i * j)) S else .no
  | .Add, .str a, .str b => if a.length + b.length ≤ line then .ok (.str (a ++ b)) S else .no
  | .Add, .tup a, .tup b => if a.length + b.length ≤ line then .ok (.tup (a ++ b)) S else .no
  | _, _, _ => .no
def ltStr (a b : Str) : Bool := decide (a.cps.toList < b.cps.toList)
def inW (S : Store) (x : W) (ys : List W) : Option Bool := match ys with
  | [] => some false
  | y :: r => match eqW S y x with
    | some true => some true
    | some false => inW S x r
    | none => none
def flatW : W → Bool
  | .int _ => true
  | .str _ => true
  | _ => false
def eqF : W → W → Bool
  | .int i, .int j => decide (i = j)
  | .str i, .str j => decide (i = j)
  | _, _ => false
/-- x in y: a sign in a text; a number or text among such -/
def inO (S : Store) (x y : W) : Option Bool := match y with
  | .str j => (match x with
    | .str i => (match i.cps.toList with
      | [ch] => some (decide (ch ∈ j.cps.toList))
      | _ => none)
    | _ => none)
  | y => (match seqW S y with
    | none => (match dicW S y, keyW x with
      | some kvs, some k => some (dget k kvs).isSome
      | _, _ => none)
    | some ys => if flatW x && ys.all flatW then some (ys.any fun z => eqF z x) else (match resW S 60 x, resW S 60 y with
      | some a, some (.lst zs) => some (zs.any fun z => W.eqb z a)
      | _, _ => none))
def cmpW (op : CmpOp) (x y : W) (S : Store) : Out Bool := match op with
  | .In => match inO S x y with
    | some b => .ok b S
    | none => .no
  | .NotIn => match inO S x y with
    | some b => .ok (!b) S
    | none => .no
  | .Eq => match eqW S x y with
    | some b => .ok b S
    | none => .no
  | .NotEq => match eqW S x y with
    | some b => .ok (!b) S
    | none => .no
  | .Lt => match x, y with
    | .int i, .int j => .ok (decide (i < j)) S
    | .str a, .str b => .ok (ltStr a b) S
    | _, _ => .no
  | .LtE => match x, y with
    | .int i, .int j => .ok (decide (i ≤ j)) S
    | .str a, .str b => .ok (!ltStr b a) S
    | _, _ => .no
  | .Gt => match x, y with
    | .int i, .int j => .ok (decide (j < i)) S
    | _, _ => .no
  | .GtE => match x, y with
    | .int i, .int j => .ok (decide (j ≤ i)) S
    | _, _ => .no
  | .Is => match y with
    | .non => (match x with
      | .non => .ok true S
      | _ => .ok false S)
    | _ => .no
  | .IsNot => match y with
    | .non => (match x with
      | .non => .ok false S
      | _ => .ok true S)
    | _ => .no

/-- a place in a list -/
def ixW (n : Nat) (i : Int) : Option Nat := if 0 ≤ i then (if i < n then some i.toNat else none) else if -(n : Int) ≤ i then some (i + n).toNat else none
def atW {α : Type} (xs : List α) (i : Int) : Option α := (ixW xs.length i).bind fun j => xs[j]?
def getW (o i : W) (S : Store) : Out W := match o, i with
  | .str x, .int k => match atW x.cps.toList k with
    | some c => .ok (.str ⟨#[c]⟩) S
    | none => .no
  | o, i => match seqW S o with
    | some xs => (match i with
      | .int k => (match atW xs k with
        | some v => .ok v S
        | none => .no)
      | _ => .no)
    | none => (match dicW S o, keyW i with
      | some kvs, some k => (match dget k kvs with
        | some v => .ok v S
        | none => .no)
      | _, _ => .no)
def sIx (n d : Nat) : Option Int → Nat
  | none => d
  | some v => if v < 0 then (v + n).toNat else min v.toNat n
def cut {α : Type} (xs : List α) (lo hi : Option Int) : List α := (xs.drop (sIx xs.length 0 lo)).take (sIx xs.length xs.length hi - sIx xs.length 0 lo)
def sliceW (fz : Bool) (o : W) (lo hi : Option Int) (S : Store) : Out W := match o with
  | .str x => .ok (.str ⟨(cut x.cps.toList lo hi).toArray⟩) S
  | .tup xs => .ok (.tup (cut xs lo hi)) S
  | o => match seqW S o with
    | some xs => newL fz (cut xs lo hi) S
    | none => .no
def revW (fz : Bool) (o : W) (S : Store) : Out W := match o with
  | .tup xs => .ok (.tup xs.reverse) S
  | o => match seqW S o with
    | some xs => newL fz xs.reverse S
    | none => .no
def setW (o i v : W) (S : Store) : Option Store := match o with
  | .loc l => (match S[l]? with
    | some (some (.lst xs)) => (match i with
      | .int k => (ixW xs.length k).map fun j => S.set l (some (.lst (xs.set j v)))
      | _ => none)
    | some (some (.dic kvs)) => (match keyW i with
      | some k => if kvs.length < line then some (S.set l (some (.dic (dput k v kvs)))) else none
      | none => none)
    | _ => none)
  | _ => none

/-! ### built-in functions -/
inductive Bi where
  | len | abs | max2 | min2 | maxL | minL | sumL | allL | anyL | int1 | str1 | tupleOf | listOf (fz : Bool) | sortedI (fz : Bool) | divmod | isinst | dictOf
  deriving DecidableEq
def intsOf : List W → Option (List Int)
  | [] => some []
  | .int i :: r => (intsOf r).map (i :: ·)
  | _ :: _ => none
def blsOf : List W → Option (List Bool)
  | [] => some []
  | .bl i :: r => (blsOf r).map (i :: ·)
  | _ :: _ => none
def maxI : List Int → Int
  | [] => 0
  | [x] => x
  | x :: r => max x (maxI r)
def minI : List Int → Int
  | [] => 0
  | [x] => x
  | x :: r => min x (minI r)
def insI (x : Int) : List Int → List Int
  | [] => [x]
  | y :: r => if x ≤ y then x :: y :: r else y :: insI x r
def sortI : List Int → List Int
  | [] => []
  | x :: r => insI x (sortI r)
/-- lists of whole numbers by their order -/
def lexI : List Int → List Int → Bool
  | [], [] => false
  | [], _ :: _ => true
  | _ :: _, [] => false
  | a :: r, b :: s => if a = b then lexI r s else decide (a < b)
def insT (x : List Int) : List (List Int) → List (List Int)
  | [] => [x]
  | y :: r => if lexI y x then y :: insT x r else x :: y :: r
def sortT : List (List Int) → List (List Int)
  | [] => []
  | x :: r => insT x (sortT r)
/-- tuples of whole numbers, at least one each -/
def tupsOf : List W → Option (List (List Int))
  | [] => some []
  | .tup (y :: ys) :: r => match intsOf (y :: ys), tupsOf r with
    | some q, some qs => some (q :: qs)
    | _, _ => none
  | _ :: _ => none
def sortW (fz : Bool) (xs : List W) (S : Store) : Out W := match intsOf xs with
  | some ns => newL fz ((sortI ns).map .int) S
  | none => match tupsOf xs with
    | some qs => newL fz ((sortT qs).map fun q => .tup (q.map .int)) S
    | none => .no
/-- the name of a value's type -/
def tyN (S : Store) : W → Option String
  | .non => some "NoneType"
  | .bl _ => some "bool"
  | .int _ => some "int"
  | .str _ => some "str"
  | .tup _ => some "tuple"
  | .lst _ => some "list"
  | .scr _ => some "list"
  | .loc l => match S[l]? with
    | some (some (.lst _)) => some "list"
    | some (some (.dic _)) => some "dict"
    | _ => none
  | _ => none
def isiA : List String := ["NoneType", "bool", "int", "str", "tuple", "list", "dict"]
def isiT (a n : String) : Option Bool := if isiA.contains a && isiA.contains n then some (a == n || (a == "bool" && n == "int")) else none
def isiW (S : Store) (x : W) (n : String) : Option Bool := (tyN S x).bind fun a => isiT a n
/-- a number's figures -/
def intS (i : Int) : Str := (toString i : String)
def asciiB (x : Str) : Bool := x.cps.toList.all (fun c => decide (c < 128)) && decide (x.length ≤ line)
/-- a text of figures -/
def decV (l : List Nat) : Nat := l.foldl (fun acc c => acc * 10 + (c - 48)) 0
def decB (x : Str) : Bool := !x.cps.toList.isEmpty && x.cps.toList.all (fun c => decide (48 ≤ c) && decide (c ≤ 57)) && decide (x.length ≤ 640)
def biW (b : Bi) (vs : List W) (S : Store) : Out W := match b, vs with
  | .len, [.str x] => .ok (.int x.length) S
  | .len, [v] => match seqW S v with
    | some xs => .ok (.int xs.length) S
    | none => .no
  | .abs, [.int i] => .ok (.int (if i < 0 then -i else i)) S
  | .max2, [.int i, .int j] => .ok (.int (if j > i then j else i)) S
  | .min2, [.int i, .int j] => .ok (.int (if j < i then j else i)) S
  | .maxL, [.lst xs] => (match intsOf xs with
    | some (n :: ns) => .ok (.int (maxI (n :: ns))) S
    | _ => .no)
  | .minL, [.lst xs] => (match intsOf xs with
    | some (n :: ns) => .ok (.int (minI (n :: ns))) S
    | _ => .no)
  | .sumL, [.lst xs] => (match intsOf xs with
    | some ns => .ok (.int ns.sum) S
    | _ => .no)
  | .allL, [.lst xs] => (match blsOf xs with
    | some ns => .ok (.bl (ns.all id)) S
    | _ => .no)
  | .anyL, [.lst xs] => (match blsOf xs with
    | some ns => .ok (.bl (ns.any id)) S
    | _ => .no)
  | .int1, [.int i] => .ok (.int i) S
  | .int1, [.bl b] => .ok (.int (if b then 1 else 0)) S
  | .int1, [.str x] => if decB x = true then .ok (.int (decV x.cps.toList : Nat)) S else .no
  | .tupleOf, [.tup xs] => .ok (.tup xs) S
  | .tupleOf, [v] => match seqW S v with
    | some xs => .ok (.tup xs) S
    | none => .no
  | .listOf fz, [.str x] => newL fz (x.cps.toList.map fun c => .str ⟨#[c]⟩) S
  | .listOf fz, [v] => match seqW S v with
    | some xs => newL fz xs S
    | none => .no
  | .sortedI fz, [v] => (match lstW S v with
    | some xs => sortW fz xs S
    | none => .no)
  | .divmod, [.int i, .int j] => if divOk j then .ok (.tup [.int (i.fdiv j), .int (i.fmod j)]) S else .no
  | .isinst, [x, .ty n] => (match isiW S x n with
    | some b => .ok (.bl b) S
    | none => .no)
  | .str1, [.int i] => if i.natAbs.log2 < 1920 ∧ asciiB (intS i) = true then .ok (.str (intS i)) S else .no
  | .str1, [.str x] => .ok (.str x) S
  | .dictOf, [v] => (match dicW S v with
    | some kvs => .ok (.loc S.length) (S ++ [some (.dic kvs)])
    | none => .no)
  | _, _ => .no
/-- what a range, a zip, an enumerate gives out -/
def rangeW (lo hi : Int) : List W := (List.range (hi - lo).toNat).map fun k => .int (lo + (k : Nat))
/-- i, i - 1, .., above j -/
def rangeD (i j : Int) : List W := (List.range (i - j).toNat).map fun k => .int (i + (k : Nat) * (-1))
def small62 (i : Int) : Prop := -(2 ^ 62) ≤ i ∧ i < 2 ^ 62
instance (i : Int) : Decidable (small62 i) := by unfold small62; infer_instance
def zipW : List W → List W → List W
  | x :: xs, y :: ys => .tup [x, y] :: zipW xs ys
  | _, _ => []
def enumW : Nat → List W → List W
  | _, [] => []
  | n, x :: r => .tup [.int n, x] :: enumW (n + 1) r
def frozenW : W → Option (List W)
  | .tup xs => some xs
  | .lst xs => some xs
  | .scr xs => some (xs.map .int)
  | .str x => some (x.cps.toList.map fun c => .str ⟨#[c]⟩)
  | _ => none

/-! ### methods of built-in types -/
inductive Mt where
  | append | popAt | pop | extend | clear | index | join | isupper | rpart | insert | count
  deriving DecidableEq
def mtT : Mt → String
  | .append => "list" | .popAt => "list" | .pop => "list" | .extend => "list" | .clear => "list" | .index => "list" | .join => "str" | .isupper => "str" | .rpart => "str" | .insert => "list" | .count => "list"
def strsOf : List W → Option (List Str)
  | [] => some []
  | .str x :: r => (strsOf r).map (x :: ·)
  | _ :: _ => none
/-- how many unlike ones stand among the first i -/
def unlk (xs : List Str) : Nat → Nat
  | 0 => 0
  | i + 1 => if (xs.take i).any (· == xs.getD i Str.empty) then unlk xs i else unlk xs i + 1
/-- texts one behind the other -/
def catS : List Str → Str
  | [] => ⟨#[]⟩
  | x :: r => x ++ catS r
/-- .. with a text between -/
def joinS (a : Str) : List Str → Str
  | [] => ⟨#[]⟩
  | [x] => x
  | x :: y :: r => x ++ a ++ joinS a (y :: r)
/-- signs parted at the last c -/
def rcut (c : Nat) : List Nat → Option (List Nat × List Nat)
  | [] => none
  | x :: r => match rcut c r with
    | some (a, b) => some (x :: a, b)
    | none => if x = c then some ([], r) else none
def mtW (m : Mt) (o : W) (vs : List W) (S : Store) : Out W := match m, o, vs with
  | .extend, .loc l, [v] => (match S[l]?, lstW S v with
    | some (some (.lst xs)), some zs => if xs.length + zs.length ≤ line then .ok .non (S.set l (some (.lst (xs ++ zs)))) else .no
    | _, _ => .no)
  | .clear, .loc l, [] => (match S[l]? with
    | some (some (.lst _)) => .ok .non (S.set l (some (.lst [])))
    | _ => .no)
  | .index, o, [x] => (match resW S 60 o, resW S 60 x with
    | some (.lst zs), some a => (match zs.findIdx? fun z => W.eqb z a with
      | some j => .ok (.int (j : Nat)) S
      | none => .no)
    | _, _ => .no)
  | .join, .str a, [v] => if a = ⟨#[]⟩ then (match lstW S v with
      | some xs => (match strsOf xs with
        | some ys => if (ys.map (·.length)).sum ≤ line then .ok (.str (catS ys)) S else .no
        | none => .no)
      | none => .no) else (match lstW S v with
      | some xs => (match strsOf xs with
        | some ys => if (ys.map (·.length)).sum + ys.length * a.length ≤ line then .ok (.str (joinS a ys)) S else .no
        | none => .no)
      | none => .no)
  | .append, .loc l, [v] => (match S[l]? with
    | some (some (.lst xs)) => if xs.length < line then .ok .non (S.set l (some (.lst (xs ++ [v])))) else .no
    | _ => .no)
  | .popAt, .loc l, [.int i] => (match S[l]? with
    | some (some (.lst xs)) => (match ixW xs.length i with
      | some k => (match xs[k]? with
        | some y => .ok y (S.set l (some (.lst (xs.eraseIdx k))))
        | none => .no)
      | none => .no)
    | _ => .no)
  | .pop, .loc l, [] => (match S[l]? with
    | some (some (.lst xs)) => (match xs[xs.length - 1]? with
      | some y => .ok y (S.set l (some (.lst xs.dropLast)))
      | none => .no)
    | _ => .no)
  | .isupper, .str x, [] => (match x.cps.toList with
    | [ch] => if 65 ≤ ch ∧ ch ≤ 90 then .ok (.bl true) S else if (97 ≤ ch ∧ ch ≤ 122) ∨ (48 ≤ ch ∧ ch ≤ 57) then .ok (.bl false) S else .no
    | _ => .no)
  | .rpart, .str x, [.str y] => (match y.cps.toList with
    | [ch] => (match rcut ch x.cps.toList with
      | some (a, b) => .ok (.tup [.str ⟨a.toArray⟩, .str y, .str ⟨b.toArray⟩]) S
      | none => .no)
    | _ => .no)
  | .count, o, [.str x] => (match lstW S o with
    | some xs => (match strsOf xs with
      | some ys => .ok (.int (ys.count x : Nat)) S
      | none => .no)
    | none => .no)
  | .insert, .loc l, [.int i, v] => (match S[l]? with
    | some (some (.lst xs)) => if xs.length < line ∧ 0 ≤ i ∧ i < 2 ^ 63 then .ok .non (S.set l (some (.lst (xs.take i.toNat ++ [v] ++ xs.drop i.toNat)))) else .no
    | _ => .no)
  | _, _, _ => .no

/-! ### the text -/
inductive Tg where
  | nm (i : Nat) | tp (ts : List Tg)
mutual
inductive E where
  | var (i : Nat) | cint (i : Int) | cstr (x : Str) | cbl (b : Bool) | cnon
  | tyc (n : String) | glo (x : Str)
  | tup (es : List E) | lst (fz : Bool) (es : List E)
  | bin (fz : Bool) (op : Operator) (a b : E) | neg (a : E)
  | not (a : E) | and (es : List E) | or (es : List E)
  | cmp (op : CmpOp) (a b : E) | ch (o1 o2 : CmpOp) (a b c : E) | ch3 (o1 o2 o3 : CmpOp) (a b c d : E)
  | ife (c : T) (a b : E)
  | call (f : Str) (es : List E) | bi (b : Bi) (es : List E) | mt (m : Mt) (o : E) (es : List E)
  | ix (o i : E) | gix (x : Str) (i : E) | calv (i : Nat) (es : List E) | sl (fz : Bool) (o : E) (lo hi : Option E) | rev (fz : Bool) (o : E)
  /-- never come to -/
  | dead
  /-- max(a, default=d) -/
  | maxd (a d : E)
  /-- {}; d.get(k, x) -/
  | dnew | dg2 (o i x : E)
  /-- {k: v, ..}, at least one -/
  | dlit (ps : List E)
  /-- list(range(a)) -/
  | lrng (fz : Bool) (a : E)
  /-- max(a, key=f) -/
  | maxk (a : E) (f : Str)
  /-- len(set(a)), a list of texts -/
  | lens (a : E)
  /-- {(x, y): e for t in it}; (x, y) in o; o[(x, y)]; o.get((x, y)); {} that stays so -/
  | tabc (own : List Nat) (t : Tg) (it : I) (x y e : E) | tin (ng : Bool) (x y o : E) | tix (o x y : E) | tget (o x y : E) | tnew
  /-- {k: e for t in it}, k a number or a text -/
  | dcomp (own : List Nat) (t : Tg) (it : I) (k e : E)
  /-- f"..", its parts -/
  | fstr (es : List E)
  /-- o[-2::-1] -/
  | revm (fz : Bool) (o : E)
  | rev2 (fz : Bool) (o : E)
  /-- list(zip(a, b)) -/
  | lzip (fz : Bool) (a b : E)
  /-- f(.., q=e), q the one keyword-only parameter of f; f(..) where it lacks -/
  | kcall (f : Str) (es : List E) (q : Str) (e : E) | dcall (f : Str) (es : List E) (d : Int)
  /-- the value of e, a list of the store, is from here on never changed -/
  | frz (e : E)
  | lc (fz : Bool) (own : List Nat) (t : Tg) (it : I) (ifs : List T) (e : E)
  /-- a comprehension over a list of the store as it stands at each turn -/
  | lcV (fz : Bool) (own : List Nat) (t : Tg) (a : E) (ifs : List T) (e : E)
  | lc2 (fz : Bool) (own : List Nat) (t : Tg) (it : I) (ifs : List T) (own1 : List Nat) (t1 : Tg) (it1 : I) (ifs1 : List T) (e : E)
/-- a test -/
inductive T where
  | val (e : E) | not (t : T) | and (ts : List T) | or (ts : List T)
  | cmp (op : CmpOp) (a b : E) | ch (o1 o2 : CmpOp) (a b c : E)
  /-- x in a dict of the module -/
  | gin (d : Str) (x : E)
  /-- (x, y) in o, o a table -/
  | tin (ng : Bool) (x y o : E)
/-- an iterable -/
inductive I where
  | seq (e : E) | rng1 (a : E) | rng2 (a b : E) | rngd (a b : E) | enum (a : E) | zip (a b : E)
end
/-- what an except suite gives back, of the exception that it holds -/
inductive Sx where
  | tt (b : Bool) | isx (t : Str) | not (a : Sx) | and (a b : Sx)
def sxB (s : Str → Option Bool) : Sx → Option Bool
  | .tt b => some b
  | .isx t => s t
  | .not a => match sxB s a with
    | some b => some (!b)
    | none => none
  | .and a b => match sxB s a, sxB s b with
    | some x, some y => some (x && y)
    | _, _ => none
/-- what an except suite gives back, of the exception that it holds: an atom, a list of such -/
inductive Ha where
  | fld (f : Str) | str (x : Str) | int (i : Int) | bl (b : Bool) | non | bo (s : Sx)
inductive Hx where
  | at_ (a : Ha) | lst (fz : Bool) (as : List Ha)
inductive Sm where
  | asg (t : Tg) (e : E) | asgX (i : Nat) (fz : Bool) (own : List Nat) (t : Tg) (it : I) (e : E) | par (i j : Nat) (a b : E) | sub (o i e : E) | aug (i : Nat) (op : Operator) (e : E)
  | ret (e : E) | retN | expr (e : E)
  | ife (c : T) (a b : List Sm) | for (t : Tg) (it : I) (b : List Sm) | whl (c : T) (b : List Sm)
  | brk | cnt | pass | dead
  /-- t, .., *x = e -/
  | asgS (ts : List Tg) (i : Nat) (e : E)
  /-- for t in x, x a list of the store -/
  | forV (t : Tg) (i : Nat) (b : List Sm)
  | forE (t : Tg) (i : Nat) (b : List Sm)
  | par3 (i j l : Nat) (a b c : E) | tryA (i : Nat) (e : E) (c : Str) (r : E) | tryC (b : List Sm) (hs : List (Str × E))
  | raise0 (c : Str) | tryP (b : List Sm) | tryR (b : List Sm) (c : Str) (i : Nat) (su : Sx)
  /-- raise c(es), c's own __init__ keeping them as fs -/
  | raiseN (c : Str) (fs : List Str) (es : List E) | tryH (b : List Sm) (c : Str) (i : Nat) (r : Hx)

/-! ### stores to names -/
mutual
def tgW : Tg → W → Rho → Option Rho
  | .nm i, w, ρ => some (ρ.set i (some w))
  | .tp ts, .tup xs, ρ => tgsW ts xs ρ
  | .tp ts, .lst xs, ρ => tgsW ts xs ρ
  | .tp _, _, _ => none
def tgsW : List Tg → List W → Rho → Option Rho
  | [], [], ρ => some ρ
  | t :: ts, x :: xs, ρ => (tgW t x ρ).bind fun ρ' => tgsW ts xs ρ'
  | _, _, _ => none
end
def wipeR (ρ : Rho) : List Nat → Rho
  | [] => ρ
  | v :: vs => (wipeR ρ vs).set v none
/-- a comprehension's turns: the list so far -/
def turns (step : W → List W → Store → Out (List W)) : List W → List W → Store → Out (List W)
  | [], acc, S => .ok acc S
  | x :: xs, acc, S => (step x acc S).bd fun acc' S1 => turns step xs acc' S1
def push (acc : List W) (y : W) (S : Store) : Out (List W) := if acc.length < line then .ok (acc ++ [y]) S else .no
/-- a comprehension's turns over a list of the store as it stands -/
def turnsD (l : Nat) (step : W → List W → Store → Out (List W)) : Nat → Nat → List W → Store → Out (List W)
  | 0, _, _, _ => .no
  | n + 1, i, acc, S => match S[l]? with
    | some (some (.lst ys)) => (match ys[i]? with
      | some x => (step x acc S).bd fun acc' S1 => turnsD l step n (i + 1) acc' S1
      | none => .ok acc S)
    | _ => .no
/-- a loop's turns -/
def loops (step : W → Rho → Store → Out Fl) : List W → Rho → Store → Out Fl
  | [], ρ, S => .ok (.nx ρ) S
  | x :: xs, ρ, S => (step x ρ S).bd fun f S1 => match f with
    | .nx ρ' => loops step xs ρ' S1
    | .ct ρ' => loops step xs ρ' S1
    | .bk ρ' => .ok (.nx ρ') S1
    | .rt v => .ok (.rt v) S1
def whiles (c : Rho → Store → Out Bool) (b : Rho → Store → Out Fl) : Nat → Rho → Store → Out Fl
  | 0, _, _ => .no
  | n + 1, ρ, S => (c ρ S).bd fun t S1 => if t then (b ρ S1).bd fun f S2 => (match f with
    | .nx ρ' => whiles c b n ρ' S2
    | .ct ρ' => whiles c b n ρ' S2
    | .bk ρ' => .ok (.nx ρ') S2
    | .rt v => .ok (.rt v) S2) else .ok (.nx ρ) S1
/-- a loop over a list of the store as it stands at each turn -/
def loopsD (l : Nat) (step : W → Rho → Store → Out Fl) : Nat → Nat → Rho → Store → Out Fl
  | 0, _, _, _ => .no
  | n + 1, i, ρ, S => match S[l]? with
    | some (some (.lst ys)) => (match ys[i]? with
      | some x => (step x ρ S).bd fun f S1 => (match f with
        | .nx ρ' => loopsD l step n (i + 1) ρ' S1
        | .ct ρ' => loopsD l step n (i + 1) ρ' S1
        | .bk ρ' => .ok (.nx ρ') S1
        | .rt v => .ok (.rt v) S1)
      | none => .ok (.nx ρ) S)
    | _ => .no
/-- .. with its number -/
def loopsE (l : Nat) (step : W → Rho → Store → Out Fl) : Nat → Nat → Rho → Store → Out Fl
  | 0, _, _, _ => .no
  | n + 1, i, ρ, S => match S[l]? with
    | some (some (.lst ys)) => (match ys[i]? with
      | some x => (step (.tup [.int (i : Nat), x]) ρ S).bd fun f S1 => (match f with
        | .nx ρ' => loopsE l step n (i + 1) ρ' S1
        | .ct ρ' => loopsE l step n (i + 1) ρ' S1
        | .bk ρ' => .ok (.nx ρ') S1
        | .rt v => .ok (.rt v) S1)
      | none => .ok (.nx ρ) S)
    | _ => .no
/-- k above kb -/
def gtW : W → W → Option Bool
  | .int i, .int j => some (decide (j < i))
  | .tup [.int i1, .int i2], .tup [.int j1, .int j2] => some (if i1 = j1 then decide (j2 < i2) else decide (j1 < i1))
  | _, _ => none
/-- the greatest by f's worth, the first of several: vb so far, its worth kb -/
def maxkL (fn : List W → Store → Out W) : List W → W → W → Store → Out W
  | [], vb, _, S => .ok vb S
  | y :: r, vb, kb, S => (fn [y] S).noex.bd fun k S1 => (match gtW k kb with
    | some b => maxkL fn r (if b = true then y else vb) (if b = true then k else kb) S1
    | none => .no)
def maxkW (fn : List W → Store → Out W) : List W → Store → Out W
  | [], _ => .no
  | x :: r, S => (fn [x] S).noex.bd fun k S1 => maxkL fn r x k S1
/-- tables -/
abbrev Tab := List ((Bool × Str) × (Int × Str))
def tfind (k : Bool × Str) (t : Tab) : Option (Int × Str) := (t.find? fun p => decide (p.1 = k)).map (·.2)
def tput (k : Bool × Str) (v : Int × Str) (t : Tab) : Tab :=
  if (t.any fun p => decide (p.1 = k)) = true then t.map (fun p => if p.1 = k then (p.1, v) else p) else t ++ [(k, v)]
def tpairW (x y : W) : Option (Bool × Str) := match x, y with
  | .bl b, .str z => some (b, z)
  | _, _ => none
def tvalW : W → Option (Int × Str)
  | .tup [.int i, .str z] => some (i, z)
  | _ => none
def turnsT {β : Type} (step : W → List β → Store → Out (List β)) : List W → List β → Store → Out (List β)
  | [], acc, S => .ok acc S
  | x :: xs, acc, S => (step x acc S).bd fun acc' S1 => turnsT step xs acc' S1
def ofOpt {α : Type} (o : Option α) (S : Store) : Out α := match o with
  | some a => .ok a S
  | none => .no
@[simp] theorem ofOpt_some {α : Type} (a : α) (S : Store) : ofOpt (some a) S = .ok a S := rfl
@[simp] theorem ofOpt_none {α : Type} (S : Store) : (ofOpt (none : Option α) S) = .no := rfl

/-- the module's constants; its dicts with text keys -/
structure Gls where
  gl : Str → Option W
  gd : Str → List (Str × W)
  sub : Str → Str → Option Bool
def Gls.none : Gls := ⟨fun _ => .none, fun _ => [], fun _ _ => .none⟩
def lkS (z : Str) : List (Str × W) → Option W
  | [] => .none
  | (k, w) :: r => if k = z then some w else lkS z r
/-- the constants' list: name, value; the dicts' list: name, items -/
structure Gc where
  gl : List (Str × W)
  gd : List (Str × List (Str × W))
  /-- the exception classes: what each is an instance of -/
  cx : List (Str × List (Str × Bool))
  /-- those with fields -/
  xf : List (Str × List Str)
/-- an atom's worth -/
def haW (s : Str → Option Bool) (fs : List (Str × W)) : Ha → Option W
  | .fld f => lkS f fs
  | .str x => some (.str x)
  | .int i => some (.int i)
  | .bl b => some (.bl b)
  | .non => some .non
  | .bo t => (sxB s t).map .bl
def hasW (s : Str → Option Bool) (fs : List (Str × W)) : List Ha → Option (List W)
  | [] => some []
  | a :: r => match haW s fs a, hasW s fs r with
    | some w, some ws => some (w :: ws)
    | _, _ => .none
def hxW (s : Str → Option Bool) (fs : List (Str × W)) (r : Hx) (S : Store) : Out W := match r with
  | .at_ a => ofOpt (haW s fs a) S
  | .lst fz as => match hasW s fs as with
    | some ws => newL fz ws S
    | none => .no
def Gc.g (c : Gc) : Gls := ⟨fun x => lkS x c.gl, fun x => (c.gd.lookup x).getD [], fun x t => (c.cx.lookup x).bind (·.lookup t)⟩
/-- what the text leans on: the module's constants; its defs, with one call less; the number of turns that a while may take -/
structure Cn where
  gl : Gls
  fn : Str → List W → Store → Out W
  fuel : Nat
  has : Str → Bool
  /-- calls that may still be made -/
  lv : Nat

mutual
def den (C : Cn) : E → Rho → Store → Out W
  | .var i, ρ, S => (match ρ[i]? with
    | some (some w) => .ok w S
    | _ => .no)
  | .cint i, _, S => .ok (.int i) S
  | .cstr x, _, S => .ok (.str x) S
  | .cbl b, _, S => .ok (.bl b) S
  | .cnon, _, S => .ok .non S
  | .tyc n, _, S => .ok (.ty n) S
  | .glo x, _, S => ofOpt (C.gl.gl x) S
  | .tup es, ρ, S => (dens C es ρ S).bd fun xs S1 => if xs.length ≤ line then .ok (.tup xs) S1 else .no
  | .lst fz es, ρ, S => (dens C es ρ S).bd fun xs S1 => newL fz xs S1
  | .bin fz op a b, ρ, S => (den C a ρ S).bd fun x S1 => (den C b ρ S1).bd fun y S2 => binW fz op x y S2
  | .neg a, ρ, S => (den C a ρ S).bd fun x S1 => (match x with
    | .int i => .ok (.int (-i)) S1
    | _ => .no)
  | .not a, ρ, S => (den C a ρ S).bd fun x S1 => (ofOpt (truW S1 x) S1).bd fun b S1 => .ok (.bl (!b)) S1
  | .and es, ρ, S => andV C es ρ S
  | .or es, ρ, S => orV C es ρ S
  | .cmp op a b, ρ, S => (den C a ρ S).bd fun x S1 => (den C b ρ S1).bd fun y S2 => (cmpW op x y S2).bd fun t S3 => .ok (.bl t) S3
  | .ch o1 o2 a b c, ρ, S => (den C a ρ S).bd fun x S1 => (den C b ρ S1).bd fun y S2 => (cmpW o1 x y S2).bd fun t S3 =>
      if t then (den C c ρ S3).bd fun z S4 => (cmpW o2 y z S4).bd fun t S5 => .ok (.bl t) S5 else .ok (.bl false) S3
  | .ch3 o1 o2 o3 a b c d, ρ, S => (den C a ρ S).bd fun x S1 => (den C b ρ S1).bd fun y S2 => (cmpW o1 x y S2).bd fun t S3 =>
      if t then (den C c ρ S3).bd fun z S4 => (cmpW o2 y z S4).bd fun t S5 =>
        if t then (den C d ρ S5).bd fun u S6 => (cmpW o3 z u S6).bd fun t S7 => .ok (.bl t) S7 else .ok (.bl false) S5 else .ok (.bl false) S3
  | .ife c a b, ρ, S => (tst C c ρ S).bd fun t S1 => if t then den C a ρ S1 else den C b ρ S1
  | .call f es, ρ, S => (dens C es ρ S).bd fun xs S1 => C.fn f xs S1
  | .kcall f es _ e, ρ, S => (dens C es ρ S).bd fun xs S1 => (den C e ρ S1).bd fun y S2 => C.fn f (xs ++ [y]) S2
  | .dcall f es d, ρ, S => (dens C es ρ S).bd fun xs S1 => C.fn f (xs ++ [.int d]) S1
  | .bi b es, ρ, S => (dens C es ρ S).bd fun xs S1 => biW b xs S1
  | .mt m o es, ρ, S => (den C o ρ S).bd fun x S1 => if tyN S1 x = some (mtT m) then (dens C es ρ S1).bd fun xs S2 => mtW m x xs S2 else .no
  | .ix o i, ρ, S => (den C o ρ S).bd fun x S1 => (den C i ρ S1).bd fun y S2 => getW x y S2
  | .gix x i, ρ, S => (den C i ρ S).bd fun y S1 => (match y with
    | .str z => ofOpt (lkS z (C.gl.gd x)) S1
    | _ => .no)
  | .calv i es, ρ, S => (match ρ[i]? with
    | some (some (.fn f)) => if C.has f then (dens C es ρ S).bd fun xs S1 => C.fn f xs S1 else .no
    | _ => .no)
  | .sl fz o lo hi, ρ, S => (den C o ρ S).bd fun x S1 => (deno C lo ρ S1).bd fun l S2 => (deno C hi ρ S2).bd fun h S3 => sliceW fz x l h S3
  | .dead, _, _ => .no
  | .lrng fz a, ρ, S => (den C a ρ S).bd fun x S1 => (match x with
    | .int j => if small62 j then newL fz (rangeW 0 j) S1 else .no
    | _ => .no)
  | .maxk a f, ρ, S => (den C a ρ S).bd fun x S1 => (match x with
    | .lst xs => maxkW (C.fn f) xs S1
    | _ => .no)
  | .lens a, ρ, S => (den C a ρ S).bd fun x S1 => (match x with
    | .lst xs => (match strsOf xs with
      | some ys => if ys.length < 4000 then .ok (.int (unlk ys ys.length : Nat)) S1 else .no
      | none => .no)
    | _ => .no)
  | .tnew, _, S => .ok (.tab []) S
  | .tin ng x y o, ρ, S => (den C x ρ S).bd fun u S1 => (den C y ρ S1).bd fun v S2 => (den C o ρ S2).bd fun d S3 => (match d, tpairW u v with
    | .tab t, some k => .ok (.bl ((tfind k t).isSome != ng)) S3
    | _, _ => .no)
  | .tix o x y, ρ, S => (den C o ρ S).bd fun d S1 => (den C x ρ S1).bd fun u S2 => (den C y ρ S2).bd fun v S3 => (match d, tpairW u v with
    | .tab t, some k => (match tfind k t with
      | some p => .ok (.tup [.int p.1, .str p.2]) S3
      | none => .no)
    | _, _ => .no)
  | .tget o x y, ρ, S => (den C o ρ S).bd fun d S1 => (match d with
    | .tab t => (den C x ρ S1).bd fun u S2 => (den C y ρ S2).bd fun v S3 => (match tpairW u v with
      | some k => (match tfind k t with
        | some p => .ok (.tup [.int p.1, .str p.2]) S3
        | none => .ok .non S3)
      | none => .no)
    | _ => .no)
  | .tabc own t it x y e, ρ, S => (itr C it ρ S).bd fun xs S1 =>
      (turnsT (fun z acc S2 => (ofOpt (tgW t z (wipeR ρ own)) S2).bd fun ρ2 S2 => (den C x ρ2 S2).noex.bd fun u S3 => (den C y ρ2 S3).noex.bd fun v S4 => (den C e ρ2 S4).noex.bd fun w S5 => (match tpairW u v, tvalW w with
        | some k, some p => if acc.length < line then .ok (tput k p acc) S5 else .no
        | _, _ => .no)) xs [] S1).bd fun t S6 => .ok (.tab t) S6
  | .dcomp own t it k e, ρ, S => (itr C it ρ S).bd fun xs S1 =>
      (turnsT (fun z acc S2 => (ofOpt (tgW t z (wipeR ρ own)) S2).bd fun ρ2 S2 => (den C k ρ2 S2).noex.bd fun u S3 => (den C e ρ2 S3).noex.bd fun w S4 => (match keyW u with
        | some kk => if acc.length < line then .ok (dput kk w acc) S4 else .no
        | none => .no)) xs [] S1).bd fun t S6 => .ok (.loc S6.length) (S6 ++ [some (.dic t)])
  | .fstr es, ρ, S => fstrD C es ⟨#[]⟩ ρ S
  | .rev2 fz o, ρ, S => (den C o ρ S).bd fun x S1 => (match lstW S1 x with
    | some xs => newL fz xs.dropLast.reverse S1
    | none => .no)
  | .revm fz o, ρ, S => (den C o ρ S).bd fun x S1 => (match lstW S1 x with
    | some xs => newL fz xs.dropLast.reverse S1
    | none => .no)
  | .lzip fz a b, ρ, S => (den C a ρ S).bd fun x S1 => (den C b ρ S1).bd fun y S2 => (match x, y with
    | .lst xs, .lst ys => newL fz (zipW xs ys) S2
    | _, _ => .no)
  | .maxd a d, ρ, S => (den C a ρ S).bd fun x S1 => (den C d ρ S1).bd fun y S2 => (match x, y with
    | .lst xs, .int j => (match intsOf xs with
      | some [] => .ok (.int j) S2
      | some (n :: ns) => .ok (.int (maxI (n :: ns))) S2
      | none => .no)
    | _, _ => .no)
  | .dnew, _, S => .ok (.loc S.length) (S ++ [some (.dic [])])
  | .dlit ps, ρ, S => (dprs C ps ρ S).bd fun kvs S1 => if kvs.length ≤ 15 then .ok (.loc S1.length) (S1 ++ [some (.dic (dmerge [] kvs))]) else .no
  | .dg2 o i x, ρ, S => (den C o ρ S).bd fun u S1 => (match dicW S1 u with
    | none => .no
    | some _ => (den C i ρ S1).bd fun y S2 => (den C x ρ S2).bd fun z S3 => (match dicW S3 u, keyW y with
      | some kvs, some k => .ok ((dget k kvs).getD z) S3
      | _, _ => .no))
  | .rev fz o, ρ, S => (den C o ρ S).bd fun x S1 => revW fz x S1
  | .frz e, ρ, S => (den C e ρ S).bd fun x S1 => (match x with
    | .loc l => (match S1[l]? with
      | some (some (.lst xs)) => .ok (.lst xs) (S1.set l none)
      | _ => .no)
    | _ => .no)
  | .lc fz own t it ifs e, ρ, S => (itr C it ρ S).bd fun xs S1 =>
      (turns (fun x acc S2 => (ofOpt (tgW t x (wipeR ρ own)) S2).bd fun ρ2 S2 => (ands C ifs ρ2 S2).noex.bd fun b S3 => if b then (den C e ρ2 S3).noex.bd fun y S4 => push acc y S4 else .ok acc S3) xs [] S1).bd fun ys S5 => newL fz ys S5
  | .lcV fz own t a ifs e, ρ, S => (den C a ρ S).bd fun x S1 => (match x with
    | .loc l => (turnsD l (fun x acc S2 => (ofOpt (tgW t x (wipeR ρ own)) S2).bd fun ρ2 S2 => (ands C ifs ρ2 S2).noex.bd fun b S3 => if b then (den C e ρ2 S3).noex.bd fun y S4 => push acc y S4 else .ok acc S3) C.fuel 0 [] S1).bd fun ys S5 => newL fz ys S5
    | _ => .no)
  | .lc2 fz own t it ifs own1 t1 it1 ifs1 e, ρ, S => (itr C it ρ S).bd fun xs S1 =>
      (turns (fun x acc S2 => (ofOpt (tgW t x (wipeR ρ own)) S2).bd fun ρ2 S2 => (ands C ifs ρ2 S2).noex.bd fun b S3 => if b then (itr C it1 ρ2 S3).noex.bd fun zs S4 =>
        turns (fun z acc S5 => (ofOpt (tgW t1 z (wipeR ρ2 own1)) S5).bd fun ρ3 S5 => (ands C ifs1 ρ3 S5).noex.bd fun b S6 => if b then (den C e ρ3 S6).noex.bd fun y S7 => push acc y S7 else .ok acc S6) zs acc S4 else .ok acc S3) xs [] S1).bd fun ys S5 => newL fz ys S5
def dprs (C : Cn) : List E → Rho → Store → Out (List (Key × W))
  | k :: v :: r, ρ, S => (den C k ρ S).noex.bd fun x S1 => (den C v ρ S1).noex.bd fun y S2 => (match keyW x with
    | some kk => (dprs C r ρ S2).bd fun r S3 => .ok ((kk, y) :: r) S3
    | none => .no)
  | [], _, S => .ok [] S
  | [_], _, _ => .no
/-- texts one behind the other, behind acc -/
def fstrD (C : Cn) : List E → Str → Rho → Store → Out W
  | [], acc, _, S => .ok (.str acc) S
  | e :: es, acc, ρ, S => (den C e ρ S).bd fun x S1 => (match x with
    | .str y => if acc.length + y.length ≤ line then fstrD C es (acc ++ y) ρ S1 else .no
    | _ => .no)
def deno (C : Cn) : Option E → Rho → Store → Out (Option Int)
  | none, _, S => .ok none S
  | some e, ρ, S => (den C e ρ S).bd fun x S1 => (match x with
    | .int i => .ok (some i) S1
    | _ => .no)
def dens (C : Cn) : List E → Rho → Store → Out (List W)
  | [], _, S => .ok [] S
  | e :: es, ρ, S => (den C e ρ S).bd fun x S1 => (dens C es ρ S1).bd fun xs S2 => .ok (x :: xs) S2
def andV (C : Cn) : List E → Rho → Store → Out W
  | [], _, _ => .no
  | [e], ρ, S => den C e ρ S
  | e :: es, ρ, S => (den C e ρ S).bd fun x S1 => (ofOpt (truW S1 x) S1).bd fun b S1 => if b then andV C es ρ S1 else .ok x S1
def orV (C : Cn) : List E → Rho → Store → Out W
  | [], _, _ => .no
  | [e], ρ, S => den C e ρ S
  | e :: es, ρ, S => (den C e ρ S).bd fun x S1 => (ofOpt (truW S1 x) S1).bd fun b S1 => if b then .ok x S1 else orV C es ρ S1
def tst (C : Cn) : T → Rho → Store → Out Bool
  | .val e, ρ, S => (den C e ρ S).bd fun x S1 => ofOpt (truW S1 x) S1
  | .not a, ρ, S => (tst C a ρ S).bd fun b S1 => .ok (!b) S1
  | .and es, ρ, S => ands C es ρ S
  | .or es, ρ, S => ors C es ρ S
  | .cmp op a b, ρ, S => (den C a ρ S).bd fun x S1 => (den C b ρ S1).bd fun y S2 => cmpW op x y S2
  | .gin d x, ρ, S => (den C x ρ S).bd fun u S1 => (match u with
    | .str z => .ok (lkS z (C.gl.gd d)).isSome S1
    | _ => .no)
  | .tin ng x y o, ρ, S => (den C x ρ S).bd fun u S1 => (den C y ρ S1).bd fun v S2 => (den C o ρ S2).bd fun d S3 => (match d, tpairW u v with
    | .tab t, some k => .ok ((tfind k t).isSome != ng) S3
    | _, _ => .no)
  | .ch o1 o2 a b c, ρ, S => (den C a ρ S).bd fun x S1 => (den C b ρ S1).bd fun y S2 => (cmpW o1 x y S2).bd fun t S3 =>
      if t then (den C c ρ S3).bd fun z S4 => cmpW o2 y z S4 else .ok false S3
def ands (C : Cn) : List T → Rho → Store → Out Bool
  | [], _, S => .ok true S
  | e :: es, ρ, S => (tst C e ρ S).bd fun b S1 => if b then ands C es ρ S1 else .ok false S1
def ors (C : Cn) : List T → Rho → Store → Out Bool
  | [], _, S => .ok false S
  | e :: es, ρ, S => (tst C e ρ S).bd fun b S1 => if b then .ok true S1 else ors C es ρ S1
/-- what an iterable gives out -/
def itr (C : Cn) : I → Rho → Store → Out (List W)
  | .seq e, ρ, S => (den C e ρ S).bd fun x S1 => ofOpt (frozenW x) S1
  | .rng1 a, ρ, S => (den C a ρ S).bd fun x S1 => (match x with
    | .int j => if small62 j then .ok (rangeW 0 j) S1 else .no
    | _ => .no)
  | .rng2 a b, ρ, S => (den C a ρ S).bd fun x S1 => (den C b ρ S1).bd fun y S2 => (match x, y with
    | .int i, .int j => .ok (rangeW i j) S2
    | _, _ => .no)
  | .rngd a b, ρ, S => (den C a ρ S).bd fun x S1 => (den C b ρ S1).bd fun y S2 => (match x, y with
    | .int i, .int j => if small62 i ∧ small62 j then .ok (rangeD i j) S2 else .no
    | _, _ => .no)
  | .enum a, ρ, S => (den C a ρ S).bd fun x S1 => (match x with
    | .lst xs => .ok (enumW 0 xs) S1
    | _ => .no)
  | .zip a b, ρ, S => (den C a ρ S).bd fun x S1 => (den C b ρ S1).bd fun y S2 => (match x, y with
    | .lst xs, .lst ys => .ok (zipW xs ys) S2
    | .tup xs, .tup ys => .ok (zipW xs ys) S2
    | _, _ => .no)
end
mutual
/-- a handler's worth: constants alone -/
def cstO : E → Store → Out W
  | .cstr z, S => .ok (.str z) S
  | .cint i, S => .ok (.int i) S
  | .cbl b, S => .ok (.bl b) S
  | .cnon, S => .ok .non S
  | .tup es, S => (cstOs es S).bd fun ws S1 => if ws.length ≤ line then .ok (.tup ws) S1 else .no
  | .lst fz es, S => (cstOs es S).bd fun ws S1 => newL fz ws S1
  | _, _ => .no
def cstOs : List E → Store → Out (List W)
  | [], S => .ok [] S
  | e :: es, S => (cstO e S).bd fun w S1 => (cstOs es S1).bd fun ws S2 => .ok (w :: ws) S2
end
/-- the first clause that takes it -/
def hdsO (sub : Str → Option Bool) (x : Xc) : List (Str × E) → Store → Out Fl
  | [], S => .ex x S
  | (c, r) :: hs, S => (match sub c with
    | some true => (cstO r S).bd fun w S2 => .ok (.rt w) S2
    | some false => hdsO sub x hs S
    | none => .no)
mutual
def exe (C : Cn) : Sm → Rho → Store → Out Fl
  | .asg t e, ρ, S => (den C e ρ S).bd fun x S1 => (ofOpt (tgW t x ρ) S1).bd fun ρ' S1 => .ok (.nx ρ') S1
  | .asgX i fz own t it e, ρ, S => (itr C it ρ S).bd fun xs S1 => (turns (fun x acc S2 => (ofOpt (tgW t x (wipeR ρ own)) S2).bd fun ρ2 S2 => (den C e ρ2 S2).bd fun y S4 => push acc y S4) xs [] S1).bd fun ys S5 => (newL fz ys S5).bd fun w S6 => .ok (.nx (ρ.set i (some w))) S6
  | .asgS ts i e, ρ, S => (den C e ρ S).bd fun x S1 => (match seqW S1 x with
    | some xs => if ts.length ≤ xs.length then (ofOpt (tgsW ts (xs.take ts.length) ρ) S1).bd fun ρ' S1 => .ok (.nx (ρ'.set i (some (.lst (xs.drop ts.length))))) S1 else .no
    | none => .no)
  | .par3 i j l a b c, ρ, S => (den C a ρ S).bd fun x S1 => (den C b ρ S1).bd fun y S2 => (den C c ρ S2).bd fun z S3 => .ok (.nx (((ρ.set i (some x)).set j (some y)).set l (some z))) S3
  | .tryA i e c r, ρ, S => (match den C e ρ S with
    | .ok w S1 => .ok (.nx (ρ.set i (some w))) S1
    | .ex x S1 => (match C.gl.sub x.cls c with
      | some true => (cstO r S1).bd fun w S2 => .ok (.nx (ρ.set i (some w))) S2
      | some false => .ex x S1
      | none => .no)
    | .no => .no)
  | .tryC b hs, ρ, S => (match exes C b ρ S with
    | .ok f S1 => .ok f S1
    | .ex x S1 => hdsO (C.gl.sub x.cls) x hs S1
    | .no => .no)
  | .par i j a b, ρ, S => (den C a ρ S).bd fun x S1 => (den C b ρ S1).bd fun y S2 => .ok (.nx ((ρ.set i (some x)).set j (some y))) S2
  | .sub o i e, ρ, S => (den C e ρ S).bd fun v S1 => (den C o ρ S1).bd fun x S2 => (den C i ρ S2).bd fun k S3 => (match setW x k v S3 with
    | some S4 => .ok (.nx ρ) S4
    | none => .no)
  | .aug i op e, ρ, S => (match ρ[i]? with
    | some (some x) => (den C e ρ S).bd fun y S2 => (augW op x y S2).bd fun z S3 => .ok (.nx (ρ.set i (some z))) S3
    | _ => .no)
  | .ret e, ρ, S => (den C e ρ S).bd fun x S1 => .ok (.rt x) S1
  | .retN, _, S => .ok (.rt .non) S
  | .expr e, ρ, S => (den C e ρ S).bd fun _ S1 => .ok (.nx ρ) S1
  | .ife c a b, ρ, S => (tst C c ρ S).bd fun t S1 => if t then exes C a ρ S1 else exes C b ρ S1
  | .for t it b, ρ, S => (itr C it ρ S).bd fun xs S1 => loops (fun x ρ1 S2 => (ofOpt (tgW t x ρ1) S2).bd fun ρ2 S2 => exes C b ρ2 S2) xs ρ S1
  | .whl c b, ρ, S => whiles (fun ρ S => tst C c ρ S) (fun ρ S => exes C b ρ S) C.fuel ρ S
  | .brk, ρ, S => .ok (.bk ρ) S
  | .cnt, ρ, S => .ok (.ct ρ) S
  | .pass, ρ, S => .ok (.nx ρ) S
  | .dead, _, _ => .no
  | .forV t i b, ρ, S => (match ρ[i]? with
    | some (some (.loc l)) => loopsD l (fun x ρ1 S2 => (ofOpt (tgW t x ρ1) S2).bd fun ρ2 S2 => exes C b ρ2 S2) C.fuel 0 ρ S
    | _ => .no)
  | .forE t i b, ρ, S => (match ρ[i]? with
    | some (some (.loc l)) => loopsE l (fun x ρ1 S2 => (ofOpt (tgW t x ρ1) S2).bd fun ρ2 S2 => exes C b ρ2 S2) C.fuel 0 ρ S
    | _ => .no)
  | .raise0 c, _, S => .ex ⟨c, []⟩ S
  | .raiseN c fs es, ρ, S => if 2 ≤ C.lv then (dens C es ρ S).bd fun xs S1 => if xs.length = fs.length ∧ fs ≠ [] then .ex ⟨c, (fs.zip xs).reverse⟩ S1 else .no else .no
  | .tryP b, ρ, S => (exes C b ρ S).noex
  | .tryH b c _ r, ρ, S => (match exes C b ρ S with
    | .ok f S1 => .ok f S1
    | .ex x S1 => (match C.gl.sub x.cls c with
      | some true => (hxW (C.gl.sub x.cls) x.fs r S1).bd fun w S2 => .ok (.rt w) S2
      | some false => .ex x S1
      | none => .no)
    | .no => .no)
  | .tryR b c _ su, ρ, S => (match exes C b ρ S with
    | .ok f S1 => .ok f S1
    | .ex x S1 => (match C.gl.sub x.cls c, x.fs with
      | some true, [] => (match sxB (C.gl.sub x.cls) su with
        | some t => .ok (.rt (.bl t)) S1
        | none => .no)
      | some false, _ => .ex x S1
      | _, _ => .no)
    | .no => .no)
def exes (C : Cn) : List Sm → Rho → Store → Out Fl
  | [], ρ, S => .ok (.nx ρ) S
  | s :: r, ρ, S => (exe C s ρ S).bd fun f S1 => match f with
    | .nx ρ' => exes C r ρ' S1
    | f => .ok f S1
end

/-! ### a def's call -/
structure Fd where
  name : Str
  np : Nat
  ns : Nat
  body : List Sm
mutual
def W.bel (n : Nat) : W → Bool
  | .tup xs => W.bels n xs
  | .lst xs => W.bels n xs
  | .loc l => decide (l < n)
  | _ => true
def W.bels (n : Nat) : List W → Bool
  | [] => true
  | x :: r => W.bel n x && W.bels n r
end
def Ob.bel (n : Nat) : Ob → Bool
  | .lst xs => W.bels n xs
  | .dic kvs => kvs.all fun p => W.bel n p.2
  | .ins _ fs => fs.all fun p => W.bel n p.2
def belowS (n : Nat) : Store → Bool
  | [] => true
  | none :: r => belowS n r
  | some o :: r => o.bel n && belowS n r
/-- behind a call what it made and nobody holds is forgotten -/
def leave (n : Nat) (w : W) (S : Store) : Out W := if w.bel n && belowS n (S.take n) then .ok w (S.take n) else .ok w S
def belowX (n : Nat) (x : Xc) : Bool := x.fs.all fun p => p.2.bel n
def runFd (C : Cn) (d : Fd) (vs : List W) (S : Store) : Out W :=
  if vs.length = d.np then match exes C d.body (vs.map some ++ List.replicate (d.ns - d.np) none) S with
    | .ok (.rt w) S1 => leave S.length w S1
    | .ok (.nx _) S1 => leave S.length .non S1
    | .ok _ _ => .no
    | .ex x S1 => .ex x S1
    | .no => .no
  else .no
/-- calls at most n deep -/
def fnN (gl : Gls) (fuel : Nat) (ds : List Fd) : Nat → Str → List W → Store → Out W
  | 0, _, _, _ => .no
  | n + 1, f, vs, S => match ds.find? (·.name = f) with
    | some d => runFd ⟨gl, fnN gl fuel ds n, fuel, fun f => ds.any fun d => d.name = f, n⟩ d vs S
    | none => .no
end Gs
end

section
set_option linter.all false
set_option maxRecDepth 100000
namespace K39
open PySem Gs

def b_chain_of : List Sm := [.asg (.nm 1) (.lst false []), .whl (.cmp .Eq (.ix (.var 0) (.cint 0)) (.cstr "and")) [.expr (.mt .append (.var 1) [(.ix (.var 0) (.cint 1))]), .asg (.nm 0) (.ix (.var 0) (.cint 2))], .expr (.mt .append (.var 1) [(.var 0)]), .ret (.frz (.var 1))]
abbrev d_chain_of : Fd := ⟨"chain_of", 1, 2, b_chain_of⟩
def b_ranges_of : List Sm := [.asg (.nm 1) (.var 0), .ife (.cmp .Eq (.ix (.var 0) (.cint 0)) (.cstr "such")) [.asg (.nm 1) (.ix (.var 0) (.cint 1))] [], .ret (.lc true [2, 3, 4, 5, 6] (.tp [(.nm 2), (.nm 3), (.tp [(.nm 4), (.nm 5), (.nm 6)])]) (.seq (.call "chain_of" [(.var 1)])) [] (.tup [(.var 3), (.var 5), (.var 6)]))]
abbrev d_ranges_of : Fd := ⟨"ranges_of", 1, 7, b_ranges_of⟩
def b_tests_of : List Sm := [.ife (.cmp .Eq (.ix (.var 0) (.cint 0)) (.cstr "such")) [.ret (.call "chain_of" [(.ix (.var 0) (.cint 2))])] [], .ret (.lst true [])]
abbrev d_tests_of : Fd := ⟨"tests_of", 1, 1, b_tests_of⟩
def b_is_unknown : List Sm := [.ret (.and [(.bi .isinst [(.var 0), (.tyc "str")]), (.ch .LtE .LtE (.cstr "A") (.ix (.var 0) (.cint 0)) (.cstr "Z"))])]
abbrev d_is_unknown : Fd := ⟨"is_unknown", 1, 1, b_is_unknown⟩
def b_reckoned : List Sm := [.ife (.or [(.cmp .Is (.var 1) .cnon), (.cmp .Is (.var 2) .cnon)]) [.ret .cnon] [], .ife (.cmp .Eq (.var 0) (.cstr "+")) [.ret (.bin true .Add (.var 1) (.var 2))] [], .ife (.cmp .Eq (.var 0) (.cstr "-")) [.ret (.bin true .Sub (.var 1) (.var 2))] [], .ife (.cmp .Eq (.var 0) (.cstr "*")) [.ret (.bin true .Mult (.var 1) (.var 2))] [], .ife (.cmp .Eq (.var 2) (.cint 0)) [.ret .cnon] [], .asg (.tp [(.nm 3), (.nm 4)]) (.bi .divmod [(.var 1), (.var 2)]), .ife (.cmp .Eq (.var 0) (.cstr "//")) [.ret (.var 3)] [], .ret (.var 4)]
abbrev d_reckoned : Fd := ⟨"reckoned", 3, 5, b_reckoned⟩
def b_number_in : List Sm := [.ife (.val (.bi .isinst [(.var 0), (.tyc "int")])) [.ret (.var 0)] [], .ret .cnon]
abbrev d_number_in : Fd := ⟨"number_in", 1, 1, b_number_in⟩
def b_sum_under : List Sm := [.ife (.val (.bi .isinst [(.var 0), (.tyc "tuple")])) [.asg (.tp [(.nm 2), (.nm 3), (.nm 4)]) (.var 0), .ret (.call "reckoned" [(.var 2), (.call "sum_under" [(.var 3), (.var 1)]), (.call "sum_under" [(.var 4), (.var 1)])])] [], .ife (.val (.call "is_unknown" [(.var 0)])) [.ret (.call "number_in" [(.ix (.var 1) (.var 0))])] [], .ret (.call "number_in" [(.var 0)])]
abbrev d_sum_under : Fd := ⟨"sum_under", 2, 5, b_sum_under⟩
def b_many_points : List Sm := [.asg (.nm 1) (.cint 1), .for (.tp [(.nm 2), (.nm 3)]) (.seq (.var 0)) [.aug 1 .Mult (.bi .max2 [(.cint 0), (.bin true .Add (.bin true .Sub (.var 3) (.var 2)) (.cint 1))])], .ret (.var 1)]
abbrev d_many_points : Fd := ⟨"many_points", 1, 4, b_many_points⟩
def b_checked_points : List Sm := [.asg (.nm 1) (.call "many_points" [(.var 0)]), .ife (.cmp .Gt (.var 1) (.glo "POINTS")) [.raise0 "Open"] [], .ret (.var 1)]
abbrev d_checked_points : Fd := ⟨"checked_points", 1, 2, b_checked_points⟩
def b_as_tree : List Sm := [.ife (.val (.bi .isinst [(.var 0), (.tyc "tuple")])) [.asg (.nm 3) (.lc true [4] (.nm 4) (.seq (.sl true (.var 0) (some (.cint 1)) none)) [] (.call "as_tree" [(.var 4), (.var 1), (.var 2)])), .ife (.cmp .In .cnon (.var 3)) [.ret .cnon] [], .ret (.bin true .Add (.tup [(.ix (.var 0) (.cint 0))]) (.bi .tupleOf [(.var 3)]))] [], .ife (.cmp .In (.var 0) (.var 1)) [.ret (.tup [(.cstr "at"), (.ix (.var 1) (.var 0))])] [], .ife (.val (.call "is_unknown" [(.var 0)])) [.ret (.call "number_in" [(.ix (.var 2) (.var 0))])] [], .ret (.var 0)]
abbrev d_as_tree : Fd := ⟨"as_tree", 3, 5, b_as_tree⟩
def b_box_under : List Sm := [.asg (.nm 2) (.tup []), .for (.tp [(.nm 3), (.nm 4), (.nm 5)]) (.seq (.call "ranges_of" [(.var 0)])) [.asg (.nm 6) (.tup []), .for (.nm 7) (.seq (.tup [(.var 4), (.var 5)])) [.asg (.nm 8) (.call "sum_under" [(.var 7), (.var 1)]), .ife (.cmp .Is (.var 8) .cnon) [.ret .cnon] [], .ife (.cmp .Gt (.bi .len [(.bi .str1 [(.bi .abs [(.var 8)])])]) (.glo "FIGURES")) [.raise0 "Open"] [], .aug 6 .Add (.tup [(.var 8)])], .aug 2 .Add (.tup [(.var 6)])], .ife (.cmp .Eq (.call "checked_points" [(.var 2)]) (.cint 0)) [.ret .cnon] [], .ret (.var 2)]
abbrev d_box_under : Fd := ⟨"box_under", 2, 9, b_box_under⟩
def b_resolved : List Sm := [.asg (.nm 2) (.call "box_under" [(.var 0), (.var 1)]), .ife (.cmp .Is (.var 2) .cnon) [.ret .cnon] [], .asg (.nm 3) (.dcomp [4, 5, 6, 7] (.tp [(.nm 4), (.tp [(.nm 5), (.nm 6), (.nm 7)])]) (.enum (.call "ranges_of" [(.var 0)])) (.var 5) (.var 4)), .asg (.nm 8) (.lst false []), .for (.tp [(.nm 9), (.nm 10), (.nm 11)]) (.seq (.call "tests_of" [(.var 0)])) [.asg (.nm 12) (.lst true [(.call "as_tree" [(.var 10), (.var 3), (.var 1)]), (.call "as_tree" [(.var 11), (.var 3), (.var 1)])]), .ife (.cmp .In .cnon (.var 12)) [.ret .cnon] [], .expr (.mt .append (.var 8) [(.tup [(.var 9), (.ix (.var 12) (.cint 0)), (.ix (.var 12) (.cint 1))])])], .ret (.tup [(.var 2), (.bi .tupleOf [(.var 8)])])]
abbrev d_resolved : Fd := ⟨"resolved", 2, 13, b_resolved⟩
def b__law_draw : List Sm := [.sub (.var 0) (.cint 2) (.bin true .Add (.ix (.var 0) (.cint 2)) (.cint 1)), .ife (.and [(.cmp .Eq (.ix (.var 0) (.cint 1)) (.cint 0)), (.cmp .NotEq (.ix (.var 0) (.cint 0)) (.lst true []))]) [.sub (.var 0) (.cint 1) (.mt .popAt (.ix (.var 0) (.cint 0)) [(.cint 0)]), .ife (.cmp .Lt (.ix (.var 0) (.cint 1)) (.bin true .Pow (.cint 10) (.cint 18))) [.sub (.var 0) (.cint 3) (.bin true .Mod (.bin true .Add (.bin true .Mult (.ix (.var 0) (.cint 3)) (.cint 39373)) (.ix (.var 0) (.cint 1))) (.cint 2147483647)), .sub (.var 0) (.cint 1) (.cint 0)] []] [], .ife (.cmp .Gt (.ix (.var 0) (.cint 1)) (.cint 0)) [.asg (.nm 2) (.bin true .Mod (.ix (.var 0) (.cint 1)) (.var 1)), .sub (.var 0) (.cint 1) (.bin true .FloorDiv (.ix (.var 0) (.cint 1)) (.var 1)), .ret (.var 2)] [], .asg (.nm 2) (.bin true .Mod (.bin true .Pow (.bin true .Add (.bin true .Add (.ix (.var 0) (.cint 3)) (.bin true .Mult (.cint 7919) (.ix (.var 0) (.cint 2)))) (.cint 104729)) (.cint 5)) (.cint 2147483647)), .ret (.bin true .Mod (.bin true .Mod (.bin true .Mult (.bin true .Add (.var 2) (.ix (.var 0) (.cint 2))) (.cint 48271)) (.cint 2147483629)) (.var 1))]
abbrev d__law_draw : Fd := ⟨"_law_draw", 2, 3, b__law_draw⟩
def b__law_text : List Sm := [.asg (.nm 3) (.ix (.var 1) (.call "_law_draw" [(.var 0), (.bi .len [(.var 1)])])), .for (.nm 4) (.rng1 (.ix (.lst true [(.cint 0), (.cint 0), (.cint 1), (.cint 3)]) (.call "_law_draw" [(.var 0), (.cint 4)]))) [.asg (.nm 3) (.bin true .Add (.var 3) (.ix (.cstr "abcdefghijklmnopqrstuvwxyz0123456789") (.call "_law_draw" [(.var 0), (.cint 36)])))], .whl (.cmp .In (.var 3) (.bin true .Add (.var 2) (.lst true [(.cstr "op"), (.cstr "mode"), (.cstr "table"), (.cstr "not"), (.cstr "is"), (.cstr "in"), (.cstr "such"), (.cstr "and"), (.cstr "mod")]))) [.asg (.nm 3) (.bin true .Add (.var 3) (.cstr "a"))], .ret (.var 3)]
abbrev d__law_text : Fd := ⟨"_law_text", 3, 5, b__law_text⟩
def b__law_term : List Sm := [.asg (.nm 1) (.call "_law_draw" [(.var 0), (.cint 10)]), .ife (.cmp .Eq (.var 1) (.cint 0)) [.ret (.call "_law_text" [(.var 0), (.cstr "abcdefghijklmnopqrstuvwxyz"), (.lst true [])])] [], .ife (.cmp .Eq (.var 1) (.cint 1)) [.asg (.nm 2) (.ix (.lst true [(.cstr "f"), (.cstr "+"), (.cstr "-"), (.cstr "*"), (.cstr "//"), (.cstr "mod"), (.cstr "at")]) (.call "_law_draw" [(.var 0), (.cint 7)])), .ret (.sl true (.tup [(.var 2), (.call "_law_draw" [(.var 0), (.cint 6)]), (.call "_law_draw" [(.var 0), (.cint 6)])]) none (some (.bin true .Add (.cint 2) (.call "_law_draw" [(.var 0), (.cint 2)]))))] [], .ife (.cmp .Eq (.var 1) (.cint 2)) [.ret (.bin true .Mult (.bin true .Sub (.bin true .Sub (.bin true .Pow (.cint 10) (.cint 60)) (.cint 1)) (.call "_law_draw" [(.var 0), (.bin true .Pow (.cint 10) (.cint 20))])) (.bin true .Sub (.cint 1) (.bin true .Mult (.cint 2) (.call "_law_draw" [(.var 0), (.cint 2)]))))] [], .ret (.bin true .Sub (.call "_law_draw" [(.var 0), (.cint 13)]) (.cint 5))]
abbrev d__law_term : Fd := ⟨"_law_term", 1, 3, b__law_term⟩
def b__law_sum : List Sm := [.asg (.nm 3) (.call "_law_draw" [(.var 0), (.cint 5)]), .ife (.cmp .Lt (.var 3) (.cint 2)) [.ret (.ix (.var 1) (.call "_law_draw" [(.var 0), (.bi .len [(.var 1)])]))] [], .ife (.or [(.cmp .Eq (.var 2) (.cint 0)), (.cmp .Lt (.var 3) (.cint 4))]) [.ret (.bin true .Sub (.call "_law_draw" [(.var 0), (.cint 13)]) (.cint 5))] [], .asg (.nm 4) (.ix (.lst true [(.cstr "+"), (.cstr "-"), (.cstr "*"), (.cstr "//"), (.cstr "mod")]) (.call "_law_draw" [(.var 0), (.cint 5)])), .ret (.tup [(.var 4), (.call "_law_sum" [(.var 0), (.var 1), (.bin true .Sub (.var 2) (.cint 1))]), (.call "_law_sum" [(.var 0), (.var 1), (.bin true .Sub (.var 2) (.cint 1))])])]
abbrev d__law_sum : Fd := ⟨"_law_sum", 3, 5, b__law_sum⟩
def b__law_range : List Sm := [.asg (.nm 4) (.call "_law_draw" [(.var 0), (.cint 16)]), .asg (.nm 5) (.bin true .Sub (.call "_law_draw" [(.var 0), (.cint 13)]) (.cint 5)), .asg (.nm 6) (.bin true .Add (.var 5) (.call "_law_draw" [(.var 0), (.cint 6)])), .ife (.cmp .Eq (.var 4) (.cint 0)) [.asg (.nm 6) (.bin true .Add (.var 5) (.ix (.lst true [(.cint 19), (.cint 20), (.cint 399), (.cint 400), (.neg (.cint 1)), (.neg (.cint 2))]) (.call "_law_draw" [(.var 0), (.cint 6)])))] [], .ife (.cmp .Eq (.var 4) (.cint 1)) [.asg (.nm 6) (.bin true .Sub (.bin true .Pow (.cint 10) (.cint 60)) (.cint 1)), .asg (.nm 5) (.bin true .Sub (.var 6) (.call "_law_draw" [(.var 0), (.cint 3)])), .ife (.cmp .Eq (.call "_law_draw" [(.var 0), (.cint 2)]) (.cint 0)) [.par 5 6 (.bin true .Sub (.cint 0) (.var 6)) (.bin true .Sub (.cint 0) (.var 5))] []] [], .ife (.or [(.cmp .Eq (.var 4) (.cint 2)), (.cmp .Eq (.var 4) (.cint 3))]) [.asg (.nm 6) (.call "_law_sum" [(.var 0), (.var 2), (.var 3)])] [], .ife (.or [(.cmp .Eq (.var 4) (.cint 3)), (.cmp .Eq (.var 4) (.cint 4))]) [.asg (.nm 5) (.call "_law_sum" [(.var 0), (.var 2), (.var 3)])] [], .ife (.and [(.cmp .Eq (.var 4) (.cint 5)), (.cmp .Gt (.var 3) (.cint 0))]) [.asg (.nm 5) (.bin true .Sub (.bin true .Pow (.cint 10) (.cint 60)) (.cint 2)), .asg (.nm 6) (.tup [(.cstr "+"), (.var 5), (.call "_law_draw" [(.var 0), (.cint 4)])])] [], .ife (.and [(.cmp .Gt (.var 4) (.cint 5)), (.cmp .Lt (.var 4) (.cint 10)), (.cmp .Gt (.var 3) (.cint 0))]) [.asg (.nm 5) (.tup [(.cstr "*"), (.bin true .Pow (.cint 10) (.cint 30)), (.bin true .Mult (.ix (.lst true [(.neg (.cint 1)), (.cint 1)]) (.call "_law_draw" [(.var 0), (.cint 2)])) (.bin true .Pow (.cint 10) (.cint 30)))])] [], .ife (.and [(.cmp .Gt (.var 4) (.cint 6)), (.cmp .Lt (.var 4) (.cint 10)), (.cmp .Gt (.var 3) (.cint 0))]) [.asg (.nm 6) (.ix (.var 2) (.call "_law_draw" [(.var 0), (.bi .len [(.var 2)])]))] [], .ife (.cmp .Eq (.var 4) (.cint 9)) [.par 5 6 (.var 6) (.var 5)] [], .ret (.tup [(.cstr "in"), (.var 1), (.tup [(.cstr ".."), (.var 5), (.var 6)])])]
abbrev d__law_range : Fd := ⟨"_law_range", 4, 7, b__law_range⟩
def b__law_joined : List Sm := [.asg (.nm 1) (.ix (.var 0) (.neg (.cint 1))), .for (.nm 2) (.seq (.rev2 true (.var 0))) [.asg (.nm 1) (.tup [(.cstr "and"), (.var 2), (.var 1)])], .ret (.var 1)]
abbrev d__law_joined : Fd := ⟨"_law_joined", 1, 3, b__law_joined⟩
def b__law_worth : List Sm := [.ife (.not (.val (.bi .isinst [(.var 0), (.tyc "tuple")]))) [.asg (.nm 2) (.dg2 (.var 1) (.var 0) (.var 0)), .ret (.ix (.lst true [.cnon, (.var 2)]) (.bi .int1 [(.bi .isinst [(.var 2), (.tyc "int")])]))] [], .asg (.nm 3) (.call "_law_worth" [(.ix (.var 0) (.cint 1)), (.var 1)]), .asg (.nm 4) (.call "_law_worth" [(.ix (.var 0) (.cint 2)), (.var 1)]), .ife (.or [(.cmp .Is (.var 3) .cnon), (.cmp .Is (.var 4) .cnon), (.and [(.cmp .Eq (.var 4) (.cint 0)), (.cmp .In (.ix (.var 0) (.cint 0)) (.lst true [(.cstr "//"), (.cstr "mod")]))])]) [.ret .cnon] [], .ife (.cmp .Eq (.ix (.var 0) (.cint 0)) (.cstr "+")) [.ret (.bin true .Add (.var 3) (.var 4))] [], .ife (.cmp .Eq (.ix (.var 0) (.cint 0)) (.cstr "-")) [.ret (.bin true .Sub (.var 3) (.var 4))] [], .ife (.cmp .Eq (.ix (.var 0) (.cint 0)) (.cstr "*")) [.ret (.bin true .Mult (.var 3) (.var 4))] [], .ife (.cmp .Eq (.ix (.var 0) (.cint 0)) (.cstr "//")) [.ret (.bin true .FloorDiv (.var 3) (.var 4))] [], .ret (.bin true .Mod (.var 3) (.var 4))]
abbrev d__law_worth : Fd := ⟨"_law_worth", 2, 5, b__law_worth⟩
def b__law_tree : List Sm := [.ife (.val (.bi .isinst [(.var 0), (.tyc "tuple")])) [.asg (.nm 3) (.lst true [(.call "_law_tree" [(.ix (.var 0) (.cint 1)), (.var 1), (.var 2)]), (.call "_law_tree" [(.ix (.var 0) (.cint 2)), (.var 1), (.var 2)])]), .ret (.ix (.lst true [(.tup [(.ix (.var 0) (.cint 0)), (.ix (.var 3) (.cint 0)), (.ix (.var 3) (.cint 1))]), .cnon]) (.bi .int1 [(.or [(.cmp .Is (.ix (.var 3) (.cint 0)) .cnon), (.cmp .Is (.ix (.var 3) (.cint 1)) .cnon)])]))] [], .ife (.cmp .In (.var 0) (.var 1)) [.ret (.tup [(.cstr "at"), (.mt .index (.var 1) [(.var 0)])])] [], .asg (.nm 4) (.dg2 (.var 2) (.var 0) (.var 0)), .ret (.ix (.lst true [.cnon, (.var 4)]) (.bi .int1 [(.bi .isinst [(.var 4), (.tyc "int")])]))]
abbrev d__law_tree : Fd := ⟨"_law_tree", 3, 5, b__law_tree⟩
def b__law_due : List Sm := [.asg (.nm 4) (.lst false []), .for (.nm 5) (.seq (.var 0)) [.for (.nm 6) (.seq (.sl true (.ix (.var 5) (.cint 2)) (some (.cint 1)) none)) [.asg (.nm 7) (.call "_law_worth" [(.var 6), (.var 3)]), .ife (.cmp .Is (.var 7) .cnon) [.ret (.tup [(.cstr "told"), .cnon])] [], .ife (.cmp .GtE (.bi .abs [(.var 7)]) (.bin true .Pow (.cint 10) (.cint 60))) [.ret (.tup [(.cstr "open")])] [], .expr (.mt .append (.var 4) [(.var 7)])]], .asg (.nm 8) (.lc true [9] (.nm 9) (.rng1 (.bi .len [(.var 0)])) [] (.tup [(.ix (.var 4) (.bin true .Mult (.cint 2) (.var 9))), (.ix (.var 4) (.bin true .Add (.bin true .Mult (.cint 2) (.var 9)) (.cint 1)))])), .asg (.nm 10) (.cint 1), .for (.nm 11) (.seq (.var 8)) [.asg (.nm 10) (.bin true .Mult (.var 10) (.bi .max2 [(.cint 0), (.bin true .Add (.bin true .Sub (.ix (.var 11) (.cint 1)) (.ix (.var 11) (.cint 0))) (.cint 1))]))], .ife (.cmp .Eq (.var 10) (.cint 0)) [.ret (.tup [(.cstr "told"), .cnon])] [], .ife (.cmp .Gt (.var 10) (.cint 400)) [.ret (.tup [(.cstr "open")])] [], .asg (.nm 12) (.lst false []), .forV (.nm 13) 1 [.asg (.nm 14) (.lst true [(.call "_law_tree" [(.ix (.var 13) (.cint 1)), (.var 2), (.var 3)]), (.call "_law_tree" [(.ix (.var 13) (.cint 2)), (.var 2), (.var 3)])]), .ife (.or [(.cmp .Is (.ix (.var 14) (.cint 0)) .cnon), (.cmp .Is (.ix (.var 14) (.cint 1)) .cnon)]) [.ret (.tup [(.cstr "told"), .cnon])] [], .expr (.mt .append (.var 12) [(.tup [(.ix (.var 13) (.cint 0)), (.ix (.var 14) (.cint 0)), (.ix (.var 14) (.cint 1))])])], .ret (.tup [(.cstr "told"), (.tup [(.bi .tupleOf [(.var 8)]), (.bi .tupleOf [(.var 12)])])])]
abbrev d__law_due : Fd := ⟨"_law_due", 4, 15, b__law_due⟩
def b_law : List Sm := [.asg (.nm 1) (.lst false [(.bi (.listOf false) [(.var 0)]), (.cint 0), (.cint 0), (.cint 0)]), .asg (.nm 2) (.lst false []), .for (.nm 3) (.rng1 (.cint 6)) [.expr (.mt .append (.var 2) [(.call "_law_text" [(.var 1), (.cstr "ABCDEFGHIJKLMNOPQRSTUVWXYZ"), (.var 2)])])], .asg (.nm 4) (.bin true .Add (.cint 1) (.call "_law_draw" [(.var 1), (.cint 3)])), .asg (.nm 5) (.sl true (.var 2) (some (.cint 3)) (some (.bin true .Add (.cint 3) (.var 4)))), .asg (.nm 6) .dnew, .for (.nm 7) (.seq (.sl true (.var 2) none (some (.cint 3)))) [.sub (.var 6) (.var 7) (.call "_law_term" [(.var 1)])], .for (.nm 7) (.seq (.var 5)) [.ife (.cmp .Eq (.call "_law_draw" [(.var 1), (.cint 4)]) (.cint 0)) [.sub (.var 6) (.var 7) (.call "_law_term" [(.var 1)])] []], .asg (.nm 8) (.lc true [7] (.nm 7) (.seq (.var 5)) [] (.call "_law_range" [(.var 1), (.var 7), (.sl true (.var 2) none (some (.cint 3))), (.bi .int1 [(.cmp .Lt (.var 4) (.cint 3))])])), .asg (.nm 9) (.call "_law_draw" [(.var 1), (.cint 5)]), .asg (.nm 10) (.lst false []), .for (.nm 3) (.rng1 (.var 9)) [.asg (.nm 11) (.lc true [12] (.nm 12) (.rng1 (.cint 2)) [] (.call "_law_sum" [(.var 1), (.sl true (.var 2) none (some (.bin true .Add (.cint 3) (.var 4)))), (.bin true .Add (.cint 1) (.bi .int1 [(.cmp .Lt (.var 9) (.cint 3))]))])), .expr (.mt .append (.var 10) [(.tup [(.ix (.lst true [(.cstr "<"), (.cstr "=<"), (.cstr "=="), (.cstr "=/=")]) (.call "_law_draw" [(.var 1), (.cint 4)])), (.ix (.var 11) (.cint 0)), (.ix (.var 11) (.cint 1))])])], .asg (.nm 13) (.call "_law_joined" [(.var 8)]), .ife (.cmp .NotEq (.var 10) (.lst true [])) [.asg (.nm 13) (.tup [(.cstr "such"), (.var 13), (.call "_law_joined" [(.var 10)])])] [], .asg (.nm 14) (.bi .dictOf [(.var 6)]), .asg (.nm 15) (.tup [(.cstr "open")]), .tryA 15 (.tup [(.cstr "told"), (.call "resolved" [(.var 13), (.var 14)])]) "Open" (.tup [(.cstr "open")]), .ret (.and [(.cmp .Eq (.var 15) (.call "_law_due" [(.var 8), (.var 10), (.var 5), (.var 6)])), (.cmp .Eq (.var 14) (.var 6)), (.cmp .Eq (.glo "FIGURES") (.cint 60))])]
abbrev d_law : Fd := ⟨"law", 1, 16, b_law⟩
def ds : List Fd := [d_chain_of, d_ranges_of, d_tests_of, d_is_unknown, d_reckoned, d_number_in, d_sum_under, d_many_points, d_checked_points, d_as_tree, d_box_under, d_resolved, d__law_draw, d__law_text, d__law_term, d__law_sum, d__law_range, d__law_joined, d__law_worth, d__law_tree, d__law_due, d_law]
def gc : Gc := ⟨[("FIGURES", (.int (60))), ("POINTS", (.int (400)))], [], [("Open", [("Open", true)])], []⟩
theorem x_Open_Open : gc.g.sub "Open" "Open" = some true := rfl
theorem g_FIGURES : gc.g.gl "FIGURES" = some (.int (60)) := rfl
theorem g_POINTS : gc.g.gl "POINTS" = some (.int (400)) := rfl
end K39
end

section
set_option linter.all false
set_option maxRecDepth 100000
set_option autoImplicit false
/-! GTop: what the run of a module's top is asked; it stands ahead of all else (the run wants room). -/
namespace Gs
open PySem PySem.Spec PyProof.Rows L2
open PySem.W (Frag)
abbrev bmV : List Value := [.type "ValueError", .type "Exception", .type "BaseException", .type "object"]
def oexB (K : Frag) (C : Addr) : Bool := (match K.lookup C with
  | some ⟨.type "type", _, .cls cd, sl⟩ => (match cd.mro, sl.toList with
    | .ref C' :: bm, [_, _, _, _, some (.builtin n), _] => decide (C' = C) && (decide (n = "ValueError.__new__") && (!cd.hasDel && (cd.hasDict && PySem.HandSPX.refsVE bm)))
    | _, _ => false)
  | _ => false) && (He.eqO (PySem.W.findIn K (.ref C) "__setattr__") (some (some (.builtin "object.__setattr__"))) && ((PySem.W.subIn K (.ref C) (.type "BaseException") == some true) && (decide (PySem.W.typeIn K (.ref C) = some (.type "type")) && PySem.W.keepIn K (.ref C))))
/-- a def: its source, its form -/
structure Src where
  name : Str
  params : Arguments
  sbody : List Stmt
  scope : Scope
  ps : List Str
  N : List Str
  body : List Sm
  /-- the one keyword-only parameter, the last of ps, its default -/
  kw : Option (Str × Int)
def Src.dd (s : Src) : He.DefD := ⟨(s.name, none), s.name, s.name, s.params, s.sbody, s.scope, [], match s.kw with | none => [] | some (q, d) => [(q, .int d)]⟩
/-- a statement of a class's body -/
def clsStm (s : Stmt) (j : Nat) : Stmt := match s with
  | .ClassDef _ _ _ b _ _ _ _ _ _ _ => b.getD j (.Pass ⟨0, 0, 0, 0⟩)
  | _ => .Pass ⟨0, 0, 0, 0⟩
/-- an exception class's own __init__ -/
structure XSrc where
  cls : Str
  params : Arguments
  sbody : List Stmt
  scope : Scope
  fs : List Str
def XSrc.dd (s : XSrc) : He.DefD := ⟨(s.cls, some "__init__"), "__init__", s.cls ++ (".__init__" : Str), s.params, s.sbody, s.scope, [], []⟩
/-- what the head is asked -/
def faOf (srcs : List Src) (fr : List Str) : List He.Fa := srcs.map (fun s => .glo s.name) ++ fr.map .free
def okSB' (x : Str) : Bool := PyData.strOk x && decide (x.length ≤ sizeLine)
mutual
def gvB (K : Frag) : W → Value → Bool
  | .non, .none => true
  | .bl b, .bool d => b == d
  | .int i, .int j _ => decide (i = j)
  | .str x, .str y _ => decide (x = y) && okSB' x
  | .fn x, .ref a => decide (a = He.ga K x)
  | .tup xs, .ref a => (match K.lookup a with
    | some ⟨.type t, _, .seq its _, _⟩ => decide (t = "tuple") && (decide (its.size ≤ sizeLine) && gvBs K xs its.toList)
    | _ => false)
  | _, _ => false
def gvBs (K : Frag) : List W → List Value → Bool
  | [], [] => true
  | x :: xs, u :: us => gvB K x u && gvBs K xs us
  | _, _ => false
end
def Gc.ts (c : Gc) : List He.Tab := c.gd.map fun p => (fun K => He.ga K p.1, p.2.map (·.1))
def eqV? (o : Option Value) (v : Value) : Bool := match o with
  | some u => u == v
  | none => false
def xcB (K : Frag) (D : Addr) : Bool := PySem.W.keepIn K (.ref D) && (He.eqO (PySem.W.findIn K (.ref D) "__getattribute__") (some (some (.builtin "BaseException.__getattribute__"))) && (He.eqO (PySem.W.findIn K (.ref D) "__getattr__") (some none) &&
  ((PySem.W.subIn K (.ref D) (.type "BaseException") == some true) && (PySem.W.hasDictIn K D && (He.eqO (PySem.W.findIn K (.ref D) "__class__") (some (some (.builtin "object.__class__"))) && (He.eqO (PySem.W.specialIn K (.builtin "object.__class__") "__get__") (some (some (.builtin "getset_descriptor.__get__"))) &&
  ((PySem.W.takesIn K (.builtin "object.__class__") == some true) && ((PySem.W.mroIn K D (.type "object") == some true) && decide (PySem.W.typeIn K (.ref D) = some (.type "type"))))))))))
def x0B (c : Gc) (K : Frag) : Bool := (c.cx.all fun p => if c.xf.any (fun t => decide (t.1 = p.1)) then true else PySem.W.excIn K (He.ga K p.1) bmV "ValueError.__new__") && c.xf.all fun t => oexB K (He.ga K t.1) && (He.eqO (PySem.W.findIn K (.ref (He.ga K t.1)) "__init__") (some (some (.ref (He.ma K (He.ga K t.1) "__init__")))) &&
  (decide (PySem.W.typeIn K (.ref (He.ma K (He.ga K t.1) "__init__")) = some (.type "function")) && (PySem.W.hasDictIn K (He.ga K t.1) && (c.cx.any (fun p => decide (p.1 = t.1)) && c.cx.all fun p => t.2.all fun f => He.eqO (PySem.W.findIn K (.ref (He.ga K p.1)) f) (some none)))))
def cxB (c : Gc) (K : Frag) : Bool := c.cx.all fun p => He.eqO (PySem.W.nsIn K mainGlobals p.1) (some (some (.ref (He.ga K p.1)))) && (xcB K (He.ga K p.1) && p.2.all fun q =>
  if c.cx.any (fun r => decide (r.1 = q.1)) then (PySem.W.exmOne K (.ref (He.ga K p.1)) (.ref (He.ga K q.1)) == some q.2) && (PySem.W.kitOne K (.ref (He.ga K p.1)) (.ref (He.ga K q.1)) == some q.2)
  else (if q.1 = "ValueError" then PySem.W.kitOne K (.ref (He.ga K p.1)) (.type "ValueError") == some q.2 else true))
def Gc.ex (c : Gc) (K : Frag) : Bool := x0B c K && (cxB c K && ((c.gl.all fun p => match PySem.W.nsIn K mainGlobals p.1 with
    | some (some u) => gvB K p.2 u
    | _ => false) && c.gd.all fun p => He.eqO (PySem.W.nsIn K mainGlobals p.1) (some (some (.ref (He.ga K p.1)))) && p.2.all fun q => match PySem.W.nsIn K (He.ga K p.1) q.1 with
      | some (some u) => gvB K q.2 u
      | _ => false))
end Gs
namespace Gs
open PySem
/-- what the text's own rows are followed for: one row told apart -/
def ovr (f : String → Bool) (b : Bool) (s : String) : Bool := match decide (s = "special-get-raises") with
  | true => b
  | false => f s
theorem ovr_eq (f : String → Bool) : ovr f (f "special-get-raises") = f := by
  funext s
  unfold ovr
  by_cases h : s = "special-get-raises"
  · rw [decide_eq_true h, h]
  · rw [decide_eq_false h]
def wOvr (w : World) (b : Bool) : World := ⟨w.draws, { w.params with followText := ovr w.params.followText b }⟩
theorem wOvr_eq (w : World) : wOvr w (w.params.followText "special-get-raises") = w := by
  unfold wOvr
  rw [ovr_eq]
theorem comb3 {α β γ δ : Type} {o : Option α} {f1 : α → β} {f2 : α → γ} {f3 : α → δ} {a : β} {b : γ} {c : δ} (h1 : o.map f1 = some a) (h2 : o.map f2 = some b) (h3 : o.map f3 = some c) : o.map (fun s => (f1 s, f2 s, f3 s)) = some (a, b, c) := by
  cases o with
  | none => cases h1
  | some s =>
    have e1 : f1 s = a := Option.some.inj h1
    have e2 : f2 s = b := Option.some.inj h2
    have e3 : f3 s = c := Option.some.inj h3
    show some (f1 s, f2 s, f3 s) = _
    rw [e1, e2, e3]
theorem obsX_app {n : Nat} {fa1 fa2 : List He.Fa} {fn1 fn2 : List He.DefD} {ts : List He.Tab} {ex : PySem.W.Frag → Bool} {w : World} {g : Addr → Option Obj}
    (h1 : He.obsX n fa1 fn1 ts [] ex g = He.valX fn1 ts w) (h2 : He.obsX n fa2 fn2 [] [] (fun _ => true) g = He.valX fn2 [] w) : He.obsX n (fa1 ++ fa2) (fn1 ++ fn2) ts [] ex g = He.valX (fn1 ++ fn2) ts w := by
  simp only [He.obsX, He.valX, He.obsT, He.valT, He.obsD, He.valD, Prod.mk.injEq, Bool.and_eq_true] at h1 h2 ⊢
  obtain ⟨⟨⟨⟨a1, a2⟩, a3⟩, a4⟩, a5, a6⟩ := h1
  obtain ⟨⟨⟨⟨b1, b2⟩, b3⟩, b4⟩, b5, b6⟩ := h2
  refine ⟨⟨⟨⟨?_, ?_⟩, ?_⟩, a4⟩, a5, a6⟩
  · rw [List.all_append, a1, b1]; rfl
  · rw [List.all_append, a2, b2]; rfl
  · rw [List.map_append, List.map_append, a3, b3]
theorem comb_obs {α : Type} {o : Option α} {n : Nat} {fa1 fa2 : List He.Fa} {fn1 fn2 : List He.DefD} {ts : List He.Tab} {ex : PySem.W.Frag → Bool} {w : World} {g : α → Addr → Option Obj}
    (h1 : o.map (fun s => He.obsX n fa1 fn1 ts [] ex (g s)) = some (He.valX fn1 ts w)) (h2 : o.map (fun s => He.obsX n fa2 fn2 [] [] (fun _ => true) (g s)) = some (He.valX fn2 [] w)) :
    o.map (fun s => He.obsX n (fa1 ++ fa2) (fn1 ++ fn2) ts [] ex (g s)) = some (He.valX (fn1 ++ fn2) ts w) := by
  cases o with
  | none => cases h1
  | some s =>
    exact congrArg some (obsX_app (g := g s) (Option.some.inj h1) (Option.some.inj h2))
end Gs
end

section
set_option linter.all false
set_option maxRecDepth 100000
set_option maxHeartbeats 0
namespace K39
open PySem PySem.Spec PyProof.Rows L2 Gs

def top (i : Nat) : Stmt := PySem.Challenge.pw_goalstead_k39_resolved.main.body.getD i (.Pass ⟨0, 0, 0, 0⟩)
def s_chain_of : Src := ⟨"chain_of", defArgs (top 6), defBody (top 6), defScope (top 6), ["joined"], ["joined", "found"], b_chain_of, none⟩
def s_ranges_of : Src := ⟨"ranges_of", defArgs (top 7), defBody (top 7), defScope (top 7), ["field"], ["field", "box", "word", "name", "dots", "low", "high"], b_ranges_of, none⟩
def s_tests_of : Src := ⟨"tests_of", defArgs (top 8), defBody (top 8), defScope (top 8), ["field"], ["field"], b_tests_of, none⟩
def s_is_unknown : Src := ⟨"is_unknown", defArgs (top 10), defBody (top 10), defScope (top 10), ["pattern"], ["pattern"], b_is_unknown, none⟩
def s_reckoned : Src := ⟨"reckoned", defArgs (top 12), defBody (top 12), defScope (top 12), ["sign", "left", "right"], ["sign", "left", "right", "quotient", "rest"], b_reckoned, none⟩
def s_number_in : Src := ⟨"number_in", defArgs (top 13), defBody (top 13), defScope (top 13), ["term"], ["term"], b_number_in, none⟩
def s_sum_under : Src := ⟨"sum_under", defArgs (top 14), defBody (top 14), defScope (top 14), ["total", "filling"], ["total", "filling", "sign", "left", "right"], b_sum_under, none⟩
def s_many_points : Src := ⟨"many_points", defArgs (top 16), defBody (top 16), defScope (top 16), ["box"], ["box", "many", "least", "greatest"], b_many_points, none⟩
def s_checked_points : Src := ⟨"checked_points", defArgs (top 17), defBody (top 17), defScope (top 17), ["box"], ["box", "many"], b_checked_points, none⟩
def s_as_tree : Src := ⟨"as_tree", defArgs (top 18), defBody (top 18), defScope (top 18), ["total", "places", "filling"], ["total", "places", "filling", "parts", "part"], b_as_tree, none⟩
def s_box_under : Src := ⟨"box_under", defArgs (top 19), defBody (top 19), defScope (top 19), ["field", "filling"], ["field", "filling", "box", "name", "low", "high", "pair", "total", "worth"], b_box_under, none⟩
def s_resolved : Src := ⟨"resolved", defArgs (top 20), defBody (top 20), defScope (top 20), ["goal", "filling"], ["goal", "filling", "box", "places", "k", "name", "low", "high", "tests", "sign", "left", "right", "sides"], b_resolved, none⟩
def s__law_draw : Src := ⟨"_law_draw", defArgs (top 22), defBody (top 22), defScope (top 22), ["_law_stream", "_law_many"], ["_law_stream", "_law_many", "_law_number"], b__law_draw, none⟩
def s__law_text : Src := ⟨"_law_text", defArgs (top 23), defBody (top 23), defScope (top 23), ["_law_stream", "_law_first", "_law_taken"], ["_law_stream", "_law_first", "_law_taken", "_law_text_here", "_law_k"], b__law_text, none⟩
def s__law_term : Src := ⟨"_law_term", defArgs (top 24), defBody (top 24), defScope (top 24), ["_law_stream"], ["_law_stream", "_law_way", "_law_sign"], b__law_term, none⟩
def s__law_sum : Src := ⟨"_law_sum", defArgs (top 25), defBody (top 25), defScope (top 25), ["_law_stream", "_law_names", "_law_deep"], ["_law_stream", "_law_names", "_law_deep", "_law_way", "_law_sign"], b__law_sum, none⟩
def s__law_range : Src := ⟨"_law_range", defArgs (top 26), defBody (top 26), defScope (top 26), ["_law_stream", "_law_name", "_law_names", "_law_deep"], ["_law_stream", "_law_name", "_law_names", "_law_deep", "_law_way", "_law_low", "_law_high"], b__law_range, none⟩
def s__law_joined : Src := ⟨"_law_joined", defArgs (top 27), defBody (top 27), defScope (top 27), ["_law_parts"], ["_law_parts", "_law_whole", "_law_part"], b__law_joined, none⟩
def s__law_worth : Src := ⟨"_law_worth", defArgs (top 28), defBody (top 28), defScope (top 28), ["_law_total", "_law_filling"], ["_law_total", "_law_filling", "_law_found", "_law_left", "_law_right"], b__law_worth, none⟩
def s__law_tree : Src := ⟨"_law_tree", defArgs (top 29), defBody (top 29), defScope (top 29), ["_law_total", "_law_ranged", "_law_filling"], ["_law_total", "_law_ranged", "_law_filling", "_law_sides", "_law_found"], b__law_tree, none⟩
def s__law_due : Src := ⟨"_law_due", defArgs (top 30), defBody (top 30), defScope (top 30), ["_law_ranges", "_law_tests", "_law_ranged", "_law_filling"], ["_law_ranges", "_law_tests", "_law_ranged", "_law_filling", "_law_row", "_law_one", "_law_total", "_law_worth_here", "_law_box", "_law_k", "_law_many", "_law_pair", "_law_trees", "_law_test", "_law_sides"], b__law_due, none⟩
def s_law : Src := ⟨"law", defArgs (top 31), defBody (top 31), defScope (top 31), ["_law_script"], ["_law_script", "_law_stream", "_law_names", "_law_k", "_law_many", "_law_ranged", "_law_filling", "_law_name", "_law_ranges", "_law_count", "_law_tests", "_law_sides", "_law_j", "_law_goal", "_law_handed", "_law_found"], b_law, none⟩
def srcs : List Src := [s_chain_of, s_ranges_of, s_tests_of, s_is_unknown, s_reckoned, s_number_in, s_sum_under, s_many_points, s_checked_points, s_as_tree, s_box_under, s_resolved, s__law_draw, s__law_text, s__law_term, s__law_sum, s__law_range, s__law_joined, s__law_worth, s__law_tree, s__law_due, s_law]
def fr : List Str := ["abs", "dict", "divmod", "enumerate", "int", "isinstance", "len", "list", "max", "range", "str", "tuple"]
def xis : List XSrc := []
def fn : List He.DefD := srcs.map Src.dd ++ xis.map XSrc.dd
def fa : List He.Fa := faOf srcs fr
def fa_0 : List He.Fa := [s_chain_of, s_ranges_of, s_tests_of, s_is_unknown, s_reckoned, s_number_in, s_sum_under, s_many_points, s_checked_points, s_as_tree, s_box_under, s_resolved, s__law_draw, s__law_text, s__law_term, s__law_sum, s__law_range, s__law_joined, s__law_worth, s__law_tree, s__law_due, s_law].map (fun s : Src => .glo s.name) ++ fr.map .free
def fn_0 : List He.DefD := [s_chain_of, s_ranges_of, s_tests_of, s_is_unknown, s_reckoned, s_number_in, s_sum_under, s_many_points, s_checked_points, s_as_tree, s_box_under, s_resolved, s__law_draw, s__law_text, s__law_term, s__law_sum, s__law_range, s__law_joined, s__law_worth, s__law_tree, s__law_due, s_law].map Src.dd ++ xis.map XSrc.dd
theorem fa_eq : fa = fa_0 := by
  kernel_rfl
theorem fn_eq : fn = fn_0 := by
  kernel_rfl
abbrev R : PySem.W.OpenRow := PySem.W.OpenLaw.row PySem.Challenge.rw_goalstead_k39_resolved
abbrev hk : PySem.W.Hook := He.hookX 4 fa fn gc.ts [] gc.ex
def ob (s : PySem.W.SharedT) : He.AlX := He.obsX 4 fa fn gc.ts [] gc.ex (HandSHeadRun.getT s)
theorem ob_eq (s : PySem.W.SharedT) : ob s = hk.obs s.abs := He.obsX_eq (HandSHeadRun.getT_eq s)
def loose : List Str := (["chain_of", "ranges_of", "tests_of", "is_unknown", "reckoned", "number_in", "sum_under", "many_points", "checked_points", "as_tree", "box_under", "resolved", "_law_draw", "_law_text", "_law_term", "_law_sum"] : List Str) ++ (["_law_range", "_law_joined", "_law_worth", "_law_tree", "_law_due", "FIGURES", "POINTS", "GoalError", "Open"] : List Str)
section
open HandSHeadRun PySem.W PySem.Calls
noncomputable abbrev topEnd (w : World) (os : OsState) : Option PySem.W.SharedT := endF (stepQ (denQ tabQ) R.prog w) 20000 R.prog w os
theorem p1_f (w : World) (os : OsState) : (topEnd (wOvr w false) os).map (fun s => looksF R.prog (boot_heap (wOvr w false).params) s.abs) = some true := by
  kernel_rfl
theorem p2_f (w : World) (os : OsState) : (topEnd (wOvr w false) os).map (fun s => seenQ (PySem.W.view R.prog [31]) loose (importedModules R.prog.main.body) (fun s => xlAt (PySem.W.view R.prog [31]) [] s && recOk R.toRowW.records s) s.abs) = some (openGood (PySem.W.view R.prog [31]) loose) := by
  kernel_rfl
theorem p3_f_0 (w : World) (os : OsState) : (topEnd (wOvr w false) os).map (fun s => He.obsX 4 fa_0 fn_0 gc.ts [] gc.ex (HandSHeadRun.getT s)) = some (He.valX fn_0 gc.ts (wOvr w false)) := by
  kernel_rfl
theorem p3_f (w : World) (os : OsState) : (topEnd (wOvr w false) os).map (fun s => ob s) = some (hk.val (wOvr w false)) := by
  have h := (p3_f_0 w os)
  rw [← fa_eq, ← fn_eq] at h
  exact h
theorem run_f (w : World) : RunEq R (PySem.W.view R.prog [31]) hk ob 20000 loose (wOvr w false) := fun os => Gs.comb3 (p1_f w os) (p2_f w os) (p3_f w os)
theorem p1_t (w : World) (os : OsState) : (topEnd (wOvr w true) os).map (fun s => looksF R.prog (boot_heap (wOvr w true).params) s.abs) = some true := by
  kernel_rfl
theorem p2_t (w : World) (os : OsState) : (topEnd (wOvr w true) os).map (fun s => seenQ (PySem.W.view R.prog [31]) loose (importedModules R.prog.main.body) (fun s => xlAt (PySem.W.view R.prog [31]) [] s && recOk R.toRowW.records s) s.abs) = some (openGood (PySem.W.view R.prog [31]) loose) := by
  kernel_rfl
theorem p3_t_0 (w : World) (os : OsState) : (topEnd (wOvr w true) os).map (fun s => He.obsX 4 fa_0 fn_0 gc.ts [] gc.ex (HandSHeadRun.getT s)) = some (He.valX fn_0 gc.ts (wOvr w true)) := by
  kernel_rfl
theorem p3_t (w : World) (os : OsState) : (topEnd (wOvr w true) os).map (fun s => ob s) = some (hk.val (wOvr w true)) := by
  have h := (p3_t_0 w os)
  rw [← fa_eq, ← fn_eq] at h
  exact h
theorem run_t (w : World) : RunEq R (PySem.W.view R.prog [31]) hk ob 20000 loose (wOvr w true) := fun os => Gs.comb3 (p1_t w os) (p2_t w os) (p3_t w os)
end
theorem run (w : World) : HandSHeadRun.RunEq R (PySem.W.view R.prog [31]) hk ob 20000 loose w := by
  have key : ∀ b : Bool, HandSHeadRun.RunEq R (PySem.W.view R.prog [31]) hk ob 20000 loose (wOvr w b) := fun b => match b with
    | false => run_f w
    | true => run_t w
  have := key (w.params.followText "special-get-raises")
  rw [wOvr_eq] at this
  exact this
end K39
end

section
set_option linter.all false
set_option maxRecDepth 100000
set_option autoImplicit false
set_option maxHeartbeats 4000000
/-! a comprehension, given to a name, whose element may raise -/
namespace Gs
open PySem PySem.Spec PyProof.Rows L2
section
variable {M : Model} {A : Around} {E : Value → Shared → Prop} {s : Shared} {Z : Obj → Prop} {base : Heap} {env cenv : Env} {outer l : List Env} {L e : Addr}
theorem looks_any {fl : Value} {Q : Unit → Shared → Prop} (st : HandSPX.Steady Z) (fr : A.frames = some (env :: outer)) (own : env.frame = some L) (gr : base.StaysIn s.heap) (free : base.get? e = none) (ff : s.heap.FunFrames base (env :: outer))
    (tr : HandSPX.TracedZ s.heap base e Z fl) (off : (fl == rawInt L) = false)
    (post : ∀ k, HandSPX.HeldZ base (env :: outer) e Z L k → s.heap.UpToSlots k → Q () { s with heap := k }) : wpAny M A (noteFrame (.ref e) env) Q E s := by
  rcases tr with ⟨ob, fs, tb, obT, fsT, atE, zE, datE, f1, baseT, apart, atT, datT, f3⟩
  have len3 := (Array.getElem?_eq_some_iff.mp f3).1
  -- all but the traceback stays when its flight is wiped
  generalize hk : s.heap.update tb (Obj.mapFields (·.setIfInBounds 3 Value.none)) = k
  have same : ∀ x, x ≠ tb → k.get? x = s.heap.get? x := fun x hx => by rw [← hk]; exact Heap.get?_update_other _ _ (Ne.symm hx)
  have away : ∀ x o, s.heap.get? x = some o → (∀ v, o.data ≠ .fields v) → x ≠ tb := by
    rintro x o hx nf rfl
    rw [atT] at hx
    cases hx
    exact nf _ datT
  have grK : base.StaysIn k := fun x o hx => (same x fun q => by rw [q, baseT] at hx; cases hx).trans (gr x o hx)
  have ffK : k.FunFrames base (env :: outer) := Heap.FunFrames.of_keeps (fun x o hx nf => ⟨o, (same x (away x o hx nf)).trans hx, rfl⟩) ff
  unfold noteFrame
  simp only [own]
  refine wpAny_bind (wpAny_field atE datE f1 ?_)
  have hasT : (Value.ref tb != Value.none) = true := by simp
  have offT : ¬ (fl == rawInt L) = true := by simp [off]
  rw [if_pos hasT]
  refine wpAny_bind (wpAny_field atT datT f3 ?_)
  rw [if_neg offT]
  refine wpAny_bind (wpAny_setField atT datT len3 ?_)
  rw [hk]
  refine HandSPX.wpAny_entryZ (s := { s with heap := k }) st fr ffK own ((same e (Ne.symm apart)).trans atE) grK free datE (Array.getElem?_eq_some_iff.mp f1).1 zE fun k2 noted => ?_
  exact post k2 ⟨noted.1, free, noted.2.1, noted.2.2.1⟩ fun x o hx nf => noted.2.2.2 x o ((same x (away x o hx nf)).trans hx) nf
theorem traced_but {k k2 : Heap} {C : Addr} {fl : Value} {nm : Str → Option Value} (tr : HandSPX.TracedZ k base e Z fl) (names : k.Ns C nm) (but : Heap.SameBut C k k2) : HandSPX.TracedZ k2 base e Z fl := by
  obtain ⟨obC, es, ep, atC, datC, _⟩ := names
  have apart : ∀ x o v, k.get? x = some o → o.data = .fields v → k2.get? x = some o := fun x o v hx hv => by
    refine (but.2 x ?_).trans hx
    rintro rfl
    rw [atC] at hx
    cases hx
    rw [datC] at hv
    cases hv
  obtain ⟨ob, fs, tb, obT, fsT, atE, zE, datE, f1, b1, b2, atT, datT, f3⟩ := tr
  exact ⟨ob, fs, tb, obT, fsT, apart _ _ _ atE datE, zE, datE, f1, b1, b2, apart _ _ _ atT datT, datT, f3⟩
theorem compFailsZ {nm : Str → Option Value} (own : cenv.frame = some L) (noC : base.get? cenv.locals = none) (names : s.heap.Ns cenv.locals nm) (held : HandSPX.HeldZ base l e Z L s.heap)
    (post : ∀ k, HandSPX.HeldZ base l e Z L k → (∀ x o, s.heap.get? x = some o → x ≠ cenv.locals → (∀ v, o.data ≠ .fields v) → ∃ sl, k.get? x = some { o with slots := sl }) → E (.ref e) { s with heap := k }) :
    CompFails M A E cenv (.ref e) s := by
  rcases held with ⟨gr, free, ff, tr⟩
  refine ⟨nm, names, fun k nk namesK but => ?_⟩
  have trK := traced_but tr names but
  have heldK : HandSPX.HeldZ base l e Z L k := ⟨fun x o hx => (but.2 x fun q => by rw [q, noC] at hx; cases hx).trans (gr x o hx), free, Heap.FunFrames.sameBut but namesK ff, trK⟩
  obtain ⟨ob, fs, tb, obT, fsT, atE, zE, datE, f1, more⟩ := trK
  have hasT : ¬ (Value.ref tb == Value.none) = true := by simp
  unfold PySem.passOn
  refine wpAny_bind (wpAny_field atE datE f1 ?_)
  rw [if_neg hasT, own]
  exact wpAny_bind (HandSPX.setFlight_onZ (s := { s with heap := k }) heldK fun k2 held2 up => wpAny_throw (post k2 held2 fun x o hx nx nf => up x o ((but.2 x nx).trans hx) nf))
end
theorem none_weak {base base' : Heap} {a : Addr} (k : ∀ b o, base'.get? b = some o → base.get? b = some o) (h : base.get? a = none) : base'.get? a = none := by
  cases q : base'.get? a with
  | none => rfl
  | some u => rw [k a u q] at h; cases h
theorem FunFrames_weak {h base base' : Heap} (k : ∀ b o, base'.get? b = some o → base.get? b = some o) : ∀ {l : List Env}, h.FunFrames base l → h.FunFrames base' l
  | [], _ => trivial
  | env :: rest, ⟨h1, ⟨L, o, hf, hn, ho, hd⟩, h3⟩ => ⟨h1, ⟨L, o, hf, none_weak k hn, ho, hd⟩, FunFrames_weak k h3⟩
theorem traced_weak {h base base' : Heap} {a : Addr} {Z : Obj → Prop} {fl : Value} (k : ∀ b o, base'.get? b = some o → base.get? b = some o) (x : HandSPX.TracedZ h base a Z fl) : HandSPX.TracedZ h base' a Z fl := by
  obtain ⟨oe, vs, T, oT, ts, he, hz, hd, h1, hnT, r⟩ := x
  exact ⟨oe, vs, T, oT, ts, he, hz, hd, h1, none_weak k hnT, r⟩
/-- the block of a comprehension whose element may raise -/
abbrev blkx (X : Cx) (s : Shared) (H : Hp) (scope : Scope) (cenv : Env) (fp : List Addr) (W : WX) : Cx := (X.blk s H scope cenv fp).wish (XE (X.blk s H scope cenv fp) W)
theorem blkx_takes {X : Cx} {s : Shared} {H : Hp} {scope : Scope} {cenv : Env} {fp : List Addr} {W : WX} : Takes (blkx X s H scope cenv fp W) W := by
  rintro u s' ⟨a, B, sI, pins, σ, H', cls, d, e, I, nb, up, sky, na, os, ag, w⟩
  exact ⟨a, B, sI, pins, σ, H', cls, d, e, I.unwish, nb, up, sky, na, os, ag, w⟩
theorem comp_raise {X : Cx} {W Wb : WX} (fs : X.stack = X.env :: X.outer) (fm : X.env.frame = some X.env.locals) (tk : Takes X W) (hW : ∀ cls d σ σ' H, Wb cls d σ' H → W cls d σ H)
    {pins : List (Addr × Obj)} {σ : L2.St} {H3 : Hp} {s3 : Shared} (I3 : Inv X pins σ H3 s3) {scope : Scope} {cl : List (Str × Addr)} {fp : List Addr} {ce : Env} (hce : ce = compEnvC scope cl s3.heap.objs.size X.env)
    (f3 : ∀ b ∈ fp, FpOk X pins H3 b) {u : Value} {s' : Shared} (x : XE (X.blk s3 H3 scope ce fp) Wb u s') :
    notedBy (model X.prog X.w) X.A ce (CompFails (model X.prog X.w) X.A X.xe ce) u s' := by
  obtain ⟨a, B, sI, pins', σ', H', cls, d, rfl, I, nb, up, sky, na, os, ag, w⟩ := x
  obtain ⟨C, hC⟩ : ∃ C, C = s3.heap.objs.size := ⟨_, rfl⟩
  rw [← hC] at hce
  have cL : ce.locals = C := by rw [hce]; rfl
  have cF : ce.frame = X.env.frame := by rw [hce]; rfl
  have nC : H' C = none := by
    have z : H' ce.locals = none := I.free
    rwa [cL] at z
  obtain ⟨m, hnI, _⟩ := I.loc
  have hnI : sI.heap.Ns C m := by
    have z : sI.heap.Ns ce.locals m := hnI
    rwa [cL] at z
  have hns : s'.heap.Ns C m := hnI.upToSlots up
  -- back in the def's context
  have I7 : Inv X pins σ H' sI := I3.call' (ch := fp) I.os I.base I.hok I.bare fun b hb => ⟨(f3 b hb).2.2.2.1, (f3 b hb).2.1, (f3 b hb).2.2.2.2.1, (f3 b hb).2.2.2.2.2⟩
  obtain ⟨g0, g1, g2, g3, g4, g5⟩ : FpOk X pins H' C := I3.fpOk (Nat.le_of_eq hC.symm) nC
  have I8 := I7.turned (t' := sI.toks) (it := C) (h' := PySem.W.hideAll sI.heap [C]) (fun b o hb e => PySem.W.hideAll_get _ e (by simpa using hb)) g0 g1 g3 g4 g5
  -- the ground without the block
  obtain ⟨B2, hB2⟩ : ∃ B2, B2 = PySem.W.hideAll B [C] := ⟨_, rfl⟩
  have wk : ∀ b o, B2.get? b = some o → B.get? b = some o := fun b o e => by rw [hB2] at e; exact PySem.W.of_hideAll _ e
  have hbC : B2.get? ce.locals = none := by rw [cL, hB2]; exact PySem.W.hideAll_none _ (by simp)
  have hfr : X.A.frames = some (X.env :: X.outer) := by rw [I3.ok.frames, fs]
  have hst : X.stack = X.env :: X.outer := fs
  have nLC : X.env.locals ≠ C := fun z => g1 z.symm
  have fin : ∀ h', HandSPX.HeldZ B2 (X.env :: X.outer) a (Zc cls d) X.env.locals h' → s'.heap.UpToSlots h' → CompFails (model X.prog X.w) X.A X.xe ce (.ref a) { s' with heap := h' } := by
    intro h' hh up1
    have hns' : h'.Ns ce.locals m := by rw [cL]; exact hns.upToSlots up1
    refine compFailsZ (s := { s' with heap := h' }) (L := X.env.locals) (cF.trans fm) hbC hns' hh fun h'' hh' kk => ?_
    refine tk _ _ ⟨a, B2, { sI with heap := PySem.W.hideAll sI.heap [C], toks := sI.toks }, pins, σ, H', cls, d, rfl, I8, fun b o e hb => ?_, fun b o e hnf => ?_, by rw [hst]; exact .inr (.inr hh'), na, os, ag, hW _ _ _ _ _ w⟩
    · have hbC' : b ≠ C := fun z => by
        rw [z] at e
        rw [PySem.W.hideAll_none _ (by simp)] at e; cases e
      rw [hB2]
      exact PySem.W.hideAll_get _ (nb b o (PySem.W.of_hideAll _ e) hb) (by simpa using hbC')
    · have hbC' : b ≠ C := fun z => by
        rw [z] at e
        rw [PySem.W.hideAll_none _ (by simp)] at e; cases e
      obtain ⟨sl, e1⟩ := up b o (PySem.W.of_hideAll _ e) hnf
      obtain ⟨sl2, e2⟩ := up1 b _ e1 hnf
      exact kk b { o with slots := sl2 } e2 (by rw [cL]; exact hbC') hnf
  show wpAny (model X.prog X.w) X.A (noteFrame (.ref a) ce) _ _ s'
  rw [noteFrame_env _ cF]
  have sky : Sky B (X.env :: X.outer) a (Zc cls d) C s'.heap := by
    have z : Sky B X.stack a (Zc cls d) ce.locals s'.heap := sky
    rwa [cL, hst] at z
  have hne : (rawInt C == rawInt X.env.locals) = false := by
    have h1 : ¬ ((C : Nat) : Int) = (X.env.locals : Nat) := fun z => nLC (Int.ofNat_inj.mp z).symm
    simp [rawInt]
    exact h1
  rcases sky with ⟨hB, hn, hl, oe, vs, he, hz, hd, h1⟩ | ⟨hB, hn, hl, ht⟩ | ⟨hB, hn, hl, ht⟩
  · exact HandSPX.look_newZ Zc.steady hfr (FunFrames_weak wk hl) fm he (fun b o e => hB b o (wk b o e)) (none_weak wk hn) hd h1 hz fin
  · exact looks_any Zc.steady hfr fm (fun b o e => hB b o (wk b o e)) (none_weak wk hn) (FunFrames_weak wk hl) (traced_weak wk ht) (by simp [rawInt]) fin
  · exact looks_any Zc.steady hfr fm (fun b o e => hB b o (wk b o e)) (none_weak wk hn) (FunFrames_weak wk hl) (traced_weak wk ht) hne fin
section
variable {X : Cx}
theorem lcx_core {W Wb : WX} {pins : List (Addr × Obj)} {s : Shared} {σ : L2.St} {H : Hp} {Q : VK} {elt tg iter : Expr} {scope : Scope} {own : List (Str × Nat)} {pos pos' : Pos} {wi : TI} {g : TG} {te : TE} {use : Option (Value → Sem Unit)} {Qf : Value → Shared → Prop}
    (fs : X.stack = X.env :: X.outer) (fm : X.env.frame = some X.env.locals) (tk : Takes X W) (hW : ∀ cls d σ σ' H, Wb cls d σ' H → W cls d σ H) (calm : X.calm = true) (nd : X.N.Nodup) (I : Inv X pins σ H s) (hi : PI X tg iter wi) (ok : BlkOk X.N X.env.scope scope own)
    (hg : ∀ (s : Shared) (H : Hp) (C : Addr) (cl : List (Str × Addr)) (fp : List Addr), PG (X.blk s H scope (compEnvC scope cl C X.env) fp) tg g)
    (he : ∀ (s : Shared) (H : Hp) (C : Addr) (cl : List (Str × Addr)) (fp : List Addr), PE (blkx X s H scope (compEnvC scope cl C X.env) fp Wb) elt te) (hs : ∀ x, foldedSetIterable iter X.env x = pure x)
    (h : tLc wi g tYes te (own.map (·.2)) σ H Q)
    (hend : ∀ D ce s' m H', ce.frame = X.env.frame → Inv X pins σ H' s' → Q (.ref D) H' → s'.heap.Ns ce.locals m → FpOk X pins H' ce.locals → compEnds (model X.prog X.w) X.A X.xe use Qf (.ref D) ce (.ok .next) s') :
    wpAny (model X.prog X.w) X.A (comprehension (.ListComp elt [⟨tg, iter, [], 0⟩] scope pos) scope X.env pos' (newList []) false (eval iter X.env) use) Qf X.xe s := by
  have caps : ∀ y ∈ scope.names, y.2 = .free → ∃ c, X.env.cells.lookup y.1 = some c := fun y hy e => (ok.free y hy e).elim (fun k => I.ok.has _ (.inl k)) (fun k => I.ok.has _ (.inr k))
  refine comprehension_at (use := use) rfl hs (closure_ok caps) ok.kind (fun y hy e => by rw [ok.uniq y hy, e]) ?_
  refine thn (hi.run pins s σ H _ I h) fun _ _ walked => thn walked fun _ t walked2 => ?_
  rcases walked2 with ⟨it, fp, tn, J, Ht, rfl, It, T, stT, fpT, rest⟩
  refine wpAny_newObj_type (newEnv_comp ?_) (by show 0 ≤ sizeLine; decide)
  obtain ⟨D, eD⟩ : ∃ D, D = t.heap.objs.size := ⟨_, rfl⟩
  rw [← eD]
  have newD : Ht D = none := It.hok.fresh (Nat.le_of_eq eD.symm)
  obtain ⟨Wn, ⟨m0, start⟩, turn⟩ := rest D newD
  -- with the list
  obtain ⟨t2, et2⟩ : ∃ t2 : Shared, t2 = { t with heap := t.heap.push { cls := .type "list", data := .seq ([] : List Value).toArray } } := ⟨_, rfl⟩
  have heap2 : t2.heap = t.heap.push { cls := .type "list", data := .seq ([] : List Value).toArray } := by rw [et2]
  obtain ⟨H2, eH2⟩ : ∃ H2, H2 = upd Ht D (.lst []) := ⟨_, rfl⟩
  have I2 : Inv X pins σ H2 t2 := by
    rw [et2, eH2]
    refine It.laid (t' := t.toks) (fun b o hb => Heap.get?_push_of_some _ hb) (Nat.le_of_eq eD.symm) ⟨Nat.zero_le _, [], 0, .nil, ?_⟩
    rw [eD]
    exact Heap.get?_push_size _ rfl
  rw [← eH2] at start
  have below : ∀ b ∈ fp, b < t.heap.objs.size := fun b hb => by
    obtain ⟨o, ho, _⟩ := T.obj _ _ stT b hb
    exact Heap.lt_size ho
  have fp2 : ∀ b ∈ fp, FpOk X pins H2 b ∧ b < t2.heap.objs.size := fun b hb => by
    have hlt := below b hb
    have hne : b ≠ D := by rw [eD]; exact Nat.ne_of_lt hlt
    refine ⟨⟨?_, (fpT b hb).2⟩, by rw [heap2, Heap.size_push]; exact Nat.lt_succ_of_lt hlt⟩
    rw [eH2, upd_ne hne]
    exact (fpT b hb).1
  have st2 : tn 0 t2.heap := T.keep _ _ _ stT fun b _ o hb => by rw [heap2]; exact Heap.get?_push_of_some _ hb
  -- the block
  have I3 := block_start I2 ok nd fp2
  obtain ⟨cl, ecl⟩ : ∃ cl, cl = cellsFrom (t2.heap.objs.size + 1) scope.names (cloFrom X.env.cells scope.names []) := ⟨_, rfl⟩
  obtain ⟨ce, ece⟩ : ∃ ce, ce = compEnvC scope cl t2.heap.objs.size X.env := ⟨_, rfl⟩
  have asg := hg t2 H2 t2.heap.objs.size cl fp
  have elm := he t2 H2 t2.heap.objs.size cl fp
  rw [← ecl, ← ece] at I3
  rw [← ece] at asg elm
  have loc : ce.locals = t2.heap.objs.size := by rw [ece]; rfl
  have frm : ce.frame = X.env.frame := by rw [ece]; rfl
  obtain ⟨t3, et3⟩ : ∃ t3 : Shared, t3 = { t2 with heap := pushCells (t2.heap.push { cls := .type "dict", data := .dict #[] }) scope.names } := ⟨_, rfl⟩
  have goal3 : codeAny (model X.prog X.w) X.A (.compStart (.ListComp elt [⟨tg, iter, [], 0⟩] scope pos) 0 (.ref it) (.ref D) ce) (compEnds (model X.prog X.w) X.A X.xe use Qf (.ref D) ce) t3 := by
    rw [← et3] at I3
    have st3 : tn 0 t3.heap := T.keep _ _ _ st2 fun b _ o hb => by rw [et3]; exact pushCells_keeps _ _ _ _ (Heap.get?_push_of_some _ hb)
    have free3 : ∀ b ∈ fp, H2 b = none := fun b hb => (fp2 b hb).1.1
    have stat : ∀ {σ' : L2.St} {H' : Hp} {s' : Shared}, Inv (X.blk t2 H2 scope ce fp) [] σ' H' s' → (∀ b ∈ fp, H' b = none) → ∀ b ∈ fp, FpOk (X.blk t2 H2 scope ce fp) [] H' b := fun {σ' H' s'} I' hn b hb =>
      have ex := I'.ok.exf b hb
      ⟨hn b hb, ex.1, I'.ok.exfs b hb, .inl hb, fun x c e => ex.2 x c e, fun p hp => absurd (show p ∈ ([] : List (Addr × Obj)) ++ [] from hp) (by simp)⟩
    have fails : ∀ u s', XE (X.blk t2 H2 scope ce fp) Wb u s' → notedBy (model X.prog X.w) X.A ce (CompFails (model X.prog X.w) X.A X.xe ce) u s' := fun u s' x => comp_raise fs fm tk hW I2 ece (fun b hb => (fp2 b hb).1) x
    have loop : codeAny (model X.prog X.w) X.A (.compLoop (.ListComp elt [⟨tg, iter, [], 0⟩] scope pos) 0 (.ref it) (.ref D) ce) (compEnds (model X.prog X.w) X.A X.xe use Qf (.ref D) ce) t3 := by
      refine compLoop_any (fun n s' => ∃ i H', Inv (X.blk t2 H2 scope ce fp) [] (L2.wipe σ (own.map (·.2))) H' s' ∧ tn i s'.heap ∧ (∀ b ∈ fp, H' b = none) ∧ Wn i n H') ?_ m0 ⟨0, H2, I3, st3, free3, start⟩
      rintro n s5 ⟨i, H5, I5, st5, n5, w5⟩
      rcases turn i n H5 w5 with ⟨stop, out⟩ | ⟨go, Nx, next, step⟩
      · have last := T.done (X.blk t2 H2 scope ce fp) rfl rfl rfl calm i [] s5 _ H5 (fun _ _ => False) I5 (stat I5 n5) st5 stop
        refine thnF last fun r s6 ⟨er, I6⟩ => ?_
        subst er
        have back : Inv X pins σ H5 s6 := I2.call' (ch := fp) I6.os I6.base I6.hok I6.bare fun b hb =>
          have z := (fp2 b hb).1
          ⟨z.2.2.2.1, z.2.1, z.2.2.2.2.1, z.2.2.2.2.2⟩
        have gone : H5 ce.locals = none := I6.free
        obtain ⟨m, names, _⟩ := I6.loc
        exact hend D ce s6 m H5 frm back out names (I2.fpOk (Nat.le_of_eq loc.symm) gone)
      · have item := T.item (X.blk t2 H2 scope ce fp) rfl rfl rfl calm i [] s5 _ H5 (fun _ _ => False) I5 (stat I5 n5) st5 go
        refine thnF item fun r s6 ⟨u, er, it6⟩ => ?_
        subst er
        refine thnF it6 fun _ s7 ⟨x, H7, I7, r7, y7, st7, n7⟩ => ?_
        refine thnF (asg.run _ s7 _ H7 x u _ (I7.pinned (stat I7 n7) (T.obj _ _ st7)) r7 (step x H7 y7)) fun _ s8 ⟨σ8, H8, I8, hw8, q8⟩ => ?_
        have q8 : te σ8 H8 fun y H4 => ∃ acc, H4 D = some (.lst acc) ∧ acc.length < sizeLine ∧ Nx (upd H4 D (.lst (acc ++ [y]))) := by
          have z : (if true = true then te σ8 H8 fun y H4 => ∃ acc, H4 D = some (.lst acc) ∧ acc.length < sizeLine ∧ Nx (upd H4 D (.lst (acc ++ [y]))) else Nx H8) := q8
          rwa [if_pos rfl] at z
        refine wpAny_tests_nil ?_
        rw [if_pos rfl]
        refine wpAny_mono (elm.run _ s8 σ8 H8 _ (I8.wish _) q8) (fun z s10 ⟨yv, H10, I10, r10, acc, atD, room, nx⟩ => ?_) fun u s' x => fails u s' x
        refine app_ok (X := X.blk t2 H2 scope ce fp) I10.unwish atD room r10 fun s11 I11 => ?_
        obtain ⟨m', less, w'⟩ := next _ nx
        have pinned : ∀ b ∈ fp, ∀ o, s7.heap.get? b = some o → s11.heap.get? b = some o ∧ (upd H10 D (.lst (acc ++ [yv]))) b = none := fun b hb o ho =>
          have z := I11.pin (b, o) (List.mem_append_right _ (List.mem_append_right _ (mem_pinsAt hb ho)))
          ⟨z.1, z.2.1⟩
        have len : (L2.wipe σ (own.map (·.2))).length = σ8.length := by rw [← hw8, wipe_length]
        refine ⟨m', less, i + 1, _, (I11.unpinned (pins := [])).weak len (fun j v hj => ?_), T.keep _ _ _ st7 fun b hb o ho => (pinned b hb o ho).1, fun b hb => ?_, w'⟩
        · rw [← hw8] at hj
          exact (wipe_some hj).1
        · obtain ⟨o, ho, _⟩ := T.obj _ _ st7 b hb
          exact (pinned b hb o ho).2
    exact codeAny_compStart_list loop (T.self X.A 0 _ _ _ st3 loop)
  rw [et3, ece, ecl, et2] at goal3
  exact goal3
end
section
variable {X : Cx}
/-- a name takes such a list, on one line -/
theorem ps_setLcX {W Wb : WX} {i : Nat} {y : Str} {py : Pos} {elt tg iter : Expr} {scope : Scope} {own : List (Str × Nat)} {pos spos : Pos} {wi : TI} {g : TG} {te : TE} (fs : X.stack = X.env :: X.outer) (fm : X.env.frame = some X.env.locals) (tk : Takes X W) (hW : ∀ cls d σ σ' H, Wb cls d σ' H → W cls d σ H)
    (calm : X.calm = true) (nd : X.N.Nodup) (at_ : X.N[i]? = some y) (isl : X.env.scope.names.lookup y = some .local) (sw : swapsWith (.ListComp elt [⟨tg, iter, [], 0⟩] scope pos) (some (.Name y py)) spos.line X.env = pure true) (hi : PI X tg iter wi) (ok : BlkOk X.N X.env.scope scope own)
    (hg : ∀ (s : Shared) (H : Hp) (C : Addr) (cl : List (Str × Addr)) (fp : List Addr), PG (X.blk s H scope (compEnvC scope cl C X.env) fp) tg g)
    (he : ∀ (s : Shared) (H : Hp) (C : Addr) (cl : List (Str × Addr)) (fp : List Addr), PE (blkx X s H scope (compEnvC scope cl C X.env) fp Wb) elt te) (hs : ∀ x, foldedSetIterable iter X.env x = pure x) :
    PS X (.Assign [.Name y py] (.ListComp elt [⟨tg, iter, [], 0⟩] scope pos) spos) (tAsg (tLc wi g tYes te (own.map (·.2))) (gName i)) := by
  constructor
  intro pins s σ H D I h
  have h : tLc wi g tYes te (own.map (·.2)) σ H (fun x H1 => gName i x σ H1 D.nx) := h
  rw [exec_Assign_Name_used _ _ _ _ sw]
  refine wpAny_bind (wpAny_standAt (wpAny_bind ?_))
  have core := lcx_core (pos := pos) (pos' := firstIterPos [⟨tg, iter, [], 0⟩] pos) (use := some (assign (.Name y py) X.env)) (Qf := fun _ s' => SP X pins D .next s') fs fm tk hW calm nd I hi ok hg he hs h ?_
  · exact wpAny_bind (thn core fun _ s' z => wpAny_pure (wpAny_pure z))
  · intro L ce s' m H' frm I' q names fpC
    show wpAny (model X.prog X.w) X.A (assign (.Name y py) X.env (.ref L)) _ _ s'
    obtain ⟨c0, c1, c2, c3, c4, c5⟩ := fpC
    refine wpAny_assign_Name (store_ok2 (v := V.ref L) I' nd at_ (.inl isl) rfl (fun s2 I2 ⟨a, but, ha⟩ => ?_) (.inr isl))
    have apart : ce.locals ≠ a := ha.elim (fun z => by rw [z]; exact c1) (fun z e => c4 y a z e.symm)
    exact ⟨m, names.sameBut but apart, fun h3 but3 => ⟨_, H', I2.turned (t' := s2.toks) (fun b o hb e => (but3.2 b hb).trans e) c0 c1 c3 c4 c5, q⟩⟩
end
end Gs
end

section
set_option linter.all false
set_option maxRecDepth 100000
set_option maxHeartbeats 4000000
set_option autoImplicit false
/-! GTab: dicts whose keys are pairs of a truth and a text. -/
namespace Gs
open PySem PySem.Spec PyProof.Rows L2
/-- a part of such a key -/
abbrev BK := Sum Bool Str
def bkIs : BK → Value → Bool
  | .inl b, .bool d => b == d
  | .inr x, .str y _ => y == x
  | _, _ => false
theorem bkIs_cases {k : BK} {v : Value} (h : bkIs k v = true) : (∃ b, k = .inl b ∧ v = .bool b) ∨ ∃ x t, k = .inr x ∧ v = .str x t := by
  cases k with
  | inl b => cases v with
    | bool d => exact .inl ⟨b, rfl, by rw [eq_of_beq (show (b == d) = true from h)]⟩
    | _ => exact nomatch h
  | inr x => cases v with
    | str y t => exact .inr ⟨x, t, rfl, by rw [eq_of_beq (show (y == x) = true from h)]⟩
    | _ => exact nomatch h
def bkHash (w : World) : BK → Int
  | .inl b => hashInt (if b = true then 1 else 0)
  | .inr x => hashStr w x
theorem pyHash_bool {prog : Program} {w : World} {A : Around} {E : Value → Shared → Prop} {s : Shared} {b : Bool} {Q : Int → Shared → Prop} (h : Q (hashInt (if b = true then 1 else 0)) { s with toks := s.toks + 1 }) : wpAny (model prog w) A (PySem.pyHash (.bool b)) Q E s := by
  have hT : s.TypeIs (.bool b) "bool" := rfl
  have hr := rawHash_range (if b = true then 1 else 0)
  unfold PySem.pyHash; refine wpAny_bind ?_
  rw [cRoomFor, if_neg (by simp [Value.onHeap])]; refine wpAny_pure (wpAny_bind (wpAny_specialOf hT F.slot_bool_hash.lookup ?_))
  show wpAny _ _ (if (some (Value.builtin "int.__hash__") == some Value.none) = true then _ else _) Q E s
  rw [if_neg (by rw [beq_builtin_none]; exact Bool.false_ne_true)]; refine wpAny_bind (wpAny_specialOf hT F.slot_bool_hash.lookup ?_)
  show wpAny _ _ (callSpecialIfBoundUnlessNone? (.bool b) "__hash__" _ >>= _) Q E s
  refine wpAny_bind (wpAny_callSpecialIfBoundUnlessNone?_slot hT F.slot_bool_hash (wpAny_call_entry F.slot_bool_hash hT F.entry_int_hash (show wpAny _ _ (do ret (← mkInt (rawHash (if b = true then 1 else 0)))) _ _ s from wpAny_ret_mkInt ?_) (F.args_int_hash_1 _)))
  show wpAny _ _ (if (decide (-(2 : Int) ^ 63 ≤ rawHash (if b = true then 1 else 0)) && decide (rawHash (if b = true then 1 else 0) < 2 ^ 63)) = true then _ else _) Q E _
  rw [if_pos (by rw [decide_eq_true hr.1, decide_eq_true hr.2]; rfl)]; exact wpAny_pure h
def bkKind (prog : Program) (w : World) : PySem.KeyKind prog w BK where
  is := bkIs
  hash := bkHash w
  inj := fun v a b ha hb => by
    rcases bkIs_cases ha with ⟨c, rfl, rfl⟩ | ⟨x, t, rfl, rfl⟩ <;> rcases bkIs_cases hb with ⟨d, rfl, e⟩ | ⟨y, u, rfl, e⟩ <;> first | (cases e; rfl) | cases e
  byValue := fun k v h => by rcases bkIs_cases h with ⟨c, rfl, rfl⟩ | ⟨x, t, rfl, rfl⟩ <;> rfl
  pyHash := fun hv h => by
    rcases bkIs_cases hv with ⟨c, rfl, rfl⟩ | ⟨x, t, rfl, rfl⟩
    · exact pyHash_bool h
    · exact wpAny_pyHash_str h
  eqBool := fun hu hv h => by
    rcases bkIs_cases hu with ⟨c, rfl, rfl⟩ | ⟨x, t, rfl, rfl⟩ <;> rcases bkIs_cases hv with ⟨d, rfl, rfl⟩ | ⟨y, u, rfl, rfl⟩
    · refine SeqAt.EqAt.bool_bool c d _ _ _ _ ?_
      have e : decide ((Sum.inl c : BK) = Sum.inl d) = (c == d) := by cases c <;> cases d <;> rfl
      rw [e] at h; exact h
    · rw [decide_eq_false (fun q => nomatch q)] at h; exact SeqAt.EqAt.bool_str c y u _ _ _ _ h
    · rw [decide_eq_false (fun q => nomatch q)] at h; exact SeqAt.EqAt.str_bool x t d _ _ _ _ h
    · have e : decide ((Sum.inr x : BK) = Sum.inr y) = decide (x = y) := by by_cases z : x = y <;> simp [z]
      rw [e] at h; exact wpAny_eqBool_str h
  «strs» := fun k x t v h => by
    rcases bkIs_cases h with ⟨c, rfl, e⟩ | ⟨y, u, rfl, e⟩
    · cases e
    · cases e; cases v <;> rfl
/-- the dict at a: its keys, where these stand, its values -/
abbrev TabE := List (List BK × Addr × V)
def TabO (P : Program) (w : World) (a : Addr) (xs : TabE) : HO := .ext fun h => (a == sysModules) = false ∧ xs.length ≤ sizeLine ∧ ∃ vs : List (List BK × Addr × Value), Paired (fun (p : List BK × Addr × V) q => p.1 = q.1 ∧ p.2.1 = q.2.1 ∧ RelV p.2.2 q.2.2) xs vs ∧
  ∃ o es ep, h.get? a = some o ∧ o.ExactDict ∧ o.data = .dict es ep ∧ es.toList = vs.map (entryOfKey (tupleKind (bkKind P w))) ∧ (vs.map (·.1)).Nodup
def bV : BK → V
  | .inl b => .bl b
  | .inr x => .str x
/-- the keys stand -/
def KeysAt (H : Hp) (xs : TabE) : Prop := ∀ x ∈ xs, H x.2.1 = some (.tup (x.1.map bV))
section
variable {P : Program} {w : World} {H : Hp} {h : Heap} {a : Addr}
theorem bkey_of {ks : List BK} (ok : HOk P w H h) (e : H a = some (.tup (ks.map bV))) : (tupleKind (bkKind P w)).is h ks a := by
  obtain ⟨_, its, r, o, h1, h2, n, h3⟩ := (show ObjOk P w H h a (.tup (ks.map bV)) from ok a _ e)
  refine ⟨o, its.toArray, n, h1, h2, h3, ?_⟩
  have gen : ∀ (ks : List BK) (its : List Value), Vals (ks.map bV) its → ItemsAre (bkKind P w) ks its := by
    intro ks
    induction ks with
    | nil => intro its r; cases r; exact .nil
    | cons k ks ih =>
      intro its r
      cases r with
      | cons r t =>
        refine .cons ?_ (ih _ t)
        cases k with
        | inl b => cases r; exact beq_self_eq_true b
        | inr x => obtain ⟨t, rfl⟩ := r; exact beq_self_eq_true x
  simpa using gen ks its r
theorem tab_of {xs : TabE} (ok : HOk P w H h) (e : H a = some (TabO P w a xs)) (ke : KeysAt H xs) : (a == sysModules) = false ∧ xs.length ≤ sizeLine ∧ ∃ vs : List (List BK × Addr × Value), Paired (fun (p : List BK × Addr × V) q => p.1 = q.1 ∧ p.2.1 = q.2.1 ∧ RelV p.2.2 q.2.2) xs vs ∧ h.DictOfH (tupleKind (bkKind P w)) a vs := by
  obtain ⟨⟨h1, h0, vs, r, o, es, ep, h2, h3, h4, h5, h6⟩, _, _⟩ := (show ObjOk P w H h a (TabO P w a xs) from ok a _ e)
  refine ⟨h1, h0, vs, r, o, es, ep, h2, h3, h4, h5, ?_, h6⟩
  have gen : ∀ (xs : TabE) (vs : List (List BK × Addr × Value)), Paired (fun (p : List BK × Addr × V) q => p.1 = q.1 ∧ p.2.1 = q.2.1 ∧ RelV p.2.2 q.2.2) xs vs → KeysAt H xs → ∀ x ∈ vs, (tupleKind (bkKind P w)).is h x.1 x.2.1 := by
    intro xs vs q
    induction q with
    | nil => intro _ x hx; exact nomatch hx
    | @cons p q ps qs hq t ih =>
      intro ke x hx
      rcases List.mem_cons.mp hx with e | hx
      · subst e
        refine bkey_of ok ?_
        rw [← hq.1, ← hq.2.1]
        exact ke p (by simp)
      · exact ih (fun y hy => ke y (List.mem_cons_of_mem _ hy)) x hx
  exact gen xs vs r ke
/-- the value at a key -/
def tabAt (xs : TabE) (k : List BK) : Option V := (xs.find? fun x => decide (x.1 = k)).map (·.2.2)
theorem tabAt_rel {xs : TabE} {vs : List (List BK × Addr × Value)} (r : Paired (fun (p : List BK × Addr × V) q => p.1 = q.1 ∧ p.2.1 = q.2.1 ∧ RelV p.2.2 q.2.2) xs vs) (k : List BK) : RelO (tabAt xs k) ((atKey vs k).map (·.2)) := by
  induction r with
  | nil => exact True.intro
  | @cons p q ps qs hq t ih =>
    unfold tabAt atKey at ih ⊢
    rw [List.find?_cons, List.find?_cons, hq.1]
    by_cases e : q.1 = k
    · simp only [e, decide_true]; exact hq.2.2
    · simp only [e, decide_false]; exact ih
end

/-! ### such a dict in the layer -/
theorem tabO_ok {P : Program} {w : World} {H : Hp} {h : Heap} {a : Addr} {xs : TabE} {vs : List (List BK × Addr × Value)} (h1 : (a == sysModules) = false) (h0 : xs.length ≤ sizeLine)
    (r : Paired (fun (p : List BK × Addr × V) q => p.1 = q.1 ∧ p.2.1 = q.2.1 ∧ RelV p.2.2 q.2.2) xs vs) {o : Obj} {es : Array DictEntry} {ep : Nat} (h2 : h.get? a = some o) (h3 : o.ExactDict) (h4 : o.data = .dict es ep) (h5 : es.toList = vs.map (entryOfKey (tupleKind (bkKind P w)))) (h6 : (vs.map (·.1)).Nodup) :
    ObjOk P w H h a (TabO P w a xs) :=
  ⟨⟨h1, h0, vs, r, o, es, ep, h2, h3, h4, h5, h6⟩, ⟨o, h2⟩, fun g1 g2 ⟨y1, y0, us, s, o', es', ep', y2, y⟩ k => ⟨y1, y0, us, s, o', es', ep', k _ y2, y⟩⟩
section
variable {X : Cx}
/-- the dict at a, its keys, the key at b -/
def TGet (X : Cx) (H : Hp) (a b : Addr) (xs : TabE) (k : List BK) : Prop := H a = some (TabO X.prog X.w a xs) ∧ KeysAt H xs ∧ H b = some (.tup (k.map bV))
theorem tget_ok {pins : List (Addr × Obj)} {σ : L2.St} {H : Hp} {s : Shared} {a b : Addr} {xs : TabE} {k : List BK} (I : Inv X pins σ H s) (g : TGet X H a b xs k) :
    (tupleKind (bkKind X.prog X.w)).is s.heap k b ∧ (a == sysModules) = false ∧ xs.length ≤ sizeLine ∧ ∃ vs, s.heap.DictOfH (tupleKind (bkKind X.prog X.w)) a vs ∧ (Paired (fun (p : List BK × Addr × V) q => p.1 = q.1 ∧ p.2.1 = q.2.1 ∧ RelV p.2.2 q.2.2) xs vs) := by
  obtain ⟨g1, g2, g3⟩ := g
  obtain ⟨z1, z2, vs, r, d⟩ := tab_of I.hok g1 g2
  exact ⟨bkey_of I.hok g3, z1, z2, vs, d, r⟩
theorem op_tin (hu : X.A.units + 1 < cLine) : OpR X (compareOp .In) (fun x y H Q => ∃ a b xs k, x = .ref b ∧ y = .ref a ∧ TGet X H a b xs k ∧ Q (.bl (tabAt xs k).isSome) H) := by
  intro pins s σ H x y v u Q I rx ry ⟨a, b, xs, k, ex, ey, g, q⟩
  subst ex ey; cases rx; cases ry
  obtain ⟨z1, z2, _, vs, d, r⟩ := tget_ok I g
  refine wpAny_in_heap (tupleKind_room_in1 hu) z1 z2 d ?_
  have e := (tabAt_rel r k).isSome_eq
  rw [Option.isSome_map] at e; rw [← e]
  exact ⟨.bl _, H, I.tok _, rfl, q⟩
theorem op_tnotin (hu : X.A.units + 1 < cLine) : OpR X (compareOp .NotIn) (fun x y H Q => ∃ a b xs k, x = .ref b ∧ y = .ref a ∧ TGet X H a b xs k ∧ Q (.bl (!(tabAt xs k).isSome)) H) := by
  intro pins s σ H x y v u Q I rx ry ⟨a, b, xs, k, ex, ey, g, q⟩
  subst ex ey; cases rx; cases ry
  obtain ⟨z1, z2, _, vs, d, r⟩ := tget_ok I g
  refine wpAny_notIn_heap (tupleKind_room_in1 hu) z1 z2 d ?_
  have e := (tabAt_rel r k).isSome_eq
  rw [Option.isSome_map] at e; rw [← e]
  exact ⟨.bl _, H, I.tok _, rfl, q⟩
theorem ix_tab (hu : X.A.units + 1 < cLine) : IxR X (fun x y H Q => ∃ a b xs k v, x = .ref a ∧ y = .ref b ∧ TGet X H a b xs k ∧ tabAt xs k = some v ∧ Q v H) := by
  intro value slice pins s σ H x y v u Q I rx ry ⟨a, b, xs, k, vv, ex, ey, g, hv, q⟩ hs
  subst ex ey; cases rx; cases ry
  obtain ⟨z1, z2, _, vs, d, r⟩ := tget_ok I g
  obtain ⟨w', hw, rw'⟩ := RelO.some_of (v := vv) (o := (atKey vs k).map (·.2)) (by rw [← hv]; exact tabAt_rel r k)
  obtain ⟨p, hp, hp2⟩ := Option.map_eq_some_iff.mp hw
  refine tail_any d.typeIs F.slot_dict_getitem.lookup (wpAny_getItem_heap (tupleKind_room_in1 hu) z1 d hp ?_) hs
  rw [hp2]; exact ⟨vv, H, I.tok _, rw', q⟩
def tTGet (X : Cx) (td ty : TE) : TE := fun σ H Q => td σ H fun x H1 => ∃ a xs, x = .ref a ∧ H1 a = some (TabO X.prog X.w a xs) ∧ KeysAt H1 xs ∧ ty σ H1 fun y H2 => ∃ b ys k, y = .ref b ∧ TGet X H2 a b ys k ∧ Q ((tabAt ys k).getD .non) H2
theorem pe_tget {o e : Expr} {apos cpos : Pos} {td ty : TE} (hu : X.A.units + 1 < cLine) (ho : PE X o td) (he : PE X e ty) (m : M1 X o "get" apos e cpos) : PE X (.Call (.Attribute o "get" apos) [e] [] cpos) (tTGet X td ty) := by
  refine ⟨fun pins s σ H Q I h => wpAny_Call_method m.base m.few m.line F.plainAttrs_dict F.slot_dict_get F.type_dict_get (thn (ho.run pins s σ H _ I h) fun u s1 ⟨x, H1, I1, rx, a, xs, ex, g1, g2, q1⟩ => ?_)⟩
  subst ex; cases rx
  obtain ⟨_, _, vs, _, d⟩ := tab_of I1.hok g1 g2
  refine ⟨d.typeIs, fun b q => ?_, ?_⟩
  · cases q; obtain ⟨ob, _, _, h1, h2, _⟩ := d; exact ⟨ob, h1, h2.2.1⟩
  rw [m.trees]
  refine Calls.callWith_builtin rfl (Calls.evalArgs_plain (Calls.spliced_cons (thn (he.run pins s1 σ H1 _ I1 q1) fun iv s2 ⟨y, H2, I2, ry, b, ys, k, ey, g, q2⟩ => Calls.spliced_nil ?_)))
  subst ey; cases ry
  obtain ⟨z1, z2, _, vs, d, r⟩ := tget_ok I2 g
  exact call_meetsIn F.slot_dict_get d.typeIs F.entry_dict_get (F.args_dict_get_2 _ _) (meetsH_dict_get (tupleKind (bkKind X.prog X.w)) a b z2) ⟨tupleKind_room_in1 hu, k, vs, z1, d, _, H2, I2.tok _, (tabAt_rel r k).getD (show RelV .non Value.none from rfl), q2⟩
theorem tab_new {P : Program} {w : World} {H : Hp} (h : Heap) (hb : sysModules < h.objs.size) : ObjOk P w H (h.push { cls := .type "dict", data := .dict #[] }) h.objs.size (TabO P w h.objs.size []) :=
  tabO_ok (beq_eq_false_iff_ne.mpr (Ne.symm (Nat.ne_of_lt hb))) (Nat.zero_le _) .nil (Heap.get?_push_size _ rfl) ⟨rfl, rfl, rfl⟩ rfl rfl List.nodup_nil
theorem pe_tnew {pos : Pos} : PE X (.Dict [] [] pos) (fun _ H Q => ∀ p, H p = none → Q (.ref p) (upd H p (TabO X.prog X.w p []))) := ⟨fun pins s σ H Q I h => by
  have I2 := I.laid (a := s.heap.objs.size) (o := TabO X.prog X.w s.heap.objs.size []) (t' := s.toks) (fun _ _ q => Heap.get?_push_of_some _ q) (Nat.le_refl _) (tab_new s.heap I.big)
  exact wpAny_Dict_empty ⟨.ref _, _, I2, rfl, h _ (I.hok.fresh (Nat.le_refl _))⟩⟩
/-- an entry laid -/
def tputE (xs : TabE) (k : List BK) (b : Addr) (v : V) : TabE := if (xs.any fun x => decide (x.1 = k)) = true then xs.map (fun x => if x.1 = k then (x.1, x.2.1, v) else x) else xs ++ [(k, b, v)]
theorem tput_len (xs : TabE) (k : List BK) (b : Addr) (v : V) : (tputE xs k b v).length ≤ xs.length + 1 := by
  unfold tputE; split <;> simp
theorem paired_app {α β : Type} {F : α → β → Prop} : ∀ {a c : List α} {b d : List β}, Paired F a b → Paired F c d → Paired F (a ++ c) (b ++ d)
  | _, _, _, _, .nil, h => h
  | _, _, _, _, .cons x r, h => .cons x (paired_app r h)
theorem tput_rel {xs : TabE} {vs : List (List BK × Addr × Value)} (r : Paired (fun (p : List BK × Addr × V) q => p.1 = q.1 ∧ p.2.1 = q.2.1 ∧ RelV p.2.2 q.2.2) xs vs) (k : List BK) (b : Addr) {v : V} {u : Value} (rv : RelV v u) :
    Paired (fun (p : List BK × Addr × V) q => p.1 = q.1 ∧ p.2.1 = q.2.1 ∧ RelV p.2.2 q.2.2) (tputE xs k b v) (storedH vs k b u) := by
  have e : (xs.any fun x => decide (x.1 = k)) = (atKey vs k).isSome := by
    have z := (tabAt_rel r k).isSome_eq
    rw [Option.isSome_map] at z; rw [← z]; unfold tabAt
    rw [Option.isSome_map]
    exact Bool.eq_iff_iff.mpr (by rw [List.find?_isSome, List.any_eq_true])
  unfold tputE storedH
  rw [e]
  by_cases q : (atKey vs k).isSome = true
  · rw [if_pos q, if_pos q]
    clear e q
    induction r with
    | nil => exact .nil
    | @cons p q ps qs hq t ih =>
      refine .cons ?_ ih
      unfold putAt; dsimp only
      by_cases e : p.1 = k
      · rw [if_pos e, if_pos (hq.1.symm.trans e)]; exact ⟨hq.1, hq.2.1, rv⟩
      · rw [if_neg e, if_neg (fun z => e (hq.1.trans z))]; exact hq
  · rw [if_neg q, if_neg q]; exact paired_app r (.cons ⟨rfl, rfl, rv⟩ .nil)
theorem tab_set {pins : List (Addr × Obj)} {σ : L2.St} {H : Hp} {s : Shared} {E : Value → Shared → Prop} {D b : Addr} {xs : TabE} {k : List BK} {v : V} {r : Value} {Q : Unit → Shared → Prop} (hu : X.A.units + 1 < cLine) (I : Inv X pins σ H s) (g : TGet X H D b xs k) (hz : xs.length < sizeLine) (rv : RelV v r)
    (h : ∀ s', Inv X pins σ (upd H D (TabO X.prog X.w D (tputE xs k b v))) s' → Q () s') : wpAny (model X.prog X.w) X.A (dictSet D (.ref b) r) Q E s := by
  obtain ⟨z1, z2, z3, vs, d, rel⟩ := tget_ok I g
  have hzv : vs.length ≤ sizeLine := by rw [← Paired.length rel]; exact z3
  refine wpAny_dictSet_heap (hsz := hzv) (show X.A.units < cLine by omega) z1 d fun h' d' hs => h _ ?_
  obtain ⟨q, es, ep, hq, y2, y3, y4, _, y5⟩ := d'
  exact d_write I (by rw [g.1]; exact True.intro) hs ⟨q, hq⟩ (tabO_ok z2 (by have := tput_len xs k b v; omega) (tput_rel rel k b rv) hq y2 y3 y4 y5)
/-- {x: y for tg in iter}, x pairs of a truth and a text: D the new dict -/
def tDcT (X : Cx) (wi : TI) (g : TG) (tk tv : TE) (vs : List Nat) : TE := fun σ H Q => wi σ H fun J H1 => ∀ D, H1 D = none → ∃ W : Nat → Nat → Hp → Prop, (∃ m, W 0 m (upd H1 D (TabO X.prog X.w D []))) ∧ ∀ i m H, W i m H →
  (J.stop i H ∧ Q (.ref D) H) ∨ (J.go i H ∧ ∃ Nx : Hp → Prop, (∀ H', Nx H' → ∃ m', m' < m ∧ W (i + 1) m' H') ∧ ∀ x H', J.yld i H x H' → g x (wipe σ vs) H' fun σ2 H2 => wipe σ2 vs = wipe σ vs ∧
    tk σ2 H2 fun y H4 => tv σ2 H4 fun z H5 => ∃ xs k b, y = .ref b ∧ TGet X H5 D b xs k ∧ xs.length < sizeLine ∧ Nx (upd H5 D (TabO X.prog X.w D (tputE xs k b z))))
theorem pe_dcT {kx vx tg iter : Expr} {scope : Scope} {own : List (Str × Nat)} {pos : Pos} {wi : TI} {g : TG} {tk tv : TE} (hu : X.A.units + 1 < cLine) (hc : X.calm = true) (hN : X.N.Nodup) (hi : PI X tg iter wi) (ok : BlkOk X.N X.env.scope scope own)
    (hg : ∀ (s : Shared) (H : Hp) (C : Addr) (cl : List (Str × Addr)) (fp : List Addr), PG (X.blk s H scope (compEnvC scope cl C X.env) fp) tg g)
    (hk : ∀ (s : Shared) (H : Hp) (C : Addr) (cl : List (Str × Addr)) (fp : List Addr), PE (X.blk s H scope (compEnvC scope cl C X.env) fp) kx tk)
    (he : ∀ (s : Shared) (H : Hp) (C : Addr) (cl : List (Str × Addr)) (fp : List Addr), PE (X.blk s H scope (compEnvC scope cl C X.env) fp) vx tv) (hs : ∀ x, foldedSetIterable iter X.env x = pure x) :
    PE X (.DictComp kx vx [⟨tg, iter, [], 0⟩] scope pos) (tDcT X wi g tk tv (own.map (·.2))) := by
  refine ⟨fun pins s σ H Q I h => ?_⟩
  rw [arm_eval_DictComp]
  refine wpAny_comprehension_free rfl hs (closure_ok fun y hy e => (ok.free y hy e).elim (fun z => I.ok.has _ (.inl z)) fun z => I.ok.has _ (.inr z)) ok.kind (fun y hy e => by rw [ok.uniq y hy, e])
    (thn (hi.run pins s σ H _ I h) fun xv s1 hx => thn hx fun itv t2 ⟨it, fp, tn, J, G2, e, J2, T, st2, f2, q⟩ => ?_)
  subst e; refine wpAny_newObj_type (newEnv_comp ?_)
  generalize hD : t2.heap.objs.size = D
  have nD : G2 D = none := J2.hok.fresh (Nat.le_of_eq hD)
  obtain ⟨W, ⟨m0, w0⟩, turn⟩ := q D nD
  generalize hs3 : ({ t2 with heap := t2.heap.push { cls := .type "dict", data := .dict #[] } } : Shared) = t3
  have J3 : Inv X pins σ (upd G2 D (TabO X.prog X.w D [])) t3 := by
    rw [← hs3, ← hD]; exact J2.laid (t' := t2.toks) (fun b o e => Heap.get?_push_of_some _ e) (Nat.le_refl _) (tab_new t2.heap J2.big)
  have e3 : t3.heap = t2.heap.push { cls := .type "dict", data := .dict #[] } := by rw [← hs3]
  have z3 : t3.heap.objs.size = t2.heap.objs.size + 1 := by rw [e3, Heap.size_push]
  have f3 : ∀ b ∈ fp, FpOk X pins (upd G2 D (TabO X.prog X.w D [])) b ∧ b < t3.heap.objs.size := fun b hb => by
    obtain ⟨o, e, _⟩ := T.obj _ _ st2 b hb
    have hlt : b < t2.heap.objs.size := Heap.lt_size e
    have nbD : b ≠ D := fun z => by rw [z, ← hD] at hlt; exact Nat.lt_irrefl _ hlt
    exact ⟨⟨by rw [upd_ne nbD]; exact (f2 b hb).1, (f2 b hb).2⟩, by rw [z3]; exact Nat.lt_succ_of_lt hlt⟩
  have st3 : tn 0 t3.heap := T.keep _ _ _ st2 fun b _ o e => by rw [e3]; exact Heap.get?_push_of_some _ e
  generalize hH3 : upd G2 D (TabO X.prog X.w D []) = G3 at J3 w0 f3
  have J4 := block_start J3 ok hN f3
  generalize hcl : cellsFrom (t3.heap.objs.size + 1) scope.names (cloFrom X.env.cells scope.names []) = cl at J4
  have pg := hg t3 G3 t3.heap.objs.size cl fp; have pk := hk t3 G3 t3.heap.objs.size cl fp; have pe := he t3 G3 t3.heap.objs.size cl fp
  show codeAny _ _ (.compStart (.DictComp kx vx [⟨tg, iter, [], 0⟩] scope pos) 0 (.ref it) (.ref D) (compEnvC scope cl t3.heap.objs.size X.env)) _ { t3 with heap := pushCells (t3.heap.push { cls := .type "dict", data := .dict #[] }) scope.names }
  generalize hce : compEnvC scope cl t3.heap.objs.size X.env = ce at J4 pg pk pe ⊢
  have cL : ce.locals = t3.heap.objs.size := by subst hce; rfl
  generalize hs4 : ({ t3 with heap := pushCells (t3.heap.push { cls := .type "dict", data := .dict #[] }) scope.names } : Shared) = t4 at J4 ⊢
  have st4 : tn 0 t4.heap := T.keep _ _ _ st3 fun b _ o e => by rw [← hs4]; exact pushCells_keeps _ _ _ _ (Heap.get?_push_of_some _ e)
  have fpk : ∀ {σ' : L2.St} {H' : Hp} {s' : Shared}, Inv (X.blk t3 G3 scope ce fp) [] σ' H' s' → (∀ b ∈ fp, H' b = none) → ∀ b ∈ fp, FpOk (X.blk t3 G3 scope ce fp) [] H' b := fun {σ' H' s'} J' hn b hb =>
    ⟨hn b hb, (J'.ok.exf b hb).1, J'.ok.exfs b hb, .inl hb, fun x c e => (J'.ok.exf b hb).2 x c e, fun p hp => by simp at hp⟩
  refine (fun loop => codeAny_compStart_dict loop (T.self X.A 0 _ _ _ st4 loop)) ?_
  refine compLoop_anyD (fun n s' => ∃ i H', Inv (X.blk t3 G3 scope ce fp) [] (wipe σ (own.map (·.2))) H' s' ∧ tn i s'.heap ∧ (∀ b ∈ fp, H' b = none) ∧ W i n H') ?_ m0 ⟨0, G3, J4, st4, fun b hb => (f3 b hb).1.1, w0⟩
  rintro n t5 ⟨i, H5, J5, st5, n5, w5⟩
  rcases turn i n H5 w5 with ⟨stop, qq⟩ | ⟨go, Nx, hNx, step⟩
  · refine thnF (T.done (X.blk t3 G3 scope ce fp) rfl rfl rfl hc i [] t5 _ H5 (fun _ _ => False) J5 (fpk J5 n5) st5 stop) fun r t6 ⟨hr, J6⟩ => ?_
    subst hr
    have J7 : Inv X pins σ H5 t6 := J3.call' (ch := fp) J6.os J6.base J6.hok J6.bare fun b hb => ⟨(f3 b hb).1.2.2.2.1, (f3 b hb).1.2.1, (f3 b hb).1.2.2.2.2.1, (f3 b hb).1.2.2.2.2.2⟩
    have nC : H5 t3.heap.objs.size = none := by have z : H5 ce.locals = none := J6.free; rwa [cL] at z
    obtain ⟨m, hn, _⟩ := J6.loc
    have hn : t6.heap.Ns ce.locals m := hn
    rw [cL] at hn
    obtain ⟨f0, f1, f2', f3', f4, f5⟩ := J3.fpOk (H' := H5) (Nat.le_refl _) nC
    exact ⟨m, hn, fun h'' sb => ⟨.ref D, H5, J7.turned (t' := t6.toks) (fun b o hb e => (sb.2 b hb).trans e) f0 f1 f3' f4 f5, rfl, qq⟩⟩
  · refine thnF (T.item (X.blk t3 G3 scope ce fp) rfl rfl rfl hc i [] t5 _ H5 (fun _ _ => False) J5 (fpk J5 n5) st5 go) fun r t6 ⟨u, hr, h6⟩ => ?_
    subst hr
    refine thnF h6 fun _ t7 ⟨x, H7, J7, r7, y7, st7, n7⟩ => ?_
    refine thnF (pg.run _ t7 _ H7 x u _ (J7.pinned (fpk J7 n7) (T.obj _ _ st7)) r7 (step x H7 y7)) fun _ t8 ⟨σ8, H8, J8, hw8, q8⟩ => ?_
    refine wpAny_pure ?_
    simp only [if_true]
    refine thnF (pk.run _ t8 σ8 H8 _ J8 q8) fun z t10 ⟨yk, H10, J10, r10, q10⟩ => thnF (pe.run _ t10 σ8 H10 _ J10 q10) fun z2 t11 ⟨yv, H11, J11, r11, xs, k, kb, ek, hg11, hz11, nx⟩ => ?_
    subst ek; cases r10
    refine tab_set (X := X.blk t3 G3 scope ce fp) hu J11 hg11 hz11 r11 fun t12 J12 => ?_
    obtain ⟨m', hm, w'⟩ := hNx _ nx
    have pin' : ∀ b ∈ fp, ∀ o, t7.heap.get? b = some o → t12.heap.get? b = some o ∧ (upd H11 D (TabO X.prog X.w D (tputE xs k kb yv))) b = none := fun b hb o e => let z := J12.pin (b, o) (List.mem_append_right _ (List.mem_append_right _ (mem_pinsAt hb e))); ⟨z.1, z.2.1⟩
    refine ⟨m', hm, i + 1, _, (J12.unpinned (pins := [])).weak (by rw [← hw8, wipe_length]) (fun j v e => ?_), T.keep _ _ _ st7 fun b hb o e => (pin' b hb o e).1, fun b hb => ?_, w'⟩
    · rw [← hw8] at e; exact (wipe_some e).1
    · obtain ⟨o, e, _⟩ := T.obj _ _ st7 b hb; exact (pin' b hb o e).2
end
end Gs
end

section
set_option linter.all false
set_option maxRecDepth 100000
set_option autoImplicit false
namespace Gs
open PySem PySem.Spec PyProof.Rows L2
abbrev Frag := PySem.W.Frag
/-- the program, the world -/
class Wd where
  P : Program
  w : World
variable [Wd]

def okS (x : Str) : Prop := PyData.strOk x = true ∧ x.length ≤ sizeLine
/-- a table's entries stand -/
def TabR (K : Frag) (Φ : Hp) : Tab → TabE → Prop := Paired fun (p : (Bool × Str) × (Int × Str)) (q : List BK × Addr × V) => q.1 = [.inl p.1.1, .inr p.1.2] ∧ Φ q.2.1 = some (.tup [.bl p.1.1, .str p.1.2]) ∧ okS p.2.2 ∧ ∃ v, q.2.2 = .ref v ∧ SqT K Φ v [.int p.2.1, .str p.2.2]
mutual
/-- a plain value and the layer's value; Φ: what is frozen, ι: where the store's objects stand -/
inductive RV (K : Frag) (Φ : Hp) (ι : List Addr) : W → V → Prop
  | non : RV K Φ ι .non .non
  | bl (b : Bool) : RV K Φ ι (.bl b) (.bl b)
  | int (i : Int) : RV K Φ ι (.int i) (.int i)
  | str {x : Str} : okS x → RV K Φ ι (.str x) (.str x)
  | ty (n : String) : RV K Φ ι (.ty n) (.ty n)
  | tup {a : Addr} {vs : List V} {xs : List W} : SqT K Φ a vs → RVs K Φ ι xs vs → RV K Φ ι (.tup xs) (.ref a)
  | lst {a : Addr} {vs : List V} {xs : List W} : Φ a = some (.lst vs) → RVs K Φ ι xs vs → RV K Φ ι (.lst xs) (.ref a)
  | scr {a : Addr} {ns : List Int} : SqL K Φ a (ns.map V.int) → RV K Φ ι (.scr ns) (.ref a)
  | loc {l : Nat} {a : Addr} : ι[l]? = some a → RV K Φ ι (.loc l) (.ref a)
  | fn (x : Str) : RV K Φ ι (.fn x) (.ref (He.ga K x))
  | tab {a : Addr} {xs : TabE} {t : Tab} : Φ a = some (TabO Wd.P Wd.w a xs) → TabR K Φ t xs → RV K Φ ι (.tab t) (.ref a)
inductive RVs (K : Frag) (Φ : Hp) (ι : List Addr) : List W → List V → Prop
  | nil : RVs K Φ ι [] []
  | cons {x : W} {xs : List W} {v : V} {vs : List V} : RV K Φ ι x v → RVs K Φ ι xs vs → RVs K Φ ι (x :: xs) (v :: vs)
end
abbrev RKV (K : Frag) (Φ : Hp) (ι : List Addr) : List (Key × W) → List (Key × V) → Prop := Paired fun p q => p.1 = q.1 ∧ RV K Φ ι p.2 q.2
abbrev RFs (K : Frag) (Φ : Hp) (ι : List Addr) : List (Str × W) → List (Str × V) → Prop := Paired fun p q => p.1 = q.1 ∧ RV K Φ ι p.2 q.2

theorem Rd.mono {H H' : Hp} {a : Addr} {u : HO} (h : ∀ b o, H b = some o → H' b = some o) (r : Rd H a u) : Rd H' a u := by
  rcases r with r | ⟨o, r⟩
  · exact .inl (h _ _ r)
  · exact .inr ⟨o, h _ _ r⟩
theorem SqT.mono {K : Frag} {H H' : Hp} {a : Addr} {vs : List V} (h : ∀ b o, H b = some o → H' b = some o) (r : SqT K H a vs) : SqT K H' a vs := by
  rcases r with r | r
  · exact .inl (Rd.mono h r)
  · exact .inr r
theorem SqL.mono {K : Frag} {H H' : Hp} {a : Addr} {vs : List V} (h : ∀ b o, H b = some o → H' b = some o) (r : SqL K H a vs) : SqL K H' a vs := by
  rcases r with r | r
  · exact .inl (Rd.mono h r)
  · exact .inr r
theorem TabR.mono {K : Frag} {H H' : Hp} (h : ∀ b o, H b = some o → H' b = some o) {t : Tab} {xs : TabE} (r : TabR K H t xs) : TabR K H' t xs :=
  Paired.mapP r fun p q ⟨z1, z2, z3, v, z4, z5⟩ => ⟨z1, h _ _ z2, z3, v, z4, SqT.mono h z5⟩
section
variable {K : Frag} {Φ Φ' : Hp} {ι ι' : List Addr}
mutual
theorem RV.mono (h : ∀ b o, Φ b = some o → Φ' b = some o) (hi : ι <+: ι') : ∀ {x : W} {v : V}, RV K Φ ι x v → RV K Φ' ι' x v
  | _, _, .non => .non
  | _, _, .bl b => .bl b
  | _, _, .int i => .int i
  | _, _, .str e => .str e
  | _, _, .ty n => .ty n
  | _, _, .tup s r => .tup (SqT.mono h s) (RVs.mono h hi r)
  | _, _, .lst s r => .lst (h _ _ s) (RVs.mono h hi r)
  | _, _, .scr s => .scr (SqL.mono h s)
  | _, _, .fn x => .fn x
  | _, _, .tab e r => .tab (h _ _ e) (r.mono h)
  | _, _, .loc e => .loc (by obtain ⟨t, rfl⟩ := hi; rw [List.getElem?_append_left (List.getElem?_eq_some_iff.mp e).1]; exact e)
theorem RVs.mono (h : ∀ b o, Φ b = some o → Φ' b = some o) (hi : ι <+: ι') : ∀ {x : List W} {v : List V}, RVs K Φ ι x v → RVs K Φ' ι' x v
  | _, _, .nil => .nil
  | _, _, .cons a r => .cons (RV.mono h hi a) (RVs.mono h hi r)
end
theorem RVs.length : ∀ {xs : List W} {vs : List V}, RVs K Φ ι xs vs → xs.length = vs.length
  | _, _, .nil => rfl
  | _, _, .cons _ r => by simp [RVs.length r]
theorem RVs.get : ∀ {xs : List W} {vs : List V} {i : Nat} {x : W}, RVs K Φ ι xs vs → xs[i]? = some x → ∃ v, vs[i]? = some v ∧ RV K Φ ι x v
  | _, _, _, _, .nil, e => by simp at e
  | _, _, 0, _, .cons r _, e => by simp at e; subst e; exact ⟨_, rfl, r⟩
  | _, _, i + 1, x, .cons _ t, e => by
    obtain ⟨u, h1, h2⟩ := RVs.get (i := i) (x := x) t (by simpa using e)
    exact ⟨u, by simpa using h1, h2⟩
theorem RVs.getV : ∀ {xs : List W} {vs : List V} {i : Nat} {v : V}, RVs K Φ ι xs vs → vs[i]? = some v → ∃ x, xs[i]? = some x ∧ RV K Φ ι x v
  | _, _, _, _, .nil, e => by simp at e
  | _, _, 0, _, .cons r _, e => by simp at e; subst e; exact ⟨_, rfl, r⟩
  | _, _, i + 1, x, .cons _ t, e => by
    obtain ⟨u, h1, h2⟩ := RVs.getV (i := i) (v := x) t (by simpa using e)
    exact ⟨u, by simpa using h1, h2⟩
theorem RVs.append : ∀ {xs ys : List W} {vs us : List V}, RVs K Φ ι xs vs → RVs K Φ ι ys us → RVs K Φ ι (xs ++ ys) (vs ++ us)
  | _, _, _, _, .nil, s => s
  | _, _, _, _, .cons r t, s => .cons r (RVs.append t s)
theorem RVs.set {x : W} {v : V} (r : RV K Φ ι x v) : ∀ {xs : List W} {vs : List V} (i : Nat), RVs K Φ ι xs vs → RVs K Φ ι (xs.set i x) (vs.set i v)
  | _, _, _, .nil => .nil
  | _, _, 0, .cons _ t => .cons r t
  | _, _, i + 1, .cons q t => .cons q (RVs.set r i t)
theorem RVs.take : ∀ {xs : List W} {vs : List V} (n : Nat), RVs K Φ ι xs vs → RVs K Φ ι (xs.take n) (vs.take n)
  | _, _, 0, _ => .nil
  | _, _, _ + 1, .nil => .nil
  | _, _, n + 1, .cons r t => .cons r (RVs.take n t)
theorem RVs.drop : ∀ {xs : List W} {vs : List V} (n : Nat), RVs K Φ ι xs vs → RVs K Φ ι (xs.drop n) (vs.drop n)
  | _, _, 0, r => r
  | _, _, _ + 1, .nil => .nil
  | _, _, n + 1, .cons _ t => RVs.drop n t
theorem RVs.eraseIdx : ∀ {xs : List W} {vs : List V} (i : Nat), RVs K Φ ι xs vs → RVs K Φ ι (xs.eraseIdx i) (vs.eraseIdx i)
  | _, _, _, .nil => .nil
  | _, _, 0, .cons _ t => t
  | _, _, i + 1, .cons q t => .cons q (RVs.eraseIdx i t)
theorem RVs.dropLast {xs : List W} {vs : List V} (h : RVs K Φ ι xs vs) : RVs K Φ ι xs.dropLast vs.dropLast := by
  rw [List.dropLast_eq_take, List.dropLast_eq_take, h.length]
  exact h.take _
theorem RVs.ints : ∀ {xs : List W} {vs : List V} {ns : List Int}, RVs K Φ ι xs vs → intsOf xs = some ns → vs = ns.map V.int
  | _, _, _, .nil, e => by simp [intsOf] at e; subst e; rfl
  | _, _, _, .cons r t, e => by
    cases r with
    | int i =>
      simp only [intsOf, Option.map_eq_some_iff] at e
      obtain ⟨ms, e1, e2⟩ := e
      subst e2
      rw [RVs.ints t e1]
      rfl
    | _ => simp [intsOf] at e
theorem RVs.bls : ∀ {xs : List W} {vs : List V} {ns : List Bool}, RVs K Φ ι xs vs → blsOf xs = some ns → vs = ns.map V.bl
  | _, _, _, .nil, e => by simp [blsOf] at e; subst e; rfl
  | _, _, _, .cons r t, e => by
    cases r with
    | bl i =>
      simp only [blsOf, Option.map_eq_some_iff] at e
      obtain ⟨ms, e1, e2⟩ := e
      subst e2
      rw [RVs.bls t e1]
      rfl
    | _ => simp [blsOf] at e
theorem RVs.of_ints : ∀ {ns : List Int}, RVs K Φ ι (ns.map W.int) (ns.map V.int)
  | [] => .nil
  | _ :: _ => .cons (.int _) RVs.of_ints
end

/-- an object of the store -/
def RO (K : Frag) (Φ : Hp) (ι : List Addr) (H : Hp) (a : Addr) : Ob → Prop
  | .lst xs => ∃ vs, H a = some (.lst vs) ∧ RVs K Φ ι xs vs
  | .dic kvs => ∃ us, H a = some (.dK us) ∧ RKV K Φ ι kvs us
  | .ins _ _ => False
structure Rel (K : Frag) (Φ : Hp) (ι : List Addr) (S : Store) (H : Hp) : Prop where
  len : ι.length = S.length
  nd : ι.Nodup
  sub : ∀ a o, Φ a = some o → H a = some o
  trk : ∀ a ∈ ι, H a ≠ none
  live : ∀ (l : Nat) (a : Addr) (o : Ob), ι[l]? = some a → S[l]? = some (some o) → Φ a = none ∧ RO K Φ ι H a o
/-- what stays between two states -/
structure Ext (Φ : Hp) (ι : List Addr) (H : Hp) (Φ' : Hp) (ι' : List Addr) (H' : Hp) : Prop where
  fz : ∀ a o, Φ a = some o → Φ' a = some o
  lo : ι <+: ι'
  nw : ∀ a ∈ ι', a ∈ ι ∨ H a = none
  fr : ∀ a o, H a = some o → a ∉ ι → H' a = some o
  dm : ∀ a, H a ≠ none → H' a ≠ none
  nf : ∀ a, Φ' a ≠ none → Φ a ≠ none ∨ H a = none ∨ a ∈ ι
theorem Ext.refl (Φ : Hp) (ι : List Addr) (H : Hp) : Ext Φ ι H Φ ι H := ⟨fun _ _ h => h, List.prefix_refl _, fun _ h => .inl h, fun _ _ h _ => h, fun _ h => h, fun _ h => .inl h⟩
theorem Ext.trans {Φ Φ1 Φ2 H H1 H2 : Hp} {ι ι1 ι2 : List Addr} (a : Ext Φ ι H Φ1 ι1 H1) (b : Ext Φ1 ι1 H1 Φ2 ι2 H2) : Ext Φ ι H Φ2 ι2 H2 := by
  have back : ∀ c, H1 c = none → H c = none := fun c h => by
    cases q : H c with
    | none => rfl
    | some o => exact absurd h (a.dm c (by rw [q]; simp))
  refine ⟨fun c o h => b.fz c o (a.fz c o h), a.lo.trans b.lo, fun c h => ?_, fun c o h n => ?_, fun c h => b.dm c (a.dm c h), fun c h => ?_⟩
  · rcases b.nw c h with h | h
    · exact a.nw c h
    · right
      cases q : H c with
      | none => rfl
      | some o => exact absurd h (a.dm c (by rw [q]; simp))
  · refine b.fr c o (a.fr c o h n) fun hc => ?_
    rcases a.nw c hc with z | z
    · exact n z
    · rw [h] at z; cases z
  · rcases b.nf c h with h | h | h
    · exact a.nf c h
    · exact .inr (.inl (back c h))
    · rcases a.nw c h with h | h
      · exact .inr (.inr h)
      · exact .inr (.inl h)
theorem Ext.rv {K : Frag} {Φ Φ' H H' : Hp} {ι ι' : List Addr} (e : Ext Φ ι H Φ' ι' H') {x : W} {v : V} (r : RV K Φ ι x v) : RV K Φ' ι' x v := r.mono e.fz e.lo
theorem Ext.rvs {K : Frag} {Φ Φ' H H' : Hp} {ι ι' : List Addr} (e : Ext Φ ι H Φ' ι' H') {x : List W} {v : List V} (r : RVs K Φ ι x v) : RVs K Φ' ι' x v := r.mono e.fz e.lo

theorem RKV.mono {K : Frag} {Φ Φ' : Hp} {ι ι' : List Addr} (h : ∀ b o, Φ b = some o → Φ' b = some o) (hi : ι <+: ι') {x : List (Key × W)} {v : List (Key × V)} (r : RKV K Φ ι x v) : RKV K Φ' ι' x v :=
  Paired.mapP r fun p q z => ⟨z.1, z.2.mono h hi⟩
theorem RO.mono {K : Frag} {Φ Φ' H : Hp} {ι ι' : List Addr} {a : Addr} (h : ∀ b o, Φ b = some o → Φ' b = some o) (hi : ι <+: ι') : ∀ {o : Ob}, RO K Φ ι H a o → RO K Φ' ι' H a o
  | .lst _, ⟨vs, e, r⟩ => ⟨vs, e, r.mono h hi⟩
  | .dic _, ⟨vs, e, r⟩ => ⟨vs, e, RKV.mono h hi r⟩
  | .ins _ _, z => z.elim
theorem RO.heap {K : Frag} {Φ H H' : Hp} {ι : List Addr} {a : Addr} (h : H' a = H a) : ∀ {o : Ob}, RO K Φ ι H a o → RO K Φ ι H' a o
  | .lst _, ⟨vs, e, r⟩ => ⟨vs, by rw [h]; exact e, r⟩
  | .dic _, ⟨vs, e, r⟩ => ⟨vs, by rw [h]; exact e, r⟩
  | .ins _ _, z => z.elim
section
variable {K : Frag} {Φ H : Hp} {ι : List Addr} {S : Store}
/-- a new frozen object -/
theorem Rel.newF (r : Rel K Φ ι S H) {p : Addr} {o : HO} (hp : H p = none) : Rel K (upd Φ p o) ι S (upd H p o) ∧ Ext Φ ι H (upd Φ p o) ι (upd H p o) := by
  have hΦ : Φ p = none := by
    cases q : Φ p with
    | none => rfl
    | some u => rw [r.sub p u q] at hp; cases hp
  have nι : ∀ a ∈ ι, a ≠ p := fun a h e => r.trk a h (by rw [e]; exact hp)
  have sub' : ∀ b u, Φ b = some u → upd Φ p o b = some u := fun b u h => by rw [upd_ne (ne_of_none h hΦ)]; exact h
  refine ⟨⟨r.len, r.nd, fun a u h => ?_, fun a h => ?_, fun l a u h1 h2 => ?_⟩, ⟨sub', List.prefix_refl _, fun _ h => .inl h, fun a u h _ => ?_, fun a h => ?_, fun a h => ?_⟩⟩
  · by_cases e : a = p
    · subst e; rw [upd_same] at h ⊢; exact h
    · rw [upd_ne e] at h ⊢; exact r.sub a u h
  · rw [upd_ne (nι a h)]; exact r.trk a h
  · have ha := List.mem_of_getElem? h1
    obtain ⟨q1, q2⟩ := r.live l a u h1 h2
    refine ⟨by rw [upd_ne (nι a ha)]; exact q1, ?_⟩
    exact RO.heap (upd_ne (nι a ha)) (RO.mono sub' (List.prefix_refl _) q2)
  · rw [upd_ne (ne_of_none h hp)]; exact h
  · intro z
    by_cases e : a = p
    · subst e; exact h hp
    · rw [upd_ne e] at z; exact h z
  · by_cases e : a = p
    · subst e; exact .inr (.inl hp)
    · rw [upd_ne e] at h; exact .inl h
/-- a new object of the store -/
theorem Rel.newS (r : Rel K Φ ι S H) {p : Addr} {ho : HO} {o : Ob} (hp : H p = none) (ho' : RO K Φ (ι ++ [p]) (upd H p ho) p o) : Rel K Φ (ι ++ [p]) (S ++ [some o]) (upd H p ho) ∧ Ext Φ ι H Φ (ι ++ [p]) (upd H p ho) := by
  have hΦ : Φ p = none := by
    cases q : Φ p with
    | none => rfl
    | some u => rw [r.sub p u q] at hp; cases hp
  have nι : ∀ a ∈ ι, a ≠ p := fun a h e => r.trk a h (by rw [e]; exact hp)
  have pre : ι <+: ι ++ [p] := ⟨[p], rfl⟩
  refine ⟨⟨by simp [r.len], ?_, fun a u h => ?_, fun a h => ?_, fun l a u h1 h2 => ?_⟩, ⟨fun _ _ h => h, pre, fun a h => ?_, fun a u h _ => ?_, fun a h => ?_, fun _ h => .inl h⟩⟩
  · rw [List.nodup_append]
    exact ⟨r.nd, by simp, fun a h b hb => by rw [List.mem_singleton] at hb; rw [hb]; exact nι a h⟩
  · rw [upd_ne (ne_of_none (r.sub a u h) hp)]; exact r.sub a u h
  · rcases List.mem_append.mp h with h | h
    · rw [upd_ne (nι a h)]; exact r.trk a h
    · rw [List.mem_singleton] at h; subst h; rw [upd_same]; simp
  · by_cases hl : l < ι.length
    · rw [List.getElem?_append_left hl] at h1
      rw [List.getElem?_append_left (by rw [← r.len]; exact hl)] at h2
      have ha := List.mem_of_getElem? h1
      obtain ⟨q1, q2⟩ := r.live l a u h1 h2
      exact ⟨q1, RO.heap (upd_ne (nι a ha)) (RO.mono (fun _ _ h => h) pre q2)⟩
    · have hl2 : l = ι.length := by
        have z := (List.getElem?_eq_some_iff.mp h1).1
        simp at z; omega
      subst hl2
      rw [List.getElem?_append_right (Nat.le_refl _)] at h1
      rw [r.len, List.getElem?_append_right (Nat.le_refl _)] at h2
      simp at h1 h2
      subst h1; subst h2
      exact ⟨hΦ, ho'⟩
  · rcases List.mem_append.mp h with h | h
    · exact .inl h
    · rw [List.mem_singleton] at h; subst h; exact .inr hp
  · rw [upd_ne (ne_of_none h hp)]; exact h
  · intro z
    by_cases e : a = p
    · subst e; exact h hp
    · rw [upd_ne e] at z; exact h z
/-- an object of the store is changed -/
theorem Rel.setS (r : Rel K Φ ι S H) {l : Nat} {a : Addr} {o o1 : Ob} {ho : HO} (h1 : ι[l]? = some a) (h2 : S[l]? = some (some o1)) (ho' : RO K Φ ι (upd H a ho) a o) : Rel K Φ ι (S.set l (some o)) (upd H a ho) ∧ Ext Φ ι H Φ ι (upd H a ho) := by
  obtain ⟨q1, q2⟩ := r.live l a o1 h1 h2
  have ha := List.mem_of_getElem? h1
  have hne : ∀ b u, Φ b = some u → b ≠ a := fun b u h e => by rw [e, q1] at h; cases h
  refine ⟨⟨by simp [r.len], r.nd, fun b u h => ?_, fun b h => ?_, fun m b u e1 e2 => ?_⟩, ⟨fun _ _ h => h, List.prefix_refl _, fun _ h => .inl h, fun b u h n => ?_, fun b h => ?_, fun _ h => .inl h⟩⟩
  · rw [upd_ne (hne b u h)]; exact r.sub b u h
  · by_cases e : b = a
    · subst e; rw [upd_same]; simp
    · rw [upd_ne e]; exact r.trk b h
  · by_cases hm : m = l
    · subst hm
      rw [h1] at e1; cases e1
      have hl : m < S.length := (List.getElem?_eq_some_iff.mp h2).1
      rw [List.getElem?_set_self hl] at e2
      cases e2
      exact ⟨q1, ho'⟩
    · rw [List.getElem?_set_ne (Ne.symm hm)] at e2
      obtain ⟨p1, p2⟩ := r.live m b u e1 e2
      have hb : b ≠ a := fun e => by
        subst e
        exact hm (by
          obtain ⟨x1, y1⟩ := List.getElem?_eq_some_iff.mp e1
          obtain ⟨x2, y2⟩ := List.getElem?_eq_some_iff.mp h1
          exact (List.getElem_inj r.nd).mp (y1.trans y2.symm))
      exact ⟨p1, RO.heap (upd_ne hb) p2⟩
  · by_cases e : b = a
    · subst e; exact absurd ha n
    · rw [upd_ne e]; exact h
  · by_cases e : b = a
    · subst e; rw [upd_same]; simp
    · rw [upd_ne e]; exact h
/-- a list of the store is frozen -/
theorem Rel.kill (r : Rel K Φ ι S H) {l : Nat} {a : Addr} {xs : List W} (h1 : ι[l]? = some a) (h2 : S[l]? = some (some (.lst xs))) : ∃ vs, H a = some (.lst vs) ∧ RVs K Φ ι xs vs ∧ Rel K (upd Φ a (.lst vs)) ι (S.set l none) H ∧ Ext Φ ι H (upd Φ a (.lst vs)) ι H := by
  obtain ⟨q1, vs, q2, q3⟩ := r.live l a _ h1 h2
  have ha := List.mem_of_getElem? h1
  have sub' : ∀ b u, Φ b = some u → upd Φ a (.lst vs) b = some u := fun b u h => by rw [upd_ne (ne_of_none h q1)]; exact h
  refine ⟨vs, q2, q3, ⟨by simp [r.len], r.nd, fun b u h => ?_, r.trk, fun m b u e1 e2 => ?_⟩, ⟨sub', List.prefix_refl _, fun _ h => .inl h, fun _ _ h _ => h, fun _ h => h, fun b h => ?_⟩⟩
  · by_cases e : b = a
    · subst e; rw [upd_same] at h; cases h; exact q2
    · rw [upd_ne e] at h; exact r.sub b u h
  · by_cases hm : m = l
    · subst hm
      have hl : m < S.length := (List.getElem?_eq_some_iff.mp h2).1
      rw [List.getElem?_set_self hl] at e2
      cases e2
    · rw [List.getElem?_set_ne (Ne.symm hm)] at e2
      obtain ⟨p1, p2⟩ := r.live m b u e1 e2
      have hb : b ≠ a := fun e => by
        subst e
        exact hm (by
          obtain ⟨x1, y1⟩ := List.getElem?_eq_some_iff.mp e1
          obtain ⟨x2, y2⟩ := List.getElem?_eq_some_iff.mp h1
          exact (List.getElem_inj r.nd).mp (y1.trans y2.symm))
      exact ⟨by rw [upd_ne hb]; exact p1, RO.mono sub' (List.prefix_refl _) p2⟩
  · by_cases e : b = a
    · subst e; exact .inr (.inr ha)
    · rw [upd_ne e] at h; exact .inl h
end
/-! ### behind a call -/
section
variable {K : Frag} {Φ H : Hp} {ι : List Addr}
mutual
theorem RV.bel {n : Nat} : ∀ {x : W} {v : V}, RV K Φ ι x v → W.bel n x = true → RV K Φ (ι.take n) x v
  | _, _, .non, _ => .non
  | _, _, .bl b, _ => .bl b
  | _, _, .int i, _ => .int i
  | _, _, .str e, _ => .str e
  | _, _, .ty n, _ => .ty n
  | _, _, .tup s r, h => .tup s (RVs.bel r (by simpa [W.bel] using h))
  | _, _, .lst s r, h => .lst s (RVs.bel r (by simpa [W.bel] using h))
  | _, _, .scr s, h => .scr s
  | _, _, .fn x, h => .fn x
  | _, _, .tab e r, h => .tab e r
  | _, _, .loc e, h => .loc (by rw [List.getElem?_take_of_lt (by simpa [W.bel] using h)]; exact e)
theorem RVs.bel {n : Nat} : ∀ {x : List W} {v : List V}, RVs K Φ ι x v → W.bels n x = true → RVs K Φ (ι.take n) x v
  | _, _, .nil, _ => .nil
  | _, _, .cons a r, h => by
    rw [W.bels, Bool.and_eq_true] at h
    exact .cons (RV.bel a h.1) (RVs.bel r h.2)
end
theorem RKV.bel {n : Nat} : ∀ {x : List (Key × W)} {v : List (Key × V)}, RKV K Φ ι x v → (x.all fun p => W.bel n p.2) = true → RKV K Φ (ι.take n) x v
  | _, _, .nil, _ => .nil
  | _, _, .cons a r, h => by
    simp only [List.all_cons, Bool.and_eq_true] at h
    exact .cons ⟨a.1, a.2.bel h.1⟩ (RKV.bel r h.2)
theorem RO.bel {n : Nat} {a : Addr} : ∀ {o : Ob}, RO K Φ ι H a o → o.bel n = true → RO K Φ (ι.take n) H a o
  | .lst _, ⟨vs, e, r⟩, h => ⟨vs, e, r.bel h⟩
  | .dic _, ⟨vs, e, r⟩, h => ⟨vs, e, RKV.bel r h⟩
  | .ins _ _, z, _ => z.elim
theorem belowS_get {n : Nat} : ∀ {S : Store} {l : Nat} {o : Ob}, belowS n S = true → S[l]? = some (some o) → o.bel n = true
  | [], _, _, _, e => by simp at e
  | none :: r, 0, _, _, e => by simp at e
  | some o :: r, 0, _, h, e => by
    rw [belowS, Bool.and_eq_true] at h
    simp at e; subst e; exact h.1
  | none :: r, l + 1, _, h, e => belowS_get (S := r) h (by simpa using e)
  | some o :: r, l + 1, _, h, e => by
    rw [belowS, Bool.and_eq_true] at h
    exact belowS_get (S := r) h.2 (by simpa using e)
theorem Rel.drop {S : Store} (r : Rel K Φ ι S H) {n : Nat} (h : belowS n (S.take n) = true) : Rel K Φ (ι.take n) (S.take n) H := by
  refine ⟨by simp [r.len], r.nd.sublist (List.take_sublist _ _), r.sub, fun a ha => r.trk a (List.mem_of_mem_take ha), fun l a o h1 h2 => ?_⟩
  have hl : l < n := by
    have := (List.getElem?_eq_some_iff.mp h1).1
    simp at this; omega
  have h2' := h2
  rw [List.getElem?_take_of_lt hl] at h1 h2
  obtain ⟨q1, q2⟩ := r.live l a o h1 h2
  exact ⟨q1, q2.bel (belowS_get h h2')⟩
end
/-! ### what is wanted behind a computation -/
/-- the classes of the program's exceptions -/
structure Cf where
  K : Frag
  cl : Str → Option Addr
def RX (c : Cf) (Φ : Hp) (ι : List Addr) (H : Hp) (x : Xc) (cls : Value) (d : Option Addr) : Prop :=
  ∃ C, c.cl x.cls = some C ∧ cls = .ref C ∧ ((x.fs = [] ∧ d = none) ∨ x.fs ≠ [] ∧ ∃ dx us, d = some dx ∧ H dx = some (.xd us) ∧ dx ∉ ι ∧ RFs c.K Φ ι x.fs us)
def After {α : Type} (c : Cf) (Φ : Hp) (ι : List Addr) (H : Hp) (o : Out α) (Q : α → Hp → List Addr → Store → Hp → Prop) (E : XK) : Prop := match o with
  | .ok a S => ∀ Φ' ι' H', Ext Φ ι H Φ' ι' H' → Rel c.K Φ' ι' S H' → Q a Φ' ι' S H'
  | .ex x S => ∀ Φ' ι' H' cls d, Ext Φ ι H Φ' ι' H' → Rel c.K Φ' ι' S H' → RX c Φ' ι' H' x cls d → E cls d H'
  | .no => False
section
variable {c : Cf} {Φ Φ1 H H1 : Hp} {ι ι1 : List Addr} {α β : Type} {o : Out α} {E : XK}
theorem After.step {Q : α → Hp → List Addr → Store → Hp → Prop} (h : After c Φ ι H o Q E) (e : Ext Φ ι H Φ1 ι1 H1) : After c Φ1 ι1 H1 o Q E := by
  cases o with
  | ok a S => exact fun Φ' ι' H' e' r => h Φ' ι' H' (e.trans e') r
  | ex x S => exact fun Φ' ι' H' cls d e' r rx => h Φ' ι' H' cls d (e.trans e') r rx
  | no => exact h
theorem After.bd {f : α → Store → Out β} {Q : β → Hp → List Addr → Store → Hp → Prop} (h : After c Φ ι H (o.bd f) Q E) :
    After c Φ ι H o (fun a Φ' ι' S' H' => After c Φ' ι' H' (f a S') Q E) E := by
  cases o with
  | ok a S => exact fun Φ' ι' H' e r => After.step (o := f a S) h e
  | ex x S => exact h
  | no => exact h
theorem After.imp {Q Q' : α → Hp → List Addr → Store → Hp → Prop} (h : After c Φ ι H o Q E) (k : ∀ a Φ' ι' S' H', Ext Φ ι H Φ' ι' H' → Rel c.K Φ' ι' S' H' → Q a Φ' ι' S' H' → Q' a Φ' ι' S' H') : After c Φ ι H o Q' E := by
  cases o with
  | ok a S => exact fun Φ' ι' H' e r => k _ _ _ _ _ e r (h Φ' ι' H' e r)
  | ex x S => exact h
  | no => exact h
theorem After.here {Q : α → Hp → List Addr → Store → Hp → Prop} {a : α} {S : Store} (h : After c Φ ι H (.ok a S) Q E) (r : Rel c.K Φ ι S H) : Q a Φ ι S H := h Φ ι H (Ext.refl _ _ _) r
theorem After.noex {Q : α → Hp → List Addr → Store → Hp → Prop} {E' : XK} (h : After c Φ ι H o.noex Q E) : After c Φ ι H o Q E' := by
  cases o with
  | ok a S => exact h
  | ex x S => exact h.elim
  | no => exact h
theorem After.exc {Q : α → Hp → List Addr → Store → Hp → Prop} {E' : XK} (h : After c Φ ι H o Q E) (k : ∀ cls d H, E cls d H → E' cls d H) : After c Φ ι H o Q E' := by
  cases o with
  | ok a S => exact h
  | ex x S => exact fun Φ' ι' H' cls d e r rx => k _ _ _ (h Φ' ι' H' cls d e r rx)
  | no => exact h
end
/-- .. behind a value -/
abbrev QV (c : Cf) (Q : VK) : W → Hp → List Addr → Store → Hp → Prop := fun w Φ' ι' _ H' => ∀ v, RV c.K Φ' ι' w v → Q v H'
abbrev QVs (c : Cf) (Q : List V → Hp → Prop) : List W → Hp → List Addr → Store → Hp → Prop := fun w Φ' ι' _ H' => ∀ v, RVs c.K Φ' ι' w v → Q v H'
abbrev QB (Q : Bool → Hp → Prop) : Bool → Hp → List Addr → Store → Hp → Prop := fun b _ _ _ H' => Q b H'
section
variable {c : Cf} {Φ H : Hp} {ι : List Addr} {S : Store} {E : XK} {Q : VK}
theorem newL_ok {fz : Bool} {xs : List W} {vs : List V} (r : Rel c.K Φ ι S H) (rv : RVs c.K Φ ι xs vs) (h : After c Φ ι H (newL fz xs S) (QV c Q) E) :
    vs.length ≤ sizeLine ∧ ∀ p, H p = none → Q (.ref p) (upd H p (.lst vs)) := by
  unfold newL at h
  by_cases hz : xs.length ≤ line
  · rw [if_pos hz] at h
    refine ⟨by rw [← rv.length, sizeLine_eq]; exact hz, fun p hp => ?_⟩
    cases fz with
    | true =>
      rw [if_pos rfl] at h
      obtain ⟨r', e⟩ := r.newF (o := .lst vs) hp
      exact h _ _ _ e r' _ (.lst upd_same (e.rvs rv))
    | false =>
      rw [if_neg Bool.false_ne_true] at h
      obtain ⟨r', e⟩ := r.newS (ho := .lst vs) (o := .lst xs) hp ⟨vs, upd_same, rv.mono (fun _ _ h => h) ⟨[p], rfl⟩⟩
      exact h _ _ _ e r' _ (.loc (by rw [← r.len, List.getElem?_append_right (Nat.le_refl _)]; simp))
  · rw [if_neg hz] at h
    exact h.elim
theorem newT_ok {xs : List W} {vs : List V} (r : Rel c.K Φ ι S H) (rv : RVs c.K Φ ι xs vs) (h : After c Φ ι H (.ok (.tup xs) S) (QV c Q) E) :
    ∀ p, H p = none → Q (.ref p) (upd H p (.tup vs)) := fun p hp => by
  obtain ⟨r', e⟩ := r.newF (o := .tup vs) hp
  exact h _ _ _ e r' _ (.tup (SqT.of upd_same) (e.rvs rv))
theorem same_ok {w : W} {v : V} (r : Rel c.K Φ ι S H) (rv : RV c.K Φ ι w v) (h : After c Φ ι H (.ok w S) (QV c Q) E) : Q v H := h.here r v rv
/-- a list or a tuple as it stands -/
theorem seqW_ok {w : W} {v : V} {xs : List W} (r : Rel c.K Φ ι S H) (rv : RV c.K Φ ι w v) (h : seqW S w = some xs) : ∃ a vs, v = .ref a ∧ (SqL c.K H a vs ∨ SqT c.K H a vs) ∧ RVs c.K Φ ι xs vs := by
  cases rv with
  | tup s t => simp only [seqW, Option.some.injEq] at h; subst h; exact ⟨_, _, rfl, .inr (SqT.mono r.sub s), t⟩
  | lst s t => simp only [seqW, Option.some.injEq] at h; subst h; exact ⟨_, _, rfl, .inl (SqL.of (r.sub _ _ s)), t⟩
  | scr s => simp only [seqW, Option.some.injEq] at h; subst h; exact ⟨_, _, rfl, .inl (SqL.mono r.sub s), RVs.of_ints⟩
  | @loc l a e =>
    simp only [seqW] at h
    cases q : S[l]? with
    | none => rw [q] at h; cases h
    | some o =>
      rw [q] at h
      cases o with
      | none => cases h
      | some o =>
        cases o with
        | lst ys =>
          simp only [Option.some.injEq] at h; subst h
          obtain ⟨_, vs, e1, e2⟩ := r.live _ _ _ e q
          exact ⟨_, _, rfl, .inl (SqL.of e1), e2⟩
        | _ => cases h
  | _ => cases h
theorem lstW_ok {w : W} {v : V} {xs : List W} (r : Rel c.K Φ ι S H) (rv : RV c.K Φ ι w v) (h : lstW S w = some xs) : ∃ a vs, v = .ref a ∧ H a = some (.lst vs) ∧ RVs c.K Φ ι xs vs := by
  cases rv with
  | lst s t => simp only [lstW, Option.some.injEq] at h; subst h; exact ⟨_, _, rfl, r.sub _ _ s, t⟩
  | @loc l a e =>
    simp only [lstW] at h
    cases q : S[l]? with
    | none => rw [q] at h; cases h
    | some o =>
      rw [q] at h
      cases o with
      | none => cases h
      | some o =>
        cases o with
        | lst ys =>
          simp only [Option.some.injEq] at h; subst h
          obtain ⟨_, vs, e1, e2⟩ := r.live _ _ _ e q
          exact ⟨_, _, rfl, e1, e2⟩
        | _ => cases h
  | _ => cases h
end
end Gs
end

section
set_option linter.all false
set_option maxRecDepth 100000
set_option autoImplicit false
namespace Gs
open PySem PySem.Spec PyProof.Rows L2
variable [Wd]

/-! ### operators by plain values -/
/-- a two-place operation that the plain one answers -/
def rW2 (c : Cf) (f : W → W → Store → Out W) : R2 := fun x y H Q => ∃ (Φ : Hp) (ι : List Addr) (S : Store) (w1 w2 : W) (E : XK), Rel c.K Φ ι S H ∧ RV c.K Φ ι w1 x ∧ RV c.K Φ ι w2 y ∧ After c Φ ι H (f w1 w2 S) (QV c Q) E
/-- a comparison -/
def rB2 (c : Cf) (f : W → W → Store → Out Bool) : R2 := fun x y H Q => ∃ (Φ : Hp) (ι : List Addr) (S : Store) (w1 w2 : W) (E : XK), Rel c.K Φ ι S H ∧ RV c.K Φ ι w1 x ∧ RV c.K Φ ι w2 y ∧ After c Φ ι H (f w1 w2 S) (fun b _ _ _ H' => Q (.bl b) H') E
section
variable {X : Cx} {c : Cf}
theorem okS_append {a b : Str} (h1 : okS a) (h2 : okS b) (h : a.length + b.length ≤ line) : okS (a ++ b) := by
  refine ⟨?_, by rw [sizeLine_eq]; show (a.cps ++ b.cps).size ≤ _; rw [Array.size_append]; exact h⟩
  have e1 := h1.1
  have e2 := h2.1
  unfold PyData.strOk at e1 e2 ⊢
  show (a.cps ++ b.cps).all _ = true
  rw [Array.all_append, e1, e2]; rfl
theorem op_addX (hK : c.K = X.K) (fz : Bool) : OpR X (binaryOp .Add) (rW2 c (addW fz)) := by
  intro pins s σ H x y v u Q I rx ry h
  obtain ⟨Φ, ι, S, w1, w2, E, r, r1, r2, h⟩ := h
  unfold addW at h
  split at h
  · cases r1; cases r2
    exact op_add pins s σ H _ _ v u Q I rx ry ⟨_, _, rfl, rfl, same_ok r (.int _) h⟩
  · cases r1 with
    | str h1 =>
      cases r2 with
      | str h2 =>
        split at h
        · rename_i hz
          exact op_add_str pins s σ H _ _ v u Q I rx ry ⟨_, _, rfl, rfl, by rw [sizeLine_eq]; exact hz, same_ok r (.str (okS_append h1 h2 hz)) h⟩
        · exact h.elim
  · cases r1 with
    | tup s1 t1 =>
      cases r2 with
      | tup s2 t2 =>
        split at h
        · rename_i xs ys hz
          refine op_catA pins s σ H _ _ v u Q I rx ry ⟨_, _, _, _, rfl, rfl, hK ▸ SqT.mono r.sub s1, hK ▸ SqT.mono r.sub s2, by rw [← t1.length, ← t2.length, sizeLine_eq]; exact hz, fun e => ?_, fun e e2 => ?_, fun e e2 p hp => ?_⟩
          · subst e
            cases t1
            exact same_ok r (.tup s2 t2) h
          · subst e2
            cases t2
            rw [List.append_nil] at h
            exact same_ok r (.tup s1 t1) h
          · exact newT_ok r (t1.append t2) h p hp
        · exact h.elim
  · unfold addL at h
    split at h
    · rename_i xs ys e1 e2
      obtain ⟨a, vs, rfl, q1, t1⟩ := lstW_ok r r1 e1
      obtain ⟨b, us, rfl, q2, t2⟩ := lstW_ok r r2 e2
      obtain ⟨hz, k⟩ := newL_ok r (t1.append t2) h
      exact op_cat pins s σ H _ _ v u Q I rx ry ⟨_, _, _, _, rfl, rfl, q1, q2, by rw [← List.length_append]; exact hz, k⟩
    · exact h.elim
theorem okS_rep {a : Str} (h : okS a) : ∀ {k : Nat}, a.length * k ≤ line → okS (repS k a)
  | 0, _ => show okS ⟨#[]⟩ from ⟨by decide +kernel, Nat.zero_le _⟩
  | k + 1, hz => by
    have e : repS (k + 1) a = a ++ repS k a := by
      unfold repS
      rw [List.replicate_succ, List.flatten_cons]
      show (⟨_⟩ : Str) = ⟨a.cps ++ _⟩
      simp
    have hz2 : a.length * k ≤ line := Nat.le_trans (Nat.mul_le_mul_left _ (Nat.le_succ k)) hz
    have hl : (repS k a).length = a.length * k := by
      show (List.replicate k a.cps.toList).flatten.toArray.size = a.cps.size * k
      simp [Nat.mul_comm]
    rw [e]
    exact okS_append h (okS_rep h hz2) (by rw [hl]; rw [Nat.mul_succ] at hz; omega)
theorem foldl_repA (cs : Array Nat) : ∀ (k : Nat) (acc : Array Nat), (List.replicate k cs).foldl (· ++ ·) acc = acc ++ (List.replicate k cs.toList).flatten.toArray
  | 0, acc => by simp
  | k + 1, acc => by
    rw [List.replicate_succ, List.foldl_cons, foldl_repA cs k, List.replicate_succ, List.flatten_cons]
    apply Array.ext'
    simp
/-- a text k times -/
theorem op_repStr : OpR X (binaryOp .Mult) (fun x y H Q => ∃ a k, x = .str a ∧ y = .int k ∧ 0 ≤ k ∧ k < 2 ^ 62 ∧ a.length * k.toNat ≤ line ∧ Q (.str (repS k.toNat a)) H) := by
  intro pins s σ H x y v u Q I rx ry h
  obtain ⟨a, k, rfl, rfl, h0, h1, hz, q⟩ := h
  obtain ⟨t, rfl⟩ := rx
  obtain ⟨t', rfl⟩ := ry
  have hlong : Builtin.Str.tooLong (a.length * k.toNat) = false := by
    unfold Builtin.Str.tooLong
    have hz' : a.length * k.toNat ≤ 16777216 := hz
    have e : sizeLine = 16777216 := rfl
    rw [e]
    exact decide_eq_false (by omega)
  refine PySem.P.mul_str (by
      have h2 : ¬ k < -(2 ^ 63 : Int) := by omega
      have h3 : ¬ k ≥ 2 ^ 63 := by omega
      rw [decide_eq_false h2, decide_eq_false h3]; rfl) (fun h2 h3 => ?_) (fun _ _ => hlong) ?_
  · have hk : 1 ≤ k := by omega
    have : (a.length : Int) * k ≤ 16777216 := by
      have e : ((a.length * k.toNat : Nat) : Int) = (a.length : Int) * k := by
        rw [Int.natCast_mul, Int.toNat_of_nonneg h0]
      rw [← e]
      have hz' : a.length * k.toNat ≤ 16777216 := hz
      omega
    have h4 : (a.length : Int) ≤ (2 ^ 63 - 1) / k := by
      rw [Int.le_ediv_iff_mul_le (by omega)]
      omega
    omega
  · by_cases hk : k < 1
    · have e0 : k = 0 := by omega
      subst e0
      rw [if_pos hk]
      exact ⟨by decide, .str _, H, I.tok _, ⟨_, rfl⟩, q⟩
    · rw [if_neg hk]
      by_cases hb : (k == 1 || a.length == 0) = true
      · rw [if_pos hb]
        have e : repS k.toNat a = a := by
          rw [Bool.or_eq_true, beq_iff_eq, beq_iff_eq] at hb
          rcases hb with rfl | hb
          · show (⟨_⟩ : Str) = a
            simp
          · have e1 : a.cps = #[] := Array.eq_empty_of_size_eq_zero hb
            show (⟨_⟩ : Str) = a
            rw [e1]
            have e2 : (List.replicate k.toNat (#[] : Array Nat).toList).flatten = [] := by simp
            rw [e2]
            show (⟨_⟩ : Str) = ⟨a.cps⟩
            rw [e1]
        rw [e] at q
        exact ⟨.str _, H, I, ⟨_, rfl⟩, q⟩
      · rw [if_neg hb]
        have e : (⟨(List.replicate k.toNat a.cps).foldl (· ++ ·) #[]⟩ : Str) = repS k.toNat a := by
          rw [foldl_repA]
          unfold repS
          simp
        rw [e]
        have hl : (repS k.toNat a).length = a.length * k.toNat := by
          show (List.replicate k.toNat a.cps.toList).flatten.toArray.size = a.cps.size * k.toNat
          simp [Nat.mul_comm]
        exact ⟨by rw [hl]; exact hz, .str _, H, I.tok _, ⟨_, rfl⟩, q⟩
theorem op_mulX' (hK : c.K = X.K) (fz : Bool) : OpR X (binaryOp .Mult) (rW2 c (mulW fz)) := by
  intro pins s σ H x y v u Q I rx ry h
  obtain ⟨Φ, ι, S, w1, w2, E, r, r1, r2, h⟩ := h
  unfold mulW at h
  split at h
  · cases r1; cases r2
    split at h
    · rename_i hm
      exact op_mulW pins s σ H _ _ v u Q I rx ry ⟨_, _, rfl, rfl, hm, same_ok r (.int _) h⟩
    · exact h.elim
  · cases r1 with
    | str ha =>
      cases r2
      split at h
      · rename_i hm
        exact op_repStr pins s σ H _ _ v u Q I rx ry ⟨_, _, rfl, rfl, hm.1, hm.2.1, hm.2.2, same_ok r (.str (okS_rep ha hm.2.2)) h⟩
      · exact h.elim
  · cases r2
    split at h
    · rename_i xs e1
      obtain ⟨a, vs, rfl, q1, t1⟩ := lstW_ok r r1 e1
      split at h
      · rename_i hm
        have t2 : ∀ k : Nat, RVs c.K Φ ι (List.replicate k xs).flatten (List.replicate k vs).flatten := fun k => by
          induction k with
          | zero => exact .nil
          | succ k ih => rw [List.replicate_succ, List.replicate_succ, List.flatten_cons, List.flatten_cons]; exact t1.append ih
        obtain ⟨hz, k⟩ := newL_ok r (t2 _) h
        exact op_rep pins s σ H _ _ v u Q I rx ry ⟨_, _, _, rfl, rfl, q1, hm.1, hm.2.1, by rw [← t1.length, sizeLine_eq]; exact hm.2.2, k⟩
      · exact h.elim
    · exact h.elim
  · exact h.elim
theorem op_subX : OpR X (binaryOp .Sub) (rW2 c (binW true .Sub)) := by
  intro pins s σ H x y v u Q I rx ry h
  obtain ⟨Φ, ι, S, w1, w2, E, r, r1, r2, h⟩ := h
  simp only [binW] at h
  split at h
  · cases r1; cases r2
    exact op_sub pins s σ H _ _ v u Q I rx ry ⟨_, _, rfl, rfl, same_ok r (.int _) h⟩
  · exact h.elim
theorem op_fdivX : OpR X (binaryOp .FloorDiv) (rW2 c (binW true .FloorDiv)) := by
  intro pins s σ H x y v u Q I rx ry h
  obtain ⟨Φ, ι, S, w1, w2, E, r, r1, r2, h⟩ := h
  simp only [binW] at h
  split at h
  · cases r1; cases r2
    split at h
    · rename_i hd
      obtain ⟨t, rfl⟩ := rx
      obtain ⟨t', rfl⟩ := ry
      exact floordiv_int hd.1 ⟨.int _, H, I.tok _, ⟨_, rfl⟩, same_ok r (.int _) h⟩ (.inl (PyProof.noPylong_of_log2 hd.2))
    · exact h.elim
  · exact h.elim
theorem op_modX : OpR X (binaryOp .Mod) (rW2 c (binW true .Mod)) := by
  intro pins s σ H x y v u Q I rx ry h
  obtain ⟨Φ, ι, S, w1, w2, E, r, r1, r2, h⟩ := h
  simp only [binW] at h
  split at h
  · cases r1; cases r2
    split at h
    · rename_i hd
      exact op_modN pins s σ H _ _ v u Q I rx ry ⟨_, _, rfl, rfl, hd, same_ok r (.int _) h⟩
    · exact h.elim
  · exact h.elim
theorem op_powX : OpR X (binaryOp .Pow) (rW2 c (binW true .Pow)) := by
  intro pins s σ H x y v u Q I rx ry h
  obtain ⟨Φ, ι, S, w1, w2, E, r, r1, r2, h⟩ := h
  simp only [binW] at h
  split at h
  · cases r1; cases r2
    split at h
    · rename_i hd
      exact op_pow pins s σ H _ _ v u Q I rx ry ⟨_, _, rfl, rfl, hd, same_ok r (.int _) h⟩
    · exact h.elim
  · exact h.elim
theorem op_binX (hK : c.K = X.K) (fz : Bool) (op : Operator) : OpR X (binaryOp op) (rW2 c (binW fz op)) := by
  cases op with
  | Add => exact op_addX hK fz
  | Mult => exact op_mulX' hK fz
  | Sub => exact op_subX
  | FloorDiv => exact op_fdivX
  | Mod => exact op_modX
  | Pow => exact op_powX
  | _ =>
    intro pins s σ H x y v u Q I rx ry h
    obtain ⟨Φ, ι, S, w1, w2, E, r, r1, r2, h⟩ := h
    exact (show False from h).elim

/-! ### dicts -/
theorem dicW_ok {Φ H : Hp} {ι : List Addr} {S : Store} {w : W} {v : V} {kvs : List (Key × W)} (r : Rel c.K Φ ι S H) (rv : RV c.K Φ ι w v) (h : dicW S w = some kvs) : ∃ a us, v = .ref a ∧ H a = some (.dK us) ∧ RKV c.K Φ ι kvs us := by
  cases rv with
  | @loc l a e =>
    simp only [dicW] at h
    split at h
    · rename_i q
      cases h
      obtain ⟨_, us, q1, q2⟩ := r.live _ _ _ e q
      exact ⟨a, us, rfl, q1, q2⟩
    · cases h
  | _ => cases h
theorem keyW_ok {K : Frag} {Φ : Hp} {ι : List Addr} {w : W} {v : V} {k : Key} (rv : RV K Φ ι w v) (h : keyW w = some k) : v = kV k := by
  cases rv <;> first | (cases h; rfl) | cases h
theorem dget_ok {K : Frag} {Φ : Hp} {ι : List Addr} : ∀ {kvs : List (Key × W)} {us : List (Key × V)}, RKV K Φ ι kvs us → ∀ k, (dget k kvs = none ∧ valV us k = none) ∨ ∃ w v, dget k kvs = some w ∧ valV us k = some v ∧ RV K Φ ι w v
  | _, _, .nil, k => .inl ⟨rfl, rfl⟩
  | (a, w) :: r, (b, v) :: us, .cons h t, k => by
    obtain ⟨h1, h2⟩ := h
    simp only at h1 h2
    subst h1
    by_cases e : a = k
    · exact .inr ⟨w, v, by simp [dget, e], valV_pos e, h2⟩
    · rw [valV_neg e, show dget k ((a, w) :: r) = dget k r by simp [dget, e]]
      exact dget_ok t k
theorem dget_some {K : Frag} {Φ : Hp} {ι : List Addr} {kvs : List (Key × W)} {us : List (Key × V)} (h : RKV K Φ ι kvs us) (k : Key) : (dget k kvs).isSome = (valV us k).isSome := by
  rcases dget_ok h k with ⟨e1, e2⟩ | ⟨w, v, e1, e2, _⟩ <;> rw [e1, e2] <;> rfl
theorem rkv_any {K : Frag} {Φ : Hp} {ι : List Addr} {k : Key} : ∀ {kvs : List (Key × W)} {us : List (Key × V)}, RKV K Φ ι kvs us → (kvs.any fun p => decide (p.1 = k)) = us.any fun p => decide (p.1 = k)
  | _, _, .nil => rfl
  | _ :: _, _ :: _, .cons h t => by simp only [List.any_cons, h.1, rkv_any t]
theorem rkv_len {K : Frag} {Φ : Hp} {ι : List Addr} : ∀ {kvs : List (Key × W)} {us : List (Key × V)}, RKV K Φ ι kvs us → kvs.length = us.length
  | _, _, .nil => rfl
  | _ :: _, _ :: _, .cons h t => by simp [rkv_len t]
theorem rkv_app {K : Frag} {Φ : Hp} {ι : List Addr} {p : Key × W} {q : Key × V} (h : p.1 = q.1 ∧ RV K Φ ι p.2 q.2) : ∀ {kvs : List (Key × W)} {us : List (Key × V)}, RKV K Φ ι kvs us → RKV K Φ ι (kvs ++ [p]) (us ++ [q])
  | _, _, .nil => .cons h .nil
  | _ :: _, _ :: _, .cons h' t => .cons h' (rkv_app h t)
theorem rkv_map {K : Frag} {Φ : Hp} {ι : List Addr} {k : Key} {w : W} {v : V} (rv : RV K Φ ι w v) : ∀ {kvs : List (Key × W)} {us : List (Key × V)}, RKV K Φ ι kvs us → RKV K Φ ι (kvs.map fun p => if p.1 = k then (p.1, w) else p) (us.map fun p => if p.1 = k then (p.1, v) else p)
  | _, _, .nil => .nil
  | p :: _, q :: _, .cons h t => by
    refine .cons ?_ (rkv_map rv t)
    dsimp only
    by_cases e : p.1 = k
    · rw [if_pos e, if_pos (h.1 ▸ e)]; exact ⟨h.1, rv⟩
    · rw [if_neg e, if_neg (h.1 ▸ e)]; exact h
theorem dput_ok {K : Frag} {Φ : Hp} {ι : List Addr} {k : Key} {w : W} {v : V} (rv : RV K Φ ι w v) {kvs : List (Key × W)} {us : List (Key × V)} (h : RKV K Φ ι kvs us) : RKV K Φ ι (dput k w kvs) (putK us k v) := by
  unfold dput putK
  rw [rkv_any h]
  split
  · exact rkv_map rv h
  · exact rkv_app ⟨rfl, rv⟩ h
theorem dmerge_ok {K : Frag} {Φ : Hp} {ι : List Addr} : ∀ {more : List (Key × W)} {rs : List (Key × V)} {kvs : List (Key × W)} {us : List (Key × V)}, RKV K Φ ι more rs → RKV K Φ ι kvs us → RKV K Φ ι (dmerge kvs more) (mergeK us rs)
  | [], [], kvs, us, .nil, h => h
  | p :: more, q :: rs, kvs, us, .cons a t, h => by
    show RKV K Φ ι (dmerge (dput p.1 p.2 kvs) more) (mergeK (putK us q.1 q.2) rs)
    rw [a.1]
    exact dmerge_ok t (dput_ok a.2 h)
/-! ### equality -/
mutual
def dataW : W → PyData
  | .bl b => .bool b
  | .int i => .int i
  | .str x => .str x
  | .tup xs => .tuple (datasW xs)
  | .lst xs => .list (datasW xs)
  | _ => .none
def datasW : List W → List PyData
  | [] => []
  | x :: xs => dataW x :: datasW xs
end
mutual
/-- a value that is plain data -/
def W.pl : W → Bool
  | .non => true
  | .bl _ => true
  | .int _ => true
  | .str _ => true
  | .tup xs => W.pls xs
  | .lst xs => W.pls xs
  | _ => false
def W.pls : List W → Bool
  | [] => true
  | x :: xs => W.pl x && W.pls xs
end
mutual
theorem eqb_eqv : ∀ a b : W, a.pl = true → b.pl = true → PyData.eqv (dataW a) (dataW b) = W.eqb a b
  | .tup xs, .tup ys, h1, h2 => by simp only [dataW, PyData.eqv, W.eqb]; exact eqbs_eqv xs ys (by simpa [W.pl] using h1) (by simpa [W.pl] using h2)
  | .lst xs, .lst ys, h1, h2 => by simp only [dataW, PyData.eqv, W.eqb]; exact eqbs_eqv xs ys (by simpa [W.pl] using h1) (by simpa [W.pl] using h2)
  | .non, b, h1, h2 => by cases b <;> simp_all [dataW, PyData.eqv, W.eqb, W.pl]
  | .bl _, b, h1, h2 => by cases b <;> simp_all [dataW, PyData.eqv, W.eqb, W.pl]
  | .int _, b, h1, h2 => by cases b <;> simp_all [dataW, PyData.eqv, W.eqb, W.pl]
  | .str _, b, h1, h2 => by cases b <;> simp_all [dataW, PyData.eqv, W.eqb, W.pl]
  | .ty _, b, h1, h2 => by simp [W.pl] at h1
  | .loc _, b, h1, h2 => by simp [W.pl] at h1
  | .fn _, b, h1, h2 => by simp [W.pl] at h1
  | .scr _, b, h1, h2 => by simp [W.pl] at h1
  | .tup xs, .non, h1, h2 => by simp_all [dataW, PyData.eqv, W.eqb, W.pl]
  | .tup xs, .bl _, h1, h2 => by simp_all [dataW, PyData.eqv, W.eqb, W.pl]
  | .tup xs, .int _, h1, h2 => by simp_all [dataW, PyData.eqv, W.eqb, W.pl]
  | .tup xs, .str _, h1, h2 => by simp_all [dataW, PyData.eqv, W.eqb, W.pl]
  | .tup xs, .ty _, h1, h2 => by simp [W.pl] at h2
  | .tup xs, .loc _, h1, h2 => by simp [W.pl] at h2
  | .tup xs, .fn _, h1, h2 => by simp [W.pl] at h2
  | .tup xs, .scr _, h1, h2 => by simp [W.pl] at h2
  | .tup xs, .lst _, h1, h2 => by simp_all [dataW, PyData.eqv, W.eqb, W.pl]
  | .lst xs, .non, h1, h2 => by simp_all [dataW, PyData.eqv, W.eqb, W.pl]
  | .lst xs, .bl _, h1, h2 => by simp_all [dataW, PyData.eqv, W.eqb, W.pl]
  | .lst xs, .int _, h1, h2 => by simp_all [dataW, PyData.eqv, W.eqb, W.pl]
  | .lst xs, .str _, h1, h2 => by simp_all [dataW, PyData.eqv, W.eqb, W.pl]
  | .lst xs, .ty _, h1, h2 => by simp [W.pl] at h2
  | .lst xs, .loc _, h1, h2 => by simp [W.pl] at h2
  | .lst xs, .fn _, h1, h2 => by simp [W.pl] at h2
  | .lst xs, .scr _, h1, h2 => by simp [W.pl] at h2
  | .lst xs, .tup _, h1, h2 => by simp_all [dataW, PyData.eqv, W.eqb, W.pl]
theorem eqbs_eqv : ∀ a b : List W, W.pls a = true → W.pls b = true → PyData.eqvAll (datasW a) (datasW b) = W.eqbs a b
  | [], [], _, _ => by simp [datasW, PyData.eqvAll, W.eqbs]
  | [], _ :: _, _, _ => by simp [datasW, PyData.eqvAll, W.eqbs]
  | _ :: _, [], _, _ => by simp [datasW, PyData.eqvAll, W.eqbs]
  | x :: xs, y :: ys, h1, h2 => by
    rw [W.pls, Bool.and_eq_true] at h1 h2
    simp only [datasW, PyData.eqvAll, W.eqbs]
    rw [eqb_eqv x y h1.1 h2.1, eqbs_eqv xs ys h1.2 h2.2]
end
/-- what a resolved value is as data -/
structure Dok (K : Frag) (H : Hp) (n : Nat) (w : W) (v : V) : Prop where
  dp : Dp K H v (dataW w)
  can : (dataW w).canLay0 = true
  dep : (dataW w).depth ≤ n
  pl : w.pl = true
structure Doks (K : Frag) (H : Hp) (n : Nat) (w : List W) (v : List V) : Prop where
  dp : DpAll K H v (datasW w)
  can : PyData.canLayAll0 (datasW w) = true
  dep : PyData.depthAll (datasW w) ≤ n
  pl : W.pls w = true
theorem doks_of {K : Frag} {H : Hp} {Φ : Hp} {ι : List Addr} {S : Store} {n : Nat} (ih : ∀ (w w' : W) (v : V), RV K Φ ι w v → resW S n w = some w' → Dok K H n w' v) :
    ∀ {xs ys : List W} {vs : List V}, RVs K Φ ι xs vs → xs.mapM (resW S n) = some ys → Doks K H n ys vs
  | [], ys, _, .nil, e => by
    simp at e; subst e
    exact ⟨.nil, by simp [datasW, PyData.canLayAll0], by simp [datasW, PyData.depthAll], by simp [W.pls]⟩
  | x :: xs, ys, _, .cons r t, e => by
    rw [List.mapM_cons] at e
    simp only [Option.bind_eq_bind, Option.bind_eq_some_iff, Option.pure_def, Option.some.injEq] at e
    obtain ⟨y, e1, zs, e2, rfl⟩ := e
    have a := ih _ _ _ r e1
    have b := doks_of ih t e2
    exact ⟨.cons a.dp b.dp, by simp [datasW, PyData.canLayAll0, a.can, b.can], by simp only [datasW, PyData.depthAll]; exact Nat.max_le.mpr ⟨a.dep, b.dep⟩, by simp [W.pls, a.pl, b.pl]⟩
theorem dok_of {K : Frag} {H : Hp} {Φ : Hp} {ι : List Addr} {S : Store} (R : Rel K Φ ι S H) : ∀ (n : Nat) (w w' : W) (v : V), RV K Φ ι w v → resW S n w = some w' → Dok K H n w' v := by
  intro n
  induction n with
  | zero =>
    intro w w' v r e
    cases r with
    | non => simp [resW] at e; subst e; exact ⟨.non, by simp [dataW, PyData.canLay0], by simp [dataW, PyData.depth], by simp [W.pl]⟩
    | bl b => simp [resW] at e; subst e; exact ⟨.bl b, by simp [dataW, PyData.canLay0], by simp [dataW, PyData.depth], by simp [W.pl]⟩
    | int b => simp [resW] at e; subst e; exact ⟨.int b, by simp [dataW, PyData.canLay0], by simp [dataW, PyData.depth], by simp [W.pl]⟩
    | str b => simp [resW] at e; subst e; exact ⟨.str _, by simp [dataW, PyData.canLay0, b.1], by simp [dataW, PyData.depth], by simp [W.pl]⟩
    | _ => simp [resW] at e
  | succ n ih =>
    intro w w' v r e
    cases r with
    | non => simp [resW] at e; subst e; exact ⟨.non, by simp [dataW, PyData.canLay0], by simp [dataW, PyData.depth], by simp [W.pl]⟩
    | bl b => simp [resW] at e; subst e; exact ⟨.bl b, by simp [dataW, PyData.canLay0], by simp [dataW, PyData.depth], by simp [W.pl]⟩
    | int b => simp [resW] at e; subst e; exact ⟨.int b, by simp [dataW, PyData.canLay0], by simp [dataW, PyData.depth], by simp [W.pl]⟩
    | str b => simp [resW] at e; subst e; exact ⟨.str _, by simp [dataW, PyData.canLay0, b.1], by simp [dataW, PyData.depth], by simp [W.pl]⟩
    | tup s t =>
      simp only [resW, Option.map_eq_some_iff] at e
      obtain ⟨ys, e1, rfl⟩ := e
      have a := doks_of (H := H) ih t e1
      exact ⟨by rw [dataW]; exact .tup (SqT.mono R.sub s) a.dp, by rw [dataW, PyData.canLay0]; exact a.can, by rw [dataW, PyData.depth]; exact Nat.succ_le_succ a.dep, by rw [W.pl]; exact a.pl⟩
    | lst s t =>
      simp only [resW, Option.map_eq_some_iff] at e
      obtain ⟨ys, e1, rfl⟩ := e
      have a := doks_of (H := H) ih t e1
      exact ⟨by rw [dataW]; exact .lst (SqL.of (R.sub _ _ s)) a.dp, by rw [dataW, PyData.canLay0]; exact a.can, by rw [dataW, PyData.depth]; exact Nat.succ_le_succ a.dep, by rw [W.pl]; exact a.pl⟩
    | @loc l a hl =>
      simp only [resW] at e
      split at e
      · rename_i xs q
        simp only [Option.map_eq_some_iff] at e
        obtain ⟨ys, e1, rfl⟩ := e
        obtain ⟨_, vs, q1, t⟩ := R.live _ _ _ hl q
        have a := doks_of (H := H) ih t e1
        exact ⟨by rw [dataW]; exact .lst (SqL.of q1) a.dp, by rw [dataW, PyData.canLay0]; exact a.can, by rw [dataW, PyData.depth]; exact Nat.succ_le_succ a.dep, by rw [W.pl]; exact a.pl⟩
      · cases e
    | _ => simp [resW] at e
theorem Dok.shaped {K : Frag} {H : Hp} {w : W} {v : V} (d : Dok K H 60 w v) : SeqAt.shaped (dataW w) = true := by
  unfold SeqAt.shaped
  rw [d.can, Bool.true_and]
  exact decide_eq_true (Nat.le_trans d.dep (by decide))
/-- what == tells, as data -/
theorem eqW_ok {Φ H : Hp} {ι : List Addr} {S : Store} {w1 w2 : W} {x y : V} {b : Bool} (R : Rel c.K Φ ι S H) (r1 : RV c.K Φ ι w1 x) (r2 : RV c.K Φ ι w2 y) (h : eqW S w1 w2 = some b) :
    (∃ d e, Dp c.K H x d ∧ Dp c.K H y e ∧ SeqAt.shaped d = true ∧ SeqAt.shaped e = true ∧ PyData.eqv d e = b) ∨ ∃ p q, dicW S w1 = some p ∧ dicW S w2 = some q ∧ eqD S p q = some b := by
  have gen : ∀ (a1 a2 : W), resW S 60 w1 = some a1 → resW S 60 w2 = some a2 → W.eqb a1 a2 = b → (∃ d e, Dp c.K H x d ∧ Dp c.K H y e ∧ SeqAt.shaped d = true ∧ SeqAt.shaped e = true ∧ PyData.eqv d e = b) ∨ ∃ p q, dicW S w1 = some p ∧ dicW S w2 = some q ∧ eqD S p q = some b := fun a1 a2 e1 e2 e3 => by
    have d1 := dok_of R 60 _ _ _ r1 e1
    have d2 := dok_of R 60 _ _ _ r2 e2
    exact .inl ⟨_, _, d1.dp, d2.dp, d1.shaped, d2.shaped, by rw [eqb_eqv _ _ d1.pl d2.pl]; exact e3⟩
  unfold eqW at h
  split at h
  · exact gen _ _ rfl rfl (by rw [← Option.some.inj h]; simp [W.eqb, Bool.beq_eq_decide_eq])
  · exact gen _ _ rfl rfl (by rw [← Option.some.inj h]; simp [W.eqb, Bool.beq_eq_decide_eq])
  · exact gen _ _ rfl rfl (by rw [← Option.some.inj h]; simp [W.eqb])
  · exact gen _ _ rfl rfl (by rw [← Option.some.inj h]; simp [W.eqb])
  · exact gen _ _ rfl rfl (by rw [← Option.some.inj h]; simp [W.eqb])
  · exact gen _ _ rfl rfl (by rw [← Option.some.inj h]; simp [W.eqb])
  · exact gen _ _ rfl rfl (by rw [← Option.some.inj h]; simp [W.eqb])
  · exact gen _ _ rfl rfl (by rw [← Option.some.inj h]; simp [W.eqb])
  · exact gen _ _ rfl rfl (by rw [← Option.some.inj h]; simp [W.eqb])
  · split at h
    · rename_i p q e1 e2
      exact .inr ⟨p, q, e1, e2, h⟩
    · split at h
      · rename_i a1 a2 e1 e2
        exact gen _ _ e1 e2 (Option.some.inj h)
      · cases h
/-! dicts compared -/
theorem resD_get {S : Store} : ∀ {kvs zs : List (Key × W)}, resD S kvs = some zs → zs.length = kvs.length ∧ ∀ k, (dget k kvs = none ∧ dget k zs = none) ∨ ∃ w v, dget k kvs = some w ∧ dget k zs = some v ∧ resW S 60 w = some v
  | [], zs, h => by cases h; exact ⟨rfl, fun k => .inl ⟨rfl, rfl⟩⟩
  | (a, w) :: r, zs, h => by
    unfold resD at h
    split at h
    · rename_i v q e1 e2
      cases h
      obtain ⟨h1, h2⟩ := resD_get e2
      refine ⟨by simp [h1], fun k => ?_⟩
      by_cases hk : a = k
      · exact .inr ⟨w, v, by simp [dget, hk], by simp [dget, hk], e1⟩
      · simp only [dget, if_neg hk]; exact h2 k
    · cases h
theorem hits_of {A : Around} {s : Shared} {pins : List (Addr × Obj)} {σ : L2.St} {Φ H : Hp} {ι : List Addr} {S : Store} (hK : c.K = X.K) (I : Inv X pins σ H s) (R : Rel c.K Φ ι S H) (hu : A.in1.units + 64 < cLine) {k2 z2 : List (Key × W)} {u2 : List (Key × V)} {vb : List (Key × Value)} (g2 : RKV c.K Φ ι k2 u2) (rb : KV u2 vb) (h2 : resD S k2 = some z2) :
    ∀ {k1 z1 : List (Key × W)} {u1 : List (Key × V)} {va : List (Key × Value)}, RKV c.K Φ ι k1 u1 → KV u1 va → resD S k1 = some z1 → PySem.W.KeqHits A.in1 s vb va (z1.all fun p => match dget p.1 z2 with | some v => W.eqb p.2 v | none => false)
  | [], z1, _, _, .nil, .nil, h1 => by cases h1; exact .nil
  | (a, w) :: r, z1, (a', x) :: us, (a2, v) :: vs, .cons p t, .cons q t', h1 => by
    obtain ⟨p1, p2⟩ := p
    obtain ⟨q1, q2⟩ := q
    simp only at p1 p2 q1 q2
    subst p1
    subst q1
    unfold resD at h1
    split at h1
    · rename_i w' z' e1 e2
      cases h1
      rw [List.all_cons]
      have ih := hits_of hK I R hu g2 rb h2 t t' e2
      have rr : RelO (valV u2 a) (valueAt vb a) := rb.val a
      rcases dget_ok g2 a with ⟨z3, z4⟩ | ⟨y, yv, z3, z4, ry⟩
      · rw [z4] at rr
        have hn : valueAt vb a = none := by
          cases hv : valueAt vb a with
          | none => rfl
          | some u => rw [hv] at rr; exact rr.elim
        have hz : dget a z2 = none := by
          rcases (resD_get h2).2 a with ⟨_, e⟩ | ⟨y', _, e, _⟩
          · exact e
          · rw [z3] at e; cases e
        simp only [hz, Bool.false_and]
        exact .miss hn
      · rw [z4] at rr
        obtain ⟨u, hu2, ru⟩ := rr.some_of
        obtain ⟨y', hz, hres⟩ : ∃ y', dget a z2 = some y' ∧ resW S 60 y = some y' := by
          rcases (resD_get h2).2 a with ⟨e, _⟩ | ⟨y2, y', e, e', e2⟩
          · rw [z3] at e; cases e
          · rw [z3] at e; cases e; exact ⟨y', e', e2⟩
        simp only [hz]
        have d1 := dok_of R 60 _ _ _ p2 e1
        have d2 := dok_of R 60 _ _ _ ry hres
        obtain ⟨as, r1⟩ := Dp.reads I _ _ _ (hK ▸ d1.dp) q2
        obtain ⟨bs, r2⟩ := Dp.reads I _ _ _ (hK ▸ d2.dp) ru
        rw [← eqb_eqv _ _ d1.pl d2.pl]
        exact .hit hu2 (PySem.W.keq_at r1 r2 d1.shaped d2.shaped hu) ih
    · cases h1
theorem rkv_kv_len {K : Frag} {Φ : Hp} {ι : List Addr} {k1 : List (Key × W)} {u1 : List (Key × V)} {va : List (Key × Value)} (g : RKV K Φ ι k1 u1) (r : KV u1 va) : va.length = k1.length := by rw [rkv_len g]; exact r.length.symm
theorem eqD_eq {Φ H : Hp} {ι : List Addr} {S : Store} {w1 w2 : W} {x y : V} {b : Bool} {p q : List (Key × W)} {pins : List (Addr × Obj)} {s : Shared} {σ : L2.St} {v u : Value} {Q : VK} (hK : c.K = X.K) (hu : X.A.units + 65 < cLine) (I : Inv X pins σ H s) (rx : RelV x v) (ry : RelV y u) (R : Rel c.K Φ ι S H) (r1 : RV c.K Φ ι w1 x) (r2 : RV c.K Φ ι w2 y)
    (e1 : dicW S w1 = some p) (e2 : dicW S w2 = some q) (h : eqD S p q = some b) : (Q (.bl b) H → wpAny (model X.prog X.w) X.A (compareOp .Eq v u) (EP X pins σ Q) X.xe s) ∧ (Q (.bl (!b)) H → wpAny (model X.prog X.w) X.A (compareOp .NotEq v u) (EP X pins σ Q) X.xe s) := by
  obtain ⟨a, us, rfl, ea, g1⟩ := dicW_ok R r1 e1
  obtain ⟨a2, us2, rfl, eb, g2⟩ := dicW_ok R r2 e2
  obtain rfl : v = Value.ref a := rx
  obtain rfl : u = Value.ref a2 := ry
  obtain ⟨_, ya, va, ra, da⟩ := (show ObjOk X.prog X.w H s.heap a (.dK us) from I.hok a _ ea)
  obtain ⟨_, yb, vb, rb, db⟩ := (show ObjOk X.prog X.w H s.heap a2 (.dK us2) from I.hok a2 _ eb)
  unfold eqD at h
  split at h
  · rename_i z1 z2 h1 h2
    cases h
    have hin : X.A.in1.units + 64 < cLine := by show X.A.units + 1 + 64 < cLine; omega
    have hh := hits_of (A := X.A) hK I R hin g2 rb h2 g1 ra h1
    have l1 : va.length = z1.length := by rw [rkv_kv_len g1 ra, (resD_get h1).1]
    have l2 : vb.length = z2.length := by rw [rkv_kv_len g2 rb, (resD_get h2).1]
    have hu' : X.A.units < cLine := by omega
    refine ⟨fun hq => ?_, fun hq => ?_⟩
    · exact PySem.W.keq_eq (knd := mixKind X.prog X.w) ya yb da db hu' (fun _ => hh) (fin_bl I hq (by rw [l1, l2]; rfl))
    · exact PySem.W.keq_ne (knd := mixKind X.prog X.w) ya yb da db hu' (fun _ => hh) (fin_bl I hq (by rw [l1, l2]; rfl))
  · cases h
theorem one_sign {x : Str} {ch : Nat} (h : x.cps.toList = [ch]) : x = ⟨#[ch]⟩ := by
  obtain ⟨c⟩ := x
  have : c = #[ch] := by rw [← Array.toArray_toList (xs := c), show c.toList = [ch] from h]
  rw [this]
theorem flat_ok {Φ : Hp} {ι : List Addr} {w : W} {v : V} (r : RV c.K Φ ι w v) (h : flatW w = true) : flatV v = true := by
  cases r <;> first | rfl | cases h
theorem eqF_ok {Φ : Hp} {ι : List Addr} {a b : W} {u v : V} (ra : RV c.K Φ ι a u) (rb : RV c.K Φ ι b v) (ha : flatW a = true) (hb : flatW b = true) : eqV u v = eqF a b := by
  cases ra <;> (first | (exact absurd ha Bool.false_ne_true) | skip) <;> cases rb <;> first | (exact absurd hb Bool.false_ne_true) | rfl
theorem inF_ok {Φ : Hp} {ι : List Addr} {x : W} {v : V} (rx : RV c.K Φ ι x v) (hx : flatW x = true) : ∀ {ys : List W} {vs : List V}, RVs c.K Φ ι ys vs → ys.all flatW = true → vs.all flatV = true ∧ inV v vs = ys.any fun z => eqF z x
  | [], _, r, _ => by cases r; exact ⟨rfl, rfl⟩
  | y :: ys, _, r, h => by
    cases r with
    | cons r1 r2 =>
      simp only [List.all_cons, Bool.and_eq_true] at h
      obtain ⟨h1, h2⟩ := inF_ok rx hx r2 h.2
      refine ⟨by simp only [List.all_cons, flat_ok r1 h.1, h1, Bool.and_true], ?_⟩
      unfold inV at h2 ⊢
      simp only [List.any_cons, eqF_ok r1 rx h.1 hx, h2]
theorem any_eqv {a : W} (ha : a.pl = true) : ∀ {zs : List W}, W.pls zs = true → ((datasW zs).any fun z => PyData.eqv z (dataW a)) = zs.any fun z => W.eqb z a
  | [], _ => rfl
  | z :: zs, h => by
    rw [W.pls, Bool.and_eq_true] at h
    simp only [datasW, List.any_cons, any_eqv ha h.2, eqb_eqv z a h.1 ha]
theorem op_cmpX (hK : c.K = X.K) (hu : X.A.units + 65 < cLine) (op : CmpOp) : OpR X (compareOp op) (rB2 c (cmpW op)) := by
  intro pins s σ H x y v u Q I rx ry h
  obtain ⟨Φ, ι, S, w1, w2, E, r, r1, r2, h⟩ := h
  cases op with
  | In =>
    simp only [cmpW] at h
    split at h
    · rename_i b e
      unfold inO at e
      split at e
      · cases r2
        split at e
        · cases r1
          split at e
          · rename_i ch ec
            cases e
            exact op_in_sign pins s σ H _ _ v u Q I rx ry ⟨ch, _, by rw [one_sign ec], rfl, h.here r⟩
          · cases e
        · cases e
      · split at e
        · split at e
          · rename_i kvs k ek ey
            cases e
            obtain ⟨a, us, rfl, q, g⟩ := dicW_ok r r2 ek
            have g2 := dget_ok g k
            cases (show u = Value.ref a from ry)
            have hk := keyW_ok r1 ey
            subst hk
            exact d_in (Nat.lt_of_le_of_lt (Nat.add_le_add_left (by decide) _) hu) I (DGet.k q) rx fun s' I' => ⟨.bl ((valV us k).isSome), H, I', rfl, by rw [← dget_some g k]; exact h.here r⟩
          · cases e
        · rename_i ys eq
          split at e
          · rename_i hf
            rw [Bool.and_eq_true] at hf
            cases e
            obtain ⟨a, vs, rfl, q, t⟩ := seqW_ok r r2 eq
            obtain ⟨f1, f2⟩ := inF_ok r1 hf.1 t hf.2
            exact op_in_seq pins s σ H _ _ v u Q I rx ry ⟨a, vs, rfl, hK ▸ q, flat_ok r1 hf.1, f1, by rw [if_neg Bool.false_ne_true, f2]; exact h.here r⟩
          · split at e
            · rename_i a zs ea ez
              cases e
              have d1 := dok_of r 60 _ _ _ r1 ea
              have d2 := dok_of r 60 _ _ _ r2 ez
              have hp : W.pls zs = true := by simpa [W.pl] using d2.pl
              exact op_inD hu pins s σ H _ _ v u Q I rx ry ⟨dataW a, datasW zs, hK ▸ d1.dp, hK ▸ (by simpa only [dataW] using d2.dp), d1.shaped, by simpa only [dataW] using d2.shaped, by rw [any_eqv d1.pl hp]; exact h.here r⟩
            · cases e
    · exact h.elim
  | NotIn =>
    simp only [cmpW] at h
    split at h
    · rename_i b e
      unfold inO at e
      split at e
      · cases r2
        split at e
        · cases r1
          split at e
          · rename_i ch ec
            cases e
            exact op_notIn_sign pins s σ H _ _ v u Q I rx ry ⟨ch, _, by rw [one_sign ec], rfl, h.here r⟩
          · cases e
        · cases e
      · split at e
        · split at e
          · rename_i kvs k ek ey
            cases e
            obtain ⟨a, us, rfl, q, g⟩ := dicW_ok r r2 ek
            have g2 := dget_ok g k
            cases (show u = Value.ref a from ry)
            have hk := keyW_ok r1 ey
            subst hk
            exact d_notIn (Nat.lt_of_le_of_lt (Nat.add_le_add_left (by decide) _) hu) I (DGet.k q) rx fun s' I' => ⟨.bl (!(valV us k).isSome), H, I', rfl, by rw [← dget_some g k]; exact h.here r⟩
          · cases e
        · rename_i ys eq
          split at e
          · rename_i hf
            rw [Bool.and_eq_true] at hf
            cases e
            obtain ⟨a, vs, rfl, q, t⟩ := seqW_ok r r2 eq
            obtain ⟨f1, f2⟩ := inF_ok r1 hf.1 t hf.2
            exact op_notIn_seq pins s σ H _ _ v u Q I rx ry ⟨a, vs, rfl, hK ▸ q, flat_ok r1 hf.1, f1, by rw [if_pos rfl, f2]; exact h.here r⟩
          · split at e
            · rename_i a zs ea ez
              cases e
              have d1 := dok_of r 60 _ _ _ r1 ea
              have d2 := dok_of r 60 _ _ _ r2 ez
              have hp : W.pls zs = true := by simpa [W.pl] using d2.pl
              exact op_notInD hu pins s σ H _ _ v u Q I rx ry ⟨dataW a, datasW zs, hK ▸ d1.dp, hK ▸ (by simpa only [dataW] using d2.dp), d1.shaped, by simpa only [dataW] using d2.shaped, by rw [any_eqv d1.pl hp]; exact h.here r⟩
            · cases e
    · exact h.elim
  | Eq =>
    simp only [cmpW] at h
    split at h
    · rename_i b e
      rcases eqW_ok r r1 r2 e with ⟨d1, d2, p1, p2, s1, s2, e⟩ | ⟨p, q, e1, e2, e3⟩
      case inr => exact (eqD_eq hK hu I rx ry r r1 r2 e1 e2 e3).1 (h.here r)
      exact op_eqD (Nat.lt_of_succ_lt hu) pins s σ H _ _ v u Q I rx ry ⟨d1, d2, hK ▸ p1, hK ▸ p2, s1, s2, by rw [e]; exact h.here r⟩
    · exact h.elim
  | NotEq =>
    simp only [cmpW] at h
    split at h
    · rename_i b e
      rcases eqW_ok r r1 r2 e with ⟨d1, d2, p1, p2, s1, s2, e⟩ | ⟨p, q, e1, e2, e3⟩
      case inr => exact (eqD_eq hK hu I rx ry r r1 r2 e1 e2 e3).2 (h.here r)
      exact op_neD (Nat.lt_of_succ_lt hu) pins s σ H _ _ v u Q I rx ry ⟨d1, d2, hK ▸ p1, hK ▸ p2, s1, s2, by rw [e]; exact h.here r⟩
    · exact h.elim
  | Lt =>
    simp only [cmpW] at h
    split at h
    · cases r1; cases r2
      exact op_lt pins s σ H _ _ v u Q I rx ry ⟨_, _, rfl, rfl, h.here r⟩
    · cases r1; cases r2
      exact op_lt_str pins s σ H _ _ v u Q I rx ry ⟨_, _, rfl, rfl, h.here r⟩
    · exact h.elim
  | LtE =>
    simp only [cmpW] at h
    split at h
    · cases r1; cases r2
      exact op_le pins s σ H _ _ v u Q I rx ry ⟨_, _, rfl, rfl, h.here r⟩
    · cases r1; cases r2
      exact op_le_str pins s σ H _ _ v u Q I rx ry ⟨_, _, rfl, rfl, h.here r⟩
    · exact h.elim
  | Gt =>
    simp only [cmpW] at h
    split at h
    · cases r1; cases r2
      exact op_gt pins s σ H _ _ v u Q I rx ry ⟨_, _, rfl, rfl, h.here r⟩
    · exact h.elim
  | GtE =>
    simp only [cmpW] at h
    split at h
    · cases r1; cases r2
      exact op_ge pins s σ H _ _ v u Q I rx ry ⟨_, _, rfl, rfl, h.here r⟩
    · exact h.elim
  | Is =>
    simp only [cmpW] at h
    split at h
    · cases r2
      refine op_isN pins s σ H _ _ v u Q I rx ry ⟨rfl, ?_⟩
      split at h
      · cases r1; exact h.here r
      · rename_i hn
        cases r1 <;> first | exact absurd rfl hn | exact h.here r
    · exact h.elim
  | IsNot =>
    simp only [cmpW] at h
    split at h
    · cases r2
      refine op_notN pins s σ H _ _ v u Q I rx ry ⟨rfl, ?_⟩
      split at h
      · cases r1; exact h.here r
      · rename_i hn
        cases r1 <;> first | exact absurd rfl hn | exact h.here r
    · exact h.elim
end
end Gs
end

section
set_option linter.all false
set_option maxRecDepth 100000
/-! GLex: lists of whole numbers by their order; sorting. -/
namespace Gs
theorem lexI_irr : ∀ a : List Int, lexI a a = false
  | [] => rfl
  | a :: r => by simp [lexI, lexI_irr r]
theorem lexI_as : ∀ a b : List Int, lexI a b = true → lexI b a = false
  | [], [], h => by cases h
  | [], _ :: _, _ => rfl
  | _ :: _, [], h => by cases h
  | a :: r, b :: s, h => by
    simp only [lexI] at h ⊢
    by_cases e : a = b
    · subst e
      simp only [if_true] at h ⊢
      exact lexI_as r s h
    · rw [if_neg e] at h
      rw [if_neg (Ne.symm e)]
      simp at h ⊢
      omega
theorem lexI_eq : ∀ a b : List Int, lexI a b = false → lexI b a = false → a = b
  | [], [], _, _ => rfl
  | [], _ :: _, h, _ => by cases h
  | _ :: _, [], _, h => by cases h
  | a :: r, b :: s, h, h' => by
    simp only [lexI] at h h'
    by_cases e : a = b
    · subst e
      simp only [if_true] at h h'
      rw [lexI_eq r s h h']
    · rw [if_neg e] at h
      rw [if_neg (Ne.symm e)] at h'
      simp at h h'
      omega
theorem lexI_tr : ∀ x y z : List Int, lexI y x = false → lexI z y = false → lexI z x = false
  | x, y, [], h1, h2 => by
    cases y with
    | nil => exact h1
    | cons => cases h2
  | [], [], _ :: _, h1, h2 => rfl
  | [], _ :: _, _ :: _, h1, h2 => rfl
  | _ :: _, [], _ :: _, h1, h2 => by cases h1
  | a :: x, b :: y, c :: z, h1, h2 => by
    simp only [lexI] at h1 h2 ⊢
    by_cases e1 : b = a
    · subst e1
      simp only [if_true] at h1
      by_cases e2 : c = b
      · subst e2
        simp only [if_true] at h2 ⊢
        exact lexI_tr x y z h1 h2
      · rw [if_neg e2] at h2 ⊢
        exact h2
    · rw [if_neg e1] at h1
      simp at h1
      by_cases e2 : c = b
      · subst e2
        rw [if_neg e1]
        simp; omega
      · rw [if_neg e2] at h2
        simp at h2
        rw [if_neg (by omega)]
        simp; omega
theorem insT_perm (x : List Int) : ∀ l : List (List Int), (insT x l).Perm (x :: l)
  | [] => .refl _
  | y :: r => by
    unfold insT
    split
    · exact ((insT_perm x r).cons y).trans (List.Perm.swap x y r)
    · exact .refl _
theorem sortT_perm : ∀ l : List (List Int), (sortT l).Perm l
  | [] => .refl _
  | x :: r => by
    unfold sortT
    exact (insT_perm x _).trans ((sortT_perm r).cons x)
theorem insT_sorted (x : List Int) : ∀ l : List (List Int), l.Pairwise (fun a b => lexI b a = false) → (insT x l).Pairwise (fun a b => lexI b a = false)
  | [], _ => by simp [insT]
  | y :: r, h => by
    rw [List.pairwise_cons] at h
    unfold insT
    split
    · rename_i hx
      rw [List.pairwise_cons]
      refine ⟨fun z hz => ?_, insT_sorted x r h.2⟩
      rcases List.mem_cons.mp ((insT_perm x r).mem_iff.mp hz) with rfl | hz
      · exact lexI_as _ _ hx
      · exact h.1 z hz
    · rename_i hx
      have hx : lexI y x = false := by simpa using hx
      rw [List.pairwise_cons]
      refine ⟨fun z hz => ?_, List.pairwise_cons.mpr h⟩
      rcases List.mem_cons.mp hz with rfl | hz
      · exact hx
      · exact lexI_tr _ _ _ hx (h.1 z hz)
theorem sortT_sorted : ∀ l : List (List Int), (sortT l).Pairwise (fun a b => lexI b a = false)
  | [] => List.Pairwise.nil
  | x :: r => insT_sorted x _ (sortT_sorted r)
theorem sortT_uniq : ∀ {l m : List (List Int)}, l.Perm m → l.Pairwise (fun a b => lexI b a = false) → m.Pairwise (fun a b => lexI b a = false) → l = m
  | [], m, p, _, _ => by rw [List.Perm.eq_nil p.symm]
  | x :: l, m, p, h1, h2 => by
    cases m with
    | nil => exact absurd p.length_eq (by simp)
    | cons y m =>
      rw [List.pairwise_cons] at h1 h2
      have hx : x ∈ y :: m := p.mem_iff.mp List.mem_cons_self
      have hy : y ∈ x :: l := p.mem_iff.mpr List.mem_cons_self
      have e : x = y := by
        rcases List.mem_cons.mp hx with e | hx
        · exact e
        · rcases List.mem_cons.mp hy with e | hy
          · exact e.symm
          · exact lexI_eq _ _ (h2.1 x hx) (h1.1 y hy)
      subst e
      rw [sortT_uniq (List.Perm.cons_inv p) h1.2 h2.2]
theorem lexI_trans (a b c : List Int) (h1 : lexI a b = true) (h2 : lexI b c = true) : lexI a c = true := by
  cases h : lexI a c with
  | true => rfl
  | false =>
    have h3 := lexI_tr c a b h (lexI_as _ _ h1)
    rw [h2] at h3
    cases h3
/-- rising, none twice -/
abbrev Ris (l : List (List Int)) : Prop := l.Pairwise (fun a b => lexI a b = true)
theorem ris_uniq : ∀ {l m : List (List Int)}, Ris l → Ris m → (∀ x, x ∈ l ↔ x ∈ m) → l = m
  | [], [], _, _, _ => rfl
  | [], y :: m, _, _, h => by have := (h y).2 (by simp); simp at this
  | x :: l, [], _, _, h => by have := (h x).1 (by simp); simp at this
  | x :: l, y :: m, h1, h2, h => by
    rw [Ris, List.pairwise_cons] at h1 h2
    have e : x = y := by
      rcases List.mem_cons.1 ((h x).1 (by simp)) with e | hx
      · exact e
      · rcases List.mem_cons.1 ((h y).2 (by simp)) with e | hy
        · exact e.symm
        · have a := h1.1 y hy
          have b := h2.1 x hx
          rw [lexI_as _ _ a] at b
          cases b
    subst e
    rw [ris_uniq h1.2 h2.2 fun z => ?_]
    constructor
    · intro hz
      rcases List.mem_cons.1 ((h z).1 (by simp [hz])) with e | hz'
      · subst e
        have := h1.1 z hz
        rw [lexI_irr] at this
        cases this
      · exact hz'
    · intro hz
      rcases List.mem_cons.1 ((h z).2 (by simp [hz])) with e | hz'
      · subst e
        have := h2.1 z hz
        rw [lexI_irr] at this
        cases this
      · exact hz'
theorem ris_nodup {l : List (List Int)} (h : Ris l) : l.Nodup := by
  refine List.Pairwise.imp (fun {a b} h e => ?_) h
  subst e
  rw [lexI_irr] at h
  cases h
theorem sortT_ris {l : List (List Int)} (h : l.Nodup) : Ris (sortT l) := by
  have n : (sortT l).Nodup := (sortT_perm l).nodup_iff.2 h
  have s := sortT_sorted l
  refine (List.pairwise_and_iff.2 ⟨s, n⟩).imp fun {a b} h => ?_
  cases e : lexI a b with
  | true => rfl
  | false => exact (h.2 (lexI_eq _ _ e h.1)).elim
/-- what is sorted is the one rising list of the same items -/
theorem sortT_eq {l m : List (List Int)} (hl : l.Nodup) (hm : Ris m) (h : ∀ x, x ∈ l ↔ x ∈ m) : sortT l = m :=
  ris_uniq (sortT_ris hl) hm fun x => ((sortT_perm l).mem_iff).trans (h x)
theorem lexI_app : ∀ (a b x y : List Int), a.length = b.length → lexI a b = true → lexI (a ++ x) (b ++ y) = true
  | [], [], _, _, _, h => by cases h
  | [], _ :: _, _, _, h, _ => by simp at h
  | _ :: _, [], _, _, h, _ => by simp at h
  | a :: r, b :: s, x, y, hl, h => by
    simp only [lexI, List.cons_append] at h ⊢
    by_cases e : a = b
    · rw [if_pos e] at h ⊢
      exact lexI_app r s x y (by simpa using hl) h
    · rw [if_neg e] at h ⊢
      exact h
theorem lexI_same : ∀ (a x y : List Int), lexI (a ++ x) (a ++ y) = lexI x y
  | [], x, y => rfl
  | a :: r, x, y => by simp [lexI, lexI_same r x y]
end Gs
end

section
set_option linter.all false
set_option maxRecDepth 100000
set_option autoImplicit false
/-! GSort: sorted of a list of tuples of whole numbers, any number of them. -/
namespace Gs
open PySem PySem.Spec PyProof.Rows L2
variable [Wd]
theorem swo_lexI {α : Type} (k : α → List Int) : SrtO.Swo fun v u => lexI (k v) (k u) := ⟨fun x y h => lexI_as _ _ h, fun x y z h1 h2 => lexI_tr _ _ _ h1 h2⟩
section
variable {prog : Program} {w : World} {A : Around} {E : Value → Shared → Prop} {s : Shared} {Q : Bool → Shared → Prop}
theorem lex_tups {b fin : Bool} {xs ys : List Value} {ns ms : List Int} (i : Nat) (hx : IntsAre xs ns) (hy : IntsAre ys ms) (hf : fin = decide (ns.length < ms.length))
    (h : Q (lexI ns ms) s) : PySem.W.KatLex prog w A b fin Q (xs.zip ys) i s := by
  induction hx generalizing ys ms i with
  | nil =>
    cases hy with
    | nil => exact PySem.W.kat_nil (by rw [hf]; exact h)
    | cons q u hy => exact PySem.W.kat_nil (by rw [hf]; simpa [lexI] using h)
  | @cons p t xs ns hx ih =>
    cases hy with
    | nil => exact PySem.W.kat_nil (by rw [hf]; simpa [lexI] using h)
    | @cons q u ys ms hy =>
      show PySem.W.KatLex prog w A b fin Q ((Value.int p t, Value.int q u) :: xs.zip ys) i s
      refine PySem.W.kat_cons (wpAny_eqBool_int ?_)
      by_cases e : p = q
      · subst e
        rw [beq_self_eq_true]
        refine PySem.W.kat_yes ?_
        have h' : Q (lexI ns ms) s := by simpa [lexI] using h
        exact ih (i + 1) hy (by rw [hf]; simp) h'
      · rw [show (p == q) = false from beq_eq_false_iff_ne.mpr e]
        refine PySem.W.kat_no (TS.oneLt_ints _ ?_)
        simpa [lexI, e] using h
end
section
variable {prog : Program} {w : World} {A : Around} {s : Shared}
theorem firsts_tups {h : Heap} : ∀ vs : List Value, (∀ v ∈ vs, ∃ ns, TS.TupInts h v ns ∧ ns ≠ []) → ∃ fs, PySem.W.KatTups h vs fs ∧ fs.length = vs.length ∧ ∀ f, f ∈ fs → ∃ n t, f = Value.int n t
  | [], _ => ⟨[], PySem.W.KatTups.nil, rfl, fun f hf => by simp at hf⟩
  | v :: vs, x => by
    obtain ⟨fs, k, hl, hi⟩ := firsts_tups vs fun u hu => x u (List.mem_cons_of_mem _ hu)
    obtain ⟨ns, ⟨a, xs, rfl, ⟨o, ho, hc, n, hdt⟩, i⟩, hn⟩ := x v (List.mem_cons_self ..)
    obtain ⟨y, ys, e⟩ : ∃ y ys, xs.toList = y :: ys := by
      cases q : xs.toList with
      | nil =>
        rw [q] at i
        cases i
        exact absurd rfl hn
      | cons y ys => exact ⟨y, ys, rfl⟩
    obtain ⟨m, t, hy⟩ := SrtO.ints_mem i y (by rw [e]; exact List.mem_cons_self ..)
    refine ⟨y :: fs, PySem.W.KatTups.cons ho hc hdt ?_ k, by simp [hl], ?_⟩
    · have z := congrArg (fun l : List Value => l[0]?) e
      simpa using z
    · intro f hf
      rcases List.mem_cons.mp hf with rfl | hf
      · exact ⟨m, t, hy⟩
      · exact hi f hf
theorem tups_cmp {vs : List Value} {k : Value → List Int} (hp : ∀ v ∈ vs, TS.TupInts s.heap v (k v)) : SrtO.Cmp prog w A s (tuples' true) (fun p => p.1 ∈ vs) (SrtO.lt2 fun v u => lexI (k v) (k u)) := by
  intro p q hm hm'
  have h1 := hp _ hm
  have h2 := hp _ hm'
  show wpAny (model prog w) A (keyLt' (tuples' true) p.1 q.1) (fun r s' => s' = s ∧ r = lexI (k p.1) (k q.1)) (fun _ _ => False) s
  generalize k p.1 = ns at h1 ⊢
  generalize k q.1 = ms at h2 ⊢
  obtain ⟨a, xs, e1, ⟨o, ho, hc, n, hdt⟩, i⟩ := h1
  obtain ⟨a', ys, e2, ⟨o', ho', hc', n', hdt'⟩, i'⟩ := h2
  rw [e1, e2]
  refine PySem.W.kat_lt ho hdt ho' hdt' ?_
  refine lex_tups 0 i i' ?_ ⟨rfl, rfl⟩
  have l1 := i.length
  have l2 := i'.length
  rw [Array.length_toList] at l1 l2
  rw [l1, l2]
theorem tups_sortable {a : Addr} {vs : List Value} {k : Value → List Int} (h0 : 0 < vs.length) (hp : ∀ v ∈ vs, TS.TupInts s.heap v (k v) ∧ k v ≠ []) (ha : ∀ o, s.heap.get? a = some o → o.cls ≠ .type "tuple") : SrtO.SortableO prog w A s a vs fun v u => lexI (k v) (k u) := by
  intro h' keep
  have hp' : ∀ v ∈ vs, TS.TupInts h' v (k v) := fun v hm => (hp v hm).1.keeps fun b o e c => keep b o (fun z => by subst z; exact ha o e c) e
  obtain ⟨fs, h1, h2, h3⟩ := firsts_tups vs fun v hm => ⟨_, hp' v hm, (hp v hm).2⟩
  refine ⟨tuples' true, fun Q E hq => ?_, tups_cmp (s := { s with heap := h' }) hp'⟩
  refine PySem.W.kat_kind (T := .type "int") h1 (by omega) (fun f hm => ?_) (by rfl) ?_
  · obtain ⟨x, t, rfl⟩ := h3 f hm
    exact PySem.W.Looks.now
  · have e : (Value.type "int" != Value.type "tuple") = true := by first | decide +kernel | rfl | decide
    rw [e]
    exact hq
end
/-- the items are tuples of these whole numbers, at least one each -/
inductive TQ (K : Frag) (H : Hp) : List V → List (List Int) → Prop
  | nil : TQ K H [] []
  | cons {t : Addr} {n : Int} {q : List Int} {xs : List V} {qs : List (List Int)} : SqT K H t ((n :: q).map V.int) → TQ K H xs qs → TQ K H (V.ref t :: xs) ((n :: q) :: qs)
def rSortedTT (K : Frag) : List V → Hp → VK → Prop := fun vs H Q => ∃ (a : Addr) (xs : List V) (qs : List (List Int)), vs = [V.ref a] ∧ SqL K H a xs ∧ TQ K H xs qs ∧
  ∀ ys p, ys.length = qs.length → (∀ z ∈ ys.zip (sortT qs), z ∈ xs.zip qs) → H p = none → Q (.ref p) (upd H p (.lst ys))
theorem tq_its {X : Cx} {pins : List (Addr × Obj)} {σ : L2.St} {H : Hp} {s : Shared} (I : Inv X pins σ H s) : ∀ {xs : List V} {qs : List (List Int)} {its : List Value}, TQ X.K H xs qs → Vals xs its →
    its.map (fun u => (backV u, TS.intsOf s.heap u)) = xs.zip qs ∧ its.map (fun u => TS.intsOf s.heap u) = qs ∧ (∀ u ∈ its, (TS.TupInts s.heap u (TS.intsOf s.heap u) ∧ TS.intsOf s.heap u ≠ []) ∧ ∃ a, u = Value.ref a)
  | _, _, _, .nil, .nil => ⟨rfl, rfl, fun u hu => absurd hu (by simp)⟩
  | _, _, _, .cons (t := t) (n := n) (q := q) hq tq, .cons (b := u) ru rs => by
    obtain rfl : u = Value.ref t := ru
    obtain ⟨e1, e2, e3⟩ := tq_its I tq rs
    obtain ⟨its2, rv2, p, _⟩ := I.tuple hq
    have ti : TS.TupInts s.heap (.ref t) (n :: q) := ⟨t, its2.toArray, rfl, p, by simpa using rv2.ints⟩
    have e4 := ti.ints
    refine ⟨?_, ?_, fun u hu => ?_⟩
    · simp only [List.map_cons, List.zip_cons_cons, e1, e4]
      rfl
    · simp only [List.map_cons, e2, e4]
    · rcases List.mem_cons.mp hu with rfl | hu
      · rw [e4]
        exact ⟨⟨ti, by simp⟩, t, rfl⟩
      · exact e3 u hu
theorem cr_sortedTT {X : Cx} : CallR X (.builtin "sorted") (rSortedTT X.K) := by
  intro pins s σ H vs us Q I r h
  obtain ⟨a, xs, qs, rfl, hs, hx, q⟩ := h
  obtain ⟨its, rv, hl, hz⟩ := I.list hs
  obtain ⟨u, rfl, ru⟩ := vals1 r
  obtain rfl : u = Value.ref a := ru
  obtain ⟨e1, e2, e3⟩ := tq_its I hx rv
  refine SrtO.sorted_ord (swo_lexI fun u => TS.intsOf s.heap u) hl.isList (by rw [← rv.length]; exact hz) (fun h2 h₁ a' ha kk => ?_) fun out h1 h2 => ?_
  · refine tups_sortable (s := { s with heap := h₁ }) (by omega) (fun v hm => ⟨(e3 v hm).1.1.keeps fun b o e _ => (kk b o e).2, (e3 v hm).1.2⟩) fun o e => ?_
    have e' : some o = some (seqObj "list" its.toArray 0) := e.symm.trans ha
    cases e'
    intro c
    exact absurd (Value.type.inj c) (by decide)
  · have hperm := h2.perm
    have hout : ∀ u ∈ out, ∃ a, u = Value.ref a := fun u hu => (e3 u (hperm.mem_iff.mp hu)).2
    have es : out.map (fun u => TS.intsOf s.heap u) = sortT qs := by
      refine sortT_uniq ?_ ?_ (sortT_sorted qs)
      · refine (hperm.map _).trans ?_
        rw [e2]
        exact (sortT_perm qs).symm
      · exact List.pairwise_map.mpr h1
    have lq : qs.length = out.length := by rw [← e2, List.length_map, hperm.length_eq]
    have hlx : (out.map backV).length = xs.length := by
      rw [List.length_map, hperm.length_eq, ← rv.length]
    obtain ⟨ep, he'⟩ := PyProof.Rows.sortedAll_at s.heap its out.toArray
    refine ⟨.ref _, upd H (s.heap.objs.size + 1) (.lst (out.map backV)), I.laid (t' := s.toks) (fun _ _ => PyProof.Rows.sortedAll_old) (Nat.le_succ _) ⟨by rw [hlx]; exact hz, out, ep, vals_back hout, he'⟩, rfl, q _ _ (by rw [List.length_map, lq]) (fun z hzm => ?_) (I.hok.fresh (Nat.le_succ _))⟩
    rw [← es, ← e1] at *
    rw [List.zip_map'] at hzm
    exact (hperm.map _).mem_iff.mp hzm
end Gs
end

section
set_option linter.all false
set_option maxRecDepth 100000
set_option maxHeartbeats 4000000
set_option autoImplicit false
/-! GKit: rules that the layer does not have: a star at the end of targets; max with default=; rpartition. -/
namespace Gs
open PySem PySem.Spec PyProof.Rows L2
section
variable {prog : Program} {w : World} {A : Around} {E : Value → Shared → Prop} {s : Shared}
/-- the parting by a star at the end, from what its parts do -/
theorem star_of {v : Value} {i : Nat} {Q : List Value → Shared → Prop} (h1 : ∀ P : Bool → Shared → Prop, P false s → wpAny (model prog w) A (notIterableAtAll v) P E s)
    (h2 : wpAny (model prog w) A (pyIter v) (fun it s1 => wpAny (model prog w) A (draw it i) (fun fs s2 => fs.length = i ∧ wpAny (model prog w) A (collect it) (fun rs s3 => rs.length ≤ sizeLine ∧
      Q (fs ++ [.ref s3.heap.objs.size]) { s3 with heap := s3.heap.push { cls := .type "list", data := .seq rs.toArray } }) E s2) E s1) E s) :
    wpAny (model prog w) A (unpackItems v (i + 1) (some i)) Q E s := by
  unfold unpackItems; refine wpAny_bind (h1 _ ?_); simp only [Bool.false_eq_true, if_false]
  refine wpAny_bind (wpAny_holding (wpAny_mono h2 (fun it s1 q1 => ?_) fun _ _ z => z)); refine wpAny_bind (wpAny_holding (wpAny_mono q1 (fun fs s2 q2 => ?_) fun _ _ z => z))
  obtain ⟨hfs, q2⟩ := q2; rw [if_neg (show ¬ fs.length < i by omega)]; refine wpAny_bind (wpAny_holding (wpAny_mono q2 (fun rs s3 q3 => ?_) fun _ _ z => z))
  obtain ⟨hrs, q3⟩ := q3
  have e0 : i + 1 - 1 - i = 0 := by omega
  show wpAny _ _ (if rs.length < i + 1 - 1 - i then _ else (newList (rs.take (rs.length - (i + 1 - 1 - i))) >>= fun d => pure (fs ++ [d] ++ rs.drop (rs.length - (i + 1 - 1 - i))))) _ _ _
  rw [e0, if_neg (Nat.not_lt_zero _), Nat.sub_zero, List.take_length, List.drop_length]
  refine wpAny_bind (wpAny_newList (wpAny_pure ?_) hrs); rw [List.append_nil]; exact q3
theorem take_len {items : Array Value} {i : Nat} (hi : i ≤ items.size) : (items.toList.take i).length = i := by simp; omega
/-- .. of a tuple -/
theorem star_tup {l : Addr} {items : Array Value} {i : Nat} {Q : List Value → Shared → Prop} (hl : IsTup s.heap l items) (hh : A.handled = none) (hi : i ≤ items.size) (hz : items.size ≤ sizeLine)
    (h : ∀ (h' : Heap) (tk : Nat), (∀ b o, s.heap.get? b = some o → h'.get? b = some o) → Q (items.toList.take i ++ [.ref h'.objs.size]) { s with heap := h'.push { cls := .type "list", data := .seq (items.toList.drop i).toArray }, toks := tk }) :
    wpAny (model prog w) A (unpackItems (.ref l) (i + 1) (some i)) Q E s := by
  have hlt : l ≠ s.heap.objs.size := fun e => by obtain ⟨o, ho, _⟩ := hl; exact absurd (Heap.lt_size ho) (e ▸ Nat.lt_irrefl _)
  refine star_of (fun P hP => wpAny_bind (wpAny_specialOf hl.typeIs slot_tuple_iter.lookup (wpAny_pure hP))) (iter_tuple hl (draw_tuple hlt i 0 _ _ ⟨_, Heap.get?_push_size _ rfl, rfl, rfl⟩ (hl.push _) (by rw [Nat.zero_add]; exact hi) fun h₁ hit₁ hs₁ => ⟨?_, ?_⟩))
  · rw [List.drop_zero]; exact take_len hi
  · rw [Nat.zero_add] at hit₁
    have hl₁ : IsTup h₁ l items := (hl.push _).extBut hs₁.extBut hlt
    have b1 : s.heap.objs.size < h₁.objs.size := by obtain ⟨o, ho, _⟩ := hit₁; exact Heap.lt_size ho
    have b2 : l < h₁.objs.size := by obtain ⟨o, ho, _⟩ := hl₁; exact Heap.lt_size ho
    refine PySem.W.kun_collect (s := { s with heap := h₁ }) (T := "tuple_iterator") (by simp) (Walks.tuple (A := A.in1) hh s.heap.objs.size l hlt items) (fun j u st => st.1.typeIs) (k := i) hi ⟨hit₁, hl₁⟩ b1 b2 (fun h₂ tk hk => ⟨by rw [List.length_drop, Array.length_toList]; exact Nat.le_trans (Nat.sub_le _ _) hz, ?_⟩) hz
    have := h h₂ tk fun b o e => by have := Nat.ne_of_lt (Heap.lt_size e); exact hk b o this (hs₁.extBut b o this (Heap.get?_push_of_some _ e))
    rw [List.drop_zero]; exact this
/-- .. of a list -/
theorem star_lst {l : Addr} {items : Array Value} {i : Nat} {Q : List Value → Shared → Prop} (hl : s.heap.IsList l items) (hh : A.handled = none) (hi : i ≤ items.size) (hz : items.size ≤ sizeLine)
    (h : ∀ (h' : Heap) (tk : Nat), (∀ b o, s.heap.get? b = some o → h'.get? b = some o) → Q (items.toList.take i ++ [.ref h'.objs.size]) { s with heap := h'.push { cls := .type "list", data := .seq (items.toList.drop i).toArray }, toks := tk }) :
    wpAny (model prog w) A (unpackItems (.ref l) (i + 1) (some i)) Q E s := by
  have hlt : l ≠ s.heap.objs.size := fun e => by obtain ⟨o, ho, _⟩ := hl; exact absurd (Heap.lt_size ho) (e ▸ Nat.lt_irrefl _)
  refine star_of (fun P hP => wpAny_bind (wpAny_specialOf hl.typeIs slot_list_iter.lookup (wpAny_pure hP))) (wpAny_pyIter_list hl (PySem.W.kun_draw hlt i 0 _ _ ⟨_, Heap.get?_push_size _ rfl, rfl, rfl⟩ (hl.push _) (by rw [Nat.zero_add]; exact hi) fun h₁ hit₁ hs₁ => ⟨?_, ?_⟩))
  · rw [List.drop_zero]; exact take_len hi
  · rw [Nat.zero_add] at hit₁
    have hl₁ : h₁.IsList l items := (hl.push _).extBut hs₁.extBut hlt
    have b1 : s.heap.objs.size < h₁.objs.size := by obtain ⟨o, ho, _⟩ := hit₁; exact Heap.lt_size ho
    have b2 : l < h₁.objs.size := by obtain ⟨o, ho, _⟩ := hl₁; exact Heap.lt_size ho
    refine PySem.W.kun_collect (s := { s with heap := h₁ }) (T := "list_iterator") (by simp) (Walks.list (A := A.in1) hh s.heap.objs.size l hlt items) (fun j u st => st.1.typeIs) (k := i) hi ⟨hit₁, hl₁⟩ b1 b2 (fun h₂ tk hk => ⟨by rw [List.length_drop, Array.length_toList]; exact Nat.le_trans (Nat.sub_le _ _) hz, ?_⟩) hz
    have := h h₂ tk fun b o e => by have := Nat.ne_of_lt (Heap.lt_size e); exact hk b o this (hs₁.extBut b o this (Heap.get?_push_of_some _ e))
    rw [List.drop_zero]; exact this
end
section
variable {X : Cx} {pos : Pos}
def gStar (K : PySem.W.Frag) (n : Nat) (t : TGs) : TG := fun v σ H Q => ∃ a xs, v = .ref a ∧ (SqT K H a xs ∨ SqL K H a xs) ∧ n ≤ xs.length ∧ ∀ p, H p = none → t (xs.take n ++ [.ref p]) σ (upd H p (.lst (xs.drop n))) Q
theorem vals_take : ∀ {vs : List V} {us : List Value} (n : Nat), Vals vs us → Vals (vs.take n) (us.take n)
  | _, _, 0, _ => .nil
  | _, _, _ + 1, .nil => .nil
  | _, _, n + 1, .cons a r => .cons a (vals_take n r)
theorem vals_drop : ∀ {vs : List V} {us : List Value} (n : Nat), Vals vs us → Vals (vs.drop n) (us.drop n)
  | _, _, 0, h => h
  | _, _, _ + 1, .nil => .nil
  | _, _, n + 1, .cons _ r => vals_drop n r
theorem vals_app : ∀ {vs vs2 : List V} {us us2 : List Value}, Vals vs us → Vals vs2 us2 → Vals (vs ++ vs2) (us ++ us2)
  | _, _, _, _, .nil, h => h
  | _, _, _, _, .cons a r, h => .cons a (vals_app r h)
/-- (a, .., *rest) = a tuple or a list -/
theorem pg_star {es : List Expr} {k n : Nat} {t : TGs} (hc : X.calm = true) (h : PGs X es t) (hn : (assignEach es X.env).length = n + 1) (hst : (assignEach es X.env).findIdx? (·.1) = some n) :
    PG X (.Tuple es k pos) (gStar X.K n t) := by
  refine ⟨fun pins s σ H v u Q I r hw => ?_⟩
  obtain ⟨a, xs, e1, hq, hl, hw⟩ := hw
  subst e1
  cases r
  rw [PyProof.Rows.assign_Tuple]
  refine wpAny_bind (wpAny_standAt ?_)
  unfold unpack
  rw [hn, hst]
  have fin : ∀ (its : List Value) (h' : Heap) (tk : Nat), Vals xs its → xs.length ≤ sizeLine → (∀ b o, s.heap.get? b = some o → h'.get? b = some o) →
      wpAny (model X.prog X.w) X.A (assignInOrder ((assignEach es X.env).map (·.2)) (its.take n ++ [.ref h'.objs.size])) (fun _ s' => ∃ σ' H', Inv X pins σ' H' s' ∧ Q σ' H') X.xe { s with heap := h'.push { cls := .type "list", data := .seq (its.drop n).toArray }, toks := tk } := by
    intro its h' tk rv hz hk
    have I1 : Inv X pins σ H { s with heap := h', toks := tk } := I.kept hk
    have hp : H h'.objs.size = none := I1.hok.fresh (Nat.le_refl _)
    have I2 : Inv X pins σ (upd H h'.objs.size (.lst (xs.drop n))) { s with heap := h'.push { cls := .type "list", data := .seq (its.drop n).toArray }, toks := tk } :=
      I1.laid (t' := tk) (fun b u e => Heap.get?_push_of_some _ e) (Nat.le_refl _) ⟨by rw [List.length_drop]; exact Nat.le_trans (Nat.sub_le _ _) hz, its.drop n, 0, vals_drop n rv, Heap.get?_push_size _ rfl⟩
    exact h.run pins _ σ _ (xs.take n ++ [.ref h'.objs.size]) _ Q I2 (vals_app (vals_take n rv) (.cons (show RelV (.ref _) _ from rfl) .nil)) (hw _ hp)
  rcases hq with hq | hq
  · obtain ⟨its, rv, ht, hz⟩ := I.tuple hq
    have hzz : its.toArray.size ≤ sizeLine := by rw [List.size_toArray, ← rv.length]; exact hz
    refine wpAny_bind (wpAny_holding (star_tup (i := n) ht (I.ok.hd hc) (by rw [List.size_toArray, ← rv.length]; exact hl) hzz fun h' tk hk => ?_))
    simpa using fin its h' tk rv hz hk
  · obtain ⟨its, rv, pl, hz⟩ := I.list hq
    have hzz : its.toArray.size ≤ sizeLine := by rw [List.size_toArray, ← rv.length]; exact hz
    refine wpAny_bind (wpAny_holding (star_lst (i := n) pl.isList (I.ok.hd hc) (by rw [List.size_toArray, ← rv.length]; exact hl) hzz fun h' tk hk => ?_))
    simpa using fin its h' tk rv hz hk
/-- the star itself -/
theorem pgs_star {e : Expr} {p : Pos} {t : TG} (h1 : PG X e t) : PGs X [.Starred e p] (gCons t gNil) := by
  refine ⟨fun pins s σ H vs us Q I r h => ?_⟩
  obtain ⟨v, vr, e1, h⟩ := h
  subst e1
  cases r with
  | cons r rr =>
    have hs : (assignEach [.Starred e p] X.env).map (·.2) = [assign e X.env] := rfl
    rw [hs]
    refine assignInOrder_cons (thn (h1.run pins s σ H _ _ _ I r h) fun _ s1 ⟨σ1, H1, I1, q1⟩ => ?_)
    exact pgs_nil.run pins s1 σ1 H1 _ _ Q I1 rr q1
/-- x.rpartition(y) -/
def rpartS (a b : Str) : Str × Str × Str := match Builtin.Str.lastOccurrence a b 0 a.length with
  | some i => (Builtin.Str.strSub a 0 i, b, Builtin.Str.strSub a (i + b.length) a.length)
  | none => (Str.empty, Str.empty, a)
theorem mt_rpartition : MtR X "str.rpartition" (fun x xs H Q => ∃ a b, x = .str a ∧ xs = [.str b] ∧ (b.length == 0) = false ∧ a.length ≤ sizeLine ∧
    ∀ p, H p = none → Q (.ref p) (upd H p (.tup [.str (rpartS a b).1, .str (rpartS a b).2.1, .str (rpartS a b).2.2]))) := by
  intro pins s σ H x xs v us Q I rx rs h
  obtain ⟨a, b, rfl, rfl, hb, hz, h⟩ := h
  obtain ⟨t, rfl⟩ := rx
  cases rs with
  | cons r1 rs =>
    cases rs
    obtain ⟨u, rfl⟩ := r1
    refine call_meets F.slot_str_rpartition (typeIs_str _ _ _) F.entry_str_rpartition (F.args_str_rpartition_2 _ _) (meets_str_rpartition a b t u hb hz) ?_
    unfold rpartS at h
    revert h
    cases Builtin.Str.lastOccurrence a b 0 a.length with
    | none => intro h; exact laid_parts I h
    | some i => intro h; exact laid_parts I h
end

/-! ### max(xs, default=d) -/
section
variable {prog : Program} {w : World} {A : Around} {E : Value → Shared → Prop}
/-- what the loop holds behind j items -/
def Best (P : Nat → Value → Prop) (bt : Nat → Nat → Bool) (j : Nat) (bs : Array Value) : Prop := (j = 0 ∧ bs = #[]) ∨ ∃ i v, j = i + 1 ∧ P (argBest bt i) v ∧ bs = #[v, v]
theorem mx_loop {I : Addr} {fp wr : List Addr} {G : Array GenState → Array GenState → Prop} {n : Nat} {P : Nat → Value → Prop} {St : Nat → Shared → Prop} {R : Result → Shared → Prop} (W : WalksS prog w A.in1 I fp wr G n P St) (bt : Nat → Nat → Bool) (hcmp : CmpOf prog w A.in1 .Gt P bt) (S : Addr) (hSf : S ∉ fp) (dn : Str) (dv : Value) :
    ∀ (k j : Nat) (s : Shared) (bs : Array Value) (c : Nat), n - j = k → j ≤ n → St j s → Best P bt j bs → s.heap.get? S = some { cls := .type "list", dict := none, data := .seq bs c, slots := #[] } →
    (∀ v s', (n = 0 ∧ v = dv) ∨ (0 < n ∧ P (argBest bt (n - 1)) v) → Moved (S :: wr) G s s' → R (.ok (.ret v)) s') → codeAny (model prog w) A (.builtin "max.loop" ⟨[.ref I, .none, .ref S], [(dn, dv)]⟩) R s := by
  have hw : S ∉ wr := fun h => hSf (W.sub _ h)
  have hm1 : ∀ b ∈ wr, b ∈ S :: wr := fun b hb => .tail _ hb
  have hl : (toString "max" ++ toString ".loop" : String) = "max.loop" := by decide
  have ne : ∀ {b : Addr}, b ∉ S :: wr → S ≠ b := fun hb h => hb (h ▸ .head _)
  have nf : ∀ {b : Addr}, b ∈ fp → S ≠ b := fun hb h => hSf (h ▸ hb)
  intro k
  induction k with
  | zero =>
    intro j s bs c hk hj hst hB hS hR
    refine codeAny_builtin F.entry_max_loop ?_; rw [Around.under_plainId F.plain_max_loop _]
    show wpAny _ A.in1 (seqItems? (.ref S) >>= _) _ _ s; refine wpAny_bind (wpAny_seqItems hS rfl ?_)
    show wpAny _ A.in1 (tryCatch (pyNext (.ref I)) _ >>= _) _ _ s
    have hjn : j = n := by omega
    subst hjn
    refine wpAny_bind (wpAny_tryCatch (W.done s _ _ hst fun s' hm => ?_))
    have hS' := hm.heap S _ hw hS
    rcases hB with ⟨h0, rfl⟩ | ⟨i, v, hi, hv, rfl⟩
    · exact wpAny_bind (wpAny_rule (wpAny_pure (hR dv s' (.inl ⟨h0, rfl⟩) (hm.mono hm1))))
    · show wpAny _ A.in1 (updateSeq S (fun _ => #[]) >>= _) _ _ _
      refine wpAny_bind (wpAny_updateSeq hS' rfl (wpAny_bind (wpAny_letGo (wpAny_pure ?_))))
      exact hR v _ (.inr ⟨by omega, by rw [hi]; exact hv⟩) ((hm.mono hm1).then_heap (tk := s'.toks) (Nat.le_refl _) fun b o hb e => (Heap.get?_update_other _ _ (ne hb)).trans e)
  | succ k ih =>
    intro j s bs c hk hj hst hB hS hR
    have hlt : j < n := by omega
    refine codeAny_builtin F.entry_max_loop ?_; rw [Around.under_plainId F.plain_max_loop _]
    show wpAny _ A.in1 (seqItems? (.ref S) >>= _) _ _ s; refine wpAny_bind (wpAny_seqItems hS rfl ?_)
    show wpAny _ A.in1 (tryCatch (pyNext (.ref I)) _ >>= _) _ _ s
    refine wpAny_bind (wpAny_tryCatch (W.item j s _ _ hlt hst fun v s' hP hst' hm => ?_))
    have hS' := hm.heap S _ hw hS
    have put : ∀ (i : Nat) (vb : Value) (s2 : Shared), s2 = { s' with heap := s'.heap.update S (Obj.mapSeq fun _ => #[v, v]) } → P (argBest bt j) v → codeAny (model prog w) A (.builtin "max.loop" ⟨[.ref I, .none, .ref S], [(dn, dv)]⟩) R s2 := by
      rintro i vb s2 rfl hPb
      refine ih (j + 1) _ #[v, v] _ (by omega) hlt (W.frame _ s' _ s'.toks hst' (Nat.le_refl _) fun b hb o e => (Heap.get?_update_other _ _ (nf hb)).trans e) (.inr ⟨j, v, rfl, hPb, rfl⟩) (Heap.get?_update_self _ hS' rfl) fun v' s'' hv' hm'' => ?_
      exact hR v' s'' hv' (Moved.trans W.gtrans ((hm.mono hm1).then_heap (tk := s'.toks) (Nat.le_refl _) fun b o hb e => (Heap.get?_update_other _ _ (ne hb)).trans e) hm'')
    rcases hB with ⟨h0, rfl⟩ | ⟨i, vb, hi, hv, rfl⟩
    · show wpAny _ A.in1 (updateSeq S (fun _ => #[v, v]) >>= _) _ _ _
      refine wpAny_bind (wpAny_updateSeq hS' rfl ?_); rw [hl]
      subst h0
      exact wpAny_pure ⟨plainId_quiet F.plain_max_loop _, put 0 v _ rfl hP⟩
    · subst hi
      show wpAny _ A.in1 (tryCatch (holding [v, v] (richCompare .Gt v vb >>= _)) _ >>= _) _ _ _
      refine wpAny_bind (wpAny_tryCatch (wpAny_holding (wpAny_bind (hcmp (i + 1) (argBest bt i) v vb _ _ _ hP hv ?_))))
      refine wpAny_bind (wpAny_holding (wpAny_truthy_bool ?_)); refine wpAny_bind (wpAny_letGo (wpAny_pure ?_))
      cases hb : bt (i + 1) (argBest bt i) with
      | true =>
        simp only [if_true]; refine wpAny_bind (wpAny_updateSeq hS' rfl (wpAny_bind (wpAny_letGo ?_))); rw [hl]
        exact wpAny_pure ⟨plainId_quiet F.plain_max_loop _, put i vb _ rfl (by simp only [argBest, hb, if_true]; exact hP)⟩
      | false =>
        simp only [Bool.false_eq_true, if_false]; refine wpAny_bind (wpAny_letGo ?_); rw [hl]
        refine wpAny_pure ⟨plainId_quiet F.plain_max_loop _, ih (i + 1 + 1) _ #[vb, vb] c (by omega) hlt hst' (.inr ⟨i + 1, vb, rfl, by simp only [argBest, hb, Bool.false_eq_true, if_false]; exact hv, rfl⟩) hS' fun v' s'' hv' hm'' => ?_⟩
        exact hR v' s'' hv' (Moved.trans W.gtrans (hm.mono hm1) hm'')
theorem args_maxD (l : Addr) (d : Value) : argsOk "max" ⟨[.ref l], [("default", d)]⟩ := by unfold argsOk; kernel_rfl
theorem max_dflt {s : Shared} {l : Addr} {xs : Array (Int × Tok)} {d : Value} {Q : Value → Shared → Prop} (hh : A.handled = none) (hl : s.heap.IsList l (intItems xs))
    (h : ∀ v h' tk, (xs.size = 0 ∧ v = d) ∨ (0 < xs.size ∧ (intItems xs)[argBest (fun i j => decide (numAt xs i > numAt xs j)) (xs.size - 1)]? = some v) → (∀ b o, s.heap.get? b = some o → h'.get? b = some o) → Q v { s with heap := h', toks := tk }) :
    wpAny (model prog w) A (call (.builtin "max") [.ref l] [("default", d)]) Q E s := by
  have hn : (toString "max" ++ toString ".loop" : String) = "max.loop" := by decide
  have hck : ∀ C : Unit → Shared → Prop, C () s → wpAny (model prog w) A.in1 (checkBuiltinCall "max" ⟨[.ref l], [("default", d)]⟩) C E s := fun C hC => by
    have ha := args_maxD l d
    simp only [checkBuiltinCall, F.kind_max]
    cases hs : Manifest.signature? "max" with
    | none => exact wpAny_pure hC
    | some sig =>
      simp only [argsOk, hs] at ha
      show wpAny _ A.in1 (Bind.checkArgs "max" sig ⟨[.ref l], [("default", d)]⟩) _ _ s
      rw [show Bind.checkArgs "max" sig ⟨[.ref l], [("default", d)]⟩ = pure () from ha]; exact wpAny_pure hC
  refine wpAny_call (codeAny_call_builtin F.plain_max F.entry_max (hck _ ?_))
  show wpAny _ A.in1 (Builtin.Builtins.bindParams "max" ["key", "default"] 0 ⟨[], [("default", d)]⟩ >>= _) _ _ s
  refine wpAny_bind (wpAny_of_eq (show Builtin.Builtins.bindParams "max" ["key", "default"] 0 ⟨[], [("default", d)]⟩ = pure [none, some d] from rfl) (wpAny_bind (wpAny_pure (wpAny_bind (iter_intList hl fun s₂ e st hfp hlI => ?_)))))
  refine wpAny_bind (wpAny_newObj_type ?_); rw [hn]
  have W := (Walks.list (prog := prog) (w := w) (A := A.in1) hh s.heap.objs.size l hlI (intItems xs)).toS
  have hSf : s₂.heap.objs.size ∉ [s.heap.objs.size, l] := fun hm => Nat.lt_irrefl _ (hfp _ hm)
  have hsz : (intItems xs).size = xs.size := by simp [intItems]
  refine wpAny_pure ⟨plainId_quiet F.plain_max_loop _, mx_loop W (fun i j => decide (numAt xs i > numAt xs j)) (CmpOf.ints_gt (numAt xs) (fun _ _ => intItems_at)) s₂.heap.objs.size hSf "default" d _ 0 _ #[] 0 rfl (Nat.zero_le _)
    (W.frame 0 s₂ _ s₂.toks st (Nat.le_refl _) fun b _ o e => Heap.get?_push_of_some _ e) (.inl ⟨rfl, rfl⟩) (Heap.get?_push_size _ rfl) fun v s' hv hm => ?_⟩
  have hm2 := Moved.drop_new (tk := s₂.toks) hm (Nat.le_refl _)
  subst e
  rw [hm2.eq_with]
  rw [hsz] at hv
  exact h v s'.heap s'.toks hv fun b o e => hm2.heap b o (fun hb => absurd (Heap.lt_size e) (by rw [List.mem_singleton.mp hb]; exact Nat.lt_irrefl _)) (Heap.get?_push_of_some _ e)
end
section
variable {X : Cx}
/-- max of a list of ints, or what stands for it -/
def rMaxDf (K : PySem.W.Frag) : List V → List V → Hp → VK → Prop := fun xs zs H Q => ∃ (a : Addr) (ns : List Int) (d : Int), xs = [V.ref a] ∧ zs = [.int d] ∧ SqL K H a (ns.map V.int) ∧ (ns = [] → Q (.int d) H) ∧ ∀ m, m ∈ ns → (∀ y, y ∈ ns → y ≤ m) → Q (.int m) H
theorem call_maxDf (hc : X.calm = true) : CallRK X (.builtin "max") ["default"] (rMaxDf X.K) := by
  intro pins s σ H xs zs us ws Q I r r2 h
  obtain ⟨a, ns, d, rfl, rfl, hs, q0, q⟩ := h
  obtain ⟨its, rv, hl, _⟩ := I.list hs
  rw [Vals.ref1 r]
  obtain ⟨u, rfl, t, rfl⟩ := vals1 r2
  have hi := rv.ints
  obtain ⟨ps, e⟩ := hi.allInts.items
  have hn : numsOf (intItems ps).toList = ns := by rw [← e]; exact hi.numsOf
  rw [nums_intItems] at hn
  have hL := hl.isList
  rw [e] at hL
  refine max_dflt (I.ok.hd hc) hL fun v h' tk hv hk => ?_
  have hlen : ns.length = ps.size := by rw [← hn]; simp
  rcases hv with ⟨h0, rfl⟩ | ⟨h0, hv⟩
  · exact ⟨.int d, H, I.kept hk, ⟨t, rfl⟩, q0 (List.eq_nil_of_length_eq_zero (by omega))⟩
  · obtain ⟨t', rfl⟩ := intItems_at hv
    obtain ⟨h1, h2⟩ := argBest_gt (numAt ps) (ps.size - 1)
    refine ⟨.int _, H, I.kept hk, ⟨t', rfl⟩, q _ ?_ fun y hy => ?_⟩
    · rw [numAt_eq, ← hn]; exact PySem.getD_mem (by rw [List.length_map, Array.length_toList]; omega)
    · rw [← hn] at hy
      obtain ⟨j, hj, rfl⟩ := mem_getD hy
      rw [List.length_map, Array.length_toList] at hj
      rw [← numAt_eq]; exact h2 j (by omega)
end
end Gs
end

section
set_option linter.all false
set_option maxRecDepth 100000
set_option autoImplicit false
namespace Gs
open PySem PySem.Spec PyProof.Rows L2
variable [Wd]
section
variable {X : Cx} {c : Cf}
/-! ### subscripts -/
theorem RVs.atI {K : Frag} {Φ : Hp} {ι : List Addr} {xs : List W} {vs : List V} {i : Int} {w : W} (r : RVs K Φ ι xs vs) (h : atW xs i = some w) : ∃ v, L2.atI vs i = some v ∧ RV K Φ ι w v := by
  unfold atW at h
  cases e : ixW xs.length i with
  | none => rw [e] at h; cases h
  | some j =>
    rw [e] at h
    obtain ⟨v, h1, h2⟩ := r.get (show xs[j]? = some w from h)
    refine ⟨v, ?_, h2⟩
    unfold L2.atI
    rw [show ixN vs.length i = some j from by rw [← r.length]; exact e]
    exact h1
theorem okS_one {x : Str} {k : Nat} {ch : Nat} (h : okS x) (e : x.cps.toList[k]? = some ch) : okS ⟨#[ch]⟩ := by
  refine ⟨?_, by rw [sizeLine_eq]; show (1 : Nat) ≤ _; decide⟩
  have h1 := h.1
  unfold PyData.strOk at h1 ⊢
  rw [Array.all_eq_true_iff_forall_mem] at h1 ⊢
  intro z hz
  simp at hz
  subst hz
  exact h1 z (by rw [← Array.mem_toList_iff]; exact List.mem_of_getElem? e)
theorem atW_get {α : Type} {xs : List α} {i : Int} {v : α} (h : atW xs i = some v) : ∃ j : Nat, xs[j]? = some v := by
  unfold atW at h
  cases e : ixW xs.length i with
  | none => rw [e] at h; cases h
  | some j => rw [e] at h; exact ⟨j, h⟩
theorem ix_X (hK : c.K = X.K) (hu : X.A.units + 65 < cLine) : IxR X (rW2 c getW) := by
  intro value slice pins s σ H x y v u Q I rx ry h hs
  obtain ⟨Φ, ι, S, w1, w2, E, r, r1, r2, h⟩ := h
  unfold getW at h
  split at h
  · cases r2
    cases r1 with
    | @str z hx =>
      split at h
      · rename_i ch e
        refine ix_str value slice pins s σ H _ _ v u Q I rx ry ⟨_, _, _, rfl, rfl, hx.2, e, ?_⟩ hs
        obtain ⟨j, ej⟩ := atW_get e
        exact same_ok r (.str (okS_one hx ej)) h
      · exact h.elim
  · split at h
    · rename_i xs e
      obtain ⟨a, vs, rfl, q, t⟩ := seqW_ok r r1 e
      split at h
      · cases r2
        split at h
        · rename_i k w e2
          obtain ⟨z, e3, rz⟩ := t.atI e2
          rcases q with q | q
          · exact ix_list value slice pins s σ H _ _ v u Q I rx ry ⟨_, _, _, _, rfl, rfl, hK ▸ q, e3, same_ok r rz h⟩ hs
          · exact ix_tup value slice pins s σ H _ _ v u Q I rx ry ⟨_, _, _, _, rfl, rfl, hK ▸ q, e3, same_ok r rz h⟩ hs
        · exact h.elim
      · exact h.elim
    · split at h
      · rename_i kvs k e1 e2
        obtain ⟨a, us, rfl, q, g⟩ := dicW_ok r r1 e1
        have hk := keyW_ok r2 e2
        subst hk
        rcases dget_ok g k with ⟨z1, z2⟩ | ⟨w, vv, z1, z2, rz⟩
        · rw [z1] at h; exact h.elim
        · rw [z1] at h
          obtain rfl : v = Value.ref a := rx
          have G : DGet H a (kV k) (some vv) := by rw [← z2]; exact DGet.k q
          exact tail_any (dict_typeIs I G) PySem.F.slot_dict_getitem.lookup (d_getItem (Nat.lt_of_le_of_lt (Nat.add_le_add_left (by decide) _) hu) I G ry fun w' s' I' rw' => ⟨vv, H, I', rw', same_ok r rz h⟩) hs
      · exact h.elim
def rWsl (c : Cf) (fz : Bool) : V → Option Int → Option Int → Hp → VK → Prop := fun x lo hi H Q => ∃ (Φ : Hp) (ι : List Addr) (S : Store) (w : W) (E : XK), Rel c.K Φ ι S H ∧ RV c.K Φ ι w x ∧ After c Φ ι H (sliceW fz w lo hi S) (QV c Q) E
theorem RVs.cut {K : Frag} {Φ : Hp} {ι : List Addr} {xs : List W} {vs : List V} (r : RVs K Φ ι xs vs) (lo hi : Option Int) : RVs K Φ ι (cut xs lo hi) (cutV vs lo hi) := by
  unfold Gs.cut cutV
  rw [r.length]
  exact (r.drop _).take _
theorem okS_cut {x : Str} (h : okS x) (lo hi : Option Int) : okS ⟨(cut x.cps.toList lo hi).toArray⟩ := by
  constructor
  · have h1 := h.1
    unfold PyData.strOk at h1 ⊢
    rw [Array.all_eq_true_iff_forall_mem] at h1 ⊢
    intro z hz
    refine h1 z ?_
    rw [← Array.mem_toList_iff] at hz ⊢
    simp only at hz
    exact List.mem_of_mem_drop (List.mem_of_mem_take hz)
  · refine Nat.le_trans ?_ h.2
    show (cut x.cps.toList lo hi).toArray.size ≤ x.cps.size
    rw [List.size_toArray]
    unfold cut
    rw [List.length_take, List.length_drop, Array.length_toList]
    omega
theorem sl_X (hK : c.K = X.K) (fz : Bool) : SlR X (rWsl c fz) := by
  intro pins s σ H x v vl vu lo hi sl Q I rx hs pl pu h
  obtain ⟨Φ, ι, S, w1, E, r, r1, h⟩ := h
  unfold sliceW at h
  split at h
  · cases r1 with
    | str hx => exact sl_str pins s σ H _ v vl vu lo hi sl Q I rx hs pl pu ⟨_, rfl, hx.2, same_ok r (.str (okS_cut hx lo hi)) h⟩
  · cases r1 with
    | tup s1 t1 =>
      refine sl_tupA pins s σ H _ v vl vu lo hi sl Q I rx hs pl pu ⟨_, _, rfl, hK ▸ SqT.mono r.sub s1, fun e => ?_, fun e p hp => newT_ok r (t1.cut lo hi) h p hp⟩
      refine same_ok r (w := .tup _) (.tup s1 ?_) h
      have e2 := t1.cut lo hi
      unfold cutV at e2
      rw [e.1, e.2] at e2
      simpa using e2
  · split at h
    · rename_i xs e
      obtain ⟨a, vs, rfl, q, t⟩ := seqW_ok r r1 e
      obtain ⟨_, k⟩ := newL_ok r (t.cut lo hi) h
      rcases q with q | q
      · exact sl_list pins s σ H _ v vl vu lo hi sl Q I rx hs pl pu ⟨_, _, rfl, hK ▸ q, k⟩
      · cases r1 with
        | tup s1 t1 => exact absurd rfl (‹∀ (ys : List W), W.tup _ = W.tup ys → False› _)
        | lst s1 t1 =>
          exact sl_list pins s σ H _ v vl vu lo hi sl Q I rx hs pl pu ⟨_, _, rfl, SqL.of (r.sub _ _ s1), by
            have e' : xs = _ := (Option.some.inj e).symm
            subst e'
            exact (newL_ok r (t1.cut lo hi) h).2⟩
        | scr s1 =>
          exact sl_list pins s σ H _ v vl vu lo hi sl Q I rx hs pl pu ⟨_, _, rfl, hK ▸ SqL.mono r.sub s1, by
            have e' : xs = _ := (Option.some.inj e).symm
            subst e'
            exact (newL_ok r (RVs.of_ints.cut lo hi) h).2⟩
        | loc hl =>
          obtain ⟨a', vs', e1, q', t'⟩ := lstW_ok (xs := xs) r (.loc hl) e
          exact sl_list pins s σ H _ v vl vu lo hi sl Q I rx hs pl pu ⟨a', vs', e1, SqL.of q', (newL_ok r (t'.cut lo hi) h).2⟩
        | _ => cases e
    · exact h.elim
/-- o[i] = v -/
def rWset (c : Cf) : TSet := fun o i v H Q => ∃ (Φ : Hp) (ι : List Addr) (S S' : Store) (w1 w2 w3 : W), Rel c.K Φ ι S H ∧ RV c.K Φ ι w1 o ∧ RV c.K Φ ι w2 i ∧ RV c.K Φ ι w3 v ∧ setW w1 w2 w3 S = some S' ∧
  ∀ H', Ext Φ ι H Φ ι H' → Rel c.K Φ ι S' H' → Q H'
theorem set_X (hu : X.A.units + 65 < cLine) : PSet X (rWset c) := by
  intro pins s σ H o i v ov iv u Q I ro ri rv h
  obtain ⟨Φ, ι, S, S', w1, w2, w3, r, r1, r2, r3, h, k⟩ := h
  unfold setW at h
  split at h
  · cases r1 with
    | loc hl =>
      split at h
      · rename_i xs q
        split at h
        · cases r2
          simp only [Option.map_eq_some_iff] at h
          obtain ⟨j, e1, rfl⟩ := h
          obtain ⟨_, vs, q1, t⟩ := r.live _ _ _ hl q
          obtain ⟨rn, en⟩ := r.setS (o := .lst (xs.set j w3)) (ho := .lst (vs.set j v)) hl q ⟨_, upd_same, t.set r3 j⟩
          exact set_list pins s σ H _ _ v ov iv u Q I ro ri rv ⟨_, _, _, j, rfl, rfl, q1, by rw [← t.length]; exact e1, k _ en rn⟩
        · cases h
      · rename_i kvs q
        split at h
        · rename_i kk ek
          split at h
          · rename_i hz
            cases h
            obtain ⟨_, us, q1, t⟩ := r.live _ _ _ hl q
            have hk := keyW_ok r2 ek
            subst hk
            obtain ⟨rn, en⟩ := r.setS (o := .dic (dput kk w3 kvs)) (ho := .dK (putK us kk v)) hl q ⟨_, upd_same, dput_ok r3 t⟩
            exact set_dict (Nat.lt_of_le_of_lt (Nat.add_le_add_left (by decide) _) hu) pins s σ H _ _ v ov iv u Q I ro ri rv ⟨_, _, rfl, DPut.k q1 (by rw [← rkv_len t, sizeLine_eq]; exact hz), k _ en rn⟩
          · cases h
        · cases h
      · cases h
  · cases h
/-! ### truth -/
theorem truW_ok {K : Frag} {Φ H : Hp} {ι : List Addr} {S : Store} {w : W} {x : V} {b : Bool} (hK : c.K = K) (r : Rel c.K Φ ι S H) (r1 : RV c.K Φ ι w x) (h : truW S w = some b) : TruV K x H b := by
  cases r1 with
  | non => exact (Option.some.inj h).symm
  | bl b => exact (Option.some.inj h).symm
  | int i => exact (Option.some.inj h).symm
  | str hx =>
    refine ⟨hx.2, ?_⟩
    have e := (Option.some.inj h).symm
    rw [e]
    rename_i z
    by_cases hz : z.length = 0
    · rw [hz]; rfl
    · rw [show decide (z.length ≠ 0) = true from decide_eq_true hz]
      have : ((z.length : Int) != 0) = true := by rw [bne_iff_ne]; omega
      rw [this]
  | ty n => cases h
  | tab _ _ => cases h
  | fn n => cases h
  | tup s1 t =>
    refine .inr (.inl ⟨_, hK ▸ SqT.mono r.sub s1, ?_⟩)
    rw [← Option.some.inj h]
    cases t <;> rfl
  | lst s1 t =>
    refine .inl ⟨_, SqL.of (r.sub _ _ s1), ?_⟩
    rw [← Option.some.inj h]
    cases t <;> rfl
  | scr s1 => cases h
  | @loc l a hl =>
    simp only [truW] at h
    split at h
    · rename_i xs q
      obtain ⟨_, vs, q1, t⟩ := r.live _ _ _ hl q
      refine .inl ⟨_, SqL.of q1, ?_⟩
      rw [← Option.some.inj h]
      cases t <;> rfl
    · rename_i xs q
      obtain ⟨_, vs, q1, t⟩ := r.live _ _ _ hl q
      refine .inr (.inr ⟨_, q1, ?_⟩)
      rw [← Option.some.inj h]
      cases t <;> rfl
    · cases h
/-! ### built-in functions and types -/
def rWs (c : Cf) (f : List W → Store → Out W) : List V → Hp → VK → Prop := fun xs H Q => ∃ (Φ : Hp) (ι : List Addr) (S : Store) (ws : List W) (E : XK), Rel c.K Φ ι S H ∧ RVs c.K Φ ι ws xs ∧ After c Φ ι H (f ws S) (QV c Q) E
theorem rvs1 {K : Frag} {Φ : Hp} {ι : List Addr} {x : W} {vs : List V} (h : RVs K Φ ι [x] vs) : ∃ v, vs = [v] ∧ RV K Φ ι x v := by
  cases h with
  | cons a b => cases b; exact ⟨_, rfl, a⟩
theorem rvs2 {K : Frag} {Φ : Hp} {ι : List Addr} {x y : W} {vs : List V} (h : RVs K Φ ι [x, y] vs) : ∃ v u, vs = [v, u] ∧ RV K Φ ι x v ∧ RV K Φ ι y u := by
  cases h with
  | cons a b =>
    cases b with
    | cons a' b' => cases b'; exact ⟨_, _, rfl, a, a'⟩
theorem maxI_mem : ∀ (n : Int) (ns : List Int), maxI (n :: ns) ∈ n :: ns ∧ ∀ y ∈ n :: ns, y ≤ maxI (n :: ns)
  | n, [] => by simp [maxI]
  | n, m :: r => by
    have ih := maxI_mem m r
    rw [show maxI (n :: m :: r) = max n (maxI (m :: r)) from rfl]
    constructor
    · rcases Int.le_total n (maxI (m :: r)) with h | h
      · rw [Int.max_eq_right h]; exact List.mem_cons_of_mem _ ih.1
      · rw [Int.max_eq_left h]; exact List.mem_cons_self
    · intro y hy
      rcases List.mem_cons.mp hy with rfl | hy
      · exact Int.le_max_left _ _
      · exact Int.le_trans (ih.2 y hy) (Int.le_max_right _ _)
theorem minI_mem : ∀ (n : Int) (ns : List Int), minI (n :: ns) ∈ n :: ns ∧ ∀ y ∈ n :: ns, minI (n :: ns) ≤ y
  | n, [] => by simp [minI]
  | n, m :: r => by
    have ih := minI_mem m r
    rw [show minI (n :: m :: r) = min n (minI (m :: r)) from rfl]
    constructor
    · rcases Int.le_total n (minI (m :: r)) with h | h
      · rw [Int.min_eq_left h]; exact List.mem_cons_self
      · rw [Int.min_eq_right h]; exact List.mem_cons_of_mem _ ih.1
    · intro y hy
      rcases List.mem_cons.mp hy with rfl | hy
      · exact Int.min_le_left _ _
      · exact Int.le_trans (Int.min_le_right _ _) (ih.2 y hy)
theorem insI_perm (x : Int) : ∀ l : List Int, (insI x l).Perm (x :: l)
  | [] => .refl _
  | y :: r => by
    unfold insI
    split
    · exact .refl _
    · exact ((insI_perm x r).cons y).trans (List.Perm.swap x y r)
theorem sortI_perm : ∀ l : List Int, (sortI l).Perm l
  | [] => .refl _
  | x :: r => by
    unfold sortI
    exact (insI_perm x _).trans ((sortI_perm r).cons x)
theorem insI_sorted (x : Int) : ∀ l : List Int, l.Pairwise (· ≤ ·) → (insI x l).Pairwise (· ≤ ·)
  | [], _ => by simp [insI]
  | y :: r, h => by
    rw [List.pairwise_cons] at h
    unfold insI
    split
    · rename_i hx
      rw [List.pairwise_cons]
      refine ⟨fun z hz => ?_, List.pairwise_cons.mpr h⟩
      rcases List.mem_cons.mp hz with rfl | hz
      · exact hx
      · exact Int.le_trans hx (h.1 z hz)
    · rename_i hx
      rw [List.pairwise_cons]
      refine ⟨fun z hz => ?_, insI_sorted x r h.2⟩
      rcases List.mem_cons.mp ((insI_perm x r).mem_iff.mp hz) with rfl | hz
      · omega
      · exact h.1 z hz
theorem sortI_sorted : ∀ l : List Int, (sortI l).Pairwise (· ≤ ·)
  | [] => List.Pairwise.nil
  | x :: r => insI_sorted x _ (sortI_sorted r)
theorem sorted_uniq : ∀ {l m : List Int}, l.Perm m → l.Pairwise (· ≤ ·) → m.Pairwise (· ≤ ·) → l = m
  | [], m, p, _, _ => by rw [List.Perm.eq_nil p.symm]
  | x :: l, m, p, h1, h2 => by
    cases m with
    | nil => exact absurd p.length_eq (by simp)
    | cons y m =>
      rw [List.pairwise_cons] at h1 h2
      have hx : x ∈ y :: m := p.mem_iff.mp List.mem_cons_self
      have hy : y ∈ x :: l := p.mem_iff.mpr List.mem_cons_self
      have e : x = y := by
        rcases List.mem_cons.mp hx with e | hx
        · exact e
        · rcases List.mem_cons.mp hy with e | hy
          · exact e.symm
          · exact Int.le_antisymm (h1.1 y hy) (h2.1 x hx)
      subst e
      rw [sorted_uniq (List.Perm.cons_inv p) h1.2 h2.2]
theorem isiT_ok {a n : String} {b : Bool} (h : isiT a n = some b) : kitB a n = some b := by
  have all : ∀ a ∈ isiA, ∀ n ∈ isiA, kitB a n = some (a == n || (a == "bool" && n == "int")) := by decide +kernel
  unfold isiT at h
  split at h
  · rename_i hc
    rw [Bool.and_eq_true, List.contains_iff_mem, List.contains_iff_mem] at hc
    rw [all a hc.1 n hc.2]
    exact h
  · cases h
theorem tyN_ok {Φ H : Hp} {ι : List Addr} {S : Store} {w : W} {v : V} {a : String} (r : Rel c.K Φ ι S H) (rv : RV c.K Φ ι w v) (h : tyN S w = some a) : TyX c.K H v (.type a) := by
  cases rv with
  | non => cases h; exact .base .non
  | bl b => cases h; exact .base (.bl b)
  | int i => cases h; exact .base (.int i)
  | str e => cases h; exact .base (.str _)
  | ty n => cases h
  | tab _ _ => cases h
  | fn n => cases h
  | tup s t =>
    cases h
    rcases SqT.mono r.sub s with (q | ⟨o, q⟩) | ⟨o, its, n, q, hc, _⟩
    · exact .base (.tup q)
    · exact .fTuple q
    · exact .kTuple q hc
  | lst s t => cases h; exact .base (.lst (r.sub _ _ s))
  | scr s =>
    cases h
    rcases SqL.mono r.sub s with (q | ⟨o, q⟩) | ⟨o, its, n, q, hc, _⟩
    · exact .base (.lst q)
    · exact .base (.frz q)
    · exact .kList q hc
  | @loc l a hl =>
    simp only [tyN] at h
    split at h
    · rename_i xs q
      cases h
      obtain ⟨_, vs, q1, t⟩ := r.live _ _ _ hl q
      exact .base (.lst q1)
    · rename_i xs q
      cases h
      obtain ⟨_, vs, q1, t⟩ := r.live _ _ _ hl q
      exact .base (.dK q1)
    · cases h
def biV : Bi → Value
  | .len => .builtin "len" | .abs => .builtin "abs" | .max2 => .builtin "max" | .min2 => .builtin "min" | .maxL => .builtin "max" | .minL => .builtin "min"
  | .sumL => .builtin "sum" | .allL => .builtin "all" | .anyL => .builtin "any" | .int1 => .type "int" | .str1 => .type "str" | .tupleOf => .type "tuple" | .listOf _ => .type "list"
  | .sortedI _ => .builtin "sorted" | .divmod => .builtin "divmod" | .isinst => .builtin "isinstance" | .dictOf => .type "dict"
theorem divmodX : CallR X (.builtin "divmod") (fun xs H Q => ∃ i j, xs = [.int i, .int j] ∧ divOk j ∧ ∀ p, H p = none → Q (.ref p) (upd H p (.tup [.int (i.fdiv j), .int (i.fmod j)]))) := by
  intro pins s σ H xs us Q I r h
  obtain ⟨i, j, rfl, ⟨h1, h2⟩, q⟩ := h
  obtain ⟨u, w', rfl, ⟨t, rfl⟩, ⟨t', rfl⟩⟩ := vals2 r
  refine divmod_int h1 ?_ (.inl (PyProof.noPylong_of_log2 h2))
  have hn : H s.heap.objs.size = none := I.hok.fresh (Nat.le_refl _)
  refine ⟨.ref s.heap.objs.size, _, ?_, rfl, q _ hn⟩
  refine I.laid (fun b o e => Heap.get?_push_of_some _ e) (Nat.le_refl _) ⟨by simp only [List.length_cons, List.length_nil]; rw [sizeLine_eq]; decide, [.int (i.fdiv j) s.toks, .int (i.fmod j) (s.toks + 1)], .cons ⟨_, rfl⟩ (.cons ⟨_, rfl⟩ .nil), ?_⟩
  exact ⟨_, Heap.get?_push_size s.heap rfl, rfl, 0, rfl⟩
theorem tups_inv : ∀ {xs : List W} {qs : List (List Int)}, tupsOf xs = some qs → xs = qs.map fun q => .tup (q.map .int)
  | [], qs, h => by cases h; rfl
  | x :: xs, qs, h => by
    unfold tupsOf at h
    split at h
    · contradiction
    · rename_i y ys r he
      cases he
      split at h
      · rename_i q qs' e1 e2
        cases h
        rw [tups_inv e2, List.map_cons]
        have e3 : ∀ {xs : List W} {ns : List Int}, intsOf xs = some ns → xs = ns.map .int := by
          intro xs
          induction xs with
          | nil => intro ns h; cases h; rfl
          | cons x r ih =>
            intro ns h
            cases x <;> simp only [intsOf] at h <;> try (cases h; done)
            rename_i i
            cases hr : intsOf r with
            | none => rw [hr] at h; cases h
            | some m =>
              rw [hr] at h
              cases h
              rw [ih hr]
              rfl
        rw [e3 e1]
      · cases h
    · cases h
theorem tups_ne : ∀ {xs : List W} {qs : List (List Int)}, tupsOf xs = some qs → ∀ q ∈ qs, q ≠ []
  | [], qs, h => by cases h; simp
  | x :: xs, qs, h => by
    unfold tupsOf at h
    split at h
    · contradiction
    · rename_i y ys r he
      cases he
      split at h
      · rename_i q qs' e1 e2
        cases h
        intro z hz
        rcases List.mem_cons.mp hz with rfl | hz
        · intro hn
          subst hn
          cases y <;> simp only [intsOf] at e1 <;> try (cases e1; done)
          cases hr : intsOf ys with
          | none => rw [hr] at e1; cases e1
          | some m => rw [hr] at e1; cases e1
        · exact tups_ne e2 z hz
      · cases h
    · cases h
theorem intsOf_of_map : ∀ q : List Int, intsOf (q.map .int) = some q
  | [] => rfl
  | i :: q => by simp only [List.map_cons, intsOf, intsOf_of_map q, Option.map]
theorem tq_map {K : Frag} {Φ H : Hp} {ι : List Addr} (hs : ∀ a o, Φ a = some o → H a = some o) : ∀ {qs : List (List Int)} {vs : List V}, RVs K Φ ι (qs.map fun q => .tup (q.map .int)) vs → (∀ q ∈ qs, q ≠ []) → TQ K H vs qs
  | [], _, .nil, _ => .nil
  | q :: qs, _, .cons hv r, hq => by
    cases hv with
    | tup s t =>
      have := t.ints (intsOf_of_map q)
      subst this
      cases q with
      | nil => exact absurd rfl (hq [] (by simp))
      | cons n q => exact .cons (SqT.mono hs s) (tq_map hs r fun z hz => hq z (by simp [hz]))
theorem tq_of {K : Frag} {Φ H : Hp} {ι : List Addr} (hs : ∀ a o, Φ a = some o → H a = some o) {xs : List W} {qs : List (List Int)} {vs : List V} (t : RVs K Φ ι xs vs) (h : tupsOf xs = some qs) : TQ K H vs qs := by
  have e := tups_inv h
  subst e
  exact tq_map hs t (tups_ne h)
theorem rvs_zip {K : Frag} {Φ : Hp} {ι : List Addr} : ∀ {qs : List (List Int)} {vs : List V}, RVs K Φ ι (qs.map fun q => .tup (q.map .int)) vs → ∀ z ∈ vs.zip qs, RV K Φ ι (.tup (z.2.map .int)) z.1
  | [], _, .nil, z, hz => by simp at hz
  | q :: qs, _, .cons hv r, z, hz => by
    rcases List.mem_cons.mp hz with rfl | hz
    · exact hv
    · exact rvs_zip r z hz
theorem rvs_of_zip {K : Frag} {Φ : Hp} {ι : List Addr} : ∀ {qs : List (List Int)} {vs : List V}, vs.length = qs.length → (∀ z ∈ vs.zip qs, RV K Φ ι (.tup (z.2.map .int)) z.1) → RVs K Φ ι (qs.map fun q => .tup (q.map .int)) vs
  | [], [], _, _ => .nil
  | [], _ :: _, h, _ => by simp at h
  | _ :: _, [], h, _ => by simp at h
  | q :: qs, v :: vs, h, hz => .cons (hz (v, q) (by simp)) (rvs_of_zip (by simpa using h) fun z h' => hz z (by simp [h']))
theorem rvs_sorted {K : Frag} {Φ : Hp} {ι : List Addr} {xs : List W} {qs : List (List Int)} {vs : List V} (t : RVs K Φ ι xs vs) (h : tupsOf xs = some qs) (zs : List V) (hl : zs.length = qs.length) (hz : ∀ z ∈ zs.zip (sortT qs), z ∈ vs.zip qs) :
    RVs K Φ ι ((sortT qs).map fun q => .tup (q.map .int)) zs := by
  have e := tups_inv h
  subst e
  exact rvs_of_zip (by rw [hl, (sortT_perm qs).length_eq]) fun z h' => rvs_zip t z (hz z h')
theorem ascii_ok {x : Str} (h : asciiB x = true) : okS x := by
  simp only [asciiB, Bool.and_eq_true, List.all_eq_true, decide_eq_true_eq] at h
  refine ⟨?_, by rw [sizeLine_eq]; exact h.2⟩
  unfold PyData.strOk
  rw [Array.all_eq_true_iff_forall_mem]
  intro c hc
  have := h.1 c (by simpa using hc)
  simp
  omega
theorem bi_ok (hK : c.K = X.K) (hc : X.calm = true) (b : Bi) : CallR X (biV b) (rWs c (biW b)) := by
  intro pins s σ H xs us Q I ru h
  obtain ⟨Φ, ι, S, ws, E, r, rv, h⟩ := h
  unfold biW at h
  split at h
  · obtain ⟨v, rfl, rx⟩ := rvs1 rv
    cases rx with
    | str hx => exact call_len pins s σ H _ us Q I ru ⟨_, _, rfl, ⟨hx.2, rfl⟩, same_ok r (.int _) h⟩
  · obtain ⟨v, rfl, rx⟩ := rvs1 rv
    split at h
    · rename_i ys e
      obtain ⟨a, vs, rfl, q, t⟩ := seqW_ok r rx e
      refine call_len_seq pins s σ H _ us Q I ru ⟨_, _, rfl, hK ▸ q, ?_⟩
      rw [← t.length]
      exact same_ok r (.int _) h
    · exact h.elim
  · obtain ⟨v, rfl, rx⟩ := rvs1 rv
    cases rx
    exact call_abs pins s σ H _ us Q I ru ⟨_, rfl, same_ok r (.int _) h⟩
  · obtain ⟨v, u, rfl, rx, ry⟩ := rvs2 rv
    cases rx; cases ry
    exact call_max2 hc pins s σ H _ us Q I ru ⟨_, _, rfl, same_ok r (.int _) h⟩
  · obtain ⟨v, u, rfl, rx, ry⟩ := rvs2 rv
    cases rx; cases ry
    exact call_min2 hc pins s σ H _ us Q I ru ⟨_, _, rfl, same_ok r (.int _) h⟩
  · obtain ⟨v, rfl, rx⟩ := rvs1 rv
    split at h
    · rename_i n ns e
      cases rx with
      | lst s1 t =>
        refine cr_max hc pins s σ H _ us Q I ru ⟨_, n :: ns, rfl, SqL.of (by rw [← t.ints e]; exact r.sub _ _ s1), by simp, fun m hm hle => ?_⟩
        obtain ⟨k1, k2⟩ := maxI_mem n ns
        have e' : m = maxI (n :: ns) := Int.le_antisymm (k2 m hm) (hle _ k1)
        subst e'
        exact same_ok r (.int _) h
    · exact h.elim
  · obtain ⟨v, rfl, rx⟩ := rvs1 rv
    split at h
    · rename_i n ns e
      cases rx with
      | lst s1 t =>
        refine cr_min hc pins s σ H _ us Q I ru ⟨_, n :: ns, rfl, SqL.of (by rw [← t.ints e]; exact r.sub _ _ s1), by simp, fun m hm hle => ?_⟩
        obtain ⟨k1, k2⟩ := minI_mem n ns
        have e' : m = minI (n :: ns) := Int.le_antisymm (hle _ k1) (k2 m hm)
        subst e'
        exact same_ok r (.int _) h
    · exact h.elim
  · obtain ⟨v, rfl, rx⟩ := rvs1 rv
    split at h
    · rename_i ns e
      cases rx with
      | lst s1 t => exact cr_sum hc pins s σ H _ us Q I ru ⟨_, ns, rfl, SqL.of (by rw [← t.ints e]; exact r.sub _ _ s1), same_ok r (.int _) h⟩
    · exact h.elim
  · obtain ⟨v, rfl, rx⟩ := rvs1 rv
    split at h
    · rename_i ns e
      cases rx with
      | lst s1 t => exact cr_all hc pins s σ H _ us Q I ru ⟨_, ns, rfl, SqL.of (by rw [← t.bls e]; exact r.sub _ _ s1), same_ok r (.bl _) h⟩
    · exact h.elim
  · obtain ⟨v, rfl, rx⟩ := rvs1 rv
    split at h
    · rename_i ns e
      cases rx with
      | lst s1 t => exact cr_any hc pins s σ H _ us Q I ru ⟨_, ns, rfl, SqL.of (by rw [← t.bls e]; exact r.sub _ _ s1), same_ok r (.bl _) h⟩
    · exact h.elim
  · obtain ⟨v, rfl, rx⟩ := rvs1 rv
    cases rx
    exact call_int1 pins s σ H _ us Q I ru (.inl ⟨_, rfl, same_ok r (.int _) h⟩)
  · obtain ⟨v, rfl, rx⟩ := rvs1 rv
    cases rx
    exact call_int1 pins s σ H _ us Q I ru (.inr ⟨_, rfl, same_ok r (.int _) h⟩)
  · obtain ⟨v, rfl, rx⟩ := rvs1 rv
    split at h
    · rename_i hd
      simp only [decB, Bool.and_eq_true, Bool.not_eq_true', List.isEmpty_eq_false_iff, decide_eq_true_eq] at hd
      cases rx with
      | str hx => exact call_int_str pins s σ H _ us Q I ru ⟨_, _, rfl, intText_digits (fun d hd' => by
          have := List.all_eq_true.mp hd.1.2 d hd'
          simpa only [Bool.and_eq_true, decide_eq_true_eq] using this) hd.1.1 (by omega), hd.2, same_ok r (.int _) h⟩
    · exact h.elim
  · obtain ⟨v, rfl, rx⟩ := rvs1 rv
    cases rx with
    | tup s1 t => exact call_tupleT pins s σ H _ us Q I ru ⟨_, _, rfl, hK ▸ SqT.mono r.sub s1, same_ok r (.tup s1 t) h⟩
  · obtain ⟨v, rfl, rx⟩ := rvs1 rv
    split at h
    · rename_i ys e
      obtain ⟨a, vs, rfl, q, t⟩ := seqW_ok r rx e
      rcases q with q | q
      · exact call_tuple_of pins s σ H _ us Q I ru ⟨_, _, rfl, .inl ⟨hK ▸ q, newT_ok r t h⟩⟩
      · cases rx with
        | tup s1 t1 => exact absurd rfl (‹∀ (ys : List W), W.tup _ = W.tup ys → False› _)
        | lst s1 t1 =>
          have e' : ys = _ := (Option.some.inj e).symm
          subst e'
          exact call_tuple_of pins s σ H _ us Q I ru ⟨_, _, rfl, .inl ⟨SqL.of (r.sub _ _ s1), newT_ok r t1 h⟩⟩
        | scr s1 =>
          have e' : ys = _ := (Option.some.inj e).symm
          subst e'
          exact call_tuple_of pins s σ H _ us Q I ru ⟨_, _, rfl, .inl ⟨hK ▸ SqL.mono r.sub s1, newT_ok r RVs.of_ints h⟩⟩
        | loc hl =>
          obtain ⟨a', vs', e1, q', t'⟩ := lstW_ok (xs := ys) r (.loc hl) e
          exact call_tuple_of pins s σ H _ us Q I ru ⟨a', vs', by rw [e1], .inl ⟨SqL.of q', newT_ok r t' h⟩⟩
        | _ => cases e
    · exact h.elim
  · obtain ⟨v, rfl, rx⟩ := rvs1 rv
    cases rx with
    | str hx =>
      rename_i x
      obtain ⟨u, rfl, ⟨t, rfl⟩⟩ := vals1 ru
      have hsg : ∀ c ∈ x.cps.toList, okS (⟨#[c]⟩ : Str) := fun c hc => by
        refine ⟨?_, by show 1 ≤ sizeLine; rw [sizeLine_eq]; decide⟩
        have h1 := hx.1
        unfold PyData.strOk at h1 ⊢
        rw [Array.all_eq_true_iff_forall_mem] at h1
        have := h1 c (by simpa using hc)
        simpa using this
      have ts : RVs c.K Φ ι (x.cps.toList.map fun c => W.str ⟨#[c]⟩) (x.cps.toList.map fun c => V.str ⟨#[c]⟩) := by
        have : ∀ l : List Nat, (∀ c ∈ l, okS (⟨#[c]⟩ : Str)) → RVs c.K Φ ι (l.map fun c => W.str ⟨#[c]⟩) (l.map fun c => V.str ⟨#[c]⟩) := by
          intro l
          induction l with
          | nil => intro _; exact .nil
          | cons d l ih => intro h; exact .cons (.str (h d (by simp))) (ih fun c hc => h c (by simp [hc]))
        exact this _ hsg
      have hn := (newL_ok r ts h).2
      have hxs : x.cps.size ≤ sizeLine := hx.2
      refine PySem.call_list_str (I.ok.hd hc) x t (hn := hxs) fun h' tk acc c' hk e hi => ?_
      refine ⟨.ref s.heap.objs.size, upd H s.heap.objs.size (.lst (x.cps.toList.map fun c => V.str ⟨#[c]⟩)), I.laid hk (Nat.le_refl _) ⟨by rw [List.length_map, Array.length_toList]; exact hxs, acc.toList, c', ?_, by rw [Array.toArray_toList]; exact e⟩, rfl, hn _ (I.hok.fresh (Nat.le_refl _))⟩
      refine vals_of_idx _ _ (by rw [List.length_map, Array.length_toList, Array.length_toList]; exact hi.1) fun j u hj => ?_
      obtain ⟨d, t', hd, rfl⟩ := hi.2 j u (by rw [← Array.getElem?_toList]; exact hj)
      exact ⟨.str ⟨#[d]⟩, by rw [List.getElem?_map, Array.getElem?_toList, hd]; rfl, ⟨_, rfl⟩⟩
  · obtain ⟨v, rfl, rx⟩ := rvs1 rv
    split at h
    · rename_i ys e
      obtain ⟨a, vs, rfl, q, t⟩ := seqW_ok r rx e
      exact call_list_of pins s σ H _ us Q I ru ⟨_, _, rfl, hK ▸ q, (newL_ok r t h).2⟩
    · exact h.elim
  · obtain ⟨v, rfl, rx⟩ := rvs1 rv
    split at h
    · rename_i ys e
      obtain ⟨a', vs', e1, q', t'⟩ := lstW_ok r rx e
      subst e1
      unfold sortW at h
      split at h
      · rename_i ns en
        refine cr_sortedI pins s σ H _ us Q I ru ⟨_, ns, rfl, SqL.of (by rw [← t'.ints en]; exact q'), fun ns' p perm rising new => ?_⟩
        have e' : ns' = sortI ns := sorted_uniq (perm.trans (sortI_perm ns).symm) rising (sortI_sorted ns)
        subst e'
        exact (newL_ok r RVs.of_ints h).2 p new
      · split at h
        · rename_i qs eq
          refine cr_sortedTT pins s σ H _ us Q I ru ⟨_, vs', qs, rfl, SqL.of q', hK ▸ tq_of r.sub t' eq, fun zs p hl hz new => ?_⟩
          exact (newL_ok r (rvs_sorted t' eq zs hl hz) h).2 p new
        · exact h.elim
    · exact h.elim
  · obtain ⟨v, u, rfl, rx, ry⟩ := rvs2 rv
    cases rx; cases ry
    split at h
    · rename_i hd
      exact divmodX pins s σ H _ us Q I ru ⟨_, _, rfl, hd, newT_ok r (.cons (.int _) (.cons (.int _) .nil)) h⟩
    · exact h.elim
  · obtain ⟨v, u, rfl, rx, ry⟩ := rvs2 rv
    cases ry
    split at h
    · rename_i b e
      unfold isiW at e
      rw [Option.bind_eq_some_iff] at e
      obtain ⟨a, e1, e2⟩ := e
      exact call_isi pins s σ H _ us Q I ru ⟨_, _, _, _, b, rfl, .ty _, hK ▸ tyN_ok r rx e1, kit_ty (isiT_ok e2), same_ok r (.bl _) h⟩
    · exact h.elim
  · obtain ⟨v, rfl, rx⟩ := rvs1 rv
    cases rx
    split at h
    · rename_i hd
      exact call_str_int pins s σ H _ us Q I ru ⟨_, rfl, hd.1, same_ok r (.str (ascii_ok hd.2)) h⟩
    · exact h.elim
  · obtain ⟨v, rfl, rx⟩ := rvs1 rv
    cases rx with
    | str hx => exact SkE.call_str_str pins s σ H _ us Q I ru ⟨_, rfl, same_ok r (.str hx) h⟩
  · obtain ⟨v, rfl, rx⟩ := rvs1 rv
    split at h
    · rename_i kvs e
      obtain ⟨a, us', rfl, q, g⟩ := dicW_ok r rx e
      refine call_dictD pins s σ H _ us Q I ru ⟨a, us', rfl, .inl q, fun p hp => ?_⟩
      obtain ⟨r', e'⟩ := r.newS (ho := .dK us') (o := .dic kvs) hp ⟨us', upd_same, RKV.mono (fun _ _ h => h) ⟨[p], rfl⟩ g⟩
      exact h _ _ _ e' r' _ (.loc (by rw [← r.len, List.getElem?_append_right (Nat.le_refl _)]; simp))
    · exact h.elim
  · exact h.elim
/-! ### methods -/
def rWm (c : Cf) (f : W → List W → Store → Out W) : V → List V → Hp → VK → Prop := fun x xs H Q => ∃ (Φ : Hp) (ι : List Addr) (S : Store) (w : W) (ws : List W) (E : XK), Rel c.K Φ ι S H ∧ RV c.K Φ ι w x ∧ RVs c.K Φ ι ws xs ∧ After c Φ ι H (f w ws S) (QV c Q) E
def mtN : Mt → Str
  | .insert => "insert" | .isupper => "isupper" | .rpart => "rpartition" | .append => "append" | .popAt => "pop" | .pop => "pop" | .extend => "extend" | .clear => "clear" | .index => "index" | .join => "join" | .count => "count"
def mtI : Mt → String
  | .insert => "list.insert" | .isupper => "str.isupper" | .rpart => "str.rpartition" | .append => "list.append" | .popAt => "list.pop" | .pop => "list.pop" | .extend => "list.extend" | .clear => "list.clear" | .index => "list.index" | .join => "str.join" | .count => "list.count"
theorem setS_ok {Φ H : Hp} {ι : List Addr} {S : Store} {l : Nat} {a : Addr} {xs ys : List W} {us : List V} {w : W} {v : V} {Q : VK} {E : XK} (r : Rel c.K Φ ι S H) (hl : ι[l]? = some a) (q : S[l]? = some (some (.lst xs))) (t : RVs c.K Φ ι ys us) (rw_ : RV c.K Φ ι w v)
    (h : After c Φ ι H (.ok w (S.set l (some (.lst ys)))) (QV c Q) E) : Q v (upd H a (.lst us)) := by
  obtain ⟨rn, en⟩ := r.setS (o := .lst ys) (ho := .lst us) hl q ⟨_, upd_same, t⟩
  exact h _ _ _ en rn _ rw_
theorem datas_get : ∀ {zs : List W} {m : Nat}, (datasW zs)[m]? = (zs[m]?).map dataW
  | [], m => by simp [datasW]
  | z :: zs, 0 => by simp [datasW]
  | z :: zs, m + 1 => by simp [datasW, datas_get (zs := zs) (m := m)]
theorem pls_get : ∀ {zs : List W} {m : Nat} {z : W}, W.pls zs = true → zs[m]? = some z → z.pl = true
  | [], m, z, _, h => by simp at h
  | y :: zs, 0, z, h, e => by
    rw [W.pls, Bool.and_eq_true] at h
    simp at e
    subst e
    exact h.1
  | y :: zs, m + 1, z, h, e => by
    rw [W.pls, Bool.and_eq_true] at h
    exact pls_get h.2 (by simpa using e)
theorem strs_ok {K : Frag} {Φ : Hp} {ι : List Addr} : ∀ {xs : List W} {vs : List V} {ys : List Str}, RVs K Φ ι xs vs → strsOf xs = some ys → vs = ys.map V.str ∧ ∀ y ∈ ys, okS y
  | [], _, ys, r, e => by
    cases r
    cases e
    exact ⟨rfl, by simp⟩
  | x :: xs, _, ys, .cons r t, e => by
    cases r with
    | str hx =>
      simp only [strsOf, Option.map_eq_some_iff] at e
      obtain ⟨zs, e1, rfl⟩ := e
      obtain ⟨h1, h2⟩ := strs_ok t e1
      refine ⟨by rw [h1]; rfl, fun y hy => ?_⟩
      rcases List.mem_cons.mp hy with rfl | hy
      · exact hx
      · exact h2 y hy
    | _ => simp [strsOf] at e
theorem catS_len : ∀ ys : List Str, (catS ys).length = (ys.map (·.length)).sum
  | [] => rfl
  | y :: ys => by
    show (y.cps ++ (catS ys).cps).size = _
    rw [Array.size_append]
    have := catS_len ys
    simp only [List.map_cons, List.sum_cons]
    show y.cps.size + (catS ys).cps.size = _
    have e : (catS ys).cps.size = (catS ys).length := rfl
    rw [e, this]
    rfl
theorem catS_ok : ∀ ys : List Str, (∀ y ∈ ys, okS y) → (ys.map (·.length)).sum ≤ line → okS (catS ys)
  | [], _, _ => ⟨by decide +kernel, by rw [sizeLine_eq]; decide⟩
  | y :: ys, h, hl => by
    simp only [List.map_cons, List.sum_cons] at hl
    exact okS_append (h y (by simp)) (catS_ok ys (fun z hz => h z (by simp [hz])) (by omega)) (by rw [catS_len]; exact hl)
theorem sum0 {ys : List Str} (h : (ys.map (·.length)).sum ≤ line) : (ys.map (·.length)).sum + ys.length * (⟨#[]⟩ : Str).length ≤ 16777216 := by
  have e : (⟨#[]⟩ : Str).length = 0 := rfl
  rw [e, Nat.mul_zero, Nat.add_zero]
  exact h
theorem fold_cat : ∀ (ys : List Str) (acc : Array Nat), ys.foldl (fun acc p => acc ++ (⟨#[]⟩ : Str).cps ++ p.cps) acc = acc ++ (catS ys).cps
  | [], acc => by
    show acc = acc ++ #[]
    simp
  | y :: ys, acc => by
    rw [List.foldl_cons, fold_cat ys]
    show acc ++ #[] ++ y.cps ++ (catS ys).cps = acc ++ (y.cps ++ (catS ys).cps)
    simp [Array.append_assoc]
theorem join_cat (ys : List Str) : Txt.join ⟨#[]⟩ ys = catS ys := by
  cases ys with
  | nil => rfl
  | cons y ys =>
    show (⟨ys.foldl (fun acc p => acc ++ (⟨#[]⟩ : Str).cps ++ p.cps) y.cps⟩ : Str) = y ++ catS ys
    rw [fold_cat]
    rfl
theorem joinS_len (a : Str) : ∀ ys : List Str, (joinS a ys).length ≤ (ys.map (·.length)).sum + ys.length * a.length
  | [] => Nat.zero_le _
  | [y] => by simp [joinS]
  | y :: z :: r => by
    have ih := joinS_len a (z :: r)
    have e : (joinS a (y :: z :: r)).length = y.length + a.length + (joinS a (z :: r)).length := by
      show (y ++ a ++ joinS a (z :: r)).cps.size = _
      show (y.cps ++ a.cps ++ (joinS a (z :: r)).cps).size = _
      rw [Array.size_append, Array.size_append]; rfl
    simp only [List.map_cons, List.sum_cons, List.length_cons] at ih ⊢
    rw [e, Nat.succ_mul]
    omega
theorem joinS_ok {a : Str} (ha : okS a) : ∀ ys : List Str, (∀ y ∈ ys, okS y) → (ys.map (·.length)).sum + ys.length * a.length ≤ line → okS (joinS a ys)
  | [], _, _ => catS_ok [] (fun _ h => nomatch h) (Nat.zero_le _)
  | [y], h, _ => h y (by simp)
  | y :: z :: r, h, hl => by
    have h1 := joinS_len a (z :: r)
    have e : (y :: z :: r).length * a.length = a.length + (z :: r).length * a.length := by rw [List.length_cons, Nat.succ_mul, Nat.add_comm]
    rw [e] at hl
    simp only [List.map_cons, List.sum_cons] at hl h1
    have ih := joinS_ok ha (z :: r) (fun x hx => h x (by simp only [List.mem_cons] at hx ⊢; exact .inr hx)) (by simp only [List.map_cons, List.sum_cons]; omega)
    have e2 : (y ++ a).length = y.length + a.length := by show (y.cps ++ a.cps).size = _; rw [Array.size_append]; rfl
    exact okS_append (okS_append (h y (by simp)) ha (by omega)) ih (by rw [e2]; omega)
theorem fold_joinS (a : Str) : ∀ (ys : List Str) (y : Str) (acc : Array Nat), ys.foldl (fun acc p => acc ++ a.cps ++ p.cps) (acc ++ y.cps) = acc ++ (joinS a (y :: ys)).cps
  | [], y, acc => rfl
  | z :: r, y, acc => by
    rw [List.foldl_cons, fold_joinS a r z (acc ++ y.cps ++ a.cps)]
    show acc ++ y.cps ++ a.cps ++ _ = acc ++ (y.cps ++ a.cps ++ (joinS a (z :: r)).cps)
    simp [Array.append_assoc]
theorem join_joinS (a : Str) (ys : List Str) : Txt.join a ys = joinS a ys := by
  cases ys with
  | nil => rfl
  | cons y ys =>
    show (⟨ys.foldl (fun acc p => acc ++ a.cps ++ p.cps) y.cps⟩ : Str) = joinS a (y :: ys)
    have := fold_joinS a ys y #[]
    rw [Array.empty_append, Array.empty_append] at this
    rw [this]
theorem okS_sub {x : Str} {a : List Nat} (hx : okS x) (h : ∃ l r, x.cps.toList = l ++ a ++ r) : okS ⟨a.toArray⟩ := by
  obtain ⟨l, r, e⟩ := h
  refine ⟨?_, ?_⟩
  · have h1 := hx.1
    unfold PyData.strOk at h1 ⊢
    rw [Array.all_eq_true_iff_forall_mem] at h1 ⊢
    intro c hc
    have hc : c ∈ a := by simpa using hc
    exact h1 c (by rw [← Array.mem_toList_iff, e]; simp [hc])
  · have h2 := hx.2
    have : x.length = x.cps.toList.length := by simp [Str.length]
    rw [this, e] at h2
    show a.toArray.size ≤ sizeLine
    simp at h2 ⊢
    omega
theorem upper_one (ch : Nat) (h : ch < 128) : Txt.isupper ⟨#[ch]⟩ = decide (65 ≤ ch ∧ ch ≤ 90) := by
  have : ∀ c : Fin 128, Txt.isupper ⟨#[c.val]⟩ = decide (65 ≤ c.val ∧ c.val ≤ 90) := by decide +kernel
  exact this ⟨ch, h⟩
theorem rcut_spec {c : Nat} : ∀ {xs a b : List Nat}, rcut c xs = some (a, b) → xs = a ++ c :: b ∧ c ∉ b
  | [], a, b, h => by cases h
  | x :: r, a, b, h => by
    unfold rcut at h
    split at h
    · rename_i a' b' e
      cases h
      obtain ⟨h1, h2⟩ := rcut_spec e
      exact ⟨by rw [h1]; rfl, h2⟩
    · rename_i e
      split at h
      · rename_i hx
        cases h
        refine ⟨by rw [hx]; rfl, fun hm => ?_⟩
        exact absurd e (rcut_mem hm)
      · cases h
where
  rcut_mem {c : Nat} : ∀ {xs : List Nat}, c ∈ xs → rcut c xs ≠ none
    | [], h => by cases h
    | x :: r, h => by
      unfold rcut
      split
      · simp
      · rename_i e
        split
        · simp
        · rename_i hx
          rcases List.mem_cons.mp h with rfl | h
          · exact absurd rfl hx
          · exact absurd e (rcut_mem h)
theorem at_one {x : Str} {c k : Nat} : StrLaws.At x ⟨#[c]⟩ x.length k ↔ x.cps.toList[k]? = some c := by
  have hl : x.length = x.cps.size := rfl
  unfold StrLaws.At Builtin.Str.subAt
  show k + 1 ≤ x.length ∧ (x.cps.extract k (k + 1) == #[c]) = true ↔ _
  rw [beq_iff_eq, hl, Array.getElem?_toList]
  constructor
  · rintro ⟨h1, h2⟩
    have h3 : (x.cps.extract k (k + 1))[0]? = some c := by rw [h2]; rfl
    rw [Array.getElem?_extract] at h3
    split at h3
    · simpa using h3
    · cases h3
  · intro h
    obtain ⟨h1, h2⟩ := Array.getElem?_eq_some_iff.mp h
    refine ⟨h1, ?_⟩
    apply Array.ext_getElem?
    intro j
    rw [Array.getElem?_extract]
    rcases j with _ | j
    · rw [if_pos (by omega)]
      simp [h2, h1]
    · rw [if_neg (by omega)]
      simp
theorem rpart_ok {x : Str} {c : Nat} {a b : List Nat} (h : rcut c x.cps.toList = some (a, b)) : rpartS x ⟨#[c]⟩ = (⟨a.toArray⟩, ⟨#[c]⟩, ⟨b.toArray⟩) ∧ (∃ l r, x.cps.toList = l ++ a ++ r) ∧ ∃ l r, x.cps.toList = l ++ b ++ r := by
  obtain ⟨e, hn⟩ := rcut_spec h
  refine ⟨?_, ⟨[], c :: b, by simpa using e⟩, ⟨a ++ [c], [], by simpa using e⟩⟩
  have ha : StrLaws.At x ⟨#[c]⟩ x.length a.length := by rw [at_one, e]; simp
  have hi : Builtin.Str.lastOccurrence x ⟨#[c]⟩ 0 x.length = some a.length := by
    rcases StrLaws.last_spec x ⟨#[c]⟩ with ⟨_, h2⟩ | ⟨i, h1, h2, h3⟩
    · exact absurd ha (h2 _)
    · rw [h1]
      have h4 : ¬ i < a.length := fun hlt => h3 _ hlt ha
      have h5 : ¬ a.length < i := fun hlt => by
        rw [at_one, e] at h2
        obtain ⟨j, rfl⟩ : ∃ j, i = a.length + (j + 1) := ⟨i - a.length - 1, by omega⟩
        rw [List.getElem?_append_right (by omega), show a.length + (j + 1) - a.length = j + 1 by omega, List.getElem?_cons_succ] at h2
        exact hn (List.mem_of_getElem? h2)
      congr 1
      omega
  have hx : x.cps = (a ++ c :: b).toArray := by rw [← e]
  have hl : x.length = a.length + (b.length + 1) := by
    show x.cps.size = _
    rw [hx]; simp
  unfold rpartS
  rw [hi]
  have e1 : (Builtin.Str.strSub x 0 a.length) = (⟨a.toArray⟩ : Str) := by
    unfold Builtin.Str.strSub
    rw [hx]
    simp
  have e2 : (Builtin.Str.strSub x (a.length + (⟨#[c]⟩ : Str).length) x.length) = (⟨b.toArray⟩ : Str) := by
    unfold Builtin.Str.strSub
    have : (⟨#[c]⟩ : Str).length = 1 := rfl
    rw [this, hl, hx]
    simp [List.drop_append]
    rw [show a.length + (b.length + 1) - (a.length + 1) = b.length by omega]
    rw [List.drop_eq_nil_of_le (by omega)]; simp
  simp only [e1, e2]
theorem strsAreG : ∀ {ys : List Str} {vs : List Value}, Vals (ys.map V.str) vs → StrsAre vs ys
  | [], _, h => by cases h; exact .nil
  | y :: ys, _, h => by
    cases h with
    | cons h t =>
      obtain ⟨k, rfl⟩ := h
      exact .cons _ _ (strsAreG t)
theorem countIn_strs (k : Str) : ∀ ys : List Str, countIn (.str k) (ys.map PyData.str) = (ys.count k : Nat)
  | [] => rfl
  | y :: ys => by
    rw [List.map_cons, countIn, countIn_strs k ys, List.count_cons]
    by_cases e : y = k
    · subst e
      simp [same]
      omega
    · simp [same, e]
theorem mt_count : MtR X "list.count" (fun x xs H Q => ∃ (a : Addr) (ys : List Str) (k : Str), x = V.ref a ∧ xs = [V.str k] ∧ SqL X.K H a (ys.map V.str) ∧ Q (.int (ys.count k : Nat)) H) := by
  intro pins s σ H x xs v us Q I rx rxs h
  obtain ⟨a, ys, k, rfl, rfl, hs, q⟩ := h
  cases rx
  obtain ⟨u, rfl, ⟨t, rfl⟩⟩ := vals1 rxs
  obtain ⟨its, rv, hl, hlen⟩ := I.list hs
  refine count_list_strs hl.isList (strsAreG rv) ?_
  rw [countIn_strs]
  exact ⟨.int _, H, I.tok _, ⟨_, rfl⟩, q⟩
theorem mt_ok (hK : c.K = X.K) (hu : X.A.units + 65 < cLine) (m : Mt) : MtR X (mtI m) (rWm c (mtW m)) := by
  intro pins s σ H x xs v us Q I rx rxs h
  obtain ⟨Φ, ι, S, w, ws, E, r, r1, r2, h⟩ := h
  unfold mtW at h
  split at h
  · obtain ⟨z, rfl, rz⟩ := rvs1 r2
    cases r1 with
    | loc hl =>
      split at h
      · rename_i ys zs q qz
        split at h
        · rename_i hz
          obtain ⟨_, vs, q1, t⟩ := r.live _ _ _ hl q
          obtain ⟨b, us', eb, q2, t2⟩ := lstW_ok r rz qz
          subst eb
          exact mt_extend pins s σ H _ _ v us Q I rx rxs ⟨_, b, _, us', rfl, rfl, q1, q2, by rw [← t.length, ← t2.length, sizeLine_eq]; exact hz, setS_ok r hl q (t.append t2) .non h⟩
        · exact h.elim
      · exact h.elim
  · cases r2
    cases r1 with
    | loc hl =>
      split at h
      · rename_i ys q
        obtain ⟨_, vs, q1, t⟩ := r.live _ _ _ hl q
        exact mt_clear pins s σ H _ _ v us Q I rx rxs ⟨_, _, rfl, rfl, q1, setS_ok r hl q .nil .non h⟩
      · exact h.elim
  · obtain ⟨z, rfl, rz⟩ := rvs1 r2
    split at h
    · rename_i zs a ez ea
      split at h
      · rename_i j ej
        have d1 := dok_of r 60 _ _ _ r1 ez
        have d2 := dok_of r 60 _ _ _ rz ea
        have hp : W.pls zs = true := by simpa [W.pl] using d1.pl
        obtain ⟨hj, e1, e2⟩ := List.findIdx?_eq_some_iff_getElem.mp ej
        obtain ⟨b, us', eb⟩ : ∃ b us', x = V.ref b ∧ us' = us := by
          cases r1 <;> first | exact ⟨_, _, rfl, rfl⟩ | (simp [resW] at ez)
        obtain ⟨rfl, _⟩ := eb
        refine mt_indexD hu pins s σ H _ _ v us Q I rx rxs ⟨b, z, dataW a, datasW zs, j, dataW zs[j], rfl, rfl, hK ▸ (by simpa only [dataW] using d1.dp), hK ▸ d2.dp, by simpa only [dataW] using d1.shaped, d2.shaped, by rw [datas_get, List.getElem?_eq_getElem hj]; rfl, ?_, fun m z' hm hz' => ?_, same_ok r (.int _) h⟩
        · rw [eqb_eqv _ _ (pls_get hp (List.getElem?_eq_getElem hj)) d2.pl]
          exact e1
        · rw [datas_get, List.getElem?_eq_getElem (by omega)] at hz'
          cases hz'
          rw [eqb_eqv _ _ (pls_get hp (List.getElem?_eq_getElem (by omega))) d2.pl]
          simpa using e2 m hm
      · exact h.elim
    · exact h.elim
  · obtain ⟨z, rfl, rz⟩ := rvs1 r2
    split at h
    · rename_i ha
      subst ha
      split at h
      · rename_i xs el
        split at h
        · rename_i ys es
          split at h
          · rename_i hz
            cases r1
            obtain ⟨b, us', eb, q2, t2⟩ := lstW_ok r rz el
            subst eb
            obtain ⟨e1, e2⟩ := strs_ok t2 es
            subst e1
            exact mt_join pins s σ H _ _ v us Q I rx rxs ⟨⟨#[]⟩, b, ys, rfl, rfl, .inl (SqL.of q2), sum0 hz, by rw [join_cat]; exact same_ok r (.str (catS_ok ys e2 hz)) h⟩
          · exact h.elim
        · exact h.elim
      · exact h.elim
    · split at h
      · rename_i xs el
        split at h
        · rename_i ys es
          split at h
          · rename_i hz
            cases r1 with
            | str ha =>
              obtain ⟨b, us', eb, q2, t2⟩ := lstW_ok r rz el
              subst eb
              obtain ⟨e1, e2⟩ := strs_ok t2 es
              subst e1
              exact mt_join pins s σ H _ _ v us Q I rx rxs ⟨_, b, ys, rfl, rfl, .inl (SqL.of q2), hz, by rw [join_joinS]; exact same_ok r (.str (joinS_ok ha ys e2 hz)) h⟩
          · exact h.elim
        · exact h.elim
      · exact h.elim
  · obtain ⟨z, rfl, rz⟩ := rvs1 r2
    cases r1 with
    | loc hl =>
      split at h
      · rename_i ys q
        split at h
        · rename_i hz
          obtain ⟨_, vs, q1, t⟩ := r.live _ _ _ hl q
          exact mt_append pins s σ H _ _ v us Q I rx rxs ⟨_, _, _, rfl, rfl, q1, by rw [← t.length, sizeLine_eq]; exact hz, setS_ok r hl q (t.append (.cons rz .nil)) .non h⟩
        · exact h.elim
      · exact h.elim
  · obtain ⟨z, rfl, rz⟩ := rvs1 r2
    cases rz
    cases r1 with
    | loc hl =>
      split at h
      · rename_i ys q
        split at h
        · rename_i k e
          split at h
          · rename_i y e2
            obtain ⟨_, vs, q1, t⟩ := r.live _ _ _ hl q
            obtain ⟨u, e3, ru⟩ := t.get e2
            have e' := e
            have hz : vs.length ≤ sizeLine := (show ObjOk X.prog X.w H s.heap _ (.lst vs) from I.hok _ _ q1).1
            have hl' := t.length
            rw [sizeLine_eq] at hz
            obtain ⟨b1, b2, b3, b4⟩ := ixN_seq (show ixN ys.length _ = some k from e)
            exact mt_popAt pins s σ H _ _ v us Q I rx rxs ⟨_, _, _, k, u, rfl, rfl, q1, by omega, by omega, by rw [← hl']; exact b1, e3, setS_ok r hl q (t.eraseIdx k) ru h⟩
          · exact h.elim
        · exact h.elim
      · exact h.elim
  · cases r2
    cases r1 with
    | loc hl =>
      split at h
      · rename_i ys q
        split at h
        · rename_i y e2
          obtain ⟨_, vs, q1, t⟩ := r.live _ _ _ hl q
          obtain ⟨u, e3, ru⟩ := t.get e2
          exact mt_pop pins s σ H _ _ v us Q I rx rxs ⟨_, _, u, rfl, rfl, q1, by rw [← t.length]; exact e3, setS_ok r hl q t.dropLast ru h⟩
        · exact h.elim
      · exact h.elim
  · cases r2
    cases r1 with
    | str hx =>
      split at h
      · rename_i ch ec
        have ex := one_sign ec
        split at h
        · rename_i hr
          refine mt_isupper pins s σ H _ _ v us Q I rx rxs ⟨_, rfl, rfl, trivial, ?_⟩
          rw [ex, upper_one ch (by omega), decide_eq_true hr]
          exact same_ok r (.bl _) h
        · rename_i hr
          split at h
          · rename_i hr2
            refine mt_isupper pins s σ H _ _ v us Q I rx rxs ⟨_, rfl, rfl, trivial, ?_⟩
            rw [ex, upper_one ch (by omega), decide_eq_false hr]
            exact same_ok r (.bl _) h
          · exact h.elim
      · exact h.elim
  · obtain ⟨z, rfl, rz⟩ := rvs1 r2
    cases rz
    cases r1
    rename_i x y hy hx
    split at h
    · rename_i ch ec
      have ey := one_sign ec
      subst ey
      split at h
      · rename_i a b er
        obtain ⟨p1, p2, p3⟩ := rpart_ok er
        refine mt_rpartition pins s σ H _ _ v us Q I rx rxs ⟨_, _, rfl, rfl, rfl, hx.2, ?_⟩
        rw [p1]
        exact newT_ok r (.cons (.str (okS_sub hx p2)) (.cons (.str hy) (.cons (.str (okS_sub hx p3)) .nil))) h
      · exact h.elim
    · exact h.elim
  · obtain ⟨z, rfl, rz⟩ := rvs1 r2
    cases rz
    split at h
    · rename_i xs el
      split at h
      · rename_i ys es
        obtain ⟨b, us', eb, q2, t2⟩ := lstW_ok r r1 el
        subst eb
        obtain ⟨e1, e2⟩ := strs_ok t2 es
        subst e1
        exact mt_count pins s σ H _ _ v us Q I rx rxs ⟨b, ys, _, rfl, rfl, SqL.of q2, same_ok r (.int _) h⟩
      · exact h.elim
    · exact h.elim
  · cases r2 with
    | cons ra rb =>
      cases rb with
      | cons rb rc =>
        cases rc
        cases ra
        cases r1 with
        | loc hl =>
          split at h
          · rename_i ys q
            split at h
            · rename_i hz
              obtain ⟨_, vs, q1, t⟩ := r.live _ _ _ hl q
              exact mt_insert pins s σ H _ _ v us Q I rx rxs ⟨_, _, _, _, rfl, rfl, q1, by rw [← t.length, sizeLine_eq]; exact hz.1, hz.2.1, hz.2.2, setS_ok r hl q (((t.take _).append (.cons rb .nil)).append (t.drop _)) .non h⟩
            · exact h.elim
          · exact h.elim
  · exact h.elim
end
/-! ### x[::-1] -/
section
variable {prog : Program} {w : World} {A : Around} {E : Value → Shared → Prop} {s : Shared}
theorem adjust_rev (n : Nat) : Builtin.Slice.sliceAdjust none none (-1) (n : Int) = ((n : Int) - 1, -1) := rfl
theorem places_rev (n : Nat) : Builtin.Slice.slicePlaces ((n : Int) - 1) (-1) (-1) = n := by
  unfold Builtin.Slice.slicePlaces
  simp only [show ¬ ((-1 : Int) > 0) by omega, if_false, show (- -1 : Int) = 1 by omega, Int.ediv_one]
  split <;> omega
theorem applied_rev {sl : Addr} {vs : Value} {n : Nat} {Q : Int × Int × Nat → Shared → Prop} (hs : s.heap.IsSliceOf sl .none .none vs) (ps : IsPart vs (some (-1)))
    (h : Q ((n : Int) - 1, -1, n) s) : wpAny (model prog w) A (Builtin.Slice.sliceApplied (.ref sl) (pure (n : Int))) Q E s := by
  obtain ⟨os, hos, hcs, hds⟩ := id hs
  unfold Builtin.Slice.sliceApplied Builtin.Slice.sliceFields
  refine wpAny_bind (wpAny_bind (wpAny_field hos hds (x := .none) rfl (wpAny_bind (wpAny_field hos hds (x := .none) rfl (wpAny_bind (wpAny_field hos hds (x := vs) rfl (wpAny_pure ?_)))))))
  refine wpAny_bind (HT.slicePart_ ps ?_)
  show wpAny _ _ (if ((-1 : Int) == 0) = true then _ else _) _ _ s
  rw [if_neg (by decide)]
  refine wpAny_bind (HT.slicePart_ .none (wpAny_bind (HT.slicePart_ .none (wpAny_bind (wpAny_pure ?_)))))
  show wpAny _ _ (match Builtin.Slice.sliceAdjust none none (-1) (n : Int) with | (lo, hi) => pure (lo, (-1 : Int), Builtin.Slice.slicePlaces lo hi (-1))) _ _ s
  rw [adjust_rev n]
  show wpAny _ _ (pure ((n : Int) - 1, (-1 : Int), Builtin.Slice.slicePlaces ((n : Int) - 1) (-1) (-1))) _ _ s
  rw [places_rev]
  exact wpAny_pure h
theorem pick_rev (xs : Array Value) : ((List.range xs.size).filterMap fun (m : Nat) => xs[(((xs.size : Int) - 1) + (m : Int) * (-1)).toNat]?).toArray = xs.toList.reverse.toArray := by
  have e : ((List.range xs.size).filterMap fun (m : Nat) => xs[(((xs.size : Int) - 1) + (m : Int) * (-1)).toNat]?) = ((List.range xs.size).map fun k => xs.size - 1 - k).filterMap (xs[·]?) := by
    rw [List.filterMap_map]
    have g : ∀ l : List Nat, (∀ m ∈ l, m < xs.size) → l.filterMap (fun (m : Nat) => xs[(((xs.size : Int) - 1) + (m : Int) * (-1)).toNat]?) = l.filterMap ((fun x => xs[x]?) ∘ fun k => xs.size - 1 - k) := by
      intro l
      induction l with
      | nil => intro _; rfl
      | cons m r ih =>
        intro hm
        have h1 := hm m (by simp)
        have e : (((xs.size : Int) - 1) + (m : Int) * (-1)).toNat = xs.size - 1 - m := by omega
        rw [List.filterMap_cons, List.filterMap_cons, ih fun z hz => hm z (by simp [hz]), e]
        rfl
    exact g _ fun m hm => List.mem_range.mp hm
  rw [e, PySem.W.krv_range, List.filterMap_reverse, PySem.W.krv_all]
theorem getItem_tuple_rev {t sl : Addr} {items : Array Value} {vs : Value} {Q : Value → Shared → Prop} (ht : IsTup s.heap t items) (hs : s.heap.IsSliceOf sl .none .none vs) (ps : IsPart vs (some (-1)))
    (h : Q (.ref s.heap.objs.size) { s with heap := s.heap.push { cls := .type "tuple", data := .seq items.toList.reverse.toArray } })
    (hsz : items.size ≤ sizeLine) : wpAny (model prog w) A (getItem (.ref t) (.ref sl)) Q E s := by
  have htake : sizeOk (.seq items.toList.reverse.toArray) := by
    show items.toList.reverse.toArray.size ≤ sizeLine
    rw [List.size_toArray, List.length_reverse, Array.length_toList]
    exact hsz
  obtain ⟨os, hos, hcs, hds⟩ := id hs
  have hTs : s.TypeIs (.ref sl) "slice" := ⟨os, hos, hcs⟩
  unfold getItem
  try with_reducible refine wpAny_holding ?_
  first | refine wpAny_bind (wpAny_pure ?_) | skip
  refine wpAny_bind (wpAny_sequenceKey ht.typeIs (by decide) ?_)
  refine wpAny_bind (wpAny_callSpecial?_slot (name := Str.ofString "__getitem__") ht.typeIs PyProof.Rows.slot_tuple_getitem
    (wpAny_call_entry PyProof.Rows.slot_tuple_getitem ht.typeIs entry_tuple_getitem ?_ (args_tuple_getitem _ _)))
  show wpAny _ _ (Builtin.Tuple.tupleItemsOf (.ref t) >>= _) _ _ s
  refine wpAny_bind (tupleItemsOf_ ht ?_)
  refine wpAny_bind (wpAny_typeOf hTs ?_)
  rw [if_pos (by decide)]
  refine wpAny_bind (applied_rev hs ps ?_)
  show wpAny _ _ (if (((items.size : Int) - 1 == 0 && (-1 : Int) == 1 && items.size == items.size)) = true then _ else _) _ _ s
  rw [if_neg (by rw [show ((-1 : Int) == 1) = false from rfl, Bool.and_false, Bool.false_and]; exact Bool.false_ne_true), pick_rev]
  first
    | exact wpAny_bind (m := Builtin.Tuple.tupleExact _) (wpAny_newObj_type (wpAny_pure ⟨_, rfl, wpAny_pure h⟩) htake)
    | exact wpAny_bind (m := Builtin.Tuple.tupleExact _) (wpAny_newObj_type (wpAny_bind (wpAny_pure (wpAny_pure ⟨_, rfl, wpAny_pure h⟩))) htake)
    | exact wpAny_bind (wpAny_bind (m := Builtin.Tuple.tupleExact _) (wpAny_newObj_type (wpAny_pure (wpAny_pure ⟨_, rfl, wpAny_pure h⟩)) htake))
    | exact wpAny_bind (wpAny_bind (m := Builtin.Tuple.tupleExact _) (wpAny_newObj_type (wpAny_pure ⟨_, rfl, wpAny_pure h⟩) htake))
end
section
variable {X : Cx} {c : Cf}
theorem RVs.reverse {K : Frag} {Φ : Hp} {ι : List Addr} : ∀ {xs : List W} {vs : List V}, RVs K Φ ι xs vs → RVs K Φ ι xs.reverse vs.reverse
  | [], _, r => by cases r; exact .nil
  | x :: xs, _, r => by
    cases r with
    | cons h t => simp only [List.reverse_cons]; exact (RVs.reverse t).append (.cons h .nil)
theorem pe_revT {e : Expr} {te : TE} {k : Nat} {p1 p2 p3 pos : Pos} (he : PE X e te) : PE X (.Subscript e (.Slice none none (some (.UnaryOp .USub (.Constant (.int 1) k p1) p2)) p3) pos)
    (fun σ H Q => te σ H fun x H1 => ∃ a xs, x = .ref a ∧ ((SqT X.K H1 a xs ∧ ∀ p, H1 p = none → Q (.ref p) (upd H1 p (.tup xs.reverse))) ∨ (SqL X.K H1 a xs ∧ ∀ p, H1 p = none → Q (.ref p) (upd H1 p (.lst xs.reverse))))) := by
  refine ⟨fun pins s σ H Q I h => ?_⟩
  refine Subscript_ (thn (he.run pins s σ H _ I h) fun v s1 ⟨x, H1, I1, r1, q1⟩ => ?_)
  obtain ⟨a, xs, ex, q⟩ := q1
  subst ex
  cases r1
  have hst : PO X (some (.UnaryOp .USub (.Constant (.int 1) k p1) p2)) (tPart (tUn (rU fun i => .int (-i)) (tC (.int 1)))) := po_some (pe_un un_neg pe_int)
  refine wpAny_Slice (thn (po_none.run pins s1 σ H1 (fun o H2 => o = none ∧ H2 = H1) I1 ⟨rfl, rfl⟩) fun vl s2 ⟨l, H2, I2, pl, el, e2⟩ => ?_)
  subst el e2
  refine thn (po_none.run pins s2 σ H2 (fun o H3 => o = none ∧ H3 = H2) I2 ⟨rfl, rfl⟩) fun vu s3 ⟨u, H3, I3, pu, eu, e3⟩ => ?_
  subst eu e3
  refine thn (hst.run pins s3 σ H3 (fun o H4 => o = some (-1) ∧ H4 = H3) I3 ⟨1, rfl, -1, rfl, rfl, rfl⟩) fun vs s4 ⟨o, H4, I4, ps, eo, e4⟩ => ?_
  subst eo e4
  cases pl
  cases pu
  have I5 : Inv X pins σ H4 { s4 with heap := s4.heap.push { cls := .type "slice", data := .fields #[.none, .none, vs] } } := I4.kept (t' := s4.toks) fun b ob q => Heap.get?_push_of_some _ q
  show wpAny (model X.prog X.w) X.A (subscriptTail e (.Slice none none (some (.UnaryOp .USub (.Constant (.int 1) k p1) p2)) p3) (.ref a) (.ref s4.heap.objs.size)) (EP X pins σ Q) X.xe { s4 with heap := s4.heap.push { cls := .type "slice", data := .fields #[.none, .none, vs] } }
  rcases q with ⟨hx, q⟩ | ⟨hx, q⟩
  · obtain ⟨its, r, ht, hz⟩ := I5.tuple hx
    have hlen := r.length
    refine tail_any (ops := [.ref a, .ref s4.heap.objs.size]) ht.typeIs (PyProof.Rows.slot_tuple_getitem.lookup) ?_ (by with_unfolding_all rfl)
    refine getItem_tuple_rev ht (Heap.IsSliceOf.new _ .none .none vs) ps ?_ (by rw [List.size_toArray]; omega)
    refine ⟨.ref _, _, I5.laid (t' := s4.toks) (o := .tup xs.reverse) (fun b ob q => Heap.get?_push_of_some _ q) (Nat.le_refl _) ?_, rfl, q _ (I5.hok.fresh (Nat.le_refl _))⟩
    exact ⟨by rw [List.length_reverse]; exact hz, _, r.reverse, IsTup.new _ _⟩
  · obtain ⟨its, r, ht, hz⟩ := I5.list hx
    have hlen := r.length
    refine tail_any (ops := [.ref a, .ref s4.heap.objs.size]) ht.isList.typeIs (PySem.slot_list_getitem.lookup) ?_ (by with_unfolding_all rfl)
    refine wpAny_getItem_list_slice ht.isList (Heap.IsSliceOf.new _ .none .none vs) .none .none ps (by decide) ?_ (by rw [List.size_toArray]; omega)
    rw [PySem.W.krv_pick]
    refine ⟨.ref _, _, I5.laid (t' := s4.toks) (o := .lst xs.reverse) (fun b ob q => Heap.get?_push_of_some _ q) (Nat.le_refl _) ?_, rfl, q _ (I5.hok.fresh (Nat.le_refl _))⟩
    exact ⟨by rw [List.length_reverse]; exact hz, _, 0, r.reverse, Heap.get?_push_size _ rfl⟩
theorem pick_rev2 (items : Array Value) : slicePick items (some (-2)) none (some (-1)) = items.toList.dropLast.reverse.toArray := by
  have hb : sliceBounds (some (-2)) none (some (-1)) items.size = (((items.size - 1 : Nat) : Int) - 1, -1, -1) := by
    show (max (-1) (min (if (-2 : Int) < 0 then -2 + (items.size : Int) else -2) ((items.size : Int) - 1)), (-1 : Int), (-1 : Int)) = _
    rw [if_pos (by decide)]
    congr 1
    omega
  unfold slicePick
  rw [hb]
  show ((sliceRange (((items.size - 1 : Nat) : Int) - 1) (-1) (-1)).filterMap (items[·]?)).toArray = _
  rw [PySem.W.krv_sliceRange, PySem.W.krv_range, List.filterMap_reverse]
  have h := pick_run items 0 (items.size - 1)
  have e : (List.range (items.size - 1)).map (0 + ·) = List.range (items.size - 1) := by
    rw [show ((0 + ·) : Nat → Nat) = id from funext fun k => Nat.zero_add k, List.map_id]
  rw [e, List.drop_zero] at h
  rw [h, List.dropLast_eq_take, Array.length_toList]
theorem RVs.dropL {K : Frag} {Φ : Hp} {ι : List Addr} {xs : List W} {vs : List V} (h : RVs K Φ ι xs vs) : RVs K Φ ι xs.dropLast vs.dropLast := by
  rw [List.dropLast_eq_take, List.dropLast_eq_take, ← h.length]
  exact h.take _
theorem pe_rev2 {e : Expr} {te : TE} {k k2 : Nat} {p0 p0' p1 p2 p3 pos : Pos} (he : PE X e te) : PE X (.Subscript e (.Slice (some (.UnaryOp .USub (.Constant (.int 2) k2 p0) p0')) none (some (.UnaryOp .USub (.Constant (.int 1) k p1) p2)) p3) pos)
    (fun σ H Q => te σ H fun x H1 => ∃ a xs, x = .ref a ∧ SqL X.K H1 a xs ∧ ∀ p, H1 p = none → Q (.ref p) (upd H1 p (.lst xs.dropLast.reverse))) := by
  refine ⟨fun pins s σ H Q I h => ?_⟩
  refine Subscript_ (thn (he.run pins s σ H _ I h) fun v s1 ⟨x, H1, I1, r1, q1⟩ => ?_)
  obtain ⟨a, xs, ex, hx, q⟩ := q1
  subst ex
  cases r1
  have hst : PO X (some (.UnaryOp .USub (.Constant (.int 1) k p1) p2)) (tPart (tUn (rU fun i => .int (-i)) (tC (.int 1)))) := po_some (pe_un un_neg pe_int)
  have hlo : PO X (some (.UnaryOp .USub (.Constant (.int 2) k2 p0) p0')) (tPart (tUn (rU fun i => .int (-i)) (tC (.int 2)))) := po_some (pe_un un_neg pe_int)
  refine wpAny_Slice (thn (hlo.run pins s1 σ H1 (fun o H2 => o = some (-2) ∧ H2 = H1) I1 ⟨2, rfl, -2, rfl, rfl, rfl⟩) fun vl s2 ⟨l, H2, I2, pl, el, e2⟩ => ?_)
  subst el e2
  refine thn (po_none.run pins s2 σ H2 (fun o H3 => o = none ∧ H3 = H2) I2 ⟨rfl, rfl⟩) fun vu s3 ⟨u, H3, I3, pu, eu, e3⟩ => ?_
  subst eu e3
  refine thn (hst.run pins s3 σ H3 (fun o H4 => o = some (-1) ∧ H4 = H3) I3 ⟨1, rfl, -1, rfl, rfl, rfl⟩) fun vs s4 ⟨o, H4, I4, ps, eo, e4⟩ => ?_
  subst eo e4
  cases pu
  have I5 : Inv X pins σ H4 { s4 with heap := s4.heap.push { cls := .type "slice", data := .fields #[vl, .none, vs] } } := I4.kept (t' := s4.toks) fun b ob q => Heap.get?_push_of_some _ q
  show wpAny (model X.prog X.w) X.A (subscriptTail e (.Slice (some (.UnaryOp .USub (.Constant (.int 2) k2 p0) p0')) none (some (.UnaryOp .USub (.Constant (.int 1) k p1) p2)) p3) (.ref a) (.ref s4.heap.objs.size)) (EP X pins σ Q) X.xe { s4 with heap := s4.heap.push { cls := .type "slice", data := .fields #[vl, .none, vs] } }
  obtain ⟨its, r, ht, hz⟩ := I5.list hx
  have hlen := r.length
  refine tail_any (ops := [.ref a, .ref s4.heap.objs.size]) ht.isList.typeIs (PySem.slot_list_getitem.lookup) ?_ (by with_unfolding_all rfl)
  refine wpAny_getItem_list_slice ht.isList (Heap.IsSliceOf.new _ vl .none vs) pl .none ps (by decide) ?_ (by rw [List.size_toArray]; omega)
  rw [pick_rev2]
  have rdl : Vals xs.dropLast its.dropLast := by
    rw [List.dropLast_eq_take, List.dropLast_eq_take, ← hlen]
    exact r.take _
  refine ⟨.ref _, _, I5.laid (t' := s4.toks) (o := .lst xs.dropLast.reverse) (fun b ob q => Heap.get?_push_of_some _ q) (Nat.le_refl _) ?_, rfl, q _ (I5.hok.fresh (Nat.le_refl _))⟩
  exact ⟨by rw [List.length_reverse, List.length_dropLast]; omega, _, 0, rdl.reverse, Heap.get?_push_size _ rfl⟩
theorem rev_key (hK : c.K = X.K) (fz : Bool) : ∀ (Q : VK) (x : V) (H1 : Hp), (∃ (Φ : Hp) (ι : List Addr) (S : Store) (w1 : W) (E : XK), Rel c.K Φ ι S H1 ∧ RV c.K Φ ι w1 x ∧ After c Φ ι H1 (revW fz w1 S) (QV c Q) E) →
    ∃ a xs, x = .ref a ∧ ((SqT X.K H1 a xs ∧ ∀ p, H1 p = none → Q (.ref p) (upd H1 p (.tup xs.reverse))) ∨ (SqL X.K H1 a xs ∧ ∀ p, H1 p = none → Q (.ref p) (upd H1 p (.lst xs.reverse)))) := by
  intro Q x H1 ⟨Φ, ι, S, w1, E, r, r1, h⟩
  unfold revW at h
  split at h
  · cases r1 with
    | tup s1 t1 => exact ⟨_, _, rfl, .inl ⟨hK ▸ SqT.mono r.sub s1, fun p hp => newT_ok r t1.reverse h p hp⟩⟩
  · split at h
    · rename_i xs e
      obtain ⟨a, vs, rfl, q, t⟩ := seqW_ok r r1 e
      obtain ⟨_, k⟩ := newL_ok r t.reverse h
      rcases q with q | q
      · exact ⟨_, _, rfl, .inr ⟨hK ▸ q, k⟩⟩
      · cases r1 with
        | tup s1 t1 => exact absurd rfl (‹∀ (ys : List W), W.tup _ = W.tup ys → False› _)
        | lst s1 t1 =>
          have e' : xs = _ := (Option.some.inj e).symm
          subst e'
          exact ⟨_, _, rfl, .inr ⟨SqL.of (r.sub _ _ s1), (newL_ok r t1.reverse h).2⟩⟩
        | scr s1 =>
          have e' : xs = _ := (Option.some.inj e).symm
          subst e'
          exact ⟨_, _, rfl, .inr ⟨hK ▸ SqL.mono r.sub s1, (newL_ok r RVs.of_ints.reverse h).2⟩⟩
        | loc hl =>
          obtain ⟨a', vs', e1, q', t'⟩ := lstW_ok (xs := xs) r (.loc hl) e
          exact ⟨a', vs', e1, .inr ⟨SqL.of q', (newL_ok r t'.reverse h).2⟩⟩
        | _ => cases e
    · exact h.elim
end
/-! ### range of any two numbers -/
theorem turn_long {P : Program} {w : World} {K : PySem.W.Frag} {tg : Expr} (it : Addr) (lo : Int) (n : Nat) : Turn P w K tg (Itr lo n) [it] it (fun i h => IsLongIter h it (lo + (i : Nat) * 1) ((n : Int) - (i : Nat)) 1) where
  mem := by simp
  obj := fun i h st b hb => by
    have e : b = it := by simpa using hb
    subst e
    exact ⟨_, st, fun v z => by
      have z' : Data.fields _ = Data.cell v := z
      cases z'⟩
  keep := fun i h h' st k => k it (by simp) _ st
  item := by
    intro X hP hw hK hc i pins s σ H E I hf st hg
    subst hP hw hK
    obtain ⟨f0, f1, f2, f3, f4, f5⟩ := hf it (by simp)
    have W := Walks.longrange (prog := X.prog) (w := X.w) (I.ok.hd hc) it lo 1 n
    refine W.item i s _ _ hg st fun v h' tk hv st' kk => ?_
    obtain ⟨t, rfl⟩ := hv
    have I1 : Inv X pins σ H { s with heap := h', toks := tk } := I.turned (fun b o hb e => kk b o (by simpa using hb) e) f0 f1 f3 f4 f5
    refine ⟨_, rfl, go_of (s := { s with heap := h', toks := tk }) (n := "longrange_iterator") st' rfl rfl (by decide) ⟨.int (lo + i), H, I1, ⟨t, ?_⟩, ⟨rfl, rfl⟩, st', fun b hb => (hf b hb).1⟩⟩
    rw [Int.mul_one]
  done := by
    intro X hP hw hK hc i pins s σ H E I hf st hg
    subst hP hw hK
    obtain ⟨f0, f1, f2, f3, f4, f5⟩ := hf it (by simp)
    exact wpAny_pyNext_long_end (I.ok.hd hc) st (by have : n ≤ i := hg; omega) fun h' eb => ⟨rfl, I.turned (t' := s.toks) (fun b o hb e => eb b o hb e) f0 f1 f3 f4 f5⟩
  self := fun _ _ _ _ _ st h => wpAny_pyIter_longiter st h
theorem range_itL {X : Cx} {tg : Expr} {pins : List (Addr × Obj)} {σ : L2.St} {H : Hp} {s : Shared} {R : It → Hp → Prop} {E : Value → Shared → Prop} {lo hi : Int} {t u v : Tok} {tk : Nat} (I : Inv X pins σ H s)
    (q : R (Itr lo (hi - lo).toNat) H) : wpAny (model X.prog X.w) X.A (pyIter (.ref s.heap.objs.size)) (PIE X pins σ tg R) E { s with heap := s.heap.push { cls := .type "range", data := .fields #[.int lo t, .int hi u, .int 1 v] }, toks := tk } := by
  have I1 : Inv X pins σ H { s with heap := s.heap.push { cls := .type "range", data := .fields #[.int lo t, .int hi u, .int 1 v] }, toks := tk } := I.kept fun b o e => Heap.get?_push_of_some _ e
  have e1 : lo + ((0 : Nat) : Int) * 1 = lo := by simp
  have e2 : (((hi - lo).toNat : Nat) : Int) - ((0 : Nat) : Int) = Builtin.Range.rangeSize lo hi 1 := by rw [rangeSize_one]; split <;> omega
  by_cases hsm : Builtin.Range.small lo hi 1 = true
  · refine wpAny_pyIter_range (IsRange.new ..) hsm ?_
    refine ⟨(s.heap.push { cls := .type "range", data := .fields #[.int lo t, .int hi u, .int 1 v] }).objs.size, [(s.heap.push { cls := .type "range", data := .fields #[.int lo t, .int hi u, .int 1 v] }).objs.size], _, _, H, rfl,
      I1.kept (t' := tk) fun b o e => Heap.get?_push_of_some _ e, turn_range _ lo (hi - lo).toNat, ?_, fun b hb => ?_, q⟩
    · show IsRangeIter _ _ (lo + ((0 : Nat) : Int) * 1) ((((hi - lo).toNat : Nat) : Int) - ((0 : Nat) : Int)) 1
      rw [e1, e2]
      exact Heap.get?_push_size _ rfl
    · have e : b = (s.heap.push { cls := .type "range", data := .fields #[.int lo t, .int hi u, .int 1 v] }).objs.size := by simpa using hb
      subst e
      exact I1.fpOk (Nat.le_refl _) (I1.hok.fresh (Nat.le_refl _))
  · refine wpAny_pyIter_longrange (IsRange.new ..) (by simpa using hsm) ?_
    refine ⟨(s.heap.push { cls := .type "range", data := .fields #[.int lo t, .int hi u, .int 1 v] }).objs.size, [(s.heap.push { cls := .type "range", data := .fields #[.int lo t, .int hi u, .int 1 v] }).objs.size], _, _, H, rfl,
      I1.kept (t' := tk) fun b o e => Heap.get?_push_of_some _ e, turn_long _ lo (hi - lo).toNat, ?_, fun b hb => ?_, q⟩
    · show IsLongIter _ _ (lo + ((0 : Nat) : Int) * 1) ((((hi - lo).toNat : Nat) : Int) - ((0 : Nat) : Int)) 1
      rw [e1, e2]
      exact Heap.get?_push_size _ rfl
    · have e : b = (s.heap.push { cls := .type "range", data := .fields #[.int lo t, .int hi u, .int 1 v] }).objs.size := by simpa using hb
      subst e
      exact I1.fpOk (Nat.le_refl _) (I1.hok.fresh (Nat.le_refl _))
def iRng2L (ta : TA) : TI := fun σ H R => ta σ H fun vs H1 => ∃ i j : Int, vs = [.int i, .int j] ∧ R (Itr i (j - i).toNat) H1
theorem pi_range2L {X : Cx} {tg : Expr} {a b : Expr} {ta : TA} {p pos : Pos} (hg : Gl X "range") (hm : X.mg "range" = none) (ha : PA X [a, b] ta) (hs : starEach [a, b] X.env = [(false, eval a X.env), (false, eval b X.env)] := by rfl) (hs2 : starEach [b] X.env = [(false, eval b X.env)] := by rfl) :
    PI X tg (.Call (.Name "range" p) [a, b] [] pos) (iRng2L ta) := by
  refine ⟨fun pins s σ H R I h => ?_⟩
  refine Call_ (ld_blt I hg hm boot_range (PyProof.Rows.callWith_type1 (thn (ha.run pos pins s σ H _ I h) fun us s1 ⟨vs, H1, I1, r1, q1⟩ => ?_) (by rw [hs, hs2]) (by rw [hs2]; rfl)))
  obtain ⟨i, j, e, q⟩ := q1
  subst e
  cases r1 with
  | cons r rr =>
    cases rr with
    | cons r' rr =>
      cases rr
      obtain ⟨t, rfl⟩ := r
      obtain ⟨t', rfl⟩ := r'
      exact call_range_2 (range_itL I1 q)
end Gs
end

section
set_option linter.all false
set_option maxRecDepth 100000
set_option autoImplicit false
namespace Gs
open PySem PySem.Spec PyProof.Rows L2
variable [Wd]

/-! ### the text held against its form -/
structure Ck where
  N : List Str
  sc : Scope
  fn : Str → Bool
  fr : List Str
  fns : List Str
  gls : List Str
  gds : List Str
  xcs : List Str
  kfs : List (Str × Str × Int)
  xfs : List (Str × List Str)
def plainX (x : Str) : Bool := decide (x ≠ "__debug__") && decide (x ≠ "__classdict__") && decide (x ≠ "__name__")
def visB (sc : Scope) (x : Str) : Bool := match sc.names.lookup x with
  | some .local => true
  | some .cell => true
  | some .free => true
  | _ => false
def locB (k : Ck) (x : Str) : Bool := match k.sc.names.lookup x with
  | some .local => true
  | some .cell => k.fn x
  | _ => false
def glB (sc : Scope) (x : Str) : Bool := match sc.names.lookup x with
  | some .globalImplicit => true
  | _ => false
def okSB (x : Str) : Bool := PyData.strOk x && decide (x.length ≤ sizeLine)
def tyTab : List (Str × String) := [("int", "int"), ("bool", "bool"), ("str", "str"), ("tuple", "tuple"), ("list", "list"), ("dict", "dict")]
theorem tyTab_ok : ∀ p ∈ tyTab, bootBuiltins p.1 = some (.type p.2) := by decide +kernel
def biN : Bi → Str
  | .len => "len" | .abs => "abs" | .max2 => "max" | .min2 => "min" | .maxL => "max" | .minL => "min"
  | .sumL => "sum" | .allL => "all" | .anyL => "any" | .int1 => "int" | .str1 => "str" | .tupleOf => "tuple" | .listOf _ => "list"
  | .sortedI _ => "sorted" | .divmod => "divmod" | .isinst => "isinstance" | .dictOf => "dict"
def biAll : List Bi := [.len, .abs, .max2, .min2, .maxL, .minL, .sumL, .allL, .anyL, .int1, .str1, .tupleOf, .listOf true, .listOf false, .sortedI true, .sortedI false, .divmod, .isinst, .dictOf]
theorem biAll_mem (b : Bi) : b ∈ biAll := by
  cases b with
  | listOf fz => cases fz <;> simp [biAll]
  | sortedI fz => cases fz <;> simp [biAll]
  | _ => simp [biAll]
theorem biAll_ok : ∀ b ∈ biAll, bootBuiltins (biN b) = some (biV b) := by decide +kernel
theorem biAll_plain : ∀ b ∈ biAll, biN b ≠ "__name__" ∧ (biN b == ("__debug__" : Str)) = false := by decide +kernel
theorem biN_ok (b : Bi) : bootBuiltins (biN b) = some (biV b) := biAll_ok b (biAll_mem b)
theorem biN_plain (b : Bi) : biN b ≠ "__name__" ∧ (biN b == ("__debug__" : Str)) = false := biAll_plain b (biAll_mem b)
def biF : Bi → Bool
  | .int1 => false | .str1 => false | .tupleOf => false | .listOf _ => false | .dictOf => false
  | _ => true
def notComp0 : Expr → Bool
  | .ListComp .. => false
  | _ => true
def isTupE : Expr → Bool
  | .Tuple .. => true
  | _ => false
def noCall0 : Expr → Bool
  | .Call _ [] [] _ => false
  | _ => true
def plainB (e : Expr) : Bool := match e with
  | .UnaryOp .Not _ _ => false
  | .BoolOp .. => false
  | .IfExp .. => false
  | .Compare .. => false
  | _ => true
mutual
def ckT (k : Ck) : Tg → Expr → Bool
  | .nm i, .Name x _ => decide (k.N[i]? = some x) && locB k x
  | .tp ts, .Tuple es _ _ => ckTs k ts es
  | _, _ => false
def ckTs (k : Ck) : List Tg → List Expr → Bool
  | [], [] => true
  | t :: ts, e :: es => ckT k t e && ckTs k ts es
  | _, _ => false
end
mutual
def slots : Tg → List Nat
  | .nm i => [i]
  | .tp ts => slotss ts
def slotss : List Tg → List Nat
  | [] => []
  | t :: ts => slots t ++ slotss ts
end
def ownP (N : List Str) (own : List Nat) : List (Str × Nat) := own.filterMap fun i => (N[i]?).map fun x => (x, i)
def ownOk (N : List Str) (own : List Nat) : Bool := decide ((ownP N own).map (·.2) = own)
def Ck.blk (k : Ck) (scope : Scope) : Ck := { k with sc := relS scope k.sc, fn := fun x => scope.names.lookup x == some .cell }
def notStar : Expr → Bool
  | .Starred .. => false
  | _ => true
def notSet : Expr → Bool
  | .Set .. => false
  | _ => true
def notSlice : Expr → Bool
  | .Slice .. => false
  | _ => true
/-- -1 -/
def neg1B : Expr → Bool
  | .UnaryOp .USub (.Constant (.int j) _ _) _ => decide (j = 1)
  | _ => false
mutual
def ck (k : Ck) : E → Expr → Bool
  | .var i, .Name x _ => decide (k.N[i]? = some x) && visB k.sc x && plainX x
  | .cint i, .Constant (.int j) _ _ => decide (i = j)
  | .cstr x, .Constant (.str y) _ _ => decide (x = y) && okSB x
  | .cbl b, .Constant (.bool d) _ _ => decide (b = d)
  | .cnon, .Constant .none _ _ => true
  | .tyc n, .Name x _ => glB k.sc x && k.fr.contains x && plainX x && tyTab.contains (x, n)
  | .glo x, .Name y _ => decide (x = y) && glB k.sc y && k.gls.contains y && plainX y
  | .tup es, .Tuple xs _ _ => cks k es xs
  | .lst _ es, .List xs _ => cks k es xs
  | .bin _ op a b, .BinOp l o r _ => decide (op = o) && ck k a l && ck k b r
  | .neg a, .UnaryOp .USub x _ => ck k a x
  | .not a, .UnaryOp .Not x _ => ck k a x
  | .and es, .BoolOp .And xs _ => cks k es xs && decide (xs ≠ [])
  | .or es, .BoolOp .Or xs _ => cks k es xs && decide (xs ≠ [])
  | .cmp op a b, .Compare l [o] [r] _ => decide (op = o) && ck k a l && ck k b r
  | .ch o1 o2 a b c, .Compare l [p1, p2] [m, r] _ => decide (o1 = p1) && decide (o2 = p2) && ck k a l && ck k b m && ck k c r
  | .ch3 o1 o2 o3 a b c d, .Compare l [p1, p2, p3] [m, r, z] _ => decide (o1 = p1) && decide (o2 = p2) && decide (o3 = p3) && ck k a l && ck k b m && ck k c r && ck k d z
  | .ife c a b, .IfExp t x y _ => ckC k c t && ck k a x && ck k b y
  | .call f es, .Call (.Name x _) xs [] _ => decide (f = x) && glB k.sc x && k.fns.contains x && plainX x && cks k es xs
  | .kcall f es q e, .Call (.Name x _) xs [⟨some y, z, _⟩] _ => decide (f = x) && glB k.sc x && (k.kfs.any fun t => decide (t.1 = f ∧ t.2.1 = q)) && plainX x && decide (q = y) && cks k es xs && decide (xs ≠ []) && ck k e z
  | .dcall f es d, .Call (.Name x _) xs [] _ => decide (f = x) && glB k.sc x && (k.kfs.any fun t => decide (t.1 = f ∧ t.2.2 = d)) && plainX x && cks k es xs && decide (xs ≠ [])
  | .bi b es, .Call (.Name x _) xs [] _ => decide (biN b = x) && glB k.sc x && k.fr.contains x && cks k es xs && decide (xs ≠ [])
  | .mt m o es, .Call (.Attribute e a apos) xs [] cpos => decide (mtN m = a) && ck k o e && noCall0 e && cks k es xs && decide (xs.length < 29) && (apos.endLine == cpos.line)
  | .sl _ o lo hi, .Subscript a (.Slice l h none _) _ => ck k o a && cko k lo l && cko k hi h
  | .rev _ o, .Subscript a (.Slice none none (some (.UnaryOp .USub (.Constant (.int 1) _ _) _)) _) _ => ck k o a
  | .gix x i, .Subscript (.Name y _) b _ => decide (x = y) && glB k.sc y && k.gds.contains y && plainX y && ck k i b
  | .calv i es, .Call (.Name x _) xs [] _ => decide (k.N[i]? = some x) && visB k.sc x && plainX x && cks k es xs && decide (xs ≠ []) && k.kfs.isEmpty
  | .ix o i, .Subscript a b _ => ck k o a && ck k i b
  | .dead, x => notStar x && (notSet x && notSlice x)
  | .lrng _ a, .Call (.Name x _) [.Call (.Name y _) [e] [] _] [] _ => decide (x = "list") && glB k.sc x && k.fr.contains x && decide (y = "range") && glB k.sc y && k.fr.contains y && ck k a e
  | .lzip _ a b, .Call (.Name x _) [.Call (.Name y _) [e, f] [] _] [] _ => decide (x = "list") && glB k.sc x && k.fr.contains x && decide (y = "zip") && glB k.sc y && k.fr.contains y && ck k a e && ck k b f
  | .maxd a d, .Call (.Name x _) [e] [⟨some y, f, _⟩] _ => decide (x = "max") && glB k.sc x && k.fr.contains x && decide (y = "default") && ck k a e && ck k d f
  | .dnew, .Dict [] [] _ => true
  | .tnew, .Dict [] [] _ => true
  | .lens a, z => (match z with
    | .Call (.Name x _) [.Call (.Name y _) [e] [] _] [] _ => decide (x = "len") && glB k.sc x && k.fr.contains x && decide (y = "set") && glB k.sc y && k.fr.contains y && ck k a e
    | _ => false)
  | .rev2 _ o, z => (match z with
    | .Subscript a (.Slice (some (.UnaryOp .USub (.Constant (.int 2) _ _) _)) none (some (.UnaryOp .USub (.Constant (.int 1) _ _) _)) _) _ => ck k o a
    | _ => false)
  | .maxk a g, z => (match z with
    | .Call (.Name x _) [e] [⟨some y, .Name w _, _⟩] _ => decide (x = "max") && glB k.sc x && k.fr.contains x && decide (y = "key") && decide (g = w) && glB k.sc w && k.fns.contains w && plainX w && ck k a e
    | _ => false)
  | .tin ng x y o, z => (match z with
    | .Compare (.Tuple [a, b] _ _) [op] [r] _ => decide (op = if ng = true then .NotIn else .In) && ck k x a && ck k y b && ck k o r
    | _ => false)
  | .tix o x y, z => (match z with
    | .Subscript e (.Tuple [a, b] _ _) _ => ck k o e && ck k x a && ck k y b
    | _ => false)
  | .tget o x y, z => (match z with
    | .Call (.Attribute e a apos) [.Tuple [b, d] _ _] [] cpos => decide (a = "get") && ck k o e && noCall0 e && ck k x b && ck k y d && (apos.endLine == cpos.line)
    | _ => false)
  | .tabc own t it x y e, z => (match z with
    | .DictComp (.Tuple [a, b] _ _) v [⟨tg, iter, [], zz⟩] scope _ => decide (zz = 0) && ownOk k.N own && blkC k.N k.sc scope (ownP k.N own) && (slots t).all own.contains && ckT (k.blk scope) t tg && cki k (isTupE tg) it iter && ck (k.blk scope) x a && ck (k.blk scope) y b && ck (k.blk scope) e v
    | _ => false)
  | .dcomp own t it x e, z => (match z with
    | .DictComp a v [⟨tg, iter, [], zz⟩] scope _ => decide (zz = 0) && ownOk k.N own && blkC k.N k.sc scope (ownP k.N own) && (slots t).all own.contains && ckT (k.blk scope) t tg && cki k (isTupE tg) it iter && ck (k.blk scope) x a && ck (k.blk scope) e v
    | _ => false)
  | .fstr es, z => (match z with
    | .JoinedStr xs _ => ckF k es xs && decide (2 ≤ xs.length)
    | _ => false)
  | .dlit ps, .Dict xs ys _ => ckD k ps xs ys && decide (xs ≠ []) && decide (xs.length ≤ 15)
  | .dg2 o i x, .Call (.Attribute e a apos) [y, z] [] cpos => decide (a = "get") && ck k o e && noCall0 e && ck k i y && ck k x z && (apos.endLine == cpos.line)
  | .frz e, x => notComp0 x && ck k e x
  | .lcV _ own t a ifs e, .ListComp elt [⟨tg, iter, cs, z⟩] scope _ => decide (z = 0) && ownOk k.N own && blkC k.N k.sc scope (ownP k.N own) && (slots t).all own.contains && ckT (k.blk scope) t tg && (ck k a iter && notSet iter) && ckCs (k.blk scope) ifs cs && decide (cs.length ≤ 1) && ck (k.blk scope) e elt
  | .lc _ own t it ifs e, .ListComp elt [⟨tg, iter, cs, z⟩] scope _ => decide (z = 0) && ownOk k.N own && blkC k.N k.sc scope (ownP k.N own) && (slots t).all own.contains && ckT (k.blk scope) t tg && cki k (isTupE tg) it iter && ckCs (k.blk scope) ifs cs && decide (cs.length ≤ 1) && ck (k.blk scope) e elt
  | .lc2 _ own t it ifs own1 t1 it1 ifs1 e, .ListComp elt [⟨tg, iter, cs, z⟩, ⟨tg1, iter1, cs1, z1⟩] scope _ => decide (z = 0) && decide (z1 = 0) && ownOk k.N own && blkC k.N k.sc scope (ownP k.N own) && own1.all own.contains && (slots t).all own.contains && (slots t1).all own1.contains &&
      ckT (k.blk scope) t tg && ckT (k.blk scope) t1 tg1 && cki k (isTupE tg) it iter && cki (k.blk scope) (isTupE tg1) it1 iter1 && ckCs (k.blk scope) ifs cs && decide (cs.length ≤ 1) && ckCs (k.blk scope) ifs1 cs1 && decide (cs1.length ≤ 1) && ck (k.blk scope) e elt
  | _, _ => false
def ckD (k : Ck) : List E → List (Option Expr) → List Expr → Bool
  | [], [], [] => true
  | a :: b :: r, some x :: xs, y :: ys => ck k a x && ck k b y && ckD k r xs ys
  | _, _, _ => false
def ckF (k : Ck) : List E → List Expr → Bool
  | [], [] => true
  | e :: es, x :: xs => (match x with
    | .FormattedValue y cv none _ => decide (cv = -1) && ck k e y
    | .Constant q j p => ck k e (.Constant q j p)
    | _ => false) && ckF k es xs
  | _, _ => false
def cko (k : Ck) : Option E → Option Expr → Bool
  | none, none => true
  | some e, some x => ck k e x
  | _, _ => false
def cks (k : Ck) : List E → List Expr → Bool
  | [], [] => true
  | e :: es, x :: xs => ck k e x && cks k es xs
  | _, _ => false
/-- a test -/
def ckC (k : Ck) : T → Expr → Bool
  | .val e, x => plainB x && ck k e x
  | .not a, .UnaryOp .Not x _ => ckC k a x
  | .and es, .BoolOp .And xs _ => ckCs k es xs && decide (xs ≠ [])
  | .or es, .BoolOp .Or xs _ => ckCs k es xs && decide (xs ≠ [])
  | .cmp op a b, .Compare l [o] [r] _ => decide (op = o) && ck k a l && ck k b r
  | .ch o1 o2 a b c, .Compare l [p1, p2] [m, r] _ => decide (o1 = p1) && decide (o2 = p2) && ck k a l && ck k b m && ck k c r
  | .gin d e, z => (match z with
    | .Compare l [op] [.Name y _] _ => decide (op = .In) && decide (d = y) && glB k.sc y && k.gds.contains y && plainX y && ck k e l
    | _ => false)
  | .tin ng x y o, z => (match z with
    | .Compare (.Tuple [a, b] _ _) [op] [r] _ => decide (op = if ng = true then .NotIn else .In) && ck k x a && ck k y b && ck k o r
    | _ => false)
  | _, _ => false
def ckCs (k : Ck) : List T → List Expr → Bool
  | [], [] => true
  | e :: es, x :: xs => ckC k e x && ckCs k es xs
  | _, _ => false
/-- an iterable -/
def cki (k : Ck) (tp : Bool) : I → Expr → Bool
  | .seq e, x => ck k e x
  | .rng1 a, .Call (.Name x _) [e] [] _ => decide (x = "range") && glB k.sc x && k.fr.contains x && ck k a e
  | .rngd a b, .Call (.Name x _) [e, f, g] [] _ => decide (x = "range") && glB k.sc x && k.fr.contains x && ck k a e && ck k b f && neg1B g
  | .rng2 a b, .Call (.Name x _) [e, f] [] _ => decide (x = "range") && glB k.sc x && k.fr.contains x && ck k a e && ck k b f
  | .enum a, .Call (.Name x _) [e] [] _ => tp && decide (x = "enumerate") && glB k.sc x && k.fr.contains x && ck k a e
  | .zip a b, .Call (.Name x _) [e, f] [] _ => tp && decide (x = "zip") && glB k.sc x && k.fr.contains x && ck k a e && ck k b f
  | _, _ => false
end
/-! ### what a form that was held is not -/
theorem ck_star {k : Ck} : ∀ {e : E} {x : Expr}, ck k e x = true → notStar x = true
  | .dead, x, h => by
    simp only [ck, Bool.and_eq_true] at h
    exact h.1
  | .frz e, x, h => by
    simp only [ck, Bool.and_eq_true] at h
    exact ck_star h.2
  | e, x, h => by
    cases x <;> first | rfl | (cases e <;> first | (simp [ck] at h; done) | (simp [ck, notStar, notSet, notSlice] at h; done) | (simp only [ck, Bool.and_eq_true] at h; exact ck_star h.2))
theorem ck_set {k : Ck} : ∀ {e : E} {x : Expr}, ck k e x = true → notSet x = true
  | .dead, x, h => by
    simp only [ck, Bool.and_eq_true] at h
    exact h.2.1
  | .frz e, x, h => by
    simp only [ck, Bool.and_eq_true] at h
    exact ck_set h.2
  | e, x, h => by
    cases x <;> first | rfl | (cases e <;> first | (simp [ck] at h; done) | (simp [ck, notStar, notSet, notSlice] at h; done) | (simp only [ck, Bool.and_eq_true] at h; exact ck_set h.2))
theorem ck_slice {k : Ck} : ∀ {e : E} {x : Expr}, ck k e x = true → notSlice x = true
  | .dead, x, h => by
    simp only [ck, Bool.and_eq_true] at h
    exact h.2.2
  | .frz e, x, h => by
    simp only [ck, Bool.and_eq_true] at h
    exact ck_slice h.2
  | e, x, h => by
    cases x <;> first | rfl | (cases e <;> first | (simp [ck] at h; done) | (simp [ck, notStar, notSet, notSlice] at h; done) | (simp only [ck, Bool.and_eq_true] at h; exact ck_slice h.2))
theorem cki_set {k : Ck} {b : Bool} {e : I} {x : Expr} (h : cki k b e x = true) : notSet x = true := by
  cases x <;> first | rfl | (cases e <;> simp [cki] at h; exact ck_set h)
theorem cks_length {k : Ck} : ∀ {es : List E} {xs : List Expr}, cks k es xs = true → es.length = xs.length
  | [], [], _ => rfl
  | [], _ :: _, h => by simp [cks] at h
  | _ :: _, [], h => by simp [cks] at h
  | e :: es, x :: xs, h => by
    simp only [cks, Bool.and_eq_true] at h
    simp [cks_length h.2]
theorem cks_star {k : Ck} : ∀ {es : List E} {xs : List Expr}, cks k es xs = true → ∀ x ∈ xs, notStar x = true
  | [], [], _, x, h => by simp at h
  | [], _ :: _, h, _, _ => by simp [cks] at h
  | _ :: _, [], h, _, _ => by simp [cks] at h
  | e :: es, x :: xs, h, y, hy => by
    simp only [cks, Bool.and_eq_true] at h
    rcases List.mem_cons.mp hy with rfl | hy
    · exact ck_star h.1
    · exact cks_star h.2 y hy
theorem star_cons {x : Expr} (h : notStar x = true) (xs : List Expr) (env : Env) : starEach (x :: xs) env = (false, eval x env) :: starEach xs env := by
  cases x <;> first | rfl | cases h
theorem star_all {env : Env} : ∀ {xs : List Expr}, (∀ x ∈ xs, notStar x = true) → starEach xs env = xs.map fun x => (false, eval x env)
  | [], _ => by simp [starEach]
  | x :: xs, h => by
    rw [star_cons (h x List.mem_cons_self), star_all fun y hy => h y (List.mem_cons_of_mem _ hy)]
    rfl
theorem star_none {env : Env} {pos : Pos} {xs : List Expr} (h : ∀ x ∈ xs, notStar x = true) : (backTo pos (starEach xs env)).any (·.1) = false := by
  rw [star_all h]
  unfold backTo
  induction xs with
  | nil => rfl
  | cons x xs ih =>
    simp only [List.map_cons, List.any_cons, Bool.false_or]
    exact ih fun y hy => h y (List.mem_cons_of_mem _ hy)
theorem marks_set {op : CmpOp} {x : Expr} (h : notSet x = true) : behindInMarks op x = false := by
  cases x <;> first | rfl | cases h

/-! ### readings -/
def REnv (K : Frag) (Φ : Hp) (ι : List Addr) (ρ : Rho) (σ : L2.St) : Prop := ρ.length = σ.length ∧ ∀ (i : Nat) (w : W), ρ[i]? = some (some w) → ∃ v, σ[i]? = some (some v) ∧ RV K Φ ι w v
theorem REnv.mono {K : Frag} {Φ Φ' H H' : Hp} {ι ι' : List Addr} {ρ : Rho} {σ : L2.St} (e : Ext Φ ι H Φ' ι' H') (r : REnv K Φ ι ρ σ) : REnv K Φ' ι' ρ σ := ⟨r.1, fun i w h => by
  obtain ⟨v, h1, h2⟩ := r.2 i w h
  exact ⟨v, h1, e.rv h2⟩⟩
theorem REnv.set {K : Frag} {Φ : Hp} {ι : List Addr} {ρ : Rho} {σ : L2.St} (r : REnv K Φ ι ρ σ) {w : W} {v : V} (rv : RV K Φ ι w v) (i : Nat) : REnv K Φ ι (ρ.set i (some w)) (σ.set i (some v)) := by
  refine ⟨by simp [r.1], fun j u h => ?_⟩
  by_cases e : i = j
  · subst e
    have hl : i < ρ.length := by
      have := (List.getElem?_eq_some_iff.mp h).1
      simpa using this
    rw [List.getElem?_set_self hl] at h
    cases h
    exact ⟨v, List.getElem?_set_self (by rw [← r.1]; exact hl), rv⟩
  · rw [List.getElem?_set_ne e] at h
    obtain ⟨z, h1, h2⟩ := r.2 j u h
    exact ⟨z, by rw [List.getElem?_set_ne e]; exact h1, h2⟩
theorem REnv.unset {K : Frag} {Φ : Hp} {ι : List Addr} {ρ : Rho} {σ : L2.St} (r : REnv K Φ ι ρ σ) (i : Nat) : REnv K Φ ι (ρ.set i none) (σ.set i none) := by
  refine ⟨by simp [r.1], fun j u h => ?_⟩
  by_cases e : i = j
  · subst e
    have hl : i < ρ.length := by
      have := (List.getElem?_eq_some_iff.mp h).1
      simpa using this
    rw [List.getElem?_set_self hl] at h
    cases h
  · rw [List.getElem?_set_ne e] at h
    obtain ⟨z, h1, h2⟩ := r.2 j u h
    exact ⟨z, by rw [List.getElem?_set_ne e]; exact h1, h2⟩
theorem REnv.wipe {K : Frag} {Φ : Hp} {ι : List Addr} {ρ : Rho} {σ : L2.St} (r : REnv K Φ ι ρ σ) : ∀ vs : List Nat, REnv K Φ ι (wipeR ρ vs) (L2.wipe σ vs)
  | [] => r
  | v :: vs => (r.wipe vs).unset v
section
variable (c : Cf) (Wx : WX)
/-- an expression's reading: whatever plain state stands for the layer's, the plain computation ends, and whatever stands for its end is wished for -/
def rdE (f : Rho → Store → Out W) : TE := fun σ H Q => ∃ (Φ : Hp) (ι : List Addr) (S : Store) (ρ : Rho), Rel c.K Φ ι S H ∧ REnv c.K Φ ι ρ σ ∧ After c Φ ι H (f ρ S) (QV c Q) (fun cls d H' => Wx cls d σ H')
def rdA (f : Rho → Store → Out (List W)) : TA := fun σ H Q => ∃ (Φ : Hp) (ι : List Addr) (S : Store) (ρ : Rho), Rel c.K Φ ι S H ∧ REnv c.K Φ ι ρ σ ∧ After c Φ ι H (f ρ S) (QVs c Q) (fun cls d H' => Wx cls d σ H')
def rdT (f : Rho → Store → Out Bool) : TT := fun σ H Q => ∃ (Φ : Hp) (ι : List Addr) (S : Store) (ρ : Rho), Rel c.K Φ ι S H ∧ REnv c.K Φ ι ρ σ ∧ After c Φ ι H (f ρ S) (QB Q) (fun cls d H' => Wx cls d σ H')
def rdO (f : Rho → Store → Out (Option Int)) : TO := fun σ H Q => ∃ (Φ : Hp) (ι : List Addr) (S : Store) (ρ : Rho), Rel c.K Φ ι S H ∧ REnv c.K Φ ι ρ σ ∧ After c Φ ι H (f ρ S) (fun o _ _ _ H' => Q o H') (fun cls d H' => Wx cls d σ H')
end
theorem _root_.L2.PE.imp {X : Cx} {e : Expr} {t t' : TE} (h : PE X e t) (k : ∀ σ H Q, t' σ H Q → t σ H Q) : PE X e t' := ⟨fun pins s σ H Q I q => h.run pins s σ H Q I (k σ H Q q)⟩
theorem _root_.L2.PA.imp {X : Cx} {e : List Expr} {t t' : TA} (h : PA X e t) (k : ∀ σ H Q, t' σ H Q → t σ H Q) : PA X e t' := ⟨fun pos pins s σ H Q I q => h.run pos pins s σ H Q I (k σ H Q q)⟩
theorem _root_.L2.PT.imp {X : Cx} {e : Expr} {t t' : TT} (h : PT X e t) (k : ∀ σ H Q, t' σ H Q → t σ H Q) : PT X e t' := ⟨fun pins s σ H Q I q => h.run pins s σ H Q I (k σ H Q q)⟩
theorem _root_.L2.PW.imp {X : Cx} {e : Expr} {t t' : TT} (h : PW X e t) (k : ∀ σ H Q, t' σ H Q → t σ H Q) : PW X e t' := ⟨fun wh pins s σ H Q I q => h.run wh pins s σ H Q I (k σ H Q q)⟩
theorem _root_.L2.PO.imp {X : Cx} {e : Option Expr} {t t' : TO} (h : PO X e t) (k : ∀ σ H Q, t' σ H Q → t σ H Q) : PO X e t' := ⟨fun pins s σ H Q I q => h.run pins s σ H Q I (k σ H Q q)⟩
/-- what a def of the program promises: what the plain one computes -/
def spF (c : Cf) (f : List W → Store → Out W) : Sp := fun vs H Q E => ∃ (Φ : Hp) (ι : List Addr) (S : Store) (ws : List W), Rel c.K Φ ι S H ∧ RVs c.K Φ ι ws vs ∧ After c Φ ι H (f ws S) (QV c Q) E

/-- a class of exceptions -/
structure XcOk (K : Frag) (mg : Str → Option Value) (x : Str) (D : Addr) : Prop where
  mg : mg x = some (.ref D)
  kp : PySem.W.keepIn K (.ref D) = true
  ec : ExcC K D
  sb : PySem.W.subIn K (.ref D) (.type "BaseException") = some true
  ty : PySem.W.typeIn K (.ref D) = some (.type "type")
/-- what an exception's __init__ does that keeps its parameters -/
def iniSp (K : Frag) (C : Addr) (fs : List Str) : Sp := fun vs H Q _ => ∃ (a : Addr) (ys : List V), vs = .ref a :: ys ∧ ys.length = fs.length ∧ H a = some (exo a C none) ∧ ∀ d, H d = none → d ≠ a → Q .non (upd (upd H d (exd d (fs.zip ys).reverse)) a (exo a C (some d)))
/-! ### the surroundings -/
structure Amb (c : Cf) (C : Cn) (X : Cx) (k : Ck) (Wx : WX) : Prop where
  hK : c.K = X.K
  calm : X.calm = true
  nd : X.N.Nodup
  N : X.N = k.N
  sc : X.env.scope = k.sc
  fn : X.fn = k.fn
  un : X.A.units + 65 < cLine
  hw : Wd.P = X.prog ∧ Wd.w = X.w
  free : ∀ x ∈ k.fr, X.mg x = none
  gl : ∀ x w, x ∈ k.gls → C.gl.gl x = some w → ∃ u v, X.mg x = some u ∧ RelV v u ∧ ∀ Φ ι, RV c.K Φ ι w v
  gd : ∀ x ∈ k.gds, ∃ a, X.mg x = some (.ref a) ∧ (∀ z w, lkS z (C.gl.gd x) = some w → (∃ v, KDct X.K X.w a z v ∧ ∀ Φ ι, RV c.K Φ ι w v)) ∧ ∃ es n, KDict X.K X.w a es n ∧ ∀ z, ∃ o, PySem.W.nsIn X.K a z = some o ∧ o.isSome = (lkS z (C.gl.gd x)).isSome
  nofn : k.kfs = [] → ∀ f, C.has f = true → f ∈ k.fns
  xc : ∀ x ∈ k.xcs, ∃ D, c.cl x = some D ∧ XcOk X.K X.mg x D
  xs : ∀ x t b D, C.gl.sub x t = some b → c.cl x = some D → (∀ DT, t ∈ k.xcs → c.cl t = some DT → PySem.W.exmOne X.K (.ref D) (.ref DT) = some b ∧ PySem.W.kitOne X.K (.ref D) (.ref DT) = some b) ∧ (t = "ValueError" → t ∉ k.xcs → PySem.W.kitOne X.K (.ref D) (.type "ValueError") = some b)
  xm : ∀ x D, c.cl x = some D → x ∈ k.xcs
  x0 : ∀ x D, c.cl x = some D → x ∉ k.xfs.map (·.1) → PySem.W.excIn X.K D bmV "ValueError.__new__" = true
  xf : ∀ t ∈ k.xfs, ∃ (D fI : Addr) (fd : FuncData), c.cl t.1 = some D ∧ t.1 ∈ k.xcs ∧ OexC X.K D ∧ PySem.W.findIn X.K (.ref D) "__init__" = some (some (.ref fI)) ∧ PySem.W.typeIn X.K (.ref fI) = some (.type "function") ∧
    FnOk X.prog X.w X.K X.mg X.base (CX X.prog X.w) 1 fI fd ("self" :: t.2) (iniSp X.K D t.2) ∧ Binds X.K fd ("self" :: t.2) [] ∧ (∀ g ∈ t.2, PySem.W.findIn X.K (.ref D) g = some none) ∧ PySem.W.hasDictIn X.K D = true
  xn : ∀ x D, c.cl x = some D → ∀ t ∈ k.xfs, ∀ g ∈ t.2, PySem.W.findIn X.K (.ref D) g = some none
  rm : Room (2 * C.lv + 1) X.A
  tk : Takes X Wx
  call : ∀ f ∈ k.fns, ∃ (a : Addr) (fd : FuncData) (ps : List Str) (n : Nat), X.mg f = some (.ref a) ∧ a = He.ga c.K f ∧ PySem.W.keepIn X.K (.ref a) = true ∧ FnOk X.prog X.w X.K X.mg X.base (CX X.prog X.w) n a fd ps (spF c (C.fn f)) ∧ Room n X.A ∧ Room n X.A.in1 ∧ Binds X.K fd ps []
  kcall : ∀ t ∈ k.kfs, ∃ (a : Addr) (fd : FuncData) (ps : List Str) (n m : Nat), X.mg t.1 = some (.ref a) ∧ PySem.W.keepIn X.K (.ref a) = true ∧ FnOk X.prog X.w X.K X.mg X.base (CX X.prog X.w) n a fd ps (spF c (C.fn t.1)) ∧ Room n X.A ∧ ps.length = m + 1 ∧
    (∃ ds, Vals [V.int t.2.2] ds ∧ Binds X.K fd ps ds) ∧ KBn X.K fd ps m [t.2.1] (fun us ws => us ++ ws) (fun vs zs => vs ++ zs)
section
variable {c : Cf} {C : Cn} {X : Cx} {k : Ck} {Wx : WX}
theorem Amb.vis (A : Amb c C X k Wx) {x : Str} (h : visB k.sc x = true) : Vis X.env.scope x := by
  rw [A.sc]
  unfold visB at h
  unfold Vis
  cases e : k.sc.names.lookup x with
  | none => rw [e] at h; cases h
  | some z => rw [e] at h; cases z <;> first | exact .inl rfl | exact .inr (.inl rfl) | exact .inr (.inr rfl) | cases h
theorem Amb.glo (A : Amb c C X k Wx) {x : Str} (h : glB k.sc x = true) : Gl X x := by
  unfold Gl Env.kindOf
  rw [A.sc]
  unfold glB at h
  cases e : k.sc.names.lookup x with
  | none => rw [e] at h; cases h
  | some z => rw [e] at h; cases z <;> first | rfl | cases h
theorem plain_of {x : Str} (h : plainX x = true) : (x == ("__debug__" : Str)) = false ∧ (x == ("__classdict__" : Str)) = false ∧ x ≠ "__name__" := by
  unfold plainX at h
  simp only [Bool.and_eq_true, decide_eq_true_eq] at h
  exact ⟨beq_eq_false_iff_ne.mpr h.1.1, beq_eq_false_iff_ne.mpr h.1.2, h.2⟩
theorem Amb.loc (A : Amb c C X k Wx) {x : Str} (h : locB k x = true) : L2.Loc X.env.scope x ∧ (X.fn x = true ∨ X.env.scope.names.lookup x = some .local) := by
  unfold L2.Loc
  rw [A.sc, A.fn]
  unfold locB at h
  cases e : k.sc.names.lookup x with
  | none => rw [e] at h; cases h
  | some z =>
    rw [e] at h
    cases z with
    | «local» => exact ⟨.inl rfl, .inr rfl⟩
    | cell => exact ⟨.inr rfl, .inl h⟩
    | _ => cases h
/-! ### targets -/
/-- a tuple or a list of that length -/
def gSeq (K : Frag) (n : Nat) (t : TGs) : TG := fun v σ H Q => gTup K n t v σ H Q ∨ gLst K n t v σ H Q
mutual
def gT (K : Frag) : Tg → TG
  | .nm i => gName i
  | .tp ts => gSeq K ts.length (gTs K ts)
def gTs (K : Frag) : List Tg → TGs
  | [] => gNil
  | t :: ts => gCons (gT K t) (gTs K ts)
end
theorem each_eq {env : Env} : ∀ {k : Ck} {ts : List Tg} {es : List Expr}, ckTs k ts es = true → (assignEach es env).map (·.2) = es.map (fun e => assign e env) ∧ (assignEach es env).length = ts.length ∧ (assignEach es env).findIdx? (·.1) = none
  | k, [], [], _ => by simp [assignEach]
  | k, [], _ :: _, h => by simp [ckTs] at h
  | k, _ :: _, [], h => by simp [ckTs] at h
  | k, t :: ts, e :: es, h => by
    simp only [ckTs, Bool.and_eq_true] at h
    obtain ⟨h1, h2, h3⟩ := each_eq (env := env) h.2
    have e1 : assignEach (e :: es) env = (false, assign e env) :: assignEach es env := by
      cases e <;> first | rfl | (cases t <;> simp [ckT] at h)
    rw [e1]
    refine ⟨by simp [h1], by simp [h2], ?_⟩
    rw [List.findIdx?_cons, h3]
    rfl
mutual
theorem pgT (A : Amb c C X k Wx) : ∀ {t : Tg} {e : Expr}, ckT k t e = true → PG X e (gT X.K t)
  | .nm i, .Name x _, h => by
    simp only [ckT, Bool.and_eq_true, decide_eq_true_eq] at h
    obtain ⟨l1, l2⟩ := A.loc h.2
    exact pg_name A.nd (by rw [A.N]; exact h.1) l1 l2
  | .tp ts, .Tuple es _ _, h => by
    have h' : ckTs k ts es = true := by simpa [ckT] using h
    obtain ⟨_, h2, h3⟩ := each_eq (env := X.env) h'
    exact ⟨fun pins s σ H v u Q I r hw => hw.elim (fun hw => (pg_tup A.calm (pgTs A h') h2 h3).run pins s σ H v u Q I r hw) fun hw => (pg_lst A.calm (pgTs A h') h2 h3).run pins s σ H v u Q I r hw⟩
  | .nm _, .BoolOp .., h | .nm _, .NamedExpr .., h | .nm _, .BinOp .., h | .nm _, .UnaryOp .., h | .nm _, .Lambda .., h | .nm _, .IfExp .., h | .nm _, .Dict .., h | .nm _, .Set .., h | .nm _, .ListComp .., h
  | .nm _, .SetComp .., h | .nm _, .DictComp .., h | .nm _, .GeneratorExp .., h | .nm _, .Await .., h | .nm _, .Yield .., h | .nm _, .YieldFrom .., h | .nm _, .Compare .., h | .nm _, .Call .., h
  | .nm _, .FormattedValue .., h | .nm _, .JoinedStr .., h | .nm _, .Constant .., h | .nm _, .Attribute .., h | .nm _, .Subscript .., h | .nm _, .Starred .., h | .nm _, .List .., h | .nm _, .Tuple .., h | .nm _, .Slice .., h => by simp [ckT] at h
  | .tp _, .BoolOp .., h | .tp _, .NamedExpr .., h | .tp _, .BinOp .., h | .tp _, .UnaryOp .., h | .tp _, .Lambda .., h | .tp _, .IfExp .., h | .tp _, .Dict .., h | .tp _, .Set .., h | .tp _, .ListComp .., h
  | .tp _, .SetComp .., h | .tp _, .DictComp .., h | .tp _, .GeneratorExp .., h | .tp _, .Await .., h | .tp _, .Yield .., h | .tp _, .YieldFrom .., h | .tp _, .Compare .., h | .tp _, .Call .., h
  | .tp _, .FormattedValue .., h | .tp _, .JoinedStr .., h | .tp _, .Constant .., h | .tp _, .Attribute .., h | .tp _, .Subscript .., h | .tp _, .Starred .., h | .tp _, .List .., h | .tp _, .Name .., h | .tp _, .Slice .., h => by simp [ckT] at h
theorem pgTs (A : Amb c C X k Wx) : ∀ {ts : List Tg} {es : List Expr}, ckTs k ts es = true → PGs X es (gTs X.K ts)
  | [], [], _ => pgs_nil
  | [], _ :: _, h => by simp [ckTs] at h
  | _ :: _, [], h => by simp [ckTs] at h
  | t :: ts, e :: es, h => by
    have h' := h
    simp only [ckTs, Bool.and_eq_true] at h
    refine pgs_cons (pgT A h.1) (pgTs A h.2) ?_
    rw [(each_eq (env := X.env) h').1, (each_eq (env := X.env) h.2).1]
    rfl
end
theorem wipe_set {σ : L2.St} {i : Nat} {o : Option V} : ∀ {vs : List Nat}, i ∈ vs → L2.wipe (σ.set i o) vs = L2.wipe σ vs
  | [], h => by simp at h
  | v :: vs, h => by
    unfold L2.wipe
    by_cases hv : i ∈ vs
    · rw [wipe_set hv]
    · have e : i = v := by simpa [hv] using h
      subst e
      have gen : ∀ (us : List Nat), i ∉ us → L2.wipe (σ.set i o) us = (L2.wipe σ us).set i o := by
        intro us
        induction us with
        | nil => intro _; rfl
        | cons u us ih =>
          intro hn
          simp only [List.mem_cons, not_or] at hn
          show (L2.wipe (σ.set i o) us).set u none = ((L2.wipe σ us).set u none).set i o
          rw [ih hn.2, List.set_comm _ _ hn.1]
      rw [gen vs hv, List.set_set]
mutual
theorem gT_ok {Φ H : Hp} {ι : List Addr} {S : Store} {Q : L2.St → Hp → Prop} (hK : c.K = X.K) (R : Rel c.K Φ ι S H) : ∀ (t : Tg) {w : W} {v : V} {ρ ρ' : Rho} {σ : L2.St}, RV c.K Φ ι w v → REnv c.K Φ ι ρ σ → tgW t w ρ = some ρ' →
    (∀ σ', REnv c.K Φ ι ρ' σ' → (∀ vs, (∀ i ∈ slots t, i ∈ vs) → L2.wipe σ' vs = L2.wipe σ vs) → Q σ' H) → gT X.K t v σ H Q
  | .nm i, w, v, ρ, ρ', σ, rv, re, e, k => by
    simp only [tgW, Option.some.injEq] at e
    subst e
    rw [gT]
    exact k _ (re.set rv i) fun vs h => wipe_set (h i (by simp [slots]))
  | .tp ts, w, v, ρ, ρ', σ, rv, re, e, k => by
    cases rv with
    | tup s t =>
      simp only [tgW] at e
      rw [gT]
      exact .inl ⟨_, _, rfl, hK ▸ SqT.mono R.sub s, by
        rw [← t.length]
        exact (tgs_len e).symm, gTs_ok hK R ts t re e fun σ' r' w' => k σ' r' fun vs h => w' vs (by simpa [slots] using h)⟩
    | lst s t =>
      simp only [tgW] at e
      rw [gT]
      exact .inr ⟨_, _, rfl, SqL.of (R.sub _ _ s), by
        rw [← t.length]
        exact (tgs_len e).symm, gTs_ok hK R ts t re e fun σ' r' w' => k σ' r' fun vs h => w' vs (by simpa [slots] using h)⟩
    | _ => simp [tgW] at e
theorem gTs_ok {Φ H : Hp} {ι : List Addr} {S : Store} {Q : L2.St → Hp → Prop} (hK : c.K = X.K) (R : Rel c.K Φ ι S H) : ∀ (ts : List Tg) {ws : List W} {vs : List V} {ρ ρ' : Rho} {σ : L2.St}, RVs c.K Φ ι ws vs → REnv c.K Φ ι ρ σ → tgsW ts ws ρ = some ρ' →
    (∀ σ', REnv c.K Φ ι ρ' σ' → (∀ us, (∀ i ∈ slotss ts, i ∈ us) → L2.wipe σ' us = L2.wipe σ us) → Q σ' H) → gTs X.K ts vs σ H Q
  | [], ws, vs, ρ, ρ', σ, rv, re, e, k => by
    cases rv with
    | nil =>
      simp only [tgsW, Option.some.injEq] at e
      subst e
      rw [gTs]
      exact ⟨rfl, k _ re fun _ _ => rfl⟩
    | cons a b => simp [tgsW] at e
  | t :: ts, ws, vs, ρ, ρ', σ, rv, re, e, k => by
    cases rv with
    | nil => simp [tgsW] at e
    | cons a b =>
      simp only [tgsW, Option.bind_eq_some_iff] at e
      obtain ⟨ρ1, e1, e2⟩ := e
      rw [gTs]
      refine ⟨_, _, rfl, gT_ok hK R t a re e1 fun σ1 r1 w1 => ?_⟩
      refine gTs_ok hK R ts b r1 e2 fun σ2 r2 w2 => k σ2 r2 fun us h => ?_
      rw [w2 us fun i hi => h i (by simp [slotss, hi]), w1 us fun i hi => h i (by simp [slotss, hi])]
theorem tgs_len : ∀ {ts : List Tg} {ws : List W} {ρ ρ' : Rho}, tgsW ts ws ρ = some ρ' → ts.length = ws.length
  | [], [], _, _, _ => rfl
  | [], _ :: _, _, _, e => by simp [tgsW] at e
  | _ :: _, [], _, _, e => by simp [tgsW] at e
  | t :: ts, w :: ws, ρ, ρ', e => by
    simp only [tgsW, Option.bind_eq_some_iff] at e
    obtain ⟨ρ1, e1, e2⟩ := e
    simp [tgs_len e2]
end
end
end Gs
end

section
set_option linter.all false
set_option maxRecDepth 100000
set_option maxHeartbeats 2000000
set_option autoImplicit false
/-! GZip: list(zip(a, b)) of two lists. -/
namespace Gs
open PySem PySem.Spec PyProof.Rows L2
theorem zp_nolen : typeLookup (.type "zip") "__len__" = pure none := am_miss_of_fast (by decide +kernel)
theorem ne_lo {b z n : Nat} (h : b < n) (k : n ≤ z) : b ≠ z := fun e => absurd (e ▸ h) (Nat.not_lt.mpr k)
theorem zp_nohint : typeLookup (.type "zip") "__length_hint__" = pure none := am_miss_of_fast (by decide +kernel)
/-- the cells of a zip, apart from a list that is filled -/
structure ZC where
  z : Addr
  TI : Addr
  TO : Addr
  i1 : Addr
  i2 : Addr
  l1 : Addr
  l2 : Addr
  S : Addr
structure ZC.Ok (c : ZC) : Prop where
  D : ZipApart c.z c.TI c.TO c.i1 c.i2 c.l1 c.l2
  z : c.z ≠ c.S
  TI : c.TI ≠ c.S
  TO : c.TO ≠ c.S
  i1 : c.i1 ≠ c.S
  i2 : c.i2 ≠ c.S
  l1 : c.l1 ≠ c.S
  l2 : c.l2 ≠ c.S
/-- they stand behind i turns -/
structure ZAt (c : ZC) (xs ys : Array Value) (i : Nat) (h : Heap) : Prop where
  ti : PySem.IsPair h c.TI (.ref c.i1) (.ref c.i2)
  it1 : h.IsListIter c.i1 c.l1 i
  it2 : h.IsListIter c.i2 c.l2 i
  a1 : h.IsList c.l1 xs
  a2 : h.IsList c.l2 ys
  zp : (PySem.IsZip h c.z c.TI c.TO .none ∧ ∃ a b, PySem.IsPair h c.TO a b) ∨ ∃ T f oT, PySem.IsZipHeld h c.z c.TI c.TO T f ∧ h.get? T = some oT ∧ T ≠ c.z ∧ T ≠ c.i1 ∧ T ≠ c.i2 ∧ T ≠ c.S
theorem ZAt.type {c : ZC} {xs ys : Array Value} {i : Nat} {s : Shared} (h : ZAt c xs ys i s.heap) : s.TypeIs (.ref c.z) "zip" := by
  rcases h.zp with ⟨h, _⟩ | ⟨_, _, _, h, _⟩
  · exact ⟨_, h, rfl⟩
  · exact ⟨_, h, rfl⟩
theorem ZAt.frame {c : ZC} {xs ys : Array Value} {i : Nat} {h h' : Heap} (ok : c.Ok) (q : ZAt c xs ys i h) (k : ∀ b o, b ≠ c.S → h.get? b = some o → h'.get? b = some o) : ZAt c xs ys i h' := by
  refine ⟨k _ _ ok.TI q.ti, q.it1.at fun o e => k _ o ok.i1 e, q.it2.at fun o e => k _ o ok.i2 e, q.a1.at fun o e => k _ o ok.l1 e, q.a2.at fun o e => k _ o ok.l2 e, ?_⟩
  rcases q.zp with ⟨h1, a, b, h2⟩ | ⟨T, f, oT, h1, h2, r1, r2, r3, r4⟩
  · exact .inl ⟨k _ _ ok.z h1, a, b, k _ _ ok.TO h2⟩
  · exact .inr ⟨T, f, oT, k _ _ ok.z h1, k _ _ r4 h2, r1, r2, r3, r4⟩
section
variable {prog : Program} {w : World} {A : Around} {E : Value → Shared → Prop} {s : Shared} {c : ZC} {xs ys : Array Value} {i : Nat} {x y : Value}
theorem zl_item {Q : Option Value → Shared → Prop} (ok : c.Ok) (q : ZAt c xs ys i s.heap) (hS : ∃ o, s.heap.get? c.S = some o) (hx : xs[i]? = some x) (hy : ys[i]? = some y)
    (hQ : ∀ h', ZAt c xs ys (i + 1) h' → PySem.IsPair h' s.heap.objs.size x y → h'.objs.size = s.heap.objs.size + 1 → (∀ b o, b ≠ c.z → b ≠ c.TO → b ≠ c.i1 → b ≠ c.i2 → s.heap.get? b = some o → h'.get? b = some o) → Q (some (.ref s.heap.objs.size)) { s with heap := h' }) :
    wpAny (model prog w) A (pyNext (.ref c.z)) Q E s := by
  have D := ok.D
  have lt : ∀ {b o}, s.heap.get? b = some o → s.heap.objs.size ≠ b := fun e => Nat.ne_of_gt (Heap.lt_size e)
  have n1 : s.heap.objs.size ≠ c.i1 := let ⟨_, e, _⟩ := q.it1; lt e
  have n2 : s.heap.objs.size ≠ c.i2 := let ⟨_, e, _⟩ := q.it2; lt e
  have n3 : s.heap.objs.size ≠ c.S := let ⟨_, e⟩ := hS; lt e
  rcases q.zp with ⟨h1, a, b, h2⟩ | ⟨T, f, oT, h1, h2, r1, r2, r3, r4⟩
  · refine wpAny_pyNext_zip_item D h1 q.ti h2 q.it1 q.it2 q.a1 q.a2 hx hy fun h' b1 b2 b3 b4 b5 b6 hk => ?_
    exact hQ h' ⟨hk _ _ D.TIz D.TITO D.TIi1 D.TIi2 q.ti, b3, b4, q.a1.at fun o e => hk _ o D.l1z D.l1TO D.l1i1 D.l1i2 e, q.a2.at fun o e => hk _ o D.l2z D.l2TO D.l2i1 D.l2i2 e,
      .inr ⟨_, false, _, b1, b5, lt h1, n1, n2, n3⟩⟩ b5 b6 hk
  · refine wpAny_pyNext_zip_item_held D h1 h2 q.ti q.it1 q.it2 q.a1 q.a2 hx hy fun h' b1 b3 b4 b5 b6 hk => ?_
    exact hQ h' ⟨hk _ _ D.TIz D.TIi1 D.TIi2 q.ti, b3, b4, q.a1.at fun o e => hk _ o D.l1z D.l1i1 D.l1i2 e, q.a2.at fun o e => hk _ o D.l2z D.l2i1 D.l2i2 e,
      .inr ⟨T, true, oT, b1, hk _ _ r1 r2 r3 h2, r1, r2, r3, r4⟩⟩ b5 b6 fun b o e1 _ e3 e4 e => hk b o e1 e3 e4 e
theorem zl_end {Q : Option Value → Shared → Prop} (hh : A.handled = none) (ok : c.Ok) (q : ZAt c xs ys i s.heap) (hend : xs[i]? = none ∨ ys[i]? = none)
    (hQ : ∀ h', (∀ b o, b ≠ c.z → b ≠ c.TO → b ≠ c.i1 → b ≠ c.i2 → s.heap.get? b = some o → h'.get? b = some o) → Q none { s with heap := h' }) :
    wpAny (model prog w) A (pyNext (.ref c.z)) Q E s := by
  have D := ok.D
  rcases q.zp with ⟨h1, a, b, h2⟩ | ⟨T, f, oT, h1, h2, r1, r2, r3, r4⟩
  · exact wpAny_pyNext_zip_end hh D h1 q.ti h2 q.it1 q.it2 q.a1 q.a2 hend hQ
  · exact wpAny_pyNext_zip_end_held hh D h1 h2 q.ti q.it1 q.it2 q.a1 q.a2 hend fun h' hk => hQ h' fun b o e1 _ e3 e4 e => hk b o e1 e3 e4 e
/-- the pairs that were made, none of them where an old object stands -/
structure ZMade (c : ZC) (xs ys : Array Value) (b0 : Nat) (as : List Addr) (h : Heap) : Prop where
  nd : as.Nodup
  at' : ∀ (j : Nat) (t : Addr), as[j]? = some t → ∃ x y, xs[j]? = some x ∧ ys[j]? = some y ∧ PySem.IsPair h t x y ∧ b0 ≤ t ∧ t ≠ c.z ∧ t ≠ c.TO ∧ t ≠ c.i1 ∧ t ≠ c.i2 ∧ t ≠ c.S
abbrev lstAt (h : Heap) (S : Addr) (acc : Array Value) (k : Nat) : Prop := h.get? S = some { cls := .type "list", dict := none, data := .seq acc k, slots := #[] }
theorem zl_loop {R : Result → Shared → Prop} {h0 : Heap} {res : Value} (hh : A.handled = none) (ok : c.Ok) (hz : min xs.size ys.size ≤ sizeLine)
    (b1 : h0.objs.size ≤ c.z) (b2 : h0.objs.size ≤ c.TO) (b3 : h0.objs.size ≤ c.i1) (b4 : h0.objs.size ≤ c.i2) (b5 : h0.objs.size ≤ c.S) (b6 : c.TO < c.S) :
    ∀ (m i : Nat) (s : Shared) (acc : Array Value) (k : Nat) (as : List Addr), min xs.size ys.size - i = m → i ≤ min xs.size ys.size → ZAt c xs ys i s.heap → lstAt s.heap c.S acc k → acc.toList = as.map Value.ref → as.length = i → ZMade c xs ys h0.objs.size as s.heap →
      (∀ b o, h0.get? b = some o → s.heap.get? b = some o) →
      (∀ h' acc' k' as', (∀ b o, h0.get? b = some o → h'.get? b = some o) → lstAt h' c.S acc' k' → acc'.toList = as'.map Value.ref → as'.length = min xs.size ys.size → ZMade c xs ys h0.objs.size as' h' → R (.ok (.ret res)) { s with heap := h' }) →
      codeAny (model prog w) A (.builtin "list.extend.loop" ⟨[.ref c.S, .ref c.z, res], []⟩) R s := by
  intro m
  induction m with
  | zero =>
    intro i s acc k as hm hi q hS hacc hl hM hkeep hR
    have hin : i = min xs.size ys.size := by omega
    refine codeAny_builtin F.entry_extend_loop ?_
    rw [Around.under_plainId F.plain_extend_loop _]
    refine wpAny_bind (zl_end (A := A.in1) hh ok q ?_ fun h' hk => ?_)
    · rcases Nat.le_total xs.size ys.size with h | h
      · exact .inl (Array.getElem?_eq_none (by omega))
      · exact .inr (Array.getElem?_eq_none (by omega))
    · refine wpAny_pure (hR h' acc k as (fun b o e => ?_) (hk _ _ (Ne.symm ok.z) (Ne.symm ok.TO) (Ne.symm ok.i1) (Ne.symm ok.i2) hS) hacc (by omega) ⟨hM.nd, fun j t e => ?_⟩)
      · have hb := Heap.lt_size e
        exact hk b o (ne_lo hb b1) (ne_lo hb b2) (ne_lo hb b3) (ne_lo hb b4) (hkeep b o e)
      · obtain ⟨x, y, e1, e2, e3, e4, e5, e6, e7, e8, e9⟩ := hM.at' j t e
        exact ⟨x, y, e1, e2, hk _ _ e5 e6 e7 e8 e3, e4, e5, e6, e7, e8, e9⟩
  | succ m ih =>
    intro i s acc k as hm hi q hS hacc hl hM hkeep hR
    have hix : i < xs.size := by omega
    have hiy : i < ys.size := by omega
    refine codeAny_builtin F.entry_extend_loop ?_
    rw [Around.under_plainId F.plain_extend_loop _]
    refine wpAny_bind (zl_item ok q ⟨_, hS⟩ (Array.getElem?_eq_getElem hix) (Array.getElem?_eq_getElem hiy) fun h' q' hp hsz hk => ?_)
    have hS' : lstAt h' c.S acc k := hk _ _ (Ne.symm ok.z) (Ne.symm ok.TO) (Ne.symm ok.i1) (Ne.symm ok.i2) hS
    have hsa : acc.size = i := by
      have := congrArg List.length hacc
      simp at this
      omega
    have lt : ∀ {b o}, s.heap.get? b = some o → s.heap.objs.size ≠ b := fun e => Nat.ne_of_gt (Heap.lt_size e)
    have nS : s.heap.objs.size ≠ c.S := lt hS
    have hle : h0.objs.size ≤ s.heap.objs.size := Nat.le_trans b5 (Nat.le_of_lt (Heap.lt_size hS))
    have nz : s.heap.objs.size ≠ c.z := by
      rcases q.zp with ⟨h, _⟩ | ⟨_, _, _, h, _⟩
      · exact lt h
      · exact lt h
    have nTO : s.heap.objs.size ≠ c.TO := Nat.ne_of_gt (Nat.lt_trans b6 (Heap.lt_size hS))
    have n1 : s.heap.objs.size ≠ c.i1 := let ⟨_, e, _⟩ := q.it1; lt e
    have n2 : s.heap.objs.size ≠ c.i2 := let ⟨_, e, _⟩ := q.it2; lt e
    show wpAny _ A.in1 (updateSeq c.S (·.push (Value.ref s.heap.objs.size)) >>= _) _ _ _
    have oth : ∀ b o, b ≠ c.S → h'.get? b = some o → (h'.update c.S (Obj.mapSeq (·.push (Value.ref s.heap.objs.size)))).get? b = some o := fun b o hb e => (Heap.get?_update_other _ _ (Ne.symm hb)).trans e
    refine wpAny_bind (wpAny_updateSeq hS' rfl (wpAny_pure ⟨plainId_quiet F.plain_extend_loop _, ?_⟩) (by omega) (by show (acc.push _).size ≤ _; rw [Array.size_push]; omega))
    have got : ZAt c xs ys (i + 1) (h'.update c.S (Obj.mapSeq (·.push (Value.ref s.heap.objs.size)))) := q'.frame ok oth
    refine ih (i + 1) _ (acc.push (.ref s.heap.objs.size)) _ (as ++ [s.heap.objs.size]) (by omega) (by omega) got (Heap.get?_update_self _ hS' rfl) (by simp [hacc]) (by simp [hl]) ⟨?_, fun j t e => ?_⟩ (fun b o e => ?_) hR
    · rw [List.nodup_append]
      refine ⟨hM.nd, by simp, fun a ha b hb => ?_⟩
      rw [List.mem_singleton.mp hb]
      obtain ⟨j, hj⟩ := List.mem_iff_getElem?.mp ha
      obtain ⟨x, y, _, _, e3, _⟩ := hM.at' j a hj
      exact Ne.symm (lt e3)
    · by_cases hj : j < as.length
      · rw [List.getElem?_append_left hj] at e
        obtain ⟨x, y, e1, e2, e3, e4, e5, e6, e7, e8, e9⟩ := hM.at' j t e
        exact ⟨x, y, e1, e2, oth _ _ e9 (hk _ _ e5 e6 e7 e8 e3), e4, e5, e6, e7, e8, e9⟩
      · have hj2 : j = as.length := by
          have := (List.getElem?_eq_some_iff.mp e).1
          simp at this
          omega
        subst hj2
        rw [List.getElem?_append_right (Nat.le_refl _)] at e
        simp at e
        subst e
        rw [hl]
        exact ⟨_, _, Array.getElem?_eq_getElem hix, Array.getElem?_eq_getElem hiy, oth _ _ nS hp, hle, nz, nTO, n1, n2, nS⟩
    · have hb := Heap.lt_size e
      exact oth b o (ne_lo hb b5) (hk b o (ne_lo hb b1) (ne_lo hb b2) (ne_lo hb b3) (ne_lo hb b4) (hkeep b o e))
/-- list(z) -/
theorem zl_call {Q : Value → Shared → Prop} {l1 l2 : Addr} (hh : A.handled = none) (hl1 : s.heap.IsList l1 xs) (hl2 : s.heap.IsList l2 ys) (hz : min xs.size ys.size ≤ sizeLine)
    (hQ : ∀ (h' : Heap) (S : Addr) (acc : Array Value) (k : Nat) (as : List Addr), (∀ b o, s.heap.get? b = some o → h'.get? b = some o) → s.heap.objs.size ≤ S → lstAt h' S acc k → acc.toList = as.map Value.ref → as.length = min xs.size ys.size → as.Nodup →
      (∀ (j : Nat) (t : Addr), as[j]? = some t → ∃ x y, xs[j]? = some x ∧ ys[j]? = some y ∧ PySem.IsPair h' t x y ∧ s.heap.objs.size ≤ t ∧ t ≠ S) → Q (.ref S) { s with heap := h' }) :
    wpAny (model prog w) A (call (.type "zip") [.ref l1, .ref l2]) (fun v s1 => wpAny (model prog w) A (call (.type "list") [v]) Q E s1) E s := by
  refine call_zip_2 hl1 hl2 fun h1 g1 g2 g3 g4 g5 g6 hk1 => ?_
  have hTy : ∀ h tk, (∀ b o, h1.get? b = some o → h.get? b = some o) → Shared.TypeIs { s with heap := h, toks := tk } (.ref (s.heap.objs.size + 4)) "zip" := fun h tk k => ⟨_, k _ _ g1, rfl⟩
  refine callType_codes (Q₁ := fun obj s₁ => obj = .ref h1.objs.size ∧ s₁ = { s with heap := h1.push { cls := .type "list", data := .seq #[] } }) F.called_list (F.typeCall_list_1 _) F.entry_list_init
    (code_list_new _ ⟨rfl, rfl⟩) fun obj s₁ e => ?_
  obtain ⟨rfl, rfl⟩ := e
  have hS : (h1.push { cls := .type "list", data := .seq #[] }).get? h1.objs.size = some { cls := .type "list", data := .seq #[] } := Heap.get?_push_size _ rfl
  refine ⟨⟨_, hS, rfl⟩, F.args_list_init_2 _ _, ?_⟩
  let C : ZC := ⟨s.heap.objs.size + 4, s.heap.objs.size + 2, s.heap.objs.size + 3, s.heap.objs.size, s.heap.objs.size + 1, l1, l2, h1.objs.size⟩
  have m1 : l1 < s.heap.objs.size := by obtain ⟨o, e, _⟩ := hl1; exact Heap.lt_size e
  have m2 : l2 < s.heap.objs.size := by obtain ⟨o, e, _⟩ := hl2; exact Heap.lt_size e
  have ok : C.Ok := ⟨PySem.W.ktu_apart s.heap.objs.size l1 l2 m1 m2, by show s.heap.objs.size + 4 ≠ h1.objs.size; omega, by show s.heap.objs.size + 2 ≠ h1.objs.size; omega, by show s.heap.objs.size + 3 ≠ h1.objs.size; omega, by show s.heap.objs.size ≠ h1.objs.size; omega, by show s.heap.objs.size + 1 ≠ h1.objs.size; omega, ne_lo m1 (by show s.heap.objs.size ≤ h1.objs.size; omega), ne_lo m2 (by show s.heap.objs.size ≤ h1.objs.size; omega)⟩
  have q1 : ZAt C xs ys 0 h1 := ⟨g2, g4, g5, hl1.at fun o e => hk1 _ _ e, hl2.at fun o e => hk1 _ _ e, .inl ⟨g1, _, _, g3⟩⟩
  show wpAny _ A.in1.in1 (Builtin.List.listItems (.ref h1.objs.size) >>= fun old => Builtin.List.listUpdate (.ref h1.objs.size) (fun _ => #[]) >>= fun _ => letGo old.toList.reverse >>= fun _ => Builtin.List.listExtendWith (.ref h1.objs.size) (.ref (s.heap.objs.size + 4)) .none) _ _ _
  unfold Builtin.List.listItems; refine wpAny_bind (wpAny_bind (wpAny_seqItems hS rfl (wpAny_pure ?_)))
  show wpAny _ A.in1.in1 (updateSeq h1.objs.size (fun _ => #[]) >>= fun _ => letGo (#[] : Array Value).toList.reverse >>= fun _ => Builtin.List.listExtendWith (.ref h1.objs.size) (.ref (s.heap.objs.size + 4)) .none) _ _ _
  refine wpAny_bind (wpAny_updateSeq hS rfl (wpAny_bind (wpAny_letGo ?_)))
  have hS2 := Heap.get?_update_self (Obj.mapSeq (fun _ => (#[] : Array Value))) hS rfl
  have k2 : ∀ b o, b ≠ h1.objs.size → h1.get? b = some o → ((h1.push { cls := .type "list", data := .seq #[] }).update h1.objs.size (Obj.mapSeq (fun _ => (#[] : Array Value)))).get? b = some o := fun b o hb e => (Heap.get?_update_other _ _ (Ne.symm hb)).trans (Heap.get?_push_of_some _ e)
  generalize (h1.push { cls := .type "list", data := .seq #[] }).update h1.objs.size (Obj.mapSeq (fun _ => (#[] : Array Value))) = h2 at hS2 k2
  have q2 : ZAt C xs ys 0 h2 := q1.frame ok k2
  unfold Builtin.List.listExtendWith; refine wpAny_bind (wpAny_typeOf (T := "zip") (q2.type (s := { s with heap := h2 })) ?_)
  have e1 : Builtin.List.listSameRef (.ref h1.objs.size) (.ref (s.heap.objs.size + 4)) = false := by
    have : h1.objs.size ≠ s.heap.objs.size + 4 := by omega
    simp [Builtin.List.listSameRef, this]
  simp only [e1, show (Value.type "zip" == Value.type "list") = false from by decide, show (Value.type "zip" == Value.type "tuple") = false from by decide, Bool.or_false, Bool.false_eq_true, if_false]
  have gz : PySem.IsZip h2 (s.heap.objs.size + 4) (s.heap.objs.size + 2) (s.heap.objs.size + 3) .none := k2 _ _ (by omega) g1
  refine wpAny_bind (wpAny_pyIter_zip gz (wpAny_bind (wpAny_holding ?_)))
  unfold Builtin.List.listLengthHint; refine wpAny_bind (wpAny_specialOf (T := "zip") (q2.type (s := { s with heap := h2 })) zp_nolen ?_)
  show wpAny _ A.in1.in1 (specialOf (Value.ref (s.heap.objs.size + 4)) (Str.ofString "__length_hint__") >>= _) _ _ _
  refine wpAny_bind (wpAny_specialOf (T := "zip") (q2.type (s := { s with heap := h2 })) zp_nohint (wpAny_pure ?_))
  show wpAny _ A.in1.in1 (rule "list.extend.makes-room" >>= fun _ => Builtin.List.listTouch (.ref h1.objs.size) >>= fun _ => again (.builtin "list.extend.loop" ⟨[.ref h1.objs.size, .ref (s.heap.objs.size + 4), .none], []⟩)) _ _ _
  refine wpAny_bind (wpAny_rule (wpAny_bind ?_))
  show wpAny _ A.in1.in1 (updateSeq h1.objs.size (·.push .none) >>= fun _ => updateSeq h1.objs.size (·.pop)) _ _ _
  refine wpAny_bind (wpAny_updateSeq hS2 rfl ?_)
  have hS3 := Heap.get?_update_self (Obj.mapSeq (·.push Value.none)) hS2 rfl
  refine wpAny_updateSeq (hz := by seq_fits) hS3 rfl (wpAny_pure ⟨plainId_quiet F.plain_extend_loop _, ?_⟩)
  have hS4 := Heap.get?_update_self (Obj.mapSeq (·.pop)) hS3 rfl
  have k4 : ∀ b o, b ≠ h1.objs.size → h2.get? b = some o → ((h2.update h1.objs.size (Obj.mapSeq (·.push Value.none))).update h1.objs.size (Obj.mapSeq (·.pop))).get? b = some o := fun b o hb e => (Heap.get?_update_other _ _ (Ne.symm hb)).trans ((Heap.get?_update_other _ _ (Ne.symm hb)).trans e)
  have up : s.heap.objs.size < h1.objs.size := by omega
  refine zl_loop (A := A.in1) (c := C) (h0 := s.heap) hh ok hz (by show s.heap.objs.size ≤ s.heap.objs.size + 4; omega) (by show s.heap.objs.size ≤ s.heap.objs.size + 3; omega) (Nat.le_refl _) (by show s.heap.objs.size ≤ s.heap.objs.size + 1; omega) (Nat.le_of_lt up) (by show s.heap.objs.size + 3 < h1.objs.size; omega)
    (min xs.size ys.size) 0 _ #[] _ [] rfl (Nat.zero_le _) (q2.frame ok k4) hS4 rfl rfl ⟨by simp, fun j t e => by simp at e⟩ (fun b o e => ?_) fun h' acc k as kp hl ha hn hM => ?_
  · have hb := Heap.lt_size e
    exact k4 _ _ (ne_lo hb (Nat.le_of_lt up)) (k2 _ _ (ne_lo hb (Nat.le_of_lt up)) (hk1 _ _ e))
  · refine ⟨rfl, hQ h' _ acc k as kp (Nat.le_of_lt up) hl ha hn hM.nd fun j t e => ?_⟩
    obtain ⟨x, y, e1, e2, e3, e4, e5, e6, e7, e8, e9⟩ := hM.at' j t e
    exact ⟨x, y, e1, e2, e3, e4, e9⟩
end
/-- pairs laid at their addresses -/
def putP : Hp → List Addr → List (V × V) → Hp
  | H, a :: as, p :: ps => putP (upd H a (.tup [p.1, p.2])) as ps
  | H, _, _ => H
theorem putP_off {b : Addr} : ∀ (as : List Addr) (ps : List (V × V)) (H : Hp), b ∉ as → putP H as ps b = H b
  | [], _, _, _ => by simp [putP]
  | _ :: _, [], _, _ => by simp [putP]
  | a :: as, p :: ps, H, h => by
    simp only [List.mem_cons, not_or] at h
    simp only [putP]
    rw [putP_off as ps _ h.2, upd_ne h.1]
theorem putP_at : ∀ (as : List Addr) (ps : List (V × V)) (H : Hp), as.Nodup → ∀ (j : Nat) (t : Addr) (p : V × V), as[j]? = some t → ps[j]? = some p → putP H as ps t = some (.tup [p.1, p.2])
  | [], _, _, _, _, _, _, e, _ => by simp at e
  | _ :: _, [], _, _, _, _, _, _, e => by simp at e
  | a :: as, q :: ps, H, h, 0, t, p, e1, e2 => by
    simp at e1 e2
    subst e1; subst e2
    simp only [putP]
    rw [putP_off as ps _ (List.nodup_cons.mp h).1, upd_same]
  | a :: as, q :: ps, H, h, j + 1, t, p, e1, e2 => putP_at as ps _ (List.nodup_cons.mp h).2 j t p (by simpa using e1) (by simpa using e2)
def tListZip (K : PySem.W.Frag) (ta : TA) : TE := fun σ H Q => ta σ H fun vs H1 => ∃ a b xs ys, vs = [.ref a, .ref b] ∧ SqL K H1 a xs ∧ SqL K H1 b ys ∧
  ∀ (as : List Addr) (S : Addr), as.Nodup → (∀ t ∈ as, H1 t = none) → H1 S = none → S ∉ as → as.length = (xs.zip ys).length → Q (.ref S) (upd (putP H1 as (xs.zip ys)) S (.lst (as.map V.ref)))
theorem refs_vals : ∀ as : List Addr, Vals (as.map V.ref) (as.map Value.ref)
  | [] => .nil
  | _ :: r => .cons rfl (refs_vals r)
theorem vals_back {xs : List V} {us : List Value} {j : Nat} {u : Value} (r : Vals xs us) (h : us[j]? = some u) : ∃ x, xs[j]? = some x ∧ RelV x u := by
  have hj : j < xs.length := by rw [r.length]; exact (List.getElem?_eq_some_iff.mp h).1
  obtain ⟨u', h1, h2⟩ := r.get (List.getElem?_eq_getElem hj)
  rw [h] at h1
  cases h1
  exact ⟨_, List.getElem?_eq_getElem hj, h2⟩
section
variable {X : Cx} {e e2 : Expr} {ta : TA} {p p2 pos pos2 : Pos}
theorem zip_laid {pins : List (Addr × Obj)} {σ : L2.St} {H : Hp} {s : Shared} {h' : Heap} {xs ys : List V} {us vs : List Value} {acc : Array Value} {k : Nat} {S : Addr} {as : List Addr} (I : Inv X pins σ H s) (r1 : Vals xs us) (r2 : Vals ys vs) (hz : as.length ≤ sizeLine)
    (hk : ∀ b o, s.heap.get? b = some o → h'.get? b = some o) (hb : s.heap.objs.size ≤ S) (hS : lstAt h' S acc k) (hacc : acc.toList = as.map Value.ref) (hn : as.Nodup)
    (hM : ∀ (j : Nat) (t : Addr), as[j]? = some t → ∃ x y, us.toArray[j]? = some x ∧ vs.toArray[j]? = some y ∧ PySem.IsPair h' t x y ∧ s.heap.objs.size ≤ t ∧ t ≠ S) :
    (∀ t ∈ as, H t = none) ∧ H S = none ∧ S ∉ as ∧ Inv X pins σ (upd (putP H as (xs.zip ys)) S (.lst (as.map V.ref))) { s with heap := h' } := by
  have lo : ∀ t ∈ as, s.heap.objs.size ≤ t ∧ t ≠ S := fun t ht => by
    obtain ⟨j, e⟩ := List.mem_iff_getElem?.mp ht
    obtain ⟨x, y, _, _, _, h4, h5⟩ := hM j t e
    exact ⟨h4, h5⟩
  have new : ∀ t ∈ as, H t = none := fun t ht => I.hok.fresh (lo t ht).1
  have newS : H S = none := I.hok.fresh hb
  have nS : S ∉ as := fun z => (lo S z).2 rfl
  have off : ∀ b, b ∉ as → b ≠ S → upd (putP H as (xs.zip ys)) S (.lst (as.map V.ref)) b = H b := fun b h1 h2 => by rw [upd_ne h2, putP_off as _ _ h1]
  have low : ∀ b o, s.heap.get? b = some o → b ∉ as ∧ b ≠ S := fun b o e => ⟨fun z => absurd (Heap.lt_size e) (Nat.not_lt.mpr (lo b z).1), ne_lo (Heap.lt_size e) hb⟩
  have kp : ∀ b u, H b = some u → upd (putP H as (xs.zip ys)) S (.lst (as.map V.ref)) b = some u := fun b u e => by
    rw [off b (fun z => by rw [new b z] at e; cases e) (fun z => by rw [z, newS] at e; cases e)]
    exact e
  refine ⟨new, newS, nS, I.call' (ch := []) rfl ⟨fun b o q _ _ _ => hk b o q, fun b o q _ _ _ => ⟨o.slots, hk b o q⟩, fun b o q n _ => ?_, fun b o q _ => ⟨o, hk b o q⟩, fun b zs q => kp b _ q, fun b o u q => kp b _ q, fun b ps q => ⟨#[], by rw [kp b _ q]; simp⟩⟩ (fun b u q => ?_) I.bare fun b z => by simp at z⟩
  · obtain ⟨z1, z2⟩ := low b o q
    rw [off b z1 z2]
    exact n
  · by_cases hb2 : b = S
    · rw [hb2, upd_same] at q
      cases q
      rw [hb2]
      refine ⟨by rw [List.length_map]; exact hz, acc.toList, k, by rw [hacc]; exact refs_vals as, ?_⟩
      rw [Array.toArray_toList]
      exact hS
    · by_cases hm : b ∈ as
      · obtain ⟨j, e⟩ := List.mem_iff_getElem?.mp hm
        obtain ⟨x, y, h1, h2, h3, _, _⟩ := hM j b e
        simp at h1 h2
        obtain ⟨x', g1, g2⟩ := vals_back r1 h1
        obtain ⟨y', g3, g4⟩ := vals_back r2 h2
        have ez : (xs.zip ys)[j]? = some (x', y') := by simp [List.getElem?_zip_eq_some, g1, g3]
        rw [upd_ne hb2, putP_at as _ H hn j b _ e ez] at q
        cases q
        exact ⟨by show 2 ≤ sizeLine; decide, [x, y], .cons g2 (.cons g4 .nil), ⟨_, h3, rfl, _, rfl⟩⟩
      · rw [off b hm hb2] at q
        exact (I.hok b u q).stay (fun d v _ y => hk d v y) (fun d y => kp d _ y) fun d zs y => kp d _ y
/-- list(zip(e, e2)) -/
theorem pe_listZip (hc : X.calm = true) (hg : Gl X "list") (hm : X.mg "list" = none) (hg2 : Gl X "zip") (hm2 : X.mg "zip" = none) (ha : PA X [e, e2] ta)
    (hs : starEach [e, e2] X.env = (false, eval e X.env) :: starEach [e2] X.env) (hpl : (backTo pos2 (starEach [e2] X.env)).any (·.1) = false)
    (na : starEach [Expr.Call (.Name "zip" p2) [e, e2] [] pos2] X.env = (false, eval (.Call (.Name "zip" p2) [e, e2] [] pos2) X.env) :: starEach [] X.env := by rfl) :
    PE X (.Call (.Name "list" p) [.Call (.Name "zip" p2) [e, e2] [] pos2] [] pos) (tListZip X.K ta) := by
  refine ⟨fun pins s σ H Q I h => ?_⟩
  refine Call_ (ld_blt I hg hm boot_list (PyProof.Rows.callWith_type1 (args_cons ?_ na) na))
  refine Call_ (ld_blt I hg2 hm2 PyProof.Rows.boot_zip (PyProof.Rows.callWith_type1 (thn (ha.run pos2 pins s σ H _ I h) fun us s1 ⟨vs, H1, I1, r1, q1⟩ => ?_) hs hpl))
  obtain ⟨a, b, xs, ys, ex, hqx, hqy, q⟩ := q1
  subst ex
  cases r1 with
  | cons r rr =>
    cases rr with
    | cons r' rr =>
      cases rr; cases r; cases r'
      obtain ⟨us, rv, p1, hz1⟩ := I1.list hqx
      obtain ⟨vs, rv2, p2, hz2⟩ := I1.list hqy
      have l1 := rv.length
      have l2 := rv2.length
      refine wpAny_mono (zl_call (Q := EP X pins σ Q) (I1.ok.hd hc) p1.isList p2.isList (by simp; omega) fun h' S acc k as hk hb hS hacc hl hn hM => ?_) (fun v s2 z => args_nil z) fun _ _ z => z
      have hl' : as.length = (xs.zip ys).length := by rw [hl]; simp [l1, l2]
      obtain ⟨n1, n2, n3, J⟩ := zip_laid I1 rv rv2 (by rw [hl]; simp; omega) hk hb hS hacc hn hM
      exact ⟨.ref S, _, J, rfl, q as S hn n1 n2 n3 hl'⟩
end
end Gs
end

section
set_option linter.all false
set_option maxRecDepth 100000
set_option autoImplicit false
namespace Gs
open PySem PySem.Spec PyProof.Rows L2
variable [Wd]
/-! ### what is walked -/
/-- what stands for a value stays so -/
structure Le (Φ : Hp) (ι : List Addr) (Φ' : Hp) (ι' : List Addr) : Prop where
  fz : ∀ a o, Φ a = some o → Φ' a = some o
  lo : ι <+: ι'
theorem Ext.le {Φ H Φ' H' : Hp} {ι ι' : List Addr} (e : Ext Φ ι H Φ' ι' H') : Le Φ ι Φ' ι' := ⟨e.fz, e.lo⟩
theorem Le.rv {K : Frag} {Φ Φ' : Hp} {ι ι' : List Addr} (e : Le Φ ι Φ' ι') {x : W} {v : V} (r : RV K Φ ι x v) : RV K Φ' ι' x v := r.mono e.fz e.lo
theorem Le.trans {Φ Φ1 Φ2 : Hp} {ι ι1 ι2 : List Addr} (a : Le Φ ι Φ1 ι1) (b : Le Φ1 ι1 Φ2 ι2) : Le Φ ι Φ2 ι2 := ⟨fun c o h => b.fz c o (a.fz c o h), a.lo.trans b.lo⟩
theorem Le.env {K : Frag} {Φ Φ' : Hp} {ι ι' : List Addr} {ρ : Rho} {σ : L2.St} (e : Le Φ ι Φ' ι') (r : REnv K Φ ι ρ σ) : REnv K Φ' ι' ρ σ := ⟨r.1, fun i w h => by
  obtain ⟨v, h1, h2⟩ := r.2 i w h
  exact ⟨v, h1, e.rv h2⟩⟩
structure ItOk (c : Cf) (xs : List W) (Φ : Hp) (ι : List Addr) (J : It) : Prop where
  go : ∀ (Φ' : Hp) (ι' : List Addr) (S' : Store) (H' : Hp) (i : Nat) (w : W), Le Φ ι Φ' ι' → Rel c.K Φ' ι' S' H' → xs[i]? = some w → J.go i H' ∧ ∀ x H'', J.yld i H' x H'' → ∃ Φ'', Ext Φ' ι' H' Φ'' ι' H'' ∧ Rel c.K Φ'' ι' S' H'' ∧ RV c.K Φ'' ι' w x
  stop : ∀ (Φ' : Hp) (ι' : List Addr) (S' : Store) (H' : Hp) (i : Nat), Le Φ ι Φ' ι' → Rel c.K Φ' ι' S' H' → xs.length ≤ i → J.stop i H'
def rdI (c : Cf) (Wx : WX) (f : Rho → Store → Out (List W)) : TI := fun σ H R => ∃ (Φ : Hp) (ι : List Addr) (S : Store) (ρ : Rho), Rel c.K Φ ι S H ∧ REnv c.K Φ ι ρ σ ∧
  After c Φ ι H (f ρ S) (fun xs Φ' ι' S' H' => ∀ J, ItOk c xs Φ' ι' J → R J H') (fun cls d H' => Wx cls d σ H')
theorem _root_.L2.PI.imp {X : Cx} {tg e : Expr} {t t' : TI} (h : PI X tg e t) (k : ∀ σ H Q, t' σ H Q → t σ H Q) : PI X tg e t' := ⟨fun pins s σ H Q I q => h.run pins s σ H Q I (k σ H Q q)⟩
section
variable {c : Cf} {X : Cx} {tg : Expr}
/-- a list, a tuple or a text -/
def iSeq (K : Frag) (tl : TE) : TI := fun σ H R => tl σ H fun x H1 => (∃ a, x = .ref a ∧ (∃ xs, SqL K H1 a xs) ∧ R (Itl K a) H1) ∨ (∃ a, x = .ref a ∧ (∃ xs, SqT K H1 a xs) ∧ R (Itt K a) H1) ∨ ∃ z, x = .str z ∧ R (Its z) H1
theorem pi_seq {l : Expr} {tl : TE} (hl : PE X l tl) : PI X tg l (iSeq X.K tl) := by
  refine ⟨fun pins s σ H R I h => ?_⟩
  refine thn (hl.run pins s σ H _ I h) fun v s1 ⟨x, H1, I1, r1, q1⟩ => ?_
  rcases q1 with ⟨a, e, ⟨xs, hq⟩, q⟩ | ⟨a, e, ⟨xs, hq⟩, q⟩ | ⟨x, ex, q⟩
  · subst e
    cases r1
    obtain ⟨its, rv, p, hz⟩ := I1.list hq
    refine wpAny_pyIter_list p.isList ?_
    exact pi_one (tk := s1.toks) I1 _ (turn_list a _) ⟨_, Heap.get?_push_size _ rfl, rfl, rfl⟩ q
  · subst e
    cases r1
    obtain ⟨its, rv, p, hz⟩ := I1.tuple hq
    refine wpAny_pyIter_tuple (show s1.heap.IsTuple a its.toArray from p) ?_
    exact pi_one (tk := s1.toks) I1 _ (turn_tuple a _) ⟨_, Heap.get?_push_size _ rfl, rfl, rfl⟩ q
  · subst ex
    obtain ⟨t, rfl⟩ := r1
    cases ha : x.cps.all (· < 128)
    · exact wpAny_pyIter_wide ha (pi_one (tk := s1.toks) I1 _ (turn_str _ x t "str_iterator" (.inr rfl)) ⟨_, Heap.get?_push_size _ rfl, rfl, rfl⟩ q)
    · exact wpAny_pyIter_ascii ha (pi_one (tk := s1.toks) I1 _ (turn_str _ x t "str_ascii_iterator" (.inl rfl)) ⟨_, Heap.get?_push_size _ rfl, rfl, rfl⟩ q)
theorem itOk_lst {xs : List W} {vs : List V} {Φ : Hp} {ι : List Addr} {a : Addr} (s : SqL c.K Φ a vs) (t : RVs c.K Φ ι xs vs) : ItOk c xs Φ ι (Itl c.K a) where
  go := fun Φ' ι' S' H' i w e R h => by
    obtain ⟨v, h1, h2⟩ := t.get h
    have q := SqL.mono R.sub (SqL.mono e.fz s)
    refine ⟨⟨vs, v, q, h1⟩, fun x H'' ⟨e1, e2⟩ => ?_⟩
    subst e1
    have e3 := e2 vs q
    rw [h1] at e3; cases e3
    exact ⟨Φ', Ext.refl _ _ _, R, e.rv h2⟩
  stop := fun Φ' ι' S' H' i e R h => ⟨vs, SqL.mono R.sub (SqL.mono e.fz s), by rw [← t.length]; exact h⟩
theorem itOk_tup {xs : List W} {vs : List V} {Φ : Hp} {ι : List Addr} {a : Addr} (s : SqT c.K Φ a vs) (t : RVs c.K Φ ι xs vs) : ItOk c xs Φ ι (Itt c.K a) where
  go := fun Φ' ι' S' H' i w e R h => by
    obtain ⟨v, h1, h2⟩ := t.get h
    have q := SqT.mono R.sub (SqT.mono e.fz s)
    refine ⟨⟨vs, v, q, h1⟩, fun x H'' ⟨e1, e2⟩ => ?_⟩
    subst e1
    have e3 := e2 vs q
    rw [h1] at e3; cases e3
    exact ⟨Φ', Ext.refl _ _ _, R, e.rv h2⟩
  stop := fun Φ' ι' S' H' i e R h => ⟨vs, SqT.mono R.sub (SqT.mono e.fz s), by rw [← t.length]; exact h⟩
theorem itOk_str {z : Str} {Φ : Hp} {ι : List Addr} (hz : okS z) : ItOk c (z.cps.toList.map fun ch => .str ⟨#[ch]⟩) Φ ι (Its z) where
  go := fun Φ' ι' S' H' i w e R h => by
    rw [List.getElem?_map, Option.map_eq_some_iff] at h
    obtain ⟨ch, h1, rfl⟩ := h
    refine ⟨show i < z.cps.size by simpa using (List.getElem?_eq_some_iff.mp h1).1, fun x H'' ⟨e1, c', e2, e3⟩ => ?_⟩
    subst e1; subst e3
    have e4 : z.cps.toList[i]? = some c' := by rw [Array.getElem?_toList]; exact e2
    rw [h1] at e4; cases e4
    exact ⟨Φ', Ext.refl _ _ _, R, .str (okS_one hz h1)⟩
  stop := fun Φ' ι' S' H' i e R h => show z.cps.size ≤ i by simpa using h
theorem rangeW_length (lo hi : Int) : (rangeW lo hi).length = (hi - lo).toNat := by simp [rangeW]
theorem itOk_range {lo hi : Int} {Φ : Hp} {ι : List Addr} : ItOk c (rangeW lo hi) Φ ι (Itr lo (hi - lo).toNat) where
  go := fun Φ' ι' S' H' i w e R h => by
    have hl := (List.getElem?_eq_some_iff.mp h).1
    rw [rangeW_length] at hl
    unfold rangeW at h
    rw [List.getElem?_map, List.getElem?_range hl] at h
    cases h
    refine ⟨hl, fun x H'' ⟨e1, e2⟩ => ?_⟩
    subst e1; subst e2
    exact ⟨Φ', Ext.refl _ _ _, R, .int _⟩
  stop := fun Φ' ι' S' H' i e R h => by rw [rangeW_length] at h; exact h
theorem itOk_rangeD {i j : Int} {Φ : Hp} {ι : List Addr} : ItOk c (rangeD i j) Φ ι (Itc i (-1) (i - j).toNat) where
  go := fun Φ' ι' S' H' n w e R h => by
    have hl := (List.getElem?_eq_some_iff.mp h).1
    have h2 : (rangeD i j).length = (i - j).toNat := by unfold rangeD; rw [List.length_map, List.length_range]
    rw [h2] at hl
    unfold rangeD at h
    rw [List.getElem?_map, List.getElem?_range hl] at h
    cases h
    refine ⟨hl, fun x H'' ⟨e1, e2⟩ => ?_⟩
    subst e1; subst e2
    exact ⟨Φ', Ext.refl _ _ _, R, .int _⟩
  stop := fun Φ' ι' S' H' n e R h => by
    have h2 : (rangeD i j).length = (i - j).toNat := by unfold rangeD; rw [List.length_map, List.length_range]
    rw [h2] at h; exact h
theorem enumW_get : ∀ (xs : List W) (n i : Nat), (enumW n xs)[i]? = (xs[i]?).map fun x => .tup [.int ((n + i : Nat) : Int), x]
  | [], n, i => by simp [enumW]
  | x :: r, n, 0 => by simp [enumW]
  | x :: r, n, i + 1 => by
    simp only [enumW, List.getElem?_cons_succ]
    rw [enumW_get r (n + 1) i]
    have : n + 1 + i = n + (i + 1) := by omega
    rw [this]
theorem enumW_length : ∀ (xs : List W) (n : Nat), (enumW n xs).length = xs.length
  | [], n => rfl
  | x :: r, n => by simp [enumW, enumW_length r]
theorem itOk_enum {xs : List W} {vs : List V} {Φ : Hp} {ι : List Addr} {a : Addr} (s : SqL c.K Φ a vs) (t : RVs c.K Φ ι xs vs) : ItOk c (enumW 0 xs) Φ ι (Ite c.K a) where
  go := fun Φ' ι' S' H' i w e R h => by
    rw [enumW_get, Option.map_eq_some_iff] at h
    obtain ⟨y, h1, rfl⟩ := h
    obtain ⟨v, h2, h3⟩ := t.get h1
    have q := SqL.mono R.sub (SqL.mono e.fz s)
    refine ⟨⟨vs, v, q, h2⟩, fun x H'' ⟨T, z, e1, e2, e3, e4⟩ => ?_⟩
    subst e1; subst e3
    have e5 := e4 vs q
    rw [h2] at e5; cases e5
    obtain ⟨R2, E2⟩ := R.newF (o := .tup [.int (i : Nat), v]) e2
    refine ⟨_, E2, R2, .tup (SqT.of upd_same) (.cons ?_ (.cons (E2.rv (e.rv h3)) .nil))⟩
    rw [Nat.zero_add]
    exact .int _
  stop := fun Φ' ι' S' H' i e R h => ⟨vs, SqL.mono R.sub (SqL.mono e.fz s), by rw [← t.length]; rw [enumW_length] at h; exact h⟩
theorem zipW_get : ∀ (xs ys : List W) (i : Nat) (w : W), (zipW xs ys)[i]? = some w → ∃ x y, xs[i]? = some x ∧ ys[i]? = some y ∧ w = .tup [x, y]
  | [], _, i, w, h => by simp [zipW] at h
  | _ :: _, [], i, w, h => by simp [zipW] at h
  | x :: r, y :: q, 0, w, h => by simp [zipW] at h; exact ⟨x, y, rfl, rfl, h.symm⟩
  | x :: r, y :: q, i + 1, w, h => by
    simp only [zipW, List.getElem?_cons_succ] at h
    simpa using zipW_get r q i w h
theorem zipW_length : ∀ (xs ys : List W), (zipW xs ys).length = min xs.length ys.length
  | [], _ => by simp [zipW]
  | _ :: _, [] => by simp [zipW]
  | x :: r, y :: q => by simp [zipW, zipW_length r q]
/-- fresh pairs of what is frozen -/
theorem zip_rel {K : Frag} {ι : List Addr} {S : Store} : ∀ {xs ys : List W} {vs us : List V} {Φ H : Hp}, Rel K Φ ι S H → RVs K Φ ι xs vs → RVs K Φ ι ys us → ∀ as : List Addr, as.Nodup → (∀ t ∈ as, H t = none) → as.length = (vs.zip us).length →
    ∃ _ : Rel K (putP Φ as (vs.zip us)) ι S (putP H as (vs.zip us)), Ext Φ ι H (putP Φ as (vs.zip us)) ι (putP H as (vs.zip us)) ∧ RVs K (putP Φ as (vs.zip us)) ι (zipW xs ys) (as.map V.ref)
  | [], _, _, _, _, _, R, .nil, _, as, _, _, hl => by
    have : as = [] := List.eq_nil_of_length_eq_zero (by simpa using hl)
    subst this
    exact ⟨R, Ext.refl _ _ _, by simp only [zipW]; exact .nil⟩
  | _ :: _, [], _, _, _, _, R, .cons _ _, .nil, as, _, _, hl => by
    have : as = [] := List.eq_nil_of_length_eq_zero (by simpa using hl)
    subst this
    exact ⟨R, Ext.refl _ _ _, by simp only [zipW]; exact .nil⟩
  | x :: xs, y :: ys, v :: vs, u :: us, Φ, H, R, .cons r1 t1, .cons r2 t2, as, hn, hf, hl => by
    cases as with
    | nil => simp at hl
    | cons a as =>
      obtain ⟨R1, e1⟩ := R.newF (o := .tup [v, u]) (hf a (by simp))
      have hn' := List.nodup_cons.mp hn
      obtain ⟨R2, e2, rv⟩ := zip_rel R1 (e1.rvs t1) (e1.rvs t2) as hn'.2 (fun t ht => by
        rw [upd_ne (fun z : t = a => hn'.1 (z ▸ ht))]
        exact hf t (by simp [ht])) (by simpa using hl)
      refine ⟨R2, e1.trans e2, ?_⟩
      simp only [zipW, List.map_cons]
      refine .cons (.tup (SqT.of (e2.fz _ _ upd_same)) (.cons (e2.rv (e1.rv r1)) (.cons (e2.rv (e1.rv r2)) .nil))) rv
theorem itOk_zip {xs ys : List W} {vs us : List V} {Φ : Hp} {ι : List Addr} {a b : Addr} (s : SqL c.K Φ a vs) (t : RVs c.K Φ ι xs vs) (s2 : SqL c.K Φ b us) (t2 : RVs c.K Φ ι ys us) : ItOk c (zipW xs ys) Φ ι (Itz c.K a b) where
  go := fun Φ' ι' S' H' i w e R h => by
    obtain ⟨y, z, h1, h1', rfl⟩ := zipW_get _ _ _ _ h
    obtain ⟨v, h2, h3⟩ := t.get h1
    obtain ⟨u, h4, h5⟩ := t2.get h1'
    have q := SqL.mono R.sub (SqL.mono e.fz s)
    have q2 := SqL.mono R.sub (SqL.mono e.fz s2)
    refine ⟨⟨vs, us, v, u, q, q2, h2, h4⟩, fun x H'' ⟨T, z1, z2, e1, e2, e3, e4, e5⟩ => ?_⟩
    subst e1; subst e3
    have e6 := e4 vs q
    have e7 := e5 us q2
    rw [h2] at e6; cases e6
    rw [h4] at e7; cases e7
    obtain ⟨R2, E2⟩ := R.newF (o := .tup [v, u]) e2
    exact ⟨_, E2, R2, .tup (SqT.of upd_same) (.cons (E2.rv (e.rv h3)) (.cons (E2.rv (e.rv h5)) .nil))⟩
  stop := fun Φ' ι' S' H' i e R h => ⟨vs, us, SqL.mono R.sub (SqL.mono e.fz s), SqL.mono R.sub (SqL.mono e.fz s2), by rw [← t.length, ← t2.length]; rw [zipW_length] at h; omega⟩
theorem itOk_zipT {xs ys : List W} {vs us : List V} {Φ : Hp} {ι : List Addr} {a b : Addr} (s : SqT c.K Φ a vs) (t : RVs c.K Φ ι xs vs) (s2 : SqT c.K Φ b us) (t2 : RVs c.K Φ ι ys us) : ItOk c (zipW xs ys) Φ ι (RZ.ItzT c.K a b) where
  go := fun Φ' ι' S' H' i w e R h => by
    obtain ⟨y, z, h1, h1', rfl⟩ := zipW_get _ _ _ _ h
    obtain ⟨v, h2, h3⟩ := t.get h1
    obtain ⟨u, h4, h5⟩ := t2.get h1'
    have q := SqT.mono R.sub (SqT.mono e.fz s)
    have q2 := SqT.mono R.sub (SqT.mono e.fz s2)
    refine ⟨⟨vs, us, v, u, q, q2, h2, h4⟩, fun x H'' ⟨T, z1, z2, e1, e2, e3, e4, e5⟩ => ?_⟩
    subst e1; subst e3
    have e6 := e4 vs q
    have e7 := e5 us q2
    rw [h2] at e6; cases e6
    rw [h4] at e7; cases e7
    obtain ⟨R2, E2⟩ := R.newF (o := .tup [v, u]) e2
    exact ⟨_, E2, R2, .tup (SqT.of upd_same) (.cons (E2.rv (e.rv h3)) (.cons (E2.rv (e.rv h5)) .nil))⟩
  stop := fun Φ' ι' S' H' i e R h => ⟨vs, us, SqT.mono R.sub (SqT.mono e.fz s), SqT.mono R.sub (SqT.mono e.fz s2), by rw [← t.length, ← t2.length]; rw [zipW_length] at h; omega⟩
theorem frozenW_ok {w : W} {v : V} {xs : List W} {Φ H : Hp} {ι : List Addr} {S : Store} {R : It → Hp → Prop} (r : Rel c.K Φ ι S H) (rv : RV c.K Φ ι w v) (h : frozenW w = some xs) (k : ∀ J, ItOk c xs Φ ι J → R J H) :
    (∃ a, v = .ref a ∧ (∃ xs, SqL c.K H a xs) ∧ R (Itl c.K a) H) ∨ (∃ a, v = .ref a ∧ (∃ xs, SqT c.K H a xs) ∧ R (Itt c.K a) H) ∨ ∃ z, v = .str z ∧ R (Its z) H := by
  cases rv with
  | tup s t => cases h; exact .inr (.inl ⟨_, rfl, ⟨_, SqT.mono r.sub s⟩, k _ (itOk_tup s t)⟩)
  | lst s t => cases h; exact .inl ⟨_, rfl, ⟨_, SqL.of (r.sub _ _ s)⟩, k _ (itOk_lst (SqL.of s) t)⟩
  | scr s => cases h; exact .inl ⟨_, rfl, ⟨_, SqL.mono r.sub s⟩, k _ (itOk_lst s RVs.of_ints)⟩
  | str hz => cases h; exact .inr (.inr ⟨_, rfl, k _ (itOk_str hz)⟩)
  | _ => cases h
end
/-! ### a place set apart -/
/-- the heap without one place -/
def hid (H : Hp) (D : Addr) : Hp := fun b => if b = D then none else H b
theorem hid_same {H : Hp} {D : Addr} : hid H D D = none := by unfold hid; rw [if_pos rfl]
theorem hid_ne {H : Hp} {D b : Addr} (h : b ≠ D) : hid H D b = H b := by unfold hid; rw [if_neg h]
theorem hid_upd {H : Hp} {D : Addr} {o : HO} (h : H D = none) : hid (upd H D o) D = H := by
  funext b
  by_cases e : b = D
  · subst e; rw [hid_same, h]
  · rw [hid_ne e, upd_ne e]
theorem upd_hid {H : Hp} {D : Addr} {o : HO} (h : H D = some o) : upd (hid H D) D o = H := by
  funext b
  by_cases e : b = D
  · subst e; rw [upd_same, h]
  · rw [upd_ne e, hid_ne e]
theorem hid_upd2 {H : Hp} {D : Addr} {o : HO} : hid (upd H D o) D = hid H D := by
  funext b
  by_cases e : b = D
  · subst e; rw [hid_same, hid_same]
  · rw [hid_ne e, hid_ne e, upd_ne e]
theorem hid_some {H : Hp} {D b : Addr} {o : HO} (h : hid H D b = some o) : b ≠ D ∧ H b = some o := by
  by_cases e : b = D
  · subst e; rw [hid_same] at h; cases h
  · exact ⟨e, by rw [hid_ne e] at h; exact h⟩
section
variable {K : Frag} {Φ Φ' H H' : Hp} {ι ι' : List Addr} {S : Store} {D : Addr}
theorem Rel.unhid (r : Rel K Φ ι S (hid H D)) : Rel K Φ ι S H := by
  have nD : ∀ a ∈ ι, a ≠ D := fun a h e => r.trk a h (by rw [e, hid_same])
  refine ⟨r.len, r.nd, fun a o h => (hid_some (r.sub a o h)).2, fun a h => ?_, fun l a o h1 h2 => ?_⟩
  · have := r.trk a h
    rw [hid_ne (nD a h)] at this
    exact this
  · obtain ⟨q1, q2⟩ := r.live l a o h1 h2
    exact ⟨q1, RO.heap (hid_ne (nD a (List.mem_of_getElem? h1))).symm q2⟩
theorem Rel.hid (r : Rel K Φ ι S H) (h1 : Φ D = none) (h2 : D ∉ ι) : Rel K Φ ι S (Gs.hid H D) := by
  have nD : ∀ a ∈ ι, a ≠ D := fun a h e => h2 (e ▸ h)
  refine ⟨r.len, r.nd, fun a o h => ?_, fun a h => ?_, fun l a o e1 e2 => ?_⟩
  · rw [hid_ne (ne_of_none h h1)]; exact r.sub a o h
  · rw [hid_ne (nD a h)]; exact r.trk a h
  · obtain ⟨q1, q2⟩ := r.live l a o e1 e2
    exact ⟨q1, RO.heap (hid_ne (nD a (List.mem_of_getElem? e1))) q2⟩
theorem Ext.hid (e : Ext Φ ι H Φ' ι' H') (h0 : H D ≠ none) (h1 : Φ D = none) (h2 : D ∉ ι) : Ext Φ ι (Gs.hid H D) Φ' ι' (Gs.hid H' D) ∧ Φ' D = none ∧ D ∉ ι' ∧ H' D = H D := by
  have n2 : D ∉ ι' := fun h => by
    rcases e.nw D h with z | z
    · exact h2 z
    · exact h0 z
  have n1 : Φ' D = none := by
    cases q : Φ' D with
    | none => rfl
    | some o =>
      rcases e.nf D (by rw [q]; simp) with z | z | z
      · exact absurd h1 z
      · exact absurd z h0
      · exact absurd z h2
  have n3 : H' D = H D := by
    cases q : H D with
    | none => exact absurd q h0
    | some o => exact e.fr D o q h2
  refine ⟨⟨e.fz, e.lo, fun a h => ?_, fun a o h n => ?_, fun a h => ?_, fun a h => ?_⟩, n1, n2, n3⟩
  · rcases e.nw a h with z | z
    · exact .inl z
    · refine .inr ?_
      rw [hid_ne fun q => h0 (by rw [← q]; exact z)]; exact z
  · obtain ⟨z1, z2⟩ := hid_some h
    rw [hid_ne z1]; exact e.fr a o z2 n
  · by_cases z : a = D
    · subst z; rw [hid_same] at h; exact absurd rfl h
    · rw [hid_ne z] at h ⊢; exact e.dm a h
  · rcases e.nf a h with z | z | z
    · exact .inl z
    · exact .inr (.inl (by rw [hid_ne fun q => h0 (by rw [← q]; exact z)]; exact z))
    · exact .inr (.inr z)
theorem Ext.unhid (e : Ext Φ ι H Φ' ι' (Gs.hid H' D)) (h0 : H D = none) : Ext Φ ι H Φ' ι' H' := by
  refine ⟨e.fz, e.lo, e.nw, fun a o h n => ?_, fun a h => ?_, e.nf⟩
  · exact (hid_some (e.fr a o h n)).2
  · have := e.dm a h
    intro z
    by_cases q : a = D
    · subst q; exact h h0
    · rw [hid_ne q] at this; exact this z
theorem After.unhid {c : Cf} {α : Type} {o : Out α} {Q : α → Hp → List Addr → Store → Hp → Prop} {E E' : XK} (h : After c Φ ι (Gs.hid H D) o.noex Q E) (h0 : H D ≠ none) (h1 : Φ D = none) (h2 : D ∉ ι) :
    After c Φ ι H o (fun a Φ' ι' S' H' => Ext Φ ι (Gs.hid H D) Φ' ι' (Gs.hid H' D) ∧ Rel c.K Φ' ι' S' (Gs.hid H' D) ∧ Φ' D = none ∧ D ∉ ι' ∧ H' D = H D ∧ Q a Φ' ι' S' (Gs.hid H' D)) E' := by
  cases o with
  | ok a S =>
    intro Φ' ι' H' e r
    obtain ⟨e1, e2, e3, e4⟩ := e.hid h0 h1 h2
    exact ⟨e1, r.hid e2 e3, e2, e3, e4, h _ _ _ e1 (r.hid e2 e3)⟩
  | ex x S => exact h.elim
  | no => exact h.elim
end
/-! ### a comprehension's turns -/
section
variable {c : Cf}
/-- the list at D holds aw, all else is as the store says -/
structure Stn (c : Cf) (D : Addr) (aw : List W) (Φ : Hp) (ι : List Addr) (S : Store) (H : Hp) : Prop where
  li : ∃ av, H D = some (.lst av) ∧ RVs c.K Φ ι aw av
  fz : Φ D = none
  ni : D ∉ ι
  rel : Rel c.K Φ ι S (hid H D)
theorem Stn.ne {D : Addr} {aw : List W} {Φ : Hp} {ι : List Addr} {S : Store} {H : Hp} (s : Stn c D aw Φ ι S H) : H D ≠ none := by
  obtain ⟨av, e, _⟩ := s.li
  rw [e]; simp
/-- from one state of it to a later one -/
theorem Stn.next {D : Addr} {aw : List W} {Φ Φ' : Hp} {ι ι' : List Addr} {S S' : Store} {H H' : Hp} (s : Stn c D aw Φ ι S H) (e : Ext Φ ι H Φ' ι' H') (r : Rel c.K Φ' ι' S' H') : Stn c D aw Φ' ι' S' H' ∧ Ext Φ ι (hid H D) Φ' ι' (hid H' D) := by
  obtain ⟨e1, e2, e3, e4⟩ := e.hid s.ne s.fz s.ni
  obtain ⟨av, q1, q2⟩ := s.li
  exact ⟨⟨⟨av, by rw [e4]; exact q1, e.rvs q2⟩, e2, e3, r.hid e2 e3⟩, e1⟩
/-- an item more -/
theorem Stn.push {D : Addr} {aw : List W} {Φ : Hp} {ι : List Addr} {S : Store} {H : Hp} {w : W} {v : V} (s : Stn c D aw Φ ι S H) (rv : RV c.K Φ ι w v) {av : List V} (h : H D = some (.lst av)) : Stn c D (aw ++ [w]) Φ ι S (upd H D (.lst (av ++ [v]))) := by
  obtain ⟨av', q1, q2⟩ := s.li
  rw [h] at q1; cases q1
  refine ⟨⟨_, upd_same, q2.append (.cons rv .nil)⟩, s.fz, s.ni, ?_⟩
  rw [hid_upd2]
  exact s.rel
theorem turns_ok {β : Type} {D : Addr} {J : It} {Φ0 : Hp} {ι0 : List Addr} {xs : List W} (hJ : ItOk c xs Φ0 ι0 J) {step : W → List W → Store → Out (List W)} {f : List W → Store → Out β} {QQ : β → Hp → List Addr → Store → Hp → Prop} {EE : XK} {Fin : Hp → Prop} {TURN : V → Hp → (Hp → Prop) → Prop}
    {aw : List W} {H0 : Hp} {S : Store} {H : Hp} (eH : hid H D = H0) (s0 : Stn c D aw Φ0 ι0 S H) (h0 : After c Φ0 ι0 H0 ((turns step xs aw S).bd f) QQ EE)
    (fin : ∀ aw Φ ι S H, Ext Φ0 ι0 H0 Φ ι (hid H D) → Stn c D aw Φ ι S H → After c Φ ι (hid H D) (f aw S) QQ EE → Fin H)
    (turn : ∀ (w : W) (f' : List W → Store → Out β) (aw : List W) (Φ : Hp) (ι : List Addr) (S : Store) (H : Hp) (v : V) (Nx : Hp → Prop), Ext Φ0 ι0 H0 Φ ι (hid H D) → Stn c D aw Φ ι S H → RV c.K Φ ι w v → After c Φ ι (hid H D) ((step w aw S).bd f') QQ EE →
      (∀ aw' Φ' ι' S' H', Ext Φ ι (hid H D) Φ' ι' (hid H' D) → Stn c D aw' Φ' ι' S' H' → After c Φ' ι' (hid H' D) (f' aw' S') QQ EE → Nx H') → TURN v H Nx) :
    ∃ Wn : Nat → Nat → Hp → Prop, (∃ m, Wn 0 m H) ∧ ∀ i m H, Wn i m H → (J.stop i H ∧ Fin H) ∨ (J.go i H ∧ ∃ Nx : Hp → Prop, (∀ H', Nx H' → ∃ m', m' < m ∧ Wn (i + 1) m' H') ∧ ∀ x H', J.yld i H x H' → TURN x H' Nx) := by
  subst eH
  refine ⟨fun i m H' => m = xs.length - i ∧ i ≤ xs.length ∧ ∃ aw Φ ι S, Ext Φ0 ι0 (hid H D) Φ ι (hid H' D) ∧ Stn c D aw Φ ι S H' ∧ After c Φ ι (hid H' D) ((turns step (xs.drop i) aw S).bd f) QQ EE, ⟨xs.length, by simp, Nat.zero_le _, aw, Φ0, ι0, S, Ext.refl _ _ _, s0, by simpa using h0⟩, ?_⟩
  rintro i m H1 ⟨rfl, hi, aw, Φ, ι, S, e, s, h⟩
  by_cases hlt : i < xs.length
  · right
    have hx : xs[i]? = some xs[i] := by simp [hlt]
    obtain ⟨g1, g2⟩ := hJ.go Φ ι S H1 i xs[i] e.le s.rel.unhid hx
    refine ⟨g1, fun H' => ∃ aw' Φ' ι' S', Ext Φ0 ι0 (hid H D) Φ' ι' (hid H' D) ∧ Stn c D aw' Φ' ι' S' H' ∧ After c Φ' ι' (hid H' D) ((turns step (xs.drop (i + 1)) aw' S').bd f) QQ EE, fun H' ⟨aw', Φ', ι', S', k1, k2, k3⟩ => ⟨xs.length - (i + 1), by omega, rfl, hlt, aw', Φ', ι', S', k1, k2, k3⟩, fun x H' y => ?_⟩
    obtain ⟨Φ2, E2, R2, rv⟩ := g2 x H' y
    obtain ⟨s2, e2⟩ := s.next E2 R2
    rw [List.drop_eq_getElem_cons hlt] at h
    simp only [turns] at h
    rw [Out.bd_assoc] at h
    exact turn xs[i] _ aw Φ2 ι S H' x _ (e.trans e2) s2 rv (h.step e2) fun aw' Φ' ι' S' H'' k1 k2 k3 => ⟨aw', Φ', ι', S', (e.trans e2).trans k1, k2, k3⟩
  · left
    have ei : i = xs.length := by omega
    subst ei
    refine ⟨hJ.stop Φ ι S H1 _ e.le s.rel.unhid (Nat.le_refl _), fin aw Φ ι S H1 e s ?_⟩
    rw [List.drop_length] at h
    exact h
/-- .. over a list of the store -/
theorem turnsD_ok {β : Type} {D a : Addr} {l : Nat} {Φ0 : Hp} {ι0 : List Addr} {K : Frag} (hK : c.K = K) (hl : ι0[l]? = some a) {step : W → List W → Store → Out (List W)} {f : List W → Store → Out β} {QQ : β → Hp → List Addr → Store → Hp → Prop} {EE : XK} {Fin : Hp → Prop} {TURN : V → Hp → (Hp → Prop) → Prop}
    {n : Nat} {aw : List W} {H0 : Hp} {S : Store} {H : Hp} (eH : hid H D = H0) (s0 : Stn c D aw Φ0 ι0 S H) (h0 : After c Φ0 ι0 H0 ((turnsD l step n 0 aw S).bd f) QQ EE)
    (fin : ∀ aw Φ ι S H, Ext Φ0 ι0 H0 Φ ι (hid H D) → Stn c D aw Φ ι S H → After c Φ ι (hid H D) (f aw S) QQ EE → Fin H)
    (turn : ∀ (w : W) (f' : List W → Store → Out β) (aw : List W) (Φ : Hp) (ι : List Addr) (S : Store) (H : Hp) (v : V) (Nx : Hp → Prop), Ext Φ0 ι0 H0 Φ ι (hid H D) → Stn c D aw Φ ι S H → RV c.K Φ ι w v → After c Φ ι (hid H D) ((step w aw S).bd f') QQ EE →
      (∀ aw' Φ' ι' S' H', Ext Φ ι (hid H D) Φ' ι' (hid H' D) → Stn c D aw' Φ' ι' S' H' → After c Φ' ι' (hid H' D) (f' aw' S') QQ EE → Nx H') → TURN v H Nx) :
    ∃ Wn : Nat → Nat → Hp → Prop, (∃ m, Wn 0 m H) ∧ ∀ i m H, Wn i m H → ((∃ vs, SqL K H a vs ∧ vs.length ≤ i) ∧ Fin H) ∨ ((∃ vs v, SqL K H a vs ∧ vs[i]? = some v) ∧ ∃ Nx : Hp → Prop, (∀ H', Nx H' → ∃ m', m' < m ∧ Wn (i + 1) m' H') ∧ ∀ x H', (H' = H ∧ ∀ vs, SqL K H a vs → vs[i]? = some x) → TURN x H' Nx) := by
  subst eH
  refine ⟨fun i m H' => ∃ aw Φ ι S, Ext Φ0 ι0 (hid H D) Φ ι (hid H' D) ∧ Stn c D aw Φ ι S H' ∧ After c Φ ι (hid H' D) ((turnsD l step m i aw S).bd f) QQ EE, ⟨n, aw, Φ0, ι0, S, Ext.refl _ _ _, s0, h0⟩, ?_⟩
  rintro i m H1 ⟨aw, Φ, ι, S, e, s, h⟩
  have hl2 : ι[l]? = some a := by
    obtain ⟨tl, rfl⟩ := e.lo
    rw [List.getElem?_append_left (List.getElem?_eq_some_iff.mp hl).1]
    exact hl
  cases m with
  | zero => exact (show False from h).elim
  | succ m =>
    simp only [turnsD] at h
    split at h
    · rename_i ys ey
      obtain ⟨_, vs, s1, t1⟩ := s.rel.live _ _ _ hl2 ey
      have sq : SqL K H1 a vs := SqL.of (hid_some s1).2
      split at h
      · rename_i x ex
        right
        obtain ⟨v, w1, w2⟩ := t1.get ex
        refine ⟨⟨vs, v, sq, w1⟩, fun H' => ∃ aw' Φ' ι' S', Ext Φ0 ι0 (hid H D) Φ' ι' (hid H' D) ∧ Stn c D aw' Φ' ι' S' H' ∧ After c Φ' ι' (hid H' D) ((turnsD l step m (i + 1) aw' S').bd f) QQ EE, fun H' w => ⟨m, Nat.lt_succ_self _, w⟩, fun z H' y => ?_⟩
        obtain ⟨rfl, y2⟩ := y
        have y3 := y2 vs sq
        rw [w1] at y3
        cases y3
        rw [Out.bd_assoc] at h
        exact turn x _ aw Φ ι S H' v _ e s w2 h fun aw' Φ' ι' S' H'' k1 k2 k3 => ⟨aw', Φ', ι', S', e.trans k1, k2, k3⟩
      · rename_i ex
        left
        refine ⟨⟨vs, sq, ?_⟩, fin aw Φ ι S H1 e s h⟩
        rw [← t1.length]
        exact List.getElem?_eq_none_iff.mp ex
    · exact h.elim
end
end Gs
end

section
set_option linter.all false
set_option maxRecDepth 100000
set_option maxHeartbeats 4000000
set_option autoImplicit false
/-! GMax: max(xs, key=f), f a def of the program; its worths whole numbers or pairs of such. -/
namespace Gs
open PySem PySem.Spec PyProof.Rows L2
/-- y's worth k above the best one kb -/
def GtK (K : PySem.W.Frag) (H : Hp) (k kb : V) (b : Bool) : Prop :=
  (∃ i j, k = .int i ∧ kb = .int j ∧ b = decide (j < i)) ∨
  ∃ p q i1 i2 j1 j2, k = .ref p ∧ kb = .ref q ∧ SqT K H p [.int i1, .int i2] ∧ SqT K H q [.int j1, .int j2] ∧ b = (if i1 = j1 then decide (j2 < i2) else decide (j1 < i1))
/-- G j vb kb H: j items are looked at, vb is the best, kb its worth -/
def rMaxKey (K : PySem.W.Frag) (sp : Sp) (fa : Addr) : List V → List V → Hp → VK → Prop := fun xs zs H Q =>
  ∃ (a : Addr) (ys : List V) (x0 : V) (G : Nat → V → V → Hp → Prop), xs = [V.ref a] ∧ zs = [V.ref fa] ∧ SqL K H a ys ∧ ys[0]? = some x0 ∧ (∀ j vb kb H1, G j vb kb H1 → SqL K H1 a ys) ∧
    sp [x0] H (fun k H1 => G 1 x0 k H1) (fun _ _ _ => False) ∧
    (∀ j vb kb H1 y, G j vb kb H1 → ys[j]? = some y → sp [y] H1 (fun k H2 => ∃ b, GtK K H2 k kb b ∧ G (j + 1) (if b = true then y else vb) (if b = true then k else kb) H2) (fun _ _ _ => False)) ∧
    ∀ j vb kb H1, G j vb kb H1 → ys.length ≤ j → Q vb H1
section
variable {X : Cx} {n : Nat} {fa : Addr} {fd : FuncData} {ps : List Str} {sp : Sp}
theorem noEx {P : Program} {w : World} {o : List Env} {H : Hp} {s s' : Shared} {e : Value} (h : L2.CX P w o H s (fun _ _ _ => False) e s') : False := by
  obtain ⟨_, _, _, _, _, _, _, _, _, _, _, _, _, z⟩ := h
/-- the def called within the loop -/
theorem mk_call {pins : List (Addr × Obj)} {σ : L2.St} {H : Hp} {s : Shared} {Q : VK} {us : List Value} {vs : List V} (F : FnOk X.prog X.w X.K X.mg X.base (L2.CX X.prog X.w) n fa fd ps sp) (hr : Room n X.A.in1) (hb : Binds X.K fd ps [])
    (I : Inv X pins σ H s) (r : Vals vs us) (h : sp vs H Q (fun _ _ _ => False)) : wpAny (model X.prog X.w) X.A.in1 (call (.ref fa) us) (EP X pins σ Q) (fun _ _ => False) s := by
  have hl : (us ++ []).length = ps.length := by rw [List.append_nil, ← r.length]; exact F.len _ _ _ _ h
  have hb' := hb s us I.kIn hl
  rw [List.append_nil] at hb'
  refine wpAny_call (codeAny_mono (F.run X.A.in1 X.stack s H ⟨us, []⟩ us vs Q _ hr I.env0.in1 hb' r h) fun z s' hq => ?_)
  match z, hq with
  | .error e, hq => exact noEx hq
  | .ok (.ret u), hq => exact I.after hq
  | .ok .next, hq => exact hq.elim
  | .ok .brk, hq => exact hq.elim
  | .ok .cont, hq => exact hq.elim
theorem gtK_ok {pins : List (Addr × Obj)} {σ : L2.St} {H : Hp} {s : Shared} {k kb : V} {u ub : Value} {b : Bool} (hu : X.A.in1.units < cLine) (I : Inv X pins σ H s) (rk : RelV k u) (rb : RelV kb ub) (g : GtK X.K H k kb b) : Ob.RcOp .Gt X.A.in1 s u ub b := by
  rcases g with ⟨i, j, rfl, rfl, rfl⟩ | ⟨p, q, i1, i2, j1, j2, rfl, rfl, hp, hq, rfl⟩
  · obtain ⟨t, rfl⟩ := rk; obtain ⟨t', rfl⟩ := rb
    exact Ob.RcOp.gt_int _ _ _ _
  · cases rk; cases rb
    obtain ⟨l1, r1, p1, _⟩ := I.tuple hp; obtain ⟨l2, r2, p2, _⟩ := I.tuple hq
    cases r1 with
    | cons a1 r1 => cases r1 with
      | cons a2 r1 => cases r1; cases r2 with
        | cons b1 r2 => cases r2 with
          | cons b2 r2 =>
            cases r2
            obtain ⟨t1, rfl⟩ := a1; obtain ⟨t2, rfl⟩ := a2; obtain ⟨t3, rfl⟩ := b1; obtain ⟨t4, rfl⟩ := b2
            have eqI : ∀ (x y : Int) (t t' : Tok), SeqAt.EqAt X.A.in1.in1 s (.int x t) (.int y t') (decide (x = y)) := fun x y t t' => by
              have z : (x == y) = decide (x = y) := by by_cases e : x = y <;> simp [e]
              rw [← z]; exact SeqAt.EqAt.int_int _ _ _ _
            have R := Ob.RcOp.tuples_gt (A := X.A.in1) (s := s) (e := fun j => if j = 0 then decide (i1 = j1) else decide (i2 = j2)) (r := fun j => if j = 0 then decide (j1 < i1) else decide (j2 < i2)) p1 p2 hu
              (fun j h1 h2 => by
                have hj : j = 0 ∨ j = 1 := by simp at h1; omega
                rcases hj with rfl | rfl
                · exact eqI _ _ _ _
                · exact eqI _ _ _ _)
              (fun j h1 h2 _ => by
                have hj : j = 0 ∨ j = 1 := by simp at h1; omega
                rcases hj with rfl | rfl
                · exact Ob.RcOp.gt_int _ _ _ _
                · exact Ob.RcOp.gt_int _ _ _ _)
            refine cast (congrArg _ ?_) R
            show Ob.lexAt _ _ _ 0 2 = _
            simp only [Ob.lexAt_succ, Ob.lexAt_zero]
            by_cases e1 : i1 = j1
            · by_cases e2 : i2 = j2
              · subst e1; subst e2; simp
              · subst e1; simp [e2]
            · simp [e1]
theorem fpNe {pins : List (Addr × Obj)} {H : Hp} {b c : Addr} {o : Obj} (f : FpOk X pins H b) (h : (c, o) ∈ pins) : c ≠ b := f.2.2.2.2.2 (c, o) (List.mem_append_right _ h)
/-- max.loop, behind the first item -/
theorem mk_loop {pins : List (Addr × Obj)} {σ : L2.St} {a It S : Addr} {ys : List V} {G : Nat → V → V → Hp → Prop} {Q : VK} (F : FnOk X.prog X.w X.K X.mg X.base (L2.CX X.prog X.w) n fa fd ps sp) (hr : Room n X.A.in1) (hb : Binds X.K fd ps []) (hh : X.A.handled = none) (hu : X.A.in1.units < cLine) (hIS : It ≠ S)
    (hG : ∀ j vb kb H1, G j vb kb H1 → SqL X.K H1 a ys)
    (step : ∀ j vb kb H1 y, G j vb kb H1 → ys[j]? = some y → sp [y] H1 (fun k H2 => ∃ b, GtK X.K H2 k kb b ∧ G (j + 1) (if b = true then y else vb) (if b = true then k else kb) H2) (fun _ _ _ => False))
    (fin : ∀ j vb kb H1, G j vb kb H1 → ys.length ≤ j → Q vb H1) :
    ∀ (r j : Nat) (s : Shared) (H : Hp) (vb kb : V) (ub wb : Value) (c : Nat), ys.length - j = r → G j vb kb H → Inv X pins σ H s → FpOk X pins H It → FpOk X pins H S → s.heap.IsListIter It a j → s.heap.get? S = some (seqObj "list" #[ub, wb] c) → RelV vb ub → RelV kb wb → j ≤ ys.length →
      codeAny (model X.prog X.w) X.A (.builtin "max.loop" ⟨[.ref It, .ref fa, .ref S], []⟩) (fun z s' => match z with | .ok (.ret u) => EP X pins σ Q u s' | _ => False) s := by
  have hname : (toString "max" ++ toString ".loop" : String) = "max.loop" := by decide
  intro r
  induction r with
  | zero =>
    intro j s H vb kb ub wb c hr0 g I fI fS hit hS rv rk hj
    have hjn : j = ys.length := by omega
    obtain ⟨its, rvs, pl, hz⟩ := I.list (hG _ _ _ _ g)
    have hIa : a ≠ It := fun e => by
      obtain ⟨o, ho, hc, _⟩ := hit; obtain ⟨o2, ho2, hc2, _⟩ := pl.isList
      rw [e, ho] at ho2; cases ho2; rw [hc] at hc2; injection hc2 with z; exact absurd z (by decide)
    have W := Walks.list (prog := X.prog) (w := X.w) (A := X.A.in1) hh It a hIa its.toArray
    have hsz : its.toArray.size = ys.length := by rw [List.size_toArray, ← rvs.length]
    refine codeAny_builtin PySem.F.entry_max_loop ?_; rw [Around.under_plainId PySem.F.plain_max_loop _]
    show wpAny _ X.A.in1 (seqItems? (.ref S) >>= _) _ _ s; refine wpAny_bind (wpAny_seqItems hS rfl ?_)
    show wpAny _ X.A.in1 (tryCatch (pyNext (.ref It)) _ >>= _) _ _ s
    refine wpAny_bind (wpAny_tryCatch (W.done _ _ _ ⟨by rw [hsz, ← hjn]; exact hit, pl.isList⟩ fun h' tk' hk' => ?_))
    have hS' := hk' S _ (by simpa using hIS.symm) hS
    show wpAny _ X.A.in1 (updateSeq S (fun _ => #[]) >>= _) _ _ _
    refine wpAny_bind (wpAny_updateSeq hS' rfl (wpAny_bind (wpAny_letGo (wpAny_pure ?_))))
    refine ⟨vb, H, ?_, rv, fin _ _ _ _ g (by omega)⟩
    have s1 := Heap.SameBut.update h' S (Obj.mapSeq fun _ => (#[] : Array Value))
    have zz := Inv.turnedL (s := s) (h' := h'.update S (Obj.mapSeq fun _ => (#[] : Array Value))) (t' := tk') (ch := [It, S]) I (fun b o hb e => (s1.2 b (fun z => hb (by simp [z]))).trans (hk' b o (fun z => hb (List.mem_cons.mpr (.inl (by simpa using z)))) e)) (fun b hb => by
      rcases List.mem_cons.mp hb with rfl | hb
      · exact fI
      · rw [List.mem_singleton.mp hb]; exact fS)
    exact zz
  | succ r ih =>
    intro j s H vb kb ub wb c hr0 g I fI fS hit hS rv rk hj
    have hlt : j < ys.length := by omega
    obtain ⟨its, rvs, pl, hz⟩ := I.list (hG _ _ _ _ g)
    have hIa : a ≠ It := fun e => by
      obtain ⟨o, ho, hc, _⟩ := hit; obtain ⟨o2, ho2, hc2, _⟩ := pl.isList
      rw [e, ho] at ho2; cases ho2; rw [hc] at hc2; injection hc2 with z; exact absurd z (by decide)
    have W := Walks.list (prog := X.prog) (w := X.w) (A := X.A.in1) hh It a hIa its.toArray
    have hsz : its.toArray.size = ys.length := by rw [List.size_toArray, ← rvs.length]
    refine codeAny_builtin PySem.F.entry_max_loop ?_; rw [Around.under_plainId PySem.F.plain_max_loop _]
    show wpAny _ X.A.in1 (seqItems? (.ref S) >>= _) _ _ s; refine wpAny_bind (wpAny_seqItems hS rfl ?_)
    show wpAny _ X.A.in1 (tryCatch (pyNext (.ref It)) _ >>= _) _ _ s
    refine wpAny_bind (wpAny_tryCatch (W.item j _ _ _ (by rw [hsz]; exact hlt) ⟨hit, pl.isList⟩ fun v h' tk' hP hst' hk' => ?_))
    have hv : its[j]? = some v := by simpa using hP
    have hit1 : h'.IsListIter It a (j + 1) := hst'.1
    obtain ⟨oI, hoI, hoc, hod⟩ := id hit1
    have hS1 := hk' S _ (by simpa using hIS.symm) hS
    have I1 : Inv X pins σ H { s with heap := h', toks := tk' } := I.turnedL (t' := tk') (ch := [It]) (fun b o hb e => hk' b o hb e) (fun b hb => by rw [List.mem_singleton.mp hb]; exact fI)
    have f2 : ∀ b ∈ [It, S], FpOk X pins H b := fun b hb => by
      rcases List.mem_cons.mp hb with rfl | hb
      · exact fI
      · rw [List.mem_singleton.mp hb]; exact fS
    have I2 := I1.pinned f2 (fun b hb => by
      rcases List.mem_cons.mp hb with rfl | hb
      · exact ⟨oI, hoI, fun v z => by rw [hod] at z; cases z⟩
      · rw [List.mem_singleton.mp hb]; exact ⟨_, hS1, fun v z => by cases z⟩)
    obtain ⟨y, hy⟩ : ∃ y, ys[j]? = some y := ⟨ys[j], by simp [hlt]⟩
    obtain ⟨v2, hv2, ry⟩ := rvs.get hy
    rw [hv] at hv2; cases hv2
    show wpAny _ X.A.in1 (tryCatch (holding [v] (call (.ref fa) [v])) _ >>= _) _ _ _
    refine wpAny_bind (wpAny_tryCatch (wpAny_holding (wpAny_mono (mk_call F hr hb I2 (.cons ry .nil) (step _ _ _ _ _ g hy)) (fun u s2 he => ?_) fun _ _ hF => hF.elim)))
    obtain ⟨k, H2, I3, rk2, b, gt, gN⟩ := he
    have pI : s2.heap.get? It = some oI ∧ H2 It = none := let z := I3.pin (It, oI) (List.mem_append_right _ (List.mem_append_right _ (mem_pinsAt (by simp) hoI))); ⟨z.1, z.2.1⟩
    have pS : s2.heap.get? S = some (seqObj "list" #[ub, wb] c) ∧ H2 S = none := let z := I3.pin (S, _) (List.mem_append_right _ (List.mem_append_right _ (mem_pinsAt (by simp) hS1))); ⟨z.1, z.2.1⟩
    have I4 : Inv X pins σ H2 s2 := I3.unpinned
    have fI2 : FpOk X pins H2 It := ⟨pI.2, fI.2⟩
    have fS2 : FpOk X pins H2 S := ⟨pS.2, fS.2⟩
    have hit2 : s2.heap.IsListIter It a (j + 1) := ⟨oI, pI.1, hoc, hod⟩
    show wpAny _ X.A.in1 (tryCatch (holding [v, u] (richCompare .Gt u wb >>= _)) _ >>= _) _ _ _
    refine wpAny_bind (wpAny_tryCatch (wpAny_holding (wpAny_bind (gtK_ok hu I4 rk2 rk gt _ _ _ _ ?_))))
    refine wpAny_bind (wpAny_holding (wpAny_truthy_bool ?_)); refine wpAny_bind (wpAny_letGo (wpAny_pure ?_))
    cases b with
    | true =>
      simp only [if_true]
      refine wpAny_bind (wpAny_updateSeq pS.1 rfl (wpAny_bind (wpAny_letGo ?_))); rw [hname]
      have s1 := Heap.SameBut.update s2.heap S (Obj.mapSeq fun _ => #[v, u])
      obtain ⟨c2, hc2⟩ : ∃ c2, (s2.heap.update S (Obj.mapSeq fun _ => #[v, u])).get? S = some (seqObj "list" #[v, u] c2) := ⟨_, get?_update_seq pS.1 fun _ => #[v, u]⟩
      refine wpAny_pure ⟨plainId_quiet PySem.F.plain_max_loop _, ?_⟩
      refine ih (j + 1) _ H2 y k v u c2 (by omega) gN ?_ fI2 fS2 ⟨oI, (s1.2 It hIS).trans pI.1, hoc, hod⟩ hc2 ry rk2 hlt
      exact I4.turnedL (t' := s2.toks) (ch := [S]) (fun b o hb e => (s1.2 b (fun z => hb (by simp [z]))).trans e) (fun b hb => by rw [List.mem_singleton.mp hb]; exact fS2)
    | false =>
      simp only [Bool.false_eq_true, if_false]
      refine wpAny_bind (wpAny_letGo ?_); rw [hname]
      exact wpAny_pure ⟨plainId_quiet PySem.F.plain_max_loop _, ih (j + 1) s2 H2 vb kb ub wb c (by omega) gN I4 fI2 fS2 hit2 pS.1 rv rk hlt⟩
theorem args_maxK (l : Addr) (d : Value) : argsOk "max" ⟨[.ref l], [("key", d)]⟩ := by unfold argsOk; kernel_rfl
theorem call_maxKey (F : FnOk X.prog X.w X.K X.mg X.base (L2.CX X.prog X.w) n fa fd ps sp) (hr : Room n X.A.in1) (hb : Binds X.K fd ps []) (hc : X.calm = true) : CallRK X (.builtin "max") ["key"] (rMaxKey X.K sp fa) := by
  intro pins s σ H xs zs us ws Q I r r2 h
  obtain ⟨a, ys, x0, G, rfl, rfl, hs, h0, hG, first, step, fin⟩ := h
  rw [Vals.ref1 r, Vals.ref1 r2]
  have hh : X.A.handled = none := I.ok.hd hc
  have hu : X.A.in1.units < cLine := by have := hr.un; omega
  have hname : (toString "max" ++ toString ".loop" : String) = "max.loop" := by decide
  obtain ⟨its, rvs, pl, hz⟩ := I.list hs
  have hl := pl.isList
  have hck : ∀ C : Unit → Shared → Prop, C () s → wpAny (model X.prog X.w) X.A.in1 (checkBuiltinCall "max" ⟨[.ref a], [("key", .ref fa)]⟩) C X.xe s := fun C hC => by
    have ha := args_maxK a (.ref fa)
    simp only [checkBuiltinCall, PySem.F.kind_max]
    cases hs : Manifest.signature? "max" with
    | none => exact wpAny_pure hC
    | some sig =>
      simp only [argsOk, hs] at ha
      show wpAny _ X.A.in1 (Bind.checkArgs "max" sig ⟨[.ref a], [("key", .ref fa)]⟩) _ _ s
      rw [show Bind.checkArgs "max" sig ⟨[.ref a], [("key", .ref fa)]⟩ = pure () from ha]; exact wpAny_pure hC
  refine wpAny_call (codeAny_call_builtin PySem.F.plain_max PySem.F.entry_max (hck _ ?_))
  show wpAny _ X.A.in1 (Builtin.Builtins.bindParams "max" ["key", "default"] 0 ⟨[], [("key", .ref fa)]⟩ >>= _) _ _ s
  refine wpAny_bind (wpAny_of_eq (show Builtin.Builtins.bindParams "max" ["key", "default"] 0 ⟨[], [("key", .ref fa)]⟩ = pure [some (.ref fa), none] from rfl) (wpAny_bind (wpAny_pure (wpAny_bind (wpAny_pyIter_list hl ?_)))))
  refine wpAny_bind (wpAny_newObj_type ?_); rw [hname]
  generalize hIt : s.heap.objs.size = It
  generalize hh1 : s.heap.push { cls := .type "list_iterator", data := .fields #[.ref a, .int 0 0] } = h1
  have z1 : h1.objs.size = It + 1 := by rw [← hh1, Heap.size_push, hIt]
  have gI : h1.get? It = some { cls := .type "list_iterator", data := .fields #[.ref a, .int 0 0] } := by rw [← hh1, ← hIt]; exact Heap.get?_push_size _ rfl
  generalize hSe : h1.objs.size = S
  have nIS : It ≠ S := by omega
  generalize hh2 : h1.push { cls := .type "list", data := .seq #[] } = h2
  have gS : h2.get? S = some (seqObj "list" #[] 0) := by rw [← hh2, ← hSe]; exact Heap.get?_push_size _ rfl
  have gI2 : h2.get? It = some { cls := .type "list_iterator", data := .fields #[.ref a, .int 0 0] } := by rw [← hh2]; exact Heap.get?_push_of_some _ gI
  have k2 : ∀ b o, s.heap.get? b = some o → h2.get? b = some o := fun b o e => by rw [← hh2, ]; exact Heap.get?_push_of_some _ (by rw [← hh1]; exact Heap.get?_push_of_some _ e)
  have I2 : Inv X pins σ H { s with heap := h2 } := I.kept (t' := s.toks) k2
  have nI : H It = none := I.hok.fresh (Nat.le_of_eq hIt)
  have nS : H S = none := I.hok.fresh (by omega)
  have fI : FpOk X pins H It := I.fpOk (Nat.le_of_eq hIt) nI
  have fS : FpOk X pins H S := I.fpOk (by omega) nS
  refine wpAny_pure ⟨plainId_quiet PySem.F.plain_max_loop _, ?_⟩
  have hIa : a ≠ It := fun e => by rw [e] at hl; obtain ⟨o, ho, _⟩ := hl; rw [← hIt] at ho; exact absurd (Heap.lt_size ho) (Nat.lt_irrefl _)
  have hl2 : h2.IsList a its.toArray := by obtain ⟨o, ho, w⟩ := hl; exact ⟨o, k2 _ _ ho, w⟩
  have W := Walks.list (prog := X.prog) (w := X.w) (A := X.A.in1) hh It a hIa its.toArray
  obtain ⟨v, hv, rv⟩ := rvs.get h0
  have hlen : 0 < its.toArray.size := by rw [List.size_toArray]; exact (List.getElem?_eq_some_iff.mp hv).1
  refine codeAny_builtin PySem.F.entry_max_loop ?_; rw [Around.under_plainId PySem.F.plain_max_loop _]
  show wpAny _ X.A.in1 (seqItems? (.ref S) >>= _) _ _ _; refine wpAny_bind (wpAny_seqItems gS rfl ?_)
  show wpAny _ X.A.in1 (tryCatch (pyNext (.ref It)) _ >>= _) _ _ _
  refine wpAny_bind (wpAny_tryCatch (W.item 0 _ _ _ hlen ⟨⟨_, gI2, rfl, rfl⟩, hl2⟩ fun v1 h' tk' hP hst' hk' => ?_))
  have hv1 : its[0]? = some v1 := by simpa using hP
  rw [hv] at hv1; cases hv1
  obtain ⟨oI, hoI, hoc, hod⟩ := id hst'.1
  have hS1 := hk' S _ (by simpa using nIS.symm) gS
  have I3 : Inv X pins σ H { s with heap := h', toks := tk' } := Inv.turnedL (s := { s with heap := h2 }) (h' := h') (t' := tk') (ch := [It]) I2 (fun b o hb e => hk' b o hb e) (fun b hb => by rw [List.mem_singleton.mp hb]; exact fI)
  have I4 := I3.pinned (fp := [It, S]) (fun b hb => by
      rcases List.mem_cons.mp hb with rfl | hb
      · exact fI
      · rw [List.mem_singleton.mp hb]; exact fS) (fun b hb => by
      rcases List.mem_cons.mp hb with rfl | hb
      · exact ⟨oI, hoI, fun v z => by rw [hod] at z; cases z⟩
      · rw [List.mem_singleton.mp hb]; exact ⟨_, hS1, fun v z => by cases z⟩)
  show wpAny _ X.A.in1 (tryCatch (holding [v] (call (.ref fa) [v])) _ >>= _) _ _ _
  refine wpAny_bind (wpAny_tryCatch (wpAny_holding (wpAny_mono (mk_call F hr hb I4 (.cons rv .nil) first) (fun u s2 he => ?_) fun _ _ hF => hF.elim)))
  obtain ⟨k, H2, I5, rk2, gN⟩ := he
  have pI : s2.heap.get? It = some oI ∧ H2 It = none := let z := I5.pin (It, oI) (List.mem_append_right _ (List.mem_append_right _ (mem_pinsAt (by simp) hoI))); ⟨z.1, z.2.1⟩
  have pS : s2.heap.get? S = some (seqObj "list" #[] 0) ∧ H2 S = none := let z := I5.pin (S, _) (List.mem_append_right _ (List.mem_append_right _ (mem_pinsAt (by simp) hS1))); ⟨z.1, z.2.1⟩
  have I6 : Inv X pins σ H2 s2 := I5.unpinned
  show wpAny _ X.A.in1 (updateSeq S (fun _ => #[v, u]) >>= _) _ _ _
  refine wpAny_bind (wpAny_updateSeq pS.1 rfl ?_); rw [hname]
  have s1 := Heap.SameBut.update s2.heap S (Obj.mapSeq fun _ => #[v, u])
  obtain ⟨c2, hc2⟩ : ∃ c2, (s2.heap.update S (Obj.mapSeq fun _ => #[v, u])).get? S = some (seqObj "list" #[v, u] c2) := ⟨_, get?_update_seq pS.1 fun _ => #[v, u]⟩
  refine wpAny_pure ⟨plainId_quiet PySem.F.plain_max_loop _, ?_⟩
  refine codeAny_mono (mk_loop F hr hb hh hu nIS hG step fin _ 1 _ H2 x0 k v u c2 rfl gN (I6.turnedL (t' := s2.toks) (ch := [S]) (fun b o hb e => (s1.2 b (fun z => hb (by simp [z]))).trans e) (fun b hb => by rw [List.mem_singleton.mp hb]; exact ⟨pS.2, fS.2⟩)) ⟨pI.2, fI.2⟩ ⟨pS.2, fS.2⟩ ⟨oI, (s1.2 It nIS).trans pI.1, hoc, hod⟩ hc2 rv rk2 (by rw [rvs.length]; rw [List.size_toArray] at hlen; exact hlen)) fun z s' hq => ?_
  match z, hq with
  | .ok (.ret u), hq => exact hq
  | .error e, hq => exact hq.elim
  | .ok .next, hq => exact hq.elim
  | .ok .brk, hq => exact hq.elim
  | .ok .cont, hq => exact hq.elim
end
end Gs
end

section
set_option linter.all false
set_option maxRecDepth 100000
set_option autoImplicit false
namespace Gs
open PySem PySem.Spec PyProof.Rows L2
variable [Wd]
/-! ### a comprehension's turns over any state of the object that is made -/
section
variable {c : Cf} {β : Type}
/-- what stands at D is as LI says of aw -/
structure StG (c : Cf) (D : Addr) (LI : List β → Hp → List Addr → Hp → Prop) (aw : List β) (Φ : Hp) (ι : List Addr) (S : Store) (H : Hp) : Prop where
  li : LI aw Φ ι H
  ne : H D ≠ none
  fz : Φ D = none
  ni : D ∉ ι
  rel : Rel c.K Φ ι S (hid H D)
def LiOk (D : Addr) (LI : List β → Hp → List Addr → Hp → Prop) : Prop := ∀ aw Φ ι H Φ' ι' H', LI aw Φ ι H → Le Φ ι Φ' ι' → H' D = H D → LI aw Φ' ι' H'
variable {D : Addr} {LI : List β → Hp → List Addr → Hp → Prop}
theorem StG.next (lo : LiOk D LI) {aw : List β} {Φ Φ' : Hp} {ι ι' : List Addr} {S S' : Store} {H H' : Hp} (s : StG c D LI aw Φ ι S H) (e : Ext Φ ι H Φ' ι' H') (r : Rel c.K Φ' ι' S' H') : StG c D LI aw Φ' ι' S' H' ∧ Ext Φ ι (hid H D) Φ' ι' (hid H' D) := by
  obtain ⟨e1, e2, e3, e4⟩ := e.hid s.ne s.fz s.ni
  exact ⟨⟨lo _ _ _ _ _ _ _ s.li e.le e4, by rw [e4]; exact s.ne, e2, e3, r.hid e2 e3⟩, e1⟩
theorem turnsT_ok {γ : Type} (lo : LiOk D LI) {J : It} {Φ0 : Hp} {ι0 : List Addr} {xs : List W} (hJ : ItOk c xs Φ0 ι0 J) {step : W → List β → Store → Out (List β)} {f : List β → Store → Out γ} {QQ : γ → Hp → List Addr → Store → Hp → Prop} {EE : XK} {Fin : Hp → Prop} {TURN : V → Hp → (Hp → Prop) → Prop}
    {aw : List β} {H0 : Hp} {S : Store} {H : Hp} (eH : hid H D = H0) (s0 : StG c D LI aw Φ0 ι0 S H) (h0 : After c Φ0 ι0 H0 ((turnsT step xs aw S).bd f) QQ EE)
    (fin : ∀ aw Φ ι S H, Ext Φ0 ι0 H0 Φ ι (hid H D) → StG c D LI aw Φ ι S H → After c Φ ι (hid H D) (f aw S) QQ EE → Fin H)
    (turn : ∀ (w : W) (f' : List β → Store → Out γ) (aw : List β) (Φ : Hp) (ι : List Addr) (S : Store) (H : Hp) (v : V) (Nx : Hp → Prop), Ext Φ0 ι0 H0 Φ ι (hid H D) → StG c D LI aw Φ ι S H → RV c.K Φ ι w v → After c Φ ι (hid H D) ((step w aw S).bd f') QQ EE →
      (∀ aw' Φ' ι' S' H', Ext Φ ι (hid H D) Φ' ι' (hid H' D) → StG c D LI aw' Φ' ι' S' H' → After c Φ' ι' (hid H' D) (f' aw' S') QQ EE → Nx H') → TURN v H Nx) :
    ∃ Wn : Nat → Nat → Hp → Prop, (∃ m, Wn 0 m H) ∧ ∀ i m H, Wn i m H → (J.stop i H ∧ Fin H) ∨ (J.go i H ∧ ∃ Nx : Hp → Prop, (∀ H', Nx H' → ∃ m', m' < m ∧ Wn (i + 1) m' H') ∧ ∀ x H', J.yld i H x H' → TURN x H' Nx) := by
  subst eH
  refine ⟨fun i m H' => m = xs.length - i ∧ i ≤ xs.length ∧ ∃ aw Φ ι S, Ext Φ0 ι0 (hid H D) Φ ι (hid H' D) ∧ StG c D LI aw Φ ι S H' ∧ After c Φ ι (hid H' D) ((turnsT step (xs.drop i) aw S).bd f) QQ EE, ⟨xs.length, by simp, Nat.zero_le _, aw, Φ0, ι0, S, Ext.refl _ _ _, s0, by simpa using h0⟩, ?_⟩
  rintro i m H1 ⟨rfl, hi, aw, Φ, ι, S, e, s, h⟩
  by_cases hlt : i < xs.length
  · right
    have hx : xs[i]? = some xs[i] := by simp [hlt]
    obtain ⟨g1, g2⟩ := hJ.go Φ ι S H1 i xs[i] e.le s.rel.unhid hx
    refine ⟨g1, fun H' => ∃ aw' Φ' ι' S', Ext Φ0 ι0 (hid H D) Φ' ι' (hid H' D) ∧ StG c D LI aw' Φ' ι' S' H' ∧ After c Φ' ι' (hid H' D) ((turnsT step (xs.drop (i + 1)) aw' S').bd f) QQ EE, fun H' ⟨aw', Φ', ι', S', k1, k2, k3⟩ => ⟨xs.length - (i + 1), by omega, rfl, hlt, aw', Φ', ι', S', k1, k2, k3⟩, fun x H' y => ?_⟩
    obtain ⟨Φ2, E2, R2, rv⟩ := g2 x H' y
    obtain ⟨s2, e2⟩ := s.next lo E2 R2
    rw [List.drop_eq_getElem_cons hlt] at h
    simp only [turnsT] at h
    rw [Out.bd_assoc] at h
    exact turn xs[i] _ aw Φ2 ι S H' x _ (e.trans e2) s2 rv (h.step e2) fun aw' Φ' ι' S' H'' k1 k2 k3 => ⟨aw', Φ', ι', S', (e.trans e2).trans k1, k2, k3⟩
  · left
    have ei : i = xs.length := by omega
    subst ei
    refine ⟨hJ.stop Φ ι S H1 _ e.le s.rel.unhid (Nat.le_refl _), fin aw Φ ι S H1 e s ?_⟩
    rw [List.drop_length] at h
    exact h
end
/-! ### tables -/
section
variable {c : Cf} {K : Frag} {Φ : Hp}
theorem TabR.keys {H : Hp} {t : Tab} {xs : TabE} (r : TabR K Φ t xs) (h : ∀ a o, Φ a = some o → H a = some o) : KeysAt H xs := by
  induction r with
  | nil => intro x hx; exact nomatch hx
  | @cons p q ps qs hq t ih =>
    intro x hx
    rcases List.mem_cons.mp hx with rfl | hx
    · rw [hq.1]; exact h _ _ hq.2.1
    · exact ih x hx
abbrev bkOf (k : Bool × Str) : List BK := [.inl k.1, .inr k.2]
theorem bkOf_eq {k k' : Bool × Str} : bkOf k = bkOf k' ↔ k = k' := by
  obtain ⟨a, b⟩ := k; obtain ⟨a', b'⟩ := k'
  simp [bkOf]
theorem TabR.len {t : Tab} {xs : TabE} (r : TabR K Φ t xs) : t.length = xs.length := Paired.length r
/-- the entry of a key -/
theorem TabR.at {t : Tab} {xs : TabE} (r : TabR K Φ t xs) (k : Bool × Str) : (tfind k t = none ∧ tabAt xs (bkOf k) = none) ∨ ∃ p v, tfind k t = some p ∧ tabAt xs (bkOf k) = some (.ref v) ∧ SqT K Φ v [.int p.1, .str p.2] ∧ okS p.2 := by
  induction r with
  | nil => exact .inl ⟨rfl, rfl⟩
  | @cons p q ps qs hq t ih =>
    obtain ⟨z1, z2, z3, v, z4, z5⟩ := hq
    unfold tfind tabAt at ih ⊢
    rw [List.find?_cons, List.find?_cons, z1]
    by_cases e : p.1 = k
    · right
      have e2 : ([Sum.inl p.1.1, Sum.inr p.1.2] : List BK) = bkOf k := by rw [← e]
      rw [decide_eq_true e, decide_eq_true e2]
      exact ⟨p.2, v, rfl, by rw [← z4]; rfl, z5, z3⟩
    · have e2 : ¬ ([Sum.inl p.1.1, Sum.inr p.1.2] : List BK) = bkOf k := fun z => e (bkOf_eq.mp z)
      rw [decide_eq_false e, decide_eq_false e2]
      exact ih
theorem TabR.put {t : Tab} {xs : TabE} (r : TabR K Φ t xs) (k : Bool × Str) {b v : Addr} {p : Int × Str} (hb : Φ b = some (.tup [.bl k.1, .str k.2])) (hv : SqT K Φ v [.int p.1, .str p.2]) (hp : okS p.2) : TabR K Φ (tput k p t) (tputE xs (bkOf k) b (.ref v)) := by
  have e : (t.any fun x => decide (x.1 = k)) = (xs.any fun x => decide (x.1 = bkOf k)) := by
    induction r with
    | nil => rfl
    | @cons p q ps qs hq t ih =>
      rw [List.any_cons, List.any_cons, ih, hq.1]
      have : decide (p.1 = k) = decide (([Sum.inl p.1.1, Sum.inr p.1.2] : List BK) = bkOf k) := decide_eq_decide.mpr bkOf_eq.symm
      rw [this]
  unfold tput tputE
  rw [e]
  by_cases q : (xs.any fun x => decide (x.1 = bkOf k)) = true
  · rw [if_pos q, if_pos q]
    clear e q
    induction r with
    | nil => exact .nil
    | @cons x y ps qs hq t ih =>
      refine .cons ?_ ih
      dsimp only
      by_cases e : x.1 = k
      · rw [if_pos e, if_pos (by rw [hq.1, ← e])]
        exact ⟨hq.1, hq.2.1, hp, v, rfl, hv⟩
      · rw [if_neg e, if_neg (fun z => e (bkOf_eq.mp (by rw [← z, hq.1])))]
        exact hq
  · rw [if_neg q, if_neg q]
    exact paired_app r (.cons ⟨rfl, hb, hp, v, rfl, hv⟩ .nil)
/-- a key tuple that was just made -/
theorem tpair_ok {x y : W} {k : Bool × Str} (h : tpairW x y = some k) : x = .bl k.1 ∧ y = .str k.2 := by
  unfold tpairW at h
  split at h
  · cases h; exact ⟨rfl, rfl⟩
  · cases h
theorem tval_ok {x : W} {k : Int × Str} (h : tvalW x = some k) : x = .tup [.int k.1, .str k.2] := by
  unfold tvalW at h
  split at h
  · cases h; rfl
  · cases h
end
/-! ### max with a key -/
section
variable {c : Cf}
theorem gtW_ok {Φ H : Hp} {ι : List Addr} {S : Store} {k kb : W} {v vb : V} {b : Bool} (R : Rel c.K Φ ι S H) (r : RV c.K Φ ι k v) (rb : RV c.K Φ ι kb vb) (h : gtW k kb = some b) : GtK c.K H v vb b := by
  unfold gtW at h
  split at h
  · cases r; cases rb; cases h
    exact .inl ⟨_, _, rfl, rfl, rfl⟩
  · cases h
    cases r with
    | tup s t =>
      cases rb with
      | tup s' t' =>
        cases t with
        | cons a1 t => cases t with
          | cons a2 t => cases t; cases t' with
            | cons b1 t' => cases t' with
              | cons b2 t' =>
                cases t'; cases a1; cases a2; cases b1; cases b2
                exact .inr ⟨_, _, _, _, _, _, rfl, rfl, SqT.mono R.sub s, SqT.mono R.sub s', rfl⟩
  · cases h
/-- the rule's question, from the plain computation -/
theorem maxk_ask {fa : Addr} {f : List W → Store → Out W} {Φ H : Hp} {ι : List Addr} {S : Store} {xs : List W} {a : Addr} {ys : List V} {Q : VK} {E : XK} (R : Rel c.K Φ ι S H) (hl : Φ a = some (.lst ys)) (rv : RVs c.K Φ ι xs ys) (h : After c Φ ι H (maxkW f xs S) (QV c Q) E) :
    rMaxKey c.K (spF c f) fa [.ref a] [.ref fa] H Q := by
  cases xs with
  | nil => exact h.elim
  | cons x r =>
    cases rv with
    | @cons _ _ v vs rx rr =>
      simp only [maxkW] at h
      refine ⟨a, v :: vs, v, fun j vb kb H1 => ∃ (Φ1 : Hp) (ι1 : List Addr) (S1 : Store) (wb wk : W), Le Φ ι Φ1 ι1 ∧ Rel c.K Φ1 ι1 S1 H1 ∧ RV c.K Φ1 ι1 wb vb ∧ RV c.K Φ1 ι1 wk kb ∧ After c Φ1 ι1 H1 (maxkL f ((x :: r).drop j) wb wk S1) (QV c Q) E, rfl, rfl, SqL.of (R.sub _ _ hl), rfl, ?_, ?_, ?_, ?_⟩
      · intro j vb kb H1 ⟨Φ1, ι1, S1, wb, wk, le, R1, _, _, _⟩
        exact SqL.of (R1.sub _ _ (le.fz _ _ hl))
      · exact ⟨Φ, ι, S, [x], R, .cons rx .nil, (h.bd.noex).imp fun k Φ1 ι1 S1 H1 e1 R1 q1 kv rk => ⟨Φ1, ι1, S1, x, k, e1.le, R1, e1.rv rx, rk, by simpa using q1⟩⟩
      · intro j vb kb H1 y ⟨Φ1, ι1, S1, wb, wk, le, R1, rb, rk, q⟩ hy
        have hj : j < (x :: r).length := by
          rw [(RVs.cons rx rr).length]; exact (List.getElem?_eq_some_iff.mp hy).1
        obtain ⟨xj, hx, rxj⟩ := (RVs.cons rx rr).getV hy
        have hx' : (x :: r)[j] = xj := by rw [List.getElem?_eq_getElem hj] at hx; exact Option.some.inj hx
        rw [List.drop_eq_getElem_cons hj, hx'] at q
        simp only [maxkL] at q
        refine ⟨Φ1, ι1, S1, [xj], R1, .cons (le.rv rxj) .nil, (q.bd.noex).imp fun k Φ2 ι2 S2 H2 e2 R2 q2 kv rk2 => ?_⟩
        cases g : gtW k wk with
        | none => rw [g] at q2; exact q2.elim
        | some b =>
          rw [g] at q2
          refine ⟨b, gtW_ok R2 rk2 (e2.rv rk) g, Φ2, ι2, S2, _, _, le.trans e2.le, R2, ?_, ?_, q2⟩
          · cases b with
            | true => exact e2.rv (le.rv rxj)
            | false => exact e2.rv rb
          · cases b with
            | true => exact rk2
            | false => exact e2.rv rk
      · intro j vb kb H1 ⟨Φ1, ι1, S1, wb, wk, le, R1, rb, rk, q⟩ hj
        have : (x :: r).drop j = [] := List.drop_eq_nil_of_le (by rw [(RVs.cons rx rr).length]; exact hj)
        rw [this] at q
        exact q.here R1 _ rb
end
end Gs
end

section
set_option linter.all false
set_option maxRecDepth 100000
set_option maxHeartbeats 4000000
set_option autoImplicit false
/-! GSet: len(set(xs)), xs a list of texts, alike ones among them. -/
namespace Gs
open PySem PySem.Spec PyProof.Rows L2
theorem unl_le (xs : List Str) : ∀ i, unlk xs i ≤ i
  | 0 => Nat.le_refl _
  | i + 1 => by
    have h := unl_le xs i
    unfold unlk
    split <;> omega
/-- an empty set -/
abbrev mtSet (led : Bool) : Obj := { cls := .type "set", dict := none, data := .set #[] 0 (.fresh 0 0 led) }
section
variable {P0 : Program} {w0 : World} {B : Around} {Rs : Result → Shared → Prop} {J : Addr} {fp0 wr0 : List Addr} {Gr : Array GenState → Array GenState → Prop} {m : Nat} {Pv : Nat → Value → Prop} {Sv : Nat → Shared → Prop}
abbrev InS (P0 : Program) (w0 : World) (h : Heap) (S : Addr) (xs : List Str) (i : Nat) : Prop := h.SetOf (PySem.strKind P0 w0) S (fun k => (xs.take i).any (· == k)) (unlk xs i)
theorem ins_keep {h h2 : Heap} {S : Addr} {xs : List Str} {i : Nat} (hs : InS P0 w0 h S xs i) (hk : ∀ o, h.get? S = some o → h2.get? S = some o) : InS P0 w0 h2 S xs i := by
  obtain ⟨ob, e1, e2, e3, e4, e5⟩ := hs
  exact ⟨ob, e1, e2, e3, hk ob e4, e5⟩
theorem fill_loop (W : WalksS P0 w0 B.in1 J fp0 wr0 Gr m Pv Sv) (S : Addr) (hS : S ∉ fp0) (xs : List Str) (hm : xs.length = m) (hsm : m < 4000) (hv : ∀ i v, Pv i v → ∃ t, v = .str (xs.getD i Str.empty) t) :
    ∀ (left i : Nat) (s : Shared), m - i = left → i ≤ m → Sv i s → InS P0 w0 s.heap S xs i → (∀ s2, Moved (S :: wr0) Gr s s2 → InS P0 w0 s2.heap S xs m → Rs (.ok (.ret .none)) s2) →
      codeAny (model P0 w0) B (.builtin "set.update.loop" ⟨[.ref S, .ref J], []⟩) Rs s := by
  have nw : S ∉ wr0 := fun z => hS (W.sub _ z)
  have up : ∀ b ∈ wr0, b ∈ S :: wr0 := fun b z => List.mem_cons_of_mem _ z
  intro left
  induction left with
  | zero =>
    intro i s hl hi hst hin fin
    obtain rfl : i = m := by omega
    refine codeAny_builtin PyProof.Rows.F.entry_set_update_loop ?_
    rw [Around.under_plainId PyProof.Rows.F.plain_set_update_loop _]
    show wpAny _ B.in1 (pyNext (.ref J) >>= _) _ _ s
    refine wpAny_bind (W.done s _ _ hst fun s2 mv => ?_)
    show wpAny _ B.in1 (ret Value.none) _ _ s2
    exact wpAny_pure (fin s2 (mv.mono up) (ins_keep hin fun o z => mv.heap S o nw z))
  | succ left ih =>
    intro i s hl hi hst hin fin
    have lt : i < m := by omega
    refine codeAny_builtin PyProof.Rows.F.entry_set_update_loop ?_
    rw [Around.under_plainId PyProof.Rows.F.plain_set_update_loop _]
    show wpAny _ B.in1 (pyNext (.ref J) >>= _) _ _ s
    refine wpAny_bind (W.item i s _ _ lt hst fun v s2 hp hst2 mv => ?_)
    obtain ⟨t, rfl⟩ := hv i v hp
    have in2 := ins_keep hin fun o z => mv.heap S o nw z
    have small := unl_le xs i
    show wpAny _ B.in1 (holding [Value.str (xs.getD i Str.empty) t] (setAdd S (.str (xs.getD i Str.empty) t)) >>= _) _ _ s2
    refine wpAny_bind (wpAny_holding ?_)
    unfold setAdd
    refine wpAny_holding ?_
    refine wpAny_bind ((PySem.strKind P0 w0).pyHash (k := xs.getD i Str.empty) (strKind_is _ _ _ _) ?_)
    refine wpAny_setAddHashed_of (knd := PySem.strKind P0 w0) (s := { s2 with toks := s2.toks + 1 }) (strKind_is _ _ _ _) rfl in2 (by unfold scanBound; omega) fun h3 same in3 => ?_
    have in4 : InS P0 w0 h3 S xs (i + 1) := by
      refine SetOf_congr in3 (fun k => ?_) rfl
      have ht : xs.take (i + 1) = xs.take i ++ [xs.getD i Str.empty] := by
        rw [List.take_add_one, List.getElem?_eq_getElem (by omega), List.getD_eq_getElem?_getD, List.getElem?_eq_getElem (by omega)]
        rfl
      rw [ht, List.any_append]
      congr 1
      simp only [List.any_cons, List.any_nil, Bool.or_false]
      by_cases z : k = xs.getD i Str.empty
      · rw [decide_eq_true z, z]; exact (beq_self_eq_true _).symm
      · rw [decide_eq_false z]; exact (beq_eq_false_iff_ne.mpr fun y => z y.symm).symm
    refine wpAny_pure ⟨plainId_quiet PyProof.Rows.F.plain_set_update_loop _, ih (i + 1) _ (by omega) lt (W.frame _ s2 _ _ hst2 (Nat.le_succ _) fun b hb o z => ?_) in4 fun s5 mv5 in5 => ?_⟩
    · rw [same.2 b (fun y : b = S => hS (by rw [← y]; exact hb))]; exact z
    · refine fin s5 (Moved.trans W.gtrans ((mv.mono up).then_heap (Nat.le_succ _) fun b o hb z => ?_) mv5) in5
      rw [same.2 b (fun y : b = S => hb (by rw [y]; exact List.mem_cons_self))]; exact z
end
section
variable {P0 : Program} {w0 : World} {B : Around} {Ex : Value → Shared → Prop} {s : Shared}
/-- what the filling leaves -/
abbrev Filled (P0 : Program) (w0 : World) (s : Shared) (xs : List Str) (n : Nat) (h2 : Heap) : Prop := InS P0 w0 h2 s.heap.objs.size xs n ∧ ∀ b o, b < s.heap.objs.size → s.heap.get? b = some o → h2.get? b = some o
theorem set_of_strs {a : Addr} {its : Array Value} {xs : List Str} {Qv : Value → Shared → Prop} (hb : B.handled = none) (ha : s.heap.IsList a its) (hx : StrsAre its.toList xs) (hn : xs.length < 4000)
    (fin : ∀ (h2 : Heap) (tk : Nat), Filled P0 w0 s xs its.size h2 → Qv (.ref s.heap.objs.size) { s with heap := h2, toks := tk }) :
    wpAny (model P0 w0) B (call (.type "set") [.ref a]) Qv Ex s := by
  have tm := PySem.F.called_set.made
  have ts := PySem.F.called_set.sub
  obtain ⟨mc, ml, mr⟩ := PySem.F.called_set.mro
  refine wpAny_call (codeAny_of_tree ?_)
  show wpAny _ _ (callAny (.type "set") _) _ _ _
  refine wpAny_pure ⟨Code.quiet_builtin _ (by decide +kernel), codeAny_builtin PySem.F.entry_type_call ?_⟩
  rw [Around.under_plain (weight_type_call_type "set" [.ref a] []) rfl]
  have t1 := PySem.F.called_set.notType
  have t2 := PySem.F.called_set.canCreate
  have t3 := PySem.F.typeCall_set_1 (.ref a)
  repeat (any_goals (first | assumption | wp_step))
  refine codeAny_mono (code_set_new_1 (.ref a) (E := Ex) (Q₁ := fun v z => ∃ led : Bool, v = .ref s.heap.objs.size ∧ z = { s with heap := s.heap.push (mtSet led) }) fun led => ⟨led, rfl, rfl⟩) fun r z hz => ?_
  match r, hz with
  | .error e, hz => exact hz
  | .ok .next, hz => exact hz.elim
  | .ok .brk, hz => exact hz.elim
  | .ok .cont, hz => exact hz.elim
  | .ok (.ret v), ⟨led, e1, e2⟩ =>
    subst e1
    subst e2
    have at0 : (s.heap.push (mtSet led)).get? s.heap.objs.size = some (mtSet led) := Heap.get?_push_size _ rfl
    have ty0 : Shared.TypeIs { s with heap := s.heap.push (mtSet led) } (.ref s.heap.objs.size) "set" := ⟨_, at0, rfl⟩
    have t4 := PySem.F.called_set.init.lookup
    have t5 := PySem.F.called_set.init.bind (.ref s.heap.objs.size)
    repeat (any_goals (first | assumption | wp_step))
    refine codeAny_mono (codeAny_call_builtin (R := wants (fun r z => r = .none ∧ ∃ h2 tk, z = { s with heap := h2, toks := tk } ∧ Filled P0 w0 s xs its.size h2) Ex) PySem.F.called_set.init.plain PySem.F.entry_set_init (check_set_init_1 ty0 ?_)) fun r2 z2 hz2 => ?_
    · obtain ⟨ob, oe, oc, nn, od⟩ := ha
      obtain ⟨c0, d0, dat0, sl0⟩ := ob
      simp only at oc od
      subst oc
      subst od
      have up1 : (s.heap.push (mtSet led)).get? a = some { cls := .type "list", dict := d0, data := .seq its nn, slots := sl0 } := Heap.get?_push_of_some _ oe
      have k1 := PySem.F.sub_list_set
      have k2 := PySem.F.sub_list_frozenset
      have k3 : (Value.type "list" == Value.type "dict") = false := by decide
      have li : (s.heap.push (mtSet led)).IsList a its := ⟨_, up1, rfl, nn, rfl⟩
      unfold Builtin.«set.__init__» noKeywords Builtin.Frozenset.updateFrom
      generalize hgen : pyIter = PI
      wp_walk
      subst hgen
      refine wpAny_pyIter_list li ?_
      refine wpAny_bind (wpAny_runValue ?_)
      have alt : a < s.heap.objs.size := Heap.lt_size oe
      have hb3 : B.in1.in1.in1.handled = none := by simp [hb]
      have aI : a ≠ (s.heap.push (mtSet led)).objs.size := by
        rw [Heap.size_push]
        exact Nat.ne_of_lt (Nat.lt_succ_of_lt alt)
      have apart : s.heap.objs.size ∉ [(s.heap.push (mtSet led)).objs.size, a] := by
        rw [Heap.size_push]
        intro z
        rcases List.mem_cons.mp z with z | z
        · exact absurd z (Nat.ne_of_lt (Nat.lt_succ_self _))
        · exact absurd (List.mem_singleton.mp z).symm (Nat.ne_of_lt alt)
      have sz : xs.length = its.size := by rw [← StrsAre.len_eq hx, Array.length_toList]
      have vals : ∀ (i : Nat) (v : Value), its[i]? = some v → ∃ t, v = .str (xs.getD i Str.empty) t := fun i v hv => SS.strs_at hx i v (by rw [Array.getElem?_toList]; exact hv)
      refine fill_loop ((Walks.list hb3 _ a aI its).toS) s.heap.objs.size apart xs sz (by omega) vals (its.size - 0) 0 _ (by omega) (Nat.zero_le _) ⟨⟨_, Heap.get?_push_size _ rfl, rfl, rfl⟩, (li.push _)⟩ ?start ?done
      case start =>
        have at1 : ((s.heap.push (mtSet led)).push { cls := .type "list_iterator", data := .fields #[.ref a, .int 0 0] }).get? s.heap.objs.size = some (mtSet led) := Heap.get?_push_of_some _ at0
        exact SetOf_congr ((setObjOf_fresh (knd := PySem.strKind P0 w0) led).setOf at1 (by unfold scanBound; omega)) (fun _ => rfl) rfl
      case done =>
        intro z mv hin
        obtain ⟨h2, g2, d2, tk2, o2⟩ := z
        obtain rfl : g2 = s.gens := mv.gens
        obtain rfl : d2 = s.drawn := mv.drawn
        obtain rfl : o2 = s.os := mv.os
        show wpAny _ _ _ _ _ _
        refine wpAny_pure ?_
        show wpAny _ _ (ret Value.none) _ _ _
        refine wpAny_pure ⟨rfl, h2, tk2, rfl, hin, fun b o hlt he => ?_⟩
        refine mv.heap b o (fun z => ?_) (Heap.get?_push_of_some _ (Heap.get?_push_of_some _ he))
        rcases List.mem_cons.mp z with z | z
        · exact absurd z (Nat.ne_of_lt hlt)
        · rcases List.mem_cons.mp z with z | z
          · rw [Heap.size_push] at z
            exact absurd z (Nat.ne_of_lt (Nat.lt_succ_of_lt hlt))
          · exact absurd z List.not_mem_nil
    · match r2, hz2 with
      | .error e, hz2 => exact hz2
      | .ok .next, hz2 => exact hz2.elim
      | .ok .brk, hz2 => exact hz2.elim
      | .ok .cont, hz2 => exact hz2.elim
      | .ok (.ret v), ⟨e1, h2, tk, e2, hf⟩ =>
        subst e1
        subst e2
        repeat (any_goals (first | assumption | wp_step))
        exact fin _ _ hf
end
/-- len(set(xs)), xs a list of texts -/
def tLens (K : PySem.W.Frag) (ta : TE) : TE := fun σ H Q => ta σ H fun x H1 => ∃ (a : Addr) (xs : List Str), x = .ref a ∧ SqL K H1 a (xs.map V.str) ∧ xs.length < 4000 ∧ Q (.int (unlk xs xs.length : Nat)) H1
theorem pe_lens {X : Cx} {e : Expr} {te : TE} {p1 p2 p3 pos : Pos} (hc : X.calm = true) (g1 : Gl X "len") (m1 : X.mg "len" = none) (g2 : Gl X "set") (m2 : X.mg "set" = none) (he : PE X e te)
    (one : starEach [e] X.env = (false, eval e X.env) :: starEach [] X.env := by rfl) : PE X (.Call (.Name "len" p1) [.Call (.Name "set" p2) [e] [] p3] [] pos) (tLens X.K te) := by
  refine ⟨fun pins s σ H Q I h => ?_⟩
  refine Call_ (ld_blt I g1 m1 boot_len ?_)
  refine callWith_builtin1 (args_cons ?_ rfl) rfl rfl
  refine Call_ (ld_blt I g2 m2 boot_set ?_)
  refine callWith_type1 (args_cons (thn (he.run pins s σ H _ I h) fun v z ⟨x, H1, I1, r1, q1⟩ => args_nil ?_) one) one rfl
  obtain ⟨a, xs, rfl, hq, hn, q⟩ := q1
  cases r1
  obtain ⟨its, r, pl, _⟩ := I1.list hq
  have sz : its.toArray.size = xs.length := by rw [List.size_toArray, ← r.length, List.length_map]
  refine set_of_strs (I1.ok.hd hc) pl.isList (by simpa using strsAre_of r) hn fun h2 tk hf => ?_
  refine args_nil ?_
  rw [sz] at hf
  obtain ⟨⟨ob, es, ep, tb, b1, b2, b3, _, _, _, b4, b5⟩, keep⟩ := hf
  have I2 : Inv X pins σ H1 { z with heap := h2, toks := tk } := I1.kept fun b o y => keep b o (Heap.lt_size y) y
  have small := unl_le xs xs.length
  exact call_len_set b1 b2 b3 b4 (by rw [b5]; omega) ⟨.int (unlk xs xs.length : Nat), H1, I2.tok _, ⟨_, by rw [b5]⟩, q⟩
end Gs
end

section
set_option linter.all false
set_option maxRecDepth 100000
set_option autoImplicit false
set_option maxHeartbeats 4000000
namespace Gs
open PySem PySem.Spec PyProof.Rows L2
variable [Wd]
section
variable {c : Cf} {C : Cn}
theorem Amb.blk {X : Cx} {k : Ck} {Wx : WX} (A : Amb c C X k Wx) (s : Shared) (H : Hp) (scope : Scope) (Ca : Addr) (cl : List (Str × Addr)) (fp : List Addr) :
    Amb c C (X.blk s H scope (compEnvC scope cl Ca X.env) fp) (k.blk scope) (fun _ _ _ _ => False) where
  hK := A.hK
  calm := A.calm
  nd := A.nd
  N := A.N
  sc := by
    show relS scope X.env.scope = relS scope k.sc
    rw [A.sc]
  fn := rfl
  un := A.un
  hw := A.hw
  free := A.free
  gl := A.gl
  gd := A.gd
  nofn := A.nofn
  xc := A.xc
  xs := A.xs
  xm := A.xm
  x0 := A.x0
  xf := A.xf
  xn := A.xn
  rm := A.rm
  tk := takes0
  call := A.call
  kcall := A.kcall
theorem noSet {x : Expr} {env : Env} (h : notSet x = true) : ∀ v, foldedSetIterable x env v = pure v := by
  cases x <;> first | (intro _; rfl) | cases h
theorem noSuper {x : Expr} {a : Str} {env : Env} (h : noCall0 x = true) : attributeBase x a env (eval x env) = eval x env := by
  cases x with
  | Call f as ks p =>
    cases as with
    | nil =>
      cases ks with
      | nil => cases h
      | cons a b => cases f <;> rfl
    | cons a b => cases f <;> rfl
  | _ => rfl
theorem plainIx {x : Expr} (h : notSlice x = true) : PlainIx x := by
  cases x <;> first | (intro _ _; rfl) | cases h
theorem plainTest {x : Expr} (h : plainB x = true) (env : Env) : ∀ whole, isTrue x env whole = (do let v ← whole; standAt x.pos; holding [v] (truthy v)) := by
  cases x with
  | UnaryOp op a p => cases op <;> first | (intro _; rfl) | cases h
  | BoolOp => cases h
  | IfExp => cases h
  | Compare => cases h
  | _ => intro _; rfl
def oneV (P : V → Hp → Prop) : List V → Hp → Prop := fun zs H => match zs with
  | [y] => P y H
  | _ => False
theorem oneV_ok {P : V → Hp → Prop} {zs : List V} {H : Hp} (h : oneV P zs H) : ∃ y, zs = [y] ∧ P y H := by
  unfold oneV at h
  split at h
  · exact ⟨_, rfl, h⟩
  · exact h.elim
theorem tcons_one {te : TE} {σ : L2.St} {H : Hp} {P : V → Hp → Prop} (h : te σ H fun y H2 => P y H2) : tCons te tNil σ H (oneV P) := h
/-- f(e, .., q = v) where what is raised is wished for at the caller's slots -/
def tCallNS (sp : Sp) (E : L2.St → XK) (t : TA) (te : TE) : TE := fun σ H Q => t σ H fun vs H1 => te σ H1 fun y H2 => sp (vs ++ [y]) H2 Q (E σ)
theorem pe_callNS {X : Cx} {CX : CXT} {k n : Nat} {f : Addr} {fd : FuncData} {ps : List Str} {q : Str} {sp : Sp} {E : L2.St → XK} {x : Str} {p pos kp : Pos} {e z : Expr} {es : List Expr} {t : TA} {te : TE} (F : FnOk X.prog X.w X.K X.mg X.base CX k f fd ps sp) (hr : Room k X.A) (hg : Gl X x) (hm : X.mg x = some (.ref f)) (hk : PySem.W.keepIn X.K (.ref f) = true)
    (hb : KBn X.K fd ps n [q] (fun us ws => us ++ ws) (fun vs zs => vs ++ zs)) (hx : ∀ σ, PassesAt CX X σ (E σ)) (hn : ps.length = n + 1)
    (ha : PA X (e :: es) t) (hz : PE X z te)
    (hdb : (x == ("__debug__" : Str)) = false) (he : starEach (e :: es) X.env = (false, eval e X.env) :: starEach es X.env)
    (hpl : (backTo pos (starEach (e :: es) X.env)).any (·.1) = false) :
    PE X (.Call (.Name x p) (e :: es) [⟨some q, z, kp⟩] pos) (tCallNS sp E t te) := by
  refine ⟨fun pins s σ H Q I h => ?_⟩
  refine wpAny_Call_Name_kw (ld_glob I hg hm ?_ hdb)
  refine PySem.W.callWith_KW (h₀ := X.base) I.ok.mod.kin hk (by rfl) (thn (ha.run pos pins s σ H _ I h) fun us s1 ⟨vs, H1, I1, r, q1⟩ => ?_) (by rw [hpl]; rfl) he
  have hkw : PK X [⟨some q, z, kp⟩] _ := pk_cons hz pk_nil
  refine thn (hkw.run pos pins s1 σ H1 (oneV fun y H2 => sp (vs ++ [y]) H2 Q (E σ)) I1 (tcons_one q1)) fun ws s2 ⟨zs, H2, I2, rz, qz⟩ => ⟨I2.kIn, ?_⟩
  obtain ⟨y, e1, q2⟩ := oneV_ok qz
  subst e1
  have hl := F.len _ _ _ _ q2
  rw [List.length_append, hn] at hl
  have r2 := hb.rel r rz
  refine wpAny_call (codeAny_mono (F.run X.A X.stack s2 H2 ⟨us, [q].zip ws⟩ (us ++ ws) (vs ++ [y]) Q (E σ) hr I2.env0 (hb.to s2 us ws I2.kIn (by rw [← r.length]; simpa using hl) rz.length.symm) r2 q2) fun r s' hq => ?_)
  cases r with
  | error e => exact hx σ pins H2 s2 e s' I2 hq
  | ok fl =>
    cases fl with
    | ret u => exact I2.after hq
    | next => exact False.elim hq
    | brk => exact False.elim hq
    | cont => exact False.elim hq
/-- f() where what is raised is wished for at the caller's slots -/
theorem pe_call0S {X : Cx} {CX : CXT} {k : Nat} {f : Addr} {fd : FuncData} {ps : List Str} {sp : Sp} {E : L2.St → XK} {x : Str} {p pos : Pos} (F : FnOk X.prog X.w X.K X.mg X.base CX k f fd ps sp) (hr : Room k X.A) (hg : Gl X x) (hm : X.mg x = some (.ref f)) (hk : PySem.W.keepIn X.K (.ref f) = true) (hb : Binds X.K fd ps []) (hx : ∀ σ, PassesAt CX X σ (E σ))
    (hdb : (x == ("__debug__" : Str)) = false) : PE X (.Call (.Name x p) [] [] pos) (tCallS sp E tNil) := by
  refine ⟨fun pins s σ H Q I h => ?_⟩
  refine wpAny_Call_Name_kw (ld_glob I hg hm ?_ hdb)
  exact PySem.W.callWith_K0 I.kIn hk (run_fnS (us := []) F hr hb (hx σ) I .nil h)
/-- a call of a local name that holds a def -/
theorem pe_callLS {X : Cx} {CX : CXT} {k i : Nat} {f : Addr} {fd : FuncData} {ps : List Str} {sp : Sp} {E : L2.St → XK} {x : Str} {p pos : Pos} {e : Expr} {es : List Expr} {t : TA} (F : FnOk X.prog X.w X.K X.mg X.base CX k f fd ps sp) (hr : Room k X.A)
    (hN : X.N[i]? = some x) (hv : Vis X.env.scope x) (hk : PySem.W.keepIn X.K (.ref f) = true) (hb : Binds X.K fd ps []) (hx : ∀ σ, PassesAt CX X σ (E σ)) (ha : PA X (e :: es) t)
    (hdb : (x == ("__debug__" : Str)) = false) (hcd : (x == ("__classdict__" : Str)) = false)
    (he : starEach (e :: es) X.env = (false, eval e X.env) :: starEach es X.env) (hpl : (backTo pos (starEach es X.env)).any (·.1) = false) :
    PE X (.Call (.Name x p) (e :: es) [] pos) (fun σ H Q => σ[i]? = some (some (.ref f)) ∧ t σ H fun vs H1 => sp vs H1 Q (E σ)) := by
  refine ⟨fun pins s σ H Q I ⟨hs, ht⟩ => ?_⟩
  refine wpAny_Call_Name_kw (thn ((pe_var (pos := p) hN hv hdb hcd).run pins s σ H (fun v H1 => v = .ref f ∧ H1 = H) I ⟨.ref f, hs, rfl, rfl⟩) fun u s1 ⟨v, H1, I1, r1, q1⟩ => ?_)
  obtain ⟨rfl, rfl⟩ := q1
  cases r1
  refine PySem.W.callWith_K (h₀ := X.base) I.ok.mod.kin hk (thn (ha.run pos pins s1 σ _ _ I1 ht) fun us s2 ⟨vs, H2, I2, r, q⟩ => ⟨I2.kIn, ?_⟩) he hpl
  exact run_fnS F hr hb (hx σ) I2 r q
/-- what a method of a built-in type needs -/
theorem mt_facts (m : Mt) : PlainAttrs (mtT m) ∧ Slot (mtT m) (mtN m) (mtI m) ∧ typeOf (.builtin (mtI m)) = pure (.type "method_descriptor") := by
  cases m with
  | append => exact ⟨PySem.F.plainAttrs_list, PySem.F.slot_list_append, PySem.F.type_list_append⟩
  | insert => exact ⟨PySem.F.plainAttrs_list, PySem.F.slot_list_insert, PySem.F.type_list_insert⟩
  | popAt => exact ⟨PySem.F.plainAttrs_list, PySem.F.slot_list_pop, PySem.F.type_list_pop⟩
  | pop => exact ⟨PySem.F.plainAttrs_list, PySem.F.slot_list_pop, PySem.F.type_list_pop⟩
  | extend => exact ⟨PySem.F.plainAttrs_list, PySem.F.slot_list_extend, PySem.F.type_list_extend⟩
  | clear => exact ⟨PySem.F.plainAttrs_list, PySem.F.slot_list_clear, PySem.F.type_list_clear⟩
  | index => exact ⟨PySem.F.plainAttrs_list, PySem.F.slot_list_index, PySem.F.type_list_index⟩
  | count => exact ⟨PySem.F.plainAttrs_list, PySem.F.slot_list_count, PySem.F.type_list_count⟩
  | join => exact ⟨PySem.F.plainAttrs_str, PySem.F.slot_str_join, PySem.F.type_str_join⟩
  | isupper => exact ⟨PySem.F.plainAttrs_str, PySem.F.slot_str_isupper, PySem.F.type_str_isupper⟩
  | rpart => exact ⟨PySem.F.plainAttrs_str, PySem.F.slot_str_rpartition, PySem.F.type_str_rpartition⟩
theorem tyV_ok {Φ H : Hp} {ι : List Addr} {S : Store} {w : W} {v : V} (m : Mt) (r : Rel c.K Φ ι S H) (rv : RV c.K Φ ι w v) (h : tyN S w = some (mtT m)) : tyV c.K (mtT m) v H := by
  have hl : tyN S w = some "list" → tyV c.K "list" v H := fun h => by
    cases rv with
    | lst s t => exact .inl ⟨rfl, _, SqL.of (r.sub _ _ s)⟩
    | scr s => exact .inl ⟨rfl, _, SqL.mono r.sub s⟩
    | @loc l a hl =>
      simp only [tyN] at h
      split at h
      · rename_i xs q
        obtain ⟨_, vs, q1, t⟩ := r.live _ _ _ hl q
        exact .inl ⟨rfl, _, SqL.of q1⟩
      · simp at h
      · simp at h
    | tab _ _ => simp [tyN] at h
    | non => simp [tyN] at h
    | bl _ => simp [tyN] at h
    | int _ => simp [tyN] at h
    | str _ => simp [tyN] at h
    | tup _ _ => simp [tyN] at h
    | ty _ => simp [tyN] at h
    | fn _ => simp [tyN] at h
  have hs : tyN S w = some "str" → tyV c.K "str" v H := fun h => by
    cases rv with
    | str _ => exact rfl
    | @loc l a hl =>
      simp only [tyN] at h
      split at h <;> simp at h
    | _ => simp [tyN] at h
  cases m <;> first | exact hl h | exact hs h
/-- a chain of three comparisons -/
def tChain3 (r r' r2 : R2) (ta tb tc td : TE) : TE := fun σ H Q => ta σ H fun x H1 => tb σ H1 fun y H2 => r x y H2 fun z H3 => ∃ k, z = .bl k ∧
  (if k = true then tc σ H3 fun u H4 => r' y u H4 fun z H5 => ∃ k, z = .bl k ∧ (if k = true then td σ H5 fun v H6 => r2 u v H6 Q else Q (.bl false) H5) else Q (.bl false) H3)
theorem pe_chain3 {X : Cx} {a b c d : Expr} {ta tb tc td : TE} {pos : Pos} {op op' op2 : CmpOp} {r r' r2 : R2} (ho : OpR X (compareOp op) r) (ho' : OpR X (compareOp op') r') (ho2 : OpR X (compareOp op2) r2) (ha : PE X a ta) (hb : PE X b tb) (hc : PE X c tc) (hd : PE X d td)
    (hm : lastMarks [op, op', op2] [b, c, d] = false) : PE X (.Compare a [op, op', op2] [b, c, d] pos) (tChain3 r r' r2 ta tb tc td) := by
  refine ⟨fun pins s σ H Q I h => ?_⟩
  refine Compare_chain (thn (ha.run pins s σ H _ I h) fun v s1 ⟨x, H1, I1, r1, q1⟩ => chain_link (thn (hb.run pins s1 σ H1 _ I1 q1) fun u s2 ⟨y, H2, I2, r2', q2⟩ =>
    thn (ho pins s2 σ H2 x y v u _ I2 r1 r2' q2) fun e s3 ⟨z, H3, I3, r3, k, ee, q3⟩ => ?_)) hm
  subst ee
  cases r3
  refine wpAny_truthy_bool ?_
  cases k with
  | false => exact ite_ff ⟨.bl false, H3, I3, rfl, q3⟩
  | true =>
    refine ite_tt (chain_link (thn (hc.run pins s3 σ H3 _ I3 q3) fun w' s4 ⟨y', H4, I4, r4, q4⟩ => thn (ho' pins s4 σ H4 y y' u w' _ I4 r2' r4 q4) fun e s5 ⟨z, H5, I5, r5, k, ee, q5⟩ => ?_))
    subst ee
    cases r5
    refine wpAny_truthy_bool ?_
    cases k with
    | false => exact ite_ff ⟨.bl false, H5, I5, rfl, q5⟩
    | true => exact ite_tt (chain_last (thn (hd.run pins s5 σ H5 _ I5 q5) fun w2 s6 ⟨z', H6, I6, r6, q6⟩ => ho2 pins s6 σ H6 y' z' w' w2 Q I6 r4 r6 q6))
theorem hfew_of {env : Env} {cpos : Pos} {xs : List Expr} (h : ∀ x ∈ xs, notStar x = true) (hl : xs.length < 29) : ((backTo cpos (starEach xs env)).all (fun x => !x.1) && (backToKw cpos (keywordEach [] env)).all (fun x => x.1.isSome)
      && decide (xs.length + ([] : List Keyword).length + (if ([] : List Keyword).isEmpty then 0 else 1) < 30)) = true := by
  have h1 : (backTo cpos (starEach xs env)).all (fun x => !x.1) = true := by
    rw [star_all h]
    unfold backTo
    clear h hl
    induction xs with
    | nil => rfl
    | cons x xs ih => simp only [List.map_cons, List.all_cons, Bool.not_false, Bool.true_and]; exact ih
  rw [h1]
  have h2 : decide (xs.length + ([] : List Keyword).length + (if ([] : List Keyword).isEmpty then 0 else 1) < 30) = true := decide_eq_true (by simp; omega)
  rw [h2]
  rfl
theorem wipe_sub {σ : L2.St} {vs : List Nat} : ∀ us : List Nat, (∀ i ∈ us, i ∈ vs) → L2.wipe (L2.wipe σ us) vs = L2.wipe σ vs
  | [], _ => rfl
  | u :: us, h => by
    show L2.wipe ((L2.wipe σ us).set u none) vs = _
    rw [wipe_set (h u List.mem_cons_self), wipe_sub us fun i hi => h i (List.mem_cons_of_mem _ hi)]
theorem wipe_wipe {σ : L2.St} (vs : List Nat) : L2.wipe (L2.wipe σ vs) vs = L2.wipe σ vs := wipe_sub vs fun _ h => h
/-! ### forms -/
theorem inv_and {b d : Bool} (h : (b && d) = true) : b = true ∧ d = true := Bool.and_eq_true_iff.mp h

section
variable {X : Cx} {k : Ck} {Wx : WX}
/-- two parts in a row -/
theorem two_ok {α : Type} {f g : Rho → Store → Out W} {hh : W → W → Store → Out α} {QQ : α → Hp → List Addr → Store → Hp → Prop} {σ : L2.St} {H : Hp} {R : V → V → Hp → Prop} {Φ : Hp} {ι : List Addr} {S : Store} {ρ : Rho}
    (R0 : Rel c.K Φ ι S H) (re : REnv c.K Φ ι ρ σ) (h : After c Φ ι H ((f ρ S).bd fun x S1 => (g ρ S1).bd fun y S2 => hh x y S2) QQ (fun cls d H' => Wx cls d σ H'))
    (fin : ∀ w1 w2 v1 v2 Φ2 ι2 S2 H2, Rel c.K Φ2 ι2 S2 H2 → RV c.K Φ2 ι2 w1 v1 → RV c.K Φ2 ι2 w2 v2 → After c Φ2 ι2 H2 (hh w1 w2 S2) QQ (fun cls d H' => Wx cls d σ H') → R v1 v2 H2) :
    rdE c Wx f σ H fun x H1 => rdE c Wx g σ H1 fun y H2 => R x y H2 := by
  refine ⟨Φ, ι, S, ρ, R0, re, h.bd.imp fun w1 Φ1 ι1 S1 H1 e1 R1 h1 v1 rv1 => ?_⟩
  refine ⟨Φ1, ι1, S1, ρ, R1, re.mono e1, h1.bd.imp fun w2 Φ2 ι2 S2 H2 e2 R2 h2 v2 rv2 => ?_⟩
  exact fin w1 w2 v1 v2 Φ2 ι2 S2 H2 R2 (e2.rv rv1) rv2 h2
end
abbrev noW : WX := fun _ _ _ _ => False
theorem lcR {X : Cx} {Wx : WX} {fz : Bool} {own : List Nat} {t : Tg} {it : I} {ifs : List T} {e : E} {σ : L2.St} {H : Hp} {Q : VK} (hK : c.K = X.K) (h3 : ∀ i ∈ slots t, i ∈ own) (q : rdE c Wx (den C (.lc fz own t it ifs e)) σ H Q) :
    tLc (rdI c Wx (itr C it)) (gT X.K t) (rdT c noW (ands C ifs)) (rdE c noW (den C e)) own σ H Q := by
  obtain ⟨Φ, ι, S, ρ, R, re, q⟩ := q
  simp only [den] at q
  refine ⟨Φ, ι, S, ρ, R, re, q.bd.imp fun xs Φ1 ι1 S1 H1 e1 R1 q1 J hJ D hD => ?_⟩
  have fz1 : Φ1 D = none := by
    cases z : Φ1 D with
    | none => rfl
    | some o => rw [R1.sub D o z] at hD; cases hD
  have s0 : Stn c D [] Φ1 ι1 S1 (upd H1 D (.lst [])) := ⟨⟨[], upd_same, .nil⟩, fz1, fun z => R1.trk D z hD, by rw [hid_upd hD]; exact R1⟩
  refine turns_ok hJ (hid_upd hD) s0 q1 (Fin := fun H => Q (.ref D) H) (TURN := fun x H' Nx => gT X.K t x (L2.wipe σ own) H' fun σ2 H2 => L2.wipe σ2 own = L2.wipe σ own ∧ rdT c (fun _ _ _ _ => False) (ands C ifs) σ2 H2 fun b H3 =>
    if b = true then rdE c (fun _ _ _ _ => False) (den C e) σ2 H3 fun y H4 => ∃ acc, H4 D = some (.lst acc) ∧ acc.length < sizeLine ∧ Nx (upd H4 D (.lst (acc ++ [y]))) else Nx H3) ?_ ?_
  · intro aw Φ2 ι2 S2 H2 e2 s2 q2
    obtain ⟨av, l1, l2⟩ := s2.li
    have := (newL_ok s2.rel l2 q2).2 D hid_same
    rw [upd_hid l1] at this
    exact this
  · intro w f' aw Φ2 ι2 S2 H2 v Nx e2 s2 rv q2 kn
    rw [Out.bd_assoc] at q2
    cases et : tgW t w (wipeR ρ own) with
    | none => rw [et] at q2; exact q2.elim
    | some ρ2 =>
      rw [et] at q2
      refine gT_ok hK s2.rel.unhid t rv ((e1.le.trans e2.le).env (re.wipe own)) et fun σ2 r2 w2 => ⟨(w2 own h3).trans (wipe_wipe own), Φ2, ι2, S2, ρ2, s2.rel.unhid, r2, ?_⟩
      simp only [ofOpt_some, Out.bd_ok] at q2
      rw [Out.bd_assoc] at q2
      refine (q2.bd.unhid s2.ne s2.fz s2.ni).imp fun b Φ3 ι3 S3 H3 e3 R3 ⟨k1, k2, k3, k4, k5, k6⟩ => ?_
      have s3 : Stn c D aw Φ3 ι3 S3 H3 := (s2.next e3 R3).1
      cases b with
      | false => exact iteF (kn aw Φ3 ι3 S3 H3 k1 s3 k6)
      | true =>
        simp only [if_true] at k6
        rw [Out.bd_assoc] at k6
        refine iteT ⟨Φ3, ι3, S3, ρ2, R3, e3.le.env r2, (k6.bd.unhid s3.ne s3.fz s3.ni).imp fun y Φ4 ι4 S4 H4 e4 R4 ⟨m1, m2, m3, m4, m5, m6⟩ yv ry => ?_⟩
        have s4 : Stn c D aw Φ4 ι4 S4 H4 := (s3.next e4 R4).1
        obtain ⟨av, l1, l2⟩ := s4.li
        unfold push at m6
        split at m6
        · rename_i hz
          refine ⟨av, l1, by rw [← l2.length, sizeLine_eq]; exact hz, ?_⟩
          have s5 := s4.push ry l1
          exact kn _ Φ4 ι4 S4 _ (by rw [hid_upd2]; exact k1.trans m1) s5 (by rw [hid_upd2]; exact m6)
        · exact m6.elim

theorem lcVR {X : Cx} {Wx : WX} {fz : Bool} {own : List Nat} {t : Tg} {ea : E} {ifs : List T} {e : E} {σ : L2.St} {H : Hp} {Q : VK} (hK : c.K = X.K) (h3 : ∀ i ∈ slots t, i ∈ own) (q : rdE c Wx (den C (.lcV fz own t ea ifs e)) σ H Q) :
    tLc (iSeq X.K (rdE c Wx (den C ea))) (gT X.K t) (rdT c noW (ands C ifs)) (rdE c noW (den C e)) own σ H Q := by
  obtain ⟨Φ, ι, S, ρ, R, re, q⟩ := q
  simp only [den] at q
  refine ⟨Φ, ι, S, ρ, R, re, q.bd.imp fun w Φ1 ι1 S1 H1 e1 R1 q1 v rv => ?_⟩
  cases rv with
  | @loc l a hl =>
    simp only [] at q1
    have hex : ∃ vs, SqL X.K H1 a vs := by
      cases hf : C.fuel with
      | zero => rw [hf] at q1; exact q1.elim
      | succ n =>
        rw [hf] at q1
        simp only [turnsD] at q1
        split at q1
        · rename_i ys ey
          obtain ⟨_, vs, s1, t1⟩ := R1.live _ _ _ hl ey
          exact ⟨vs, SqL.of s1⟩
        · exact q1.elim
    refine .inl ⟨a, rfl, hex, fun D hD => ?_⟩
    have fz1 : Φ1 D = none := by
      cases z : Φ1 D with
      | none => rfl
      | some o => rw [R1.sub D o z] at hD; cases hD
    have s0 : Stn c D [] Φ1 ι1 S1 (upd H1 D (.lst [])) := ⟨⟨[], upd_same, .nil⟩, fz1, fun z => R1.trk D z hD, by rw [hid_upd hD]; exact R1⟩
    refine turnsD_ok hK hl (hid_upd hD) s0 q1 (Fin := fun H => Q (.ref D) H) (TURN := fun x H' Nx => gT X.K t x (L2.wipe σ own) H' fun σ2 H2 => L2.wipe σ2 own = L2.wipe σ own ∧ rdT c (fun _ _ _ _ => False) (ands C ifs) σ2 H2 fun b H3 =>
      if b = true then rdE c (fun _ _ _ _ => False) (den C e) σ2 H3 fun y H4 => ∃ acc, H4 D = some (.lst acc) ∧ acc.length < sizeLine ∧ Nx (upd H4 D (.lst (acc ++ [y]))) else Nx H3) ?_ ?_
    · intro aw Φ2 ι2 S2 H2 e2 s2 q2
      obtain ⟨av, l1, l2⟩ := s2.li
      have := (newL_ok s2.rel l2 q2).2 D hid_same
      rw [upd_hid l1] at this
      exact this
    · intro w f' aw Φ2 ι2 S2 H2 v Nx e2 s2 rv q2 kn
      rw [Out.bd_assoc] at q2
      cases et : tgW t w (wipeR ρ own) with
      | none => rw [et] at q2; exact q2.elim
      | some ρ2 =>
        rw [et] at q2
        refine gT_ok hK s2.rel.unhid t rv ((e1.le.trans e2.le).env (re.wipe own)) et fun σ2 r2 w2 => ⟨(w2 own h3).trans (wipe_wipe own), Φ2, ι2, S2, ρ2, s2.rel.unhid, r2, ?_⟩
        simp only [ofOpt_some, Out.bd_ok] at q2
        rw [Out.bd_assoc] at q2
        refine (q2.bd.unhid s2.ne s2.fz s2.ni).imp fun b Φ3 ι3 S3 H3 e3 R3 ⟨k1, k2, k3, k4, k5, k6⟩ => ?_
        have s3 : Stn c D aw Φ3 ι3 S3 H3 := (s2.next e3 R3).1
        cases b with
        | false => exact iteF (kn aw Φ3 ι3 S3 H3 k1 s3 k6)
        | true =>
          simp only [if_true] at k6
          rw [Out.bd_assoc] at k6
          refine iteT ⟨Φ3, ι3, S3, ρ2, R3, e3.le.env r2, (k6.bd.unhid s3.ne s3.fz s3.ni).imp fun y Φ4 ι4 S4 H4 e4 R4 ⟨m1, m2, m3, m4, m5, m6⟩ yv ry => ?_⟩
          have s4 : Stn c D aw Φ4 ι4 S4 H4 := (s3.next e4 R4).1
          obtain ⟨av, l1, l2⟩ := s4.li
          unfold push at m6
          split at m6
          · rename_i hz
            refine ⟨av, l1, by rw [← l2.length, sizeLine_eq]; exact hz, ?_⟩
            have s5 := s4.push ry l1
            exact kn _ Φ4 ι4 S4 _ (by rw [hid_upd2]; exact k1.trans m1) s5 (by rw [hid_upd2]; exact m6)
          · exact m6.elim
  | _ => exact q1.elim
theorem lc2R {X : Cx} {Wx : WX} {fz : Bool} {own : List Nat} {t : Tg} {it : I} {ifs : List T} {own1 : List Nat} {t1 : Tg} {it1 : I} {ifs1 : List T} {e : E} {σ : L2.St} {H : Hp} {Q : VK} (hK : c.K = X.K) (h3 : ∀ i ∈ slots t, i ∈ own) (h3' : ∀ i ∈ slots t1, i ∈ own1) (q : rdE c Wx (den C (.lc2 fz own t it ifs own1 t1 it1 ifs1 e)) σ H Q) :
    tLc2 (rdI c Wx (itr C it)) (gT X.K t) (rdT c noW (ands C ifs)) (rdI c noW (itr C it1)) (gT X.K t1) (rdT c noW (ands C ifs1)) (rdE c noW (den C e)) own own1 σ H Q := by
  obtain ⟨Φ, ι, S, ρ, R, re, q⟩ := q
  simp only [den] at q
  refine ⟨Φ, ι, S, ρ, R, re, q.bd.imp fun xs Φ1 ι1 S1 H1 e1 R1 q1 J hJ D hD => ?_⟩
  have fz1 : Φ1 D = none := by
    cases z : Φ1 D with
    | none => rfl
    | some o => rw [R1.sub D o z] at hD; cases hD
  have s0 : Stn c D [] Φ1 ι1 S1 (upd H1 D (.lst [])) := ⟨⟨[], upd_same, .nil⟩, fz1, fun z => R1.trk D z hD, by rw [hid_upd hD]; exact R1⟩
  refine turns_ok hJ (hid_upd hD) s0 q1 (Fin := fun H => Q (.ref D) H) (TURN := fun x H' Nx => gT X.K t x (L2.wipe σ own) H' fun σ2 H2 => L2.wipe σ2 own = L2.wipe σ own ∧ rdT c (fun _ _ _ _ => False) (ands C ifs) σ2 H2 fun b H3 =>
    if b = true then rdI c (fun _ _ _ _ => False) (itr C it1) σ2 H3 fun J1 H4 => ∃ W1 : Nat → Nat → Hp → Prop, (∃ m, W1 0 m H4) ∧ ∀ j k H, W1 j k H →
      (J1.stop j H ∧ Nx H) ∨ (J1.go j H ∧ ∃ Nx1 : Hp → Prop, (∀ H', Nx1 H' → ∃ k', k' < k ∧ W1 (j + 1) k' H') ∧ ∀ x H', J1.yld j H x H' → gT X.K t1 x (L2.wipe σ2 own1) H' fun σ3 H5 => L2.wipe σ3 own1 = L2.wipe σ2 own1 ∧ rdT c (fun _ _ _ _ => False) (ands C ifs1) σ3 H5 fun b H6 =>
        if b = true then rdE c (fun _ _ _ _ => False) (den C e) σ3 H6 fun y H7 => ∃ acc, H7 D = some (.lst acc) ∧ acc.length < sizeLine ∧ Nx1 (upd H7 D (.lst (acc ++ [y]))) else Nx1 H6)
    else Nx H3) ?_ ?_
  · intro aw Φ2 ι2 S2 H2 e2 s2 q2
    obtain ⟨av, l1, l2⟩ := s2.li
    have := (newL_ok s2.rel l2 q2).2 D hid_same
    rw [upd_hid l1] at this
    exact this
  · intro w f' aw Φ2 ι2 S2 H2 v Nx e2 s2 rv q2 kn
    rw [Out.bd_assoc] at q2
    cases et : tgW t w (wipeR ρ own) with
    | none => rw [et] at q2; exact q2.elim
    | some ρ2 =>
      rw [et] at q2
      refine gT_ok hK s2.rel.unhid t rv ((e1.le.trans e2.le).env (re.wipe own)) et fun σ2 r2 w2 => ⟨(w2 own h3).trans (wipe_wipe own), Φ2, ι2, S2, ρ2, s2.rel.unhid, r2, ?_⟩
      simp only [ofOpt_some, Out.bd_ok] at q2
      rw [Out.bd_assoc] at q2
      refine (q2.bd.unhid s2.ne s2.fz s2.ni).imp fun b Φ3 ι3 S3 H3 e3 R3 ⟨k1, k2, k3, k4, k5, k6⟩ => ?_
      have s3 : Stn c D aw Φ3 ι3 S3 H3 := (s2.next e3 R3).1
      cases b with
      | false => exact iteF (kn aw Φ3 ι3 S3 H3 k1 s3 k6)
      | true =>
        simp only [if_true] at k6
        rw [Out.bd_assoc] at k6
        refine iteT ⟨Φ3, ι3, S3, ρ2, R3, e3.le.env r2, (k6.bd.unhid s3.ne s3.fz s3.ni).imp fun zs Φ4 ι4 S4 H4 e4 R4 ⟨m1, m2, m3, m4, m5, m6⟩ J1 hJ1 => ?_⟩
        have s4 : Stn c D aw Φ4 ι4 S4 H4 := (s3.next e4 R4).1
        refine turns_ok hJ1 rfl s4 m6 (Fin := Nx) (TURN := fun x H' Nx1 => gT X.K t1 x (L2.wipe σ2 own1) H' fun σ3 H5 => L2.wipe σ3 own1 = L2.wipe σ2 own1 ∧ rdT c (fun _ _ _ _ => False) (ands C ifs1) σ3 H5 fun b H6 =>
          if b = true then rdE c (fun _ _ _ _ => False) (den C e) σ3 H6 fun y H7 => ∃ acc, H7 D = some (.lst acc) ∧ acc.length < sizeLine ∧ Nx1 (upd H7 D (.lst (acc ++ [y]))) else Nx1 H6) ?_ ?_
        · intro aw5 Φ5 ι5 S5 H5 e5 s5 q5
          exact kn aw5 Φ5 ι5 S5 H5 ((k1.trans m1).trans e5) s5 q5
        · intro w1 f1 aw5 Φ5 ι5 S5 H5 v5 Nx1 e5 s5 rv5 q5 kn5
          rw [Out.bd_assoc] at q5
          cases et5 : tgW t1 w1 (wipeR ρ2 own1) with
          | none => rw [et5] at q5; exact q5.elim
          | some ρ3 =>
            rw [et5] at q5
            refine gT_ok hK s5.rel.unhid t1 rv5 (((e3.le.trans e4.le).trans e5.le).env (r2.wipe own1)) et5 fun σ3 r3 w3 => ⟨(w3 own1 h3').trans (wipe_wipe own1), Φ5, ι5, S5, ρ3, s5.rel.unhid, r3, ?_⟩
            simp only [ofOpt_some, Out.bd_ok] at q5
            rw [Out.bd_assoc] at q5
            refine (q5.bd.unhid s5.ne s5.fz s5.ni).imp fun b Φ6 ι6 S6 H6 e6 R6 ⟨n1, n2, n3, n4, n5, n6⟩ => ?_
            have s6 : Stn c D aw5 Φ6 ι6 S6 H6 := (s5.next e6 R6).1
            cases b with
            | false => exact iteF (kn5 aw5 Φ6 ι6 S6 H6 n1 s6 n6)
            | true =>
              simp only [if_true] at n6
              rw [Out.bd_assoc] at n6
              refine iteT ⟨Φ6, ι6, S6, ρ3, R6, e6.le.env r3, (n6.bd.unhid s6.ne s6.fz s6.ni).imp fun y Φ7 ι7 S7 H7 e7 R7 ⟨o1, o2, o3, o4, o5, o6⟩ yv ry => ?_⟩
              have s7 : Stn c D aw5 Φ7 ι7 S7 H7 := (s6.next e7 R7).1
              obtain ⟨av, l1, l2⟩ := s7.li
              unfold push at o6
              split at o6
              · rename_i hz
                refine ⟨av, l1, by rw [← l2.length, sizeLine_eq]; exact hz, ?_⟩
                have s8 := s7.push ry l1
                exact kn5 _ Φ7 ι7 S7 _ (by rw [hid_upd2]; exact n1.trans o1) s8 (by rw [hid_upd2]; exact o6)
              · exact o6.elim

def prT (c : Cf) (C : Cn) (Wx : WX) : List E → List (TE × TE)
  | a :: b :: r => (rdE c Wx (den C a), rdE c Wx (den C b)) :: prT c C Wx r
  | _ => []
/-- a display's pairs, the dict set apart -/
theorem prs_ok {β : Type} {Wx : WX} {σ : L2.St} {D : Addr} : ∀ (ps : List E) {Φ H : Hp} {ι : List Addr} {S : Store} {ρ : Rho} {f : List (Key × W) → Store → Out β} {QQ : β → Hp → List Addr → Store → Hp → Prop} {EE : XK} {R : List (V × V) → Hp → Prop}, H D = some (.dK []) → Φ D = none → D ∉ ι → Rel c.K Φ ι S (hid H D) → REnv c.K Φ ι ρ σ → After c Φ ι (hid H D) ((dprs C ps ρ S).bd f) QQ EE →
    (∀ (kvs : List (Key × W)) (us : List (Key × V)) Φ' ι' S' H', Ext Φ ι (hid H D) Φ' ι' (hid H' D) → Φ' D = none → D ∉ ι' → Rel c.K Φ' ι' S' (hid H' D) → H' D = some (.dK []) → RKV c.K Φ' ι' kvs us → After c Φ' ι' (hid H' D) (f kvs S') QQ EE → R (us.map fun kv => (kV kv.1, kv.2)) H') →
    tPairs (prT c C Wx ps) σ H R
  | [], Φ, H, ι, S, ρ, f, QQ, EE, R, hd, f1, f2, r, re, q, fin => fin [] [] Φ ι S H (Ext.refl _ _ _) f1 f2 r hd .nil q
  | [_], Φ, H, ι, S, ρ, f, QQ, EE, R, hd, f1, f2, r, re, q, fin => q.elim
  | a :: b :: as, Φ, H, ι, S, ρ, f, QQ, EE, R, hd, f1, f2, r, re, q, fin => by
    have hne : H D ≠ none := by rw [hd]; simp
    simp only [dprs] at q
    rw [Out.bd_assoc] at q
    show rdE c Wx (den C a) σ H fun x H1 => rdE c Wx (den C b) σ H1 fun y H2 => tPairs (prT c C Wx as) σ H2 fun ps H3 => R ((x, y) :: ps) H3
    refine ⟨Φ, ι, S, ρ, r.unhid, re, (q.bd.unhid hne f1 f2).imp fun w1 Φ1 ι1 S1 H1 e1 R1 ⟨m1, m2, m3, m4, m5, m6⟩ v1 rv1 => ?_⟩
    have hne1 : H1 D ≠ none := by rw [m5]; exact hne
    rw [Out.bd_assoc] at m6
    refine ⟨Φ1, ι1, S1, ρ, R1, re.mono e1, (m6.bd.unhid hne1 m3 m4).imp fun w2 Φ2 ι2 S2 H2 e2 R2 ⟨n1, n2, n3, n4, n5, n6⟩ v2 rv2 => ?_⟩
    cases ek : keyW w1 with
    | none => rw [ek] at n6; exact n6.elim
    | some kk =>
      rw [ek] at n6
      simp only at n6
      rw [Out.bd_assoc] at n6
      have hk := keyW_ok rv1 ek
      subst hk
      refine prs_ok as (by rw [n5, m5]; exact hd) n3 n4 n2 ((re.mono e1).mono e2) n6 fun kvs us Φ3 ι3 S3 H3 e3 g1 g2 R3 hd3 g q3 => ?_
      exact fin ((kk, w2) :: kvs) ((kk, v2) :: us) Φ3 ι3 S3 H3 ((m1.trans n1).trans e3) g1 g2 R3 hd3 (.cons ⟨rfl, e3.rv rv2⟩ g) q3
/-! ### max with a key, tables, texts of parts -/
section
variable {X : Cx} {k : Ck} {Wx : WX}
theorem unl (A : Amb c C X k Wx) : X.A.units + 1 < cLine := Nat.lt_of_le_of_lt (Nat.add_le_add_left (by decide) _) A.un
/-- a tuple of two -/
theorem pair_pe {x y : E} {a b : Expr} {n : Nat} {p : Pos} (hx : PE X a (rdE c Wx (den C x))) (hy : PE X b (rdE c Wx (den C y))) (s1 : notStar a = true) (s2 : notStar b = true) :
    PE X (.Tuple [a, b] n p) (tTup (tCons (rdE c Wx (den C x)) (tCons (rdE c Wx (den C y)) tNil))) :=
  pe_tup (pa_cons hx (pa_cons hy pa_nil (star_cons s2 [] X.env)) (star_cons s1 [b] X.env))
/-- .. and what it asks -/
theorem pair_ask {x y : E} {σ : L2.St} {H : Hp} {Φ : Hp} {ι : List Addr} {S : Store} {ρ : Rho} {α : Type} {f : W → W → Store → Out α} {QQ : α → Hp → List Addr → Store → Hp → Prop} {P : V → Hp → Prop} (R : Rel c.K Φ ι S H) (re : REnv c.K Φ ι ρ σ)
    (q : After c Φ ι H ((den C x ρ S).bd fun u S1 => (den C y ρ S1).bd fun v S2 => f u v S2) QQ (fun cls d H' => Wx cls d σ H'))
    (kn : ∀ u v vu vv Φ1 ι1 S1 H1 p, Le Φ ι Φ1 ι1 → Rel c.K Φ1 ι1 S1 H1 → RV c.K Φ1 ι1 u vu → RV c.K Φ1 ι1 v vv → Φ1 p = some (.tup [vu, vv]) → After c Φ1 ι1 H1 (f u v S1) QQ (fun cls d H' => Wx cls d σ H') → P (.ref p) H1) :
    tTup (tCons (rdE c Wx (den C x)) (tCons (rdE c Wx (den C y)) tNil)) σ H P := by
  refine ⟨Φ, ι, S, ρ, R, re, q.bd.imp fun u Φ1 ι1 S1 H1 e1 R1 q1 vu ru => ⟨Φ1, ι1, S1, ρ, R1, re.mono e1, q1.bd.imp fun v Φ2 ι2 S2 H2 e2 R2 q2 vv rv => ⟨by show 2 ≤ sizeLine; decide, fun p hp => ?_⟩⟩⟩
  obtain ⟨R3, e3⟩ := R2.newF (o := .tup [vu, vv]) hp
  exact kn u v vu vv _ _ _ _ p ((e1.le.trans e2.le).trans e3.le) R3 (e3.rv (e2.rv ru)) (e3.rv rv) upd_same (q2.step e3)
theorem tup2_bV {vu vv : V} {Φ : Hp} {ι : List Addr} {kk : Bool × Str} {u v : W} (h : tpairW u v = some kk) (ru : RV c.K Φ ι u vu) (rv : RV c.K Φ ι v vv) : vu = .bl kk.1 ∧ vv = .str kk.2 ∧ okS kk.2 := by
  obtain ⟨rfl, rfl⟩ := tpair_ok h
  cases ru
  cases rv with
  | str hz => exact ⟨rfl, rfl, hz⟩
/-- a table's value as a plain one -/
theorem tabv_rv {Φ : Hp} {ι : List Addr} {v : Addr} {p : Int × Str} (h : SqT c.K Φ v [.int p.1, .str p.2]) (hp : okS p.2) : RV c.K Φ ι (.tup [.int p.1, .str p.2]) (.ref v) := .tup h (.cons (.int _) (.cons (.str hp) .nil))
/-- the table's lookup -/
theorem tab_get (A : Amb c C X k Wx) {Φ H : Hp} {ι : List Addr} {S : Store} {t : Tab} {v vu vv : V} {u w : W} {p : Addr} {kk : Bool × Str} (R : Rel c.K Φ ι S H) (r : RV c.K Φ ι (.tab t) v) (hp : Φ p = some (.tup [vu, vv])) (hk : tpairW u w = some kk) (ru : RV c.K Φ ι u vu) (rw' : RV c.K Φ ι w vv) :
    ∃ a xs, v = .ref a ∧ TGet X H a p xs (bkOf kk) ∧ ((tfind kk t = none ∧ tabAt xs (bkOf kk) = none) ∨ ∃ pp z, tfind kk t = some pp ∧ tabAt xs (bkOf kk) = some (.ref z) ∧ RV c.K Φ ι (.tup [.int pp.1, .str pp.2]) (.ref z)) := by
  cases r with
  | @tab a xs _ h1 h2 =>
    obtain ⟨e1, e2, e3⟩ := tup2_bV hk ru rw'
    subst e1 e2
    refine ⟨a, xs, rfl, ⟨by rw [← A.hw.1, ← A.hw.2]; exact R.sub _ _ h1, h2.keys R.sub, R.sub _ _ hp⟩, ?_⟩
    rcases h2.at kk with z | ⟨pp, z, z1, z2, z3, z4⟩
    · exact .inl z
    · exact .inr ⟨pp, z, z1, z2, tabv_rv z3 z4⟩
theorem tin_ask (A : Amb c C X k Wx) {ng : Bool} {x y o : E} {σ : L2.St} {H : Hp} {Q : VK} (q : rdE c Wx (den C (.tin ng x y o)) σ H Q) : tOp (fun x y H Q => ∃ a b xs k, x = .ref b ∧ y = .ref a ∧ TGet X H a b xs k ∧ Q (.bl ((tabAt xs k).isSome != ng)) H) (tTup (tCons (rdE c Wx (den C x)) (tCons (rdE c Wx (den C y)) tNil))) (rdE c Wx (den C o)) σ H Q := by
  obtain ⟨Φ, ι, S, ρ, R, re, q⟩ := q
  simp only [den] at q
  refine pair_ask R re q fun u v vu vv Φ1 ι1 S1 H1 p le R1 ru rv hp q1 => ⟨Φ1, ι1, S1, ρ, R1, le.env re, q1.bd.imp fun d Φ2 ι2 S2 H2 e2 R2 q2 dv rd => ?_⟩
  split at q2
  · rename_i t kk hk
    obtain ⟨a0, xs, rfl, g, hh⟩ := tab_get A R2 rd (e2.fz _ _ hp) hk (e2.rv ru) (e2.rv rv)
    refine ⟨a0, p, xs, _, rfl, rfl, g, ?_⟩
    rcases hh with ⟨z1, z2⟩ | ⟨pp, z, z1, z2, _⟩
    · rw [z1] at q2; rw [z2]; exact same_ok R2 (.bl _) q2
    · rw [z1] at q2; rw [z2]; exact same_ok R2 (.bl _) q2
  · exact q2.elim
theorem snd_tin (A : Amb c C X k Wx) {ng : Bool} {x y o : E} {a b r : Expr} {n : Nat} {p pos : Pos} (hx : PE X a (rdE c Wx (den C x))) (hy : PE X b (rdE c Wx (den C y))) (ho : PE X r (rdE c Wx (den C o))) (s1 : notStar a = true) (s2 : notStar b = true) (s3 : notSet r = true) :
    PE X (.Compare (.Tuple [a, b] n p) [if ng = true then .NotIn else .In] [r] pos) (rdE c Wx (den C (.tin ng x y o))) := by
  have key := fun (σ : L2.St) (H : Hp) (Q : VK) (q : rdE c Wx (den C (.tin ng x y o)) σ H Q) => tin_ask A q
  cases ng with
  | false =>
    refine (pe_cmpR (op_tin (unl A)) (pair_pe hx hy s1 s2) ho (marks_set s3)).imp fun σ H Q q => ?_
    have := key σ H Q q
    simpa using this
  | true =>
    refine (pe_cmpR (op_tnotin (unl A)) (pair_pe hx hy s1 s2) ho (marks_set s3)).imp fun σ H Q q => ?_
    have := key σ H Q q
    simpa using this
theorem tin_tst {ng : Bool} {x y o : E} {ρ : Rho} {S : Store} : den C (.tin ng x y o) ρ S = (tst C (.tin ng x y o) ρ S).bd fun b S1 => .ok (.bl b) S1 := by
  simp only [den, tst, Out.bd_assoc]
  congr 1; funext u S1; congr 1; funext v S2; congr 1; funext d S3
  split <;> rfl
theorem snd_tinT (A : Amb c C X k Wx) {ng : Bool} {x y o : E} {a b r : Expr} {n : Nat} {p pos : Pos} (hx : PE X a (rdE c Wx (den C x))) (hy : PE X b (rdE c Wx (den C y))) (ho : PE X r (rdE c Wx (den C o))) (s1 : notStar a = true) (s2 : notStar b = true) (s3 : notSet r = true) :
    PT X (.Compare (.Tuple [a, b] n p) [if ng = true then .NotIn else .In] [r] pos) (rdT c Wx (tst C (.tin ng x y o))) := by
  have up : ∀ (σ : L2.St) (H : Hp) (Q : Bool → Hp → Prop), rdT c Wx (tst C (.tin ng x y o)) σ H Q → rdE c Wx (den C (.tin ng x y o)) σ H (fun z H' => ∃ b, z = .bl b ∧ Q b H') := by
    intro σ H Q ⟨Φ, ι, S, ρ, R, re, q⟩
    refine ⟨Φ, ι, S, ρ, R, re, ?_⟩
    rw [tin_tst]
    revert q
    cases tst C (.tin ng x y o) ρ S with
    | ok b S1 => intro q Φ1 ι1 H1 e1 R1 v rv; cases rv; exact ⟨b, rfl, q Φ1 ι1 H1 e1 R1⟩
    | ex x S1 => exact id
    | no => exact id
  cases ng with
  | false =>
    exact (pt_cmpR (op_tin (unl A)) (pair_pe hx hy s1 s2) ho (marks_set s3)).imp fun σ H Q q => by
      have := tin_ask A (ng := false) (up σ H Q q)
      simp only [Bool.bne_false] at this
      exact this
  | true =>
    exact (pt_cmpR (op_tnotin (unl A)) (pair_pe hx hy s1 s2) ho (marks_set s3)).imp fun σ H Q q => by
      have := tin_ask A (ng := true) (up σ H Q q)
      simp only [Bool.bne_true] at this
      exact this
theorem snd_tix (A : Amb c C X k Wx) {x y o : E} {a b r : Expr} {n : Nat} {p pos : Pos} (hx : PE X a (rdE c Wx (den C x))) (hy : PE X b (rdE c Wx (den C y))) (ho : PE X r (rdE c Wx (den C o))) (s1 : notStar a = true) (s2 : notStar b = true) :
    PE X (.Subscript r (.Tuple [a, b] n p) pos) (rdE c Wx (den C (.tix o x y))) := by
  refine (pe_ix (ix_tab (unl A)) ho (pair_pe hx hy s1 s2) (fun _ _ => rfl)).imp fun σ H Q ⟨Φ, ι, S, ρ, R, re, q⟩ => ?_
  simp only [den] at q
  refine ⟨Φ, ι, S, ρ, R, re, q.bd.imp fun d Φ0 ι0 S0 H0 e0 R0 q0 dv rd => pair_ask R0 (re.mono e0) q0 fun u v vu vv Φ1 ι1 S1 H1 p le R1 ru rv hp q1 => ?_⟩
  split at q1
  · rename_i t kk hk
    obtain ⟨a0, xs, rfl, g, hh⟩ := tab_get A R1 (le.rv rd) hp hk ru rv
    rcases hh with ⟨z1, z2⟩ | ⟨pp, z, z1, z2, z3⟩
    · rw [z1] at q1; exact q1.elim
    · rw [z1] at q1
      exact ⟨a0, p, xs, _, _, rfl, rfl, g, z2, same_ok R1 z3 q1⟩
  · exact q1.elim
/-- the table that is being made -/
def LiT (c : Cf) (D : Addr) : Tab → Hp → List Addr → Hp → Prop := fun aw Φ _ H => ∃ xs, H D = some (TabO Wd.P Wd.w D xs) ∧ TabR c.K Φ aw xs
theorem liT_ok {D : Addr} : LiOk D (LiT c D) := fun aw Φ ι H Φ' ι' H' ⟨xs, h1, h2⟩ le e => ⟨xs, by rw [e]; exact h1, h2.mono le.fz⟩
def LiD (c : Cf) (D : Addr) : List (Key × W) → Hp → List Addr → Hp → Prop := fun aw Φ ι H => ∃ us, H D = some (.dK us) ∧ RKV c.K Φ ι aw us
theorem liD_ok {D : Addr} : LiOk D (LiD c D) := fun aw Φ ι H Φ' ι' H' ⟨xs, h1, h2⟩ le e => ⟨xs, by rw [e]; exact h1, RKV.mono le.fz le.lo h2⟩
theorem tabcR {own : List Nat} {t : Tg} {it : I} {x y e : E} {σ : L2.St} {H : Hp} {Q : VK} (hK : c.K = X.K) (hw : Wd.P = X.prog ∧ Wd.w = X.w) (h3 : ∀ i ∈ slots t, i ∈ own) (q : rdE c Wx (den C (.tabc own t it x y e)) σ H Q) :
    tDcT X (rdI c Wx (itr C it)) (gT X.K t) (tTup (tCons (rdE c noW (den C x)) (tCons (rdE c noW (den C y)) tNil))) (rdE c noW (den C e)) own σ H Q := by
  obtain ⟨Φ, ι, S, ρ, R, re, q⟩ := q
  simp only [den] at q
  refine ⟨Φ, ι, S, ρ, R, re, q.bd.imp fun xs Φ1 ι1 S1 H1 e1 R1 q1 J hJ D hD => ?_⟩
  have fz1 : Φ1 D = none := by
    cases z : Φ1 D with
    | none => rfl
    | some o => rw [R1.sub D o z] at hD; cases hD
  rw [← hw.1, ← hw.2]
  have s0 : StG c D (LiT c D) [] Φ1 ι1 S1 (upd H1 D (TabO Wd.P Wd.w D [])) := ⟨⟨[], upd_same, .nil⟩, by rw [upd_same]; simp, fz1, fun z => R1.trk D z hD, by rw [hid_upd hD]; exact R1⟩
  refine turnsT_ok liT_ok hJ (hid_upd hD) s0 q1 (Fin := fun H => Q (.ref D) H) (TURN := fun x' H' Nx => gT X.K t x' (L2.wipe σ own) H' fun σ2 H2 => L2.wipe σ2 own = L2.wipe σ own ∧ tTup (tCons (rdE c noW (den C x)) (tCons (rdE c noW (den C y)) tNil)) σ2 H2 fun yv H4 =>
    rdE c noW (den C e) σ2 H4 fun z H5 => ∃ xs k b, yv = .ref b ∧ TGet X H5 D b xs k ∧ xs.length < sizeLine ∧ Nx (upd H5 D (TabO Wd.P Wd.w D (tputE xs k b z)))) ?_ ?_
  · intro aw Φ2 ι2 S2 H2 e2 s2 q2
    obtain ⟨av, l1, l2⟩ := s2.li
    obtain ⟨R3, e3⟩ := s2.rel.newF (p := D) (o := TabO Wd.P Wd.w D av) hid_same
    rw [upd_hid l1] at R3 e3
    exact q2 _ _ _ e3 R3 _ (.tab upd_same (l2.mono e3.fz))
  · intro w f' aw Φ2 ι2 S2 H2 v Nx e2 s2 rv q2 kn
    rw [Out.bd_assoc] at q2
    cases et : tgW t w (wipeR ρ own) with
    | none => rw [et] at q2; exact q2.elim
    | some ρ2 =>
      rw [et] at q2
      refine gT_ok hK s2.rel.unhid t rv ((e1.le.trans e2.le).env (re.wipe own)) et fun σ2 r2 w2 => ⟨(w2 own h3).trans (wipe_wipe own), Φ2, ι2, S2, ρ2, s2.rel.unhid, r2, ?_⟩
      simp only [ofOpt_some, Out.bd_ok] at q2
      rw [Out.bd_assoc] at q2
      refine (q2.bd.unhid s2.ne s2.fz s2.ni).imp fun u Φ3 ι3 S3 H3 e3 R3 ⟨k1, k2, k3, k4, k5, k6⟩ vu ru => ?_
      have s3 := (s2.next liT_ok e3 R3).1
      rw [Out.bd_assoc] at k6
      refine ⟨Φ3, ι3, S3, ρ2, R3, e3.le.env r2, (k6.bd.unhid s3.ne s3.fz s3.ni).imp fun v2 Φ4 ι4 S4 H4 e4 R4 ⟨m1, m2, m3, m4, m5, m6⟩ vv rvv => ⟨by show 2 ≤ sizeLine; decide, fun p hp => ?_⟩⟩
      have s4 := (s3.next liT_ok e4 R4).1
      obtain ⟨R5, e5⟩ := R4.newF (o := .tup [vu, vv]) hp
      obtain ⟨s5, e5'⟩ := s4.next liT_ok e5 R5
      have m6 := m6.step e5'
      rw [Out.bd_assoc] at m6
      refine ⟨_, _, _, ρ2, R5, e5.le.env (e4.le.env (e3.le.env r2)), (m6.bd.unhid s5.ne s5.fz s5.ni).imp fun wv Φ6 ι6 S6 H6 e6 R6 ⟨n1, n2, n3, n4, n5, n6⟩ zv rz => ?_⟩
      have s6 := (s5.next liT_ok e6 R6).1
      have hp6 : Φ6 p = some (.tup [vu, vv]) := e6.fz _ _ upd_same
      split at n6
      · rename_i kk pp hkk hpp
        split at n6
        · rename_i hz
          obtain ⟨av, l1, l2⟩ := s6.li
          obtain ⟨f1, f2, f3⟩ := tup2_bV hkk (e6.rv (e5.rv (e4.rv ru))) (e6.rv (e5.rv rvv))
          subst f1 f2
          have ev := tval_ok hpp
          subst ev
          cases rz with
          | @tup az vs _ sz tz =>
            cases tz with
            | cons a1 tz => cases tz with
              | cons a2 tz =>
                cases tz; cases a1
                cases a2 with
                | str hz2 =>
                  have l3 := l2.put kk (b := p) hp6 sz hz2
                  refine ⟨av, bkOf kk, p, rfl, ⟨by rw [← hw.1, ← hw.2]; exact l1, l2.keys R6.sub, R6.sub _ _ hp6⟩, by rw [← l2.len, sizeLine_eq]; exact hz, ?_⟩
                  have s7 : StG c D (LiT c D) (tput kk pp aw) Φ6 ι6 S6 (upd H6 D (TabO Wd.P Wd.w D (tputE av (bkOf kk) p (.ref az)))) := ⟨⟨_, upd_same, l3⟩, by rw [upd_same]; simp, s6.fz, s6.ni, by rw [hid_upd2]; exact s6.rel⟩
                  exact kn _ Φ6 ι6 S6 _ (by rw [hid_upd2]; exact ((k1.trans m1).trans e5').trans n1) s7 (by rw [hid_upd2]; exact n6)
        · exact n6.elim
      · exact n6.elim
theorem dcompR {own : List Nat} {t : Tg} {it : I} {x e : E} {σ : L2.St} {H : Hp} {Q : VK} (hK : c.K = X.K) (h3 : ∀ i ∈ slots t, i ∈ own) (q : rdE c Wx (den C (.dcomp own t it x e)) σ H Q) :
    tDc (rdI c Wx (itr C it)) (gT X.K t) tYes (rdE c noW (den C x)) (rdE c noW (den C e)) own σ H Q := by
  obtain ⟨Φ, ι, S, ρ, R, re, q⟩ := q
  simp only [den] at q
  refine ⟨Φ, ι, S, ρ, R, re, q.bd.imp fun xs Φ1 ι1 S1 H1 e1 R1 q1 J hJ D hD => ?_⟩
  have fz1 : Φ1 D = none := by
    cases z : Φ1 D with
    | none => rfl
    | some o => rw [R1.sub D o z] at hD; cases hD
  have s0 : StG c D (LiD c D) [] Φ1 ι1 S1 (upd H1 D (.dK [])) := ⟨⟨[], upd_same, .nil⟩, by rw [upd_same]; simp, fz1, fun z => R1.trk D z hD, by rw [hid_upd hD]; exact R1⟩
  refine turnsT_ok liD_ok hJ (hid_upd hD) s0 q1 (Fin := fun H => Q (.ref D) H) (TURN := fun x' H' Nx => gT X.K t x' (L2.wipe σ own) H' fun σ2 H2 => L2.wipe σ2 own = L2.wipe σ own ∧ tYes σ2 H2 fun b H3 => if b = true then rdE c noW (den C x) σ2 H3 fun yv H4 =>
    rdE c noW (den C e) σ2 H4 fun z H5 => ∃ kvs k, yv = kV k ∧ H5 D = some (.dK kvs) ∧ kvs.length < sizeLine ∧ Nx (upd H5 D (.dK (putK kvs k z))) else Nx H3) ?_ ?_
  · intro aw Φ2 ι2 S2 H2 e2 s2 q2
    obtain ⟨av, l1, l2⟩ := s2.li
    obtain ⟨R3, e3⟩ := s2.rel.newS (p := D) (ho := .dK av) (o := .dic aw) hid_same ⟨av, by rw [upd_hid l1]; exact l1, RKV.mono (fun _ _ h => h) ⟨[D], rfl⟩ l2⟩
    rw [upd_hid l1] at R3 e3
    exact q2 _ _ _ e3 R3 _ (.loc (by rw [← s2.rel.len, List.getElem?_append_right (Nat.le_refl _)]; simp))
  · intro w f' aw Φ2 ι2 S2 H2 v Nx e2 s2 rv q2 kn
    rw [Out.bd_assoc] at q2
    cases et : tgW t w (wipeR ρ own) with
    | none => rw [et] at q2; exact q2.elim
    | some ρ2 =>
      rw [et] at q2
      refine gT_ok hK s2.rel.unhid t rv ((e1.le.trans e2.le).env (re.wipe own)) et fun σ2 r2 w2 => ⟨(w2 own h3).trans (wipe_wipe own), iteT (B := Nx H2) ?_⟩
      simp only [ofOpt_some, Out.bd_ok] at q2
      rw [Out.bd_assoc] at q2
      refine ⟨Φ2, ι2, S2, ρ2, s2.rel.unhid, r2, (q2.bd.unhid s2.ne s2.fz s2.ni).imp fun u Φ3 ι3 S3 H3 e3 R3 ⟨k1, k2, k3, k4, k5, k6⟩ vu ru => ?_⟩
      have s3 := (s2.next liD_ok e3 R3).1
      rw [Out.bd_assoc] at k6
      refine ⟨Φ3, ι3, S3, ρ2, R3, e3.le.env r2, (k6.bd.unhid s3.ne s3.fz s3.ni).imp fun wv Φ6 ι6 S6 H6 e6 R6 ⟨n1, n2, n3, n4, n5, n6⟩ zv rz => ?_⟩
      have s6 := (s3.next liD_ok e6 R6).1
      split at n6
      · rename_i kk hkk
        split at n6
        · rename_i hz
          obtain ⟨av, l1, l2⟩ := s6.li
          have hv := keyW_ok (e6.rv ru) hkk
          subst hv
          refine ⟨av, kk, rfl, l1, by rw [← Paired.length l2, sizeLine_eq]; exact hz, ?_⟩
          have s7 : StG c D (LiD c D) (dput kk wv aw) Φ6 ι6 S6 (upd H6 D (.dK (putK av kk zv))) := ⟨⟨_, upd_same, dput_ok rz l2⟩, by rw [upd_same]; simp, s6.fz, s6.ni, by rw [hid_upd2]; exact s6.rel⟩
          exact kn _ Φ6 ι6 S6 _ (by rw [hid_upd2]; exact k1.trans n1) s7 (by rw [hid_upd2]; exact n6)
        · exact n6.elim
      · exact n6.elim
/-- an f-text's part -/
def strW : W → Store → Out W
  | .str y, S => .ok (.str y) S
  | _, _ => .no
def rdF (c : Cf) (Wx : WX) (C : Cn) (e : E) : TE := rdE c Wx fun ρ S => (den C e ρ S).bd strW
theorem rdF_fmt {e : E} {σ : L2.St} {H : Hp} {Q : VK} (q : rdF c Wx C e σ H Q) : tFmt (rdE c Wx (den C e)) σ H Q := by
  obtain ⟨Φ, ι, S, ρ, R, re, q⟩ := q
  refine ⟨Φ, ι, S, ρ, R, re, q.bd.imp fun w Φ1 ι1 S1 H1 e1 R1 q1 v rv => ?_⟩
  cases rv with
  | str hz => exact .inl ⟨_, rfl, hz.2, q1.here R1 _ (.str hz)⟩
  | _ => exact q1.elim
theorem rdF_cst {e : E} {σ : L2.St} {H : Hp} {Q : VK} (q : rdF c Wx C e σ H Q) : rdE c Wx (den C e) σ H Q := by
  obtain ⟨Φ, ι, S, ρ, R, re, q⟩ := q
  refine ⟨Φ, ι, S, ρ, R, re, q.bd.imp fun w Φ1 ι1 S1 H1 e1 R1 q1 v rv => ?_⟩
  cases rv with
  | str hz => exact q1.here R1 _ (.str hz)
  | _ => exact q1.elim
theorem fstr_ask : ∀ (es : List E) (acc : Str) {σ : L2.St} {H : Hp} {Φ : Hp} {ι : List Addr} {S : Store} {ρ : Rho} {Q : VK}, okS acc → Rel c.K Φ ι S H → REnv c.K Φ ι ρ σ → After c Φ ι H (fstrD C es acc ρ S) (QV c Q) (fun cls d H' => Wx cls d σ H') →
    tJs (es.map (rdF c Wx C)) acc σ H fun out H1 => Q (.str out) H1
  | [], acc, σ, H, Φ, ι, S, ρ, Q, ha, R, re, q => same_ok R (.str ha) q
  | e :: es, acc, σ, H, Φ, ι, S, ρ, Q, ha, R, re, q => by
    simp only [fstrD] at q
    refine ⟨Φ, ι, S, ρ, R, re, ?_⟩
    have z : ∀ (o : Out W), After c Φ ι H (o.bd fun x S1 => (match x with
        | .str y => if acc.length + y.length ≤ line then fstrD C es (acc ++ y) ρ S1 else .no
        | _ => .no)) (QV c Q) (fun cls d H' => Wx cls d σ H') → After c Φ ι H (o.bd strW) (QV c fun x H1 => ∃ y : Str, x = .str y ∧ (acc ++ y).length ≤ sizeLine ∧ tJs (es.map (rdF c Wx C)) (acc ++ y) σ H1 fun out H1 => Q (.str out) H1) (fun cls d H' => Wx cls d σ H') := by
      intro o q
      cases o with
      | ok x S1 =>
        simp only [Out.bd_ok] at q ⊢
        cases x with
        | str y =>
          simp only at q
          split at q
          · rename_i hz
            intro Φ1 ι1 H1 e1 R1 v rv
            cases rv with
            | str hy =>
              have hl : (acc ++ y).length = acc.length + y.length := by show (acc.cps ++ y.cps).size = _; rw [Array.size_append]; rfl
              have ho := okS_append ha hy (by omega)
              exact ⟨y, rfl, ho.2, fstr_ask es (acc ++ y) ho R1 (re.mono e1) (q.step e1)⟩
          · exact q.elim
        | _ => exact q.elim
      | ex x S1 => exact q
      | no => exact q
    exact z _ q
theorem snd_tget (A : Amb c C X k Wx) {x y o : E} {a b r : Expr} {n : Nat} {p apos cpos : Pos} (hx : PE X a (rdE c Wx (den C x))) (hy : PE X b (rdE c Wx (den C y))) (ho : PE X r (rdE c Wx (den C o))) (s1 : notStar a = true) (s2 : notStar b = true) (h2 : noCall0 r = true) (h5 : (apos.endLine == cpos.line) = true) :
    PE X (.Call (.Attribute r "get" apos) [.Tuple [a, b] n p] [] cpos) (rdE c Wx (den C (.tget o x y))) := by
  have hs : ∀ x ∈ [Expr.Tuple [a, b] n p], notStar x = true := by
    intro x hx
    rw [List.mem_singleton] at hx; rw [hx]; rfl
  have M : M1 X r "get" apos (.Tuple [a, b] n p) cpos := ⟨noSuper h2, hfew_of hs (by simp), h5, by rw [star_all hs]; rfl⟩
  refine (pe_tget (unl A) ho (pair_pe hx hy s1 s2) M).imp fun σ H Q ⟨Φ, ι, S, ρ, R, re, q⟩ => ?_
  simp only [den] at q
  refine ⟨Φ, ι, S, ρ, R, re, q.bd.imp fun d Φ0 ι0 S0 H0 e0 R0 q0 dv rd => ?_⟩
  cases rd with
  | @tab a0 xs t h1 h2 =>
    have rd' : RV c.K Φ0 ι0 (.tab t) (.ref a0) := .tab h1 h2
    refine ⟨a0, xs, rfl, by rw [← A.hw.1, ← A.hw.2]; exact R0.sub _ _ h1, h2.keys R0.sub, pair_ask R0 (re.mono e0) q0 fun u v vu vv Φ1 ι1 S1 H1 p le R1 ru rv hp q1 => ?_⟩
    split at q1
    · rename_i kk hk
      obtain ⟨a1, ys, ea, g, hh⟩ := tab_get A R1 (le.rv rd') hp hk ru rv
      cases ea
      refine ⟨p, ys, _, rfl, g, ?_⟩
      rcases hh with ⟨z1, z2⟩ | ⟨pp, z, z1, z2, z3⟩
      · rw [z1] at q1; rw [z2]; exact same_ok R1 .non q1
      · rw [z1] at q1; rw [z2]; exact same_ok R1 z3 q1
    · exact q1.elim
  | _ => exact q0.elim
end
theorem ck_neg1 {X : Cx} {x : Expr} (h : neg1B x = true) : PE X x (tC (.int (-1))) := by
  cases x with
  | UnaryOp o r p =>
    cases o with
    | USub =>
      cases r with
      | Constant v n p =>
        cases v with
        | int j =>
          simp only [neg1B, decide_eq_true_eq] at h
          subst h
          exact (pe_un un_neg pe_int).imp fun σ H Q q => ⟨1, rfl, q⟩
        | _ => simp [neg1B] at h
      | _ => simp [neg1B] at h
    | _ => simp [neg1B] at h
  | _ => simp [neg1B] at h
theorem neg1_star {x : Expr} (h : neg1B x = true) : notStar x = true := by
  cases x <;> first | rfl | simp [neg1B] at h
mutual
theorem sndE : ∀ (e : E) {X : Cx} {k : Ck} {Wx : WX} (A : Amb c C X k Wx) {x : Expr}, ck k e x = true → PE X x (rdE c Wx (den C e))
  | .var i, X, k, Wx, A, x, h => by
    cases x with
    | Name n p =>
      simp only [ck, Bool.and_eq_true, decide_eq_true_eq] at h
      obtain ⟨p1, p2, p3⟩ := plain_of h.2
      refine (pe_var (by rw [A.N]; exact h.1.1) (A.vis h.1.2) p1 p2).imp fun σ H Q ⟨Φ, ι, S, ρ, R, re, q⟩ => ?_
      simp only [den] at q
      split at q
      · rename_i w e
        obtain ⟨v, h1, h2⟩ := re.2 _ _ e
        exact ⟨v, h1, same_ok R h2 q⟩
      · exact q.elim
    | _ => simp [ck] at h
  | .cint i, X, k, Wx, A, x, h => by
    cases x with
    | Constant v n p =>
      cases v with
      | int j =>
        simp only [ck, decide_eq_true_eq] at h
        subst h
        exact pe_int.imp fun σ H Q ⟨Φ, ι, S, ρ, R, re, q⟩ => same_ok R (.int _) q
      | _ => simp [ck] at h
    | _ => simp [ck] at h
  | .cstr z, X, k, Wx, A, x, h => by
    cases x with
    | Constant v n p =>
      cases v with
      | str j =>
        simp only [ck, Bool.and_eq_true, decide_eq_true_eq, okSB] at h
        obtain ⟨rfl, h2⟩ := h
        exact pe_str.imp fun σ H Q ⟨Φ, ι, S, ρ, R, re, q⟩ => same_ok R (.str h2) q
      | _ => simp [ck] at h
    | _ => simp [ck] at h
  | .cbl b, X, k, Wx, A, x, h => by
    cases x with
    | Constant v n p =>
      cases v with
      | bool j =>
        simp only [ck, decide_eq_true_eq] at h
        subst h
        exact pe_bl.imp fun σ H Q ⟨Φ, ι, S, ρ, R, re, q⟩ => same_ok R (.bl _) q
      | _ => simp [ck] at h
    | _ => simp [ck] at h
  | .cnon, X, k, Wx, A, x, h => by
    cases x with
    | Constant v n p =>
      cases v with
      | none => exact pe_non.imp fun σ H Q ⟨Φ, ι, S, ρ, R, re, q⟩ => same_ok R .non q
      | _ => simp [ck] at h
    | _ => simp [ck] at h
  | .tyc n, X, k, Wx, A, x, h => by
    cases x with
    | Name y p =>
      simp only [ck, Bool.and_eq_true, List.contains_iff_mem] at h
      obtain ⟨⟨⟨h1, h2⟩, h3⟩, h4⟩ := h
      obtain ⟨p1, p2, p3⟩ := plain_of h3
      exact (pe_bltn (v := .ty n) (A.glo h1) (A.free y h2) (tyTab_ok _ h4) rfl p3 p1).imp fun σ H Q ⟨Φ, ι, S, ρ, R, re, q⟩ => same_ok R (.ty _) q
    | _ => simp [ck] at h
  | .glo z, X, k, Wx, A, x, h => by
    cases x with
    | Name y p =>
      simp only [ck, Bool.and_eq_true, List.contains_iff_mem, decide_eq_true_eq] at h
      obtain ⟨⟨⟨rfl, h1⟩, h2⟩, h3⟩ := h
      obtain ⟨p1, p2, p3⟩ := plain_of h3
      cases e : C.gl.gl z with
      | none => exact ⟨fun pins s σ H Q I ⟨Φ, ι, S, ρ, R, re, q⟩ => by simp only [den, e] at q; exact q.elim⟩
      | some w =>
        obtain ⟨u, v, q1, q2, q3⟩ := A.gl z w h2 e
        refine (pe_glob (A.glo h1) q1 q2 p1).imp fun σ H Q ⟨Φ, ι, S, ρ, R, re, q⟩ => ?_
        simp only [den, e] at q
        exact same_ok R (q3 _ _) q
    | _ => simp [ck] at h
  | .tup es, X, k, Wx, A, x, h => by
    cases x with
    | Tuple xs n p =>
      refine (pe_tup (sndA es A (by simpa [ck] using h))).imp fun σ H Q ⟨Φ, ι, S, ρ, R, re, q⟩ => ?_
      simp only [den] at q
      refine ⟨Φ, ι, S, ρ, R, re, q.bd.imp fun ws Φ1 ι1 S1 H1 e1 R1 h1 vs rv => ?_⟩
      split at h1
      · rename_i hz
        exact ⟨by rw [← rv.length, sizeLine_eq]; exact hz, newT_ok R1 rv h1⟩
      · exact h1.elim
    | _ => simp [ck] at h
  | .lst fz es, X, k, Wx, A, x, h => by
    cases x with
    | List xs p =>
      refine (pe_lst (sndA es A (by simpa [ck] using h))).imp fun σ H Q ⟨Φ, ι, S, ρ, R, re, q⟩ => ?_
      simp only [den] at q
      exact ⟨Φ, ι, S, ρ, R, re, q.bd.imp fun ws Φ1 ι1 S1 H1 e1 R1 h1 vs rv => newL_ok R1 rv h1⟩
    | _ => simp [ck] at h
  | .bin fz op a b, X, k, Wx, A, x, h => by
    cases x with
    | BinOp l o r p =>
      simp only [ck, Bool.and_eq_true, decide_eq_true_eq] at h
      obtain ⟨⟨rfl, h1⟩, h2⟩ := h
      refine (pe_op (op_binX A.hK fz op) (sndE a A h1) (sndE b A h2)).imp fun σ H Q ⟨Φ, ι, S, ρ, R, re, q⟩ => ?_
      simp only [den] at q
      exact two_ok R re q fun w1 w2 v1 v2 Φ2 ι2 S2 H2 R2 r1 r2 h2 => ⟨Φ2, ι2, S2, w1, w2, _, R2, r1, r2, h2⟩
    | _ => simp [ck] at h
  | .neg a, X, k, Wx, A, x, h => by
    cases x with
    | UnaryOp o r p =>
      cases o with
      | USub =>
        refine (pe_un un_neg (sndE a A (by simpa [ck] using h))).imp fun σ H Q ⟨Φ, ι, S, ρ, R, re, q⟩ => ?_
        simp only [den] at q
        refine ⟨Φ, ι, S, ρ, R, re, q.bd.imp fun w Φ1 ι1 S1 H1 e1 R1 h1 v rv => ?_⟩
        cases rv with
        | int i => exact ⟨i, rfl, same_ok R1 (.int _) h1⟩
        | _ => exact h1.elim
      | _ => simp [ck] at h
    | _ => simp [ck] at h
  | .not a, X, k, Wx, A, x, h => by
    cases x with
    | UnaryOp o r p =>
      cases o with
      | Not =>
        refine (pe_notT (sndE a A (by simpa [ck] using h))).imp fun σ H Q ⟨Φ, ι, S, ρ, R, re, q⟩ => ?_
        simp only [den] at q
        refine ⟨Φ, ι, S, ρ, R, re, q.bd.imp fun w Φ1 ι1 S1 H1 e1 R1 h1 v rv => ?_⟩
        cases e : truW S1 w with
        | none => rw [e] at h1; exact h1.elim
        | some b =>
          rw [e] at h1
          exact ⟨b, truW_ok A.hK R1 rv e, same_ok R1 (.bl _) h1⟩
      | _ => simp [ck] at h
    | _ => simp [ck] at h
  | .and es, X, k, Wx, A, x, h => by
    cases x with
    | BoolOp o xs p =>
      cases o with
      | And =>
        simp only [ck, Bool.and_eq_true, decide_eq_true_eq] at h
        refine (sndAndV es A h.1 h.2 p).imp fun σ H Q ⟨Φ, ι, S, ρ, R, re, q⟩ => ⟨Φ, ι, S, ρ, R, re, ?_⟩
        simp only [den] at q
        exact q
      | _ => simp [ck] at h
    | _ => simp [ck] at h
  | .or es, X, k, Wx, A, x, h => by
    cases x with
    | BoolOp o xs p =>
      cases o with
      | Or =>
        simp only [ck, Bool.and_eq_true, decide_eq_true_eq] at h
        refine (sndOrV es A h.1 h.2 p).imp fun σ H Q ⟨Φ, ι, S, ρ, R, re, q⟩ => ⟨Φ, ι, S, ρ, R, re, ?_⟩
        simp only [den] at q
        exact q
      | _ => simp [ck] at h
    | _ => simp [ck] at h
  | .cmp op a b, X, k, Wx, A, x, h => by
    cases x with
    | Compare l os rs p =>
      match os, rs, h with
      | [o], [r], h =>
        simp only [ck, Bool.and_eq_true, decide_eq_true_eq] at h
        obtain ⟨⟨rfl, h1⟩, h2⟩ := h
        refine (pe_cmpR (op_cmpX A.hK A.un op) (sndE a A h1) (sndE b A h2) (marks_set (ck_set h2))).imp fun σ H Q ⟨Φ, ι, S, ρ, R, re, q⟩ => ?_
        simp only [den] at q
        refine two_ok R re q fun w1 w2 v1 v2 Φ2 ι2 S2 H2 R2 r1 r2 h2 => ⟨Φ2, ι2, S2, w1, w2, _, R2, r1, r2, h2.bd.imp fun b Φ3 ι3 S3 H3 e3 R3 h3 => same_ok R3 (.bl _) h3⟩
      | [], _, h => simp [ck] at h
      | [_], [], h => simp [ck] at h
      | [_], _ :: _ :: _, h => simp [ck] at h
      | _ :: _ :: _, _, h => simp [ck] at h
    | _ => simp [ck] at h
  | .ch o1 o2 a b d, X, k, Wx, A, x, h => by
    cases x with
    | Compare l os rs p =>
      match os, rs, h with
      | [p1, p2], [m, r], h =>
        simp only [ck, Bool.and_eq_true, decide_eq_true_eq] at h
        obtain ⟨⟨⟨⟨rfl, rfl⟩, h1⟩, h2⟩, h3⟩ := h
        refine (pe_chain (op_cmpX A.hK A.un o1) (op_cmpX A.hK A.un o2) (sndE a A h1) (sndE b A h2) (sndE d A h3) (by show behindInMarks o2 r = false; exact marks_set (ck_set h3))).imp fun σ H Q ⟨Φ, ι, S, ρ, R, re, q⟩ => ?_
        simp only [den] at q
        refine ⟨Φ, ι, S, ρ, R, re, q.bd.imp fun w1 Φ1 ι1 S1 H1 e1 R1 q1 v1 rv1 => ?_⟩
        refine ⟨Φ1, ι1, S1, ρ, R1, re.mono e1, q1.bd.imp fun w2 Φ2 ι2 S2 H2 e2 R2 q2 v2 rv2 => ?_⟩
        refine ⟨Φ2, ι2, S2, w1, w2, _, R2, e2.rv rv1, rv2, q2.bd.imp fun t Φ3 ι3 S3 H3 e3 R3 q3 => ?_⟩
        refine ⟨t, rfl, ?_⟩
        cases t with
        | false => exact iteF (same_ok R3 (.bl _) q3)
        | true =>
          rw [if_pos rfl] at q3
          refine iteT ⟨Φ3, ι3, S3, ρ, R3, ((re.mono e1).mono e2).mono e3, q3.bd.imp fun w3 Φ4 ι4 S4 H4 e4 R4 q4 v3 rv3 => ?_⟩
          exact ⟨Φ4, ι4, S4, w2, w3, _, R4, e4.rv (e3.rv rv2), rv3, q4.bd.imp fun b Φ5 ι5 S5 H5 e5 R5 q5 => same_ok R5 (.bl _) q5⟩
      | [], _, h => simp [ck] at h
      | [_], [], h => simp [ck] at h
      | [_], [_], h => simp [ck] at h
      | [_], _ :: _ :: _, h => simp [ck] at h
      | [_, _], [], h => simp [ck] at h
      | [_, _], [_], h => simp [ck] at h
      | [_, _], _ :: _ :: _ :: _, h => simp [ck] at h
      | _ :: _ :: _ :: _, _, h => simp [ck] at h
    | _ => simp [ck] at h
  | .ch3 o1 o2 o3 a b d g, X, k, Wx, A, x, h => by
    cases x with
    | Compare l os rs p =>
      match os, rs, h with
      | [p1, p2, p3], [m, r, z], h =>
        simp only [ck, Bool.and_eq_true, decide_eq_true_eq] at h
        obtain ⟨⟨⟨⟨⟨⟨rfl, rfl⟩, rfl⟩, h1⟩, h2⟩, h3⟩, h4⟩ := h
        refine (pe_chain3 (op_cmpX A.hK A.un o1) (op_cmpX A.hK A.un o2) (op_cmpX A.hK A.un o3) (sndE a A h1) (sndE b A h2) (sndE d A h3) (sndE g A h4) (by show behindInMarks o3 z = false; exact marks_set (ck_set h4))).imp fun σ H Q ⟨Φ, ι, S, ρ, R, re, q⟩ => ?_
        simp only [den] at q
        refine ⟨Φ, ι, S, ρ, R, re, q.bd.imp fun w1 Φ1 ι1 S1 H1 e1 R1 q1 v1 rv1 => ?_⟩
        refine ⟨Φ1, ι1, S1, ρ, R1, re.mono e1, q1.bd.imp fun w2 Φ2 ι2 S2 H2 e2 R2 q2 v2 rv2 => ?_⟩
        refine ⟨Φ2, ι2, S2, w1, w2, _, R2, e2.rv rv1, rv2, q2.bd.imp fun t Φ3 ι3 S3 H3 e3 R3 q3 => ?_⟩
        refine ⟨t, rfl, ?_⟩
        cases t with
        | false => exact iteF (same_ok R3 (.bl _) q3)
        | true =>
          rw [if_pos rfl] at q3
          have re3 := ((re.mono e1).mono e2).mono e3
          refine iteT ⟨Φ3, ι3, S3, ρ, R3, re3, q3.bd.imp fun w3 Φ4 ι4 S4 H4 e4 R4 q4 v3 rv3 => ?_⟩
          refine ⟨Φ4, ι4, S4, w2, w3, _, R4, e4.rv (e3.rv rv2), rv3, q4.bd.imp fun t Φ5 ι5 S5 H5 e5 R5 q5 => ?_⟩
          refine ⟨t, rfl, ?_⟩
          cases t with
          | false => exact iteF (same_ok R5 (.bl _) q5)
          | true =>
            rw [if_pos rfl] at q5
            refine iteT ⟨Φ5, ι5, S5, ρ, R5, (re3.mono e4).mono e5, q5.bd.imp fun w4 Φ6 ι6 S6 H6 e6 R6 q6 v4 rv4 => ?_⟩
            exact ⟨Φ6, ι6, S6, w3, w4, _, R6, e6.rv (e5.rv rv3), rv4, q6.bd.imp fun b Φ7 ι7 S7 H7 e7 R7 q7 => same_ok R7 (.bl _) q7⟩
      | [], _, h => simp [ck] at h
      | [_], _, h => simp [ck] at h
      | [_, _], _, h => simp [ck] at h
      | [_, _, _], [], h => simp [ck] at h
      | [_, _, _], [_], h => simp [ck] at h
      | [_, _, _], [_, _], h => simp [ck] at h
      | [_, _, _], _ :: _ :: _ :: _ :: _, h => simp [ck] at h
      | _ :: _ :: _ :: _ :: _, _, h => simp [ck] at h
    | _ => simp [ck] at h
  | .ife t a b, X, k, Wx, A, x, h => by
    cases x with
    | IfExp t' x' y p =>
      simp only [ck, Bool.and_eq_true] at h
      refine (pe_ifExp (sndT t A h.1.1) (sndE a A h.1.2) (sndE b A h.2)).imp fun σ H Q ⟨Φ, ι, S, ρ, R, re, q⟩ => ?_
      simp only [den] at q
      refine ⟨Φ, ι, S, ρ, R, re, q.bd.imp fun d Φ1 ι1 S1 H1 e1 R1 h1 => ?_⟩
      cases d with
      | true =>
        rw [if_pos rfl] at h1
        exact iteT ⟨Φ1, ι1, S1, ρ, R1, re.mono e1, h1⟩
      | false =>
        rw [if_neg Bool.false_ne_true] at h1
        exact iteF ⟨Φ1, ι1, S1, ρ, R1, re.mono e1, h1⟩
    | _ => simp [ck] at h
  | .call f es, X, k, Wx, A, x, h => by
    cases x with
    | Call g xs kws p =>
      cases g with
      | Name y py =>
        cases kws with
        | nil =>
          simp only [ck, Bool.and_eq_true, List.contains_iff_mem, decide_eq_true_eq] at h
          obtain ⟨⟨⟨⟨rfl, h1⟩, h2⟩, h3⟩, h4⟩ := h
          obtain ⟨p1, p2, p3⟩ := plain_of h3
          obtain ⟨a, fd, ps, n, m1, m0, m2, F, rm, _, bd⟩ := A.call f h2
          have hA := sndA es A h4
          have key : PE X (.Call (.Name f py) xs [] p) (tCallS (spF c (C.fn f)) (fun σ => WE Wx σ) (rdA c Wx (dens C es))) := by
            cases xs with
            | nil =>
              cases es with
              | nil =>
                refine (pe_call0S F rm (A.glo h1) m1 m2 bd (fun σ => passAt A.tk σ) p1).imp fun σ H Q ⟨Φ, ι, S, ρ, R, re, q⟩ => ?_
                exact q.here R [] .nil
              | cons a b => simp [cks] at h4
            | cons x0 xs =>
              exact pe_callS F rm (A.glo h1) m1 m2 bd (fun σ => passAt A.tk σ) hA p1 (star_cons (cks_star h4 x0 List.mem_cons_self) _ _) (star_none fun z hz => cks_star h4 z (List.mem_cons_of_mem _ hz))
          refine key.imp fun σ H Q ⟨Φ, ι, S, ρ, R, re, q⟩ => ?_
          simp only [den] at q
          exact ⟨Φ, ι, S, ρ, R, re, q.bd.imp fun ws Φ1 ι1 S1 H1 e1 R1 h1 vs rv => ⟨Φ1, ι1, S1, ws, R1, rv, h1⟩⟩
        | cons _ _ => simp [ck] at h
      | _ => simp [ck] at h
    | _ => simp [ck] at h
  | .kcall f es q e, X, k, Wx, A, x, h => by
    match x, h with
    | .Call (.Name y py) xs [⟨some y', z, kp⟩] p, h =>
      simp only [ck, Bool.and_eq_true, decide_eq_true_eq, List.any_eq_true] at h
      obtain ⟨⟨⟨⟨⟨⟨⟨rfl, h1⟩, t, ht, e1, e2⟩, h3⟩, rfl⟩, h4⟩, h5⟩, h6⟩ := h
      obtain ⟨p1, p2, p3⟩ := plain_of h3
      obtain ⟨a, fd, ps, n, m, m1, m2, F, rm, hl, _, kb⟩ := A.kcall t ht
      rw [e1] at m1 F
      rw [e2] at kb
      have hA := sndA es A h4
      have hE := sndE e A h6
      cases xs with
      | nil => exact absurd rfl h5
      | cons x0 xs =>
        refine (pe_callNS F rm (A.glo h1) m1 m2 kb (fun σ => passAt A.tk σ) hl hA hE p1 (star_cons (cks_star h4 x0 List.mem_cons_self) _ _) (star_none fun z hz => cks_star h4 z hz)).imp fun σ H Q ⟨Φ, ι, S, ρ, R, re, q1⟩ => ?_
        simp only [den] at q1
        refine ⟨Φ, ι, S, ρ, R, re, q1.bd.imp fun ws Φ1 ι1 S1 H1 e3 R1 h2 vs rv => ?_⟩
        exact ⟨Φ1, ι1, S1, ρ, R1, re.mono e3, h2.bd.imp fun w Φ2 ι2 S2 H2 e4 R2 h3 v rv2 => ⟨Φ2, ι2, S2, ws ++ [w], R2, (e4.rvs rv).append (.cons rv2 .nil), h3⟩⟩
  | .dcall f es d, X, k, Wx, A, x, h => by
    match x, h with
    | .Call (.Name y py) xs [] p, h =>
      simp only [ck, Bool.and_eq_true, decide_eq_true_eq, List.any_eq_true] at h
      obtain ⟨⟨⟨⟨⟨rfl, h1⟩, t, ht, e1, e2⟩, h3⟩, h4⟩, h5⟩ := h
      obtain ⟨p1, p2, p3⟩ := plain_of h3
      obtain ⟨a, fd, ps, n, m, m1, m2, F, rm, hl, ⟨ds, vd, bd⟩, _⟩ := A.kcall t ht
      rw [e1] at m1 F
      rw [e2] at vd
      have hA := sndA es A h4
      cases xs with
      | nil => exact absurd rfl h5
      | cons x0 xs =>
        refine (pe_callSD F rm (A.glo h1) m1 m2 bd vd (fun σ => passAt A.tk σ) hA p1 (star_cons (cks_star h4 x0 List.mem_cons_self) _ _) (star_none fun z hz => cks_star h4 z (List.mem_cons_of_mem _ hz))).imp fun σ H Q ⟨Φ, ι, S, ρ, R, re, q⟩ => ?_
        simp only [den] at q
        exact ⟨Φ, ι, S, ρ, R, re, q.bd.imp fun ws Φ1 ι1 S1 H1 e1 R1 h1 vs rv => ⟨Φ1, ι1, S1, ws ++ [.int d], R1, rv.append (.cons (.int _) .nil), h1⟩⟩
  | .bi b es, X, k, Wx, A, x, h => by
    cases x with
    | Call g xs kws p =>
      cases g with
      | Name y py =>
        cases kws with
        | nil =>
          simp only [ck, Bool.and_eq_true, List.contains_iff_mem, decide_eq_true_eq] at h
          obtain ⟨⟨⟨⟨rfl, h1⟩, h2⟩, h3⟩, h4⟩ := h
          cases xs with
          | nil => exact absurd rfl h4
          | cons x0 xs =>
            have hA := sndA es A h3
            obtain ⟨p1, p2⟩ := biN_plain b
            have hb := bi_ok (c := c) A.hK A.calm b
            have s1 := star_cons (cks_star h3 x0 List.mem_cons_self) xs X.env
            have s2 := star_none (env := X.env) (pos := p) fun z hz => cks_star h3 z (List.mem_cons_of_mem _ hz)
            have hv := biN_ok b
            have key : PE X (.Call (.Name (biN b) py) (x0 :: xs) [] p) (tCB (rWs c (biW b)) (rdA c Wx (dens C es))) := by
              cases e : biV b with
              | builtin id => rw [e] at hb hv; exact pe_callB hb (A.glo h1) (A.free _ h2) hv hA p1 p2 s1 s2
              | type T => rw [e] at hb hv; exact pe_callTy hb (A.glo h1) (A.free _ h2) hv hA p1 p2 s1 s2
              | _ => cases b <;> cases e
            refine key.imp fun σ H Q ⟨Φ, ι, S, ρ, R, re, q⟩ => ?_
            simp only [den] at q
            exact ⟨Φ, ι, S, ρ, R, re, q.bd.imp fun ws Φ1 ι1 S1 H1 e1 R1 h1 vs rv => ⟨Φ1, ι1, S1, ws, _, R1, rv, h1⟩⟩
        | cons _ _ => simp [ck] at h
      | _ => simp [ck] at h
    | _ => simp [ck] at h
  | .mt m o es, X, k, Wx, A, x, h => by
    cases x with
    | Call g xs kws p =>
      cases g with
      | Attribute e a apos =>
        cases kws with
        | nil =>
          simp only [ck, Bool.and_eq_true, decide_eq_true_eq] at h
          obtain ⟨⟨⟨⟨⟨rfl, h1⟩, h2⟩, h3⟩, h4⟩, h5⟩ := h
          obtain ⟨f1, f2, f3⟩ := mt_facts m
          have hA := sndA es A h3
          cases xs with
          | nil =>
            cases es with
            | cons a b => simp [cks] at h3
            | nil =>
              refine (pe_bm0 f1 f2 f3 (mt_ok (c := c) A.hK A.un m) (sndE o A h1) (noSuper h2) h5).imp fun σ H Q ⟨Φ, ι, S, ρ, R, re, q⟩ => ?_
              simp only [den] at q
              refine ⟨Φ, ι, S, ρ, R, re, q.bd.imp fun w Φ1 ι1 S1 H1 e1 R1 h1 v rv => ?_⟩
              split at h1
              · rename_i hty
                exact ⟨A.hK ▸ tyV_ok m R1 rv hty, Φ1, ι1, S1, w, [], _, R1, rv, .nil, h1⟩
              · exact h1.elim
          | cons x0 xs =>
            refine (pe_bm f1 f2 f3 (mt_ok (c := c) A.hK A.un m) (sndE o A h1) hA (noSuper h2) (hfew_of (cks_star h3) h4) h5 (star_cons (cks_star h3 x0 List.mem_cons_self) xs X.env) (star_none fun z hz => cks_star h3 z (List.mem_cons_of_mem _ hz))).imp fun σ H Q ⟨Φ, ι, S, ρ, R, re, q⟩ => ?_
            simp only [den] at q
            refine ⟨Φ, ι, S, ρ, R, re, q.bd.imp fun w Φ1 ι1 S1 H1 e1 R1 h1 v rv => ?_⟩
            split at h1
            · rename_i hty
              exact ⟨A.hK ▸ tyV_ok m R1 rv hty, Φ1, ι1, S1, ρ, R1, re.mono e1, h1.bd.imp fun ws Φ2 ι2 S2 H2 e2 R2 h2 vs rvs => ⟨Φ2, ι2, S2, w, ws, _, R2, e2.rv rv, rvs, h2⟩⟩
            · exact h1.elim
        | cons _ _ => simp [ck] at h
      | _ => simp [ck] at h
    | _ => simp [ck] at h
  | .ix o i, X, k, Wx, A, x, h => by
    cases x with
    | Subscript a b p =>
      simp only [ck, Bool.and_eq_true] at h
      refine (pe_ix (ix_X (c := c) A.hK A.un) (sndE o A h.1) (sndE i A h.2) (plainIx (ck_slice h.2))).imp fun σ H Q ⟨Φ, ι, S, ρ, R, re, q⟩ => ?_
      simp only [den] at q
      exact two_ok R re q fun w1 w2 v1 v2 Φ2 ι2 S2 H2 R2 r1 r2 h2 => ⟨Φ2, ι2, S2, w1, w2, _, R2, r1, r2, h2⟩
    | _ => simp [ck] at h
  | .sl fz o lo hi, X, k, Wx, A, x, h => by
    cases x with
    | Subscript a b p =>
      cases b with
      | Slice l u st q =>
        cases st with
        | none =>
          simp only [ck, Bool.and_eq_true] at h
          refine (pe_slice (sl_X (c := c) A.hK fz) (sndE o A h.1.1) (sndO lo A h.1.2) (sndO hi A h.2)).imp fun σ H Q ⟨Φ, ι, S, ρ, R, re, q⟩ => ?_
          simp only [den] at q
          refine ⟨Φ, ι, S, ρ, R, re, q.bd.imp fun w1 Φ1 ι1 S1 H1 e1 R1 q1 v1 rv1 => ?_⟩
          refine ⟨Φ1, ι1, S1, ρ, R1, re.mono e1, q1.bd.imp fun l Φ2 ι2 S2 H2 e2 R2 q2 => ?_⟩
          refine ⟨Φ2, ι2, S2, ρ, R2, (re.mono e1).mono e2, q2.bd.imp fun u Φ3 ι3 S3 H3 e3 R3 q3 => ?_⟩
          exact ⟨Φ3, ι3, S3, w1, _, R3, e3.rv (e2.rv rv1), q3⟩
        | some _ => simp [ck] at h
      | _ => simp [ck] at h
    | _ => simp [ck] at h
  | .gix z i, X, k, Wx, A, x, h => by
    cases x with
    | Subscript a b p =>
      cases a with
      | Name y py =>
        simp only [ck, Bool.and_eq_true, List.contains_iff_mem, decide_eq_true_eq] at h
        obtain ⟨⟨⟨⟨rfl, h1⟩, h2⟩, h3⟩, h4⟩ := h
        obtain ⟨p1, p2, p3⟩ := plain_of h3
        obtain ⟨a, q1, q2, _⟩ := A.gd z h2
        refine (pe_ix ix_kdict (pe_glob (v := .ref a) (A.glo h1) q1 rfl p1) (sndE i A h4) (plainIx (ck_slice h4))).imp fun σ H Q ⟨Φ, ι, S, ρ, R, re, q⟩ => ?_
        simp only [den] at q
        refine ⟨Φ, ι, S, ρ, R, re, q.bd.imp fun w1 Φ1 ι1 S1 H1 e1 R1 q3 v1 rv1 => ?_⟩
        cases rv1 with
        | str hz =>
          simp only [] at q3
          rename_i xz
          cases e : lkS xz (C.gl.gd z) with
          | none => rw [e] at q3; exact q3.elim
          | some w =>
            rw [e] at q3
            obtain ⟨v, g1, g2⟩ := q2 _ w e
            exact ⟨a, xz, v, rfl, rfl, g1, same_ok R1 (g2 _ _) q3⟩
        | _ => exact q3.elim
      | _ => simp [ck] at h
    | _ => simp [ck] at h
  | .calv i es, X, k, Wx, A, x, h => by
    cases x with
    | Call g xs kws p =>
      cases g with
      | Name y py =>
        cases kws with
        | nil =>
          simp only [ck, Bool.and_eq_true, decide_eq_true_eq] at h
          obtain ⟨⟨⟨⟨⟨h0, h1⟩, h2⟩, h3⟩, h4⟩, hkf⟩ := h
          have hkf := List.isEmpty_iff.mp hkf
          obtain ⟨p1, p2, p3⟩ := plain_of h2
          cases xs with
          | nil => exact absurd rfl h4
          | cons x0 xs =>
            have hA := sndA es A h3
            refine ⟨fun pins s σ H Q I ⟨Φ, ι, S, ρ, R, re, q⟩ => ?_⟩
            simp only [den] at q
            split at q
            · rename_i f ef
              split at q
              · rename_i hh
                obtain ⟨a, fd, ps, n, m1, m0, m2, F, rm, _, bd⟩ := A.call f (A.nofn hkf f hh)
                obtain ⟨v, v1, v2⟩ := re.2 i (.fn f) ef
                cases v2
                refine (pe_callLS (i := i) F rm (by rw [A.N]; exact h0) (A.vis h1) m2 bd (fun σ => passAt A.tk σ) hA p1 p2 (star_cons (cks_star h3 x0 List.mem_cons_self) _ _) (star_none fun z hz => cks_star h3 z (List.mem_cons_of_mem _ hz))).run pins s σ H Q I ⟨by rw [m0]; exact v1, ?_⟩
                exact ⟨Φ, ι, S, ρ, R, re, q.bd.imp fun ws Φ1 ι1 S1 H1 e1 R1 h1 vs rv => ⟨Φ1, ι1, S1, ws, R1, rv, h1⟩⟩
              · exact q.elim
            · exact q.elim
        | cons _ _ => simp [ck] at h
      | _ => simp [ck] at h
    | _ => simp [ck] at h
  | .dead, X, k, Wx, A, x, h => ⟨fun pins s σ H Q I ⟨Φ, ι, S, ρ, R, re, q⟩ => (show False from q).elim⟩
  | .lrng fz a, X, k, Wx, A, x, h => by
    match x, h with
    | .Call (.Name x _) [.Call (.Name y _) [e] [] _] [] _, h =>
      simp only [ck, Bool.and_eq_true, decide_eq_true_eq, List.contains_iff_mem] at h
      obtain ⟨⟨⟨⟨⟨⟨rfl, h1⟩, h2⟩, rfl⟩, h3⟩, h4⟩, h5⟩ := h
      refine (pe_listRg A.calm (A.glo h1) (A.free _ h2) (prg_1 (A.glo h3) (A.free _ h4) (sndE a A h5) (star_cons (ck_star h5) [] X.env))).imp fun σ H Q ⟨Φ, ι, S, ρ, R, re, q⟩ => ?_
      simp only [den] at q
      refine ⟨Φ, ι, S, ρ, R, re, q.bd.imp fun w1 Φ1 ι1 S1 H1 e1 R1 q1 v1 rv1 => ?_⟩
      cases rv1 with
      | int j =>
        simp only at q1
        split at q1
        · rename_i hs
          have hl : (rangeW 0 j).length ≤ line := by
            unfold newL at q1
            split at q1
            · assumption
            · exact q1.elim
          have hl2 : j.toNat ≤ 16777216 := by simpa [rangeW] using hl
          refine ⟨j, rfl, ⟨by omega, by omega, hs.1, hs.2, by omega⟩, ?_⟩
          have e : rangeW 0 j = ((List.range (j - 0).toNat).map fun i => (0 : Int) + (i : Nat)).map W.int := by
            simp [rangeW]
          have e2 : rgV 0 j = ((List.range (j - 0).toNat).map fun i => (0 : Int) + (i : Nat)).map V.int := by
            simp [rgV]
          rw [e] at q1
          rw [e2]
          exact (newL_ok R1 RVs.of_ints q1).2
        · exact q1.elim
      | _ => exact q1.elim
  | .lzip fz a b, X, k, Wx, A, x, h => by
    match x, h with
    | .Call (.Name x _) [.Call (.Name y _) [e, f] [] _] [] _, h =>
      simp only [ck, Bool.and_eq_true, decide_eq_true_eq, List.contains_iff_mem] at h
      obtain ⟨⟨⟨⟨⟨⟨⟨rfl, h1⟩, h2⟩, rfl⟩, h3⟩, h4⟩, h5⟩, h6⟩ := h
      have st := star_cons (ck_star h5) [f] X.env
      have st2 := star_cons (ck_star h6) [] X.env
      refine (pe_listZip A.calm (A.glo h1) (A.free _ h2) (A.glo h3) (A.free _ h4) (pa_cons (sndE a A h5) (pa_cons (sndE b A h6) pa_nil st2) st) st (by rw [st2]; rfl)).imp fun σ H Q ⟨Φ, ι, S, ρ, R, re, q⟩ => ?_
      simp only [den] at q
      refine two_ok R re q fun w1 w2 v1 v2 Φ2 ι2 S2 H2 R2 r1 r2 q2 => ?_
      cases r1 with
      | lst s t =>
        cases r2 with
        | lst s' t' =>
          refine ⟨_, _, _, _, rfl, SqL.of (R2.sub _ _ s), SqL.of (R2.sub _ _ s'), fun as S0 hn h7 h8 h9 hl => ?_⟩
          obtain ⟨R3, e3, rv⟩ := zip_rel R2 t t' as hn h7 hl
          have hS0 : ∀ ps, putP H2 as ps S0 = none := fun ps => by rw [putP_off _ _ _ h9]; exact h8
          exact (newL_ok R3 rv (q2.step e3)).2 S0 (hS0 _)
        | _ => exact q2.elim
      | _ => exact q2.elim
  | .maxk a g, X, k, Wx, A, x, h => by
    simp only [ck] at h
    split at h
    case h_2 => cases h
    rename_i x px e y w pw kp pos
    simp only [Bool.and_eq_true, decide_eq_true_eq, List.contains_iff_mem] at h
    obtain ⟨⟨⟨⟨⟨⟨⟨⟨rfl, h1⟩, h2⟩, rfl⟩, rfl⟩, h5⟩, h6⟩, h7⟩, h8⟩ := h
    obtain ⟨a', fd, ps, n, m1, m0, m2, F, rm, rm1, bd⟩ := A.call _ h6
    obtain ⟨p1, p2, p3⟩ := plain_of h7
    have hst := star_cons (ck_star h8) [] X.env
    refine (pe_callBK (call_maxKey F rm1 bd A.calm) (A.glo h1) (A.free _ h2) (by decide +kernel) (pa_cons (sndE a A h8) pa_nil hst) (pk_cons (pe_glob (v := .ref a') (A.glo h5) m1 rfl p1) pk_nil) (by decide) (by decide) (by rw [hst]; rfl) (by rw [hst]; rfl) rfl rfl rfl).imp fun σ H Q ⟨Φ, ι, S, ρ, R, re, q⟩ => ?_
    simp only [den] at q
    refine ⟨Φ, ι, S, ρ, R, re, q.bd.imp fun w1 Φ1 ι1 S1 H1 e1 R1 q1 v1 rv1 => ?_⟩
    cases rv1 with
    | lst s t => exact A.hK ▸ maxk_ask R1 s t q1
    | _ => exact q1.elim
  | .lens a, X, k, Wx, A, x, h => by
    simp only [ck] at h
    split at h
    case h_2 => cases h
    rename_i x px y py e p3 pos
    simp only [Bool.and_eq_true, decide_eq_true_eq, List.contains_iff_mem] at h
    obtain ⟨⟨⟨⟨⟨⟨rfl, h1⟩, h2⟩, rfl⟩, h3⟩, h4⟩, h8⟩ := h
    have hst := star_cons (ck_star h8) [] X.env
    refine (pe_lens A.calm (A.glo h1) (A.free _ h2) (A.glo h3) (A.free _ h4) (sndE a A h8) hst).imp fun σ H Q ⟨Φ, ι, S, ρ, R, re, q⟩ => ?_
    simp only [den] at q
    refine ⟨Φ, ι, S, ρ, R, re, q.bd.imp fun w1 Φ1 ι1 S1 H1 e1 R1 q1 v1 rv1 => ?_⟩
    cases rv1 with
    | lst s t =>
      simp only [] at q1
      split at q1
      · rename_i ys e2
        split at q1
        · rename_i hlt
          obtain ⟨rfl, _⟩ := strs_ok t e2
          exact ⟨_, ys, rfl, SqL.of (R1.sub _ _ s), hlt, same_ok R1 (.int _) q1⟩
        · exact q1.elim
      · exact q1.elim
    | _ => exact q1.elim
  | .tnew, X, k, Wx, A, x, h => by
    match x, h with
    | .Dict [] [] _, _ =>
      refine pe_tnew.imp fun σ H Q ⟨Φ, ι, S, ρ, R, re, q⟩ p hp => ?_
      simp only [den] at q
      obtain ⟨R1, e1⟩ := R.newF (o := TabO Wd.P Wd.w p []) hp
      rw [← A.hw.1, ← A.hw.2]
      exact q _ _ _ e1 R1 _ (.tab upd_same .nil)
  | .tin ng x1 y1 o, X, k, Wx, A, x, h => by
    simp only [ck] at h
    split at h
    case h_2 => cases h
    simp only [Bool.and_eq_true, decide_eq_true_eq] at h
    obtain ⟨⟨⟨rfl, h1⟩, h2⟩, h3⟩ := h
    exact snd_tin A (sndE x1 A h1) (sndE y1 A h2) (sndE o A h3) (ck_star h1) (ck_star h2) (ck_set h3)
  | .tix o x1 y1, X, k, Wx, A, x, h => by
    simp only [ck] at h
    split at h
    case h_2 => cases h
    simp only [Bool.and_eq_true] at h
    exact snd_tix A (sndE x1 A h.1.2) (sndE y1 A h.2) (sndE o A h.1.1) (ck_star h.1.2) (ck_star h.2)
  | .tget o x1 y1, X, k, Wx, A, x, h => by
    simp only [ck] at h
    split at h
    case h_2 => cases h
    simp only [Bool.and_eq_true, decide_eq_true_eq] at h
    obtain ⟨⟨⟨⟨⟨rfl, h1⟩, h2⟩, h3⟩, h4⟩, h5⟩ := h
    exact snd_tget A (sndE x1 A h3) (sndE y1 A h4) (sndE o A h1) (ck_star h3) (ck_star h4) h2 h5
  | .tabc own t it x1 y1 e, X, k, Wx, A, x, h => by
    simp only [ck] at h
    split at h
    case h_2 => cases h
    rename_i a b pn pp v tg iter zz scope pos
    simp only [Bool.and_eq_true, decide_eq_true_eq, List.all_eq_true, List.contains_iff_mem] at h
    obtain ⟨⟨⟨⟨⟨⟨⟨⟨rfl, h1⟩, h2⟩, h3⟩, h4⟩, h5⟩, h6⟩, h7⟩, h8⟩ := h
    have hown : (ownP k.N own).map (·.2) = own := of_decide_eq_true h1
    have ok : BlkOk X.N X.env.scope scope (ownP k.N own) := by rw [A.N, A.sc]; exact blkOk_by h2
    have key := pe_dcT (kx := .Tuple [a, b] pn pp) (vx := v) (pos := pos) (unl A) A.calm A.nd (sndI it A h5) ok (g := gT X.K t) (tk := tTup (tCons (rdE c noW (den C x1)) (tCons (rdE c noW (den C y1)) tNil))) (tv := rdE c noW (den C e))
      (fun s H Ca cl fp => pgT (A.blk s H scope Ca cl fp) h4) (fun s H Ca cl fp => pair_pe (sndE x1 (A.blk s H scope Ca cl fp) h6) (sndE y1 (A.blk s H scope Ca cl fp) h7) (ck_star h6) (ck_star h7)) (fun s H Ca cl fp => sndE e (A.blk s H scope Ca cl fp) h8) (noSet (cki_set h5))
    rw [hown] at key
    exact key.imp fun σ H Q q => tabcR A.hK A.hw h3 q
  | .dcomp own t it x1 e, X, k, Wx, A, x, h => by
    simp only [ck] at h
    split at h
    case h_2 => cases h
    rename_i a v tg iter zz scope pos
    simp only [Bool.and_eq_true, decide_eq_true_eq, List.all_eq_true, List.contains_iff_mem] at h
    obtain ⟨⟨⟨⟨⟨⟨⟨rfl, h1⟩, h2⟩, h3⟩, h4⟩, h5⟩, h6⟩, h8⟩ := h
    have hown : (ownP k.N own).map (·.2) = own := of_decide_eq_true h1
    have ok : BlkOk X.N X.env.scope scope (ownP k.N own) := by rw [A.N, A.sc]; exact blkOk_by h2
    have key := pe_dc (pos := pos) A.calm A.nd (sndI it A h5) ok (g := gT X.K t) (tt := tYes) (tk := rdE c noW (den C x1)) (tv := rdE c noW (den C e))
      (fun s H Ca cl fp => pgT (A.blk s H scope Ca cl fp) h4) (fun s H Ca cl fp => pts_nil) (fun s H Ca cl fp => sndE x1 (A.blk s H scope Ca cl fp) h6) (fun s H Ca cl fp => sndE e (A.blk s H scope Ca cl fp) h8) (noSet (cki_set h5))
    rw [hown] at key
    exact key.imp fun σ H Q q => dcompR A.hK h3 q
  | .fstr es, X, k, Wx, A, x, h => by
    simp only [ck] at h
    split at h
    case h_2 => cases h
    rename_i xs pos
    simp only [Bool.and_eq_true, decide_eq_true_eq] at h
    obtain ⟨h1, h2⟩ := h
    have hp := sndF es A h1
    match xs, h2, hp with
    | x1 :: x2 :: r, _, hp =>
      exact (pe_joined hp).imp fun σ H Q ⟨Φ, ι, S, ρ, R, re, q⟩ => fstr_ask es _ (catS_ok [] (fun _ h => nomatch h) (Nat.zero_le _)) R re (by simp only [den] at q; exact q)
  | .revm fz o, X, k, Wx, A, x, h => by cases x <;> simp [ck] at h
  | .rev2 fz o, X, k, Wx, A, x, h => by
    simp only [ck] at h
    split at h
    case h_2 => cases h
    refine (pe_rev2 (sndE o A h)).imp fun σ H Q ⟨Φ, ι, S, ρ, R, re, q⟩ => ?_
    simp only [den] at q
    refine ⟨Φ, ι, S, ρ, R, re, q.bd.imp fun w1 Φ1 ι1 S1 H1 e1 R1 q1 v1 rv1 => ?_⟩
    split at q1
    · rename_i xs el
      obtain ⟨a', us', eb, q2, t2⟩ := lstW_ok R1 rv1 el
      subst eb
      exact ⟨_, _, rfl, A.hK ▸ SqL.of q2, (newL_ok R1 t2.dropL.reverse q1).2⟩
    · exact q1.elim
  | .maxd a d, X, k, Wx, A, x, h => by
    match x, h with
    | .Call (.Name x _) [e] [⟨some y, f, _⟩] _, h =>
      simp only [ck, Bool.and_eq_true, decide_eq_true_eq, List.contains_iff_mem] at h
      obtain ⟨⟨⟨⟨⟨rfl, h1⟩, h2⟩, rfl⟩, h3⟩, h4⟩ := h
      have hst := star_cons (ck_star h3) [] X.env
      refine (pe_callBK (call_maxDf A.calm) (A.glo h1) (A.free _ h2) (by decide +kernel) (pa_cons (sndE a A h3) pa_nil hst) (pk_cons (sndE d A h4) pk_nil) (by decide) (by decide) (by rw [hst]; rfl) (by rw [hst]; rfl) rfl rfl rfl).imp fun σ H Q ⟨Φ, ι, S, ρ, R, re, q⟩ => ?_
      simp only [den] at q
      refine two_ok R re q fun w1 w2 v1 v2 Φ2 ι2 S2 H2 R2 r1 r2 q2 => ?_
      split at q2
      · cases r1 with
        | lst s1 t =>
          cases r2
          split at q2
          · rename_i e
            exact ⟨_, [], _, rfl, rfl, SqL.of (by rw [← t.ints e]; exact R2.sub _ _ s1), fun _ => same_ok R2 (.int _) q2, fun m hm => by simp at hm⟩
          · rename_i n ns e
            refine ⟨_, n :: ns, _, rfl, rfl, SqL.of (by rw [← t.ints e]; exact R2.sub _ _ s1), (fun z => nomatch z), fun m hm hle => ?_⟩
            obtain ⟨k1, k2⟩ := maxI_mem n ns
            have e' : m = maxI (n :: ns) := Int.le_antisymm (k2 m hm) (hle _ k1)
            subst e'
            exact same_ok R2 (.int _) q2
          · exact q2.elim
      · exact q2.elim
  | .dnew, X, k, Wx, A, x, h => by
    match x, h with
    | .Dict [] [] _, h =>
      refine pe_dnewK.imp fun σ H Q ⟨Φ, ι, S, ρ, R, re, q⟩ => fun p hp => ?_
      simp only [den] at q
      obtain ⟨r', e'⟩ := R.newS (ho := .dK []) (o := .dic []) hp ⟨[], upd_same, .nil⟩
      exact q _ _ _ e' r' _ (.loc (by rw [← R.len, List.getElem?_append_right (Nat.le_refl _)]; simp))
  | .dlit ps, X, k, Wx, A, x, h => by
    cases x with
    | Dict xs ys p =>
      simp only [ck, Bool.and_eq_true, decide_eq_true_eq] at h
      obtain ⟨⟨h1, h2⟩, h3⟩ := h
      obtain ⟨q1, q2, q3⟩ := sndD ps A p h1
      refine (pe_disp q1 q2 q3 h2 h3).imp fun σ H Q ⟨Φ, ι, S, ρ, R, re, q⟩ => fun D hD => ?_
      simp only [den] at q
      have fz1 : Φ D = none := by
        cases z : Φ D with
        | none => rfl
        | some o => rw [R.sub D o z] at hD; cases hD
      refine prs_ok ps (H := upd H D (.dK [])) (D := D) upd_same fz1 (fun z => R.trk D z hD) (by rw [hid_upd hD]; exact R) re (by rw [hid_upd hD]; exact q) fun kvs us Φ' ι' S' H' e' f1 f2 R' hd g q' => ⟨hd, us, rfl, ?_⟩
      split at q'
      · rename_i hl
        refine ⟨by rw [← rkv_len g]; exact hl, ?_⟩
        have hn : hid H' D D = none := hid_same
        obtain ⟨r', e2⟩ := R'.newS (ho := .dK (mergeK [] us)) (o := .dic (dmerge [] kvs)) hn ⟨_, upd_same, RKV.mono (fun _ _ h => h) ⟨[D], rfl⟩ (dmerge_ok g .nil)⟩
        have hh : upd (hid H' D) D (.dK (mergeK [] us)) = upd H' D (.dK (mergeK [] us)) := by
          funext b
          by_cases e : b = D
          · subst e; rw [upd_same, upd_same]
          · rw [upd_ne e, upd_ne e, hid_ne e]
        rw [hh] at r' e2
        exact q' _ _ _ e2 r' _ (.loc (by rw [← R'.len, List.getElem?_append_right (Nat.le_refl _)]; simp))
      · exact q'.elim
    | _ => simp [ck] at h
  | .dg2 o i d, X, k, Wx, A, x, h => by
    match x, h with
    | .Call (.Attribute e a apos) [y, z] [] cpos, h =>
      simp only [ck, Bool.and_eq_true, decide_eq_true_eq] at h
      obtain ⟨⟨⟨⟨⟨rfl, h1⟩, h2⟩, h3⟩, h4⟩, h5⟩ := h
      have hs : ∀ x ∈ [y, z], notStar x = true := by
        intro x hx
        simp only [List.mem_cons, List.not_mem_nil, or_false] at hx
        rcases hx with rfl | rfl
        · exact ck_star h3
        · exact ck_star h4
      have M : M2 X e "get" apos y z cpos := ⟨noSuper h2, hfew_of hs (by simp), h5, by rw [star_all hs]; rfl⟩
      refine (pe_dget2 (Nat.lt_of_le_of_lt (Nat.add_le_add_left (by decide) _) A.un) (sndE o A h1) (sndE i A h3) (sndE d A h4) M).imp fun σ H Q ⟨Φ, ι, S, ρ, R, re, q⟩ => ?_
      simp only [den] at q
      refine ⟨Φ, ι, S, ρ, R, re, q.bd.imp fun w1 Φ1 ι1 S1 H1 e1 R1 q1 v1 rv1 => ?_⟩
      split at q1
      · exact q1.elim
      · rename_i kv0 ed
        obtain ⟨a0, us0, rfl, g0, _⟩ := dicW_ok R1 rv1 ed
        refine ⟨a0, rfl, .inl ⟨us0, .inl g0⟩, Φ1, ι1, S1, ρ, R1, re.mono e1, q1.bd.imp fun w2 Φ2 ι2 S2 H2 e2 R2 q2 v2 rv2 => ?_⟩
        refine ⟨Φ2, ι2, S2, ρ, R2, (re.mono e1).mono e2, q2.bd.imp fun w3 Φ3 ι3 S3 H3 e3 R3 q3 v3 rv3 => ?_⟩
        split at q3
        · rename_i kvs kk e5 e6
          obtain ⟨a1, us, ea, g1, g2⟩ := dicW_ok R3 (e3.rv (e2.rv rv1)) e5
          cases ea
          have hk := keyW_ok (e3.rv rv2) e6
          subst hk
          refine ⟨valV us kk, DGet.k g1, ?_⟩
          rcases dget_ok g2 kk with ⟨z1, z2⟩ | ⟨w, vv, z1, z2, rz⟩
          · rw [z1] at q3; rw [z2]; exact same_ok R3 rv3 q3
          · rw [z1] at q3; rw [z2]; exact same_ok R3 rz q3
        · exact q3.elim
  | .rev fz o, X, k, Wx, A, x, h => by
    cases x with
    | Subscript a b p =>
      cases b with
      | Slice l u st p3 =>
        match l, u, st, h with
        | none, none, some (.UnaryOp .USub (.Constant (.int 1) _ _) _), h =>
          simp only [ck] at h
          refine (pe_revT (sndE o A h)).imp fun σ H Q ⟨Φ, ι, S, ρ, R, re, q⟩ => ?_
          simp only [den] at q
          exact ⟨Φ, ι, S, ρ, R, re, q.bd.imp fun w1 Φ1 ι1 S1 H1 e1 R1 q1 v1 rv1 => rev_key A.hK fz _ _ _ ⟨Φ1, ι1, S1, w1, _, R1, rv1, q1⟩⟩
        | none, none, none, h => simp [ck] at h
        | some _, _, _, h => simp [ck] at h
        | none, some _, _, h => simp [ck] at h
      | _ => simp [ck] at h
    | _ => simp [ck] at h
  | .frz e, X, k, Wx, A, x, h => by
    simp only [ck, Bool.and_eq_true] at h
    refine (sndE e A h.2).imp fun σ H Q ⟨Φ, ι, S, ρ, R, re, q⟩ => ⟨Φ, ι, S, ρ, R, re, ?_⟩
    simp only [den] at q
    refine q.bd.imp fun w Φ1 ι1 S1 H1 e1 R1 q1 v rv => ?_
    cases rv with
    | @loc l a hl =>
      simp only at q1
      split at q1
      · rename_i xs ex
        obtain ⟨vs, k1, k2, k3, k4⟩ := R1.kill hl ex
        exact q1 _ _ _ k4 k3 _ (.lst upd_same (k4.rvs k2))
      · exact q1.elim
    | _ => exact q1.elim
  | .lc fz own t it ifs e, X, k, Wx, A, x, h => by
    cases x with
    | ListComp elt gs scope p =>
      match gs, h with
      | [⟨tg, iter, cs, z⟩], h =>
        simp only [ck, Bool.and_eq_true, decide_eq_true_eq, List.all_eq_true, List.contains_iff_mem] at h
        obtain ⟨⟨⟨⟨⟨⟨⟨⟨rfl, h1⟩, h2⟩, h3⟩, h4⟩, h5⟩, h6⟩, h7⟩, h8⟩ := h
        have hown : (ownP k.N own).map (·.2) = own := of_decide_eq_true h1
        have ok : BlkOk X.N X.env.scope scope (ownP k.N own) := by rw [A.N, A.sc]; exact blkOk_by h2
        have key := pe_lc (pos := p) A.calm A.nd (sndI it A h5) ok (g := gT X.K t) (tt := rdT c (fun _ _ _ _ => False) (ands C ifs)) (te := rdE c (fun _ _ _ _ => False) (den C e))
          (fun s H Ca cl fp => pgT (A.blk s H scope Ca cl fp) h4) (fun s H Ca cl fp => sndTs ifs (A.blk s H scope Ca cl fp) h6 h7) (fun s H Ca cl fp => sndE e (A.blk s H scope Ca cl fp) h8) (noSet (cki_set h5))
        rw [hown] at key
        exact key.imp fun σ H Q q => lcR A.hK h3 q
      | [], h => simp [ck] at h
      | _ :: _ :: _, h => simp [ck] at h
    | _ => simp [ck] at h
  | .lcV fz own t a ifs e, X, k, Wx, A, x, h => by
    cases x with
    | ListComp elt gs scope p =>
      match gs, h with
      | [⟨tg, iter, cs, z⟩], h =>
        simp only [ck, Bool.and_eq_true, decide_eq_true_eq, List.all_eq_true, List.contains_iff_mem] at h
        obtain ⟨⟨⟨⟨⟨⟨⟨⟨rfl, h1⟩, h2⟩, h3⟩, h4⟩, h5, h5'⟩, h6⟩, h7⟩, h8⟩ := h
        have hown : (ownP k.N own).map (·.2) = own := of_decide_eq_true h1
        have ok : BlkOk X.N X.env.scope scope (ownP k.N own) := by rw [A.N, A.sc]; exact blkOk_by h2
        have key := pe_lc (pos := p) A.calm A.nd (pi_seq (sndE a A h5)) ok (g := gT X.K t) (tt := rdT c (fun _ _ _ _ => False) (ands C ifs)) (te := rdE c (fun _ _ _ _ => False) (den C e))
          (fun s H Ca cl fp => pgT (A.blk s H scope Ca cl fp) h4) (fun s H Ca cl fp => sndTs ifs (A.blk s H scope Ca cl fp) h6 h7) (fun s H Ca cl fp => sndE e (A.blk s H scope Ca cl fp) h8) (noSet h5')
        rw [hown] at key
        exact key.imp fun σ H Q q => lcVR A.hK h3 q
      | [], h => simp [ck] at h
      | _ :: _ :: _, h => simp [ck] at h
    | _ => simp [ck] at h
  | .lc2 fz own t it ifs own1 t1 it1 ifs1 e, X, k, Wx, A, x, h => by
    cases x with
    | ListComp elt gs scope p =>
      match gs, h with
      | [⟨tg, iter, cs, z⟩, ⟨tg1, iter1, cs1, z1⟩], h =>
        simp only [ck, Bool.and_eq_true, decide_eq_true_eq, List.all_eq_true, List.contains_iff_mem] at h
        obtain ⟨⟨⟨⟨⟨⟨⟨⟨⟨⟨⟨⟨⟨⟨⟨rfl, rfl⟩, h1⟩, h2⟩, h2'⟩, h3⟩, h3'⟩, h4⟩, h4'⟩, h5⟩, h5'⟩, h6⟩, h7⟩, h6'⟩, h7'⟩, h8⟩ := h
        have hown : (ownP k.N own).map (·.2) = own := of_decide_eq_true h1
        have ok : BlkOk X.N X.env.scope scope (ownP k.N own) := by rw [A.N, A.sc]; exact blkOk_by h2
        have key := pe_lc2 (pos := p) (vs1 := own1) A.calm A.nd (sndI it A h5) ok (by rw [hown]; exact h2') (g := gT X.K t) (g1 := gT X.K t1) (tt := rdT c (fun _ _ _ _ => False) (ands C ifs)) (tt1 := rdT c (fun _ _ _ _ => False) (ands C ifs1)) (te := rdE c (fun _ _ _ _ => False) (den C e))
          (fun s H Ca cl fp => pgT (A.blk s H scope Ca cl fp) h4) (fun s H Ca cl fp => sndTs ifs (A.blk s H scope Ca cl fp) h6 h7) (fun s H Ca cl fp => sndI it1 (A.blk s H scope Ca cl fp) h5')
          (fun s H Ca cl fp => pgT (A.blk s H scope Ca cl fp) h4') (fun s H Ca cl fp => sndTs ifs1 (A.blk s H scope Ca cl fp) h6' h7') (fun s H Ca cl fp => sndE e (A.blk s H scope Ca cl fp) h8) (noSet (cki_set h5)) (fun env => noSet (cki_set h5'))
        rw [hown] at key
        exact key.imp fun σ H Q q => lc2R A.hK h3 h3' q
      | [], h => simp [ck] at h
      | [_], h => simp [ck] at h
      | _ :: _ :: _ :: _, h => simp [ck] at h
    | _ => simp [ck] at h
theorem sndD : ∀ (ps : List E) {X : Cx} {k : Ck} {Wx : WX} (A : Amb c C X k Wx) {xs : List (Option Expr)} {ys : List Expr} (p : Pos), ckD k ps xs ys = true → PPs X p xs ys (prT c C Wx ps) ∧ xs.all (·.isSome) = true ∧ xs.length = ys.length
  | [], X, k, Wx, A, xs, ys, p, h => by
    match xs, ys, h with
    | [], [], _ => exact ⟨pps_nil, rfl, rfl⟩
  | a :: b :: r, X, k, Wx, A, xs, ys, p, h => by
    match xs, ys, h with
    | some x :: xs, y :: ys, h =>
      simp only [ckD, Bool.and_eq_true] at h
      obtain ⟨q1, q2, q3⟩ := sndD r A p h.2
      exact ⟨pps_cons (sndE a A h.1.1) (sndE b A h.1.2) q1, by simpa using q2, by simp [q3]⟩
  | [_], X, k, Wx, A, xs, ys, p, h => by simp [ckD] at h
theorem sndF : ∀ (es : List E) {X : Cx} {k : Ck} {Wx : WX} (A : Amb c C X k Wx) {xs : List Expr}, ckF k es xs = true → PJ X xs (es.map (rdF c Wx C))
  | [], X, k, Wx, A, xs, h => by
    cases xs with
    | nil => exact .nil
    | cons _ _ => simp [ckF] at h
  | e :: es, X, k, Wx, A, xs, h => by
    cases xs with
    | nil => simp [ckF] at h
    | cons x xs =>
      simp only [ckF, Bool.and_eq_true] at h
      obtain ⟨h1, h2⟩ := h
      refine .cons ?_ (sndF es A h2)
      split at h1
      · rename_i y cv p
        simp only [Bool.and_eq_true, decide_eq_true_eq] at h1
        obtain ⟨rfl, h3⟩ := h1
        exact (pe_fmt (sndE e A h3)).imp fun σ H Q q => rdF_fmt q
      · exact (sndE e A h1).imp fun σ H Q q => rdF_cst q
      · cases h1
theorem sndO : ∀ (e : Option E) {X : Cx} {k : Ck} {Wx : WX} (A : Amb c C X k Wx) {x : Option Expr}, cko k e x = true → PO X x (rdO c Wx (deno C e))
  | none, X, k, Wx, A, x, h => by
    cases x with
    | none => exact po_none.imp fun σ H Q ⟨Φ, ι, S, ρ, R, re, q⟩ => q.here R
    | some _ => simp [cko] at h
  | some e, X, k, Wx, A, x, h => by
    cases x with
    | none => simp [cko] at h
    | some x =>
      refine (po_some (sndE e A (by simpa [cko] using h))).imp fun σ H Q ⟨Φ, ι, S, ρ, R, re, q⟩ => ?_
      simp only [deno] at q
      refine ⟨Φ, ι, S, ρ, R, re, q.bd.imp fun w Φ1 ι1 S1 H1 e1 R1 h1 v rv => ?_⟩
      cases rv with
      | int i => exact ⟨i, rfl, h1.here R1⟩
      | _ => exact h1.elim
theorem sndA : ∀ (es : List E) {X : Cx} {k : Ck} {Wx : WX} (A : Amb c C X k Wx) {xs : List Expr}, cks k es xs = true → PA X xs (rdA c Wx (dens C es))
  | [], X, k, Wx, A, xs, h => by
    cases xs with
    | nil => exact pa_nil.imp fun σ H Q ⟨Φ, ι, S, ρ, R, re, q⟩ => q.here R [] .nil
    | cons _ _ => simp [cks] at h
  | e :: es, X, k, Wx, A, xs, h => by
    cases xs with
    | nil => simp [cks] at h
    | cons x xs =>
      simp only [cks, Bool.and_eq_true] at h
      refine (pa_cons (sndE e A h.1) (sndA es A h.2) (star_cons (ck_star h.1) _ _)).imp fun σ H Q ⟨Φ, ι, S, ρ, R, re, q⟩ => ?_
      simp only [dens] at q
      refine ⟨Φ, ι, S, ρ, R, re, q.bd.imp fun w Φ1 ι1 S1 H1 e1 R1 h1 v rv => ?_⟩
      exact ⟨Φ1, ι1, S1, ρ, R1, re.mono e1, h1.bd.imp fun ws Φ2 ι2 S2 H2 e2 R2 h2 vs rvs => h2.here R2 _ (.cons (e2.rv rv) rvs)⟩
theorem sndAndV : ∀ (es : List E) {X : Cx} {k : Ck} {Wx : WX} (A : Amb c C X k Wx) {xs : List Expr}, cks k es xs = true → xs ≠ [] → ∀ p, PE X (.BoolOp .And xs p) (rdE c Wx (andV C es))
  | [], X, k, Wx, A, xs, h, hn, p => by
    cases xs with
    | nil => exact absurd rfl hn
    | cons _ _ => simp [cks] at h
  | [e], X, k, Wx, A, xs, h, hn, p => by
    match xs, h with
    | [x], h =>
      simp only [cks, Bool.and_true] at h
      exact (pe_one (sndE e A h)).imp fun σ H Q ⟨Φ, ι, S, ρ, R, re, q⟩ => ⟨Φ, ι, S, ρ, R, re, by simpa only [andV] using q⟩
    | [], h => simp [cks] at h
    | _ :: _ :: _, h => simp [cks] at h
  | e :: e2 :: es, X, k, Wx, A, xs, h, hn, p => by
    match xs, h with
    | x :: x2 :: xs, h =>
      have h' := h
      rw [cks, Bool.and_eq_true] at h
      refine (pe_andT (sndE e A h.1) (sndAndV (e2 :: es) A h.2 (by simp) p)).imp fun σ H Q ⟨Φ, ι, S, ρ, R, re, q⟩ => ?_
      simp only [andV] at q
      refine ⟨Φ, ι, S, ρ, R, re, q.bd.imp fun w Φ1 ι1 S1 H1 e1 R1 h1 v rv => ?_⟩
      cases e : truW S1 w with
      | none => rw [e] at h1; exact h1.elim
      | some b =>
        rw [e] at h1
        refine ⟨b, truW_ok A.hK R1 rv e, ?_⟩
        cases b with
        | true => exact iteT ⟨Φ1, ι1, S1, ρ, R1, re.mono e1, h1⟩
        | false => exact iteF (same_ok R1 rv h1)
    | [], h => simp [cks] at h
    | [_], h => simp [cks] at h
theorem sndOrV : ∀ (es : List E) {X : Cx} {k : Ck} {Wx : WX} (A : Amb c C X k Wx) {xs : List Expr}, cks k es xs = true → xs ≠ [] → ∀ p, PE X (.BoolOp .Or xs p) (rdE c Wx (orV C es))
  | [], X, k, Wx, A, xs, h, hn, p => by
    cases xs with
    | nil => exact absurd rfl hn
    | cons _ _ => simp [cks] at h
  | [e], X, k, Wx, A, xs, h, hn, p => by
    match xs, h with
    | [x], h =>
      simp only [cks, Bool.and_true] at h
      exact (pe_one (sndE e A h)).imp fun σ H Q ⟨Φ, ι, S, ρ, R, re, q⟩ => ⟨Φ, ι, S, ρ, R, re, by simpa only [orV] using q⟩
    | [], h => simp [cks] at h
    | _ :: _ :: _, h => simp [cks] at h
  | e :: e2 :: es, X, k, Wx, A, xs, h, hn, p => by
    match xs, h with
    | x :: x2 :: xs, h =>
      have h' := h
      rw [cks, Bool.and_eq_true] at h
      refine (pe_orT (sndE e A h.1) (sndOrV (e2 :: es) A h.2 (by simp) p)).imp fun σ H Q ⟨Φ, ι, S, ρ, R, re, q⟩ => ?_
      simp only [orV] at q
      refine ⟨Φ, ι, S, ρ, R, re, q.bd.imp fun w Φ1 ι1 S1 H1 e1 R1 h1 v rv => ?_⟩
      cases e : truW S1 w with
      | none => rw [e] at h1; exact h1.elim
      | some b =>
        rw [e] at h1
        refine ⟨b, truW_ok A.hK R1 rv e, ?_⟩
        cases b with
        | true => exact iteT (same_ok R1 rv h1)
        | false => exact iteF ⟨Φ1, ι1, S1, ρ, R1, re.mono e1, h1⟩
    | [], h => simp [cks] at h
    | [_], h => simp [cks] at h
theorem sndT : ∀ (t : T) {X : Cx} {k : Ck} {Wx : WX} (A : Amb c C X k Wx) {x : Expr}, ckC k t x = true → PT X x (rdT c Wx (tst C t))
  | .val e, X, k, Wx, A, x, h => by
    simp only [ckC, Bool.and_eq_true] at h
    refine (pt_truth (sndE e A h.2) (plainTest h.1 X.env)).imp fun σ H Q ⟨Φ, ι, S, ρ, R, re, q⟩ => ?_
    simp only [tst] at q
    refine ⟨Φ, ι, S, ρ, R, re, q.bd.imp fun w Φ1 ι1 S1 H1 e1 R1 h1 v rv => ?_⟩
    cases e : truW S1 w with
    | none => rw [e] at h1; exact h1.elim
    | some b =>
      rw [e] at h1
      exact ⟨b, truW_ok A.hK R1 rv e, h1.here R1⟩
  | .not a, X, k, Wx, A, x, h => by
    cases x with
    | UnaryOp o r p =>
      cases o with
      | Not =>
        refine (pt_not (sndT a A (by simpa [ckC] using h))).imp fun σ H Q ⟨Φ, ι, S, ρ, R, re, q⟩ => ?_
        simp only [tst] at q
        exact ⟨Φ, ι, S, ρ, R, re, q.bd.imp fun b Φ1 ι1 S1 H1 e1 R1 h1 => h1.here R1⟩
      | _ => simp [ckC] at h
    | _ => simp [ckC] at h
  | .and es, X, k, Wx, A, x, h => by
    cases x with
    | BoolOp o xs p =>
      cases o with
      | And =>
        simp only [ckC, Bool.and_eq_true, decide_eq_true_eq] at h
        refine (sndAnds es A h.1 h.2 p).pt.imp fun σ H Q ⟨Φ, ι, S, ρ, R, re, q⟩ => ⟨Φ, ι, S, ρ, R, re, ?_⟩
        simp only [tst] at q
        exact q
      | _ => simp [ckC] at h
    | _ => simp [ckC] at h
  | .or es, X, k, Wx, A, x, h => by
    cases x with
    | BoolOp o xs p =>
      cases o with
      | Or =>
        simp only [ckC, Bool.and_eq_true, decide_eq_true_eq] at h
        refine (sndOrs es A h.1 h.2 p).pt.imp fun σ H Q ⟨Φ, ι, S, ρ, R, re, q⟩ => ⟨Φ, ι, S, ρ, R, re, ?_⟩
        simp only [tst] at q
        exact q
      | _ => simp [ckC] at h
    | _ => simp [ckC] at h
  | .gin d e, X, k, Wx, A, x, h => by
    simp only [ckC] at h
    split at h
    case h_2 => cases h
    simp only [Bool.and_eq_true, decide_eq_true_eq, List.contains_iff_mem] at h
    obtain ⟨⟨⟨⟨⟨rfl, rfl⟩, h1⟩, h2⟩, h3⟩, h4⟩ := h
    obtain ⟨p1, p2, p3⟩ := plain_of h3
    obtain ⟨a, q1, _, es, n, D, q2⟩ := A.gd _ h2
    refine (pt_cmpR (op_in_kd D) (sndE e A h4) (pe_glob (v := .ref a) (A.glo h1) q1 rfl p1) rfl).imp fun σ H Q ⟨Φ, ι, S, ρ, R, re, q⟩ => ?_
    simp only [tst] at q
    refine ⟨Φ, ι, S, ρ, R, re, q.bd.imp fun w1 Φ1 ι1 S1 H1 e1 R1 q3 v1 rv1 => ?_⟩
    cases rv1 with
    | str hz =>
      simp only [] at q3
      rename_i xz
      obtain ⟨o, g1, g2⟩ := q2 xz
      exact ⟨xz, o, rfl, rfl, g1, _, rfl, by rw [g2]; exact q3.here R1⟩
    | _ => exact q3.elim
  | .tin ng x1 y1 o, X, k, Wx, A, x, h => by
    simp only [ckC] at h
    split at h
    case h_2 => cases h
    simp only [Bool.and_eq_true, decide_eq_true_eq] at h
    obtain ⟨⟨⟨rfl, h1⟩, h2⟩, h3⟩ := h
    exact snd_tinT A (sndE x1 A h1) (sndE y1 A h2) (sndE o A h3) (ck_star h1) (ck_star h2) (ck_set h3)
  | .cmp op a b, X, k, Wx, A, x, h => by
    cases x with
    | Compare l os rs p =>
      match os, rs, h with
      | [o], [r], h =>
        simp only [ckC, Bool.and_eq_true, decide_eq_true_eq] at h
        obtain ⟨⟨rfl, h1⟩, h2⟩ := h
        refine (pt_cmpR (op_cmpX A.hK A.un op) (sndE a A h1) (sndE b A h2) (marks_set (ck_set h2))).imp fun σ H Q ⟨Φ, ι, S, ρ, R, re, q⟩ => ?_
        simp only [tst] at q
        exact two_ok R re q fun w1 w2 v1 v2 Φ2 ι2 S2 H2 R2 r1 r2 h2 => ⟨Φ2, ι2, S2, w1, w2, _, R2, r1, r2, h2.imp fun b Φ3 ι3 S3 H3 e3 R3 h3 => ⟨b, rfl, h3⟩⟩
      | [], _, h => simp [ckC] at h
      | [_], [], h => simp [ckC] at h
      | [_], _ :: _ :: _, h => simp [ckC] at h
      | _ :: _ :: _, _, h => simp [ckC] at h
    | _ => simp [ckC] at h
  | .ch o1 o2 a b d, X, k, Wx, A, x, h => by
    cases x with
    | Compare l os rs p =>
      match os, rs, h with
      | [p1, p2], [m, r], h =>
        simp only [ckC, Bool.and_eq_true, decide_eq_true_eq] at h
        obtain ⟨⟨⟨⟨rfl, rfl⟩, h1⟩, h2⟩, h3⟩ := h
        refine (pt_chain (op_cmpX A.hK A.un o1) (op_cmpX A.hK A.un o2) (sndE a A h1) (sndE b A h2) (sndE d A h3) (by show behindInMarks o2 r = false; exact marks_set (ck_set h3))).imp fun σ H Q ⟨Φ, ι, S, ρ, R, re, q⟩ => ?_
        simp only [tst] at q
        refine ⟨Φ, ι, S, ρ, R, re, q.bd.imp fun w1 Φ1 ι1 S1 H1 e1 R1 q1 v1 rv1 => ?_⟩
        refine ⟨Φ1, ι1, S1, ρ, R1, re.mono e1, q1.bd.imp fun w2 Φ2 ι2 S2 H2 e2 R2 q2 v2 rv2 => ?_⟩
        refine ⟨Φ2, ι2, S2, w1, w2, _, R2, e2.rv rv1, rv2, q2.bd.imp fun t Φ3 ι3 S3 H3 e3 R3 q3 => ?_⟩
        refine ⟨t, rfl, ?_⟩
        cases t with
        | false => exact iteF ⟨_, rfl, q3.here R3⟩
        | true =>
          rw [if_pos rfl] at q3
          refine iteT ⟨Φ3, ι3, S3, ρ, R3, ((re.mono e1).mono e2).mono e3, q3.bd.imp fun w3 Φ4 ι4 S4 H4 e4 R4 q4 v3 rv3 => ?_⟩
          exact ⟨Φ4, ι4, S4, w2, w3, _, R4, e4.rv (e3.rv rv2), rv3, q4.imp fun b Φ5 ι5 S5 H5 e5 R5 q5 => ⟨b, rfl, q5⟩⟩
      | [], _, h => simp [ckC] at h
      | [_], [], h => simp [ckC] at h
      | [_], [_], h => simp [ckC] at h
      | [_], _ :: _ :: _, h => simp [ckC] at h
      | [_, _], [], h => simp [ckC] at h
      | [_, _], [_], h => simp [ckC] at h
      | [_, _], _ :: _ :: _ :: _, h => simp [ckC] at h
      | _ :: _ :: _ :: _, _, h => simp [ckC] at h
    | _ => simp [ckC] at h
theorem sndAnds : ∀ (es : List T) {X : Cx} {k : Ck} {Wx : WX} (A : Amb c C X k Wx) {xs : List Expr}, ckCs k es xs = true → xs ≠ [] → ∀ p, PW X (.BoolOp .And xs p) (rdT c Wx (ands C es))
  | [], X, k, Wx, A, xs, h, hn, p => by
    cases xs with
    | nil => exact absurd rfl hn
    | cons _ _ => simp [ckCs] at h
  | [e], X, k, Wx, A, xs, h, hn, p => by
    match xs, h with
    | [x], h =>
      simp only [ckCs, Bool.and_true] at h
      refine (pw_and1 (sndT e A h)).imp fun σ H Q ⟨Φ, ι, S, ρ, R, re, q⟩ => ⟨Φ, ι, S, ρ, R, re, ?_⟩
      simp only [ands] at q
      exact q.bd.imp fun b Φ1 ι1 S1 H1 e1 R1 h1 => by
        cases b with
        | true => exact h1.here R1
        | false => exact h1.here R1
    | [], h => simp [ckCs] at h
    | _ :: _ :: _, h => simp [ckCs] at h
  | e :: e2 :: es, X, k, Wx, A, xs, h, hn, p => by
    match xs, h with
    | x :: x2 :: xs, h =>
      rw [ckCs, Bool.and_eq_true] at h
      refine (pw_and (sndT e A h.1) (sndAnds (e2 :: es) A h.2 (by simp) p)).imp fun σ H Q ⟨Φ, ι, S, ρ, R, re, q⟩ => ?_
      rw [ands] at q
      refine ⟨Φ, ι, S, ρ, R, re, q.bd.imp fun b Φ1 ι1 S1 H1 e1 R1 h1 => ?_⟩
      cases b with
      | true => exact iteT ⟨Φ1, ι1, S1, ρ, R1, re.mono e1, h1⟩
      | false => exact iteF (h1.here R1)
    | [], h => simp [ckCs] at h
    | [_], h => simp [ckCs] at h
theorem sndOrs : ∀ (es : List T) {X : Cx} {k : Ck} {Wx : WX} (A : Amb c C X k Wx) {xs : List Expr}, ckCs k es xs = true → xs ≠ [] → ∀ p, PW X (.BoolOp .Or xs p) (rdT c Wx (ors C es))
  | [], X, k, Wx, A, xs, h, hn, p => by
    cases xs with
    | nil => exact absurd rfl hn
    | cons _ _ => simp [ckCs] at h
  | [e], X, k, Wx, A, xs, h, hn, p => by
    match xs, h with
    | [x], h =>
      simp only [ckCs, Bool.and_true] at h
      refine (pw_or1 (sndT e A h)).imp fun σ H Q ⟨Φ, ι, S, ρ, R, re, q⟩ => ⟨Φ, ι, S, ρ, R, re, ?_⟩
      simp only [ors] at q
      exact q.bd.imp fun b Φ1 ι1 S1 H1 e1 R1 h1 => by
        cases b with
        | true => exact h1.here R1
        | false => exact h1.here R1
    | [], h => simp [ckCs] at h
    | _ :: _ :: _, h => simp [ckCs] at h
  | e :: e2 :: es, X, k, Wx, A, xs, h, hn, p => by
    match xs, h with
    | x :: x2 :: xs, h =>
      rw [ckCs, Bool.and_eq_true] at h
      refine (pw_or (sndT e A h.1) (sndOrs (e2 :: es) A h.2 (by simp) p)).imp fun σ H Q ⟨Φ, ι, S, ρ, R, re, q⟩ => ?_
      rw [ors] at q
      refine ⟨Φ, ι, S, ρ, R, re, q.bd.imp fun b Φ1 ι1 S1 H1 e1 R1 h1 => ?_⟩
      cases b with
      | true => exact iteT (h1.here R1)
      | false => exact iteF ⟨Φ1, ι1, S1, ρ, R1, re.mono e1, h1⟩
    | [], h => simp [ckCs] at h
    | [_], h => simp [ckCs] at h
theorem sndTs : ∀ (es : List T) {X : Cx} {k : Ck} {Wx : WX} (A : Amb c C X k Wx) {xs : List Expr}, ckCs k es xs = true → xs.length ≤ 1 → PTs X xs (rdT c Wx (ands C es))
  | [], X, k, Wx, A, xs, h, hn => by
    cases xs with
    | nil => exact ⟨fun pins s σ H Q I ⟨Φ, ι, S, ρ, R, re, q⟩ => pts_nil.run pins s σ H Q I (q.here R)⟩
    | cons _ _ => simp [ckCs] at h
  | [e], X, k, Wx, A, xs, h, hn => by
    match xs, h with
    | [x], h =>
      simp only [ckCs, Bool.and_true] at h
      refine ⟨fun pins s σ H Q I ⟨Φ, ι, S, ρ, R, re, q⟩ => (pts_one (sndT e A h)).run pins s σ H Q I ⟨Φ, ι, S, ρ, R, re, ?_⟩⟩
      simp only [ands] at q
      exact q.bd.imp fun b Φ1 ι1 S1 H1 e1 R1 h1 => by
        cases b with
        | true => exact h1.here R1
        | false => exact h1.here R1
    | [], h => simp [ckCs] at h
    | _ :: _ :: _, h => simp [ckCs] at h
  | e :: e2 :: es, X, k, Wx, A, xs, h, hn => by
    match xs, h, hn with
    | [], h, hn => simp [ckCs] at h
    | [_], h, hn => simp [ckCs] at h
    | _ :: _ :: _, h, hn => simp at hn
theorem sndI : ∀ (i : I) {X : Cx} {k : Ck} {Wx : WX} (A : Amb c C X k Wx) {tg x : Expr}, cki k (isTupE tg) i x = true → PI X tg x (rdI c Wx (itr C i))
  | .seq e, X, k, Wx, A, tg, x, h => by
    refine (pi_seq (sndE e A (by simpa [cki] using h))).imp fun σ H Q ⟨Φ, ι, S, ρ, R, re, q⟩ => ?_
    simp only [itr] at q
    refine ⟨Φ, ι, S, ρ, R, re, q.bd.imp fun w Φ1 ι1 S1 H1 e1 R1 h1 v rv => ?_⟩
    cases e : frozenW w with
    | none => rw [e] at h1; exact h1.elim
    | some xs =>
      rw [e] at h1
      rw [← A.hK]
      exact frozenW_ok R1 rv e (h1.here R1)
  | .rng1 a, X, k, Wx, A, tg, x, h => by
    cases x with
    | Call g xs kws p =>
      cases g with
      | Name y py =>
        match xs, kws, h with
        | [e], [], h =>
          simp only [cki, Bool.and_eq_true, List.contains_iff_mem, decide_eq_true_eq] at h
          obtain ⟨⟨⟨rfl, h1⟩, h2⟩, h3⟩ := h
          have st := star_cons (ck_star h3) [] X.env
          refine (pi_range1 (A.glo h1) (A.free _ h2) (pa_cons (sndE a A h3) pa_nil st) (by rw [st]; rfl)).imp fun σ H Q ⟨Φ, ι, S, ρ, R, re, q⟩ => ?_
          simp only [itr] at q
          refine ⟨Φ, ι, S, ρ, R, re, q.bd.imp fun w Φ1 ι1 S1 H1 e1 R1 q1 v rv => ?_⟩
          cases rv with
          | int j =>
            simp only at q1
            split at q1
            · rename_i hs
              refine ⟨j, rfl, hs.1, hs.2, ?_⟩
              have := q1.here R1 _ itOk_range
              rwa [Int.sub_zero] at this
            · exact q1.elim
          | _ => exact q1.elim
        | [], _, h => simp [cki] at h
        | [_], _ :: _, h => simp [cki] at h
        | _ :: _ :: _, _, h => simp [cki] at h
      | _ => simp [cki] at h
    | _ => simp [cki] at h
  | .rng2 a b, X, k, Wx, A, tg, x, h => by
    cases x with
    | Call g xs kws p =>
      cases g with
      | Name y py =>
        match xs, kws, h with
        | [e, f], [], h =>
          simp only [cki, Bool.and_eq_true, List.contains_iff_mem, decide_eq_true_eq] at h
          obtain ⟨⟨⟨⟨rfl, h1⟩, h2⟩, h3⟩, h4⟩ := h
          have st := star_cons (ck_star h3) [f] X.env
          have st2 := star_cons (ck_star h4) [] X.env
          refine (pi_range2L (A.glo h1) (A.free _ h2) (pa_cons (sndE a A h3) (pa_cons (sndE b A h4) pa_nil st2) st) (by rw [st, st2]; rfl) (by rw [st2]; rfl)).imp fun σ H Q ⟨Φ, ι, S, ρ, R, re, q⟩ => ?_
          simp only [itr] at q
          refine two_ok R re q fun w1 w2 v1 v2 Φ2 ι2 S2 H2 R2 r1 r2 q2 => ?_
          cases r1 with
          | int i =>
            cases r2 with
            | int j =>
              simp only at q2
              exact ⟨i, j, rfl, q2.here R2 _ itOk_range⟩
            | _ => exact q2.elim
          | _ => exact q2.elim
        | [], _, h => simp [cki] at h
        | [_], _, h => simp [cki] at h
        | [_, _], _ :: _, h => simp [cki] at h
        | _ :: _ :: _ :: _, _, h => simp [cki] at h
      | _ => simp [cki] at h
    | _ => simp [cki] at h
  | .rngd a b, X, k, Wx, A, tg, x, h => by
    cases x with
    | Call g xs kws p =>
      cases g with
      | Name y py =>
        match xs, kws, h with
        | [e, f, g], [], h =>
          simp only [cki, Bool.and_eq_true, List.contains_iff_mem, decide_eq_true_eq] at h
          obtain ⟨⟨⟨⟨⟨rfl, h1⟩, h2⟩, h3⟩, h4⟩, h5⟩ := h
          have st := star_cons (ck_star h3) [f, g] X.env
          have st2 := star_cons (ck_star h4) [g] X.env
          have st3 := star_cons (neg1_star h5) [] X.env
          refine (L2.pi_range3 (A.glo h1) (A.free _ h2) (pa_cons (sndE a A h3) (pa_cons (sndE b A h4) (pa_cons (ck_neg1 h5) pa_nil st3) st2) st) st (by rw [st2, st3]; rfl)).imp fun σ H Q ⟨Φ, ι, S, ρ, R, re, q⟩ => ?_
          simp only [itr] at q
          refine two_ok R re q fun w1 w2 v1 v2 Φ2 ι2 S2 H2 R2 r1 r2 q2 => ?_
          cases r1 with
          | int i =>
            cases r2 with
            | int j =>
              simp only at q2
              split at q2
              · rename_i hs
                refine ⟨i, j, -1, _, rfl, L2.RgC.neg hs.1.1 hs.1.2 hs.2.1 hs.2.2, q2.here R2 _ itOk_rangeD⟩
              · exact q2.elim
            | _ => exact q2.elim
          | _ => exact q2.elim
        | [], _, h => simp [cki] at h
        | [_], _, h => simp [cki] at h
        | [_, _], _, h => simp [cki] at h
        | [_, _, _], _ :: _, h => simp [cki] at h
        | _ :: _ :: _ :: _ :: _, _, h => simp [cki] at h
      | _ => simp [cki] at h
    | _ => simp [cki] at h
  | .enum a, X, k, Wx, A, tg, x, h => by
    cases x with
    | Call g xs kws p =>
      cases g with
      | Name y py =>
        match xs, kws, h with
        | [e], [], h =>
          simp only [cki, Bool.and_eq_true, List.contains_iff_mem, decide_eq_true_eq] at h
          obtain ⟨⟨⟨⟨h0, rfl⟩, h1⟩, h2⟩, h3⟩ := h
          cases tg with
          | Tuple elts kk tp =>
            have st := star_cons (ck_star h3) [] X.env
            refine (pi_enum (A.glo h1) (A.free _ h2) (pa_cons (sndE a A h3) pa_nil st) (by rw [st]; rfl)).imp fun σ H Q ⟨Φ, ι, S, ρ, R, re, q⟩ => ?_
            simp only [itr] at q
            refine ⟨Φ, ι, S, ρ, R, re, q.bd.imp fun w Φ1 ι1 S1 H1 e1 R1 q1 v rv => ?_⟩
            cases rv with
            | lst s t => exact ⟨_, _, rfl, SqL.of (R1.sub _ _ s), by rw [← A.hK]; exact q1.here R1 _ (itOk_enum (SqL.of s) t)⟩
            | _ => exact q1.elim
          | _ => cases h0
        | [], _, h => simp [cki] at h
        | [_], _ :: _, h => simp [cki] at h
        | _ :: _ :: _, _, h => simp [cki] at h
      | _ => simp [cki] at h
    | _ => simp [cki] at h
  | .zip a b, X, k, Wx, A, tg, x, h => by
    cases x with
    | Call g xs kws p =>
      cases g with
      | Name y py =>
        match xs, kws, h with
        | [e, f], [], h =>
          simp only [cki, Bool.and_eq_true, List.contains_iff_mem, decide_eq_true_eq] at h
          obtain ⟨⟨⟨⟨⟨h0, rfl⟩, h1⟩, h2⟩, h3⟩, h4⟩ := h
          cases tg with
          | Tuple elts kk tp =>
            have st := star_cons (ck_star h3) [f] X.env
            have st2 := star_cons (ck_star h4) [] X.env
            refine (RZ.pi_zipA (A.glo h1) (A.free _ h2) (pa_cons (sndE a A h3) (pa_cons (sndE b A h4) pa_nil st2) st) st (by rw [st2]; rfl)).imp fun σ H Q ⟨Φ, ι, S, ρ, R, re, q⟩ => ?_
            simp only [itr] at q
            refine two_ok R re q fun w1 w2 v1 v2 Φ2 ι2 S2 H2 R2 r1 r2 q2 => ?_
            cases r1 with
            | lst s t =>
              cases r2 with
              | lst s' t' => exact ⟨_, _, _, _, rfl, .inl ⟨SqL.of (R2.sub _ _ s), SqL.of (R2.sub _ _ s'), by rw [← A.hK]; exact q2.here R2 _ (itOk_zip (SqL.of s) t (SqL.of s') t')⟩⟩
              | _ => exact q2.elim
            | tup s t =>
              cases r2 with
              | tup s' t' => exact ⟨_, _, _, _, rfl, .inr ⟨A.hK ▸ SqT.mono R2.sub s, A.hK ▸ SqT.mono R2.sub s', by rw [← A.hK]; exact q2.here R2 _ (itOk_zipT s t s' t')⟩⟩
              | _ => exact q2.elim
            | _ => exact q2.elim
          | _ => cases h0
        | [], _, h => simp [cki] at h
        | [_], _, h => simp [cki] at h
        | [_, _], _ :: _, h => simp [cki] at h
        | _ :: _ :: _ :: _, _, h => simp [cki] at h
      | _ => simp [cki] at h
    | _ => simp [cki] at h
end
end
end Gs
end

section
set_option linter.all false
set_option maxRecDepth 100000
set_option autoImplicit false
set_option maxHeartbeats 4000000
/-! GExc: exceptions raised, caught, looked at. -/
namespace Gs
open PySem PySem.Spec PyProof.Rows L2
variable [Wd]
/-- X(), X an own exception class without own __init__ -/
theorem pmk_own0 {X : Cx} {C : Addr} {bmB : List Value} {B newId initId : String} {x : Str} {p pos : Pos} (F : ExcBaseFacts B newId initId bmB) (q : PySem.W.excIn X.K C bmB newId = true) (gC : X.mg x = some (.ref C)) (kC : PySem.W.keepIn X.K (.ref C) = true) (r : Raises X (.ref C)) (hg : Gl X x)
    (hdb : (x == ("__debug__" : Str)) = false) : PMk X (.Call (.Name x p) [] [] pos) (fun σ H Q => Q (.ref C) none H) := by
  intro pins s σ H Q I h
  refine wpAny_Call_Name_kw (ld_glob I hg gC ?_ hdb)
  refine PySem.W.callWith_K0 I.kIn kC ?_
  obtain ⟨bm, N, nm, qn, bs, hdct, sn, sub, ab, col, dd, k0, k1, k2, k3, k5, mN, hC, hN, hni, T⟩ := exc_obj I.kIn q
  refine wpAny_call_exc_subT F T hC hN hni (fun h' e hm => ?_) (by show 0 ≤ sizeLine; omega)
  exact mk_of I hm r h (I.hok.gone hm.new)
def clsB (k : Ck) (t : Str) : Bool := glB k.sc t && plainX t && (k.xcs.contains t || (decide (t = "ValueError") && k.fr.contains t))
def ckX (k : Ck) (n : Str) (i : Nat) : Sx → Expr → Bool
  | .tt b, .Constant (.bool d) _ _ => decide (b = d)
  | .isx t, .Call (.Name f _) [.Name v _, .Name t' _] [] _ => decide (f = "isinstance") && glB k.sc f && k.fr.contains f && decide (v = n) && visB k.sc v && plainX v && decide (t = t') && clsB k t'
  | .not a, .UnaryOp .Not x _ => ckX k n i a x
  | .and a b, .BoolOp .And [x, y] _ => ckX k n i a x && ckX k n i b y
  | .and a (.and b c), .BoolOp .And [x, y, z] _ => ckX k n i a x && (ckX k n i b y && ckX k n i c z)
  | _, _ => false
theorem noExc {P : Program} {w : World} {outer : List Env} {H : Hp} {s s' : Shared} {e : Value} (h : L2.CX P w outer H s (fun _ _ _ => False) e s') : False := by
  obtain ⟨_, _, _, _, _, _, _, _, _, _, _, _, z⟩ := h
  exact z
theorem rfs_app {K : Frag} {Φ : Hp} {ι : List Addr} : ∀ {a b : List (Str × W)} {u v : List (Str × V)}, RFs K Φ ι a u → RFs K Φ ι b v → RFs K Φ ι (a ++ b) (u ++ v)
  | _, _, _, _, .nil, h => h
  | _, _, _, _, .cons x r, h => .cons x (rfs_app r h)
theorem rfs_rev {K : Frag} {Φ : Hp} {ι : List Addr} : ∀ {a : List (Str × W)} {u : List (Str × V)}, RFs K Φ ι a u → RFs K Φ ι a.reverse u.reverse
  | _, _, .nil => .nil
  | _, _, .cons x r => by
    rw [List.reverse_cons, List.reverse_cons]
    exact rfs_app (rfs_rev r) (.cons x .nil)
theorem rfs_zip {K : Frag} {Φ : Hp} {ι : List Addr} : ∀ (fs : List Str) {ws : List W} {vs : List V}, RVs K Φ ι ws vs → RFs K Φ ι (fs.zip ws) (fs.zip vs)
  | [], _, _, _ => .nil
  | _ :: _, _, _, .nil => .nil
  | f :: fs, _, _, .cons r t => .cons ⟨rfl, r⟩ (rfs_zip fs t)
theorem rfs_get {K : Frag} {Φ : Hp} {ι : List Addr} {f : Str} {w : W} : ∀ {a : List (Str × W)} {u : List (Str × V)}, RFs K Φ ι a u → lkS f a = some w → ∃ v, u.lookup f = some v ∧ RV K Φ ι w v
  | _, _, .nil, h => by cases h
  | (g, x) :: a, (g', y) :: u, .cons ⟨e, r⟩ t, h => by
    have e : g = g' := e
    subst e
    unfold lkS at h
    by_cases hg : g = f
    · subst hg
      rw [if_pos rfl] at h
      cases h
      exact ⟨y, by rw [List.lookup_cons]; simp, r⟩
    · rw [if_neg hg] at h
      obtain ⟨v, h1, h2⟩ := rfs_get t h
      exact ⟨v, by rw [List.lookup_cons, beq_eq_false_iff_ne.mpr (Ne.symm hg)]; exact h1, h2⟩
def ckHa (k : Ck) (n : Str) : Ha → Expr → Bool
  | .fld f, .Attribute (.Name v _) g _ => decide (v = n) && visB k.sc v && plainX v && decide (g = f) && k.xfs.any fun t => t.2.contains f
  | .str x, .Constant (.str y) _ _ => decide (x = y) && okSB x
  | .int i, .Constant (.int j) _ _ => decide (i = j)
  | .bl b, .Constant (.bool d) _ _ => decide (b = d)
  | .non, .Constant .none _ _ => true
  | _, _ => false
def ckHas (k : Ck) (n : Str) : List Ha → List Expr → Bool
  | [], [] => true
  | a :: as, e :: es => ckHa k n a e && ckHas k n as es
  | _, _ => false
def ckHx (k : Ck) (n : Str) : Hx → Expr → Bool
  | .at_ a, e => ckHa k n a e
  | .lst _ as, .List es _ => ckHas k n as es
  | _, _ => false
section
variable {c : Cf} {C : Cn} {X : Cx} {k : Ck} {Wx : WX}
/-- the caught exception's dict stands -/
def HcOk (d : Option Addr) (us : List (Str × V)) (H : Hp) : Prop := ∀ dx, d = some dx → H dx = some (.xd us)
theorem sndHa (A : Amb c C X k Wx) {n : Str} {i : Nat} (hi : k.N[i]? = some n) {a D : Addr} {oe : Obj} {d : Option Addr} {pn : List (Addr × Obj)} (hz : Zc (.ref D) d oe) (hf : ∃ vs, oe.data = .fields vs) {x : Str} (hx : c.cl x = some D)
    {fs : List (Str × W)} {us : List (Str × V)} {Φ : Hp} {ι : List Addr} (hd : d = none → fs = []) (rf : RFs c.K Φ ι fs us) (s : Str → Option Bool) :
    ∀ (h : Ha) (e : Expr) (w : W), ckHa k n h e = true → haW s fs h = some w → ∃ v, RV c.K Φ ι w v ∧ PE (X.suite a ((a, oe) :: pn)) e (fun σ H Q => σ[i]? = some (some (.ref a)) ∧ HcOk d us H ∧ Q v H) := by
  intro h e w hc hw
  cases h with
  | fld f =>
    cases e with
    | Attribute o g pa =>
      cases o with
      | Name v pv =>
        simp only [ckHa, Bool.and_eq_true, decide_eq_true_eq, List.any_eq_true, List.contains_iff_mem] at hc
        obtain ⟨⟨⟨⟨rfl, h1⟩, h2⟩, rfl⟩, t, ht, hft⟩ := hc
        obtain ⟨p1, p2, p3⟩ := plain_of h2
        obtain ⟨y, hy, ry⟩ := rfs_get rf hw
        obtain ⟨D', e1, ok⟩ := A.xc x (A.xm x D hx)
        rw [hx] at e1
        cases e1
        have hdd : ∃ dx, d = some dx := by
          cases hdn : d with
          | none => rw [hd hdn] at hw; cases hw
          | some dx => exact ⟨dx, rfl⟩
        obtain ⟨dx, rfl⟩ := hdd
        refine ⟨y, ry, (pe_xf (X := X) (a := a) (C := D) (oe := oe) (cls := .ref D) (d := some dx) (pn := pn) ⟨ok.ec.hg, ok.ec.hk, ok.ec.hs, ok.ec.hd⟩ (A.xn x D hx t ht _ hft) hz hf (pe_var (X := X.suite a ((a, oe) :: pn)) (i := i) (by show X.N[i]? = _; rw [A.N]; exact hi) (A.vis h1) p1 p2)).imp fun σ H Q ⟨q1, q2, q3⟩ => ?_⟩
        exact ⟨.ref a, q1, rfl, rfl, dx, us, y, rfl, q2 dx rfl, hy, q3⟩
      | _ => simp [ckHa] at hc
    | _ => simp [ckHa] at hc
  | str z =>
    cases e with
    | Constant q j p =>
      cases q with
      | str y =>
        simp only [ckHa, Bool.and_eq_true, decide_eq_true_eq] at hc
        obtain ⟨rfl, h2⟩ := hc
        cases hw
        have h2' : okS z := by simpa [okSB, okS] using h2
        exact ⟨.str z, .str h2', pe_str.imp fun σ H Q ⟨_, _, q⟩ => q⟩
      | _ => simp [ckHa] at hc
    | _ => simp [ckHa] at hc
  | int z =>
    cases e with
    | Constant q j p =>
      cases q with
      | int y =>
        simp only [ckHa, decide_eq_true_eq] at hc
        subst hc
        cases hw
        exact ⟨.int _, .int _, pe_int.imp fun σ H Q ⟨_, _, q⟩ => q⟩
      | _ => simp [ckHa] at hc
    | _ => simp [ckHa] at hc
  | bl z =>
    cases e with
    | Constant q j p =>
      cases q with
      | bool y =>
        simp only [ckHa, decide_eq_true_eq] at hc
        subst hc
        cases hw
        exact ⟨.bl _, .bl _, pe_bl.imp fun σ H Q ⟨_, _, q⟩ => q⟩
      | _ => simp [ckHa] at hc
    | _ => simp [ckHa] at hc
  | non =>
    cases e with
    | Constant q j p =>
      cases q with
      | none =>
        cases hw
        exact ⟨.non, .non, pe_non.imp fun σ H Q ⟨_, _, q⟩ => q⟩
      | _ => simp [ckHa] at hc
    | _ => simp [ckHa] at hc
  | bo t => cases e <;> simp [ckHa] at hc
theorem sndHas (A : Amb c C X k Wx) {n : Str} {i : Nat} (hi : k.N[i]? = some n) {a D : Addr} {oe : Obj} {d : Option Addr} {pn : List (Addr × Obj)} (hz : Zc (.ref D) d oe) (hf : ∃ vs, oe.data = .fields vs) {x : Str} (hx : c.cl x = some D)
    {fs : List (Str × W)} {us : List (Str × V)} {Φ : Hp} {ι : List Addr} (hd : d = none → fs = []) (rf : RFs c.K Φ ι fs us) (s : Str → Option Bool) :
    ∀ (hs : List Ha) (es : List Expr) (ws : List W), ckHas k n hs es = true → hasW s fs hs = some ws → ∃ vs, RVs c.K Φ ι ws vs ∧ PA (X.suite a ((a, oe) :: pn)) es (fun σ H Q => σ[i]? = some (some (.ref a)) ∧ HcOk d us H ∧ Q vs H)
  | [], [], ws, _, hw => by
    cases hw
    exact ⟨[], .nil, pa_nil.imp fun σ H Q ⟨_, _, q⟩ => q⟩
  | [], _ :: _, _, h, _ => by simp [ckHas] at h
  | _ :: _, [], _, h, _ => by simp [ckHas] at h
  | h :: hs, e :: es, ws, hc, hw => by
    simp only [ckHas, Bool.and_eq_true] at hc
    unfold hasW at hw
    split at hw
    · rename_i w1 ws1 h1 h2
      cases hw
      obtain ⟨v, rv, pv⟩ := sndHa A hi hz hf hx hd rf s h e w1 hc.1 h1
      obtain ⟨vs, rvs, pvs⟩ := sndHas A hi hz hf hx hd rf s hs es ws1 hc.2 h2
      have hst : notStar e = true := by
        cases h <;> cases e <;> first | rfl | (simp [ckHa] at hc)
      exact ⟨v :: vs, .cons rv rvs, (pa_cons pv pvs (star_cons hst _ _)).imp fun σ H Q ⟨q1, q2, q3⟩ => ⟨q1, q2, q1, q2, q3⟩⟩
    · cases hw
end
section
variable {c : Cf} {C : Cn} {X : Cx} {k : Ck} {Wx : WX}
/-- the class's name, loaded in the suite -/
theorem sndCls (A : Amb c C X k Wx) {t : Str} (h : clsB k t = true) {p : Pos} {a : Addr} {pn : List (Addr × Obj)} :
    ∃ (v : V) (cv : Value), PE (X.suite a pn) (.Name t p) (fun _ H Q => Q v H) ∧ (∀ u, RelV v u → u = cv) ∧ ∀ x b D, C.gl.sub x t = some b → c.cl x = some D → PySem.W.kitOne X.K (.ref D) cv = some b := by
  simp only [clsB, Bool.and_eq_true, Bool.or_eq_true, List.contains_iff_mem, decide_eq_true_eq] at h
  obtain ⟨⟨h1, h2⟩, h3⟩ := h
  obtain ⟨p1, p2, p3⟩ := plain_of h2
  by_cases hx : t ∈ k.xcs
  · obtain ⟨DT, q1, q2⟩ := A.xc t hx
    refine ⟨.ref DT, .ref DT, pe_glob (X := X.suite a pn) (A.glo h1) q2.mg rfl p1, fun u e => e, fun x b D e1 e2 => ?_⟩
    exact ((A.xs x t b D e1 e2).1 DT hx q1).2
  · rcases h3 with h3 | ⟨rfl, h3⟩
    · exact absurd h3 hx
    · refine ⟨.ty "ValueError", .type "ValueError", pe_bltn (X := X.suite a pn) (v := .ty "ValueError") (A.glo h1) (A.free _ h3) (by decide +kernel) rfl p3 p1, fun u e => e, fun x b D e1 e2 => ?_⟩
      exact (A.xs x _ b D e1 e2).2 rfl hx
theorem and2 {X : Cx} {y z : Expr} {p : Pos} {i : Nat} {a : Addr} {d d' : Bool} (h1 : PE X y (fun σ H Q => σ[i]? = some (some (.ref a)) ∧ Q (.bl d) H)) (h2 : PE X z (fun σ H Q => σ[i]? = some (some (.ref a)) ∧ Q (.bl d') H)) :
    PE X (.BoolOp .And [y, z] p) (fun σ H Q => σ[i]? = some (some (.ref a)) ∧ Q (.bl (d && d')) H) := by
  refine (pe_andT h1 (pe_one h2)).imp fun σ H Q ⟨q1, q2⟩ => ⟨q1, d, rfl, ?_⟩
  cases d with
  | true => exact iteT ⟨q1, q2⟩
  | false => exact iteF q2
theorem and3 {X : Cx} {y z u : Expr} {p : Pos} {i : Nat} {a : Addr} {d d' d2 : Bool} (h1 : PE X y (fun σ H Q => σ[i]? = some (some (.ref a)) ∧ Q (.bl d) H)) (h2 : PE X z (fun σ H Q => σ[i]? = some (some (.ref a)) ∧ Q (.bl d') H)) (h3 : PE X u (fun σ H Q => σ[i]? = some (some (.ref a)) ∧ Q (.bl d2) H)) :
    PE X (.BoolOp .And [y, z, u] p) (fun σ H Q => σ[i]? = some (some (.ref a)) ∧ Q (.bl (d && (d' && d2))) H) := by
  refine (pe_andT h1 (and2 h2 h3)).imp fun σ H Q ⟨q1, q2⟩ => ⟨q1, d, rfl, ?_⟩
  cases d with
  | true => exact iteT ⟨q1, q2⟩
  | false => exact iteF q2
theorem sndX (A : Amb c C X k Wx) {n : Str} {i : Nat} (hi : k.N[i]? = some n) {a D : Addr} {oe : Obj} {pn : List (Addr × Obj)} (hz : Zc (.ref D) none oe) (hf : ∃ vs, oe.data = .fields vs) {x : Str} (hx : c.cl x = some D) :
    ∀ (su : Sx) (e : Expr) (b : Bool), ckX k n i su e = true → sxB (C.gl.sub x) su = some b → PE (X.suite a ((a, oe) :: pn)) e (fun σ H Q => σ[i]? = some (some (.ref a)) ∧ Q (.bl b) H)
  | .tt d, e, b, h, hb => by
    cases e with
    | Constant z j p =>
      cases z with
      | bool d' =>
        simp only [ckX, decide_eq_true_eq] at h
        subst h
        cases hb
        exact pe_bl.imp fun σ H Q q => q.2
      | _ => simp [ckX] at h
    | _ => simp [ckX] at h
  | .isx t, e, b, h, hb => by
    match e, h with
    | .Call (.Name f pf) [.Name v pv, .Name t' pt] [] p, h =>
      simp only [ckX, Bool.and_eq_true, decide_eq_true_eq, List.contains_iff_mem] at h
      obtain ⟨⟨⟨⟨⟨⟨⟨rfl, h1⟩, h2⟩, rfl⟩, h3⟩, h4⟩, rfl⟩, h5⟩ := h
      obtain ⟨p1, p2, p3⟩ := plain_of h4
      obtain ⟨vc, cv, hc, hv, hk⟩ := sndCls A h5 (p := pt) (a := a) (pn := (a, oe) :: pn)
      have hD := (A.xc x (A.xm x D hx))
      obtain ⟨D', e1, ok⟩ := hD
      rw [hx] at e1
      cases e1
      have hA : PA (X.suite a ((a, oe) :: pn)) [.Name v pv, .Name t pt] _ := pa_cons (pe_var (X := X.suite a ((a, oe) :: pn)) (by show X.N[i]? = _; rw [A.N]; exact hi) (A.vis h3) p1 p2) (pa_cons hc pa_nil rfl) rfl
      refine (pe_callB (call_isE ok.ec hz hf) (A.glo h1) (A.free _ h2) (by decide +kernel) hA (by decide) (by decide) rfl rfl).imp fun σ H Q ⟨q1, q2⟩ => ?_
      exact ⟨_, q1, vc, cv, b, rfl, hv, hk x b D hb hx, q2⟩
  | .not su, e, b, h, hb => by
    cases e with
    | UnaryOp o r p =>
      cases o with
      | Not =>
        simp only [ckX] at h
        simp only [sxB] at hb
        split at hb
        · rename_i d hd
          cases hb
          refine (pe_notT (sndX A hi hz hf hx su r d h hd)).imp fun σ H Q ⟨q1, q2⟩ => ⟨q1, d, rfl, q2⟩
        · cases hb
      | _ => simp [ckX] at h
    | _ => simp [ckX] at h
  | .and su sv, e, b, h, hb => by
    match e, h with
    | .BoolOp .And [y, z] p, h =>
      have h' : ckX k n i su y = true ∧ ckX k n i sv z = true := by
        cases su <;> cases sv <;> simpa [ckX] using h
      simp only [sxB] at hb
      split at hb
      · rename_i d d' hd hd'
        cases hb
        exact and2 (sndX A hi hz hf hx su y d h'.1 hd) (sndX A hi hz hf hx sv z d' h'.2 hd')
      · cases hb
    | .BoolOp .And [y, z, u] p, h =>
      match sv, h with
      | .and sb sc, h =>
        have h' : ckX k n i su y = true ∧ (ckX k n i sb z = true ∧ ckX k n i sc u = true) := by
          simpa [ckX] using h
        simp only [sxB] at hb
        split at hb
        · rename_i d d' hd hd'
          cases hb
          split at hd'
          · rename_i d1 d2 h1 h2
            cases hd'
            exact and3 (sndX A hi hz hf hx su y d h'.1 hd) (sndX A hi hz hf hx sb z d1 h'.2.1 h1) (sndX A hi hz hf hx sc u d2 h'.2.2 h2)
          · cases hd'
        · cases hb
end
end Gs
end

section
set_option linter.all false
set_option maxRecDepth 100000
set_option autoImplicit false
set_option maxHeartbeats 4000000
/-! GHds: except clauses that give back constants. -/
namespace Gs
open PySem PySem.Spec PyProof.Rows L2
variable [Wd]
mutual
def ckK : E → Expr → Bool
  | .cstr x, z => (match z with
    | .Constant (.str y) _ _ => decide (x = y) && okSB x
    | _ => false)
  | .cint i, z => (match z with
    | .Constant (.int j) _ _ => decide (i = j)
    | _ => false)
  | .cbl b, z => (match z with
    | .Constant (.bool d) _ _ => decide (b = d)
    | _ => false)
  | .cnon, z => (match z with
    | .Constant .none _ _ => true
    | _ => false)
  | .tup es, z => (match z with
    | .Tuple xs _ _ => ckKs es xs
    | _ => false)
  | .lst _ es, z => (match z with
    | .List xs _ => ckKs es xs
    | _ => false)
  | _, _ => false
def ckKs : List E → List Expr → Bool
  | [], [] => true
  | e :: es, x :: xs => ckK e x && ckKs es xs
  | _, _ => false
end
theorem ckK_star {e : E} {x : Expr} (h : ckK e x = true) : notStar x = true := by
  cases e <;> cases x <;> first | rfl | (simp [ckK] at h)
mutual
theorem sndK {c : Cf} {Y : Cx} (hK : c.K = Y.K) : ∀ (e : E) (x : Expr), ckK e x = true → PE Y x (fun σ H Q => ∃ (Φ : Hp) (ι : List Addr) (S : Store), Rel c.K Φ ι S H ∧ After c Φ ι H (cstO e S) (QV c Q) (fun _ _ _ => True))
  | .cint i, x, h => by
    cases x with
    | Constant v n p =>
      cases v with
      | int j =>
        simp only [ckK, decide_eq_true_eq] at h
        subst h
        exact pe_int.imp fun σ H Q ⟨Φ, ι, S, R, q⟩ => same_ok R (.int _) (by simpa only [cstO] using q)
      | _ => simp [ckK] at h
    | _ => simp [ckK] at h
  | .cstr z, x, h => by
    cases x with
    | Constant v n p =>
      cases v with
      | str j =>
        simp only [ckK, Bool.and_eq_true, decide_eq_true_eq, okSB] at h
        obtain ⟨rfl, h2⟩ := h
        exact pe_str.imp fun σ H Q ⟨Φ, ι, S, R, q⟩ => same_ok R (.str h2) (by simpa only [cstO] using q)
      | _ => simp [ckK] at h
    | _ => simp [ckK] at h
  | .cbl b, x, h => by
    cases x with
    | Constant v n p =>
      cases v with
      | bool j =>
        simp only [ckK, decide_eq_true_eq] at h
        subst h
        exact pe_bl.imp fun σ H Q ⟨Φ, ι, S, R, q⟩ => same_ok R (.bl _) (by simpa only [cstO] using q)
      | _ => simp [ckK] at h
    | _ => simp [ckK] at h
  | .cnon, x, h => by
    cases x with
    | Constant v n p =>
      cases v with
      | none => exact pe_non.imp fun σ H Q ⟨Φ, ι, S, R, q⟩ => same_ok R .non (by simpa only [cstO] using q)
      | _ => simp [ckK] at h
    | _ => simp [ckK] at h
  | .tup es, x, h => by
    cases x with
    | Tuple xs n p =>
      refine (pe_tup (sndKs hK es xs (by simpa [ckK] using h))).imp fun σ H Q ⟨Φ, ι, S, R, q⟩ => ?_
      simp only [cstO] at q
      refine ⟨Φ, ι, S, R, q.bd.imp fun ws Φ1 ι1 S1 H1 e1 R1 h1 vs rv => ?_⟩
      split at h1
      · rename_i hz
        exact ⟨by rw [← rv.length, sizeLine_eq]; exact hz, newT_ok R1 rv h1⟩
      · exact h1.elim
    | _ => simp [ckK] at h
  | .lst fz es, x, h => by
    cases x with
    | List xs p =>
      refine (pe_lst (sndKs hK es xs (by simpa [ckK] using h))).imp fun σ H Q ⟨Φ, ι, S, R, q⟩ => ?_
      simp only [cstO] at q
      exact ⟨Φ, ι, S, R, q.bd.imp fun ws Φ1 ι1 S1 H1 e1 R1 h1 vs rv => newL_ok R1 rv h1⟩
    | _ => simp [ckK] at h
  | .var _, _, h => by simp [ckK] at h
  | .tyc _, _, h => by simp [ckK] at h
  | .glo _, _, h => by simp [ckK] at h
  | .bin _ _ _ _, _, h => by simp [ckK] at h
  | .neg _, _, h => by simp [ckK] at h
  | .not _, _, h => by simp [ckK] at h
  | .and _, _, h => by simp [ckK] at h
  | .or _, _, h => by simp [ckK] at h
  | .cmp _ _ _, _, h => by simp [ckK] at h
  | .ch _ _ _ _ _, _, h => by simp [ckK] at h
  | .ch3 _ _ _ _ _ _ _, _, h => by simp [ckK] at h
  | .ife _ _ _, _, h => by simp [ckK] at h
  | .call _ _, _, h => by simp [ckK] at h
  | .bi _ _, _, h => by simp [ckK] at h
  | .mt _ _ _, _, h => by simp [ckK] at h
  | .ix _ _, _, h => by simp [ckK] at h
  | .gix _ _, _, h => by simp [ckK] at h
  | .calv _ _, _, h => by simp [ckK] at h
  | .sl _ _ _ _, _, h => by simp [ckK] at h
  | .rev _ _, _, h => by simp [ckK] at h
  | .dead, _, h => by simp [ckK] at h
  | .maxd _ _, _, h => by simp [ckK] at h
  | .dnew, _, h => by simp [ckK] at h
  | .dg2 _ _ _, _, h => by simp [ckK] at h
  | .dlit _, _, h => by simp [ckK] at h
  | .lrng _ _, _, h => by simp [ckK] at h
  | .maxk _ _, _, h => by simp [ckK] at h
  | .lens _, _, h => by simp [ckK] at h
  | .tabc _ _ _ _ _ _, _, h => by simp [ckK] at h
  | .tin _ _ _ _, _, h => by simp [ckK] at h
  | .tix _ _ _, _, h => by simp [ckK] at h
  | .tget _ _ _, _, h => by simp [ckK] at h
  | .tnew, _, h => by simp [ckK] at h
  | .dcomp _ _ _ _ _, _, h => by simp [ckK] at h
  | .fstr _, _, h => by simp [ckK] at h
  | .revm _ _, _, h => by simp [ckK] at h
  | .rev2 _ _, _, h => by simp [ckK] at h
  | .lzip _ _ _, _, h => by simp [ckK] at h
  | .kcall _ _ _ _, _, h => by simp [ckK] at h
  | .dcall _ _ _, _, h => by simp [ckK] at h
  | .frz _, _, h => by simp [ckK] at h
  | .lc _ _ _ _ _ _, _, h => by simp [ckK] at h
  | .lcV _ _ _ _ _ _, _, h => by simp [ckK] at h
  | .lc2 _ _ _ _ _ _ _ _ _ _, _, h => by simp [ckK] at h
theorem sndKs {c : Cf} {Y : Cx} (hK : c.K = Y.K) : ∀ (es : List E) (xs : List Expr), ckKs es xs = true → PA Y xs (fun σ H Q => ∃ (Φ : Hp) (ι : List Addr) (S : Store), Rel c.K Φ ι S H ∧ After c Φ ι H (cstOs es S) (QVs c Q) (fun _ _ _ => True))
  | [], xs, h => by
    cases xs with
    | nil => exact pa_nil.imp fun σ H Q ⟨Φ, ι, S, R, q⟩ => (by simpa only [cstOs] using q : After c Φ ι H (.ok [] S) (QVs c Q) _).here R [] .nil
    | cons _ _ => simp [ckKs] at h
  | e :: es, xs, h => by
    cases xs with
    | nil => simp [ckKs] at h
    | cons x xs =>
      simp only [ckKs, Bool.and_eq_true] at h
      refine (pa_cons (sndK hK e x h.1) (sndKs hK es xs h.2) (star_cons (ckK_star h.1) _ _)).imp fun σ H Q ⟨Φ, ι, S, R, q⟩ => ?_
      simp only [cstOs] at q
      refine ⟨Φ, ι, S, R, q.bd.imp fun w Φ1 ι1 S1 H1 e1 R1 h1 v rv => ?_⟩
      exact ⟨Φ1, ι1, S1, R1, h1.bd.imp fun ws Φ2 ι2 S2 H2 e2 R2 h2 vs rvs => h2.here R2 _ (.cons (e2.rv rv) rvs)⟩
end
/-- name = {..} on one line, the name a local -/
theorem ps_setDc {X : Cx} {i : Nat} {y : Str} {py : Pos} {kx vx tg iter : Expr} {ifs : List Expr} {scope : Scope} {own : List (Str × Nat)} {pos spos : Pos} {wi : TI} {g : TG} {tt : TT} {tk tv : TE} (hc : X.calm = true) (hN : X.N.Nodup) (hy : X.N[i]? = some y) (hyl : X.env.scope.names.lookup y = some .local)
    (hsw : swapsWith (.DictComp kx vx [⟨tg, iter, ifs, 0⟩] scope pos) (some (.Name y py)) spos.line X.env = pure true) (hi : PI X tg iter wi) (ok : BlkOk X.N X.env.scope scope own)
    (hg : ∀ (s : Shared) (H : Hp) (C : Addr) (cl : List (Str × Addr)) (fp : List Addr), PG (X.blk s H scope (compEnvC scope cl C X.env) fp) tg g) (ht : ∀ (s : Shared) (H : Hp) (C : Addr) (cl : List (Str × Addr)) (fp : List Addr), PTs (X.blk s H scope (compEnvC scope cl C X.env) fp) ifs tt)
    (hk : ∀ (s : Shared) (H : Hp) (C : Addr) (cl : List (Str × Addr)) (fp : List Addr), PE (X.blk s H scope (compEnvC scope cl C X.env) fp) kx tk)
    (he : ∀ (s : Shared) (H : Hp) (C : Addr) (cl : List (Str × Addr)) (fp : List Addr), PE (X.blk s H scope (compEnvC scope cl C X.env) fp) vx tv) (hs : ∀ x, foldedSetIterable iter X.env x = pure x) :
    PS X (.Assign [.Name y py] (.DictComp kx vx [⟨tg, iter, ifs, 0⟩] scope pos) spos) (tAsg (tDc wi g tt tk tv (own.map (·.2))) (gName i)) := by
  refine ⟨fun pins s σ H D I h => ?_⟩
  rw [exec_Assign_Name_used _ _ _ _ hsw]
  refine wpAny_bind (wpAny_standAt (wpAny_bind ?_))
  show wpAny _ X.A (do let _ ← comprehension (.DictComp kx vx [⟨tg, iter, ifs, 0⟩] scope pos) scope X.env (firstIterPos [⟨tg, iter, ifs, 0⟩] pos) newDict false (eval iter X.env) (some (assign (.Name y py) X.env))) _ _ s
  have h : tDc wi g tt tk tv (own.map (·.2)) σ H (fun x H1 => gName i x σ H1 D.nx) := h
  refine wpAny_bind (thn (dc_core (Qf := fun _ s' => SP X pins D .next s') hc hN I hi ok hg ht hk he hs h fun L C s' m H' I' q hn f => ?_) fun _ s' hq => wpAny_pure (wpAny_pure hq))
  show wpAny _ _ (assign (.Name y py) X.env (.ref L)) _ _ _
  refine wpAny_assign_Name (store_ok2 (v := V.ref L) I' hN hy (.inl hyl) rfl (fun s2 I2 ⟨a, sb, ha⟩ => ?_) (.inr hyl))
  obtain ⟨f0, f1, f2, f3, f4, f5⟩ := f
  have haC : C ≠ a := by
    rcases ha with z | z
    · rw [z]; exact f1
    · exact fun e => f4 y a z e.symm
  refine ⟨m, hn.sameBut sb haC, fun h3 sb3 => ?_⟩
  exact ⟨_, H', I2.turned (t' := s2.toks) (fun b o hb e => (sb3.2 b hb).trans e) f0 f1 f3 f4 f5, q⟩
theorem sw_trueD {kx vx : Expr} {gs : List Comprehension} {scope : Scope} {pos py : Pos} {y : Str} {l : Nat} {env : Env} (hk : env.scope.kind = .function) (hy : env.scope.names.lookup y = some .local) (hl : (py.line == pos.line) = true)
    (ha : (scope.names.any fun (n, k) => n == y && (k == .local || k == .cell)) = false) : swapsWith (.DictComp kx vx gs scope pos) (some (.Name y py)) l env = pure true := by
  have ky : env.kindOf y = some .local := hy
  have hb : env.blockKind = .function := by unfold Env.blockKind; rw [hk]; rfl
  unfold swapsWith
  simp only [hb, ky, ha, Expr.pos, hl]
  rfl
/-- t += u, tuples -/
theorem noI_tuple_add : typeLookup (.type "tuple") (dunderI "add") = pure none := by rw [typeLookup_type, builtinLookup_eq_fast]; kernel_rfl
theorem iop_catA {X : Cx} : OpR X (inplaceOp .Add) (rCatA X.K) := by
  intro pins s σ H x y v u Q I rx ry h
  obtain ⟨a, b, xs, ys, rfl, rfl, ha, hb, hz, q0, q1, q2⟩ := h
  cases rx
  cases ry
  obtain ⟨its, r1, p1, _⟩ := I.tuple ha
  obtain ⟨its2, r2, p2, _⟩ := I.tuple hb
  obtain ⟨⟨cls, dd, data, sl⟩, ho, hc, n, hd⟩ := id p1
  obtain ⟨⟨cls2, dd2, data2, sl2⟩, ho2, hc2, n2, hd2⟩ := id p2
  simp only at hc hd hc2 hd2
  subst hc hd hc2 hd2
  have hl1 := r1.length
  have hl2 := r2.length
  by_cases hx : xs = []
  · subst hx
    cases r1
    exact wpAny_inplaceOp_concat ⟨_, ho, rfl⟩ ⟨_, ho2, rfl⟩ noI_tuple_add noFill_tuple_add seq_tuple_add (call_meets PySem.F.slot_tuple_add ⟨_, ho, rfl⟩ PySem.F.entry_tuple_add (PySem.F.args_tuple_add_2 _ _)
      (tuple_addW0 a b ([] : List Value).toArray its2.toArray n n2 dd dd2 sl sl2 (by simp)) ⟨ho, ho2, .ref b, H, I, rfl, q0 rfl⟩)
  · have hv : its ≠ [] := fun z => hx (r1.nil_iff.mp z)
    by_cases hy : ys = []
    · have hw : its2 = [] := r2.nil_iff.mpr hy
      exact wpAny_inplaceOp_concat ⟨_, ho, rfl⟩ ⟨_, ho2, rfl⟩ noI_tuple_add noFill_tuple_add seq_tuple_add (call_meets PySem.F.slot_tuple_add ⟨_, ho, rfl⟩ PySem.F.entry_tuple_add (PySem.F.args_tuple_add_2 _ _)
        (tuple_addW1 a b its.toArray its2.toArray n n2 dd dd2 sl sl2 (by simpa using hv) (by simp [hw])) ⟨ho, ho2, .ref a, H, I, rfl, q1 hx hy⟩)
    · have hw : its2 ≠ [] := fun z => hy (r2.nil_iff.mp z)
      have e : its.toArray ++ its2.toArray = (its ++ its2).toArray := by simp
      refine wpAny_inplaceOp_concat ⟨_, ho, rfl⟩ ⟨_, ho2, rfl⟩ noI_tuple_add noFill_tuple_add seq_tuple_add (call_meets PySem.F.slot_tuple_add ⟨_, ho, rfl⟩ PySem.F.entry_tuple_add (PySem.F.args_tuple_add_2 _ _)
        (tuple_addW2 a b its.toArray its2.toArray n n2 dd dd2 sl sl2 (by simpa using hv) (by simpa using hw) (by rw [List.size_toArray, List.size_toArray]; omega)) ⟨ho, ho2, ?_⟩)
      rw [e]
      refine ⟨.ref s.heap.objs.size, _, I.laid (t' := s.toks) (o := .tup (xs ++ ys)) (fun b ob q => Heap.get?_push_of_some _ q) (Nat.le_refl _) ?_, rfl, q2 hx hy _ (I.hok.fresh (Nat.le_refl _))⟩
      exact ⟨by rw [List.length_append]; exact hz, _, r1.append r2, IsTup.new _ _⟩
end Gs
end

section
set_option linter.all false
set_option maxRecDepth 100000
set_option autoImplicit false
set_option maxHeartbeats 4000000
namespace Gs
open PySem PySem.Spec PyProof.Rows L2
variable [Wd]
/-- a def's own context -/
structure Fr (X : Cx) : Prop where
  stk : X.stack = X.env :: X.outer
  frm : X.env.frame = some X.env.locals
theorem Amb.tr {c : Cf} {C : Cn} {X : Cx} {k : Ck} {Wx W : WX} (A : Amb c C X k Wx) {pn : List (Addr × Obj)} {xe : Value → Shared → Prop} (tk : Takes (X.tr pn xe) W) : Amb c C (X.tr pn xe) k W where
  hK := A.hK
  calm := A.calm
  nd := A.nd
  N := A.N
  sc := A.sc
  fn := A.fn
  un := A.un
  hw := A.hw
  free := A.free
  gl := A.gl
  gd := A.gd
  nofn := A.nofn
  xc := A.xc
  xs := A.xs
  xm := A.xm
  x0 := A.x0
  xf := A.xf
  xn := A.xn
  rm := A.rm
  tk := tk
  call := A.call
  kcall := A.kcall
theorem Amb.nox {c : Cf} {C : Cn} {X : Cx} {k : Ck} {Wx : WX} (A : Amb c C X k Wx) : Amb c C X.nox k (fun _ _ _ _ => False) where
  hK := A.hK
  calm := A.calm
  nd := A.nd
  N := A.N
  sc := A.sc
  fn := A.fn
  un := A.un
  hw := A.hw
  free := A.free
  gl := A.gl
  gd := A.gd
  nofn := A.nofn
  xc := A.xc
  xs := A.xs
  xm := A.xm
  x0 := A.x0
  xf := A.xf
  xn := A.xn
  rm := A.rm
  tk := takes0
  call := A.call
  kcall := A.kcall
/-! ### statements held against their form -/
def notComp : Expr → Bool
  | .ListComp .. => false
  | .SetComp .. => false
  | .DictComp .. => false
  | _ => true
def notTup : Expr → Bool
  | .Tuple .. => false
  | _ => true
def isLocal (k : Ck) (x : Str) : Bool := match k.sc.names.lookup x with
  | some .local => true
  | _ => false
/-- y = [..] on one line, y a local that the comprehension does not have -/
def swB (k : Ck) (y : Str) (py pos : Pos) (scope : Scope) : Bool := isLocal k y && (py.line == pos.line) && !(scope.names.any fun (n, d) => n == y && (d == .local || d == .cell)) && (match k.sc.kind with | .function => true | _ => false)
def parB (k : Ck) (x y : Str) (px py : Pos) (a b : Expr) : Bool := isLocal k x && isLocal k y && decide (x ≠ y) && (px.line == py.line) && notStar a && notStar b && !([a, b].all (foldedForSure 8)) && !([a, b].all (constantsAlone 8)) && (match k.sc.kind with | .function => true | _ => false)
def isCell (k : Ck) (x : Str) : Bool := match k.sc.names.lookup x with
  | some .cell => true
  | _ => false
def ckNm (k : Ck) (i : Nat) (e : E) (x : Str) (px : Pos) (v : Expr) : Bool := decide (k.N[i]? = some x) && locB k x && ck k e v && ((notComp v || isCell k x) || (match e, v with
      | .lc .., .ListComp _ _ scope pos => swB k x px pos scope
      | .lc2 .., .ListComp _ _ scope pos => swB k x px pos scope
      | .lcV .., .ListComp _ _ scope pos => swB k x px pos scope
      | .dcomp .., .DictComp _ _ _ scope pos => swB k x px pos scope
      | _, _ => false))
def ckTryA (k : Ck) (i : Nat) (e : E) (c : Str) (r : E) (x : Stmt) : Bool := match x with
  | .Try [.Assign [.Name z _] v _] [.ExceptHandler (some (.Name y _)) none [.Assign [.Name z' _] u _] _] [] [] _ => decide (k.N[i]? = some z) && decide (z = z') && locB k z && ck k e v && notComp v && decide (c = y) && glB k.sc y && k.xcs.contains y && plainX y && ckK r u
  | _ => false
def ckHds (k : Ck) : List (Str × E) → List ExceptHandler → Bool
  | [], [] => true
  | (c, r) :: hs, h :: hds => (match h with
    | .ExceptHandler (some (.Name y _)) none [.Return (some e) _] _ => decide (c = y) && glB k.sc y && k.xcs.contains y && plainX y && ckK r e
    | _ => false) && ckHds k hs hds
  | _, _ => false
def par3B (k : Ck) (x y z : Str) (px py pz : Pos) (a b c : Expr) : Bool := isLocal k x && isLocal k y && isLocal k z && decide (x ≠ y) && decide (x ≠ z) && decide (y ≠ z) && (px.line == py.line) && (px.line == pz.line) && notStar a && notStar b && notStar c && !([a, b, c].all (foldedForSure 8)) && !([a, b, c].all (constantsAlone 8)) && (match k.sc.kind with | .function => true | _ => false)
def ckPar3 (k : Ck) (i j l : Nat) (a b c : E) (x : Stmt) : Bool := match x with
  | .Assign [.Tuple [.Name x px, .Name y py, .Name z pz] _ _] (.Tuple [a', b', c'] _ _) _ => decide (k.N[i]? = some x) && decide (k.N[j]? = some y) && decide (k.N[l]? = some z) && par3B k x y z px py pz a' b' c' && ck k a a' && ck k b b' && ck k c c'
  | _ => false
/-- two names, the first a cell -/
def cell2 (k : Ck) (es : List Expr) : Bool := match es with
  | [.Name x _, .Name _ _] => isCell k x
  | _ => false
def ckAsg (k : Ck) (t : Tg) (e : E) (x : Stmt) : Bool := match t, x with
  | .nm i, .Assign [.Name x px] v _ => ckNm k i e x px v
  | .tp ts, .Assign [.Tuple es n p] v _ => ckT k (.tp ts) (.Tuple es n p) && ck k e v && (notTup v || cell2 k es)
  | _, _ => false
def ckPar (k : Ck) (i j : Nat) (a b : E) (x : Stmt) : Bool := match x with
  | .Assign [.Tuple [.Name x px, .Name y py] _ _] (.Tuple [a', b'] _ _) _ => decide (k.N[i]? = some x) && decide (k.N[j]? = some y) && parB k x y px py a' b' && ck k a a' && ck k b b'
  | _ => false
def ckSub (k : Ck) (o i e : E) (x : Stmt) : Bool := match x with
  | .Assign [.Subscript o' i' _] v _ => ck k o o' && ck k i i' && ck k e v
  | _ => false
def ckAug (k : Ck) (i : Nat) (op : Operator) (e : E) (x : Stmt) : Bool := match x with
  | .AugAssign (.Name x _) op' v _ => decide (k.N[i]? = some x) && locB k x && decide (op = op') && ck k e v
  | _ => false
def ckStar (k : Ck) (i : Nat) : List Tg → List Expr → Bool
  | [], [.Starred (.Name y _) _] => decide (k.N[i]? = some y) && locB k y
  | t :: ts, e :: es => ckT k t e && ckStar k i ts es
  | _, _ => false
def ckAsgS (k : Ck) (ts : List Tg) (i : Nat) (e : E) (x : Stmt) : Bool := match x with
  | .Assign [.Tuple es _ _] v _ => ckStar k i ts es && ck k e v && notTup v
  | _ => false
def ckLcX (k : Ck) (i : Nat) (fz : Bool) (own : List Nat) (t : Tg) (it : I) (e : E) (x : Stmt) : Bool := match x with
  | .Assign [.Name y py] v _ => decide (k.N[i]? = some y) && ck k (.lc fz own t it [] e) v && (match v with
    | .ListComp _ _ scope pos => swB k y py pos scope
    | _ => false)
  | _ => false
mutual
def ckS (k : Ck) : Sm → Stmt → Bool
  | .asgS ts i e, x => ckAsgS k ts i e x
  | .asg t e, x => ckAsg k t e x
  | .asgX i fz own t it e, x => ckLcX k i fz own t it e x
  | .par i j a b, x => ckPar k i j a b x
  | .par3 i j l a b c, x => ckPar3 k i j l a b c x
  | .tryA i e c r, x => ckTryA k i e c r x
  | .tryC b hs, x => (match x with
    | .Try body (h :: hds) [] [] _ => ckSs k b body && ckHds k hs (h :: hds)
    | _ => false)
  | .sub o i e, x => ckSub k o i e x
  | .aug i op e, x => ckAug k i op e x
  | .ret e, .Return (some v) _ => ck k e v
  | .retN, .Return none _ => true
  | .expr e, .Expr v _ => ck k e v && notComp v
  | .ife t a b, .If x as bs _ => ckC k t x && ckSs k a as && ckSs k b bs
  | .for t it b, .For tg iter bs [] _ => ckT k t tg && cki k (isTupE tg) it iter && ckSs k b bs
  | .whl t b, .While x bs [] _ => ckC k t x && ckSs k b bs
  | .brk, .Break _ => true
  | .cnt, .Continue _ => true
  | .pass, .Pass _ => true
  | .dead, _ => true
  | .forV t i b, x => (match x with
    | .For tg (.Name x _) bs [] _ => ckT k t tg && decide (k.N[i]? = some x) && visB k.sc x && plainX x && ckSs k b bs
    | _ => false)
  | .forE t i b, x => (match x with
    | .For (.Tuple elts kk tp) (.Call (.Name f _) [.Name x _] [] _) bs [] _ => ckT k t (.Tuple elts kk tp) && decide (f = "enumerate") && glB k.sc f && k.fr.contains f && decide (k.N[i]? = some x) && visB k.sc x && plainX x && ckSs k b bs
    | _ => false)
  | .raise0 c, x => (match x with
    | .Raise (some (.Call (.Name x _) [] [] _)) none _ => decide (c = x) && glB k.sc x && k.xcs.contains x && plainX x && !(k.xfs.map (·.1)).contains x
    | _ => false)
  | .raiseN c fs es, x => (match x with
    | .Raise (some (.Call (.Name x _) xs [] _)) none _ => decide (c = x) && glB k.sc x && plainX x && (k.xfs.any fun t => decide (t.1 = c ∧ t.2 = fs)) && cks k es xs && decide (xs ≠ []) && decide (fs.length ≤ 100)
    | _ => false)
  | .tryP b, x => (match x with
    | .Try body (_ :: _) [] [] _ => ckSs k b body
    | _ => false)
  | .tryH b c i r, x => (match x with
    | .Try body [.ExceptHandler (some (.Name y _)) (some n) [.Return (some e) _] _] [] [] _ => ckSs k b body && decide (c = y) && glB k.sc y && k.xcs.contains y && plainX y && decide (k.N[i]? = some n) && isLocal k n && ckHx k n r e
    | _ => false)
  | .tryR b c i su, x => (match x with
    | .Try body [.ExceptHandler (some (.Name y _)) (some n) [.Return (some e) _] _] [] [] _ => ckSs k b body && decide (c = y) && glB k.sc y && k.xcs.contains y && plainX y && decide (k.N[i]? = some n) && isLocal k n && ckX k n i su e
    | _ => false)
  | _, _ => false
def ckSs (k : Ck) : List Sm → List Stmt → Bool
  | [], [] => true
  | s :: ss, x :: xs => ckS k s x && ckSs k ss xs
  | _, _ => false
end
section
variable (c : Cf) (Wx : WX)
/-- what is wanted behind a statement, by its plain end -/
def QF (D : Ends) : Fl → Hp → List Addr → Store → Hp → Prop := fun fl Φ' ι' _ H' => match fl with
  | .nx ρ => ∀ σ, REnv c.K Φ' ι' ρ σ → D.nx σ H'
  | .rt w => ∀ v, RV c.K Φ' ι' w v → D.rt v H'
  | .bk ρ => ∀ σ, REnv c.K Φ' ι' ρ σ → D.bk σ H'
  | .ct ρ => ∀ σ, REnv c.K Φ' ι' ρ σ → D.ct σ H'
def rdS (f : Rho → Store → Out Fl) : TS := fun D σ H => ∃ (Φ : Hp) (ι : List Addr) (S : Store) (ρ : Rho), Rel c.K Φ ι S H ∧ REnv c.K Φ ι ρ σ ∧ After c Φ ι H (f ρ S) (QF c D) (fun cls d H' => ∀ σ', Wx cls d σ' H')
end
/-- what a handler's worth does lets nothing out -/
theorem After.noexc {α : Type} {c : Cf} {Φ H : Hp} {ι : List Addr} {o : Out α} {Q : α → Hp → List Addr → Store → Hp → Prop} {E : XK} (h : After c Φ ι H o Q E) : After c Φ ι H o Q (fun _ _ _ => True) := by
  cases o with
  | ok a S => exact h
  | ex x S => exact fun _ _ _ _ _ _ _ _ => True.intro
  | no => exact h
theorem _root_.L2.PS.imp {X : Cx} {e : Stmt} {t t' : TS} (h : PS X e t) (k : ∀ D σ H, t' D σ H → t D σ H) : PS X e t' := ⟨fun pins s σ H D I q => h.run pins s σ H D I (k D σ H q)⟩
theorem _root_.L2.PSs.imp {X : Cx} {e : List Stmt} {t t' : TS} (h : PSs X e t) (k : ∀ D σ H, t' D σ H → t D σ H) : PSs X e t' := ⟨fun pins s σ H D I q => h.run pins s σ H D I (k D σ H q)⟩
section
variable {c : Cf} {C : Cn} {X : Cx} {k : Ck} {Wx : WX}
theorem After.bdS {α β : Type} {Φ H : Hp} {ι : List Addr} {o : Out α} {f : α → Store → Out β} {Q : β → Hp → List Addr → Store → Hp → Prop} {σ : L2.St} (h : After c Φ ι H (o.bd f) Q (fun cls d H' => ∀ σ', Wx cls d σ' H')) :
    After c Φ ι H o (fun a Φ' ι' S' H' => After c Φ' ι' H' (f a S') Q (fun cls d H' => ∀ σ', Wx cls d σ' H')) (fun cls d H' => Wx cls d σ H') := (h.bd).exc fun cls d H z => z σ
theorem noSwap {v : Expr} {t : Option Expr} {l : Nat} {env : Env} (h : notComp v = true) : swapsWith v t l env = pure false := by
  cases v <;> first | rfl | cases h
theorem noSwapT {v : Expr} {es : List Expr} {n : Nat} {p : Pos} {l : Nat} {env : Env} : swapsWithSole [.Tuple es n p] v l env = pure false := by
  cases v <;> rfl
theorem noSwapSub {v o i : Expr} {p : Pos} {l : Nat} {env : Env} : swapsWithSole [.Subscript o i p] v l env = pure false := by
  cases v <;> rfl
theorem asgSub {o i : Expr} {pos : Pos} {env : Env} (h : notSlice i = true) : ∀ v, assign (.Subscript o i pos) env v = (do
      let ov ← holding [v] (eval o env)
      let iv ← holding [v, ov] (eval i env)
      standAt pos
      holding [v, ov, iv] (setItem ov iv v)
      release [v, ov, iv] []) := by
  cases i <;> first | (intro _; rfl) | cases h
theorem noStores {v t : Expr} {env : Env} (h : notTup v = true) : swappedStores [t] v env = pure none := by
  cases v <;> first | (cases t <;> rfl) | cases h
theorem noStoresSub {v o i : Expr} {p : Pos} {env : Env} : swappedStores [.Subscript o i p] v env = pure none := by
  cases v <;> rfl
theorem isLocal_ok {x : Str} (A : Amb c C X k Wx) (h : isLocal k x = true) : X.env.scope.names.lookup x = some .local := by
  rw [A.sc]
  unfold isLocal at h
  cases e : k.sc.names.lookup x with
  | none => rw [e] at h; cases h
  | some z => rw [e] at h; cases z <;> first | rfl | cases h
theorem isCell_ok {x : Str} (A : Amb c C X k Wx) (h : isCell k x = true) : X.env.scope.names.lookup x = some .cell := by
  rw [A.sc]
  unfold isCell at h
  cases e : k.sc.names.lookup x with
  | none => rw [e] at h; cases h
  | some z => rw [e] at h; cases z <;> first | rfl | cases h
theorem noSwapC {v : Expr} {y : Str} {py : Pos} {l : Nat} {env : Env} (hy : env.scope.names.lookup y = some .cell) : swapsWith v (some (.Name y py)) l env = pure false := by
  have ky : env.kindOf y = some .cell := hy
  cases v <;> first | rfl | (unfold swapsWith; simp only [ky]; have e : ((some NameKind.cell : Option NameKind) == some .local) = false := rfl; simp [e])
theorem kind_ok {sc : Scope} (h : (match sc.kind with | .function => true | _ => false) = true) : sc.kind = .function := by
  cases e : sc.kind <;> rw [e] at h <;> first | rfl | cases h
/-! ### op= -/
theorem ipX (hK : c.K = X.K) : ∀ (op : Operator), PIp X op (fun x y H Q => ∃ (Φ : Hp) (ι : List Addr) (S : Store) (w1 w2 : W) (E : XK), Rel c.K Φ ι S H ∧ RV c.K Φ ι w1 x ∧ RV c.K Φ ι w2 y ∧ After c Φ ι H (augW op w1 w2 S) (QV c Q) E) := by
  intro op pins s σ H x y v u Q I rx ry h
  obtain ⟨Φ, ι, S, w1, w2, E, r, r1, r2, h⟩ := h
  unfold augW at h
  split at h
  · cases r1; cases r2
    exact iop_add pins s σ H _ _ v u Q I rx ry ⟨_, _, rfl, rfl, same_ok r (.int _) h⟩
  · cases r1; cases r2
    exact iop_sub pins s σ H _ _ v u Q I rx ry ⟨_, _, rfl, rfl, same_ok r (.int _) h⟩
  · cases r1; cases r2
    split at h
    · rename_i hm
      obtain ⟨t, rfl⟩ := rx
      obtain ⟨t', rfl⟩ := ry
      exact imul_int ⟨.int _, H, I.tok _, ⟨_, rfl⟩, same_ok r (.int _) h⟩ (CMulW.ok hm)
    · exact h.elim
  · cases r1 with
    | str h1 =>
      cases r2 with
      | str h2 =>
        split at h
        · rename_i hz
          exact iop_add_str pins s σ H _ _ v u Q I rx ry ⟨_, _, rfl, rfl, by rw [sizeLine_eq]; exact hz, same_ok r (.str (okS_append h1 h2 hz)) h⟩
        · exact h.elim
  · cases r1 with
    | tup s1 t1 =>
      cases r2 with
      | tup s2 t2 =>
        split at h
        · rename_i xs ys hz
          refine iop_catA pins s σ H _ _ v u Q I rx ry ⟨_, _, _, _, rfl, rfl, hK ▸ SqT.mono r.sub s1, hK ▸ SqT.mono r.sub s2, by rw [← t1.length, ← t2.length, sizeLine_eq]; exact hz, fun e => ?_, fun e e2 => ?_, fun e e2 p hp => ?_⟩
          · subst e
            cases t1
            exact same_ok r (.tup s2 t2) h
          · subst e2
            cases t2
            rw [List.append_nil] at h
            exact same_ok r (.tup s1 t1) h
          · exact newT_ok r (t1.append t2) h p hp
        · exact h.elim
  · exact h.elim
end
section
variable {c : Cf} {C : Cn} {X : Cx} {k : Ck} {Wx : WX}
theorem sndNm {i : Nat} {e : E} {y : Str} {py p : Pos} {v : Expr} (A : Amb c C X k Wx) (h : ckNm k i e y py v = true) : PS X (.Assign [.Name y py] v p) (rdS c Wx (exe C (.asg (.nm i) e))) := by
  simp only [ckNm, Bool.and_eq_true, decide_eq_true_eq] at h
  obtain ⟨⟨⟨h1, h2⟩, h3⟩, h4⟩ := h
  obtain ⟨l1, l2⟩ := A.loc h2
  have fin : ∀ (D : Ends) (σ : L2.St) (H : Hp), rdS c Wx (exe C (.asg (.nm i) e)) D σ H → rdE c Wx (den C e) σ H fun x H1 => D.nx (σ.set i (some x)) H1 := fun D σ H ⟨Φ, ι, S, ρ, R, re, q⟩ => by
    simp only [exe] at q
    refine ⟨Φ, ι, S, ρ, R, re, (q.bdS (σ := σ)).imp fun w Φ1 ι1 S1 H1 e1 R1 h1 v rv => ?_⟩
    simp only [tgW, ofOpt_some, Out.bd_ok] at h1
    exact h1.here R1 _ ((re.mono e1).set rv i)
  rcases Bool.or_eq_true_iff.mp h4 with h4 | h4
  · rcases Bool.or_eq_true_iff.mp h4 with h4 | h4
    · exact (ps_set A.nd (by rw [A.N]; exact h1) l1 (sndE e A h3) (noSwap h4) l2).imp fin
    · exact (ps_set A.nd (by rw [A.N]; exact h1) l1 (sndE e A h3) (noSwapC (isCell_ok A h4)) l2).imp fin
  · cases v with
    | ListComp elt gs scope pos =>
     cases e with
     | lc fz own t it ifs e =>
      simp only [swB, Bool.and_eq_true] at h4
      obtain ⟨⟨⟨g1, g2⟩, g3⟩, g4⟩ := h4
      match gs, h3 with
      | [⟨tg, iter, cs, z⟩], h3 =>
        simp only [ck, Bool.and_eq_true, decide_eq_true_eq, List.all_eq_true, List.contains_iff_mem] at h3
        obtain ⟨⟨⟨⟨⟨⟨⟨⟨rfl, j1⟩, j2⟩, j3⟩, j4⟩, j5⟩, j6⟩, j7⟩, j8⟩ := h3
        have hown : (ownP k.N own).map (·.2) = own := of_decide_eq_true j1
        have ok : BlkOk X.N X.env.scope scope (ownP k.N own) := by rw [A.N, A.sc]; exact blkOk_by j2
        have key := ps_setLc (pos := pos) (spos := p) (py := py) A.calm A.nd (by rw [A.N]; exact h1) (isLocal_ok A g1) (sw_true (by rw [A.sc]; exact kind_ok g4) (isLocal_ok A g1) g2 (by simpa using g3)) (sndI it A j5) ok (g := gT X.K t) (tt := rdT c noW (ands C ifs)) (te := rdE c noW (den C e))
          (fun s H Ca cl fp => pgT (A.blk s H scope Ca cl fp) j4) (fun s H Ca cl fp => sndTs ifs (A.blk s H scope Ca cl fp) j6 j7) (fun s H Ca cl fp => sndE e (A.blk s H scope Ca cl fp) j8) (noSet (cki_set j5))
        rw [hown] at key
        exact key.imp fun D σ H q => lcR A.hK j3 (fin D σ H q)
      | [], h3 => simp [ck] at h3
      | _ :: _ :: _, h3 => simp [ck] at h3
     | lcV fz own t a ifs e =>
      simp only [swB, Bool.and_eq_true] at h4
      obtain ⟨⟨⟨g1, g2⟩, g3⟩, g4⟩ := h4
      match gs, h3 with
      | [⟨tg, iter, cs, z⟩], h3 =>
        simp only [ck, Bool.and_eq_true, decide_eq_true_eq, List.all_eq_true, List.contains_iff_mem] at h3
        obtain ⟨⟨⟨⟨⟨⟨⟨⟨rfl, j1⟩, j2⟩, j3⟩, j4⟩, j5, j5'⟩, j6⟩, j7⟩, j8⟩ := h3
        have hown : (ownP k.N own).map (·.2) = own := of_decide_eq_true j1
        have ok : BlkOk X.N X.env.scope scope (ownP k.N own) := by rw [A.N, A.sc]; exact blkOk_by j2
        have key := ps_setLc (pos := pos) (spos := p) (py := py) A.calm A.nd (by rw [A.N]; exact h1) (isLocal_ok A g1) (sw_true (by rw [A.sc]; exact kind_ok g4) (isLocal_ok A g1) g2 (by simpa using g3)) (pi_seq (sndE a A j5)) ok (g := gT X.K t) (tt := rdT c noW (ands C ifs)) (te := rdE c noW (den C e))
          (fun s H Ca cl fp => pgT (A.blk s H scope Ca cl fp) j4) (fun s H Ca cl fp => sndTs ifs (A.blk s H scope Ca cl fp) j6 j7) (fun s H Ca cl fp => sndE e (A.blk s H scope Ca cl fp) j8) (noSet j5')
        rw [hown] at key
        exact key.imp fun D σ H q => lcVR A.hK j3 (fin D σ H q)
      | [], h3 => simp [ck] at h3
      | _ :: _ :: _, h3 => simp [ck] at h3
     | lc2 fz own t it ifs own1 t1 it1 ifs1 e =>
      simp only [swB, Bool.and_eq_true] at h4
      obtain ⟨⟨⟨g1, g2⟩, g3⟩, g4⟩ := h4
      match gs, h3 with
      | [⟨tg, iter, cs, z⟩, ⟨tg1, iter1, cs1, z1⟩], h3 =>
        simp only [ck, Bool.and_eq_true, decide_eq_true_eq, List.all_eq_true, List.contains_iff_mem] at h3
        obtain ⟨⟨⟨⟨⟨⟨⟨⟨⟨⟨⟨⟨⟨⟨⟨rfl, rfl⟩, j1⟩, j2⟩, j2'⟩, j3⟩, j3'⟩, j4⟩, j4'⟩, j5⟩, j5'⟩, j6⟩, j7⟩, j6'⟩, j7'⟩, j8⟩ := h3
        have hown : (ownP k.N own).map (·.2) = own := of_decide_eq_true j1
        have ok : BlkOk X.N X.env.scope scope (ownP k.N own) := by rw [A.N, A.sc]; exact blkOk_by j2
        have key := ps_setLc2 (pos := pos) (spos := p) (py := py) (vs1 := own1) A.calm A.nd (by rw [A.N]; exact h1) (isLocal_ok A g1) (sw_true (by rw [A.sc]; exact kind_ok g4) (isLocal_ok A g1) g2 (by simpa using g3)) (sndI it A j5) ok (by rw [hown]; exact j2') (g := gT X.K t) (g1 := gT X.K t1) (tt := rdT c noW (ands C ifs)) (tt1 := rdT c noW (ands C ifs1)) (te := rdE c noW (den C e))
          (fun s H Ca cl fp => pgT (A.blk s H scope Ca cl fp) j4) (fun s H Ca cl fp => sndTs ifs (A.blk s H scope Ca cl fp) j6 j7) (fun s H Ca cl fp => sndI it1 (A.blk s H scope Ca cl fp) j5')
          (fun s H Ca cl fp => pgT (A.blk s H scope Ca cl fp) j4') (fun s H Ca cl fp => sndTs ifs1 (A.blk s H scope Ca cl fp) j6' j7') (fun s H Ca cl fp => sndE e (A.blk s H scope Ca cl fp) j8) (noSet (cki_set j5)) (fun env => noSet (cki_set j5'))
        rw [hown] at key
        exact key.imp fun D σ H q => lc2R A.hK j3 j3' (fin D σ H q)
      | [], h3 => simp [ck] at h3
      | [_], h3 => simp [ck] at h3
      | _ :: _ :: _ :: _, h3 => simp [ck] at h3
     | _ => cases h4
    | DictComp kx vx gs scope pos =>
     cases e with
     | dcomp own t it x1 e =>
      simp only [swB, Bool.and_eq_true] at h4
      obtain ⟨⟨⟨g1, g2⟩, g3⟩, g4⟩ := h4
      simp only [ck] at h3
      split at h3
      case h_2 => cases h3
      rename_i heq
      cases heq
      simp only [Bool.and_eq_true, decide_eq_true_eq, List.all_eq_true, List.contains_iff_mem] at h3
      obtain ⟨⟨⟨⟨⟨⟨⟨rfl, j1⟩, j2⟩, j3⟩, j4⟩, j5⟩, j6⟩, j8⟩ := h3
      have hown : (ownP k.N own).map (·.2) = own := of_decide_eq_true j1
      have ok : BlkOk X.N X.env.scope scope (ownP k.N own) := by rw [A.N, A.sc]; exact blkOk_by j2
      have key := ps_setDc (pos := pos) (spos := p) (py := py) A.calm A.nd (by rw [A.N]; exact h1) (isLocal_ok A g1) (sw_trueD (by rw [A.sc]; exact kind_ok g4) (isLocal_ok A g1) g2 (by simpa using g3)) (sndI it A j5) ok (g := gT X.K t) (tt := tYes) (tk := rdE c noW (den C x1)) (tv := rdE c noW (den C e))
        (fun s H Ca cl fp => pgT (A.blk s H scope Ca cl fp) j4) (fun s H Ca cl fp => pts_nil) (fun s H Ca cl fp => sndE x1 (A.blk s H scope Ca cl fp) j6) (fun s H Ca cl fp => sndE e (A.blk s H scope Ca cl fp) j8) (noSet (cki_set j5))
      rw [hown] at key
      exact key.imp fun D σ H q => dcompR A.hK j3 (fin D σ H q)
     | _ => cases h4
    | _ => cases e <;> cases h4
theorem noStoresC {v : Expr} {es : List Expr} {n : Nat} {p : Pos} (A : Amb c C X k Wx) (h : (notTup v || cell2 k es) = true) : swappedStores [.Tuple es n p] v X.env = pure none := by
  rcases Bool.or_eq_true_iff.mp h with h | h
  · exact noStores h
  · match es, h with
    | [.Name x px, .Name y py], h =>
      have kx : X.env.kindOf x = some .cell := isCell_ok A h
      cases v with
      | Tuple vs n2 p2 =>
        unfold swappedStores
        have e0 : ((some NameKind.cell : Option NameKind) == some .local) = false := rfl
        simp only [kx, e0, Bool.false_and, Bool.false_eq_true, if_false, List.filterMap_cons, List.filterMap_nil]
        by_cases hy : (X.env.kindOf y == some NameKind.local && py.line == (Option.map (fun x => x.pos.line) [Expr.Name x px, Expr.Name y py].head?).getD 0) = true
        · simp only [hy, if_true, List.length_cons, List.length_nil]
          split
          · rfl
          · split <;> rfl
        · simp only [hy, if_false, List.length_cons, List.length_nil]
          split
          · rfl
          · split <;> rfl
      | _ => rfl
theorem Amb.blkx (A : Amb c C X k Wx) (Wb : WX) (s : Shared) (H : Hp) (scope : Scope) (Ca : Addr) (cl : List (Str × Addr)) (fp : List Addr) :
    Amb c C (Gs.blkx X s H scope (compEnvC scope cl Ca X.env) fp Wb) (k.blk scope) Wb :=
  let B := A.blk s H scope Ca cl fp
  { hK := B.hK, calm := B.calm, nd := B.nd, N := B.N, sc := B.sc, fn := B.fn, un := B.un, hw := B.hw, free := B.free, gl := B.gl, gd := B.gd, nofn := B.nofn, xc := B.xc, xs := B.xs, xm := B.xm, x0 := B.x0, xf := B.xf, xn := B.xn, rm := B.rm, tk := blkx_takes, call := B.call, kcall := B.kcall }
theorem After.unhidX {α : Type} {Φ H : Hp} {ι : List Addr} {D : Addr} {o : Out α} {Q : α → Hp → List Addr → Store → Hp → Prop} {E : XK} (h : After c Φ ι (Gs.hid H D) o Q E) (h0 : H D ≠ none) (h1 : Φ D = none) (h2 : D ∉ ι) :
    After c Φ ι H o (fun a Φ' ι' S' H' => Ext Φ ι (Gs.hid H D) Φ' ι' (Gs.hid H' D) ∧ Rel c.K Φ' ι' S' (Gs.hid H' D) ∧ Φ' D = none ∧ D ∉ ι' ∧ H' D = H D ∧ Q a Φ' ι' S' (Gs.hid H' D)) E := by
  cases o with
  | ok a S =>
    intro Φ' ι' H' e r
    obtain ⟨e1, e2, e3, e4⟩ := e.hid h0 h1 h2
    exact ⟨e1, r.hid e2 e3, e2, e3, e4, h _ _ _ e1 (r.hid e2 e3)⟩
  | ex x S =>
    intro Φ' ι' H' cls d e r rx
    exact h Φ' ι' H' cls d ((e.hid h0 h1 h2).1.unhid hid_same) r rx
  | no => exact h.elim
theorem lcxR {i : Nat} {fz : Bool} {own : List Nat} {t : Tg} {it : I} {e : E} {σ : L2.St} {H : Hp} {D : Ends} (hK : c.K = X.K) (h3 : ∀ i ∈ slots t, i ∈ own) (q : rdS c Wx (exe C (.asgX i fz own t it e)) D σ H) :
    tLc (rdI c Wx (itr C it)) (gT X.K t) tYes (rdE c (fun cls d _ H' => ∀ σ', Wx cls d σ' H') (den C e)) own σ H (fun x H1 => D.nx (σ.set i (some x)) H1) := by
  obtain ⟨Φ, ι, S, ρ, R, re, q⟩ := q
  simp only [exe] at q
  refine ⟨Φ, ι, S, ρ, R, re, (q.bdS (σ := σ)).imp fun xs Φ1 ι1 S1 H1 e1 R1 q1 J hJ A hA => ?_⟩
  have fz1 : Φ1 A = none := by
    cases z : Φ1 A with
    | none => rfl
    | some o => rw [R1.sub A o z] at hA; cases hA
  have s0 : Stn c A [] Φ1 ι1 S1 (upd H1 A (.lst [])) := ⟨⟨[], upd_same, .nil⟩, fz1, fun z => R1.trk A z hA, by rw [hid_upd hA]; exact R1⟩
  refine turns_ok hJ (hid_upd hA) s0 q1 (Fin := fun H => D.nx (σ.set i (some (V.ref A))) H) (TURN := fun x H' Nx => gT X.K t x (L2.wipe σ own) H' fun σ2 H2 => L2.wipe σ2 own = L2.wipe σ own ∧ tYes σ2 H2 fun b H3 =>
    if b = true then rdE c (fun cls d _ H' => ∀ σ', Wx cls d σ' H') (den C e) σ2 H3 fun y H4 => ∃ acc, H4 A = some (.lst acc) ∧ acc.length < sizeLine ∧ Nx (upd H4 A (.lst (acc ++ [y]))) else Nx H3) ?_ ?_
  · intro aw Φ2 ι2 S2 H2 e2 s2 q2
    obtain ⟨av, l1, l2⟩ := s2.li
    have q3 : After c Φ2 ι2 (hid H2 A) (newL fz aw S2) (QV c fun x H' => D.nx (σ.set i (some x)) H') (fun cls d H' => ∀ σ', Wx cls d σ' H') :=
      q2.bd.imp fun w Φ3 ι3 S3 H3 e3 R3 h3 v rv => h3.here R3 _ ((((e1.le.trans e2.le).trans e3.le).env re).set rv i)
    have := (newL_ok s2.rel l2 q3).2 A hid_same
    rw [upd_hid l1] at this
    exact this
  · intro w f' aw Φ2 ι2 S2 H2 v Nx e2 s2 rv q2 kn
    rw [Out.bd_assoc] at q2
    cases et : tgW t w (wipeR ρ own) with
    | none => rw [et] at q2; exact q2.elim
    | some ρ2 =>
      rw [et] at q2
      refine gT_ok hK s2.rel.unhid t rv ((e1.le.trans e2.le).env (re.wipe own)) et fun σ2 r2 w2 => ⟨(w2 own h3).trans (wipe_wipe own), ?_⟩
      simp only [ofOpt_some, Out.bd_ok] at q2
      rw [Out.bd_assoc] at q2
      refine iteT (B := Nx H2) ⟨Φ2, ι2, S2, ρ2, s2.rel.unhid, r2, (q2.bd.unhidX s2.ne s2.fz s2.ni).imp fun y Φ4 ι4 S4 H4 e4 R4 ⟨m1, m2, m3, m4, m5, m6⟩ yv ry => ?_⟩
      have s4 : Stn c A aw Φ4 ι4 S4 H4 := (s2.next e4 R4).1
      obtain ⟨av, l1, l2⟩ := s4.li
      unfold push at m6
      split at m6
      · rename_i hz
        refine ⟨av, l1, by rw [← l2.length, sizeLine_eq]; exact hz, ?_⟩
        have s5 := s4.push ry l1
        exact kn _ Φ4 ι4 S4 _ (by rw [hid_upd2]; exact m1) s5 (by rw [hid_upd2]; exact m6)
      · exact m6.elim
theorem sndLcX {i : Nat} {fz : Bool} {own : List Nat} {t : Tg} {it : I} {e : E} {x : Stmt} (A : Amb c C X k Wx) (P : Fr X) (h : ckLcX k i fz own t it e x = true) : PS X x (rdS c Wx (exe C (.asgX i fz own t it e))) := by
  unfold ckLcX at h
  split at h
  · rename_i y py v p
    simp only [Bool.and_eq_true, decide_eq_true_eq] at h
    obtain ⟨⟨h1, h3⟩, h4⟩ := h
    split at h4
    · rename_i elt gs scope pos
      simp only [swB, Bool.and_eq_true] at h4
      obtain ⟨⟨⟨g1, g2⟩, g3⟩, g4⟩ := h4
      match gs, h3 with
      | [⟨tg, iter, cs, z⟩], h3 =>
        simp only [ck, Bool.and_eq_true, decide_eq_true_eq, List.all_eq_true, List.contains_iff_mem] at h3
        obtain ⟨⟨⟨⟨⟨⟨⟨⟨rfl, j1⟩, j2⟩, j3⟩, j4⟩, j5⟩, j6⟩, j7⟩, j8⟩ := h3
        have hown : (ownP k.N own).map (·.2) = own := of_decide_eq_true j1
        have ok : BlkOk X.N X.env.scope scope (ownP k.N own) := by rw [A.N, A.sc]; exact blkOk_by j2
        cases cs with
        | nil =>
          have key := ps_setLcX (W := Wx) (Wb := fun cls d _ H' => ∀ σ', Wx cls d σ' H') (pos := pos) (spos := p) (py := py) P.stk P.frm A.tk (fun cls d σ σ' H h => h σ) A.calm A.nd (by rw [A.N]; exact h1) (isLocal_ok A g1) (sw_true (by rw [A.sc]; exact kind_ok g4) (isLocal_ok A g1) g2 (by simpa using g3)) (sndI it A j5) ok (g := gT X.K t) (te := rdE c (fun cls d _ H' => ∀ σ', Wx cls d σ' H') (den C e))
            (fun s H Ca cl fp => pgT (A.blk s H scope Ca cl fp) j4) (fun s H Ca cl fp => sndE e (A.blkx _ s H scope Ca cl fp) j8) (noSet (cki_set j5))
          rw [hown] at key
          exact key.imp fun D σ H q => lcxR A.hK j3 q
        | cons a b => simp [ckCs] at j6
      | [], h3 => simp [ck] at h3
      | _ :: _ :: _, h3 => simp [ck] at h3
    · cases h4
  · cases h
theorem sndTp {ts : List Tg} {es : List Expr} {n : Nat} {q p : Pos} {e : E} {v : Expr} (A : Amb c C X k Wx) (h1 : ckT k (.tp ts) (.Tuple es n q) = true) (h2 : ck k e v = true) (h3 : (notTup v || cell2 k es) = true) : PS X (.Assign [.Tuple es n q] v p) (rdS c Wx (exe C (.asg (.tp ts) e))) := by
  refine (ps_asg (sndE e A h2) (pgT A h1) noSwapT (noStoresC A h3) rfl).imp fun D σ H ⟨Φ, ι, S, ρ, R, re, q⟩ => ?_
  simp only [exe] at q
  refine ⟨Φ, ι, S, ρ, R, re, (q.bdS (σ := σ)).imp fun w Φ1 ι1 S1 H1 e1 R1 h1 v rv => ?_⟩
  cases et : tgW (.tp ts) w ρ with
  | none => rw [et] at h1; exact h1.elim
  | some ρ2 =>
    rw [et] at h1
    exact gT_ok A.hK R1 (.tp ts) rv (re.mono e1) et fun σ2 r2 _ => h1.here R1 σ2 r2
theorem ck_plainT {t : Tg} {e : Expr} (h : ckT k t e = true) (es : List Expr) (env : Env) : assignEach (e :: es) env = (false, assign e env) :: assignEach es env := by
  cases e <;> first | rfl | (cases t <;> simp [ckT] at h)
/-- the targets ahead of the star, and it -/
def gStT (K : Frag) (i : Nat) : List Tg → TGs
  | [] => gCons (gName i) gNil
  | t :: ts => gCons (gT K t) (gStT K i ts)
theorem star_shape {i : Nat} {env : Env} : ∀ {ts : List Tg} {es : List Expr}, ckStar k i ts es = true → (assignEach es env).length = ts.length + 1 ∧ (assignEach es env).findIdx? (·.1) = some ts.length
  | [], es, h => by
    match es, h with
    | [.Starred (.Name y _) _], h => exact ⟨rfl, rfl⟩
  | t :: ts, es, h => by
    match es, h with
    | e :: es, h =>
      simp only [ckStar, Bool.and_eq_true] at h
      obtain ⟨h1, h2⟩ := star_shape (env := env) h.2
      rw [ck_plainT h.1]
      refine ⟨by simp [h1], ?_⟩
      rw [List.findIdx?_cons, h2]
      rfl
theorem pg_stars {i : Nat} (A : Amb c C X k Wx) : ∀ {ts : List Tg} {es : List Expr}, ckStar k i ts es = true → PGs X es (gStT X.K i ts)
  | [], es, h => by
    match es, h with
    | [.Starred (.Name y _) _], h =>
      simp only [ckStar, Bool.and_eq_true, decide_eq_true_eq] at h
      obtain ⟨l1, l2⟩ := A.loc h.2
      exact pgs_star (pg_name A.nd (by rw [A.N]; exact h.1) l1 l2)
  | t :: ts, es, h => by
    match es, h with
    | e :: es, h =>
      simp only [ckStar, Bool.and_eq_true] at h
      exact pgs_cons (pgT A h.1) (pg_stars A h.2) (by rw [ck_plainT h.1]; rfl)
theorem gStT_ok {Φ H : Hp} {ι : List Addr} {S : Store} {i : Nat} (hK : c.K = X.K) (R : Rel c.K Φ ι S H) {p : V} {w : W} (rp : RV c.K Φ ι w p) : ∀ (ts : List Tg) {xs : List W} {vs : List V} {ρ ρ2 : Rho} {σ : L2.St} {Q : L2.St → Hp → Prop}, RVs c.K Φ ι xs vs → REnv c.K Φ ι ρ σ → tgsW ts xs ρ = some ρ2 →
    (∀ σ2, REnv c.K Φ ι (ρ2.set i (some w)) σ2 → Q σ2 H) → gStT X.K i ts (vs ++ [p]) σ H Q
  | [], xs, vs, ρ, ρ2, σ, Q, rv, re, h, hq => by
    cases rv with
    | nil =>
      cases h
      exact ⟨p, [], rfl, rfl, hq _ (re.set rp i)⟩
    | cons _ _ => cases h
  | t :: ts, xs, vs, ρ, ρ2, σ, Q, rv, re, h, hq => by
    cases rv with
    | nil => cases h
    | cons a b =>
      simp only [tgsW, Option.bind_eq_some_iff] at h
      obtain ⟨ρ1, h1, h2⟩ := h
      refine ⟨_, _, rfl, ?_⟩
      exact gT_ok (Q := fun σ' H' => gStT X.K i ts (_ ++ [p]) σ' H' Q) hK R t a re h1 fun σ2 r2 _ => gStT_ok hK R rp ts b r2 h2 hq
theorem sndAsgS {ts : List Tg} {i : Nat} {e : E} {x : Stmt} (A : Amb c C X k Wx) (h : ckAsgS k ts i e x = true) : PS X x (rdS c Wx (exe C (.asgS ts i e))) := by
  unfold ckAsgS at h
  split at h
  · simp only [Bool.and_eq_true] at h
    obtain ⟨⟨h1, h2⟩, h3⟩ := h
    obtain ⟨s1, s2⟩ := star_shape (env := X.env) h1
    refine (ps_asg (sndE e A h2) (pg_star A.calm (pg_stars A h1) s1 s2) noSwapT (noStores h3) rfl).imp fun D σ H ⟨Φ, ι, S, ρ, R, re, q⟩ => ?_
    simp only [exe] at q
    refine ⟨Φ, ι, S, ρ, R, re, (q.bdS (σ := σ)).imp fun w Φ1 ι1 S1 H1 e1 R1 h1 v rv => ?_⟩
    split at h1
    · rename_i xs ex
      split at h1
      · rename_i hl
        obtain ⟨a, vs, rfl, q2, t⟩ := seqW_ok R1 rv ex
        refine ⟨a, vs, rfl, A.hK ▸ q2.symm, by rw [← t.length]; exact hl, fun p hp => ?_⟩
        cases et : tgsW ts (xs.take ts.length) ρ with
        | none => rw [et] at h1; exact h1.elim
        | some ρ2 =>
          rw [et] at h1
          obtain ⟨R2, E2⟩ := R1.newF (o := .lst (vs.drop ts.length)) hp
          exact gStT_ok A.hK R2 (.lst upd_same (E2.rvs (t.drop _))) ts (E2.rvs (t.take _)) ((re.mono e1).mono E2) et fun σ2 r2 => h1 _ _ _ E2 R2 σ2 r2
      · exact h1.elim
    · exact h1.elim
  · cases h
theorem sndAsg {t : Tg} {e : E} {x : Stmt} (A : Amb c C X k Wx) (h : ckAsg k t e x = true) : PS X x (rdS c Wx (exe C (.asg t e))) := by
  unfold ckAsg at h
  split at h
  · exact sndNm A h
  · simp only [Bool.and_eq_true] at h
    exact sndTp A h.1.1 h.1.2 h.2
  · cases h
theorem sndPar {i j : Nat} {a b : E} {x : Stmt} (A : Amb c C X k Wx) (h : ckPar k i j a b x = true) : PS X x (rdS c Wx (exe C (.par i j a b))) := by
  unfold ckPar at h
  split at h
  · rename_i x px y py kt pt a' b' k2 pt2 pos
    simp only [Bool.and_eq_true, decide_eq_true_eq, parB] at h
    obtain ⟨⟨⟨⟨h1, h2⟩, ⟨⟨⟨⟨⟨⟨⟨⟨g1, g2⟩, g3⟩, g4⟩, g5⟩, g6⟩, g7⟩, g8⟩, g9⟩⟩, h3⟩, h4⟩ := h
    have hi : X.N[i]? = some x := by rw [A.N]; exact h1
    have hj : X.N[j]? = some y := by rw [A.N]; exact h2
    have hij : i ≠ j := fun e => by
      subst e
      rw [hi] at hj
      exact g3 (Option.some.inj hj)
    have lx := isLocal_ok A g1
    have ly := isLocal_ok A g2
    have hw : swappedStores [.Tuple [.Name x px, .Name y py] kt pt] (.Tuple [a', b'] k2 pt2) X.env = pure (some [x, y]) := by
      have bk : X.env.blockKind = .function := by unfold Env.blockKind; rw [A.sc, kind_ok g9]; rfl
      have kx : X.env.kindOf x = some .local := lx
      have ky : X.env.kindOf y = some .local := ly
      have f7 : ([a', b'].all (foldedForSure 8)) = false := by simpa only [Bool.not_eq_true'] using g7
      have f8 : ([a', b'].all (constantsAlone 8)) = false := by simpa only [Bool.not_eq_true'] using g8
      have ed : ([x, y] : List Str).eraseDups.length = 2 := by
        simp [List.eraseDups_cons, Ne.symm g3, g3]
      have gl : (py.line == px.line) = true := by rw [beq_iff_eq] at g4 ⊢; exact g4.symm
      unfold swappedStores
      simp only [bk, kx, ky, f7, f8, Expr.pos, List.length_cons, List.length_nil, List.any_cons, List.any_nil, List.head?_cons, Option.map_some, Option.getD_some, List.filterMap_cons, List.filterMap_nil, beq_self_eq_true, gl, Bool.and_true, if_true, ed, Bool.or_false, Bool.false_eq_true, if_false]
      rw [if_neg (by decide), if_neg ?_, if_neg (by decide)]
      intro hh
      rw [Bool.or_eq_true] at hh
      rcases hh with hh | hh
      · cases a' <;> first | exact Bool.false_ne_true hh | exact (Bool.false_ne_true g5).elim
      · cases b' <;> first | exact Bool.false_ne_true hh | exact (Bool.false_ne_true g6).elim
    refine (ps_par A.calm A.nd hi hj hij lx ly (pa_cons (sndE a A h3) (pa_cons (sndE b A h4) pa_nil (star_cons (ck_star h4) _ _)) (star_cons (ck_star h3) _ _)) hw noSwapT).imp fun D σ H ⟨Φ, ι, S, ρ, R, re, q⟩ => ?_
    simp only [exe] at q
    refine ⟨Φ, ι, S, ρ, R, re, (q.bdS (σ := σ)).imp fun w Φ1 ι1 S1 H1 e1 R1 q1 v rv => ?_⟩
    refine ⟨Φ1, ι1, S1, ρ, R1, re.mono e1, (q1.bdS (σ := σ)).imp fun w2 Φ2 ι2 S2 H2 e2 R2 q2 v2 rv2 => ?_⟩
    exact ⟨v, v2, rfl, q2.here R2 _ ((((re.mono e1).mono e2).set (e2.rv rv) i).set rv2 j)⟩
  · cases h
theorem sndPar3 {i j l : Nat} {a b d : E} {x : Stmt} (A : Amb c C X k Wx) (h : ckPar3 k i j l a b d x = true) : PS X x (rdS c Wx (exe C (.par3 i j l a b d))) := by
  unfold ckPar3 at h
  split at h
  · rename_i x px y py z pz kt pt a' b' c' k2 pt2 pos
    simp only [Bool.and_eq_true, decide_eq_true_eq, par3B] at h
    obtain ⟨⟨⟨⟨⟨⟨h1, h2⟩, h2'⟩, ⟨⟨⟨⟨⟨⟨⟨⟨⟨⟨⟨⟨⟨g1, g2⟩, g2'⟩, g3⟩, g3'⟩, g3''⟩, g4⟩, g4'⟩, g5⟩, g6⟩, g6'⟩, g7⟩, g8⟩, g9⟩⟩, h3⟩, h4⟩, h5⟩ := h
    have hi : X.N[i]? = some x := by rw [A.N]; exact h1
    have hj : X.N[j]? = some y := by rw [A.N]; exact h2
    have hl : X.N[l]? = some z := by rw [A.N]; exact h2'
    have hij : i ≠ j := fun e => by
      subst e
      rw [hi] at hj
      exact g3 (Option.some.inj hj)
    have hil : i ≠ l := fun e => by
      subst e
      rw [hi] at hl
      exact g3' (Option.some.inj hl)
    have hjl : j ≠ l := fun e => by
      subst e
      rw [hj] at hl
      exact g3'' (Option.some.inj hl)
    have lx := isLocal_ok A g1
    have ly := isLocal_ok A g2
    have lz := isLocal_ok A g2'
    have hw : swappedStores [.Tuple [.Name x px, .Name y py, .Name z pz] kt pt] (.Tuple [a', b', c'] k2 pt2) X.env = pure (some [x, y, z]) := by
      have bk : X.env.blockKind = .function := by unfold Env.blockKind; rw [A.sc, kind_ok g9]; rfl
      have kx : X.env.kindOf x = some .local := lx
      have ky : X.env.kindOf y = some .local := ly
      have kz : X.env.kindOf z = some .local := lz
      have f7 : ([a', b', c'].all (foldedForSure 8)) = false := by simpa only [Bool.not_eq_true'] using g7
      have f8 : ([a', b', c'].all (constantsAlone 8)) = false := by simpa only [Bool.not_eq_true'] using g8
      have ed : ([x, y, z] : List Str).eraseDups.length = 3 := by
        simp [List.eraseDups_cons, Ne.symm g3, g3, Ne.symm g3', g3', Ne.symm g3'', g3'']
      have gl : (py.line == px.line) = true := by rw [beq_iff_eq] at g4 ⊢; exact g4.symm
      have gl' : (pz.line == px.line) = true := by rw [beq_iff_eq] at g4' ⊢; exact g4'.symm
      unfold swappedStores
      simp only [bk, kx, ky, kz, f7, f8, Expr.pos, List.length_cons, List.length_nil, List.any_cons, List.any_nil, List.head?_cons, Option.map_some, Option.getD_some, List.filterMap_cons, List.filterMap_nil, beq_self_eq_true, gl, gl', Bool.and_true, if_true, ed, Bool.or_false, Bool.false_eq_true, if_false]
      rw [if_neg (by decide), if_neg ?_, if_neg (by decide)]
      intro hh
      rw [Bool.or_eq_true, Bool.or_eq_true] at hh
      rcases hh with hh | hh | hh
      · cases a' <;> first | exact Bool.false_ne_true hh | exact (Bool.false_ne_true g5).elim
      · cases b' <;> first | exact Bool.false_ne_true hh | exact (Bool.false_ne_true g6).elim
      · cases c' <;> first | exact Bool.false_ne_true hh | exact (Bool.false_ne_true g6').elim
    refine (ps_par3 A.calm A.nd hi hj hl hij hil hjl lx ly lz (pa_cons (sndE a A h3) (pa_cons (sndE b A h4) (pa_cons (sndE d A h5) pa_nil (star_cons (ck_star h5) _ _)) (star_cons (ck_star h4) _ _)) (star_cons (ck_star h3) _ _)) hw noSwapT).imp fun D σ H ⟨Φ, ι, S, ρ, R, re, q⟩ => ?_
    simp only [exe] at q
    refine ⟨Φ, ι, S, ρ, R, re, (q.bdS (σ := σ)).imp fun w Φ1 ι1 S1 H1 e1 R1 q1 v rv => ?_⟩
    refine ⟨Φ1, ι1, S1, ρ, R1, re.mono e1, (q1.bdS (σ := σ)).imp fun w2 Φ2 ι2 S2 H2 e2 R2 q2 v2 rv2 => ?_⟩
    refine ⟨Φ2, ι2, S2, ρ, R2, (re.mono e1).mono e2, (q2.bdS (σ := σ)).imp fun w3 Φ3 ι3 S3 H3 e3 R3 q3 v3 rv3 => ?_⟩
    exact ⟨v, v2, v3, rfl, q3.here R3 _ ((((((re.mono e1).mono e2).mono e3).set (e3.rv (e2.rv rv)) i).set (e3.rv rv2) j).set rv3 l)⟩
  · cases h
theorem ckK_comp {e : E} {x : Expr} (h : ckK e x = true) : notComp x = true := by
  cases x <;> first | rfl | (exfalso; cases e <;> simp [ckK] at h; done)
theorem sndTryA {i : Nat} {e : E} {cn : Str} {r : E} {x : Stmt} (A : Amb c C X k Wx) (P : PassesOwn (model X.prog X.w) X.A X.env X.xe ∧ Fr X) (h : ckTryA k i e cn r x = true) : PS X x (rdS c Wx (exe C (.tryA i e cn r))) := by
  unfold ckTryA at h
  split at h
  case h_2 => cases h
  rename_i z pz v pv y py z' pz' u pu pe pos
  simp only [Bool.and_eq_true, decide_eq_true_eq, List.contains_iff_mem] at h
  obtain ⟨⟨⟨⟨⟨⟨⟨⟨⟨h1, rfl⟩, h2⟩, h3⟩, h4⟩, rfl⟩, h5⟩, h6⟩, h7⟩, h8⟩ := h
  obtain ⟨p1, p2, p3⟩ := plain_of h7
  obtain ⟨l1, l2⟩ := A.loc h2
  obtain ⟨Dy, e1, ok⟩ := A.xc cn h6
  have hN : X.N[i]? = some z := by rw [A.N]; exact h1
  refine (ps_try_only (X := X) (x := cn) (c := .ref Dy) (Wout := Wx) (tb := fun W D σ H => rdE c W (den C e) σ H fun x H1 => D.nx (σ.set i (some x)) H1)
    (ts := fun a cls d D σ H => ∃ (Φ : Hp) (ι : List Addr) (S : Store), Rel c.K Φ ι S H ∧ After c Φ ι H (cstO r S) (QV c fun x H1 => D.nx (σ.set i (some x)) H1) (fun _ _ _ => True))
    P.2.stk P.2.frm ⟨A.glo h5, p1, .inl ok.mg⟩ A.tk
    (fun W pn xe tk pp => pss_one (ps_set (X := X.tr pn xe) A.nd hN l1 (sndE e (A.tr tk) h3) (noSwap h4) l2))
    (fun a oe cls d pn hz hf => pss_one (ps_set (X := X.suite a ((a, oe) :: pn)) A.nd hN l1 (sndK (Y := X.suite a ((a, oe) :: pn)) A.hK r u h8) (noSwap (ckK_comp h8)) l2))).imp fun D σ H ⟨Φ, ι, S, ρ, R, re, q⟩ => ?_
  refine ⟨Φ, ι, S, ρ, R, re, ?_⟩
  simp only [exe] at q
  cases eo : den C e ρ S with
  | ok w S1 =>
    rw [eo] at q
    exact fun Φ1 ι1 H1 e1 R1 v rv => (q Φ1 ι1 H1 e1 R1) _ ((re.mono e1).set rv i)
  | no => rw [eo] at q; exact q.elim
  | ex x S1 =>
    rw [eo] at q
    simp only at q
    intro Φ1 ι1 H1 cls d e2 R1 rx
    have rx' := rx
    obtain ⟨Dx, hx, rfl, hd⟩ := rx
    cases hs : C.gl.sub x.cls cn with
    | none => rw [hs] at q; exact q.elim
    | some bb =>
      rw [hs] at q
      have hxm := (A.xs x.cls cn bb Dx hs hx).1 Dy h6 e1
      refine ⟨bb, hxm.1, fun hb a na => ?_, fun hb => ?_⟩
      · subst hb
        simp only at q
        have q2 := After.bd (After.step q e2)
        exact ⟨Φ1, ι1, S1, R1, After.noexc (q2.imp fun w Φ2 ι2 S2 H2 e4 R2 q4 v rv => q4.here R2 _ (((re.mono e2).mono e4).set rv i))⟩
      · subst hb
        exact q Φ1 ι1 H1 _ d e2 R1 rx' σ
theorem sndHds (A : Amb c C X k Wx) : ∀ (hs : List (Str × E)) (hds : List ExceptHandler), ckHds k hs hds = true → ∃ l, HdsOk X hds l ∧ ∀ (D : Ends) (x : Xc) (S1 : Store) (Φ : Hp) (ι : List Addr) (H : Hp) (cls : Value) (d : Option Addr) (σ : L2.St),
    Rel c.K Φ ι S1 H → RX c Φ ι H x cls d → After c Φ ι H (hdsO (C.gl.sub x.cls) x hs S1) (QF c D) (fun cls d H' => ∀ σ', Wx cls d σ' H') → wMany X.K Wx D l cls d σ H
  | [], [], _ => ⟨[], .nil, fun D x S1 Φ ι H cls d σ R rx q => q Φ ι H cls d (Ext.refl _ _ _) R rx σ⟩
  | [], _ :: _, h => by simp [ckHds] at h
  | _ :: _, [], h => by simp [ckHds] at h
  | (cn, r) :: hs, hd :: hds, h => by
    simp only [ckHds, Bool.and_eq_true] at h
    obtain ⟨h, h'⟩ := h
    split at h
    case h_2 => cases h
    rename_i y py e pr pe
    simp only [Bool.and_eq_true, decide_eq_true_eq, List.contains_iff_mem] at h
    obtain ⟨⟨⟨⟨rfl, h5⟩, h6⟩, h7⟩, h8⟩ := h
    obtain ⟨p1, p2, p3⟩ := plain_of h7
    obtain ⟨Dy, e1, ok⟩ := A.xc cn h6
    obtain ⟨l, hl, key⟩ := sndHds A hs hds h'
    refine ⟨(.ref Dy, fun a cls d D σ H => ∃ (Φ : Hp) (ι : List Addr) (S : Store), Rel c.K Φ ι S H ∧ After c Φ ι H (cstO r S) (QV c fun x H1 => D.rt x H1) (fun _ _ _ => True)) :: l,
      .cons ⟨A.glo h5, p1, .inl ok.mg⟩ (fun a oe cls d pn hz hf => pss_one (ps_ret (sndK (Y := X.suite a ((a, oe) :: pn)) A.hK r e h8))) hl, fun D x S1 Φ ι H cls d σ R rx q => ?_⟩
    have rx' := rx
    obtain ⟨Dx, hx, rfl, hd⟩ := rx
    simp only [hdsO] at q
    cases hs' : C.gl.sub x.cls cn with
    | none => rw [hs'] at q; exact q.elim
    | some bb =>
      rw [hs'] at q
      have hxm := (A.xs x.cls cn bb Dx hs' hx).1 Dy h6 e1
      refine ⟨bb, hxm.1, fun hb a na => ?_, fun hb => ?_⟩
      · subst hb
        simp only at q
        have q2 := After.bd q
        exact ⟨Φ, ι, S1, R, After.noexc (q2.imp fun w Φ2 ι2 S2 H2 e4 R2 q4 v rv => q4.here R2 v rv)⟩
      · subst hb
        exact key D x S1 Φ ι H _ d σ R rx' q
theorem sndSub {o i e : E} {x : Stmt} (A : Amb c C X k Wx) (h : ckSub k o i e x = true) : PS X x (rdS c Wx (exe C (.sub o i e))) := by
  unfold ckSub at h
  split at h
  · simp only [Bool.and_eq_true] at h
    obtain ⟨⟨h1, h2⟩, h3⟩ := h
    refine (ps_asg (sndE e A h3) (pg_sub (sndE o A h1) (sndE i A h2) (set_X (c := c) A.un) (asgSub (ck_slice h2))) noSwapSub noStoresSub rfl).imp fun D σ H ⟨Φ, ι, S, ρ, R, re, q⟩ => ?_
    simp only [exe] at q
    refine ⟨Φ, ι, S, ρ, R, re, (q.bdS (σ := σ)).imp fun w Φ1 ι1 S1 H1 e1 R1 q1 v rv => ?_⟩
    refine ⟨Φ1, ι1, S1, ρ, R1, re.mono e1, (q1.bdS (σ := σ)).imp fun w2 Φ2 ι2 S2 H2 e2 R2 q2 v2 rv2 => ?_⟩
    refine ⟨Φ2, ι2, S2, ρ, R2, (re.mono e1).mono e2, (q2.bdS (σ := σ)).imp fun w3 Φ3 ι3 S3 H3 e3 R3 q3 v3 rv3 => ?_⟩
    split at q3
    · rename_i S4 es
      exact ⟨Φ3, ι3, S3, S4, w2, w3, w, R3, e3.rv rv2, rv3, e3.rv (e2.rv rv), es, fun H4 e4 R4 => q3 Φ3 ι3 H4 e4 R4 σ ((((re.mono e1).mono e2).mono e3).mono e4)⟩
    · exact q3.elim
  · cases h
theorem sndAug {i : Nat} {op : Operator} {e : E} {x : Stmt} (A : Amb c C X k Wx) (h : ckAug k i op e x = true) : PS X x (rdS c Wx (exe C (.aug i op e))) := by
  unfold ckAug at h
  split at h
  · simp only [Bool.and_eq_true, decide_eq_true_eq] at h
    obtain ⟨⟨⟨h1, h2⟩, rfl⟩, h3⟩ := h
    obtain ⟨l1, l2⟩ := A.loc h2
    refine (ps_aug A.nd (by rw [A.N]; exact h1) l1 (sndE e A h3) (ipX (c := c) A.hK op) l2).imp fun D σ H ⟨Φ, ι, S, ρ, R, re, q⟩ => ?_
    simp only [exe] at q
    split at q
    · rename_i w ew
      obtain ⟨v, v1, v2⟩ := re.2 _ _ ew
      refine ⟨v, v1, Φ, ι, S, ρ, R, re, (q.bdS (σ := σ)).imp fun w2 Φ2 ι2 S2 H2 e2 R2 q2 v3 rv3 => ?_⟩
      exact ⟨Φ2, ι2, S2, w, w2, _, R2, e2.rv v2, rv3, (q2.bd).imp fun w4 Φ4 ι4 S4 H4 e4 R4 q4 v4 rv4 => q4.here R4 _ (((re.mono e2).mono e4).set rv4 i)⟩
    · exact q.elim
  · cases h
end
section
variable {c : Cf} {C : Cn}
mutual
theorem sndS : ∀ (m : Sm) {X : Cx} {k : Ck} {Wx : WX} (A : Amb c C X k Wx) (P : PassesOwn (model X.prog X.w) X.A X.env X.xe ∧ Fr X) {x : Stmt}, ckS k m x = true → PS X x (rdS c Wx (exe C m))
  | .asg t e, X, k, Wx, A, P, x, h => sndAsg A (by simpa only [ckS] using h)
  | .asgX i fz own t it e, X, k, Wx, A, P, x, h => sndLcX A P.2 (by simpa only [ckS] using h)
  | .asgS ts i e, X, k, Wx, A, P, x, h => sndAsgS A (by simpa only [ckS] using h)
  | .par i j a b, X, k, Wx, A, P, x, h => sndPar A (by simpa only [ckS] using h)
  | .par3 i j l a b d, X, k, Wx, A, P, x, h => sndPar3 A (by simpa only [ckS] using h)
  | .tryA i e cn r, X, k, Wx, A, P, x, h => sndTryA A P (by simpa only [ckS] using h)
  | .tryC b hs, X, k, Wx, A, P, x, h => by
    simp only [ckS] at h
    split at h
    case h_2 => cases h
    rename_i body h0 hds pos
    simp only [Bool.and_eq_true] at h
    obtain ⟨h1, h2⟩ := h
    obtain ⟨l, hl, key⟩ := sndHds A hs _ h2
    refine (ps_try_many (X := X) (Wout := Wx) (tb := fun W => rdS c W (exes C b)) P.2.stk P.2.frm A.tk (fun W pn xe tk pp => sndSs b (A.tr tk) ⟨pp, ⟨P.2.stk, P.2.frm⟩⟩ h1) hl).imp fun D σ H ⟨Φ, ι, S, ρ, R, re, q⟩ => ?_
    refine ⟨Φ, ι, S, ρ, R, re, ?_⟩
    simp only [exe] at q
    cases eo : exes C b ρ S with
    | ok f S1 => rw [eo] at q; exact q
    | no => rw [eo] at q; exact q.elim
    | ex x S1 =>
      rw [eo] at q
      simp only at q
      intro Φ1 ι1 H1 cls d e2 R1 rx σ1
      exact key D x S1 Φ1 ι1 H1 cls d σ1 R1 rx (q.step e2)
  | .sub o i e, X, k, Wx, A, P, x, h => sndSub A (by simpa only [ckS] using h)
  | .aug i op e, X, k, Wx, A, P, x, h => sndAug A (by simpa only [ckS] using h)
  | .ret e, X, k, Wx, A, P, x, h => by
    cases x with
    | Return v p =>
      cases v with
      | none => simp [ckS] at h
      | some v =>
        refine (ps_ret (sndE e A (by simpa [ckS] using h))).imp fun D σ H ⟨Φ, ι, S, ρ, R, re, q⟩ => ?_
        simp only [exe] at q
        exact ⟨Φ, ι, S, ρ, R, re, (q.bdS (σ := σ)).imp fun w Φ1 ι1 S1 H1 e1 R1 h1 v rv => h1.here R1 v rv⟩
    | _ => simp [ckS] at h
  | .retN, X, k, Wx, A, P, x, h => by
    cases x with
    | Return v p =>
      cases v with
      | none => exact ps_retN.imp fun D σ H ⟨Φ, ι, S, ρ, R, re, q⟩ => q.here R _ .non
      | some v => simp [ckS] at h
    | _ => simp [ckS] at h
  | .expr e, X, k, Wx, A, P, x, h => by
    cases x with
    | Expr v p =>
      simp only [ckS, Bool.and_eq_true] at h
      refine (ps_expr (sndE e A h.1) (noSwap h.2)).imp fun D σ H ⟨Φ, ι, S, ρ, R, re, q⟩ => ?_
      simp only [exe] at q
      exact ⟨Φ, ι, S, ρ, R, re, (q.bdS (σ := σ)).imp fun w Φ1 ι1 S1 H1 e1 R1 h1 v rv => h1.here R1 σ (re.mono e1)⟩
    | _ => simp [ckS] at h
  | .ife t a b, X, k, Wx, A, P, x, h => by
    cases x with
    | If y as bs p =>
      simp only [ckS, Bool.and_eq_true] at h
      refine (ps_if (sndT t A h.1.1) (sndSs a A P h.1.2) (sndSs b A P h.2)).imp fun D σ H ⟨Φ, ι, S, ρ, R, re, q⟩ => ?_
      simp only [exe] at q
      refine ⟨Φ, ι, S, ρ, R, re, (q.bdS (σ := σ)).imp fun d Φ1 ι1 S1 H1 e1 R1 h1 => ?_⟩
      cases d with
      | true => exact iteT ⟨Φ1, ι1, S1, ρ, R1, re.mono e1, h1⟩
      | false => exact iteF ⟨Φ1, ι1, S1, ρ, R1, re.mono e1, h1⟩
    | _ => simp [ckS] at h
  | .for t it b, X, k, Wx, A, P, x, h => by
    cases x with
    | For tg iter bs os p =>
      cases os with
      | nil =>
        simp only [ckS, Bool.and_eq_true] at h
        refine (ps_for P.1 A.calm (sndI it A h.1.2) (pgT A h.1.1) (sndSs b A P h.2) (noSet (cki_set h.1.2))).imp fun D σ H ⟨Φ, ι, S, ρ, R, re, q⟩ => ?_
        simp only [exe] at q
        refine ⟨Φ, ι, S, ρ, R, re, (q.bdS (σ := σ)).imp fun xs Φ1 ι1 S1 H1 e1 R1 q1 J hJ => ?_⟩
        generalize hst : (fun x ρ1 S2 => (ofOpt (tgW t x ρ1) S2).bd fun ρ2 S2 => exes C b ρ2 S2) = step at q1
        refine ⟨fun i m σ' H' => m = xs.length - i ∧ i ≤ xs.length ∧ ∃ Φ' ι' S' ρ', Ext Φ1 ι1 H1 Φ' ι' H' ∧ Rel c.K Φ' ι' S' H' ∧ REnv c.K Φ' ι' ρ' σ' ∧ After c Φ' ι' H' (loops step (xs.drop i) ρ' S') (QF c D) (fun cls d H' => ∀ σ', Wx cls d σ' H'),
          ⟨xs.length, by simp, Nat.zero_le _, Φ1, ι1, S1, ρ, Ext.refl _ _ _, R1, re.mono e1, by simpa using q1⟩, ?_⟩
        rintro i m σ2 H2 ⟨rfl, hi, Φ2, ι2, S2, ρ2, e2, R2, re2, q2⟩
        by_cases hlt : i < xs.length
        · right
          have hx : xs[i]? = some xs[i] := by simp [hlt]
          obtain ⟨g1, g2⟩ := hJ.go Φ2 ι2 S2 H2 i xs[i] e2.le R2 hx
          refine ⟨g1, fun σ' H' => ∃ Φ' ι' S' ρ', Ext Φ1 ι1 H1 Φ' ι' H' ∧ Rel c.K Φ' ι' S' H' ∧ REnv c.K Φ' ι' ρ' σ' ∧ After c Φ' ι' H' (loops step (xs.drop (i + 1)) ρ' S') (QF c D) (fun cls d H' => ∀ σ', Wx cls d σ' H'),
            fun σ' H' ⟨Φ', ι', S', ρ', k1, k2, k3, k4⟩ => ⟨xs.length - (i + 1), by omega, rfl, hlt, Φ', ι', S', ρ', k1, k2, k3, k4⟩, fun x H' y => ?_⟩
          obtain ⟨Φ3, E3, R3, rv⟩ := g2 x H' y
          rw [List.drop_eq_getElem_cons hlt] at q2
          simp only [loops] at q2
          rw [← hst] at q2
          dsimp only at q2
          rw [hst, Out.bd_assoc] at q2
          cases et : tgW t xs[i] ρ2 with
          | none => rw [et] at q2; exact q2.elim
          | some ρ3 =>
            rw [et] at q2
            simp only [ofOpt_some, Out.bd_ok] at q2
            refine gT_ok A.hK R3 t rv (re2.mono E3) et fun σ3 r3 _ => ⟨Φ3, ι2, S2, ρ3, R3, r3, ((q2.step E3).bd).imp fun fl Φ4 ι4 S4 H4 e4 R4 q4 => ?_⟩
            cases fl with
            | nx ρ4 => exact fun σ4 r4 => ⟨Φ4, ι4, S4, ρ4, (e2.trans E3).trans e4, R4, r4, q4⟩
            | ct ρ4 => exact fun σ4 r4 => ⟨Φ4, ι4, S4, ρ4, (e2.trans E3).trans e4, R4, r4, q4⟩
            | bk ρ4 => exact fun σ4 r4 => q4.here R4 σ4 r4
            | rt w => exact fun v rv => q4.here R4 v rv
        · left
          have ei : i = xs.length := by omega
          subst ei
          refine ⟨hJ.stop Φ2 ι2 S2 H2 _ e2.le R2 (Nat.le_refl _), ?_⟩
          rw [List.drop_length] at q2
          exact q2.here R2 σ2 re2
      | cons _ _ => simp [ckS] at h
    | _ => simp [ckS] at h
  | .whl t b, X, k, Wx, A, P, x, h => by
    cases x with
    | While y bs os p =>
      cases os with
      | nil =>
        simp only [ckS, Bool.and_eq_true] at h
        refine (ps_while P.1 (sndT t A h.1) (sndSs b A P h.2)).imp fun D σ H ⟨Φ, ι, S, ρ, R, re, q⟩ => ?_
        simp only [exe] at q
        refine ⟨fun m σ' H' => ∃ Φ' ι' S' ρ', Rel c.K Φ' ι' S' H' ∧ REnv c.K Φ' ι' ρ' σ' ∧ After c Φ' ι' H' (whiles (fun ρ S => tst C t ρ S) (fun ρ S => exes C b ρ S) m ρ' S') (QF c D) (fun cls d H' => ∀ σ', Wx cls d σ' H'), ⟨C.fuel, Φ, ι, S, ρ, R, re, q⟩, ?_⟩
        rintro m σ2 H2 ⟨Φ2, ι2, S2, ρ2, R2, re2, q2⟩
        cases m with
        | zero => exact (show False from q2).elim
        | succ m =>
          simp only [whiles] at q2
          refine ⟨Φ2, ι2, S2, ρ2, R2, re2, (q2.bdS (σ := σ2)).imp fun d Φ3 ι3 S3 H3 e3 R3 q3 => ?_⟩
          cases d with
          | false => exact iteF (q3.here R3 σ2 (re2.mono e3))
          | true =>
            refine iteT ⟨fun σ' H' => ∃ Φ' ι' S' ρ', Rel c.K Φ' ι' S' H' ∧ REnv c.K Φ' ι' ρ' σ' ∧ After c Φ' ι' H' (whiles (fun ρ S => tst C t ρ S) (fun ρ S => exes C b ρ S) m ρ' S') (QF c D) (fun cls d H' => ∀ σ', Wx cls d σ' H'),
              fun σ' H' w => ⟨m, Nat.lt_succ_self _, w⟩, Φ3, ι3, S3, ρ2, R3, re2.mono e3, ?_⟩
            rw [if_pos rfl] at q3
            refine (q3.bd).imp fun fl Φ4 ι4 S4 H4 e4 R4 q4 => ?_
            cases fl with
            | nx ρ4 => exact fun σ4 r4 => ⟨Φ4, ι4, S4, ρ4, R4, r4, q4⟩
            | ct ρ4 => exact fun σ4 r4 => ⟨Φ4, ι4, S4, ρ4, R4, r4, q4⟩
            | bk ρ4 => exact fun σ4 r4 => q4.here R4 σ4 r4
            | rt w => exact fun v rv => q4.here R4 v rv
      | cons _ _ => simp [ckS] at h
    | _ => simp [ckS] at h
  | .brk, X, k, Wx, A, P, x, h => by
    cases x with
    | Break p => exact ps_break.imp fun D σ H ⟨Φ, ι, S, ρ, R, re, q⟩ => q.here R σ re
    | _ => simp [ckS] at h
  | .cnt, X, k, Wx, A, P, x, h => by
    cases x with
    | Continue p => exact ps_continue.imp fun D σ H ⟨Φ, ι, S, ρ, R, re, q⟩ => q.here R σ re
    | _ => simp [ckS] at h
  | .pass, X, k, Wx, A, P, x, h => by
    cases x with
    | Pass p => exact ps_pass.imp fun D σ H ⟨Φ, ι, S, ρ, R, re, q⟩ => q.here R σ re
    | _ => simp [ckS] at h
  | .dead, X, k, Wx, A, P, x, h => ⟨fun pins s D σ H I ⟨Φ, ι, S, ρ, R, re, q⟩ => (show False from q).elim⟩
  | .forV t i b, X, k, Wx, A, P, x, h => by
    simp only [ckS] at h
    split at h
    case h_2 => cases h
    · rename_i tg y py bs p
      simp only [Bool.and_eq_true, decide_eq_true_eq] at h
      obtain ⟨⟨⟨⟨h1, h2⟩, h3⟩, h4⟩, h5⟩ := h
      obtain ⟨p1, p2, p3⟩ := plain_of h4
      refine (ps_for P.1 A.calm (pi_seq (pe_var (by rw [A.N]; exact h2) (A.vis h3) p1 p2)) (pgT A h1) (sndSs b A P h5) (by intro _; rfl)).imp fun D σ H ⟨Φ, ι, S, ρ, R, re, q⟩ => ?_
      simp only [exe] at q
      split at q
      · rename_i l e
        obtain ⟨v, v1, v2⟩ := re.2 _ _ e
        cases v2 with
        | @loc _ a hl =>
          refine ⟨.ref a, v1, .inl ⟨a, rfl, ?_, ?_⟩⟩
          · cases hf : C.fuel with
            | zero => rw [hf] at q; exact q.elim
            | succ n =>
              rw [hf] at q
              simp only [loopsD] at q
              split at q
              · rename_i ys ey
                obtain ⟨_, vs, q1, t1⟩ := R.live _ _ _ hl ey
                exact ⟨vs, SqL.of q1⟩
              · exact q.elim
          · generalize hst : (fun x ρ1 S2 => (ofOpt (tgW t x ρ1) S2).bd fun ρ2 S2 => exes C b ρ2 S2) = step at q
            refine ⟨fun j m σ' H' => ∃ Φ' ι' S' ρ', Ext Φ ι H Φ' ι' H' ∧ Rel c.K Φ' ι' S' H' ∧ REnv c.K Φ' ι' ρ' σ' ∧ After c Φ' ι' H' (loopsD l step m j ρ' S') (QF c D) (fun cls d H' => ∀ σ', Wx cls d σ' H'), ⟨C.fuel, Φ, ι, S, ρ, Ext.refl _ _ _, R, re, q⟩, ?_⟩
            rintro j m σ2 H2 ⟨Φ2, ι2, S2, ρ2, e2, R2, re2, q2⟩
            have hl2 : ι2[l]? = some a := by
              obtain ⟨tl, rfl⟩ := e2.lo
              rw [List.getElem?_append_left (List.getElem?_eq_some_iff.mp hl).1]
              exact hl
            cases m with
            | zero => exact (show False from q2).elim
            | succ m =>
              simp only [loopsD] at q2
              split at q2
              · rename_i ys ey
                obtain ⟨_, vs, s1, t1⟩ := R2.live _ _ _ hl2 ey
                have sq : SqL X.K H2 a vs := SqL.of s1
                split at q2
                · rename_i x ex
                  right
                  obtain ⟨v, w1, w2⟩ := t1.get ex
                  refine ⟨⟨vs, v, sq, w1⟩, fun σ' H' => ∃ Φ' ι' S' ρ', Ext Φ ι H Φ' ι' H' ∧ Rel c.K Φ' ι' S' H' ∧ REnv c.K Φ' ι' ρ' σ' ∧ After c Φ' ι' H' (loopsD l step m (j + 1) ρ' S') (QF c D) (fun cls d H' => ∀ σ', Wx cls d σ' H'),
                    fun σ' H' w => ⟨m, Nat.lt_succ_self _, w⟩, fun z H' y => ?_⟩
                  obtain ⟨rfl, y2⟩ := y
                  have y3 := y2 vs sq
                  rw [w1] at y3
                  cases y3
                  rw [← hst] at q2
                  dsimp only at q2
                  rw [hst, Out.bd_assoc] at q2
                  cases et : tgW t x ρ2 with
                  | none => rw [et] at q2; exact q2.elim
                  | some ρ3 =>
                    rw [et] at q2
                    simp only [ofOpt_some, Out.bd_ok] at q2
                    refine gT_ok A.hK R2 t w2 re2 et fun σ3 r3 _ => ⟨Φ2, ι2, S2, ρ3, R2, r3, (q2.bd).imp fun fl Φ4 ι4 S4 H4 e4 R4 q4 => ?_⟩
                    cases fl with
                    | nx ρ4 => exact fun σ4 r4 => ⟨Φ4, ι4, S4, ρ4, e2.trans e4, R4, r4, q4⟩
                    | ct ρ4 => exact fun σ4 r4 => ⟨Φ4, ι4, S4, ρ4, e2.trans e4, R4, r4, q4⟩
                    | bk ρ4 => exact fun σ4 r4 => q4.here R4 σ4 r4
                    | rt w => exact fun v rv => q4.here R4 v rv
                · rename_i ex
                  left
                  refine ⟨⟨vs, sq, ?_⟩, q2.here R2 σ2 re2⟩
                  rw [← t1.length]
                  exact List.getElem?_eq_none_iff.mp ex
              · exact q2.elim
      · exact q.elim
  | .forE t i b, X, k, Wx, A, P, x, h => by
    simp only [ckS] at h
    split at h
    case h_2 => cases h
    · rename_i elts kk tp f pf y py pc bs p
      simp only [Bool.and_eq_true, decide_eq_true_eq, List.contains_iff_mem] at h
      obtain ⟨⟨⟨⟨⟨⟨⟨h1, rfl⟩, h6⟩, h7⟩, h2⟩, h3⟩, h4⟩, h5⟩ := h
      obtain ⟨p1, p2, p3⟩ := plain_of h4
      have st := star_cons (x := .Name y py) rfl [] X.env
      refine (ps_for P.1 A.calm (pi_enum (A.glo h6) (A.free _ h7) (pa_cons (pe_var (by rw [A.N]; exact h2) (A.vis h3) p1 p2) pa_nil st) (by rw [st]; rfl)) (pgT A h1) (sndSs b A P h5) (by intro _; rfl)).imp fun D σ H ⟨Φ, ι, S, ρ, R, re, q⟩ => ?_
      simp only [exe] at q
      split at q
      · rename_i l e
        obtain ⟨v, v1, v2⟩ := re.2 _ _ e
        cases v2 with
        | @loc _ a hl =>
          refine ⟨.ref a, v1, ?_⟩
          obtain ⟨us, hus⟩ : ∃ vs, SqL X.K H a vs := by
            cases hf : C.fuel with
            | zero => rw [hf] at q; exact q.elim
            | succ n =>
              rw [hf] at q
              simp only [loopsE] at q
              split at q
              · rename_i ys ey
                obtain ⟨_, vs, q1, t1⟩ := R.live _ _ _ hl ey
                exact ⟨vs, SqL.of q1⟩
              · exact q.elim
          refine ⟨a, us, rfl, hus, ?_⟩
          · generalize hst : (fun x ρ1 S2 => (ofOpt (tgW t x ρ1) S2).bd fun ρ2 S2 => exes C b ρ2 S2) = step at q
            refine ⟨fun j m σ' H' => ∃ Φ' ι' S' ρ', Ext Φ ι H Φ' ι' H' ∧ Rel c.K Φ' ι' S' H' ∧ REnv c.K Φ' ι' ρ' σ' ∧ After c Φ' ι' H' (loopsE l step m j ρ' S') (QF c D) (fun cls d H' => ∀ σ', Wx cls d σ' H'), ⟨C.fuel, Φ, ι, S, ρ, Ext.refl _ _ _, R, re, q⟩, ?_⟩
            rintro j m σ2 H2 ⟨Φ2, ι2, S2, ρ2, e2, R2, re2, q2⟩
            have hl2 : ι2[l]? = some a := by
              obtain ⟨tl, rfl⟩ := e2.lo
              rw [List.getElem?_append_left (List.getElem?_eq_some_iff.mp hl).1]
              exact hl
            cases m with
            | zero => exact (show False from q2).elim
            | succ m =>
              simp only [loopsE] at q2
              split at q2
              · rename_i ys ey
                obtain ⟨_, vs, s1, t1⟩ := R2.live _ _ _ hl2 ey
                have sq : SqL X.K H2 a vs := SqL.of s1
                split at q2
                · rename_i x ex
                  right
                  obtain ⟨v, w1, w2⟩ := t1.get ex
                  refine ⟨⟨vs, v, sq, w1⟩, fun σ' H' => ∃ Φ' ι' S' ρ', Ext Φ ι H Φ' ι' H' ∧ Rel c.K Φ' ι' S' H' ∧ REnv c.K Φ' ι' ρ' σ' ∧ After c Φ' ι' H' (loopsE l step m (j + 1) ρ' S') (QF c D) (fun cls d H' => ∀ σ', Wx cls d σ' H'),
                    fun σ' H' w => ⟨m, Nat.lt_succ_self _, w⟩, fun z H' y => ?_⟩
                  obtain ⟨T, z0, y1, y2, y3, y4⟩ := y
                  subst y1
                  subst y3
                  have y5 := y4 vs sq
                  rw [w1] at y5
                  cases y5
                  obtain ⟨R3, E3⟩ := R2.newF (o := .tup [.int (j : Nat), v]) y2
                  have q2 := q2.step E3
                  rw [← hst] at q2
                  dsimp only at q2
                  rw [hst, Out.bd_assoc] at q2
                  cases et : tgW t (.tup [.int (j : Nat), x]) ρ2 with
                  | none => rw [et] at q2; exact q2.elim
                  | some ρ3 =>
                    rw [et] at q2
                    simp only [ofOpt_some, Out.bd_ok] at q2
                    refine gT_ok A.hK R3 t (.tup (SqT.of upd_same) (.cons (.int _) (.cons (E3.rv w2) .nil))) (re2.mono E3) et fun σ3 r3 _ => ⟨_, ι2, S2, ρ3, R3, r3, (q2.bd).imp fun fl Φ4 ι4 S4 H4 e4 R4 q4 => ?_⟩
                    cases fl with
                    | nx ρ4 => exact fun σ4 r4 => ⟨Φ4, ι4, S4, ρ4, (e2.trans E3).trans e4, R4, r4, q4⟩
                    | ct ρ4 => exact fun σ4 r4 => ⟨Φ4, ι4, S4, ρ4, (e2.trans E3).trans e4, R4, r4, q4⟩
                    | bk ρ4 => exact fun σ4 r4 => q4.here R4 σ4 r4
                    | rt w => exact fun v rv => q4.here R4 v rv
                · rename_i ex
                  left
                  refine ⟨⟨vs, sq, ?_⟩, q2.here R2 σ2 re2⟩
                  rw [← t1.length]
                  exact List.getElem?_eq_none_iff.mp ex
              · exact q2.elim
      · exact q.elim
  | .raise0 cn, X, k, Wx, A, P, x, h => by
    simp only [ckS] at h
    split at h
    case h_2 => cases h
    · rename_i x px pc pr
      simp only [Bool.and_eq_true, decide_eq_true_eq, List.contains_iff_mem] at h
      obtain ⟨⟨⟨⟨rfl, h1⟩, h2⟩, h3⟩, h4⟩ := h
      have h4' : cn ∉ k.xfs.map (·.1) := fun z => by
        rw [List.contains_iff_mem.mpr z] at h4
        cases h4
      obtain ⟨p1, p2, p3⟩ := plain_of h3
      obtain ⟨D, e1, ok⟩ := A.xc cn h2
      refine (ps_raise A.calm A.tk (pmk_own0 PySem.F.excBase_ValueError (A.x0 cn D e1 h4') ok.mg ok.kp (raises_own ok.sb ok.ty) (A.glo h1) p1)).imp fun Dn σ H ⟨Φ, ι, S, ρ, R, re, q⟩ => ?_
      exact q Φ ι H (.ref D) none (Ext.refl _ _ _) R ⟨D, e1, rfl, .inl ⟨rfl, rfl⟩⟩ σ
  | .raiseN cn fs es, X, k, Wx, A, P, x, h => by
    simp only [ckS] at h
    split at h
    case h_2 => cases h
    · rename_i x px xs pc pr
      simp only [Bool.and_eq_true, decide_eq_true_eq, List.any_eq_true] at h
      obtain ⟨⟨⟨⟨⟨⟨rfl, h1⟩, h2⟩, t, ht, e1, e2⟩, h3⟩, h4⟩, h5⟩ := h
      obtain ⟨p1, p2, p3⟩ := plain_of h2
      obtain ⟨D, fI, fd, q1, q2, T, iC, tI, F1, B1, hno, hdct⟩ := A.xf t ht
      rw [e1] at q1 q2
      rw [e2] at F1 B1 hno
      obtain ⟨D', q3, ok⟩ := A.xc cn q2
      rw [q1] at q3
      cases q3
      have hA := sndA es A h3
      refine ⟨fun pins s σ H Dn I ⟨Φ, ι, S, ρ, R, re, q⟩ => ?_⟩
      simp only [exe] at q
      split at q
      · rename_i hlv
        have hr : Room 2 X.A := A.rm.mono (by omega)
        cases xs with
        | nil => exact absurd rfl h4
        | cons x0 xs =>
          refine (ps_raise A.calm A.tk (pmk_oex T iC tI F1 hr B1 .nil (fun _ _ _ _ _ _ _ z => (noExc z).elim) (A.glo h1) ok.mg hA p1 (star_cons (cks_star h3 x0 List.mem_cons_self) _ _) (star_none fun z hz => cks_star h3 z (List.mem_cons_of_mem _ hz)))).run pins s σ H Dn I ?_
          refine ⟨Φ, ι, S, ρ, R, re, ?_⟩
          have q' := q.bd
          revert q'
          cases dens C es ρ S with
          | no => exact fun z => z
          | ex xx S1 => exact fun z Φ1 ι1 H1 cls d e3 R1 rx => z Φ1 ι1 H1 cls d e3 R1 rx σ
          | ok ws S1 =>
            intro z Φ1 ι1 H1 e3 R1 vs rv
            have z1 := z Φ1 ι1 H1 e3 R1
            dsimp only at z1
            split at z1
            · rename_i hl
              have hvl : vs.length = fs.length := by rw [← rv.length]; exact hl.1
              refine ⟨by omega, fun a ha => ⟨a, vs ++ [], rfl, by simpa using hvl, upd_same, fun d hd hne => ⟨rfl, d, (fs.zip (vs ++ [])).reverse, by rw [upd_same], by rw [upd_ne hne, upd_same], ?_, ?_⟩⟩⟩
              · rw [upd_ne hne] at hd
                exact hd
              · rw [upd_ne hne] at hd
                rw [List.append_nil]
                have eh : upd (del (upd (upd (upd H1 a (exo a D none)) d (exd d (fs.zip vs).reverse)) a (exo a D (some d))) a) d (.xd (fs.zip vs).reverse) = upd H1 d (.xd (fs.zip vs).reverse) := by
                  funext b
                  by_cases hb : b = d
                  · subst hb; rw [upd_same, upd_same]
                  · rw [upd_ne hb, upd_ne hb]
                    by_cases hba : b = a
                    · subst hba; rw [del_same, ha]
                    · rw [del_ne hba, upd_ne hba, upd_ne hb, upd_ne hba]
                rw [eh]
                obtain ⟨R2, E2⟩ := R1.newF (p := d) (o := .xd (fs.zip vs).reverse) hd
                have nι : d ∉ ι1 := fun hm => R1.trk d hm hd
                refine z1 _ ι1 _ (.ref D) (some d) E2 R2 ⟨D, q1, rfl, .inr ⟨?_, d, _, rfl, upd_same, nι, ?_⟩⟩ σ
                · have hfl : 0 < fs.length := List.length_pos_iff.mpr hl.2
                  intro hz
                  have hz2 := congrArg List.length hz
                  simp only [List.length_reverse, List.length_zip, List.length_nil] at hz2
                  have := hl.1
                  omega
                · exact rfs_rev (rfs_zip fs (E2.rvs rv))
            · exact z1.elim
      · exact q.elim
  | .tryP b, X, k, Wx, A, P, x, h => by
    simp only [ckS] at h
    split at h
    case h_2 => cases h
    refine (ps_try_thru0 (sndSs b (Amb.nox A) ⟨PassesOwn.never, ⟨P.2.stk, P.2.frm⟩⟩ h)).imp fun D σ H ⟨Φ, ι, S, ρ, R, re, q⟩ => ?_
    simp only [exe] at q
    exact ⟨Φ, ι, S, ρ, R, re, q.noex⟩
  | .tryH b cn i r, X, k, Wx, A, P, x, h => by
    simp only [ckS] at h
    split at h
    case h_2 => cases h
    · rename_i body y py n e pr pe pos
      simp only [Bool.and_eq_true, decide_eq_true_eq, List.contains_iff_mem] at h
      obtain ⟨⟨⟨⟨⟨⟨⟨h1, rfl⟩, h2⟩, h3⟩, h4⟩, h5⟩, h6⟩, h7⟩ := h
      obtain ⟨p1, p2, p3⟩ := plain_of h4
      obtain ⟨Dy, e1, ok⟩ := A.xc cn h3
      have hln := isLocal_ok A h6
      refine (ps_try_as (X := X) (x := cn) (n := n) (c := .ref Dy) (i := i) (body := body) (b₀ := .Return (some e) pr) (suite := []) (np := py) (pos := pos) (pos' := pe) (tb := fun W => rdS c W (exes C b)) (Wout := Wx)
        (ts := fun a cls d D σ H => (∃ σ0 : L2.St, σ = σ0.set i (some (.ref a))) ∧ ∃ (Dx : Addr) (xc : Str) (fs : List (Str × W)) (us : List (Str × V)) (S1 : Store) (Φ : Hp) (ι : List Addr), cls = .ref Dx ∧ c.cl xc = some Dx ∧ Rel c.K Φ ι S1 H ∧ (d = none → fs = []) ∧ HcOk d us H ∧ RFs c.K Φ ι fs us ∧
          After c Φ ι H (hxW (C.gl.sub xc) fs r S1) (fun w Φ2 ι2 S2 H2 => ∀ v, RV c.K Φ2 ι2 w v → D.rt v H2) (fun _ _ _ => True))
        P.2.stk P.2.frm A.nd (by rw [A.N]; exact h5) hln ⟨A.glo h2, p1, .inl ok.mg⟩ A.tk
        (fun W pn xe tk pp => sndSs b (A.tr tk) ⟨pp, ⟨P.2.stk, P.2.frm⟩⟩ h1)
        (fun a oe cls d pn hz hf => ⟨fun pins s σ H D I hh => by
          obtain ⟨⟨σ0, rfl⟩, Dx, xc, fs, us, S1, Φ, ι, rfl, q1, R1, hd, hc, rf, q⟩ := hh
          have hil : i < σ0.length := by
            have h0 := I.len
            have h1 : (σ0.set i (some (.ref a))).length = X.N.length := h0
            have h2 : i < X.N.length := by rw [A.N]; exact (List.getElem?_eq_some_iff.mp h5).1
            rw [List.length_set] at h1
            omega
          have q0 : (σ0.set i (some (V.ref a)))[i]? = some (some (.ref a)) := List.getElem?_set_self hil
          cases r with
          | at_ ha =>
            simp only [hxW] at q
            cases hw : haW (C.gl.sub xc) fs ha with
            | none => rw [hw] at q; exact q.elim
            | some w =>
              rw [hw] at q
              obtain ⟨v, rv, pv⟩ := sndHa A h5 hz hf q1 hd rf _ ha e w h7 hw
              exact (pss_cons (ps_ret pv) pss_nil).run pins s _ H D I ⟨q0, hc, q.here R1 v rv⟩
          | lst fz has =>
            cases e with
            | List es pl =>
              simp only [hxW] at q
              cases hw : hasW (C.gl.sub xc) fs has with
              | none => rw [hw] at q; exact q.elim
              | some ws =>
                rw [hw] at q
                obtain ⟨vs, rvs, pvs⟩ := sndHas A h5 hz hf q1 hd rf _ has es ws h7 hw
                exact (pss_cons (ps_ret (pe_lst pvs)) pss_nil).run pins s _ H D I ⟨q0, hc, newL_ok R1 rvs q⟩
            | _ => simp [ckHx] at h7⟩)).imp fun D σ H ⟨Φ, ι, S, ρ, R, re, q⟩ => ?_
      refine ⟨Φ, ι, S, ρ, R, re, ?_⟩
      simp only [exe] at q
      cases eo : exes C b ρ S with
      | ok f S1 => rw [eo] at q; exact q
      | no => rw [eo] at q; exact q.elim
      | ex x S1 =>
        rw [eo] at q
        simp only at q
        intro Φ1 ι1 H1 cls d e2 R1 rx σ1
        have rx' := rx
        obtain ⟨Dx, hx, rfl, hd⟩ := rx
        cases hs : C.gl.sub x.cls cn with
        | none => rw [hs] at q; exact q.elim
        | some bb =>
          rw [hs] at q
          have hxm := (A.xs x.cls cn bb Dx hs hx).1 Dy h3 e1
          refine ⟨bb, hxm.1, fun hb a na => ?_, fun hb => ?_⟩
          · subst hb
            simp only at q
            have q2 := (After.bd (After.step q e2))
            have q3 := After.noexc (q2.imp (Q' := fun w Φ2 ι2 S2 H2 => ∀ v, RV c.K Φ2 ι2 w v → D.rt v H2) fun w Φ2 ι2 S2 H2 e4 R2 q4 v rv => q4.here R2 v rv)
            rcases hd with ⟨h0, h00⟩ | ⟨h0, dx, us, h01, h02, h03, h04⟩
            · exact ⟨⟨σ1, rfl⟩, Dx, x.cls, x.fs, [], S1, Φ1, ι1, rfl, hx, R1, fun _ => h0, (show HcOk d [] H1 from fun dx z => absurd (h00.symm.trans z) (fun y => by cases y)), (by rw [h0]; exact .nil), q3⟩
            · exact ⟨⟨σ1, rfl⟩, Dx, x.cls, x.fs, us, S1, Φ1, ι1, rfl, hx, R1, (fun z => absurd (h01.symm.trans z) (fun y => by cases y)), (show HcOk d us H1 from fun dx' z => by rw [h01] at z; cases z; exact h02), h04, q3⟩
          · subst hb
            exact q Φ1 ι1 H1 _ d e2 R1 rx' σ1
  | .tryR b cn i su, X, k, Wx, A, P, x, h => by
    simp only [ckS] at h
    split at h
    case h_2 => cases h
    · rename_i body y py n e pr pe pos
      simp only [Bool.and_eq_true, decide_eq_true_eq, List.contains_iff_mem] at h
      obtain ⟨⟨⟨⟨⟨⟨⟨h1, rfl⟩, h2⟩, h3⟩, h4⟩, h5⟩, h6⟩, h7⟩ := h
      obtain ⟨p1, p2, p3⟩ := plain_of h4
      obtain ⟨Dy, e1, ok⟩ := A.xc cn h3
      have hln := isLocal_ok A h6
      refine (ps_try_as (X := X) (x := cn) (n := n) (c := .ref Dy) (i := i) (body := body) (b₀ := .Return (some e) pr) (suite := []) (np := py) (pos := pos) (pos' := pe) (tb := fun W => rdS c W (exes C b)) (Wout := Wx)
        (ts := fun a cls d D σ H => (∃ σ0 : L2.St, σ = σ0.set i (some (.ref a))) ∧ ∃ (Dx : Addr) (xc : Str) (t : Bool), cls = .ref Dx ∧ d = none ∧ c.cl xc = some Dx ∧ sxB (C.gl.sub xc) su = some t ∧ D.rt (.bl t) H)
        P.2.stk P.2.frm A.nd (by rw [A.N]; exact h5) hln ⟨A.glo h2, p1, .inl ok.mg⟩ A.tk
        (fun W pn xe tk pp => sndSs b (A.tr tk) ⟨pp, ⟨P.2.stk, P.2.frm⟩⟩ h1)
        (fun a oe cls d pn hz hf => ⟨fun pins s σ H D I hh => by
          obtain ⟨⟨σ0, rfl⟩, Dx, xc, t, rfl, rfl, q1, q2, q3⟩ := hh
          have hil : i < σ0.length := by
            have h0 := I.len
            have h1 : (σ0.set i (some (.ref a))).length = X.N.length := h0
            have h2 : i < X.N.length := by rw [A.N]; exact (List.getElem?_eq_some_iff.mp h5).1
            rw [List.length_set] at h1
            omega
          have q0 : (σ0.set i (some (V.ref a)))[i]? = some (some (.ref a)) := List.getElem?_set_self hil
          exact (pss_cons (ps_ret (sndX A h5 hz hf q1 su e t h7 q2)) pss_nil).run pins s _ H D I ⟨q0, q3⟩⟩)).imp fun D σ H ⟨Φ, ι, S, ρ, R, re, q⟩ => ?_
      refine ⟨Φ, ι, S, ρ, R, re, ?_⟩
      simp only [exe] at q
      cases eo : exes C b ρ S with
      | ok f S1 => rw [eo] at q; exact q
      | no => rw [eo] at q; exact q.elim
      | ex x S1 =>
        rw [eo] at q
        simp only at q
        intro Φ1 ι1 H1 cls d e2 R1 rx σ1
        have rx' := rx
        obtain ⟨Dx, hx, rfl, hd⟩ := rx
        cases hs : C.gl.sub x.cls cn with
        | none => rw [hs] at q; exact q.elim
        | some bb =>
          rw [hs] at q
          have hxm := (A.xs x.cls cn bb Dx hs hx).1 Dy h3 e1
          refine ⟨bb, hxm.1, fun hb a na => ?_, fun hb => ?_⟩
          · subst hb
            cases hfs : x.fs with
            | cons _ _ => rw [hfs] at q; exact q.elim
            | nil =>
              rw [hfs] at q
              simp only at q
              cases hsx : sxB (C.gl.sub x.cls) su with
              | none => rw [hsx] at q; exact q.elim
              | some t =>
                rw [hsx] at q
                have hdn : d = none := by
                  rcases hd with ⟨_, h⟩ | ⟨h, _⟩
                  · exact h
                  · exact absurd hfs h
                refine ⟨⟨σ1, rfl⟩, Dx, x.cls, t, rfl, hdn, hx, hsx, ?_⟩
                exact q Φ1 ι1 H1 e2 R1 (.bl t) (.bl t)
          · subst hb
            exact q Φ1 ι1 H1 _ d e2 R1 rx' σ1
theorem sndSs : ∀ (ms : List Sm) {X : Cx} {k : Ck} {Wx : WX} (A : Amb c C X k Wx) (P : PassesOwn (model X.prog X.w) X.A X.env X.xe ∧ Fr X) {xs : List Stmt}, ckSs k ms xs = true → PSs X xs (rdS c Wx (exes C ms))
  | [], X, k, Wx, A, P, xs, h => by
    cases xs with
    | nil => exact pss_nil.imp fun D σ H ⟨Φ, ι, S, ρ, R, re, q⟩ => q.here R σ re
    | cons _ _ => simp [ckSs] at h
  | m :: ms, X, k, Wx, A, P, xs, h => by
    cases xs with
    | nil => simp [ckSs] at h
    | cons x xs =>
      simp only [ckSs, Bool.and_eq_true] at h
      refine (pss_cons (sndS m A P h.1) (sndSs ms A P h.2)).imp fun D σ H ⟨Φ, ι, S, ρ, R, re, q⟩ => ?_
      simp only [exes] at q
      refine ⟨Φ, ι, S, ρ, R, re, (q.bd).imp fun fl Φ1 ι1 S1 H1 e1 R1 q1 => ?_⟩
      cases fl with
      | nx ρ1 => exact fun σ1 r1 => ⟨Φ1, ι1, S1, ρ1, R1, r1, q1⟩
      | rt w => exact fun v rv => q1.here R1 v rv
      | bk ρ1 => exact fun σ1 r1 => q1.here R1 σ1 r1
      | ct ρ1 => exact fun σ1 r1 => q1.here R1 σ1 r1
end
end
end Gs
end

section
set_option linter.all false
set_option maxRecDepth 100000
set_option autoImplicit false
/-! GIni: an exception's own __init__ that keeps its parameters under their names. -/
namespace Gs
open PySem PySem.Spec PyProof.Rows L2
variable [Wd]
theorem upd_self {H : Hp} {a : Addr} {o : HO} (h : H a = some o) : upd H a o = H := by
  funext b
  by_cases e : b = a
  · rw [e, upd_same, h]
  · rw [upd_ne e]
theorem upd_upd {H : Hp} {a : Addr} {o u : HO} : upd (upd H a o) a u = upd H a u := by
  funext b
  by_cases e : b = a
  · rw [e, upd_same, upd_same]
  · rw [upd_ne e, upd_ne e, upd_ne e]
theorem upd_swap {H : Hp} {a b : Addr} {o u : HO} (h : a ≠ b) : upd (upd H a o) b u = upd (upd H b u) a o := by
  funext d
  by_cases e : d = a
  · subst e
    rw [upd_ne h, upd_same, upd_same]
  · by_cases e2 : d = b
    · subst e2
      rw [upd_same, upd_ne e, upd_same]
    · rw [upd_ne e2, upd_ne e, upd_ne e, upd_ne e2]
theorem pss_imp0 {X : Cx} {e : List Stmt} {t t' : TS} (h : PSs X e t) (k : ∀ D σ H, t' D σ H → t D σ H) : PSs X e t' := ⟨fun pins s σ H D I q => h.run pins s σ H D I (k D σ H q)⟩
/-- self.f = f, .. -/
def iniB (k : Scope) : List Str → List Stmt → Bool
  | [], [] => true
  | f :: fs, .Assign [.Attribute (.Name s _) g _] (.Name x _) _ :: r => decide (s = "self") && decide (g = f) && decide (x = f) && plainX f && visB k f && visB k "self" && iniB k fs r
  | _, _ => false
section
variable {X : Cx} {C : Addr}
theorem visOf {k : Scope} (hs : X.env.scope = k) {x : Str} (h : visB k x = true) : Vis X.env.scope x := by
  rw [hs]
  unfold visB at h
  unfold Vis
  cases e : k.names.lookup x with
  | none => rw [e] at h; cases h
  | some z => rw [e] at h; cases z <;> first | exact .inl rfl | exact .inr (.inl rfl) | exact .inr (.inr rfl) | cases h
def tIni (a C dx : Addr) (acc : List (Str × V)) (j : Nat) (fs : List Str) : TS := fun D σ H => σ[0]? = some (some (.ref a)) ∧ H a = some (exo a C (some dx)) ∧ H dx = some (exd dx acc) ∧ dx ≠ a ∧ acc.length + fs.length ≤ 900 ∧
  ∃ ys : List V, ys.length = fs.length ∧ (∀ (k : Nat) (y : V), ys[k]? = some y → σ[j + k]? = some (some y)) ∧ D.nx σ (upd H dx (exd dx ((fs.zip ys).reverse ++ acc)))
theorem ini_rest {k : Scope} (hs : X.env.scope = k) (T : OexC X.K C) (h0 : X.N[0]? = some ("self" : Str)) : ∀ (fs : List Str) (r : List Stmt) (j : Nat), iniB k fs r = true → (∀ (i : Nat) (f : Str), fs[i]? = some f → X.N[j + i]? = some f) → (∀ f ∈ fs, PySem.W.findIn X.K (.ref C) f = some none) →
    PSs X r (fun D σ H => ∃ a dx acc, tIni a C dx acc j fs D σ H)
  | [], [], j, _, _, _ => pss_imp0 pss_nil fun D σ H ⟨a, dx, acc, _, _, h3, _, _, ys, hl, _, q⟩ => by
    have : ys = [] := List.eq_nil_of_length_eq_zero hl
    subst this
    show D.nx σ H
    simpa [upd_self h3] using q
  | [], _ :: _, j, h, _, _ => by simp [iniB] at h
  | f :: fs, [], j, h, _, _ => by simp [iniB] at h
  | f :: fs, st :: r, j, h, hN, hno => by
    unfold iniB at h
    split at h
    · rename_i heq1 heq2
      cases heq1
    · rename_i f' fs' s' ps' g pg x px pa r' heq1 heq2
      cases heq1
      cases heq2
      simp only [Bool.and_eq_true, decide_eq_true_eq] at h
      obtain ⟨⟨⟨⟨⟨⟨rfl, rfl⟩, rfl⟩, h4⟩, h5⟩, h6⟩, h7⟩ := h
      obtain ⟨p1, p2, p3⟩ := plain_of h4
      have ih := ini_rest hs T h0 fs r (j + 1) h7 (fun i f e => by
        have := hN (i + 1) f (by simpa using e)
        rwa [show j + 1 + i = j + (i + 1) by omega]) (fun f hf => hno f (by simp [hf]))
      have hx : X.N[j]? = some x := hN 0 x rfl
      have e1 : PE X (.Name x px) (tVar j) := pe_var hx (visOf hs h5) p1 p2
      have e2 : PE X (.Name "self" ps') (tVar 0) := pe_var h0 (visOf hs h6)
      refine pss_imp0 (pss_cons (ps_ost e2 e1) ih) fun D σ H ⟨a, dx, acc, h1, h2, h3, hne, hlen, ys, hl, hy, q⟩ => ?_
      cases ys with
      | nil => simp at hl
      | cons y ys =>
        simp only [List.length_cons] at hl hlen
        have hy0 : σ[j]? = some (some y) := hy 0 y rfl
        refine ⟨y, hy0, .ref a, h1, a, C, rfl, T, hno x (by simp), .inr ⟨dx, acc, h2, h3, by omega, ?_⟩⟩
        refine ⟨a, dx, (x, y) :: acc, h1, by rw [upd_ne (Ne.symm hne)]; exact h2, upd_same, hne, by simp; omega, ys, by omega, fun i z e => ?_, ?_⟩
        · have := hy (i + 1) z (by simpa using e)
          rwa [show j + 1 + i = j + (i + 1) by omega]
        · rw [upd_upd]
          simpa using q
    · cases h
theorem ini_all {k : Scope} (hs : X.env.scope = k) (T : OexC X.K C) (h0 : X.N[0]? = some ("self" : Str)) {f : Str} {fs : List Str} {r : List Stmt} (h : iniB k (f :: fs) r = true) (hN : ∀ (i : Nat) (g : Str), (f :: fs)[i]? = some g → X.N[1 + i]? = some g) (hno : ∀ g ∈ f :: fs, PySem.W.findIn X.K (.ref C) g = some none) (hlen : fs.length ≤ 800) :
    PSs X r (fun D σ H => ∃ (a : Addr) (ys : List V), σ[0]? = some (some (.ref a)) ∧ ys.length = (f :: fs).length ∧ (∀ (k : Nat) (y : V), ys[k]? = some y → σ[1 + k]? = some (some y)) ∧ H a = some (exo a C none) ∧ ∀ d, H d = none → d ≠ a → D.nx σ (upd (upd H d (exd d ((f :: fs).zip ys).reverse)) a (exo a C (some d)))) := by
  cases r with
  | nil => simp [iniB] at h
  | cons st r =>
    unfold iniB at h
    split at h
    · rename_i heq1 heq2
      cases heq1
    · rename_i f' fs' s' ps' g pg x px pa r' heq1 heq2
      cases heq1
      cases heq2
      simp only [Bool.and_eq_true, decide_eq_true_eq] at h
      obtain ⟨⟨⟨⟨⟨⟨rfl, rfl⟩, rfl⟩, h4⟩, h5⟩, h6⟩, h7⟩ := h
      obtain ⟨p1, p2, p3⟩ := plain_of h4
      have ih := ini_rest hs T h0 fs r 2 h7 (fun i f e => by
        have := hN (i + 1) f (by simpa using e)
        rwa [show 2 + i = 1 + (i + 1) by omega]) (fun f hf => hno f (by simp [hf]))
      have e1 : PE X (.Name x px) (tVar 1) := pe_var (hN 0 x rfl) (visOf hs h5) p1 p2
      have e2 : PE X (.Name "self" ps') (tVar 0) := pe_var h0 (visOf hs h6)
      refine pss_imp0 (pss_cons (ps_ost e2 e1) ih) fun D σ H ⟨a, ys, h1, hl, hy, ha, q⟩ => ?_
      cases ys with
      | nil => simp at hl
      | cons y ys =>
        simp only [List.length_cons] at hl
        refine ⟨y, hy 0 y rfl, .ref a, h1, a, C, rfl, T, hno x (by simp), .inl ⟨ha, fun dx hd hne => ?_⟩⟩
        refine ⟨a, dx, [(x, y)], h1, upd_same, by rw [upd_ne hne, upd_same], hne, by simp; omega, ys, by omega, fun i z e => ?_, ?_⟩
        · have := hy (i + 1) z (by simpa using e)
          rwa [show 2 + i = 1 + (i + 1) by omega]
        · have e := q dx hd hne
          rw [upd_swap (Ne.symm hne), upd_upd] 
          simpa using e
    · cases h
end
section
variable {P : Program} {w : World} {K : Frag} {mg : Str → Option Value} {base : Heap}
theorem start_at {N : List Str} {vs : List V} {i : Nat} {v : V} (h : vs[i]? = some v) : (L2.start N vs)[i]? = some (some v) := by
  have hl := (List.getElem?_eq_some_iff.mp h).1
  unfold L2.start
  rw [List.getElem?_append_left (by simpa using hl), List.getElem?_map, h]
  rfl
theorem ini_ok {C fI : Addr} {fd : FuncData} {x qual : Str} {params : Arguments} {body : List Stmt} {scope : Scope} {f : Str} {fs : List Str} (F : FunD K x qual params body scope [] [] fI fd) (S : FnScope ("self" :: f :: fs) ("self" :: f :: fs) scope) (T : OexC K C)
    (hb : iniB scope (f :: fs) body = true) (hno : ∀ g ∈ f :: fs, PySem.W.findIn K (.ref C) g = some none) (hlen : fs.length ≤ 800) : FnOk P w K mg base (CX P w) 1 fI fd ("self" :: f :: fs) (iniSp K C (f :: fs)) := by
  refine F.ok S (fun vs H Q E ⟨a, ys, e, hl, _⟩ => by rw [e]; simp [hl]) fun cdv A outer s H vs Q E hr ⟨a, ys, e, hl, ha, q⟩ => ?_
  subst e
  refine ⟨_, ini_all (X := cxOf (CX P w) P w K mg base ("self" :: f :: fs) qual scope fI cdv A outer s H E) (k := scope) rfl T rfl hb (fun i g e => by rw [Nat.add_comm]; exact e) hno hlen, ?_⟩
  exact ⟨a, ys, start_at rfl, hl, fun i y e => start_at (by rw [Nat.add_comm]; exact e), ha, q⟩
end
/-- what the written part says of an exception class with an own __init__ -/
theorem oexB_ok {K : Frag} {C : Addr} (h : oexB K C = true) : OexC K C := by
  simp only [oexB, Bool.and_eq_true, beq_iff_eq, decide_eq_true_eq] at h
  obtain ⟨q, h2, h3, h4, h5⟩ := h
  refine ⟨?_, He.eqO_ok h2, h3, h4, h5⟩
  split at q
  · rename_i dd cd sl ho
    split at q
    · rename_i C' bm k0 k1 k2 k3 n k5 hm hs
      simp only [Bool.and_eq_true, decide_eq_true_eq, Bool.not_eq_true'] at q
      obtain ⟨rfl, rfl, hdel, hdct, ht⟩ := q
      obtain ⟨nm, bs, mro, ns, qn, hd, sn, sub, ab, col, del⟩ := cd
      dsimp only at hm hdel hdct
      subst hm hdel hdct
      have hsl : sl = #[k0, k1, k2, k3, some (.builtin "ValueError.__new__"), k5] := by
        obtain ⟨l⟩ := sl
        simp only at hs
        rw [hs]
      subst hsl
      exact ⟨_, _, _, _, _, _, _, _, _, _, _, _, _, _, _, ho, ht⟩
    · cases q
  · cases q
end Gs
end

section
set_option linter.all false
set_option maxRecDepth 100000
set_option autoImplicit false
set_option maxHeartbeats 4000000
namespace Gs
open PySem PySem.Spec PyProof.Rows L2
section
variable [Wd]
def Src.kws (s : Src) : List (Str × V) := match s.kw with
  | none => []
  | some (q, d) => [(q, .int d)]
/-- how its calls bind -/
def Src.Bnd (s : Src) (K : Frag) (fd : FuncData) : Prop := match s.kw with
  | none => Binds K fd s.ps []
  | some (q, d) => ∃ m, s.ps.length = m + 1 ∧ (∃ ds, Vals [V.int d] ds ∧ Binds K fd s.ps ds) ∧ KBn K fd s.ps m [q] (fun us ws => us ++ ws) (fun vs zs => vs ++ zs)
def fnsOf (srcs : List Src) : List Str := (srcs.filter fun s => s.kw.isNone).map (·.name)
def kfsOf (srcs : List Src) : List (Str × Str × Int) := srcs.filterMap fun s => s.kw.map fun q => (s.name, q)
theorem fnsOf_mem {srcs : List Src} {f : Str} (h : f ∈ fnsOf srcs) : ∃ s ∈ srcs, s.kw = none ∧ s.name = f := by
  obtain ⟨s, hs, e⟩ := List.mem_map.mp h
  obtain ⟨h1, h2⟩ := List.mem_filter.mp hs
  exact ⟨s, h1, Option.isNone_iff_eq_none.mp h2, e⟩
theorem kfsOf_mem {srcs : List Src} {t : Str × Str × Int} (h : t ∈ kfsOf srcs) : ∃ s ∈ srcs, s.kw = some t.2 ∧ s.name = t.1 := by
  obtain ⟨s, hs, e⟩ := List.mem_filterMap.mp h
  obtain ⟨q, e1, e2⟩ := Option.map_eq_some_iff.mp e
  subst e2
  exact ⟨s, hs, e1, rfl⟩
theorem fnsOf_all {srcs : List Src} (h : kfsOf srcs = []) {s : Src} (hs : s ∈ srcs) : s.name ∈ fnsOf srcs := by
  refine List.mem_map.mpr ⟨s, List.mem_filter.mpr ⟨hs, ?_⟩, rfl⟩
  cases e : s.kw with
  | none => rfl
  | some q =>
    have : (s.name, q) ∈ kfsOf srcs := List.mem_filterMap.mpr ⟨s, hs, by rw [e]; rfl⟩
    rw [h] at this
    cases this
def Src.fd (s : Src) : Fd := ⟨s.name, s.ps.length, s.N.length, s.body⟩
def nodupB (l : List Str) : Bool := match l with
  | [] => true
  | x :: r => !r.contains x && nodupB r
theorem nodupB_ok : ∀ {l : List Str}, nodupB l = true → l.Nodup
  | [], _ => List.nodup_nil
  | x :: r, h => by
    simp only [nodupB, Bool.and_eq_true] at h
    rw [List.nodup_cons]
    refine ⟨fun z => ?_, nodupB_ok h.2⟩
    have := h.1
    rw [List.contains_iff_mem.mpr z] at this
    cases this
def fsB (N P : List Str) (sc : Scope) : Bool := (match sc.kind with | .function => true | _ => false) && !sc.isCoroutine && !sc.isGenerator && nodupB N && decide (N.take P.length = P) &&
  P.all (fun x => match sc.names.lookup x with | some .local => true | some .cell => true | _ => false) && sc.names.all (fun y => match y.2 with | .free => false | _ => true)
theorem fsB_ok {N P : List Str} {sc : Scope} (h : fsB N P sc = true) : FnScope N P sc := by
  simp only [fsB, Bool.and_eq_true, decide_eq_true_eq, List.all_eq_true] at h
  obtain ⟨⟨⟨⟨⟨⟨h1, h2⟩, h3⟩, h4⟩, h5⟩, h6⟩, h7⟩ := h
  refine ⟨kind_ok h1, by simpa using h2, by simpa using h3, nodupB_ok h4, h5, fun x hx => ?_, fun y hy e => ?_⟩
  · have := h6 x hx
    cases q : sc.names.lookup x with
    | none => rw [q] at this; cases this
    | some z => rw [q] at this; cases z <;> first | exact .inl rfl | exact .inr rfl | cases this
  · have := h7 y hy
    rw [e] at this
    cases this
structure Glo where
  fr : List Str
  gls : List Str
  gds : List Str
  xcs : List Str
  xfs : List (Str × List Str)
def Src.ok (g : Glo) (srcs : List Src) (s : Src) : Bool := fsB s.N s.ps s.scope && ckSs ⟨s.N, s.scope, fun _ => true, g.fr, fnsOf srcs, g.gls, g.gds, g.xcs, kfsOf srcs, g.xfs⟩ s.body s.sbody
section
variable {P : Program} {w : World} {K : Frag} {mg : Str → Option Value} {base : Heap} {cl : Str → Option Addr} {gl : Gls} {fuel : Nat}
theorem noFn {f : Addr} {fd : FuncData} {ps : List Str} {c : Cf} {k : Nat} : FnOk P w K mg base (CX P w) k f fd ps (spF c fun _ _ => .no) :=
  ⟨fun _ _ _ _ ⟨_, _, _, _, _, _, z⟩ => z.elim, fun _ _ _ _ _ _ _ _ _ _ _ _ _ ⟨_, _, _, _, _, _, z⟩ => z.elim⟩
theorem renv_start {Φ : Hp} {ι : List Addr} {ws : List W} {vs : List V} {N : List Str} {np : Nat} (r : RVs K Φ ι ws vs) (h : ws.length = np) (hN : np ≤ N.length) : REnv K Φ ι (ws.map some ++ List.replicate (N.length - np) none) (L2.start N vs) := by
  have hl := r.length
  refine ⟨by unfold L2.start; simp; omega, fun i u e => ?_⟩
  by_cases hi : i < ws.length
  · rw [List.getElem?_append_left (by simpa using hi), List.getElem?_map] at e
    cases q : ws[i]? with
    | none => rw [q] at e; cases e
    | some z =>
      rw [q] at e; cases e
      obtain ⟨v, v1, v2⟩ := r.get q
      refine ⟨v, ?_, v2⟩
      unfold L2.start
      rw [List.getElem?_append_left (by simp; omega), List.getElem?_map, v1]
      rfl
  · rw [List.getElem?_append_right (by simpa using hi), List.getElem?_replicate] at e
    split at e <;> cases e
theorem Ext.back {Φ H Φ1 H1 : Hp} {ι ι1 : List Addr} (e : Ext Φ ι H Φ1 ι1 H1) : Ext Φ ι H Φ1 ι H1 := ⟨e.fz, List.prefix_refl _, fun _ h => .inl h, e.fr, e.dm, e.nf⟩
theorem leave_ok {c : Cf} {Φ H : Hp} {ι : List Addr} {S S1 : Store} {w : W} {Q : VK} {E : XK} (R : Rel c.K Φ ι S H) (h : After c Φ ι H (leave S.length w S1) (QV c Q) E) {Φ1 H1 : Hp} {ι1 : List Addr} (e : Ext Φ ι H Φ1 ι1 H1) (R1 : Rel c.K Φ1 ι1 S1 H1) {v : V} (rv : RV c.K Φ1 ι1 w v) : Q v H1 := by
  unfold leave at h
  split at h
  · rename_i hc
    rw [Bool.and_eq_true] at hc
    have et : ι1.take S.length = ι := by
      obtain ⟨t, ht⟩ := e.lo
      rw [← ht, ← R.len, List.take_left']
      rfl
    have R2 := R1.drop hc.2
    have rv2 := rv.bel hc.1
    rw [et] at R2 rv2
    exact h _ _ _ e.back R2 _ rv2
  · exact h _ _ _ e R1 _ rv
theorem find_src : ∀ {srcs : List Src} {s : Src}, nodupB (srcs.map (·.name)) = true → s ∈ srcs → (srcs.map Src.fd).find? (·.name = s.name) = some s.fd
  | [], _, _, h => by simp at h
  | x :: r, s, hn, h => by
    simp only [List.map_cons, nodupB, Bool.and_eq_true] at hn
    rw [List.map_cons, List.find?_cons]
    rcases List.mem_cons.mp h with rfl | h
    · simp [Src.fd]
    · have ne : x.name ≠ s.name := fun e => by
        have z : (r.map (·.name)).contains x.name = true := List.contains_iff_mem.mpr (by rw [e]; exact List.mem_map.mpr ⟨s, h, rfl⟩)
        rw [z] at hn
        exact Bool.false_ne_true hn.1
      have e : decide (x.fd.name = s.name) = false := decide_eq_false ne
      rw [e]
      exact find_src hn.2 h
theorem room_in1 {k : Nat} {A : Around} (r : Room (k + 1) A) : Room k A.in1 := ⟨r.hd, by have := r.dp; show A.depth + 3 * k + 5 < _; omega, by have := r.un; show A.units + 1 + 16 * k + 200 < _; omega⟩
theorem units65 {k : Nat} {A : Around} (r : Room k A) : A.units + 65 < cLine := by have := r.un; omega
/-- THE PROGRAM: every def computes what its form says -/
theorem fns_ok (hWd : Wd.P = P ∧ Wd.w = w) (srcs : List Src) (g : Glo) (c : Cf) (hc : c.K = K) (hnd : nodupB (srcs.map (·.name)) = true) (hok : (srcs.all fun s => s.ok g srcs) = true)
    (free : ∀ x ∈ g.fr, mg x = none) (hgl : ∀ x w, x ∈ g.gls → gl.gl x = some w → ∃ u v, mg x = some u ∧ RelV v u ∧ ∀ Φ ι, RV c.K Φ ι w v)
    (hgd : ∀ x ∈ g.gds, ∃ a, mg x = some (.ref a) ∧ (∀ z w', lkS z (gl.gd x) = some w' → (∃ v, KDct K w a z v ∧ ∀ Φ ι, RV c.K Φ ι w' v)) ∧ ∃ es n, KDict K w a es n ∧ ∀ z, ∃ o, PySem.W.nsIn K a z = some o ∧ o.isSome = (lkS z (gl.gd x)).isSome)
    (hxc : ∀ x ∈ g.xcs, ∃ D, c.cl x = some D ∧ XcOk K mg x D)
    (hxs : ∀ x t b D, gl.sub x t = some b → c.cl x = some D → (∀ DT, t ∈ g.xcs → c.cl t = some DT → PySem.W.exmOne K (.ref D) (.ref DT) = some b ∧ PySem.W.kitOne K (.ref D) (.ref DT) = some b) ∧ (t = "ValueError" → t ∉ g.xcs → PySem.W.kitOne K (.ref D) (.type "ValueError") = some b))
    (hxm : ∀ x D, c.cl x = some D → x ∈ g.xcs)
    (hx0 : ∀ x D, c.cl x = some D → x ∉ g.xfs.map (·.1) → PySem.W.excIn K D bmV "ValueError.__new__" = true)
    (hxf : ∀ t ∈ g.xfs, ∃ (D fI : Addr) (fd : FuncData), c.cl t.1 = some D ∧ t.1 ∈ g.xcs ∧ OexC K D ∧ PySem.W.findIn K (.ref D) "__init__" = some (some (.ref fI)) ∧ PySem.W.typeIn K (.ref fI) = some (.type "function") ∧
      FnOk P w K mg base (CX P w) 1 fI fd ("self" :: t.2) (iniSp K D t.2) ∧ Binds K fd ("self" :: t.2) [] ∧ (∀ g ∈ t.2, PySem.W.findIn K (.ref D) g = some none) ∧ PySem.W.hasDictIn K D = true)
    (hxn : ∀ x D, c.cl x = some D → ∀ t ∈ g.xfs, ∀ f ∈ t.2, PySem.W.findIn K (.ref D) f = some none)
    (hfn : ∀ s ∈ srcs, ∃ (a : Addr) (fd : FuncData), mg s.name = some (.ref a) ∧ a = He.ga K s.name ∧ FunD K s.name s.name s.params s.sbody s.scope [] s.kws a fd ∧ s.Bnd K fd) :
    ∀ (n : Nat) (s : Src), s ∈ srcs → ∀ (a : Addr) (fd : FuncData), mg s.name = some (.ref a) → FunD K s.name s.name s.params s.sbody s.scope [] s.kws a fd → FnOk P w K mg base (CX P w) (2 * n) a fd s.ps (spF c (fnN gl fuel (srcs.map Src.fd) n s.name)) := by
  intro n
  induction n with
  | zero => intro s hs a fd _ _; exact noFn
  | succ n ih =>
    intro s hs a fd hm F
    have ef := find_src hnd hs
    have hokS := List.all_eq_true.mp hok s hs
    simp only [Src.ok, Bool.and_eq_true] at hokS
    have FS := fsB_ok hokS.1
    have z : ∀ vs S, fnN gl fuel (srcs.map Src.fd) (n + 1) s.name vs S = runFd ⟨gl, fnN gl fuel (srcs.map Src.fd) n, fuel, fun f => (srcs.map Src.fd).any fun d => d.name = f, n⟩ s.fd vs S := fun vs S => by simp [fnN, ef]
    have hnp : s.ps.length ≤ s.N.length := by
      have := congrArg List.length FS.pre
      rw [List.length_take] at this
      omega
    show FnOk P w K mg base (CX P w) (2 * n + 1 + 1) a fd s.ps _
    refine F.ok FS (fun vs H Q E ⟨Φ, ι, S, ws, R, rv, h⟩ => ?_) fun cdv A outer st H vs Q E hr ⟨Φ, ι, S, ws, R, rv, h⟩ => ?_
    · rw [z] at h
      unfold runFd at h
      split at h
      · rename_i hl
        rw [← rv.length]; exact hl
      · exact h.elim
    · have tk : Takes (cxOf (CX P w) P w K mg base s.N s.name s.scope a cdv A outer st H E) (fun cls d _ H => E cls d H) := takes_of rfl rfl rfl rfl
      have hp : PassesOwn (model P w) (cxOf (CX P w) P w K mg base s.N s.name s.scope a cdv A outer st H E).A (cxOf (CX P w) P w K mg base s.N s.name s.scope a cdv A outer st H E).env (cxOf (CX P w) P w K mg base s.N s.name s.scope a cdv A outer st H E).xe := passes_of rfl
      have AM : Amb c ⟨gl, fnN gl fuel (srcs.map Src.fd) n, fuel, fun f => (srcs.map Src.fd).any fun d => d.name = f, n⟩ (cxOf (CX P w) P w K mg base s.N s.name s.scope a cdv A outer st H E) ⟨s.N, s.scope, fun _ => true, g.fr, fnsOf srcs, g.gls, g.gds, g.xcs, kfsOf srcs, g.xfs⟩ (fun cls d _ H => E cls d H) := {
        hK := hc
        calm := rfl
        nd := FS.nd
        N := rfl
        sc := rfl
        fn := rfl
        un := units65 hr
        hw := hWd
        free := free
        gl := hgl
        gd := hgd
        nofn := fun hk f hf => by
          simp only [List.any_eq_true, List.mem_map] at hf
          obtain ⟨d, ⟨s', hs', rfl⟩, e⟩ := hf
          have e' : s'.name = f := of_decide_eq_true e
          rw [← e']
          exact fnsOf_all hk hs'
        xc := hxc
        xs := hxs
        xm := hxm
        x0 := hx0
        xf := hxf
        xn := hxn
        rm := hr
        tk := tk
        call := fun f hf => by
          obtain ⟨s', hs', hn, rfl⟩ := fnsOf_mem hf
          obtain ⟨a', fd', m', m0', F', B'⟩ := hfn s' hs'
          unfold Src.Bnd at B'
          rw [hn] at B'
          exact ⟨a', fd', s'.ps, 2 * n, m', by rw [hc]; exact m0', F'.kp, ih s' hs' a' fd' m' F', hr.mono (by omega), room_in1 hr, B'⟩
        kcall := fun t ht => by
          obtain ⟨s', hs', hn, e⟩ := kfsOf_mem ht
          obtain ⟨a', fd', m', m0', F', B'⟩ := hfn s' hs'
          unfold Src.Bnd at B'
          rw [hn] at B'
          obtain ⟨m, b1, b2, b3⟩ := B'
          rw [← e]
          exact ⟨a', fd', s'.ps, 2 * n, m, m', F'.kp, ih s' hs' a' fd' m' F', hr.mono (by omega), b1, b2, b3⟩ }
      refine ⟨_, sndSs s.body AM ⟨hp, ⟨rfl, rfl⟩⟩ hokS.2, ?_⟩
      rw [z] at h
      unfold runFd at h
      split at h
      · rename_i hl
        have hl' : ws.length = s.ps.length := hl
        refine ⟨Φ, ι, S, ws.map some ++ List.replicate (s.N.length - s.ps.length) none, R, by rw [hc]; rw [hc] at rv; exact renv_start rv hl' hnp, ?_⟩
        have hb : s.fd.body = s.body := rfl
        have h1 : s.fd.ns = s.N.length := rfl
        have h2 : s.fd.np = s.ps.length := rfl
        rw [hb, h1, h2] at h
        split at h
        · rename_i w S1 eo
          rw [eo]
          exact fun Φ1 ι1 H1 e R1 v rv => leave_ok R h e R1 rv
        · rename_i ρ S1 eo
          rw [eo]
          exact fun Φ1 ι1 H1 e R1 σ _ => leave_ok R h e R1 .non
        · exact h.elim
        · rename_i x S1 eo
          rw [eo]
          exact fun Φ1 ι1 H1 cls d e R1 rx σ' => h Φ1 ι1 H1 cls d e R1 rx
        · exact h.elim
      · exact h.elim
end
end
end Gs
namespace Gs
open PySem PySem.Spec PyProof.Rows L2
section
variable [Wd]
theorem Src.dd_kws (s : Src) (K : Frag) : s.dd.kws K = s.kws := by
  unfold Src.dd Src.kws He.DefD.kws
  cases s.kw <;> rfl
def XSrc.ok (s : XSrc) : Bool := fsB ("self" :: s.fs) ("self" :: s.fs) s.scope && iniB s.scope s.fs s.sbody && decide (0 < s.fs.length) && decide (s.fs.length ≤ 100)
def XSrc.Bo (s : XSrc) : Prop := ∀ (kV doc pm : Value) (an : Option Addr) (cdv ct : Value) (us : List Value), us.length = s.fs.length + 1 → bindArgs (PySem.W.fnOf "__init__" (s.cls ++ (".__init__" : Str)) s.params s.sbody s.scope .none kV doc pm an cdv ct) ⟨us, []⟩ = pure ((("self" : Str) :: s.fs).zip us)
/-! ### constants of the module -/
mutual
theorem gvB_ok {K : Frag} : ∀ {w : W} {u : Value}, gvB K w u = true → ∃ v, RelV v u ∧ ∀ Φ ι, RV K Φ ι w v
  | .non, u, h => by cases u <;> first | exact ⟨.non, rfl, fun _ _ => .non⟩ | cases h
  | .bl b, u, h => by
    cases u with
    | bool d =>
      have e : b = d := eq_of_beq (show (b == d) = true from h)
      subst e
      exact ⟨.bl b, rfl, fun _ _ => .bl b⟩
    | _ => cases h
  | .int i, u, h => by
    cases u with
    | int j t =>
      have e : i = j := of_decide_eq_true h
      exact ⟨.int i, ⟨t, by rw [e]⟩, fun _ _ => .int i⟩
    | _ => cases h
  | .str x, u, h => by
    cases u with
    | str y t =>
      simp only [gvB, Bool.and_eq_true, decide_eq_true_eq] at h
      obtain ⟨rfl, h2⟩ := h
      simp only [okSB', Bool.and_eq_true, decide_eq_true_eq] at h2
      exact ⟨.str x, ⟨t, rfl⟩, fun _ _ => .str h2⟩
    | _ => cases h
  | .fn x, u, h => by
    cases u with
    | ref a =>
      have e : a = He.ga K x := of_decide_eq_true h
      subst e
      exact ⟨.ref _, rfl, fun _ _ => .fn x⟩
    | _ => cases h
  | .tup xs, u, h => by
    cases u with
    | ref a =>
      simp only [gvB] at h
      split at h
      · rename_i t od its n osl q
        simp only [Bool.and_eq_true, decide_eq_true_eq] at h
        obtain ⟨rfl, h2, h3⟩ := h
        obtain ⟨vs, r1, r2⟩ := gvBs_ok h3
        exact ⟨.ref a, rfl, fun Φ ι => .tup (.inr ⟨_, its, n, q, rfl, rfl, h2, r1⟩) (r2 Φ ι)⟩
      · cases h
    | _ => cases h
  | .ty _, u, h => by cases u <;> cases h
  | .lst _, u, h => by cases u <;> cases h
  | .loc _, u, h => by cases u <;> cases h
  | .scr _, u, h => by cases u <;> cases h
theorem gvBs_ok {K : Frag} : ∀ {ws : List W} {us : List Value}, gvBs K ws us = true → ∃ vs, Vals vs us ∧ ∀ Φ ι, RVs K Φ ι ws vs
  | [], [], _ => ⟨[], .nil, fun _ _ => .nil⟩
  | [], _ :: _, h => by cases h
  | _ :: _, [], h => by cases h
  | w :: ws, u :: us, h => by
    simp only [gvBs, Bool.and_eq_true] at h
    obtain ⟨v, r1, r2⟩ := gvB_ok h.1
    obtain ⟨vs, r3, r4⟩ := gvBs_ok h.2
    exact ⟨v :: vs, .cons r1 r3, fun Φ ι => .cons (r2 Φ ι) (r4 Φ ι)⟩
end
theorem lkS_mem {z : Str} {w : W} : ∀ {l : List (Str × W)}, lkS z l = some w → (z, w) ∈ l
  | [], h => by cases h
  | (k, v) :: r, h => by
    unfold lkS at h
    split at h
    · rename_i e
      cases h
      rw [e]
      exact List.mem_cons_self
    · exact List.mem_cons_of_mem _ (lkS_mem h)
theorem lookup_mem' {α : Type} {z : Str} {w : α} : ∀ {l : List (Str × α)}, l.lookup z = some w → (z, w) ∈ l
  | [], h => by cases h
  | (k, v) :: r, h => by
    rw [List.lookup_cons] at h
    split at h
    · rename_i e
      cases h
      rw [eq_of_beq e]
      exact List.mem_cons_self
    · exact List.mem_cons_of_mem _ (lookup_mem' h)
theorem says_ok {srcs : List Src} {fr : List Str} {K : Frag} {h : Heap} {mg : Str → Option Value} (X : K.In h) (G : h.Ns mainGlobals mg) {xis : List XSrc} (c : He.SaysD (faOf srcs fr) (srcs.map Src.dd ++ xis.map XSrc.dd) K) :
    (∀ x ∈ fr, mg x = none) ∧ (∀ s ∈ srcs, ∃ (a : Addr) (fd : FuncData), mg s.name = some (.ref a) ∧ a = He.ga K s.name ∧ FunD K s.name s.name s.params s.sbody s.scope [] s.kws a fd) ∧
    ∀ s ∈ xis, ∃ fd : FuncData, FunD K "__init__" (s.cls ++ (".__init__" : Str)) s.params s.sbody s.scope [] [] (He.ma K (He.ga K s.cls) "__init__") fd := by
  refine ⟨fun x hx => ?_, fun s hs => ?_, fun s hs => ?_⟩
  · obtain ⟨i, hi⟩ := List.getElem?_of_mem (show He.Fa.free x ∈ faOf srcs fr from List.mem_append_right _ (List.mem_map.mpr ⟨x, hx, rfl⟩))
    exact He.free_ok X G (c.fact i hi)
  · obtain ⟨i, hi⟩ := List.getElem?_of_mem (show He.Fa.glo s.name ∈ faOf srcs fr from List.mem_append_left _ (List.mem_map.mpr ⟨s, hs, rfl⟩))
    obtain ⟨j, hj⟩ := List.getElem?_of_mem (show s.dd ∈ srcs.map Src.dd ++ xis.map XSrc.dd from List.mem_append_left _ (List.mem_map.mpr ⟨s, hs, rfl⟩))
    obtain ⟨fd, F⟩ := c.def_ j hj
    rw [s.dd_kws K] at F
    exact ⟨_, fd, He.glo_ok X G (c.fact i hi), rfl, F⟩
  · obtain ⟨j, hj⟩ := List.getElem?_of_mem (show s.dd ∈ srcs.map Src.dd ++ xis.map XSrc.dd from List.mem_append_right _ (List.mem_map.mpr ⟨s, hs, rfl⟩))
    obtain ⟨fd, F⟩ := c.def_ j hj
    exact ⟨fd, F⟩
theorem gl_ok {gc : Gc} {K : Frag} {h : Heap} {mg : Str → Option Value} (X : K.In h) (G : h.Ns mainGlobals mg) (c : gc.ex K = true) :
    ∀ x w, x ∈ gc.gl.map (·.1) → gc.g.gl x = some w → ∃ u v, mg x = some u ∧ RelV v u ∧ ∀ Φ ι, RV K Φ ι w v := by
  intro x w _ e
  have e := lkS_mem (show lkS x gc.gl = some w from e)
  simp only [Gc.ex, Bool.and_eq_true, List.all_eq_true] at c
  have := c.2.2.1 _ e
  simp only [] at this
  split at this
  · rename_i u q
    obtain ⟨v, r1, r2⟩ := gvB_ok this
    exact ⟨u, v, PySem.W.mg_of X G q, r1, r2⟩
  · cases this
theorem keys_find {P : Params} : ∀ {l : List DictEntry} {ks : List Str}, l.map He.keyOf = He.keysIn P ks → (∀ z, (l.find? (·.key.isStr z)).isSome = decide (z ∈ ks)) ∧ l.any (·.refKey) = false
  | [], [], _ => ⟨fun z => by simp, rfl⟩
  | [], _ :: _, h => by cases h
  | e :: r, [], h => by cases h
  | e :: r, k :: ks, h => by
    have h1 : He.keyOf e :: r.map He.keyOf = some (k, PyData.keyHash P k) :: He.keysIn P ks := h
    injection h1 with h2 h3
    obtain ⟨i1, i2⟩ := keys_find h3
    unfold He.keyOf at h2
    split at h2
    · rename_i x t q
      have h4 := Option.some.inj h2
      obtain ⟨h5, h6⟩ := Prod.mk.inj h4
      subst h5
      refine ⟨fun z => ?_, ?_⟩
      · rw [List.find?_cons]
        have e1 : e.key.isStr z = decide (x = z) := by
          rw [q]
          show (x == z) = decide (x = z)
          by_cases hz : x = z
          · subst hz; simp
          · rw [decide_eq_false hz]; exact beq_eq_false_iff_ne.mpr hz
        rw [e1]
        by_cases hz : x = z
        · subst hz; simp
        · rw [decide_eq_false hz]
          simp only [i1 z, List.mem_cons]
          have : ¬ z = x := fun h => hz h.symm
          simp [this]
      · rw [List.any_cons, i2]
        simp [DictEntry.refKey, q]
    · cases h2
theorem nsIn_keys {K : Frag} {w : World} {a : Addr} {ks : List Str} (h : He.dicW K a = some (He.keysIn w.params ks)) : ∃ es n, KDict K w a es n ∧ ∀ z, ∃ o, PySem.W.nsIn K a z = some o ∧ o.isSome = decide (z ∈ ks) := by
  obtain ⟨es, n, D⟩ := He.dicW_ok h
  refine ⟨es, n, D, fun z => ?_⟩
  unfold He.dicW at h
  rw [D.at_] at h
  have hl := D.low
  simp only [decide_true, Bool.true_and, hl, Bool.not_false, Bool.and_true] at h
  have h : es.toList.map He.keyOf = He.keysIn w.params ks := by simpa using h
  obtain ⟨k1, k2⟩ := keys_find h
  have k1 := k1 z
  unfold PySem.W.nsIn
  rw [D.at_]
  dsimp only
  cases e : es.toList.find? (·.key.isStr z) with
  | some d => rw [e] at k1; exact ⟨_, rfl, k1⟩
  | none => rw [e] at k1; refine ⟨none, ?_, k1⟩; simp only [k2]; rfl
theorem lkS_keys {z : Str} : ∀ {l : List (Str × W)}, (lkS z l).isSome = decide (z ∈ l.map (·.1))
  | [] => by simp [lkS]
  | (k, v) :: r => by
    have ih := lkS_keys (z := z) (l := r)
    unfold lkS
    by_cases h : k = z
    · subst h; simp
    · rw [if_neg h, ih]
      have : ¬ z = k := fun e => h e.symm
      simp [this]
theorem gd_keys {gc : Gc} {K : Frag} {w : World} {fa : List He.Fa} {fn : List He.DefD} (T : He.SaysT fa fn gc.ts w K) {p : Str × List (Str × W)} (hp : p ∈ gc.gd) :
    ∃ es n, KDict K w (He.ga K p.1) es n ∧ ∀ z, ∃ o, PySem.W.nsIn K (He.ga K p.1) z = some o ∧ o.isSome = (lkS z (gc.g.gd p.1)).isSome := by
  have e : gc.ts.map (fun t => He.dicW K (t.1 K)) = gc.ts.map fun t => some (He.keysIn w.params t.2) := congrArg (fun z : He.AlT => z.2) T
  obtain ⟨kvs, q⟩ : ∃ kvs, gc.gd.lookup p.1 = some kvs := by
    cases q : gc.gd.lookup p.1 with
    | some kvs => exact ⟨kvs, rfl⟩
    | none =>
      exfalso
      rw [List.lookup_eq_none_iff] at q
      exact absurd (q p hp) (by simp)
  have hm := lookup_mem' q
  obtain ⟨i, hi⟩ := List.getElem?_of_mem hm
  have e2 : (gc.ts.map fun t => He.dicW K (t.1 K))[i]? = (gc.ts.map fun t => some (He.keysIn w.params t.2))[i]? := by rw [e]
  have hti : gc.ts[i]? = some ((fun K => He.ga K p.1), kvs.map (·.1)) := by rw [Gc.ts, List.getElem?_map, hi]; rfl
  rw [List.getElem?_map, List.getElem?_map, hti] at e2
  obtain ⟨es, n, D, q2⟩ := nsIn_keys (w := w) (Option.some.inj e2)
  refine ⟨es, n, D, fun z => ?_⟩
  obtain ⟨o, g1, g2⟩ := q2 z
  refine ⟨o, g1, ?_⟩
  have eg : gc.g.gd p.1 = kvs := by
    show (gc.gd.lookup p.1).getD [] = kvs
    rw [q]; rfl
  rw [g2, eg, lkS_keys]
theorem gd_ok {gc : Gc} {K : Frag} {h : Heap} {mg : Str → Option Value} {w : World} (X : K.In h) (G : h.Ns mainGlobals mg) (c : gc.ex K = true) {fa : List He.Fa} {fn : List He.DefD} (T : He.SaysT fa fn gc.ts w K) :
    ∀ x ∈ gc.gd.map (·.1), ∃ a, mg x = some (.ref a) ∧ (∀ z w', lkS z (gc.g.gd x) = some w' → (∃ v, KDct K w a z v ∧ ∀ Φ ι, RV K Φ ι w' v)) ∧ ∃ es n, KDict K w a es n ∧ ∀ z, ∃ o, PySem.W.nsIn K a z = some o ∧ o.isSome = (lkS z (gc.g.gd x)).isSome := by
  intro x hx
  obtain ⟨p, hp, rfl⟩ := List.mem_map.mp hx
  simp only [Gc.ex, Bool.and_eq_true, List.all_eq_true] at c
  have c := c.2.2
  have c2 := c.2 p hp
  refine ⟨He.ga K p.1, PySem.W.mg_of X G (He.eqO_ok c2.1), fun z w' e => ?_, gd_keys T hp⟩
  have e1 : (gc.gd.lookup p.1).getD [] = gc.g.gd p.1 := rfl
  rw [← e1] at e
  cases q : gc.gd.lookup p.1 with
  | none => rw [q] at e; cases e
  | some kvs =>
    rw [q] at e
    have hm := lookup_mem' q
    have c3 := (c.2 _ hm).2 _ (lkS_mem e)
    obtain ⟨i, hi⟩ := List.getElem?_of_mem hm
    obtain ⟨es, n, D⟩ := T.tab i (t := ((fun K => He.ga K p.1), kvs.map (·.1))) (by rw [Gc.ts, List.getElem?_map, hi]; rfl)
    simp only [] at c3
    split at c3
    · rename_i u qq
      obtain ⟨v, r1, r2⟩ := gvB_ok c3
      exact ⟨v, ⟨es, n, u, D.at_, D.lit, qq, r1⟩, r2⟩
    · cases c3
def clOf (gc : Gc) (K : Frag) (x : Str) : Option Addr := if gc.cx.any (fun r => decide (r.1 = x)) then some (He.ga K x) else none
theorem clOf_mem {gc : Gc} {K : Frag} {x : Str} : gc.cx.any (fun r => decide (r.1 = x)) = true ↔ x ∈ gc.cx.map (·.1) := by
  simp only [List.any_eq_true, List.mem_map, decide_eq_true_eq]
theorem xm_ok {gc : Gc} {K : Frag} : ∀ x D, clOf gc K x = some D → x ∈ gc.cx.map (·.1) := by
  intro x D h
  unfold clOf at h
  split at h
  · rename_i hc
    exact (clOf_mem (K := K)).mp hc
  · cases h
theorem xc_ok {gc : Gc} {K : Frag} {h : Heap} {mg : Str → Option Value} (X : K.In h) (G : h.Ns mainGlobals mg) (c : gc.ex K = true) : ∀ x ∈ gc.cx.map (·.1), ∃ D, clOf gc K x = some D ∧ XcOk K mg x D := by
  intro x hx
  simp only [Gc.ex, Bool.and_eq_true] at c
  have c := c.2.1
  obtain ⟨p, hp, rfl⟩ := List.mem_map.mp hx
  simp only [cxB, List.all_eq_true, Bool.and_eq_true] at c
  obtain ⟨c1, c2, c3⟩ := c p hp
  refine ⟨He.ga K p.1, by unfold clOf; rw [if_pos ((clOf_mem (K := K)).mpr hx)], ?_⟩
  simp only [xcB, Bool.and_eq_true, decide_eq_true_eq, beq_iff_eq] at c2
  obtain ⟨d1, d2, d3, d4, d5, d6, d7, d8, d9, d11⟩ := c2
  exact ⟨PySem.W.mg_of X G (He.eqO_ok c1), d1, ⟨He.eqO_ok d2, He.eqO_ok d3, d4, d5, He.eqO_ok d6, He.eqO_ok d7, d8, d9⟩, d4, d11⟩
theorem xs_ok {gc : Gc} {K : Frag} (c : gc.ex K = true) : ∀ x t b D, gc.g.sub x t = some b → clOf gc K x = some D → (∀ DT, t ∈ gc.cx.map (·.1) → clOf gc K t = some DT → PySem.W.exmOne K (.ref D) (.ref DT) = some b ∧ PySem.W.kitOne K (.ref D) (.ref DT) = some b) ∧ (t = "ValueError" → t ∉ gc.cx.map (·.1) → PySem.W.kitOne K (.ref D) (.type "ValueError") = some b) := by
  intro x t b D e eD
  simp only [Gc.ex, Bool.and_eq_true] at c
  have c := c.2.1
  simp only [cxB, List.all_eq_true, Bool.and_eq_true] at c
  have e : (gc.cx.lookup x).bind (·.lookup t) = some b := e
  rw [Option.bind_eq_some_iff] at e
  obtain ⟨l, e1, e2⟩ := e
  have m1 := lookup_mem' e1
  have m2 := lookup_mem' e2
  have hD : D = He.ga K x := by
    unfold clOf at eD
    split at eD
    · cases eD; rfl
    · cases eD
  subst hD
  have c3 := (c _ m1).2.2 _ m2
  refine ⟨fun DT hT eT => ?_, fun ht hn => ?_⟩
  · have hT' : DT = He.ga K t := by
      unfold clOf at eT
      split at eT
      · cases eT; rfl
      · cases eT
    subst hT'
    rw [if_pos ((clOf_mem (K := K)).mpr hT)] at c3
    simpa only [Bool.and_eq_true, beq_iff_eq] using c3
  · rw [if_neg (fun hc => hn ((clOf_mem (K := K)).mp hc)), if_pos ht] at c3
    simpa only [beq_iff_eq] using c3
def BindOk (s : Src) : Prop := match s.kw with
  | none => ∀ (kV doc pm : Value) (an : Option Addr) (cdv ct : Value) (us : List Value), us.length = s.ps.length → bindArgs (PySem.W.fnOf s.name s.name s.params s.sbody s.scope .none kV doc pm an cdv ct) ⟨us, []⟩ = pure (s.ps.zip us)
  | some (q, _) => ∃ m, s.ps.length = m + 1 ∧
    (∀ (D : Addr) (doc pm : Value) (an : Option Addr) (cdv ct : Value) (us ks : List Value), us.length = m → ks.length = 1 → KwChain D ([q].zip ks) (bindArgs (PySem.W.fnOf s.name s.name s.params s.sbody s.scope .none (.ref D) doc pm an cdv ct) ⟨us, []⟩) (s.ps.zip (us ++ ks))) ∧
    ∀ (D : Addr) (doc pm : Value) (an : Option Addr) (cdv ct : Value) (us ws : List Value), us.length = m → ws.length = 1 → bindArgs (PySem.W.fnOf s.name s.name s.params s.sbody s.scope .none (.ref D) doc pm an cdv ct) ⟨us, [q].zip ws⟩ = pure (s.ps.zip (us ++ ws))
theorem bnd_ok {s : Src} (h : BindOk s) {K : Frag} {a : Addr} {fd : FuncData} (F : FunD K s.name s.name s.params s.sbody s.scope [] s.kws a fd) : s.Bnd K fd := by
  unfold BindOk at h
  unfold Src.Bnd
  cases e : s.kw with
  | none =>
    rw [e] at h
    have e2 : s.kws = [] := by unfold Src.kws; rw [e]
    rw [e2] at F
    exact F.bindsN h
  | some p =>
    obtain ⟨q, d⟩ := p
    rw [e] at h
    have e2 : s.kws = [(q, .int d)] := by unfold Src.kws; rw [e]
    rw [e2] at F
    obtain ⟨m, h0, h1, h2⟩ := h
    refine ⟨m, h0, F.binds0 m (by simp) (by simp [h0]) h1, ?_⟩
    obtain ⟨mv, kb⟩ := F.kbinds0 (ps := s.ps) m [q] [] (fun us _ zs => us ++ zs) (by simp) (fun _ hq => by cases hq) (fun r1 _ r3 => r1.append r3) (fun D doc pm an cdv ct us mv ws l1 l2 l3 => by
      have : mv = [] := List.eq_nil_of_length_eq_zero l2
      subst this
      exact h2 D doc pm an cdv ct us ws l1 l3)
    exact kb
theorem cl_some {gc : Gc} {K : Frag} {x : Str} {D : Addr} (h : clOf gc K x = some D) : (∃ p ∈ gc.cx, p.1 = x) ∧ D = He.ga K x := by
  unfold clOf at h
  split at h
  · rename_i hc
    cases h
    simp only [List.any_eq_true, decide_eq_true_eq] at hc
    exact ⟨hc, rfl⟩
  · cases h
theorem x0_ok {gc : Gc} {K : Frag} (c : gc.ex K = true) : ∀ x D, clOf gc K x = some D → x ∉ gc.xf.map (·.1) → PySem.W.excIn K D bmV "ValueError.__new__" = true := by
  intro x D h hn
  obtain ⟨⟨p, hp, rfl⟩, rfl⟩ := cl_some h
  simp only [Gc.ex, Bool.and_eq_true] at c
  have c := c.1
  simp only [x0B, Bool.and_eq_true, List.all_eq_true] at c
  have := c.1 p hp
  rw [if_neg] at this
  · exact this
  · intro hc
    simp only [List.any_eq_true, decide_eq_true_eq] at hc
    obtain ⟨t, ht, e⟩ := hc
    exact hn (List.mem_map.mpr ⟨t, ht, e⟩)
theorem xn_ok {gc : Gc} {K : Frag} (c : gc.ex K = true) : ∀ x D, clOf gc K x = some D → ∀ t ∈ gc.xf, ∀ f ∈ t.2, PySem.W.findIn K (.ref D) f = some none := by
  intro x D h t ht f hf
  obtain ⟨⟨p, hp, rfl⟩, rfl⟩ := cl_some h
  simp only [Gc.ex, Bool.and_eq_true] at c
  have c := c.1
  simp only [x0B, Bool.and_eq_true, List.all_eq_true] at c
  exact He.eqO_ok ((c.2 t ht).2.2.2.2.2 p hp f hf)
theorem xf_ok {P : Program} {w : World} {base : Heap} {mg : Str → Option Value} {gc : Gc} {K : Frag} {xis : List XSrc} (c : gc.ex K = true) (he : gc.xf = xis.map fun s => (s.cls, s.fs)) (hok : (xis.all XSrc.ok) = true) (hB : ∀ s ∈ xis, s.Bo)
    (hF : ∀ s ∈ xis, ∃ fd : FuncData, FunD K "__init__" (s.cls ++ (".__init__" : Str)) s.params s.sbody s.scope [] [] (He.ma K (He.ga K s.cls) "__init__") fd) :
    ∀ t ∈ gc.xf, ∃ (D fI : Addr) (fd : FuncData), clOf gc K t.1 = some D ∧ t.1 ∈ gc.cx.map (·.1) ∧ OexC K D ∧ PySem.W.findIn K (.ref D) "__init__" = some (some (.ref fI)) ∧ PySem.W.typeIn K (.ref fI) = some (.type "function") ∧
      FnOk P w K mg base (CX P w) 1 fI fd ("self" :: t.2) (iniSp K D t.2) ∧ Binds K fd ("self" :: t.2) [] ∧ (∀ g ∈ t.2, PySem.W.findIn K (.ref D) g = some none) ∧ PySem.W.hasDictIn K D = true := by
  intro t ht
  have c0 := c
  simp only [Gc.ex, Bool.and_eq_true] at c
  have c := c.1
  simp only [x0B, Bool.and_eq_true, List.all_eq_true, decide_eq_true_eq] at c
  obtain ⟨d1, d2, d3, d4, d5, d6⟩ := c.2 t ht
  have hx : t.1 ∈ gc.cx.map (·.1) := (clOf_mem (K := K)).mp d5
  have hcl : clOf gc K t.1 = some (He.ga K t.1) := by unfold clOf; rw [if_pos d5]
  have hno := xn_ok c0 t.1 _ hcl t ht
  rw [he] at ht
  obtain ⟨s, hs, rfl⟩ := List.mem_map.mp ht
  obtain ⟨fd, F⟩ := hF s hs
  have hso := List.all_eq_true.mp hok s hs
  simp only [XSrc.ok, Bool.and_eq_true, decide_eq_true_eq] at hso
  obtain ⟨⟨⟨s1, s2⟩, s3⟩, s4⟩ := hso
  have T := oexB_ok d1
  refine ⟨_, _, fd, hcl, hx, T, He.eqO_ok d2, d3, ?_, F.bindsN (fun kV doc pm an cdv ct us hl => hB s hs kV doc pm an cdv ct us (by simpa using hl)), hno, d4⟩
  obtain ⟨f, fs, hfs⟩ : ∃ f fs, s.fs = f :: fs := by
    cases h : s.fs with
    | nil => rw [h] at s3; simp at s3
    | cons f fs => exact ⟨f, fs, rfl⟩
  show FnOk P w K mg base (CX P w) 1 _ fd ("self" :: s.fs) (iniSp K _ s.fs)
  have hno' : ∀ g ∈ s.fs, PySem.W.findIn K (.ref (He.ga K s.cls)) g = some none := hno
  rw [hfs] at s1 s2 s4 hno' ⊢
  exact ini_ok F (fsB_ok s1) T s2 hno' (by simp at s4; omega)
end
/-- the law, from what its form computes -/
theorem law_of {P : Program} {w : World} {K : Frag} {h : Heap} {mg : Str → Option Value} {fa : Addr} (srcs : List Src) (xis : List XSrc) (fr : List Str) (gc : Gc) (fuel lv : Nat) (L : Src) (x : Str) (hL : L ∈ srcs) (hLk : L.kw = none) (hx : L.ps = [x]) (hnd : nodupB (srcs.map (·.name)) = true)
    (hok : (srcs.all fun s => s.ok ⟨fr, gc.gl.map (·.1), gc.gd.map (·.1), gc.cx.map (·.1), gc.xf⟩ srcs) = true) (hB : ∀ s ∈ srcs, BindOk s)
    (hxe : gc.xf = xis.map fun s => (s.cls, s.fs)) (hxo : (xis.all XSrc.ok) = true) (hxB : ∀ s ∈ xis, s.Bo)
    (X : K.In h) (G : h.Ns mainGlobals mg) (hfa : mg L.name = some (.ref fa)) (c : He.SaysX (faOf srcs fr) (srcs.map Src.dd ++ xis.map XSrc.dd) gc.ts [] gc.ex w h K) {n : Nat}
    (main : ∀ ns : List Int, ns.length ≤ n → ∃ S, fnN gc.g fuel (srcs.map Src.fd) lv L.name [.scr ns] [] = .ok (.bl true) S) :
    ∃ (fd : FuncData) (sp : Sp), (∀ (s : Shared) (u : Value), BindsTo s fd ⟨[u], []⟩ [(x, u)]) ∧
      (∀ (H : Hp) (a : Addr) (ns : List Int), ns.length ≤ n → SqL K H a (ns.map V.int) → sp [.ref a] H (fun v _ => v = .bl true) fun _ _ _ => False) ∧
      ∀ base : Heap, K.In base → base.Ns mainGlobals mg → FnOk P w K mg base (L2.CX P w) (2 * lv) fa fd [x] sp := by
  letI : Wd := ⟨P, w⟩
  obtain ⟨c1, c2, c3⟩ := says_ok X G c.t.d
  obtain ⟨a, fd, m, m0, F⟩ := c2 L hL
  rw [m] at hfa
  cases hfa
  refine ⟨fd, spF ⟨K, clOf gc K⟩ (fnN gc.g fuel (srcs.map Src.fd) lv L.name), fun s u => ?_, fun H a ns hl hS => ?_, fun base _ _ => ?_⟩
  · have e2 : L.kws = [] := by unfold Src.kws; rw [hLk]
    rw [e2] at F
    have hb := hB L hL
    unfold BindOk at hb
    rw [hLk] at hb
    have := F.bindsA hb s [u] (by rw [hx]; rfl)
    rw [hx] at this
    exact this
  · obtain ⟨S, e⟩ := main ns hl
    refine ⟨H, [], [], [.scr ns], ⟨rfl, List.nodup_nil, fun _ _ h => h, fun _ h => by simp at h, fun l a o h _ => by simp at h⟩, .cons (.scr hS) .nil, ?_⟩
    rw [e]
    intro Φ' ι' H' _ _ v rv
    cases rv
    rfl
  · rw [← hx]
    exact fns_ok ⟨rfl, rfl⟩ srcs ⟨fr, gc.gl.map (·.1), gc.gd.map (·.1), gc.cx.map (·.1), gc.xf⟩ ⟨K, clOf gc K⟩ rfl hnd hok c1 (gl_ok X G c.more) (gd_ok X G c.more c.t) (xc_ok X G c.more) (xs_ok c.more) (xm_ok) (x0_ok c.more) (xf_ok c.more hxe hxo hxB c3) (xn_ok c.more) (fun s hs => by
      obtain ⟨a, fd, m, m0, F⟩ := c2 s hs
      exact ⟨a, fd, m, m0, F, bnd_ok (hB s hs) F⟩) lv L hL _ _ m F
end Gs
namespace Gs
open PySem PySem.Spec PyProof.Rows L2
/-- a law's end, where what is let out hangs on the world -/
theorem walk_ofW {l : PySem.W.OpenLaw} {n k : Nat} {q : Program} {loose : List Str} {XP : (Str → Option Value) → Heap → Prop} {YP : World → Heap → Prop} {d : DefRec} {x : Str}
    (hn : l.most = some n) (hn2 : n ≤ sizeLine) (hdf : d.params.defaults = []) (hr : Room k callerA)
    (F : ∀ (w : World) (mg : Str → Option Value) (fa : Addr) (h : Heap), YP w h → h.Ns mainGlobals mg → mg d.name = some (.ref fa) →
      ∃ (K : PySem.W.Frag) (fd : FuncData) (sp : Sp), K.In h ∧ (∀ (s : Shared) (u : Value), BindsTo s fd ⟨[u], []⟩ [(x, u)]) ∧
        (∀ (H : Hp) (a : Addr) (ns : List Int), ns.length ≤ n → SqL K H a (ns.map V.int) → sp [.ref a] H (fun v _ => v = .bl true) fun _ _ _ => False) ∧
        ∀ base : Heap, K.In base → base.Ns mainGlobals mg → FnOk l.prog w K mg base (L2.CX l.prog w) k fa fd [x] sp) :
    PySem.W.WalkO q loose XP YP l.row.toRowW d [] (fun f vs => PySem.call f vs) := by
  refine Att.attach_call hn hdf fun w s₀ s₁ mg mb fa o pm cd doc a vs ns G Y ho hd hcd hmg hobj hints hlen hg => ?_
  obtain ⟨K, fd, sp, KX, hb, hsp, hF⟩ := F w mg fa _ Y G.T.g hmg
  exact law_call KX G.T.g G.T.b G.T.builtins G.T.nolimit hg hobj hints (Nat.le_trans hlen hn2) hr hF hb (fun H hO hS => hsp H a ns hlen hS) fun H e s' => noEx
end Gs
end

section
set_option linter.all false
set_option maxRecDepth 100000
set_option maxHeartbeats 0
namespace K39
open PySem PySem.Spec PyProof.Rows L2 Gs

theorem bo_chain_of : BindOk s_chain_of := fun _ _ _ _ _ _ us hl => match us, hl with | [_], _ => rfl
theorem bo_ranges_of : BindOk s_ranges_of := fun _ _ _ _ _ _ us hl => match us, hl with | [_], _ => rfl
theorem bo_tests_of : BindOk s_tests_of := fun _ _ _ _ _ _ us hl => match us, hl with | [_], _ => rfl
theorem bo_is_unknown : BindOk s_is_unknown := fun _ _ _ _ _ _ us hl => match us, hl with | [_], _ => rfl
theorem bo_reckoned : BindOk s_reckoned := fun _ _ _ _ _ _ us hl => match us, hl with | [_, _, _], _ => rfl
theorem bo_number_in : BindOk s_number_in := fun _ _ _ _ _ _ us hl => match us, hl with | [_], _ => rfl
theorem bo_sum_under : BindOk s_sum_under := fun _ _ _ _ _ _ us hl => match us, hl with | [_, _], _ => rfl
theorem bo_many_points : BindOk s_many_points := fun _ _ _ _ _ _ us hl => match us, hl with | [_], _ => rfl
theorem bo_checked_points : BindOk s_checked_points := fun _ _ _ _ _ _ us hl => match us, hl with | [_], _ => rfl
theorem bo_as_tree : BindOk s_as_tree := fun _ _ _ _ _ _ us hl => match us, hl with | [_, _, _], _ => rfl
theorem bo_box_under : BindOk s_box_under := fun _ _ _ _ _ _ us hl => match us, hl with | [_, _], _ => rfl
theorem bo_resolved : BindOk s_resolved := fun _ _ _ _ _ _ us hl => match us, hl with | [_, _], _ => rfl
theorem bo__law_draw : BindOk s__law_draw := fun _ _ _ _ _ _ us hl => match us, hl with | [_, _], _ => rfl
theorem bo__law_text : BindOk s__law_text := fun _ _ _ _ _ _ us hl => match us, hl with | [_, _, _], _ => rfl
theorem bo__law_term : BindOk s__law_term := fun _ _ _ _ _ _ us hl => match us, hl with | [_], _ => rfl
theorem bo__law_sum : BindOk s__law_sum := fun _ _ _ _ _ _ us hl => match us, hl with | [_, _, _], _ => rfl
theorem bo__law_range : BindOk s__law_range := fun _ _ _ _ _ _ us hl => match us, hl with | [_, _, _, _], _ => rfl
theorem bo__law_joined : BindOk s__law_joined := fun _ _ _ _ _ _ us hl => match us, hl with | [_], _ => rfl
theorem bo__law_worth : BindOk s__law_worth := fun _ _ _ _ _ _ us hl => match us, hl with | [_, _], _ => rfl
theorem bo__law_tree : BindOk s__law_tree := fun _ _ _ _ _ _ us hl => match us, hl with | [_, _, _], _ => rfl
theorem bo__law_due : BindOk s__law_due := fun _ _ _ _ _ _ us hl => match us, hl with | [_, _, _, _], _ => rfl
theorem bo_law : BindOk s_law := fun _ _ _ _ _ _ us hl => match us, hl with | [_], _ => rfl
theorem bos : ∀ s ∈ srcs, BindOk s := by
  intro s hs
  simp only [srcs, List.mem_cons, List.not_mem_nil, or_false] at hs
  rcases hs with rfl | rfl | rfl | rfl | rfl | rfl | rfl | rfl | rfl | rfl | rfl | rfl | rfl | rfl | rfl | rfl | rfl | rfl | rfl | rfl | rfl | rfl
  · exact bo_chain_of
  · exact bo_ranges_of
  · exact bo_tests_of
  · exact bo_is_unknown
  · exact bo_reckoned
  · exact bo_number_in
  · exact bo_sum_under
  · exact bo_many_points
  · exact bo_checked_points
  · exact bo_as_tree
  · exact bo_box_under
  · exact bo_resolved
  · exact bo__law_draw
  · exact bo__law_text
  · exact bo__law_term
  · exact bo__law_sum
  · exact bo__law_range
  · exact bo__law_joined
  · exact bo__law_worth
  · exact bo__law_tree
  · exact bo__law_due
  · exact bo_law
theorem nd_ok : nodupB (srcs.map (·.name)) = true := by decide +kernel
theorem src_ok : (srcs.all fun s => s.ok ⟨fr, gc.gl.map (·.1), gc.gd.map (·.1), gc.cx.map (·.1), gc.xf⟩ srcs) = true := by decide +kernel
theorem xbos : ∀ s ∈ xis, s.Bo := by
  intro s hs
  cases hs
theorem xis_eq : gc.xf = xis.map fun s => (s.cls, s.fs) := rfl
theorem xis_ok : (xis.all XSrc.ok) = true := by decide +kernel
end K39
end

section
set_option linter.all false
set_option maxRecDepth 100000
/-! GEv: the interpreter's steps as equations without binders, for the simplifier. -/
namespace Gs
open PySem
variable {C : Cn} {ρ : Rho} {S S1 : Store}
@[simp] theorem line_eq : line = 16777216 := (rfl)
/-! ### values -/
@[simp] theorem addW_int {fz : Bool} {i j : Int} : addW fz (.int i) (.int j) S = .ok (.int (i + j)) S := (rfl)
@[simp] theorem binW_add {fz : Bool} {x y : W} : binW fz .Add x y S = addW fz x y S := (rfl)
@[simp] theorem binW_sub {fz : Bool} {i j : Int} : binW fz .Sub (.int i) (.int j) S = .ok (.int (i - j)) S := (rfl)
theorem binW_mul {fz : Bool} {i j : Int} (h : mulOk i j) : binW fz .Mult (.int i) (.int j) S = .ok (.int (i * j)) S := by
  simp [binW, mulW, h]
theorem binW_div {fz : Bool} {i j : Int} (h : divOk j) : binW fz .FloorDiv (.int i) (.int j) S = .ok (.int (i.fdiv j)) S := by
  simp [binW, h]
theorem binW_mod {fz : Bool} {i j : Int} (h : j ≠ 0) : binW fz .Mod (.int i) (.int j) S = .ok (.int (i.fmod j)) S := by
  simp [binW, h]
theorem binW_pow {fz : Bool} {i j : Int} (h : powOk i j) : binW fz .Pow (.int i) (.int j) S = .ok (.int (i ^ j.toNat)) S := by
  simp [binW, h]
@[simp] theorem addW_str {fz : Bool} {a b : Str} (h : a.length + b.length ≤ line) : addW fz (.str a) (.str b) S = .ok (.str (a ++ b)) S := by
  simp only [addW, h, if_true]
@[simp] theorem addW_tup {fz : Bool} {a b : List W} (h : a.length + b.length ≤ line) : addW fz (.tup a) (.tup b) S = .ok (.tup (a ++ b)) S := by
  simp only [addW, h, if_true]
@[simp] theorem newL_t {xs : List W} (h : xs.length ≤ line) : newL true xs S = .ok (.lst xs) S := by simp only [newL, h, if_true]
@[simp] theorem newL_f {xs : List W} (h : xs.length ≤ line) : newL false xs S = .ok (.loc S.length) (S ++ [some (.lst xs)]) := by simp [newL, h]
@[simp] theorem addL_lst {a b : List W} (h : (a ++ b).length ≤ line) : addW true (.lst a) (.lst b) S = .ok (.lst (a ++ b)) S := by
  simp only [addW, addL, lstW]
  exact newL_t h
@[simp] theorem eqW_ii {i j : Int} : eqW S (.int i) (.int j) = some (decide (i = j)) := (rfl)
@[simp] theorem eqW_ss {i j : Str} : eqW S (.str i) (.str j) = some (decide (i = j)) := (rfl)
@[simp] theorem eqW_nn : eqW S .non .non = some true := (rfl)
@[simp] theorem eqW_ni {i : Int} : eqW S .non (.int i) = some false := (rfl)
@[simp] theorem eqW_in {i : Int} : eqW S (.int i) .non = some false := (rfl)
@[simp] theorem eqW_si {x : Str} {i : Int} : eqW S (.str x) (.int i) = some false := (rfl)
@[simp] theorem eqW_is {x : Str} {i : Int} : eqW S (.int i) (.str x) = some false := (rfl)
theorem eqW_pair {a b c d : Int} : eqW S (.tup [.int a, .int b]) (.tup [.int c, .int d]) = some ((a == c) && ((b == d) && true)) := rfl
def ofCmp (o : Option Bool) (S : Store) : Out Bool := match o with
  | some b => .ok b S
  | none => .no
def ofCmpN (o : Option Bool) (S : Store) : Out Bool := match o with
  | some b => .ok (!b) S
  | none => .no
@[simp] theorem ofCmp_some {b : Bool} : ofCmp (some b) S = .ok b S := (rfl)
@[simp] theorem ofCmpN_some {b : Bool} : ofCmpN (some b) S = .ok (!b) S := (rfl)
@[simp] theorem cmpW_eq {x y : W} : cmpW .Eq x y S = ofCmp (eqW S x y) S := (rfl)
@[simp] theorem cmpW_ne {x y : W} : cmpW .NotEq x y S = ofCmpN (eqW S x y) S := (rfl)
@[simp] theorem cmpW_in {x y : W} : cmpW .In x y S = ofCmp (inO S x y) S := (rfl)
@[simp] theorem cmpW_nin {x y : W} : cmpW .NotIn x y S = ofCmpN (inO S x y) S := (rfl)
theorem inO_tup {x : W} {ys : List W} (h : flatW x = true) (h' : ys.all flatW = true) : inO S x (.tup ys) = some (ys.any fun z => eqF z x) := by
  simp only [inO, seqW, h, h', Bool.and_self, if_true]
theorem inO_lst {x : W} {ys : List W} (h : flatW x = true) (h' : ys.all flatW = true) : inO S x (.lst ys) = some (ys.any fun z => eqF z x) := by
  simp only [inO, seqW, h, h', Bool.and_self, if_true]
theorem inO_loc {x : W} {ys : List W} {l : Nat} (hl : S[l]? = some (some (.lst ys))) (h : flatW x = true) (h' : ys.all flatW = true) : inO S x (.loc l) = some (ys.any fun z => eqF z x) := by
  simp only [inO, seqW, hl, h, h', Bool.and_self, if_true]
@[simp] theorem cmpW_lt {i j : Int} : cmpW .Lt (.int i) (.int j) S = .ok (decide (i < j)) S := (rfl)
@[simp] theorem cmpW_le {i j : Int} : cmpW .LtE (.int i) (.int j) S = .ok (decide (i ≤ j)) S := (rfl)
@[simp] theorem cmpW_gt {i j : Int} : cmpW .Gt (.int i) (.int j) S = .ok (decide (j < i)) S := (rfl)
@[simp] theorem cmpW_ge {i j : Int} : cmpW .GtE (.int i) (.int j) S = .ok (decide (j ≤ i)) S := (rfl)
def isNon : W → Bool
  | .non => true
  | _ => false
@[simp] theorem isNon_non : isNon .non = true := (rfl)
@[simp] theorem isNon_int {i : Int} : isNon (.int i) = false := (rfl)
@[simp] theorem isNon_str {i : Str} : isNon (.str i) = false := (rfl)
@[simp] theorem isNon_bl {i : Bool} : isNon (.bl i) = false := (rfl)
@[simp] theorem isNon_tup {i : List W} : isNon (.tup i) = false := (rfl)
@[simp] theorem isNon_lst {i : List W} : isNon (.lst i) = false := (rfl)
@[simp] theorem isNon_loc {i : Nat} : isNon (.loc i) = false := (rfl)
@[simp] theorem cmpW_is {x : W} : cmpW .Is x .non S = .ok (isNon x) S := by cases x <;> rfl
@[simp] theorem cmpW_isn {x : W} : cmpW .IsNot x .non S = .ok (!isNon x) S := by cases x <;> rfl
@[simp] theorem seqW_tup {xs : List W} : seqW S (.tup xs) = some xs := (rfl)
@[simp] theorem seqW_lst {xs : List W} : seqW S (.lst xs) = some xs := (rfl)
@[simp] theorem seqW_scr {xs : List Int} : seqW S (.scr xs) = some (xs.map .int) := (rfl)
theorem seqW_loc {l : Nat} {xs : List W} (h : S[l]? = some (some (.lst xs))) : seqW S (.loc l) = some xs := by simp [seqW, h]
@[simp] theorem frozenW_tup {xs : List W} : frozenW (.tup xs) = some xs := (rfl)
@[simp] theorem frozenW_lst {xs : List W} : frozenW (.lst xs) = some xs := (rfl)
@[simp] theorem truW_bl {b : Bool} : truW S (.bl b) = some b := (rfl)
@[simp] theorem truW_non : truW S .non = some false := (rfl)
@[simp] theorem truW_int {i : Int} : truW S (.int i) = some (i != 0) := (rfl)
@[simp] theorem truW_tup {i : List W} : truW S (.tup i) = some (!i.isEmpty) := (rfl)
@[simp] theorem truW_lst {i : List W} : truW S (.lst i) = some (!i.isEmpty) := (rfl)
def kAt (o : Option W) (S : Store) : Out W := match o with
  | some v => .ok v S
  | none => .no
@[simp] theorem kAt_some {v : W} : kAt (some v) S = .ok v S := (rfl)
@[simp] theorem getW_tup {xs : List W} {k : Int} : getW (.tup xs) (.int k) S = kAt (atW xs k) S := by
  cases h : atW xs k <;> simp only [getW, seqW, kAt, h]
@[simp] theorem getW_lst {xs : List W} {k : Int} : getW (.lst xs) (.int k) S = kAt (atW xs k) S := by
  cases h : atW xs k <;> simp only [getW, seqW, kAt, h]
theorem getW_loc {l : Nat} {xs : List W} {k : Int} (h : S[l]? = some (some (.lst xs))) : getW (.loc l) (.int k) S = kAt (atW xs k) S := by
  cases h' : atW xs k <;> simp only [getW, seqW, kAt, h, h']
def kGet (o : Option (Option Ob)) (k : Int) (S : Store) : Out W := match o with
  | some (some (.lst xs)) => kAt (atW xs k) S
  | some (some (.dic kvs)) => kAt (dget (.inl k) kvs) S
  | _ => .no
def kGetS (o : Option (Option Ob)) (k : Str) (S : Store) : Out W := match o with
  | some (some (.dic kvs)) => kAt (dget (.inr k) kvs) S
  | _ => .no
@[simp] theorem kGetS_some {kvs : List (Key × W)} {k : Str} : kGetS (some (some (.dic kvs))) k S = kAt (dget (.inr k) kvs) S := (rfl)
@[simp] theorem kGet_dic {kvs : List (Key × W)} {k : Int} : kGet (some (some (.dic kvs))) k S = kAt (dget (.inl k) kvs) S := (rfl)
@[simp] theorem kGet_some {xs : List W} {k : Int} : kGet (some (some (.lst xs))) k S = kAt (atW xs k) S := (rfl)
@[simp] theorem getW_l {l : Nat} {k : Int} : getW (.loc l) (.int k) S = kGet (S[l]?) k S := by
  rcases h : S[l]? with _ | _ | (xs | kvs | _)
  · simp only [getW, seqW, kGet, h, dicW]
  · simp only [getW, seqW, kGet, h, dicW]
  · exact getW_loc h
  · simp only [getW, seqW, kGet, h, dicW, keyW]
    cases dget (.inl k) kvs <;> rfl
  · simp only [getW, seqW, kGet, h, dicW]
@[simp] theorem getW_ls {l : Nat} {k : Str} : getW (.loc l) (.str k) S = kGetS (S[l]?) k S := by
  rcases h : S[l]? with _ | _ | (xs | kvs | _)
  · simp only [getW, seqW, kGetS, h, dicW]
  · simp only [getW, seqW, kGetS, h, dicW]
  · simp only [getW, seqW, kGetS, h, dicW]
  · simp only [getW, seqW, kGetS, h, dicW, keyW]
    cases dget (.inr k) kvs <;> rfl
  · simp only [getW, seqW, kGetS, h, dicW]
theorem ixW_nat {n : Nat} {i : Nat} (h : i < n) : ixW n (i : Int) = some i := by
  unfold ixW
  rw [if_pos (by omega), if_pos (by omega)]
  simp
theorem atW_nat {α : Type} {xs : List α} {i : Nat} (h : i < xs.length) : atW xs (i : Int) = some xs[i] := by
  simp [atW, ixW_nat h, h]
@[simp] theorem atW_0 {α : Type} {a : α} {xs : List α} : atW (a :: xs) 0 = some a := atW_nat (i := 0) (by simp)
@[simp] theorem atW_1 {α : Type} {a b : α} {xs : List α} : atW (a :: b :: xs) 1 = some b := atW_nat (i := 1) (by simp)
@[simp] theorem atW_2 {α : Type} {a b c : α} {xs : List α} : atW (a :: b :: c :: xs) 2 = some c := atW_nat (i := 2) (by simp)
@[simp] theorem atW_3 {α : Type} {a b c d : α} {xs : List α} : atW (a :: b :: c :: d :: xs) 3 = some d := atW_nat (i := 3) (by simp)
@[simp] theorem atW_4 {α : Type} {a b c d e : α} {xs : List α} : atW (a :: b :: c :: d :: e :: xs) 4 = some e := atW_nat (i := 4) (by simp)
@[simp] theorem atW_5 {α : Type} {a b c d e f : α} {xs : List α} : atW (a :: b :: c :: d :: e :: f :: xs) 5 = some f := atW_nat (i := 5) (by simp)
@[simp] theorem atW_6 {α : Type} {a b c d e f g : α} {xs : List α} : atW (a :: b :: c :: d :: e :: f :: g :: xs) 6 = some g := atW_nat (i := 6) (by simp)
@[simp] theorem atW_7 {α : Type} {a b c d e f g h : α} {xs : List α} : atW (a :: b :: c :: d :: e :: f :: g :: h :: xs) 7 = some h := atW_nat (i := 7) (by simp)
theorem atW_int {α : Type} {xs : List α} {i : Int} (h : 0 ≤ i) (h' : i < xs.length) : atW xs i = xs[i.toNat]? := by
  obtain ⟨n, rfl⟩ := Int.eq_ofNat_of_zero_le h
  rw [atW_nat (by omega)]
  simp
theorem snoc_idx {α β : Type} {P : α → β → Prop} {xs : List α} {ys : List β} {x : α} {y : β} (hl : ys.length = xs.length) (h : ∀ k (hk : k < xs.length), P xs[k] (ys[k]'(by omega))) (hxy : P x y) :
    ∀ k (hk : k < (xs ++ [x]).length), P (xs ++ [x])[k] ((ys ++ [y])[k]'(by simp at hk ⊢; omega)) := by
  intro k hk
  simp at hk
  by_cases hkk : k < xs.length
  · have := h k hkk
    simpa [List.getElem_append_left, hkk, show k < ys.length by omega] using this
  · have : k = xs.length := by omega
    subst this
    simpa [hl, List.getElem_append_right] using hxy
theorem atW_last {α : Type} {xs : List α} {x : α} : atW (xs ++ [x]) (-1) = some x := by
  have h : ixW (xs ++ [x]).length (-1) = some xs.length := by
    unfold ixW
    rw [if_neg (by omega), if_pos (by simp; omega)]
    simp
    omega
  unfold atW
  rw [h]
  simp
/-- a lookup that goes well -/
theorem atW_mem {α : Type} {xs : List α} {i : Int} (h : 0 ≤ i) (h' : i < xs.length) : ∃ a, atW xs i = some a ∧ a ∈ xs := by
  obtain ⟨n, rfl⟩ := Int.eq_ofNat_of_zero_le h
  exact ⟨xs[n]'(by omega), atW_nat (by omega), List.getElem_mem _⟩
def kSet (ρ : Rho) (o : Option Store) : Out Fl := match o with
  | some S => .ok (.nx ρ) S
  | none => .no
@[simp] theorem kSet_some : kSet ρ (some S) = .ok (.nx ρ) S := (rfl)
theorem setW_loc {l : Nat} {k : Int} {v : W} {xs : List W} (h : S[l]? = some (some (.lst xs))) : setW (.loc l) (.int k) v S = (ixW xs.length k).map fun j => S.set l (some (.lst (xs.set j v))) := by
  simp only [setW, h]
def kPut (o : Option Nat) (l : Nat) (xs : List W) (v : W) (S : Store) : Option Store := match o with
  | some j => some (S.set l (some (.lst (xs.set j v))))
  | none => none
@[simp] theorem kPut_some {j l : Nat} {xs : List W} {v : W} : kPut (some j) l xs v S = some (S.set l (some (.lst (xs.set j v)))) := (rfl)
def kSetL (o : Option (Option Ob)) (l : Nat) (k : Int) (v : W) (S : Store) : Option Store := match o with
  | some (some (.lst xs)) => kPut (ixW xs.length k) l xs v S
  | some (some (.dic kvs)) => if kvs.length < line then some (S.set l (some (.dic (dput (.inl k) v kvs)))) else none
  | _ => none
def kSetS (o : Option (Option Ob)) (l : Nat) (k : Str) (v : W) (S : Store) : Option Store := match o with
  | some (some (.dic kvs)) => if kvs.length < line then some (S.set l (some (.dic (dput (.inr k) v kvs)))) else none
  | _ => none
@[simp] theorem kSetS_some {l : Nat} {k : Str} {v : W} {kvs : List (Key × W)} (h : kvs.length < line) : kSetS (some (some (.dic kvs))) l k v S = some (S.set l (some (.dic (dput (.inr k) v kvs)))) := if_pos h
@[simp] theorem kSetL_some {l : Nat} {k : Int} {v : W} {xs : List W} : kSetL (some (some (.lst xs))) l k v S = kPut (ixW xs.length k) l xs v S := (rfl)
@[simp] theorem setW_l {l : Nat} {k : Int} {v : W} : setW (.loc l) (.int k) v S = kSetL (S[l]?) l k v S := by
  rcases h : S[l]? with _ | _ | (xs | _ | _)
  · simp only [setW, kSetL, h]
  · simp only [setW, kSetL, h]
  · cases h' : ixW xs.length k <;> simp [setW, kSetL, h, h', kPut]
  · simp only [setW, kSetL, h, keyW]
  · simp only [setW, kSetL, h]
@[simp] theorem setW_ls {l : Nat} {k : Str} {v : W} : setW (.loc l) (.str k) v S = kSetS (S[l]?) l k v S := by
  rcases h : S[l]? with _ | _ | (xs | _ | _)
  · simp only [setW, kSetS, h]
  · simp only [setW, kSetS, h]
  · simp only [setW, kSetS, h]
  · simp only [setW, kSetS, h, keyW]
  · simp only [setW, kSetS, h]
def kTyO (o : Option (Option Ob)) : Option String := match o with
    | some (some (.lst _)) => some "list"
    | some (some (.dic _)) => some "dict"
    | _ => none
@[simp] theorem kTyO_d {xs : List (Key × W)} : kTyO (some (some (.dic xs))) = some "dict" := (rfl)
@[simp] theorem kTyO_l {xs : List W} : kTyO (some (some (.lst xs))) = some "list" := (rfl)
@[simp] theorem tyN_loc {l : Nat} : tyN S (.loc l) = kTyO (S[l]?) := (rfl)
@[simp] theorem tyN_non : tyN S .non = some "NoneType" := (rfl)
@[simp] theorem tyN_bl {b : Bool} : tyN S (.bl b) = some "bool" := (rfl)
@[simp] theorem tyN_int {i : Int} : tyN S (.int i) = some "int" := (rfl)
@[simp] theorem tyN_str {i : Str} : tyN S (.str i) = some "str" := (rfl)
@[simp] theorem tyN_tup {xs : List W} : tyN S (.tup xs) = some "tuple" := (rfl)
@[simp] theorem tyN_lst {xs : List W} : tyN S (.lst xs) = some "list" := (rfl)
def kPop (o : Option (Option Ob)) (l : Nat) (i : Int) (S : Store) : Out W := match o with
    | some (some (.lst xs)) => (match ixW xs.length i with
      | some k => (match xs[k]? with
        | some y => .ok y (S.set l (some (.lst (xs.eraseIdx k))))
        | none => .no)
      | none => .no)
    | _ => .no
@[simp] theorem kPop_0 {y : W} {xs : List W} {l : Nat} : kPop (some (some (.lst (y :: xs)))) l 0 S = .ok y (S.set l (some (.lst xs))) := by
  have h : ixW (y :: xs).length 0 = some 0 := ixW_nat (i := 0) (by simp)
  simp only [kPop, h]
  rfl
@[simp] theorem mtW_popAt {l : Nat} {i : Int} : mtW .popAt (.loc l) [.int i] S = kPop (S[l]?) l i S := (rfl)
def kIns (o : Option (Option Ob)) (l : Nat) (i : Int) (v : W) (S : Store) : Out W := match o with
    | some (some (.lst xs)) => if xs.length < line ∧ 0 ≤ i ∧ i < 2 ^ 63 then .ok .non (S.set l (some (.lst (xs.take i.toNat ++ [v] ++ xs.drop i.toNat)))) else .no
    | _ => .no
theorem kIns_ok {xs : List W} {l : Nat} {i : Int} {v : W} (h : xs.length < line ∧ 0 ≤ i ∧ i < 2 ^ 63) : kIns (some (some (.lst xs))) l i v S = .ok .non (S.set l (some (.lst (xs.take i.toNat ++ [v] ++ xs.drop i.toNat)))) := if_pos h
@[simp] theorem mtW_insert {l : Nat} {i : Int} {v : W} : mtW .insert (.loc l) [.int i, v] S = kIns (S[l]?) l i v S := (rfl)
def kApp (o : Option (Option Ob)) (l : Nat) (v : W) (S : Store) : Out W := match o with
    | some (some (.lst xs)) => if xs.length < line then .ok .non (S.set l (some (.lst (xs ++ [v])))) else .no
    | _ => .no
@[simp] theorem kApp_ok {xs : List W} {l : Nat} {v : W} (h : xs.length < line) : kApp (some (some (.lst xs))) l v S = .ok .non (S.set l (some (.lst (xs ++ [v])))) := if_pos h
def kSq0 (o : Option (Option Ob)) : Option (List W) := match o with
    | some (some (.lst xs)) => some xs
    | _ => none
@[simp] theorem kSq0_some {xs : List W} : kSq0 (some (some (.lst xs))) = some xs := (rfl)
def kExt (o : Option (Option Ob)) (p : Option (List W)) (l : Nat) (S : Store) : Out W := match o, p with
    | some (some (.lst xs)), some zs => if xs.length + zs.length ≤ line then .ok .non (S.set l (some (.lst (xs ++ zs)))) else .no
    | _, _ => .no
@[simp] theorem kExt_ok {xs zs : List W} {l : Nat} (h : xs.length + zs.length ≤ line) : kExt (some (some (.lst xs))) (some zs) l S = .ok .non (S.set l (some (.lst (xs ++ zs)))) := if_pos h
@[simp] theorem mtW_extend {l : Nat} {v : W} : mtW .extend (.loc l) [v] S = kExt (S[l]?) (lstW S v) l S := (rfl)
@[simp] theorem lstW_lst {xs : List W} : lstW S (.lst xs) = some xs := (rfl)
@[simp] theorem lstW_loc {l : Nat} : lstW S (.loc l) = kSq0 (S[l]?) := (rfl)
@[simp] theorem mtW_append {l : Nat} {v : W} : mtW .append (.loc l) [v] S = kApp (S[l]?) l v S := (rfl)
/-! ### built-ins -/
def kLen (o : Option (List W)) (S : Store) : Out W := match o with
  | some xs => .ok (.int xs.length) S
  | none => .no
@[simp] theorem kLen_some {xs : List W} : kLen (some xs) S = .ok (.int xs.length) S := (rfl)
@[simp] theorem biW_len_tup {xs : List W} : biW .len [.tup xs] S = .ok (.int xs.length) S := (rfl)
@[simp] theorem biW_len_lst {xs : List W} : biW .len [.lst xs] S = .ok (.int xs.length) S := (rfl)
@[simp] theorem biW_len_str {x : Str} : biW .len [.str x] S = .ok (.int x.length) S := (rfl)
@[simp] theorem biW_abs {i : Int} : biW .abs [.int i] S = .ok (.int (if i < 0 then -i else i)) S := (rfl)
@[simp] theorem biW_max2 {i j : Int} : biW .max2 [.int i, .int j] S = .ok (.int (if j > i then j else i)) S := (rfl)
@[simp] theorem biW_min2 {i j : Int} : biW .min2 [.int i, .int j] S = .ok (.int (if j < i then j else i)) S := (rfl)
@[simp] theorem biW_int1_bl {b : Bool} : biW .int1 [.bl b] S = .ok (.int (if b then 1 else 0)) S := (rfl)
theorem biW_int1_str {x : Str} (h : decB x = true) : biW .int1 [.str x] S = .ok (.int (decV x.cps.toList : Nat)) S := if_pos h
@[simp] theorem biW_int1_int {i : Int} : biW .int1 [.int i] S = .ok (.int i) S := (rfl)
@[simp] theorem biW_tupleOf_lst {xs : List W} : biW .tupleOf [.lst xs] S = .ok (.tup xs) S := (rfl)
@[simp] theorem biW_tupleOf_tup {xs : List W} : biW .tupleOf [.tup xs] S = .ok (.tup xs) S := (rfl)
theorem biW_listOf_seq {fz : Bool} {v : W} {xs : List W} (h : seqW S v = some xs) : biW (.listOf fz) [v] S = newL fz xs S := by
  cases v <;> first | (simp [seqW] at h; done) | (simp only [biW, h])
@[simp] theorem biW_listOf_str {fz : Bool} {x : Str} : biW (.listOf fz) [.str x] S = newL fz (x.cps.toList.map fun c => .str ⟨#[c]⟩) S := (rfl)
@[simp] theorem biW_listOf_tup {fz : Bool} {xs : List W} : biW (.listOf fz) [.tup xs] S = newL fz xs S := (rfl)
@[simp] theorem biW_listOf_lst {fz : Bool} {xs : List W} : biW (.listOf fz) [.lst xs] S = newL fz xs S := (rfl)
@[simp] theorem biW_listOf_scr {fz : Bool} {xs : List Int} : biW (.listOf fz) [.scr xs] S = newL fz (xs.map .int) S := (rfl)
@[simp] theorem intsOf_nil : intsOf [] = some [] := (rfl)
def kCons (i : Int) (o : Option (List Int)) : Option (List Int) := o.map (i :: ·)
@[simp] theorem kCons_some {i : Int} {r : List Int} : kCons i (some r) = some (i :: r) := (rfl)
@[simp] theorem intsOf_cons {i : Int} {r : List W} : intsOf (.int i :: r) = kCons i (intsOf r) := (rfl)
theorem intsOf_map (xs : List Int) : intsOf (xs.map .int) = some xs := by
  induction xs with
  | nil => rfl
  | cons x r ih => simp [ih]
def kMaxL (o : Option (List Int)) (S : Store) : Out W := match o with
    | some (n :: ns) => .ok (.int (maxI (n :: ns))) S
    | _ => .no
def kMinL (o : Option (List Int)) (S : Store) : Out W := match o with
    | some (n :: ns) => .ok (.int (minI (n :: ns))) S
    | _ => .no
@[simp] theorem kMaxL_some {n : Int} {ns : List Int} : kMaxL (some (n :: ns)) S = .ok (.int (maxI (n :: ns))) S := (rfl)
@[simp] theorem kMinL_some {n : Int} {ns : List Int} : kMinL (some (n :: ns)) S = .ok (.int (minI (n :: ns))) S := (rfl)
@[simp] theorem biW_maxL {xs : List W} : biW .maxL [.lst xs] S = kMaxL (intsOf xs) S := (rfl)
@[simp] theorem biW_minL {xs : List W} : biW .minL [.lst xs] S = kMinL (intsOf xs) S := (rfl)
def kSortO (fz : Bool) (o : Option (List W)) (S : Store) : Out W := match o with
    | some xs => sortW fz xs S
    | none => .no
@[simp] theorem kSortO_some {fz : Bool} {xs : List W} : kSortO fz (some xs) S = sortW fz xs S := (rfl)
@[simp] theorem biW_sortedI {fz : Bool} {v : W} : biW (.sortedI fz) [v] S = kSortO fz (lstW S v) S := (rfl)
theorem sortW_ints {fz : Bool} {xs : List W} {ns : List Int} (h : intsOf xs = some ns) : sortW fz xs S = newL fz ((sortI ns).map .int) S := by
  simp only [sortW, h]
def kSortI (fz : Bool) (o : Option (List Int)) (xs : List W) (S : Store) : Out W := match o with
  | some ns => newL fz ((sortI ns).map .int) S
  | none => match tupsOf xs with
    | some qs => newL fz ((sortT qs).map fun q => .tup (q.map .int)) S
    | none => .no
@[simp] theorem kSortI_some {fz : Bool} {ns : List Int} {xs : List W} : kSortI fz (some ns) xs S = newL fz ((sortI ns).map .int) S := (rfl)
@[simp] theorem sortW_int {fz : Bool} {i : Int} {xs : List W} : sortW fz (.int i :: xs) S = kSortI fz (intsOf (.int i :: xs)) (.int i :: xs) S := (rfl)
theorem sortW_tups {fz : Bool} {xs : List W} {qs : List (List Int)} (h : tupsOf xs = some qs) : sortW fz xs S = newL fz ((sortT qs).map fun q => .tup (q.map .int)) S := by
  cases xs with
  | nil => cases h; rfl
  | cons x r =>
    have e : intsOf (x :: r) = none := by
      cases x <;> first | rfl | (simp [tupsOf] at h)
    simp only [sortW, e, h]
@[simp] theorem eqW_bb {a b : Bool} : eqW S (.bl a) (.bl b) = some (a == b) := (rfl)
def kTupL (o : Option (List W)) (S : Store) : Out W := match o with
    | some xs => .ok (.tup xs) S
    | none => .no
@[simp] theorem kTupL_some {xs : List W} : kTupL (some xs) S = .ok (.tup xs) S := (rfl)
@[simp] theorem biW_tupleOf_loc {l : Nat} : biW .tupleOf [.loc l] S = kTupL (seqW S (.loc l)) S := (rfl)
@[simp] theorem biW_len_loc {l : Nat} : biW .len [.loc l] S = kLen (seqW S (.loc l)) S := (rfl)
def kSq (o : Option (Option Ob)) : Option (List W) := match o with
    | some (some (.lst xs)) => some xs
    | _ => none
@[simp] theorem kSq_some {xs : List W} : kSq (some (some (.lst xs))) = some xs := (rfl)
@[simp] theorem seqW_l {l : Nat} : seqW S (.loc l) = kSq (S[l]?) := (rfl)
def kIsi (o : Option Bool) (S : Store) : Out W := match o with
    | some b => .ok (.bl b) S
    | none => .no
@[simp] theorem kIsi_some {b : Bool} : kIsi (some b) S = .ok (.bl b) S := (rfl)
@[simp] theorem biW_isinst {x : W} {n : String} : biW .isinst [x, .ty n] S = kIsi (isiW S x n) S := (rfl)
@[simp] theorem isiW_int {i : Int} {n : String} : isiW S (.int i) n = isiT "int" n := (rfl)
@[simp] theorem isiW_str {i : Str} {n : String} : isiW S (.str i) n = isiT "str" n := (rfl)
@[simp] theorem isiW_bl {i : Bool} {n : String} : isiW S (.bl i) n = isiT "bool" n := (rfl)
@[simp] theorem isiW_non {n : String} : isiW S .non n = isiT "NoneType" n := (rfl)
@[simp] theorem isiW_tup {i : List W} {n : String} : isiW S (.tup i) n = isiT "tuple" n := (rfl)
@[simp] theorem isiW_loc {l : Nat} {n : String} : isiW S (.loc l) n = (kTyO (S[l]?)).bind fun a => isiT a n := (rfl)
@[simp] theorem isiW_lst {i : List W} {n : String} : isiW S (.lst i) n = isiT "list" n := (rfl)
@[simp] theorem isiT_ii : isiT "int" "int" = some true := by decide
@[simp] theorem isiT_it : isiT "int" "tuple" = some false := by decide
@[simp] theorem isiT_ib : isiT "int" "bool" = some false := by decide
@[simp] theorem isiT_is : isiT "int" "str" = some false := by decide
@[simp] theorem isiT_il : isiT "int" "list" = some false := by decide
@[simp] theorem isiT_ti : isiT "tuple" "int" = some false := by decide
@[simp] theorem isiT_tt : isiT "tuple" "tuple" = some true := by decide
@[simp] theorem isiT_tb : isiT "tuple" "bool" = some false := by decide
@[simp] theorem isiT_ts : isiT "tuple" "str" = some false := by decide
@[simp] theorem isiT_tl : isiT "tuple" "list" = some false := by decide
@[simp] theorem isiT_si : isiT "str" "int" = some false := by decide
@[simp] theorem isiT_st : isiT "str" "tuple" = some false := by decide
@[simp] theorem isiT_sb : isiT "str" "bool" = some false := by decide
@[simp] theorem isiT_ss : isiT "str" "str" = some true := by decide
@[simp] theorem isiT_sl : isiT "str" "list" = some false := by decide
@[simp] theorem isiT_ni : isiT "NoneType" "int" = some false := by decide
@[simp] theorem isiT_nt : isiT "NoneType" "tuple" = some false := by decide
@[simp] theorem isiT_nb : isiT "NoneType" "bool" = some false := by decide
@[simp] theorem isiT_ns : isiT "NoneType" "str" = some false := by decide
@[simp] theorem isiT_nl : isiT "NoneType" "list" = some false := by decide
@[simp] theorem isiT_ll : isiT "list" "list" = some true := by decide
@[simp] theorem isiT_lt : isiT "list" "tuple" = some false := by decide
@[simp] theorem isiT_li : isiT "list" "int" = some false := by decide
@[simp] theorem isiT_bt : isiT "bool" "tuple" = some false := by decide
@[simp] theorem isiT_bi : isiT "bool" "int" = some true := by decide
@[simp] theorem isiT_bb : isiT "bool" "bool" = some true := by decide
theorem biW_divmod {i j : Int} (h : divOk j) : biW .divmod [.int i, .int j] S = .ok (.tup [.int (i.fdiv j), .int (i.fmod j)]) S := if_pos h
@[simp] theorem sliceW_tup {fz : Bool} {xs : List W} {lo hi : Option Int} : sliceW fz (.tup xs) lo hi S = .ok (.tup (cut xs lo hi)) S := (rfl)
@[simp] theorem getW_str {x : Str} {k : Int} : getW (.str x) (.int k) S = kAt ((atW x.cps.toList k).map fun c => .str ⟨#[c]⟩) S := by
  cases h : atW x.cps.toList k <;> simp only [getW, kAt, h, Option.map]
/-! ### bounds -/
theorem mulOk_of {i j : Int} (a b : Nat) (h : i.natAbs < 2 ^ a) (h' : j.natAbs < 2 ^ b) (hab : a + b < 1000000) : mulOk i j := by
  unfold mulOk
  have l : ∀ {m k : Nat}, m < 2 ^ k → m.log2 ≤ k := by
    intro m k hm
    rcases Nat.eq_zero_or_pos m with rfl | h0
    · simp
    · exact Nat.le_of_lt ((Nat.log2_lt (by omega)).2 hm)
  have := l h
  have := l h'
  omega
theorem divOk_of {j : Int} (h0 : j ≠ 0) (a : Nat) (h : j.natAbs < 2 ^ a) (ha : a < 9000) : divOk j := by
  refine ⟨h0, ?_⟩
  have := (Nat.log2_lt (n := j.natAbs) (by omega)).2 h
  omega
/-! ### expressions -/
def kVar (o : Option (Option W)) (S : Store) : Out W := match o with
  | some (some w) => .ok w S
  | _ => .no
@[simp] theorem kVar_some {w : W} : kVar (some (some w)) S = .ok w S := (rfl)
@[simp] theorem den_var {i : Nat} : den C (.var i) ρ S = kVar (ρ[i]?) S := (rfl)
@[simp] theorem den_cint {i : Int} : den C (.cint i) ρ S = .ok (.int i) S := (rfl)
@[simp] theorem den_cstr {i : Str} : den C (.cstr i) ρ S = .ok (.str i) S := (rfl)
@[simp] theorem den_cbl {i : Bool} : den C (.cbl i) ρ S = .ok (.bl i) S := (rfl)
@[simp] theorem den_cnon : den C .cnon ρ S = .ok .non S := (rfl)
@[simp] theorem den_tyc {i : String} : den C (.tyc i) ρ S = .ok (.ty i) S := (rfl)
@[simp] theorem den_glo {x : Str} : den C (.glo x) ρ S = ofOpt (C.gl.gl x) S := (rfl)
def kTup (o : Out (List W)) : Out W := o.bd fun xs S1 => if xs.length ≤ line then .ok (.tup xs) S1 else .no
@[simp] theorem den_tup {es : List E} : den C (.tup es) ρ S = kTup (dens C es ρ S) := (rfl)
@[simp] theorem kTup_ok {xs : List W} (h : xs.length ≤ line) : kTup (.ok xs S) = .ok (.tup xs) S := if_pos h
def kLst (fz : Bool) (o : Out (List W)) : Out W := o.bd fun xs S1 => newL fz xs S1
@[simp] theorem den_lst {fz : Bool} {es : List E} : den C (.lst fz es) ρ S = kLst fz (dens C es ρ S) := (rfl)
@[simp] theorem kLst_ok {fz : Bool} {xs : List W} : kLst fz (.ok xs S) = newL fz xs S := (rfl)
def kBin2 (fz : Bool) (op : Operator) (x : W) (o : Out W) : Out W := o.bd fun y S2 => binW fz op x y S2
def kBin1 (C : Cn) (fz : Bool) (op : Operator) (b : E) (ρ : Rho) (o : Out W) : Out W := o.bd fun x S1 => kBin2 fz op x (den C b ρ S1)
@[simp] theorem den_bin {fz : Bool} {op : Operator} {a b : E} : den C (.bin fz op a b) ρ S = kBin1 C fz op b ρ (den C a ρ S) := (rfl)
@[simp] theorem kBin1_ok {fz : Bool} {op : Operator} {b : E} {x : W} : kBin1 C fz op b ρ (.ok x S) = kBin2 fz op x (den C b ρ S) := (rfl)
@[simp] theorem kBin2_ok {fz : Bool} {op : Operator} {x y : W} : kBin2 fz op x (.ok y S) = binW fz op x y S := (rfl)
def kNeg (o : Out W) : Out W := o.bd fun x S1 => (match x with
    | .int i => .ok (.int (-i)) S1
    | _ => .no)
@[simp] theorem den_neg {a : E} : den C (.neg a) ρ S = kNeg (den C a ρ S) := (rfl)
@[simp] theorem kNeg_ok {i : Int} : kNeg (.ok (.int i) S) = .ok (.int (-i)) S := (rfl)
def kTru (o : Out W) : Out Bool := o.bd fun x S1 => ofOpt (truW S1 x) S1
@[simp] theorem kTru_ok {x : W} : kTru (.ok x S) = ofOpt (truW S x) S := (rfl)
def kNotV (o : Out Bool) : Out W := o.bd fun b S1 => .ok (.bl (!b)) S1
@[simp] theorem kNotV_ok {b : Bool} : kNotV (.ok b S) = .ok (.bl (!b)) S := (rfl)
@[simp] theorem den_not {a : E} : den C (.not a) ρ S = kNotV (kTru (den C a ρ S)) := by
  show (den C a ρ S).bd _ = (Out.bd (Out.bd _ _) _)
  rw [Out.bd_assoc]
def kBl (o : Out Bool) : Out W := o.bd fun b S1 => .ok (.bl b) S1
@[simp] theorem kBl_ok {b : Bool} : kBl (.ok b S) = .ok (.bl b) S := (rfl)
def kCmp2 (op : CmpOp) (x : W) (o : Out W) : Out Bool := o.bd fun y S2 => cmpW op x y S2
def kCmp1 (C : Cn) (op : CmpOp) (b : E) (ρ : Rho) (o : Out W) : Out Bool := o.bd fun x S1 => kCmp2 op x (den C b ρ S1)
@[simp] theorem kCmp1_ok {op : CmpOp} {b : E} {x : W} : kCmp1 C op b ρ (.ok x S) = kCmp2 op x (den C b ρ S) := (rfl)
@[simp] theorem kCmp2_ok {op : CmpOp} {x y : W} : kCmp2 op x (.ok y S) = cmpW op x y S := (rfl)
@[simp] theorem den_cmp {op : CmpOp} {a b : E} : den C (.cmp op a b) ρ S = kBl (kCmp1 C op b ρ (den C a ρ S)) := by
  show Out.bd _ _ = Out.bd (Out.bd _ _) _
  rw [Out.bd_assoc]
  congr 1
  funext x S1
  show Out.bd _ _ = Out.bd (Out.bd _ _) _
  rw [Out.bd_assoc]
def kAnd1 (C : Cn) (es : List E) (ρ : Rho) (x : W) (b : Bool) (S : Store) : Out W := if b then andV C es ρ S else .ok x S
@[simp] theorem kAnd1_t {es : List E} {x : W} : kAnd1 C es ρ x true S = andV C es ρ S := (rfl)
@[simp] theorem kAnd1_f {es : List E} {x : W} : kAnd1 C es ρ x false S = .ok x S := (rfl)
def kOr1 (C : Cn) (es : List E) (ρ : Rho) (x : W) (b : Bool) (S : Store) : Out W := if b then .ok x S else orV C es ρ S
@[simp] theorem kOr1_f {es : List E} {x : W} : kOr1 C es ρ x false S = orV C es ρ S := (rfl)
@[simp] theorem kOr1_t {es : List E} {x : W} : kOr1 C es ρ x true S = .ok x S := (rfl)
def kAnd2 (C : Cn) (es : List E) (ρ : Rho) (x : W) (o : Out Bool) : Out W := o.bd fun b S1 => kAnd1 C es ρ x b S1
def kOr2 (C : Cn) (es : List E) (ρ : Rho) (x : W) (o : Out Bool) : Out W := o.bd fun b S1 => kOr1 C es ρ x b S1
@[simp] theorem kAnd2_ok {es : List E} {x : W} {b : Bool} : kAnd2 C es ρ x (.ok b S) = kAnd1 C es ρ x b S := (rfl)
@[simp] theorem kOr2_ok {es : List E} {x : W} {b : Bool} : kOr2 C es ρ x (.ok b S) = kOr1 C es ρ x b S := (rfl)
def kAnd3 (C : Cn) (es : List E) (ρ : Rho) (o : Out W) : Out W := o.bd fun x S1 => kAnd2 C es ρ x (ofOpt (truW S1 x) S1)
def kOr3 (C : Cn) (es : List E) (ρ : Rho) (o : Out W) : Out W := o.bd fun x S1 => kOr2 C es ρ x (ofOpt (truW S1 x) S1)
@[simp] theorem kAnd3_ok {es : List E} {x : W} : kAnd3 C es ρ (.ok x S) = kAnd2 C es ρ x (ofOpt (truW S x) S) := (rfl)
@[simp] theorem kOr3_ok {es : List E} {x : W} : kOr3 C es ρ (.ok x S) = kOr2 C es ρ x (ofOpt (truW S x) S) := (rfl)
@[simp] theorem den_and {es : List E} : den C (.and es) ρ S = andV C es ρ S := (rfl)
@[simp] theorem den_or {es : List E} : den C (.or es) ρ S = orV C es ρ S := (rfl)
@[simp] theorem andV_one {e : E} : andV C [e] ρ S = den C e ρ S := (rfl)
@[simp] theorem orV_one {e : E} : orV C [e] ρ S = den C e ρ S := (rfl)
@[simp] theorem andV_two {e f : E} {es : List E} : andV C (e :: f :: es) ρ S = kAnd3 C (f :: es) ρ (den C e ρ S) := (rfl)
@[simp] theorem orV_two {e f : E} {es : List E} : orV C (e :: f :: es) ρ S = kOr3 C (f :: es) ρ (den C e ρ S) := (rfl)
def kCh3 (C : Cn) (o2 : CmpOp) (y : W) (c : E) (ρ : Rho) (b : Bool) (S : Store) : Out Bool := if b then kCmp2 o2 y (den C c ρ S) else .ok false S
@[simp] theorem kCh3_t {o2 : CmpOp} {y : W} {c : E} : kCh3 C o2 y c ρ true S = kCmp2 o2 y (den C c ρ S) := (rfl)
@[simp] theorem kCh3_f {o2 : CmpOp} {y : W} {c : E} : kCh3 C o2 y c ρ false S = .ok false S := (rfl)
def kCh4 (C : Cn) (o2 : CmpOp) (y : W) (c : E) (ρ : Rho) (o : Out Bool) : Out Bool := o.bd fun b S1 => kCh3 C o2 y c ρ b S1
@[simp] theorem kCh4_ok {o2 : CmpOp} {y : W} {c : E} {b : Bool} : kCh4 C o2 y c ρ (.ok b S) = kCh3 C o2 y c ρ b S := (rfl)
def kCh2 (C : Cn) (o1 o2 : CmpOp) (x : W) (c : E) (ρ : Rho) (o : Out W) : Out Bool := o.bd fun y S1 => kCh4 C o2 y c ρ (cmpW o1 x y S1)
@[simp] theorem kCh2_ok {o1 o2 : CmpOp} {x y : W} {c : E} : kCh2 C o1 o2 x c ρ (.ok y S) = kCh4 C o2 y c ρ (cmpW o1 x y S) := (rfl)
def kCh1 (C : Cn) (o1 o2 : CmpOp) (b c : E) (ρ : Rho) (o : Out W) : Out Bool := o.bd fun x S1 => kCh2 C o1 o2 x c ρ (den C b ρ S1)
@[simp] theorem kCh1_ok {o1 o2 : CmpOp} {x : W} {b c : E} : kCh1 C o1 o2 b c ρ (.ok x S) = kCh2 C o1 o2 x c ρ (den C b ρ S) := (rfl)
@[simp] theorem tst_ch {o1 o2 : CmpOp} {a b c : E} : tst C (.ch o1 o2 a b c) ρ S = kCh1 C o1 o2 b c ρ (den C a ρ S) := (rfl)
@[simp] theorem den_ch {o1 o2 : CmpOp} {a b c : E} : den C (.ch o1 o2 a b c) ρ S = kBl (kCh1 C o1 o2 b c ρ (den C a ρ S)) := by
  show Out.bd _ _ = Out.bd (Out.bd _ _) _
  rw [Out.bd_assoc]
  congr 1; funext x S1
  show Out.bd _ _ = Out.bd (Out.bd _ _) _
  rw [Out.bd_assoc]
  congr 1; funext y S2
  show Out.bd _ _ = Out.bd (Out.bd _ _) _
  rw [Out.bd_assoc]
  congr 1; funext t S3
  cases t
  · rfl
  · show Out.bd _ _ = Out.bd (Out.bd _ _) _
    rw [Out.bd_assoc]
def kC3c (C : Cn) (o3 : CmpOp) (z : W) (d : E) (ρ : Rho) (b : Bool) (S : Store) : Out Bool := if b then kCmp2 o3 z (den C d ρ S) else .ok false S
@[simp] theorem kC3c_t {o3 : CmpOp} {z : W} {d : E} : kC3c C o3 z d ρ true S = kCmp2 o3 z (den C d ρ S) := (rfl)
@[simp] theorem kC3c_f {o3 : CmpOp} {z : W} {d : E} : kC3c C o3 z d ρ false S = .ok false S := (rfl)
def kC3b (C : Cn) (o3 : CmpOp) (z : W) (d : E) (ρ : Rho) (o : Out Bool) : Out Bool := o.bd fun b S => kC3c C o3 z d ρ b S
@[simp] theorem kC3b_ok {o3 : CmpOp} {z : W} {d : E} {b : Bool} : kC3b C o3 z d ρ (.ok b S) = kC3c C o3 z d ρ b S := (rfl)
def kC3a (C : Cn) (o2 o3 : CmpOp) (y : W) (d : E) (ρ : Rho) (o : Out W) : Out Bool := o.bd fun z S => kC3b C o3 z d ρ (cmpW o2 y z S)
@[simp] theorem kC3a_ok {o2 o3 : CmpOp} {y z : W} {d : E} : kC3a C o2 o3 y d ρ (.ok z S) = kC3b C o3 z d ρ (cmpW o2 y z S) := (rfl)
def kC33 (C : Cn) (o2 o3 : CmpOp) (y : W) (c d : E) (ρ : Rho) (b : Bool) (S : Store) : Out Bool := if b then kC3a C o2 o3 y d ρ (den C c ρ S) else .ok false S
@[simp] theorem kC33_t {o2 o3 : CmpOp} {y : W} {c d : E} : kC33 C o2 o3 y c d ρ true S = kC3a C o2 o3 y d ρ (den C c ρ S) := (rfl)
@[simp] theorem kC33_f {o2 o3 : CmpOp} {y : W} {c d : E} : kC33 C o2 o3 y c d ρ false S = .ok false S := (rfl)
def kC34 (C : Cn) (o2 o3 : CmpOp) (y : W) (c d : E) (ρ : Rho) (o : Out Bool) : Out Bool := o.bd fun b S => kC33 C o2 o3 y c d ρ b S
@[simp] theorem kC34_ok {o2 o3 : CmpOp} {y : W} {c d : E} {b : Bool} : kC34 C o2 o3 y c d ρ (.ok b S) = kC33 C o2 o3 y c d ρ b S := (rfl)
def kC32 (C : Cn) (o1 o2 o3 : CmpOp) (x : W) (c d : E) (ρ : Rho) (o : Out W) : Out Bool := o.bd fun y S => kC34 C o2 o3 y c d ρ (cmpW o1 x y S)
@[simp] theorem kC32_ok {o1 o2 o3 : CmpOp} {x y : W} {c d : E} : kC32 C o1 o2 o3 x c d ρ (.ok y S) = kC34 C o2 o3 y c d ρ (cmpW o1 x y S) := (rfl)
def kC31 (C : Cn) (o1 o2 o3 : CmpOp) (b c d : E) (ρ : Rho) (o : Out W) : Out Bool := o.bd fun x S => kC32 C o1 o2 o3 x c d ρ (den C b ρ S)
@[simp] theorem kC31_ok {o1 o2 o3 : CmpOp} {x : W} {b c d : E} : kC31 C o1 o2 o3 b c d ρ (.ok x S) = kC32 C o1 o2 o3 x c d ρ (den C b ρ S) := (rfl)
@[simp] theorem den_ch3 {o1 o2 o3 : CmpOp} {a b c d : E} : den C (.ch3 o1 o2 o3 a b c d) ρ S = kBl (kC31 C o1 o2 o3 b c d ρ (den C a ρ S)) := by
  show Out.bd _ _ = Out.bd (Out.bd _ _) _
  rw [Out.bd_assoc]
  congr 1; funext x S1
  show Out.bd _ _ = Out.bd (Out.bd _ _) _
  rw [Out.bd_assoc]
  congr 1; funext y S2
  show Out.bd _ _ = Out.bd (Out.bd _ _) _
  rw [Out.bd_assoc]
  congr 1; funext t S3
  cases t
  · rfl
  · show Out.bd _ _ = Out.bd (Out.bd _ _) _
    rw [Out.bd_assoc]
    congr 1; funext z S4
    show Out.bd _ _ = Out.bd (Out.bd _ _) _
    rw [Out.bd_assoc]
    congr 1; funext t S5
    cases t
    · rfl
    · show Out.bd _ _ = Out.bd (Out.bd _ _) _
      rw [Out.bd_assoc]
def kIte (C : Cn) (a b : E) (ρ : Rho) (t : Bool) (S : Store) : Out W := if t then den C a ρ S else den C b ρ S
@[simp] theorem kIte_t {a b : E} : kIte C a b ρ true S = den C a ρ S := (rfl)
@[simp] theorem kIte_f {a b : E} : kIte C a b ρ false S = den C b ρ S := (rfl)
def kIteT (C : Cn) (a b : E) (ρ : Rho) (o : Out Bool) : Out W := o.bd fun t S => kIte C a b ρ t S
@[simp] theorem kIteT_ok {a b : E} {t : Bool} : kIteT C a b ρ (.ok t S) = kIte C a b ρ t S := (rfl)
@[simp] theorem den_ife {c : T} {a b : E} : den C (.ife c a b) ρ S = kIteT C a b ρ (tst C c ρ S) := (rfl)
def kCall (C : Cn) (f : Str) (o : Out (List W)) : Out W := o.bd fun xs S1 => C.fn f xs S1
@[simp] theorem kCall_ok {f : Str} {xs : List W} : kCall C f (.ok xs S) = C.fn f xs S := (rfl)
@[simp] theorem den_call {f : Str} {es : List E} : den C (.call f es) ρ S = kCall C f (dens C es ρ S) := (rfl)
def kBi (b : Bi) (o : Out (List W)) : Out W := o.bd fun xs S1 => biW b xs S1
@[simp] theorem kBi_ok {b : Bi} {xs : List W} : kBi b (.ok xs S) = biW b xs S := (rfl)
@[simp] theorem den_bi {b : Bi} {es : List E} : den C (.bi b es) ρ S = kBi b (dens C es ρ S) := (rfl)
def kMt2 (m : Mt) (x : W) (o : Out (List W)) : Out W := o.bd fun xs S2 => mtW m x xs S2
@[simp] theorem kMt2_ok {m : Mt} {x : W} {xs : List W} : kMt2 m x (.ok xs S) = mtW m x xs S := (rfl)
def kMt1 (C : Cn) (m : Mt) (es : List E) (ρ : Rho) (o : Out W) : Out W := o.bd fun x S1 => if tyN S1 x = some (mtT m) then kMt2 m x (dens C es ρ S1) else .no
def kMtB (C : Cn) (m : Mt) (x : W) (es : List E) (ρ : Rho) (o : Option String) (S : Store) : Out W := if o = some (mtT m) then kMt2 m x (dens C es ρ S) else .no
@[simp] theorem kMt1_ok {m : Mt} {es : List E} {x : W} : kMt1 C m es ρ (.ok x S) = kMtB C m x es ρ (tyN S x) S := (rfl)
@[simp] theorem kMtB_append {es : List E} {x : W} : kMtB C .append x es ρ (some "list") S = kMt2 .append x (dens C es ρ S) := if_pos rfl
@[simp] theorem kMtB_insert {es : List E} {x : W} : kMtB C .insert x es ρ (some "list") S = kMt2 .insert x (dens C es ρ S) := if_pos rfl
@[simp] theorem kMtB_popAt {es : List E} {x : W} : kMtB C .popAt x es ρ (some "list") S = kMt2 .popAt x (dens C es ρ S) := if_pos rfl
@[simp] theorem kMtB_extend {es : List E} {x : W} : kMtB C .extend x es ρ (some "list") S = kMt2 .extend x (dens C es ρ S) := if_pos rfl
@[simp] theorem kMtB_pop {es : List E} {x : W} : kMtB C .pop x es ρ (some "list") S = kMt2 .pop x (dens C es ρ S) := if_pos rfl
@[simp] theorem kMtB_join {es : List E} {x : W} : kMtB C .join x es ρ (some "str") S = kMt2 .join x (dens C es ρ S) := if_pos rfl
@[simp] theorem kMtB_isupper {es : List E} {x : W} : kMtB C .isupper x es ρ (some "str") S = kMt2 .isupper x (dens C es ρ S) := if_pos rfl
@[simp] theorem kMtB_rpart {es : List E} {x : W} : kMtB C .rpart x es ρ (some "str") S = kMt2 .rpart x (dens C es ρ S) := if_pos rfl
@[simp] theorem kMtB_clear {es : List E} {x : W} : kMtB C .clear x es ρ (some "list") S = kMt2 .clear x (dens C es ρ S) := if_pos rfl
@[simp] theorem kMtB_index {es : List E} {x : W} : kMtB C .index x es ρ (some "list") S = kMt2 .index x (dens C es ρ S) := if_pos rfl
theorem mtW_up {ch : Nat} (h : 65 ≤ ch ∧ ch ≤ 90) : mtW .isupper (.str ⟨#[ch]⟩) [] S = .ok (.bl true) S := by simp only [mtW, if_pos h]
theorem mtW_low {ch : Nat} (h : 97 ≤ ch ∧ ch ≤ 122) : mtW .isupper (.str ⟨#[ch]⟩) [] S = .ok (.bl false) S := by
  simp only [mtW]
  rw [if_neg (by omega), if_pos (.inl h)]
theorem mtW_rpart {x : Str} {ch : Nat} {a b : List Nat} (h : rcut ch x.cps.toList = some (a, b)) : mtW .rpart (.str x) [.str ⟨#[ch]⟩] S = .ok (.tup [.str ⟨a.toArray⟩, .str ⟨#[ch]⟩, .str ⟨b.toArray⟩]) S := by simp only [mtW, h]
@[simp] theorem den_mt {m : Mt} {o : E} {es : List E} : den C (.mt m o es) ρ S = kMt1 C m es ρ (den C o ρ S) := (rfl)
def kIx2 (x : W) (o : Out W) : Out W := o.bd fun y S2 => getW x y S2
def kIx1 (C : Cn) (i : E) (ρ : Rho) (o : Out W) : Out W := o.bd fun x S1 => kIx2 x (den C i ρ S1)
@[simp] theorem kIx2_ok {x y : W} : kIx2 x (.ok y S) = getW x y S := (rfl)
@[simp] theorem kIx1_ok {i : E} {x : W} : kIx1 C i ρ (.ok x S) = kIx2 x (den C i ρ S) := (rfl)
@[simp] theorem den_ix {o i : E} : den C (.ix o i) ρ S = kIx1 C i ρ (den C o ρ S) := (rfl)
def kGix (C : Cn) (x : Str) (o : Out W) : Out W := o.bd fun y S1 => (match y with
    | .str z => ofOpt (lkS z (C.gl.gd x)) S1
    | _ => .no)
@[simp] theorem kGix_ok {x z : Str} : kGix C x (.ok (.str z) S) = ofOpt (lkS z (C.gl.gd x)) S := (rfl)
@[simp] theorem den_gix {x : Str} {i : E} : den C (.gix x i) ρ S = kGix C x (den C i ρ S) := (rfl)
def kCalv (C : Cn) (es : List E) (ρ : Rho) (o : Option (Option W)) (S : Store) : Out W := match o with
    | some (some (.fn f)) => if C.has f then kCall C f (dens C es ρ S) else .no
    | _ => .no
theorem kCalv_ok {es : List E} {f : Str} (h : C.has f = true) : kCalv C es ρ (some (some (.fn f))) S = kCall C f (dens C es ρ S) := if_pos h
@[simp] theorem den_calv {i : Nat} {es : List E} : den C (.calv i es) ρ S = kCalv C es ρ (ρ[i]?) S := (rfl)
def kSl3 (fz : Bool) (x : W) (l : Option Int) (o : Out (Option Int)) : Out W := o.bd fun h S3 => sliceW fz x l h S3
def kSl2 (C : Cn) (fz : Bool) (x : W) (hi : Option E) (ρ : Rho) (o : Out (Option Int)) : Out W := o.bd fun l S2 => kSl3 fz x l (deno C hi ρ S2)
def kSl1 (C : Cn) (fz : Bool) (lo hi : Option E) (ρ : Rho) (o : Out W) : Out W := o.bd fun x S1 => kSl2 C fz x hi ρ (deno C lo ρ S1)
@[simp] theorem kSl3_ok {fz : Bool} {x : W} {l h : Option Int} : kSl3 fz x l (.ok h S) = sliceW fz x l h S := (rfl)
@[simp] theorem kSl2_ok {fz : Bool} {x : W} {l : Option Int} {hi : Option E} : kSl2 C fz x hi ρ (.ok l S) = kSl3 fz x l (deno C hi ρ S) := (rfl)
@[simp] theorem kSl1_ok {fz : Bool} {x : W} {lo hi : Option E} : kSl1 C fz lo hi ρ (.ok x S) = kSl2 C fz x hi ρ (deno C lo ρ S) := (rfl)
@[simp] theorem den_sl {fz : Bool} {o : E} {lo hi : Option E} : den C (.sl fz o lo hi) ρ S = kSl1 C fz lo hi ρ (den C o ρ S) := (rfl)
def kRev (fz : Bool) (o : Out W) : Out W := o.bd fun x S => revW fz x S
@[simp] theorem kRev_ok {fz : Bool} {x : W} : kRev fz (.ok x S) = revW fz x S := (rfl)
@[simp] theorem den_rev {fz : Bool} {o : E} : den C (.rev fz o) ρ S = kRev fz (den C o ρ S) := (rfl)
@[simp] theorem revW_tup {fz : Bool} {xs : List W} : revW fz (.tup xs) S = .ok (.tup xs.reverse) S := (rfl)
@[simp] theorem revW_lst {fz : Bool} {xs : List W} : revW fz (.lst xs) S = newL fz xs.reverse S := (rfl)
def kInt (o : Out W) : Out (Option Int) := o.bd fun x S1 => (match x with
    | .int i => .ok (some i) S1
    | _ => .no)
@[simp] theorem kInt_ok {i : Int} : kInt (.ok (.int i) S) = .ok (some i) S := (rfl)
@[simp] theorem deno_none : deno C none ρ S = .ok none S := (rfl)
@[simp] theorem deno_some {e : E} : deno C (some e) ρ S = kInt (den C e ρ S) := (rfl)
def kDens2 (x : W) (o : Out (List W)) : Out (List W) := o.bd fun xs S2 => .ok (x :: xs) S2
def kDens1 (C : Cn) (es : List E) (ρ : Rho) (o : Out W) : Out (List W) := o.bd fun x S1 => kDens2 x (dens C es ρ S1)
@[simp] theorem kDens2_ok {x : W} {xs : List W} : kDens2 x (.ok xs S) = .ok (x :: xs) S := (rfl)
@[simp] theorem kDens1_ok {x : W} {es : List E} : kDens1 C es ρ (.ok x S) = kDens2 x (dens C es ρ S) := (rfl)
@[simp] theorem dens_nil : dens C [] ρ S = .ok [] S := (rfl)
@[simp] theorem dens_cons {e : E} {es : List E} : dens C (e :: es) ρ S = kDens1 C es ρ (den C e ρ S) := (rfl)
def kFrz (o : Out W) : Out W := o.bd fun x S1 => (match x with
    | .loc l => (match S1[l]? with
      | some (some (.lst xs)) => .ok (.lst xs) (S1.set l none)
      | _ => .no)
    | _ => .no)
@[simp] theorem den_frz {e : E} : den C (.frz e) ρ S = kFrz (den C e ρ S) := (rfl)
theorem kFrz_ok {l : Nat} {xs : List W} (h : S[l]? = some (some (.lst xs))) : kFrz (.ok (.loc l) S) = .ok (.lst xs) (S.set l none) := by
  simp only [kFrz, Out.bd_ok, h]
/-! ### comprehensions -/
def lcT (C : Cn) (own : List Nat) (t : Tg) (ifs : List T) (e : E) (ρ : Rho) (xs acc : List W) (S : Store) : Out (List W) :=
  turns (fun x acc S2 => (ofOpt (tgW t x (wipeR ρ own)) S2).bd fun ρ2 S2 => (ands C ifs ρ2 S2).noex.bd fun b S3 => if b then (den C e ρ2 S3).noex.bd fun y S4 => push acc y S4 else .ok acc S3) xs acc S
def kLc (C : Cn) (fz : Bool) (own : List Nat) (t : Tg) (ifs : List T) (e : E) (ρ : Rho) (o : Out (List W)) : Out W := o.bd fun xs S1 => kLst fz (lcT C own t ifs e ρ xs [] S1)
@[simp] theorem kLc_ok {fz : Bool} {own : List Nat} {t : Tg} {ifs : List T} {e : E} {xs : List W} : kLc C fz own t ifs e ρ (.ok xs S) = kLst fz (lcT C own t ifs e ρ xs [] S) := (rfl)
@[simp] theorem den_lc {fz : Bool} {own : List Nat} {t : Tg} {it : I} {ifs : List T} {e : E} : den C (.lc fz own t it ifs e) ρ S = kLc C fz own t ifs e ρ (itr C it ρ S) := (rfl)
def kPush (acc : List W) (o : Out W) : Out (List W) := o.noex.bd fun y S => push acc y S
@[simp] theorem kPush_ok {acc : List W} {y : W} (h : acc.length < line) : kPush acc (.ok y S) = .ok (acc ++ [y]) S := by
  show push acc y S = _
  exact if_pos h
def kLcB (C : Cn) (e : E) (ρ : Rho) (acc : List W) (b : Bool) (S : Store) : Out (List W) := if b then kPush acc (den C e ρ S) else .ok acc S
@[simp] theorem kLcB_t {e : E} {acc : List W} : kLcB C e ρ acc true S = kPush acc (den C e ρ S) := (rfl)
@[simp] theorem kLcB_f {e : E} {acc : List W} : kLcB C e ρ acc false S = .ok acc S := (rfl)
def kLcI (C : Cn) (e : E) (ρ : Rho) (acc : List W) (o : Out Bool) : Out (List W) := o.noex.bd fun b S => kLcB C e ρ acc b S
@[simp] theorem kLcI_ok {e : E} {acc : List W} {b : Bool} : kLcI C e ρ acc (.ok b S) = kLcB C e ρ acc b S := (rfl)
def kLcTg (C : Cn) (ifs : List T) (e : E) (acc : List W) (o : Option Rho) (S : Store) : Out (List W) := (ofOpt o S).bd fun ρ2 S2 => kLcI C e ρ2 acc (ands C ifs ρ2 S2)
@[simp] theorem kLcTg_some {ifs : List T} {e : E} {acc : List W} : kLcTg C ifs e acc (some ρ) S = kLcI C e ρ acc (ands C ifs ρ S) := (rfl)
def kLcN (C : Cn) (own : List Nat) (t : Tg) (ifs : List T) (e : E) (ρ : Rho) (xs : List W) (o : Out (List W)) : Out (List W) := o.bd fun acc S => lcT C own t ifs e ρ xs acc S
@[simp] theorem kLcN_ok {own : List Nat} {t : Tg} {ifs : List T} {e : E} {xs acc : List W} : kLcN C own t ifs e ρ xs (.ok acc S) = lcT C own t ifs e ρ xs acc S := (rfl)
@[simp] theorem lcT_nil {own : List Nat} {t : Tg} {ifs : List T} {e : E} {acc : List W} : lcT C own t ifs e ρ [] acc S = .ok acc S := (rfl)
theorem lcT_cons {own : List Nat} {t : Tg} {ifs : List T} {e : E} {x : W} {xs acc : List W} : lcT C own t ifs e ρ (x :: xs) acc S = kLcN C own t ifs e ρ xs (kLcTg C ifs e acc (tgW t x (wipeR ρ own)) S) := (rfl)
def lc2T (C : Cn) (own : List Nat) (t : Tg) (ifs : List T) (own1 : List Nat) (t1 : Tg) (it1 : I) (ifs1 : List T) (e : E) (ρ : Rho) (xs acc : List W) (S : Store) : Out (List W) :=
  turns (fun x acc S2 => (ofOpt (tgW t x (wipeR ρ own)) S2).bd fun ρ2 S2 => (ands C ifs ρ2 S2).noex.bd fun b S3 => if b then (itr C it1 ρ2 S3).noex.bd fun zs S4 =>
        turns (fun z acc S5 => (ofOpt (tgW t1 z (wipeR ρ2 own1)) S5).bd fun ρ3 S5 => (ands C ifs1 ρ3 S5).noex.bd fun b S6 => if b then (den C e ρ3 S6).noex.bd fun y S7 => push acc y S7 else .ok acc S6) zs acc S4 else .ok acc S3) xs acc S
def kLc2 (C : Cn) (fz : Bool) (own : List Nat) (t : Tg) (ifs : List T) (own1 : List Nat) (t1 : Tg) (it1 : I) (ifs1 : List T) (e : E) (ρ : Rho) (o : Out (List W)) : Out W := o.bd fun xs S1 => kLst fz (lc2T C own t ifs own1 t1 it1 ifs1 e ρ xs [] S1)
section
variable {fz : Bool} {own own1 : List Nat} {t t1 : Tg} {ifs ifs1 : List T} {it it1 : I} {e : E} {xs acc zs : List W} {x : W} {b : Bool}
@[simp] theorem den_lc2 : den C (.lc2 fz own t it ifs own1 t1 it1 ifs1 e) ρ S = kLc2 C fz own t ifs own1 t1 it1 ifs1 e ρ (itr C it ρ S) := (rfl)
@[simp] theorem kLc2_ok : kLc2 C fz own t ifs own1 t1 it1 ifs1 e ρ (.ok xs S) = kLst fz (lc2T C own t ifs own1 t1 it1 ifs1 e ρ xs [] S) := (rfl)
def kLc2J (C : Cn) (own1 : List Nat) (t1 : Tg) (ifs1 : List T) (e : E) (ρ : Rho) (acc : List W) (o : Out (List W)) : Out (List W) := o.noex.bd fun zs S => lcT C own1 t1 ifs1 e ρ zs acc S
@[simp] theorem kLc2J_ok : kLc2J C own1 t1 ifs1 e ρ acc (.ok zs S) = lcT C own1 t1 ifs1 e ρ zs acc S := (rfl)
def kLc2B (C : Cn) (own1 : List Nat) (t1 : Tg) (it1 : I) (ifs1 : List T) (e : E) (ρ : Rho) (acc : List W) (b : Bool) (S : Store) : Out (List W) := if b then kLc2J C own1 t1 ifs1 e ρ acc (itr C it1 ρ S) else .ok acc S
@[simp] theorem kLc2B_t : kLc2B C own1 t1 it1 ifs1 e ρ acc true S = kLc2J C own1 t1 ifs1 e ρ acc (itr C it1 ρ S) := (rfl)
@[simp] theorem kLc2B_f : kLc2B C own1 t1 it1 ifs1 e ρ acc false S = .ok acc S := (rfl)
def kLc2I (C : Cn) (own1 : List Nat) (t1 : Tg) (it1 : I) (ifs1 : List T) (e : E) (ρ : Rho) (acc : List W) (o : Out Bool) : Out (List W) := o.noex.bd fun b S => kLc2B C own1 t1 it1 ifs1 e ρ acc b S
@[simp] theorem kLc2I_ok : kLc2I C own1 t1 it1 ifs1 e ρ acc (.ok b S) = kLc2B C own1 t1 it1 ifs1 e ρ acc b S := (rfl)
def kLc2Tg (C : Cn) (ifs : List T) (own1 : List Nat) (t1 : Tg) (it1 : I) (ifs1 : List T) (e : E) (acc : List W) (o : Option Rho) (S : Store) : Out (List W) := (ofOpt o S).bd fun ρ2 S2 => kLc2I C own1 t1 it1 ifs1 e ρ2 acc (ands C ifs ρ2 S2)
@[simp] theorem kLc2Tg_some : kLc2Tg C ifs own1 t1 it1 ifs1 e acc (some ρ) S = kLc2I C own1 t1 it1 ifs1 e ρ acc (ands C ifs ρ S) := (rfl)
def kLc2N (C : Cn) (own : List Nat) (t : Tg) (ifs : List T) (own1 : List Nat) (t1 : Tg) (it1 : I) (ifs1 : List T) (e : E) (ρ : Rho) (xs : List W) (o : Out (List W)) : Out (List W) := o.bd fun acc S => lc2T C own t ifs own1 t1 it1 ifs1 e ρ xs acc S
@[simp] theorem kLc2N_ok : kLc2N C own t ifs own1 t1 it1 ifs1 e ρ xs (.ok acc S) = lc2T C own t ifs own1 t1 it1 ifs1 e ρ xs acc S := (rfl)
@[simp] theorem lc2T_nil : lc2T C own t ifs own1 t1 it1 ifs1 e ρ [] acc S = .ok acc S := (rfl)
theorem lc2T_cons : lc2T C own t ifs own1 t1 it1 ifs1 e ρ (x :: xs) acc S = kLc2N C own t ifs own1 t1 it1 ifs1 e ρ xs (kLc2Tg C ifs own1 t1 it1 ifs1 e acc (tgW t x (wipeR ρ own)) S) := (rfl)
end
/-! ### targets -/
@[simp] theorem tgW_nm {i : Nat} {w : W} : tgW (.nm i) w ρ = some (ρ.set i (some w)) := (rfl)
@[simp] theorem tgW_tp {ts : List Tg} {xs : List W} : tgW (.tp ts) (.tup xs) ρ = tgsW ts xs ρ := (rfl)
@[simp] theorem tgsW_nil : tgsW [] [] ρ = some ρ := (rfl)
@[simp] theorem tgsW_nm {i : Nat} {ts : List Tg} {x : W} {xs : List W} : tgsW (.nm i :: ts) (x :: xs) ρ = tgsW ts xs (ρ.set i (some x)) := (rfl)
@[simp] theorem wipeR_nil : wipeR ρ [] = ρ := (rfl)
@[simp] theorem wipeR_cons {v : Nat} {vs : List Nat} : wipeR ρ (v :: vs) = (wipeR ρ vs).set v none := (rfl)
/-! ### tests -/
@[simp] theorem tst_val {e : E} : tst C (.val e) ρ S = kTru (den C e ρ S) := (rfl)
def kNotT (o : Out Bool) : Out Bool := o.bd fun b S => .ok (!b) S
@[simp] theorem kNotT_ok {b : Bool} : kNotT (.ok b S) = .ok (!b) S := (rfl)
@[simp] theorem tst_not {t : T} : tst C (.not t) ρ S = kNotT (tst C t ρ S) := (rfl)
@[simp] theorem tst_and {ts : List T} : tst C (.and ts) ρ S = ands C ts ρ S := (rfl)
@[simp] theorem tst_or {ts : List T} : tst C (.or ts) ρ S = ors C ts ρ S := (rfl)
@[simp] theorem tst_cmp {op : CmpOp} {a b : E} : tst C (.cmp op a b) ρ S = kCmp1 C op b ρ (den C a ρ S) := (rfl)
def kAnds1 (C : Cn) (ts : List T) (ρ : Rho) (b : Bool) (S : Store) : Out Bool := if b then ands C ts ρ S else .ok false S
@[simp] theorem kAnds1_t {ts : List T} : kAnds1 C ts ρ true S = ands C ts ρ S := (rfl)
@[simp] theorem kAnds1_f {ts : List T} : kAnds1 C ts ρ false S = .ok false S := (rfl)
def kAnds (C : Cn) (ts : List T) (ρ : Rho) (o : Out Bool) : Out Bool := o.bd fun b S => kAnds1 C ts ρ b S
@[simp] theorem kAnds_ok {ts : List T} {b : Bool} : kAnds C ts ρ (.ok b S) = kAnds1 C ts ρ b S := (rfl)
@[simp] theorem ands_nil : ands C [] ρ S = .ok true S := (rfl)
@[simp] theorem ands_cons {t : T} {ts : List T} : ands C (t :: ts) ρ S = kAnds C ts ρ (tst C t ρ S) := (rfl)
def kOrs1 (C : Cn) (ts : List T) (ρ : Rho) (b : Bool) (S : Store) : Out Bool := if b then .ok true S else ors C ts ρ S
@[simp] theorem kOrs1_t {ts : List T} : kOrs1 C ts ρ true S = .ok true S := (rfl)
@[simp] theorem kOrs1_f {ts : List T} : kOrs1 C ts ρ false S = ors C ts ρ S := (rfl)
def kOrs (C : Cn) (ts : List T) (ρ : Rho) (o : Out Bool) : Out Bool := o.bd fun b S => kOrs1 C ts ρ b S
@[simp] theorem kOrs_ok {ts : List T} {b : Bool} : kOrs C ts ρ (.ok b S) = kOrs1 C ts ρ b S := (rfl)
@[simp] theorem ors_nil : ors C [] ρ S = .ok false S := (rfl)
@[simp] theorem ors_cons {t : T} {ts : List T} : ors C (t :: ts) ρ S = kOrs C ts ρ (tst C t ρ S) := (rfl)
/-! ### iterables -/
def kSeq (o : Out W) : Out (List W) := o.bd fun x S => ofOpt (frozenW x) S
@[simp] theorem kSeq_ok {x : W} : kSeq (.ok x S) = ofOpt (frozenW x) S := (rfl)
@[simp] theorem itr_seq {e : E} : itr C (.seq e) ρ S = kSeq (den C e ρ S) := (rfl)
def kRng (o : Out W) : Out (List W) := o.bd fun x S1 => (match x with
    | .int j => if small62 j then .ok (rangeW 0 j) S1 else .no
    | _ => .no)
@[simp] theorem itr_rng1 {e : E} : itr C (.rng1 e) ρ S = kRng (den C e ρ S) := (rfl)
theorem kRng_ok {j : Int} (h : small62 j) : kRng (.ok (.int j) S) = .ok (rangeW 0 j) S := if_pos h
def kRng2b (x : W) (o : Out W) : Out (List W) := o.bd fun y S2 => (match x, y with
    | .int i, .int j => .ok (rangeW i j) S2
    | _, _ => .no)
@[simp] theorem kRng2b_ok {i j : Int} : kRng2b (.int i) (.ok (.int j) S) = .ok (rangeW i j) S := (rfl)
def kRng2a (C : Cn) (b : E) (ρ : Rho) (o : Out W) : Out (List W) := o.bd fun x S1 => kRng2b x (den C b ρ S1)
@[simp] theorem kRng2a_ok {b : E} {x : W} : kRng2a C b ρ (.ok x S) = kRng2b x (den C b ρ S) := (rfl)
def kRngdb (x : W) (o : Out W) : Out (List W) := o.bd fun y S2 => (match x, y with
    | .int i, .int j => if small62 i ∧ small62 j then .ok (rangeD i j) S2 else .no
    | _, _ => .no)
@[simp] theorem kRngdb_ok {i j : Int} : kRngdb (.int i) (.ok (.int j) S) = if small62 i ∧ small62 j then .ok (rangeD i j) S else .no := (rfl)
def kRngda (C : Cn) (b : E) (ρ : Rho) (o : Out W) : Out (List W) := o.bd fun x S1 => kRngdb x (den C b ρ S1)
@[simp] theorem kRngda_ok {b : E} {x : W} : kRngda C b ρ (.ok x S) = kRngdb x (den C b ρ S) := (rfl)
@[simp] theorem itr_rngd {a b : E} : itr C (.rngd a b) ρ S = kRngda C b ρ (den C a ρ S) := (rfl)
@[simp] theorem itr_rng2 {a b : E} : itr C (.rng2 a b) ρ S = kRng2a C b ρ (den C a ρ S) := (rfl)
def kZp2 (x : W) (o : Out W) : Out (List W) := o.bd fun y S2 => (match x, y with
    | .lst xs, .lst ys => .ok (zipW xs ys) S2
    | .tup xs, .tup ys => .ok (zipW xs ys) S2
    | _, _ => .no)
@[simp] theorem kZp2_l {xs ys : List W} : kZp2 (.lst xs) (.ok (.lst ys) S) = .ok (zipW xs ys) S := (rfl)
@[simp] theorem kZp2_t {xs ys : List W} : kZp2 (.tup xs) (.ok (.tup ys) S) = .ok (zipW xs ys) S := (rfl)
def kZp1 (C : Cn) (b : E) (ρ : Rho) (o : Out W) : Out (List W) := o.bd fun x S1 => kZp2 x (den C b ρ S1)
@[simp] theorem kZp1_ok {b : E} {x : W} : kZp1 C b ρ (.ok x S) = kZp2 x (den C b ρ S) := (rfl)
@[simp] theorem itr_zip {a b : E} : itr C (.zip a b) ρ S = kZp1 C b ρ (den C a ρ S) := (rfl)
/-! ### dicts, max with default -/
def kDicO (o : Option (Option Ob)) : Option (List (Key × W)) := match o with
    | some (some (.dic kvs)) => some kvs
    | _ => none
@[simp] theorem kDicO_some {kvs : List (Key × W)} : kDicO (some (some (.dic kvs))) = some kvs := (rfl)
@[simp] theorem dicW_loc {l : Nat} : dicW S (.loc l) = kDicO (S[l]?) := (rfl)
@[simp] theorem den_dnew : den C .dnew ρ S = .ok (.loc S.length) (S ++ [some (.dic [])]) := (rfl)
def kDl (o : Out (List (Key × W))) : Out W := o.bd fun kvs S1 => if kvs.length ≤ 15 then .ok (.loc S1.length) (S1 ++ [some (.dic (dmerge [] kvs))]) else .no
@[simp] theorem kDl_ok {kvs : List (Key × W)} (h : kvs.length ≤ 15) : kDl (.ok kvs S) = .ok (.loc S.length) (S ++ [some (.dic (dmerge [] kvs))]) := if_pos h
@[simp] theorem den_dlit {ps : List E} : den C (.dlit ps) ρ S = kDl (dprs C ps ρ S) := (rfl)
def kDp3 (k : Key) (y : W) (o : Out (List (Key × W))) : Out (List (Key × W)) := o.bd fun r S3 => .ok ((k, y) :: r) S3
@[simp] theorem kDp3_ok {k : Key} {y : W} {r : List (Key × W)} : kDp3 k y (.ok r S) = .ok ((k, y) :: r) S := (rfl)
def kDp2 (C : Cn) (r : List E) (ρ : Rho) (x : W) (o : Out W) : Out (List (Key × W)) := o.noex.bd fun y S2 => (match keyW x with
    | some kk => kDp3 kk y (dprs C r ρ S2)
    | none => .no)
@[simp] theorem kDp2_s {r : List E} {x : Str} {y : W} : kDp2 C r ρ (.str x) (.ok y S) = kDp3 (.inr x) y (dprs C r ρ S) := (rfl)
@[simp] theorem kDp2_i {r : List E} {x : Int} {y : W} : kDp2 C r ρ (.int x) (.ok y S) = kDp3 (.inl x) y (dprs C r ρ S) := (rfl)
def kDp1 (C : Cn) (v : E) (r : List E) (ρ : Rho) (o : Out W) : Out (List (Key × W)) := o.noex.bd fun x S1 => kDp2 C r ρ x (den C v ρ S1)
@[simp] theorem kDp1_ok {v : E} {r : List E} {x : W} : kDp1 C v r ρ (.ok x S) = kDp2 C r ρ x (den C v ρ S) := (rfl)
@[simp] theorem dprs_nil : dprs C [] ρ S = .ok [] S := (rfl)
@[simp] theorem dprs_cons {k v : E} {r : List E} : dprs C (k :: v :: r) ρ S = kDp1 C v r ρ (den C k ρ S) := (rfl)
def kDict (o : Option (List (Key × W))) (S : Store) : Out W := match o with
    | some kvs => .ok (.loc S.length) (S ++ [some (.dic kvs)])
    | none => .no
@[simp] theorem kDict_some {kvs : List (Key × W)} : kDict (some kvs) S = .ok (.loc S.length) (S ++ [some (.dic kvs)]) := (rfl)
@[simp] theorem biW_dictOf {v : W} : biW .dictOf [v] S = kDict (dicW S v) S := (rfl)
def kDg3 (u y z : W) (S : Store) : Out W := match dicW S u, keyW y with
      | some kvs, some k => .ok ((dget k kvs).getD z) S
      | _, _ => .no
theorem kDg3_s {u z : W} {x : Str} {kvs : List (Key × W)} (h : dicW S u = some kvs) : kDg3 u (.str x) z S = .ok ((dget (.inr x) kvs).getD z) S := by simp only [kDg3, h, keyW]
theorem kDg3_i {u z : W} {x : Int} {kvs : List (Key × W)} (h : dicW S u = some kvs) : kDg3 u (.int x) z S = .ok ((dget (.inl x) kvs).getD z) S := by simp only [kDg3, h, keyW]
def kDg2 (u y : W) (o : Out W) : Out W := o.bd fun z S3 => kDg3 u y z S3
@[simp] theorem kDg2_ok {u y z : W} : kDg2 u y (.ok z S) = kDg3 u y z S := (rfl)
def kDg1 (C : Cn) (u : W) (x : E) (ρ : Rho) (o : Out W) : Out W := o.bd fun y S2 => kDg2 u y (den C x ρ S2)
@[simp] theorem kDg1_ok {u y : W} {x : E} : kDg1 C u x ρ (.ok y S) = kDg2 u y (den C x ρ S) := (rfl)
def kDg0 (C : Cn) (i x : E) (ρ : Rho) (u : W) (o : Option (List (Key × W))) (S : Store) : Out W := match o with
    | none => .no
    | some _ => kDg1 C u x ρ (den C i ρ S)
@[simp] theorem kDg0_some {i x : E} {u : W} {kvs : List (Key × W)} : kDg0 C i x ρ u (some kvs) S = kDg1 C u x ρ (den C i ρ S) := (rfl)
def kDg (C : Cn) (i x : E) (ρ : Rho) (o : Out W) : Out W := o.bd fun u S1 => kDg0 C i x ρ u (dicW S1 u) S1
@[simp] theorem kDg_ok {i x : E} {u : W} : kDg C i x ρ (.ok u S) = kDg0 C i x ρ u (dicW S u) S := (rfl)
@[simp] theorem den_dg2 {o i x : E} : den C (.dg2 o i x) ρ S = kDg C i x ρ (den C o ρ S) := by
  simp only [den, kDg] <;> rfl
def kMx3 (o : Option (List Int)) (j : Int) (S : Store) : Out W := match o with
      | some [] => .ok (.int j) S
      | some (n :: ns) => .ok (.int (maxI (n :: ns))) S
      | none => .no
@[simp] theorem kMx3_nil {j : Int} : kMx3 (some []) j S = .ok (.int j) S := (rfl)
@[simp] theorem kMx3_cons {j n : Int} {ns : List Int} : kMx3 (some (n :: ns)) j S = .ok (.int (maxI (n :: ns))) S := (rfl)
def kMx2 (x : W) (o : Out W) : Out W := o.bd fun y S2 => (match x, y with
    | .lst xs, .int j => (match intsOf xs with
      | some [] => .ok (.int j) S2
      | some (n :: ns) => .ok (.int (maxI (n :: ns))) S2
      | none => .no)
    | _, _ => .no)
@[simp] theorem kMx2_ok {xs : List W} {j : Int} : kMx2 (.lst xs) (.ok (.int j) S) = kMx3 (intsOf xs) j S := (rfl)
def kMx1 (C : Cn) (d : E) (ρ : Rho) (o : Out W) : Out W := o.bd fun x S1 => kMx2 x (den C d ρ S1)
@[simp] theorem kMx1_ok {d : E} {x : W} : kMx1 C d ρ (.ok x S) = kMx2 x (den C d ρ S) := (rfl)
@[simp] theorem den_maxd {a d : E} : den C (.maxd a d) ρ S = kMx1 C d ρ (den C a ρ S) := (rfl)
/-! ### statements -/
def kTg (o : Option Rho) (S : Store) : Out Fl := match o with
  | some ρ => .ok (.nx ρ) S
  | none => .no
@[simp] theorem kTg_some : kTg (some ρ) S = .ok (.nx ρ) S := (rfl)
def kAsg (t : Tg) (ρ : Rho) (o : Out W) : Out Fl := o.bd fun x S => kTg (tgW t x ρ) S
@[simp] theorem kAsg_ok {t : Tg} {x : W} : kAsg t ρ (.ok x S) = kTg (tgW t x ρ) S := (rfl)
@[simp] theorem exe_asg {t : Tg} {e : E} : exe C (.asg t e) ρ S = kAsg t ρ (den C e ρ S) := by
  show Out.bd _ _ = Out.bd _ _
  congr 1; funext x S1
  cases tgW t x ρ <;> rfl
def kSt3 (ts : List Tg) (i : Nat) (xs : List W) (o : Option Rho) (S : Store) : Out Fl := match o with
    | some ρ' => .ok (.nx (ρ'.set i (some (.lst (xs.drop ts.length))))) S
    | none => .no
@[simp] theorem kSt3_some {ts : List Tg} {i : Nat} {xs : List W} {ρ' : Rho} : kSt3 ts i xs (some ρ') S = .ok (.nx (ρ'.set i (some (.lst (xs.drop ts.length))))) S := (rfl)
def kSt2 (ts : List Tg) (i : Nat) (ρ : Rho) (o : Option (List W)) (S : Store) : Out Fl := match o with
    | some xs => if ts.length ≤ xs.length then kSt3 ts i xs (tgsW ts (xs.take ts.length) ρ) S else .no
    | none => .no
@[simp] theorem kSt2_some {ts : List Tg} {i : Nat} {xs : List W} (h : ts.length ≤ xs.length) : kSt2 ts i ρ (some xs) S = kSt3 ts i xs (tgsW ts (xs.take ts.length) ρ) S := if_pos h
def kSt1 (ts : List Tg) (i : Nat) (ρ : Rho) (o : Out W) : Out Fl := o.bd fun x S1 => kSt2 ts i ρ (seqW S1 x) S1
@[simp] theorem kSt1_ok {ts : List Tg} {i : Nat} {x : W} : kSt1 ts i ρ (.ok x S) = kSt2 ts i ρ (seqW S x) S := (rfl)
@[simp] theorem exe_asgS {ts : List Tg} {i : Nat} {e : E} : exe C (.asgS ts i e) ρ S = kSt1 ts i ρ (den C e ρ S) := by
  simp only [exe, kSt1]
  congr 1
  funext x S1
  cases h : seqW S1 x with
  | none => rfl
  | some xs =>
    simp only [kSt2]
    split
    · cases tgsW ts (xs.take ts.length) ρ <;> rfl
    · rfl
def kPar2 (i j : Nat) (x : W) (ρ : Rho) (o : Out W) : Out Fl := o.bd fun y S2 => .ok (.nx ((ρ.set i (some x)).set j (some y))) S2
def kPar1 (C : Cn) (i j : Nat) (b : E) (ρ : Rho) (o : Out W) : Out Fl := o.bd fun x S1 => kPar2 i j x ρ (den C b ρ S1)
@[simp] theorem kPar2_ok {i j : Nat} {x y : W} : kPar2 i j x ρ (.ok y S) = .ok (.nx ((ρ.set i (some x)).set j (some y))) S := (rfl)
@[simp] theorem kPar1_ok {i j : Nat} {b : E} {x : W} : kPar1 C i j b ρ (.ok x S) = kPar2 i j x ρ (den C b ρ S) := (rfl)
@[simp] theorem exe_par {i j : Nat} {a b : E} : exe C (.par i j a b) ρ S = kPar1 C i j b ρ (den C a ρ S) := (rfl)
def kSub3 (x v : W) (ρ : Rho) (o : Out W) : Out Fl := o.bd fun k S3 => kSet ρ (setW x k v S3)
def kSub2 (C : Cn) (i : E) (v : W) (ρ : Rho) (o : Out W) : Out Fl := o.bd fun x S2 => kSub3 x v ρ (den C i ρ S2)
def kSub1 (C : Cn) (o i : E) (ρ : Rho) (p : Out W) : Out Fl := p.bd fun v S1 => kSub2 C i v ρ (den C o ρ S1)
@[simp] theorem kSub3_ok {x v k : W} : kSub3 x v ρ (.ok k S) = kSet ρ (setW x k v S) := (rfl)
@[simp] theorem kSub2_ok {i : E} {v x : W} : kSub2 C i v ρ (.ok x S) = kSub3 x v ρ (den C i ρ S) := (rfl)
@[simp] theorem kSub1_ok {o i : E} {v : W} : kSub1 C o i ρ (.ok v S) = kSub2 C i v ρ (den C o ρ S) := (rfl)
@[simp] theorem exe_sub {o i e : E} : exe C (.sub o i e) ρ S = kSub1 C o i ρ (den C e ρ S) := (rfl)
def kAug2 (i : Nat) (ρ : Rho) (o : Out W) : Out Fl := o.bd fun z S3 => .ok (.nx (ρ.set i (some z))) S3
def kAug1 (i : Nat) (op : Operator) (ρ : Rho) (x : W) (o : Out W) : Out Fl := o.bd fun y S2 => kAug2 i ρ (augW op x y S2)
def kAug0 (C : Cn) (i : Nat) (op : Operator) (e : E) (ρ : Rho) (o : Option (Option W)) (S : Store) : Out Fl := match o with
  | some (some x) => kAug1 i op ρ x (den C e ρ S)
  | _ => .no
@[simp] theorem kAug2_ok {i : Nat} {z : W} : kAug2 i ρ (.ok z S) = .ok (.nx (ρ.set i (some z))) S := (rfl)
@[simp] theorem kAug1_ok {i : Nat} {op : Operator} {x y : W} : kAug1 i op ρ x (.ok y S) = kAug2 i ρ (augW op x y S) := (rfl)
@[simp] theorem kAug0_ok {i : Nat} {op : Operator} {e : E} {x : W} : kAug0 C i op e ρ (some (some x)) S = kAug1 i op ρ x (den C e ρ S) := (rfl)
@[simp] theorem exe_aug {i : Nat} {op : Operator} {e : E} : exe C (.aug i op e) ρ S = kAug0 C i op e ρ (ρ[i]?) S := (rfl)
@[simp] theorem augW_add {i j : Int} : augW .Add (.int i) (.int j) S = .ok (.int (i + j)) S := (rfl)
@[simp] theorem augW_tup {a b : List W} (h : a.length + b.length ≤ 16777216) : augW .Add (.tup a) (.tup b) S = .ok (.tup (a ++ b)) S := if_pos h
@[simp] theorem augW_sub {i j : Int} : augW .Sub (.int i) (.int j) S = .ok (.int (i - j)) S := (rfl)
def kRet (o : Out W) : Out Fl := o.bd fun x S => .ok (.rt x) S
@[simp] theorem kRet_ok {x : W} : kRet (.ok x S) = .ok (.rt x) S := (rfl)
@[simp] theorem exe_ret {e : E} : exe C (.ret e) ρ S = kRet (den C e ρ S) := (rfl)
@[simp] theorem exe_retN : exe C .retN ρ S = .ok (.rt .non) S := (rfl)
def kExpr (ρ : Rho) (o : Out W) : Out Fl := o.bd fun _ S => .ok (.nx ρ) S
@[simp] theorem kExpr_ok {x : W} : kExpr ρ (.ok x S) = .ok (.nx ρ) S := (rfl)
@[simp] theorem exe_expr {e : E} : exe C (.expr e) ρ S = kExpr ρ (den C e ρ S) := (rfl)
def kIfB (C : Cn) (a b : List Sm) (ρ : Rho) (t : Bool) (S : Store) : Out Fl := if t then exes C a ρ S else exes C b ρ S
@[simp] theorem kIfB_t {a b : List Sm} : kIfB C a b ρ true S = exes C a ρ S := (rfl)
@[simp] theorem kIfB_f {a b : List Sm} : kIfB C a b ρ false S = exes C b ρ S := (rfl)
def kIf (C : Cn) (a b : List Sm) (ρ : Rho) (o : Out Bool) : Out Fl := o.bd fun t S => kIfB C a b ρ t S
@[simp] theorem kIf_ok {a b : List Sm} {t : Bool} : kIf C a b ρ (.ok t S) = kIfB C a b ρ t S := (rfl)
@[simp] theorem exe_ife {c : T} {a b : List Sm} : exe C (.ife c a b) ρ S = kIf C a b ρ (tst C c ρ S) := (rfl)
def kS (C : Cn) (r : List Sm) (o : Out Fl) : Out Fl := o.bd fun f S1 => match f with
    | .nx ρ' => exes C r ρ' S1
    | f => .ok f S1
@[simp] theorem kS_nx {r : List Sm} : kS C r (.ok (.nx ρ) S) = exes C r ρ S := (rfl)
@[simp] theorem kS_rt {r : List Sm} {w : W} : kS C r (.ok (.rt w) S) = .ok (.rt w) S := (rfl)
@[simp] theorem kS_bk {r : List Sm} : kS C r (.ok (.bk ρ) S) = .ok (.bk ρ) S := (rfl)
@[simp] theorem kS_ct {r : List Sm} : kS C r (.ok (.ct ρ) S) = .ok (.ct ρ) S := (rfl)
@[simp] theorem exes_nil : exes C [] ρ S = .ok (.nx ρ) S := (rfl)
@[simp] theorem exes_cons {s : Sm} {r : List Sm} : exes C (s :: r) ρ S = kS C r (exe C s ρ S) := (rfl)
/-- the first statements of a text, then the others -/
theorem exes_app {a b : List Sm} {ρ' : Rho} : ∀ {ρ : Rho} {S : Store}, exes C a ρ S = .ok (.nx ρ') S1 → exes C (a ++ b) ρ S = exes C b ρ' S1 := by
  induction a with
  | nil => intro ρ S h; cases h; rfl
  | cons s r ih =>
    intro ρ S h
    rw [List.cons_append, exes_cons]
    rw [exes_cons] at h
    rcases hh : exe C s ρ S with ⟨f, S2⟩ | _ | _
    · rw [hh] at h
      cases f with
      | nx ρ2 => rw [kS_nx] at h ⊢; exact ih h
      | _ => cases h
    · rw [hh] at h; cases h
    · rw [hh] at h; cases h
theorem exes_one {s : Sm} {r : List Sm} {ρ' : Rho} (h : exe C s ρ S = .ok (.nx ρ') S1) : exes C (s :: r) ρ S = exes C r ρ' S1 := by
  rw [exes_cons, h, kS_nx]
@[simp] theorem exe_brk : exe C .brk ρ S = .ok (.bk ρ) S := (rfl)
@[simp] theorem exe_cnt : exe C .cnt ρ S = .ok (.ct ρ) S := (rfl)
@[simp] theorem exe_pass : exe C .pass ρ S = .ok (.nx ρ) S := (rfl)
def forL (C : Cn) (t : Tg) (b : List Sm) (xs : List W) (ρ : Rho) (S : Store) : Out Fl := loops (fun x ρ1 S2 => (ofOpt (tgW t x ρ1) S2).bd fun ρ2 S2 => exes C b ρ2 S2) xs ρ S
def kFor (C : Cn) (t : Tg) (b : List Sm) (ρ : Rho) (o : Out (List W)) : Out Fl := o.bd fun xs S => forL C t b xs ρ S
@[simp] theorem kFor_ok {t : Tg} {b : List Sm} {xs : List W} : kFor C t b ρ (.ok xs S) = forL C t b xs ρ S := (rfl)
@[simp] theorem exe_for {t : Tg} {it : I} {b : List Sm} : exe C (.for t it b) ρ S = kFor C t b ρ (itr C it ρ S) := (rfl)
def kLoop (C : Cn) (t : Tg) (b : List Sm) (xs : List W) (o : Out Fl) : Out Fl := o.bd fun f S1 => match f with
    | .nx ρ' => forL C t b xs ρ' S1
    | .ct ρ' => forL C t b xs ρ' S1
    | .bk ρ' => .ok (.nx ρ') S1
    | .rt v => .ok (.rt v) S1
def kTgB (C : Cn) (b : List Sm) (o : Option Rho) (S : Store) : Out Fl := (ofOpt o S).bd fun ρ2 S2 => exes C b ρ2 S2
@[simp] theorem kTgB_some {b : List Sm} : kTgB C b (some ρ) S = exes C b ρ S := (rfl)
@[simp] theorem kLoop_nx {t : Tg} {b : List Sm} {xs : List W} : kLoop C t b xs (.ok (.nx ρ) S) = forL C t b xs ρ S := (rfl)
@[simp] theorem kLoop_ct {t : Tg} {b : List Sm} {xs : List W} : kLoop C t b xs (.ok (.ct ρ) S) = forL C t b xs ρ S := (rfl)
@[simp] theorem kLoop_bk {t : Tg} {b : List Sm} {xs : List W} : kLoop C t b xs (.ok (.bk ρ) S) = .ok (.nx ρ) S := (rfl)
@[simp] theorem kLoop_rt {t : Tg} {b : List Sm} {xs : List W} {w : W} : kLoop C t b xs (.ok (.rt w) S) = .ok (.rt w) S := (rfl)
@[simp] theorem forL_nil {t : Tg} {b : List Sm} : forL C t b [] ρ S = .ok (.nx ρ) S := (rfl)
theorem forL_cons {t : Tg} {b : List Sm} {x : W} {xs : List W} : forL C t b (x :: xs) ρ S = kLoop C t b xs (kTgB C b (tgW t x ρ) S) := (rfl)
/-- a loop whose turns all go through -/
theorem forL_inv {t : Tg} {b : List Sm} (I : List W → Rho → Store → Prop)
    (h : ∀ x xs ρ S, I (x :: xs) ρ S → ∃ ρ' S', kTgB C b (tgW t x ρ) S = .ok (.nx ρ') S' ∧ I xs ρ' S') :
    ∀ (xs : List W) (ρ : Rho) (S : Store), I xs ρ S → ∃ ρ' S', forL C t b xs ρ S = .ok (.nx ρ') S' ∧ I [] ρ' S' := by
  intro xs
  induction xs with
  | nil => intro ρ S h0; exact ⟨ρ, S, rfl, h0⟩
  | cons x xs ih =>
    intro ρ S h0
    obtain ⟨ρ', S', e, h1⟩ := h x xs ρ S h0
    obtain ⟨ρ2, S2, e2, h2⟩ := ih ρ' S' h1
    refine ⟨ρ2, S2, ?_, h2⟩
    rw [forL_cons, e, kLoop_nx, e2]
/-- a loop whose turns go through or return -/
theorem forL_rt {t : Tg} {b : List Sm} (I : List W → Rho → Store → Prop) (Q : W → Store → Prop)
    (h : ∀ x xs ρ S, I (x :: xs) ρ S → (∃ ρ' S', (kTgB C b (tgW t x ρ) S = .ok (.nx ρ') S' ∨ kTgB C b (tgW t x ρ) S = .ok (.ct ρ') S') ∧ I xs ρ' S') ∨ (∃ w S', kTgB C b (tgW t x ρ) S = .ok (.rt w) S' ∧ Q w S')) :
    ∀ (xs : List W) (ρ : Rho) (S : Store), I xs ρ S → (∃ ρ' S', forL C t b xs ρ S = .ok (.nx ρ') S' ∧ I [] ρ' S') ∨ (∃ w S', forL C t b xs ρ S = .ok (.rt w) S' ∧ Q w S') := by
  intro xs
  induction xs with
  | nil => intro ρ S h0; exact .inl ⟨ρ, S, rfl, h0⟩
  | cons x xs ih =>
    intro ρ S h0
    rcases h x xs ρ S h0 with ⟨ρ', S', e, h1⟩ | ⟨w, S', e, h1⟩
    · have e' : forL C t b (x :: xs) ρ S = forL C t b xs ρ' S' := by
        rcases e with e | e
        · rw [forL_cons, e, kLoop_nx]
        · rw [forL_cons, e, kLoop_ct]
      rw [e']
      exact ih ρ' S' h1
    · refine .inr ⟨w, S', ?_, h1⟩
      rw [forL_cons, e, kLoop_rt]
/-- a comprehension whose turns all go through -/
theorem lcT_inv {own : List Nat} {t : Tg} {ifs : List T} {e : E} (I : List W → List W → Store → Prop)
    (h : ∀ x xs acc S, I (x :: xs) acc S → ∃ acc' S', kLcTg C ifs e acc (tgW t x (wipeR ρ own)) S = .ok acc' S' ∧ I xs acc' S') :
    ∀ (xs acc : List W) (S : Store), I xs acc S → ∃ acc' S', lcT C own t ifs e ρ xs acc S = .ok acc' S' ∧ I [] acc' S' := by
  intro xs
  induction xs with
  | nil => intro acc S h0; exact ⟨acc, S, rfl, h0⟩
  | cons x xs ih =>
    intro acc S h0
    obtain ⟨ρ', S', e, h1⟩ := h x xs acc S h0
    obtain ⟨ρ2, S2, e2, h2⟩ := ih ρ' S' h1
    refine ⟨ρ2, S2, ?_, h2⟩
    rw [lcT_cons, e, kLcN_ok, e2]
@[simp] theorem rangeW_len {lo hi : Int} : (rangeW lo hi).length = (hi - lo).toNat := by simp [rangeW]
def whlL (C : Cn) (c : T) (b : List Sm) (n : Nat) (ρ : Rho) (S : Store) : Out Fl := whiles (fun ρ S => tst C c ρ S) (fun ρ S => exes C b ρ S) n ρ S
@[simp] theorem exe_whl {c : T} {b : List Sm} : exe C (.whl c b) ρ S = whlL C c b C.fuel ρ S := (rfl)
def kWhB (C : Cn) (c : T) (b : List Sm) (n : Nat) (o : Out Fl) : Out Fl := o.bd fun f S2 => (match f with
    | .nx ρ' => whlL C c b n ρ' S2
    | .ct ρ' => whlL C c b n ρ' S2
    | .bk ρ' => .ok (.nx ρ') S2
    | .rt v => .ok (.rt v) S2)
@[simp] theorem kWhB_nx {c : T} {b : List Sm} {n : Nat} : kWhB C c b n (.ok (.nx ρ) S) = whlL C c b n ρ S := (rfl)
@[simp] theorem kWhB_ct {c : T} {b : List Sm} {n : Nat} : kWhB C c b n (.ok (.ct ρ) S) = whlL C c b n ρ S := (rfl)
@[simp] theorem kWhB_bk {c : T} {b : List Sm} {n : Nat} : kWhB C c b n (.ok (.bk ρ) S) = .ok (.nx ρ) S := (rfl)
@[simp] theorem kWhB_rt {c : T} {b : List Sm} {n : Nat} {w : W} : kWhB C c b n (.ok (.rt w) S) = .ok (.rt w) S := (rfl)
def kWhT (C : Cn) (c : T) (b : List Sm) (n : Nat) (ρ : Rho) (t : Bool) (S : Store) : Out Fl := if t then kWhB C c b n (exes C b ρ S) else .ok (.nx ρ) S
@[simp] theorem kWhT_t {c : T} {b : List Sm} {n : Nat} : kWhT C c b n ρ true S = kWhB C c b n (exes C b ρ S) := (rfl)
@[simp] theorem kWhT_f {c : T} {b : List Sm} {n : Nat} : kWhT C c b n ρ false S = .ok (.nx ρ) S := (rfl)
def kWh (C : Cn) (c : T) (b : List Sm) (n : Nat) (ρ : Rho) (o : Out Bool) : Out Fl := o.bd fun t S => kWhT C c b n ρ t S
@[simp] theorem kWh_ok {c : T} {b : List Sm} {n : Nat} {t : Bool} : kWh C c b n ρ (.ok t S) = kWhT C c b n ρ t S := (rfl)
theorem whlL_succ {c : T} {b : List Sm} {n : Nat} : whlL C c b (n + 1) ρ S = kWh C c b n ρ (tst C c ρ S) := (rfl)
/-! ### calls -/
def kRun (n : Nat) (o : Out Fl) : Out W := match o with
    | .ok (.rt w) S1 => leave n w S1
    | .ok (.nx _) S1 => leave n .non S1
    | .ok _ _ => .no
    | .ex x S1 => .ex x S1
    | .no => .no
@[simp] theorem kRun_rt {n : Nat} {w : W} : kRun n (.ok (.rt w) S) = leave n w S := (rfl)
@[simp] theorem kRun_nx {n : Nat} : kRun n (.ok (.nx ρ) S) = leave n .non S := (rfl)
theorem runFd_eq {d : Fd} {vs : List W} (h : vs.length = d.np) : runFd C d vs S = kRun S.length (exes C d.body (vs.map some ++ List.replicate (d.ns - d.np) none) S) := if_pos h
theorem leave_same {n : Nat} {w : W} (h : S.length = n) : leave n w S = .ok w S := by
  unfold leave
  split
  · rw [List.take_of_length_le (by omega)]
  · rfl
@[simp] theorem leave_self {w : W} : leave S.length w S = .ok w S := leave_same rfl
theorem leave_drop {n : Nat} {w : W} {S J : Store} (h : S.length = n) (hw : w.bel n = true) (hS : belowS n S = true) : leave n w (S ++ J) = .ok w S := by
  unfold leave
  have e : (S ++ J).take n = S := by subst h; simp
  rw [e, hw, hS]
  rfl
theorem fnN_succ {gl : Gls} {fuel : Nat} {ds : List Fd} {n : Nat} {f : Str} {vs : List W} {d : Fd} (h : ds.find? (·.name = f) = some d) :
    fnN gl fuel ds (n + 1) f vs S = runFd ⟨gl, fnN gl fuel ds n, fuel, fun f => ds.any fun d => d.name = f, n⟩ d vs S := by
  simp only [fnN, h]
/-- what a text of a law leans on -/
def Cx (gl : Gls) (fuel : Nat) (ds : List Fd) (n : Nat) : Cn := ⟨gl, fnN gl fuel ds n, fuel, fun f => ds.any fun d => d.name = f, n⟩
theorem fn_run {gl : Gls} {fuel : Nat} {ds : List Fd} {n : Nat} {f : Str} {vs : List W} (d : Fd) (h : ds.find? (·.name = f) = some d) (hv : vs.length = d.np) :
    fnN gl fuel ds (n + 1) f vs S = kRun S.length (exes (Cx gl fuel ds n) d.body (vs.map some ++ List.replicate (d.ns - d.np) none) S) := by
  rw [fnN_succ h, runFd_eq hv]
  rfl
/-! ### equality by resolved values -/
theorem dicW_res {a x : W} (h : resW S 60 a = some x) : dicW S a = none := by
  cases a with
  | loc l =>
    simp only [dicW]
    simp only [resW] at h
    split at h
    · rename_i q; rw [q]
    · cases h
  | _ => rfl
theorem eqW_res {a b x y : W} (h1 : resW S 60 a = some x) (h2 : resW S 60 b = some y) : eqW S a b = some (W.eqb x y) := by
  have d1 := dicW_res h1
  have d2 := dicW_res h2
  unfold eqW
  split
  case h_10 => rw [d1, h1, h2]
  all_goals (simp only [resW, Option.some.injEq] at h1 h2; subst h1; subst h2; first | rfl | (simp only [W.eqb]; done) | (simp only [W.eqb]; congr 1; apply Bool.eq_iff_iff.2; simp))
end Gs
end

section
set_option linter.all false
set_option maxRecDepth 100000
namespace Gs
open PySem
/-! ### the laws' draws -/
structure DS where
  xs : List Int
  a : Int
  n : Int
  c : Int
def st (d : DS) : Store := [some (.lst (d.xs.map .int)), some (.lst [.loc 0, .int d.a, .int d.n, .int d.c])]
/-- a state after at most b draws -/
structure Good (b : Int) (d : DS) : Prop where
  a0 : 0 ≤ d.a
  n0 : 0 ≤ d.n
  nb : d.n ≤ b
  c0 : 0 ≤ d.c
  c1 : d.c < 2147483647
theorem Good.le {b b' : Int} {d : DS} (h : Good b d) (hb : b ≤ b') : Good b' d := { h with nb := Int.le_trans h.nb hb }
def bDrawTail : List Sm := [.ife (.cmp .Gt (.ix (.var 0) (.cint 1)) (.cint 0)) [.asg (.nm 2) (.bin true .Mod (.ix (.var 0) (.cint 1)) (.var 1)), .sub (.var 0) (.cint 1) (.bin true .FloorDiv (.ix (.var 0) (.cint 1)) (.var 1)), .ret (.var 2)] [], .asg (.nm 2) (.bin true .Mod (.bin true .Pow (.bin true .Add (.bin true .Add (.ix (.var 0) (.cint 3)) (.bin true .Mult (.cint 7919) (.ix (.var 0) (.cint 2)))) (.cint 104729)) (.cint 5)) (.cint 2147483647)), .ret (.bin true .Mod (.bin true .Mod (.bin true .Mult (.bin true .Add (.var 2) (.ix (.var 0) (.cint 2))) (.cint 48271)) (.cint 2147483629)) (.var 1))]
def bDrawA : List Sm := .sub (.var 0) (.cint 2) (.bin true .Add (.ix (.var 0) (.cint 2)) (.cint 1)) :: .ife (.and [(.cmp .Eq (.ix (.var 0) (.cint 1)) (.cint 0)), (.cmp .NotEq (.ix (.var 0) (.cint 0)) (.lst true []))]) [.sub (.var 0) (.cint 1) (.mt .popAt (.ix (.var 0) (.cint 0)) [(.cint 0)]), .ife (.cmp .Lt (.ix (.var 0) (.cint 1)) (.bin true .Pow (.cint 10) (.cint 18))) [.sub (.var 0) (.cint 3) (.bin true .Mod (.bin true .Add (.bin true .Mult (.ix (.var 0) (.cint 3)) (.cint 39373)) (.ix (.var 0) (.cint 1))) (.cint 2147483647)), .sub (.var 0) (.cint 1) (.cint 0)] []] [] :: bDrawTail
abbrev drawA : Fd := ⟨"_law_draw", 2, 3, bDrawA⟩
theorem eq_nil {S : Store} {xs : List Int} (h : S[0]? = some (some (.lst (xs.map .int)))) : eqW S (.loc 0) (.lst []) = some xs.isEmpty := by
  have e : ∀ xs : List Int, (xs.map W.int).mapM (resW S 59) = some (xs.map W.int) := by
    intro xs
    induction xs with
    | nil => rfl
    | cons x r ih => simp [List.mapM_cons, resW, ih]
  have h1 : resW S 60 (.loc 0) = some (.lst (xs.map .int)) := by
    show (match S[0]? with
      | some (some (.lst xs)) => (xs.mapM (resW S 59)).map W.lst
      | _ => none) = _
    rw [h]
    simp [e]
  rw [eqW_res h1 (show resW S 60 (.lst []) = some (.lst []) from rfl)]
  cases xs <;> rfl
theorem tail_ok {C : Cn} {d : DS} {R : Store} {m : Int} (h : Good 1000000000000 d) (hm : 0 < m) (hm' : m < 2 ^ 250) :
    ∃ r d', exes C bDrawTail [some (.loc 1), some (.int m), none] (st d ++ R) = .ok (.rt (.int r)) (st d' ++ R) ∧ 0 ≤ r ∧ r < m ∧ d'.n = d.n ∧ 0 ≤ d'.a ∧ d'.c = d.c := by
  obtain ⟨h1, h2, h3, h4, h5⟩ := h
  have dm : divOk m := divOk_of (by omega) 250 (by omega) (by omega)
  by_cases ha : 0 < d.a
  · refine ⟨d.a.fmod m, ⟨d.xs, d.a.fdiv m, d.n, d.c⟩, ?_, Int.fmod_nonneg_of_pos _ hm, Int.fmod_lt_of_pos _ hm, rfl, ?_, rfl⟩
    · simp [bDrawTail, st, ha, ixW, binW_mod (show m ≠ 0 by omega), binW_div dm]
    · exact Int.fdiv_nonneg h1 (by omega)
  · have p5 : powOk (d.c + 7919 * d.n + 104729) 5 := ⟨by omega, by omega, by omega⟩
    have m1 : mulOk 7919 d.n := mulOk_of 64 64 (by omega) (by omega) (by omega)
    have b1 : 0 ≤ ((d.c + 7919 * d.n + 104729) ^ 5).fmod 2147483647 := Int.fmod_nonneg_of_pos _ (by omega)
    have b2 : ((d.c + 7919 * d.n + 104729) ^ 5).fmod 2147483647 < 2147483647 := Int.fmod_lt_of_pos _ (by omega)
    have m2 : mulOk (((d.c + 7919 * d.n + 104729) ^ 5).fmod 2147483647 + d.n) 48271 := mulOk_of 64 64 (by omega) (by omega) (by omega)
    refine ⟨Int.fmod (Int.fmod ((((d.c + 7919 * d.n + 104729) ^ 5).fmod 2147483647 + d.n) * 48271) 2147483629) m, d, ?_, Int.fmod_nonneg_of_pos _ hm, Int.fmod_lt_of_pos _ hm, rfl, h1, rfl⟩
    simp [bDrawTail, st, ha, ixW, binW_mod (show m ≠ 0 by omega), binW_mod (show (2147483647 : Int) ≠ 0 by omega), binW_mod (show (2147483629 : Int) ≠ 0 by omega), binW_mul m1, binW_mul m2, binW_pow p5]
theorem draw_run {C : Cn} {d : DS} {R : Store} {m b : Int} (h : Good b d) (hb : b < 100000000000) (hm : 0 < m) (hm' : m < 2 ^ 250) :
    ∃ r d', runFd C drawA [.loc 1, .int m] (st d ++ R) = .ok (.int r) (st d' ++ R) ∧ 0 ≤ r ∧ r < m ∧ Good (b + 1) d' := by
  have go : ∀ d1 : DS, d1.n = d.n + 1 → 0 ≤ d1.a → 0 ≤ d1.c → d1.c < 2147483647 → ∃ r d', exes C bDrawTail [some (.loc 1), some (.int m), none] (st d1 ++ R) = .ok (.rt (.int r)) (st d' ++ R) ∧ 0 ≤ r ∧ r < m ∧ Good (b + 1) d' := by
    intro d1 e1 e2 e3 e4
    have := h.n0; have := h.nb
    obtain ⟨r, d', e, r1, r2, n1, a1, c1⟩ := tail_ok (C := C) (R := R) (d := d1) ⟨e2, by omega, by omega, e3, e4⟩ hm hm'
    exact ⟨r, d', e, r1, r2, a1, by omega, by omega, by omega, by omega⟩
  have fin : ∀ {o : Out Fl} {r : Int} {d' : DS}, o = .ok (.rt (.int r)) (st d' ++ R) → kRun (st d ++ R).length o = .ok (.int r) (st d' ++ R) := by
    rintro o r d' rfl
    exact leave_same (by simp [st])
  have h39 : ∀ {x : Int}, 0 ≤ x → x < 2147483647 → mulOk x 39373 := fun a b => mulOk_of 64 64 (by omega) (by omega) (by omega)
  have p18 : powOk 10 18 := by decide
  rw [runFd_eq rfl]
  have tl : drawA.body = bDrawA := rfl
  obtain ⟨h1, h2, h3, h4, h5⟩ := h
  by_cases ha : d.a = 0
  · rcases hx : d.xs with _ | ⟨x, xs⟩
    · obtain ⟨r, d', e, k⟩ := go ⟨d.xs, d.a, d.n + 1, d.c⟩ rfl h1 h4 h5
      refine ⟨r, d', fin ?_, k⟩
      rw [← e]
      simp [bDrawA, st, ha, hx, ixW, eq_nil (xs := [])]
    · by_cases hx18 : x < 1000000000000000000
      · obtain ⟨r, d', e, k⟩ := go ⟨xs, 0, d.n + 1, (d.c * 39373 + x).fmod 2147483647⟩ rfl (by simp) (Int.fmod_nonneg_of_pos _ (by omega)) (Int.fmod_lt_of_pos _ (by omega))
        refine ⟨r, d', fin ?_, k⟩
        rw [← e]
        simp [bDrawA, st, ha, hx, ixW, eq_nil (xs := x :: xs), binW_pow p18, hx18, binW_mul (h39 h4 h5), binW_mod (show (2147483647 : Int) ≠ 0 by omega)]
      · obtain ⟨r, d', e, k⟩ := go ⟨xs, x, d.n + 1, d.c⟩ rfl (by simp; omega) h4 h5
        refine ⟨r, d', fin ?_, k⟩
        rw [← e]
        simp [bDrawA, st, ha, hx, ixW, eq_nil (xs := x :: xs), binW_pow p18, hx18]
  · obtain ⟨r, d', e, k⟩ := go ⟨d.xs, d.a, d.n + 1, d.c⟩ rfl h1 h4 h5
    refine ⟨r, d', fin ?_, k⟩
    rw [← e]
    simp [bDrawA, st, ha, ixW]
theorem draw_ok {gl : Gls} {fuel n : Nat} {ds : List Fd} (hf : ds.find? (·.name = ("_law_draw" : Str)) = some drawA) {d : DS} (R : Store) (m : Int) {b : Int} (h : Good b d) (hb : b < 100000000000) (hm : 0 < m) (hm' : m < 2 ^ 250) :
    ∃ r d', fnN gl fuel ds (n + 1) "_law_draw" [.loc 1, .int m] (st d ++ R) = .ok (.int r) (st d' ++ R) ∧ 0 ≤ r ∧ r < m ∧ Good (b + 1) d' := by
  rw [fnN_succ hf]
  exact draw_run h hb hm hm'
@[simp] theorem st_len {d : DS} : (st d).length = 2 := rfl
@[simp] theorem leave_st {d : DS} {R : Store} {w : W} : leave (2 + R.length) w (st d ++ R) = .ok w (st d ++ R) := leave_same (by simp)
theorem good0 (ns : List Int) : Good 0 ⟨ns, 0, 0, 0⟩ := ⟨by simp, by simp, by simp, by simp, by simp⟩
theorem leave_zero {b : Bool} {S : Store} : leave 0 (.bl b) S = .ok (.bl b) [] := by simp [leave, W.bel, belowS]
theorem st_init (ns : List Int) : [some (Ob.lst (ns.map W.int)), some (Ob.lst [.loc 0, .int 0, .int 0, .int 0])] = st ⟨ns, 0, 0, 0⟩ := rfl
/-- the laws' first statement: the stream is made -/
theorem stream_made {C : Cn} {ns : List Int} (h : ns.length ≤ 63) (k : Nat) :
    exe C (.asg (.nm 1) (.lst false [.bi (.listOf false) [.var 0], .cint 0, .cint 0, .cint 0])) (some (.scr ns) :: none :: List.replicate k none) [] = .ok (.nx (some (.scr ns) :: some (.loc 1) :: List.replicate k none)) (st ⟨ns, 0, 0, 0⟩) := by
  have h' : ns.length ≤ 16777216 := by omega
  simp [h', st]
@[simp] theorem leave_st0 {d : DS} {w : W} : leave 2 w (st d) = .ok w (st d) := leave_same (by simp)
section
variable {d : DS} {x y z u v : Option Ob} {R : Store}
@[simp high] theorem st_get2 : (st d ++ x :: R)[2]? = some x := (rfl)
@[simp high] theorem st_get3 : (st d ++ x :: y :: R)[3]? = some y := (rfl)
@[simp high] theorem st_get4 : (st d ++ x :: y :: z :: R)[4]? = some z := (rfl)
@[simp high] theorem st_get5 : (st d ++ x :: y :: z :: u :: R)[5]? = some u := (rfl)
@[simp high] theorem st_set2 : (st d ++ x :: R).set 2 v = st d ++ v :: R := (rfl)
@[simp high] theorem st_set3 : (st d ++ x :: y :: R).set 3 v = st d ++ x :: v :: R := (rfl)
@[simp high] theorem st_set4 : (st d ++ x :: y :: z :: R).set 4 v = st d ++ x :: y :: v :: R := (rfl)
@[simp high] theorem st_set5 : (st d ++ x :: y :: z :: u :: R).set 5 v = st d ++ x :: y :: z :: v :: R := (rfl)
end
theorem belowS_st {d : DS} {n : Nat} (h : 0 < n) : belowS n (st d) = true := by
  have : ∀ xs : List Int, W.bels n (xs.map .int) = true := by
    intro xs
    induction xs with
    | nil => rfl
    | cons x r ih => simp [W.bels, W.bel, ih]
  simp [st, belowS, Ob.bel, W.bels, W.bel, this, h]
/-- a call's own lists are dropped at its end -/
theorem leave_st_drop {d : DS} {w : W} {J : Store} (hw : w.bel 2 = true) : leave 2 w (st d ++ J) = .ok w (st d) := leave_drop (by simp) hw (belowS_st (by omega))
mutual
theorem bel_mono2 {n m : Nat} (h : n ≤ m) : ∀ w : W, w.bel n = true → w.bel m = true
  | .tup xs, hb => by simp only [W.bel] at hb ⊢; exact bels_mono2 h xs hb
  | .lst xs, hb => by simp only [W.bel] at hb ⊢; exact bels_mono2 h xs hb
  | .loc l, hb => by simp only [W.bel, decide_eq_true_eq] at hb ⊢; omega
  | .non, _ => rfl
  | .bl _, _ => rfl
  | .int _, _ => rfl
  | .str _, _ => rfl
  | .ty _, _ => rfl
  | .fn _, _ => rfl
  | .scr _, _ => rfl
  | .tab _, _ => rfl
theorem bels_mono2 {n m : Nat} (h : n ≤ m) : ∀ ws : List W, W.bels n ws = true → W.bels m ws = true
  | [], _ => rfl
  | w :: r, hb => by
    simp only [W.bels, Bool.and_eq_true] at hb ⊢
    exact ⟨bel_mono2 h w hb.1, bels_mono2 h r hb.2⟩
end
/-- what lies below n lies below m -/
theorem below_mono2 {n m : Nat} (h : n ≤ m) : ∀ {S : Store}, belowS n S = true → belowS m S = true
  | [], _ => rfl
  | none :: r, hb => below_mono2 h (S := r) hb
  | some o :: r, hb => by
    simp only [belowS, Bool.and_eq_true] at hb ⊢
    refine ⟨?_, below_mono2 h hb.2⟩
    cases o with
    | lst xs => exact bels_mono2 h xs hb.1
    | dic kvs =>
      have := hb.1
      simp only [Ob.bel, List.all_eq_true] at this ⊢
      exact fun p hp => bel_mono2 h _ (this p hp)
    | ins c fs =>
      have := hb.1
      simp only [Ob.bel, List.all_eq_true] at this ⊢
      exact fun p hp => bel_mono2 h _ (this p hp)
end Gs
end

section
set_option linter.all false
set_option maxRecDepth 100000
/-! GEv2: further equations and rules: pure comprehensions, while loops, slices, equality of pure values. -/
namespace Gs
open PySem
variable {C : Cn} {ρ : Rho} {S S1 : Store}
theorem kS_nil {o : Out Fl} : kS C [] o = o := by
  cases o with
  | ok f S => cases f <;> rfl
  | ex x S => rfl
  | no => rfl
def kFrzO (o : Option (Option Ob)) (l : Nat) (S : Store) : Out W := match o with
  | some (some (.lst xs)) => .ok (.lst xs) (S.set l none)
  | _ => .no
@[simp] theorem kFrz_loc {l : Nat} : kFrz (.ok (.loc l) S) = kFrzO (S[l]?) l S := by
  simp only [kFrz, Out.bd_ok, kFrzO] <;> rfl
@[simp] theorem kFrzO_some {l : Nat} {xs : List W} : kFrzO (some (some (.lst xs))) l S = .ok (.lst xs) (S.set l none) := (rfl)
@[simp] theorem sliceW_lst {fz : Bool} {xs : List W} {lo hi : Option Int} : sliceW fz (.lst xs) lo hi S = newL fz (cut xs lo hi) S := (rfl)
def kSlO (fz : Bool) (o : Option (List W)) (lo hi : Option Int) (S : Store) : Out W := match o with
  | some xs => newL fz (cut xs lo hi) S
  | none => .no
@[simp] theorem kSlO_some {fz : Bool} {xs : List W} {lo hi : Option Int} : kSlO fz (some xs) lo hi S = newL fz (cut xs lo hi) S := (rfl)
@[simp] theorem sliceW_loc {fz : Bool} {l : Nat} {lo hi : Option Int} : sliceW fz (.loc l) lo hi S = kSlO fz (seqW S (.loc l)) lo hi S := by
  unfold sliceW kSlO
  rfl
@[simp] theorem augW_mul' {i j : Int} (h : mulOk i j) : augW .Mult (.int i) (.int j) S = .ok (.int (i * j)) S := if_pos h
theorem cut_take {α : Type} (xs : List α) (k : Nat) (h : k ≤ xs.length) : cut xs none (some (k : Int)) = xs.take k := by
  simp only [cut, sIx]
  rw [if_neg (by omega)]
  simp
theorem cut_drop {α : Type} (xs : List α) (k : Nat) (h : k ≤ xs.length) : cut xs (some (k : Int)) none = xs.drop k := by
  simp only [cut, sIx]
  rw [if_neg (by omega)]
  have : min (Int.toNat (k : Int)) xs.length = k := by simp; omega
  rw [this]
  exact List.take_of_length_le (by simp)
theorem cut_drop1 {α : Type} (xs : List α) (k : Nat) (h : k + 1 ≤ xs.length) : cut xs (some ((k : Int) + 1)) none = xs.drop (k + 1) := cut_drop xs (k + 1) h
theorem cut_mem {α : Type} (xs : List α) (lo hi : Option Int) : ∀ x ∈ cut xs lo hi, x ∈ xs := by
  intro x hx
  exact List.mem_of_mem_drop (List.mem_of_mem_take hx)
theorem cut_len {α : Type} (xs : List α) (lo hi : Option Int) : (cut xs lo hi).length ≤ xs.length := by
  simp only [cut, List.length_take, List.length_drop]
  omega
@[simp high] theorem st_getR {d : DS} {R : Store} {v : Option Ob} {T : Store} : (st d ++ (R ++ v :: T))[2 + R.length]? = some v := by
  rw [← List.append_assoc, List.getElem?_append_right (by simp)]
  simp
@[simp high] theorem st_setR {d : DS} {R : Store} {u v : Option Ob} {T : Store} : (st d ++ (R ++ v :: T)).set (2 + R.length) u = st d ++ (R ++ u :: T) := by
  rw [← List.append_assoc, List.set_append_right _ _ (by simp)]
  simp
@[simp high] theorem st_getR' {d : DS} {R : Store} {v w : Option Ob} {T : Store} : (st d ++ (R ++ v :: w :: T))[2 + (R.length + 1)]? = some w := by
  rw [← List.append_assoc, List.getElem?_append_right (by simp)]
  simp [show 2 + (R.length + 1) - (2 + R.length) = 1 by omega]
@[simp high] theorem st_setR' {d : DS} {R : Store} {u v w : Option Ob} {T : Store} : (st d ++ (R ++ v :: w :: T)).set (2 + (R.length + 1)) u = st d ++ (R ++ v :: u :: T) := by
  rw [← List.append_assoc, List.set_append_right _ _ (by simp)]
  simp [show 2 + (R.length + 1) - (2 + R.length) = 1 by omega]
/-- a call's own lists are dropped at its end -/
theorem leave_R {d : DS} {R J : Store} {w : W} (hR : belowS (2 + R.length) (st d ++ R) = true) (hw : w.bel (2 + R.length) = true) : leave (2 + R.length) w (st d ++ (R ++ J)) = .ok w (st d ++ R) := by
  rw [← List.append_assoc]
  exact leave_drop (by simp) hw hR
@[simp] theorem kAnds1_nil {b : Bool} : kAnds1 C [] ρ b S = .ok b S := by cases b <;> rfl
@[simp] theorem kOrs1_nil {b : Bool} : kOrs1 C [] ρ b S = .ok b S := by cases b <;> rfl
@[simp high] theorem snoc_get {S : Store} {v : Option Ob} : (S ++ [v])[S.length]? = some v := by simp
@[simp high] theorem snoc_set {S : Store} {u v : Option Ob} : (S ++ [v]).set S.length u = S ++ [u] := by
  rw [List.set_append_right _ _ (Nat.le_refl _)]
  simp
def kLrng (fz : Bool) (o : Out W) : Out W := o.bd fun x S1 => (match x with
    | .int j => if small62 j then newL fz (rangeW 0 j) S1 else .no
    | _ => .no)
@[simp] theorem den_lrng {fz : Bool} {a : E} : den C (.lrng fz a) ρ S = kLrng fz (den C a ρ S) := (rfl)
theorem kLrng_ok {fz : Bool} {j : Int} (h : small62 j) : kLrng fz (.ok (.int j) S) = newL fz (rangeW 0 j) S := if_pos h
def kLz2 (fz : Bool) (x : W) (o : Out W) : Out W := o.bd fun y S2 => (match x, y with
    | .lst xs, .lst ys => newL fz (zipW xs ys) S2
    | _, _ => .no)
@[simp] theorem kLz2_ok {fz : Bool} {xs ys : List W} : kLz2 fz (.lst xs) (.ok (.lst ys) S) = newL fz (zipW xs ys) S := (rfl)
def kLz1 (C : Cn) (fz : Bool) (b : E) (ρ : Rho) (o : Out W) : Out W := o.bd fun x S1 => kLz2 fz x (den C b ρ S1)
@[simp] theorem kLz1_ok {fz : Bool} {b : E} {x : W} : kLz1 C fz b ρ (.ok x S) = kLz2 fz x (den C b ρ S) := (rfl)
@[simp] theorem den_lzip {fz : Bool} {a b : E} : den C (.lzip fz a b) ρ S = kLz1 C fz b ρ (den C a ρ S) := (rfl)
/-! ### comprehensions over lists of the store -/
def lcD (C : Cn) (l : Nat) (own : List Nat) (t : Tg) (ifs : List T) (e : E) (ρ : Rho) (n i : Nat) (acc : List W) (S : Store) : Out (List W) :=
  turnsD l (fun x acc S2 => (ofOpt (tgW t x (wipeR ρ own)) S2).bd fun ρ2 S2 => (ands C ifs ρ2 S2).noex.bd fun b S3 => if b then (den C e ρ2 S3).noex.bd fun y S4 => push acc y S4 else .ok acc S3) n i acc S
def kLcV (C : Cn) (fz : Bool) (own : List Nat) (t : Tg) (ifs : List T) (e : E) (ρ : Rho) (o : Out W) : Out W := o.bd fun x S1 => match x with
  | .loc l => kLst fz (lcD C l own t ifs e ρ C.fuel 0 [] S1)
  | _ => .no
@[simp] theorem kLcV_loc {fz : Bool} {own : List Nat} {t : Tg} {ifs : List T} {e : E} {l : Nat} : kLcV C fz own t ifs e ρ (.ok (.loc l) S) = kLst fz (lcD C l own t ifs e ρ C.fuel 0 [] S) := (rfl)
@[simp] theorem den_lcV {fz : Bool} {own : List Nat} {t : Tg} {a : E} {ifs : List T} {e : E} : den C (.lcV fz own t a ifs e) ρ S = kLcV C fz own t ifs e ρ (den C a ρ S) := by
  simp only [den, kLcV]
  rfl
theorem lcD_pure {own : List Nat} {t : Tg} {ifs : List T} {e : E} {l : Nat} {ys : List W} (hS : S[l]? = some (some (.lst ys))) (p : W → Bool) (g : W → W)
    (h : ∀ x ∈ ys, ∃ ρ2, tgW t x (wipeR ρ own) = some ρ2 ∧ ands C ifs ρ2 S = .ok (p x) S ∧ (p x = true → den C e ρ2 S = .ok (g x) S)) (hl : ys.length ≤ 1000000) :
    ∀ (xs : List W) (i n : Nat) (acc : List W), xs = ys.drop i → xs.length < n → acc.length ≤ i → lcD C l own t ifs e ρ n i acc S = .ok (acc ++ (xs.filter p).map g) S := by
  intro xs
  induction xs with
  | nil =>
    intro i n acc hx hn _
    obtain ⟨n, rfl⟩ : ∃ m, n = m + 1 := ⟨n - 1, by simp at hn; omega⟩
    have hi : ys[i]? = none := by
      have := congrArg List.length hx
      simp at this
      exact List.getElem?_eq_none (by omega)
    simp [lcD, turnsD, hS, hi]
  | cons x xs ih =>
    intro i n acc hx hn hac
    obtain ⟨n, rfl⟩ : ∃ m, n = m + 1 := ⟨n - 1, by simp at hn; omega⟩
    have hlt : i < ys.length := by
      have := congrArg List.length hx
      simp at this
      omega
    rw [List.drop_eq_getElem_cons hlt] at hx
    injection hx with hx1 hx2
    have hi : ys[i]? = some x := by rw [List.getElem?_eq_getElem hlt, hx1]
    obtain ⟨ρ2, e1, e2, e3⟩ := h x (List.mem_of_getElem? hi)
    have step := fun acc (ha : acc.length ≤ i + 1) => ih (i + 1) n acc hx2 (by simpa using hn) ha
    unfold lcD at step ⊢
    simp only [turnsD, hS, hi, e1, ofOpt_some, Out.bd_ok, e2, Out.noex_ok]
    cases hp : p x with
    | false =>
      rw [if_neg (by simp)]
      simp only [Out.bd_ok]
      rw [step acc (by omega)]
      simp [hp]
    | true =>
      rw [if_pos rfl, e3 hp]
      simp only [Out.noex_ok, Out.bd_ok]
      have ha : acc.length < 16777216 := by omega
      have hpu : push acc (g x) S = .ok (acc ++ [g x]) S := if_pos ha
      rw [hpu]
      simp only [Out.bd_ok]
      rw [step (acc ++ [g x]) (by simp; omega)]
      simp [hp]
theorem lcD_map {own : List Nat} {t : Tg} {e : E} {l : Nat} {ys : List W} (hS : S[l]? = some (some (.lst ys))) (g : W → W)
    (h : ∀ x ∈ ys, ∃ ρ2, tgW t x (wipeR ρ own) = some ρ2 ∧ den C e ρ2 S = .ok (g x) S) (n : Nat) (hn : ys.length < n) (hl : ys.length ≤ 1000000) :
    lcD C l own t [] e ρ n 0 [] S = .ok (ys.map g) S := by
  have := lcD_pure (C := C) (own := own) (t := t) (ifs := []) (e := e) (ρ := ρ) hS (fun _ => true) g (fun x hx => by
    obtain ⟨ρ2, e1, e2⟩ := h x hx
    exact ⟨ρ2, e1, rfl, fun _ => e2⟩) hl ys 0 n [] (by simp) hn (by simp)
  have hf : ys.filter (fun _ => true) = ys := by simp
  rw [hf] at this
  simpa using this
/-! ### calls by keyword -/
def kKw (C : Cn) (f : Str) (xs : List W) (o : Out W) : Out W := o.bd fun y S2 => C.fn f (xs ++ [y]) S2
@[simp] theorem kKw_ok {f : Str} {xs : List W} {y : W} : kKw C f xs (.ok y S) = C.fn f (xs ++ [y]) S := (rfl)
def kKc (C : Cn) (f : Str) (e : E) (ρ : Rho) (o : Out (List W)) : Out W := o.bd fun xs S1 => kKw C f xs (den C e ρ S1)
@[simp] theorem kKc_ok {f : Str} {e : E} {xs : List W} : kKc C f e ρ (.ok xs S) = kKw C f xs (den C e ρ S) := (rfl)
@[simp] theorem den_kcall {f q : Str} {es : List E} {e : E} : den C (.kcall f es q e) ρ S = kKc C f e ρ (dens C es ρ S) := (rfl)
def kDc (C : Cn) (f : Str) (d : Int) (o : Out (List W)) : Out W := o.bd fun xs S1 => C.fn f (xs ++ [.int d]) S1
@[simp] theorem kDc_ok {f : Str} {d : Int} {xs : List W} : kDc C f d (.ok xs S) = C.fn f (xs ++ [.int d]) S := (rfl)
@[simp] theorem den_dcall {f : Str} {es : List E} {d : Int} : den C (.dcall f es d) ρ S = kDc C f d (dens C es ρ S) := (rfl)
/-! ### loops over lists of the store; exceptions -/
def forE (C : Cn) (l : Nat) (t : Tg) (b : List Sm) (n i : Nat) (ρ : Rho) (S : Store) : Out Fl := loopsE l (fun x ρ1 S2 => (ofOpt (tgW t x ρ1) S2).bd fun ρ2 S2 => exes C b ρ2 S2) n i ρ S
def kForE (C : Cn) (t : Tg) (b : List Sm) (ρ : Rho) (o : Option (Option W)) (S : Store) : Out Fl := match o with
  | some (some (.loc l)) => forE C l t b C.fuel 0 ρ S
  | _ => .no
@[simp] theorem exe_forE {t : Tg} {i : Nat} {b : List Sm} : exe C (.forE t i b) ρ S = kForE C t b ρ ρ[i]? S := (rfl)
@[simp] theorem kForE_loc {t : Tg} {b : List Sm} {l : Nat} : kForE C t b ρ (some (some (.loc l))) S = forE C l t b C.fuel 0 ρ S := (rfl)
theorem forE_inv {l : Nat} {t : Tg} {b : List Sm} (ys : List W) (I : Nat → Rho → Store → Prop)
    (hI : ∀ i ρ S, I i ρ S → S[l]? = some (some (.lst ys)))
    (h : ∀ i x ρ S, ys[i]? = some x → I i ρ S → ∃ ρ' S', kTgB C b (tgW t (.tup [.int (i : Nat), x]) ρ) S = .ok (.nx ρ') S' ∧ I (i + 1) ρ' S') :
    ∀ (n i : Nat) (ρ : Rho) (S : Store), ys.length < n + i → i ≤ ys.length → I i ρ S → ∃ ρ' S', forE C l t b n i ρ S = .ok (.nx ρ') S' ∧ I ys.length ρ' S' := by
  intro n
  induction n with
  | zero => intro i ρ S hn hi h0; omega
  | succ n ih =>
    intro i ρ S hn hi h0
    by_cases he : i = ys.length
    · subst he
      refine ⟨ρ, S, ?_, h0⟩
      have hx : ys[ys.length]? = none := List.getElem?_eq_none (Nat.le_refl _)
      simp only [forE, loopsE, hI _ _ _ h0, hx]
    · have hx : ys[i]? = some ys[i] := List.getElem?_eq_getElem (by omega)
      obtain ⟨ρ', S', e, h1⟩ := h i _ ρ S hx h0
      have e' : ((ofOpt (tgW t (.tup [.int (i : Nat), ys[i]]) ρ) S).bd fun ρ2 S2 => exes C b ρ2 S2) = .ok (.nx ρ') S' := e
      obtain ⟨ρ2, S2, e2, h2⟩ := ih (i + 1) ρ' S' (by omega) (by omega) h1
      refine ⟨ρ2, S2, ?_, h2⟩
      simp only [forE] at e2 ⊢
      simp only [loopsE, hI _ _ _ h0, hx, e', Out.bd_ok]
      exact e2
def forD (C : Cn) (l : Nat) (t : Tg) (b : List Sm) (n i : Nat) (ρ : Rho) (S : Store) : Out Fl := loopsD l (fun x ρ1 S2 => (ofOpt (tgW t x ρ1) S2).bd fun ρ2 S2 => exes C b ρ2 S2) n i ρ S
def kForV (C : Cn) (t : Tg) (b : List Sm) (ρ : Rho) (o : Option (Option W)) (S : Store) : Out Fl := match o with
  | some (some (.loc l)) => forD C l t b C.fuel 0 ρ S
  | _ => .no
@[simp] theorem exe_forV {t : Tg} {i : Nat} {b : List Sm} : exe C (.forV t i b) ρ S = kForV C t b ρ (ρ[i]?) S := (rfl)
@[simp] theorem kForV_loc {t : Tg} {b : List Sm} {l : Nat} : kForV C t b ρ (some (some (.loc l))) S = forD C l t b C.fuel 0 ρ S := (rfl)
/-- a loop over a list of the store that stays as it is: as over its items -/
theorem forD_inv {l : Nat} {t : Tg} {b : List Sm} (ys : List W) (I : List W → Rho → Store → Prop)
    (hI : ∀ xs ρ S, I xs ρ S → S[l]? = some (some (.lst ys)))
    (h : ∀ x xs ρ S, I (x :: xs) ρ S → ∃ ρ' S', kTgB C b (tgW t x ρ) S = .ok (.nx ρ') S' ∧ I xs ρ' S') :
    ∀ (xs : List W) (i n : Nat) (ρ : Rho) (S : Store), xs = ys.drop i → xs.length < n → I xs ρ S → ∃ ρ' S', forD C l t b n i ρ S = .ok (.nx ρ') S' ∧ I [] ρ' S' := by
  intro xs
  induction xs with
  | nil =>
    intro i n ρ S hx hn h0
    obtain ⟨n, rfl⟩ : ∃ m, n = m + 1 := ⟨n - 1, by simp at hn; omega⟩
    refine ⟨ρ, S, ?_, h0⟩
    have hi : ys[i]? = none := by
      have := congrArg List.length hx
      simp at this
      exact List.getElem?_eq_none (by omega)
    simp only [forD, loopsD, hI _ _ _ h0, hi]
  | cons x xs ih =>
    intro i n ρ S hx hn h0
    obtain ⟨n, rfl⟩ : ∃ m, n = m + 1 := ⟨n - 1, by simp at hn; omega⟩
    obtain ⟨ρ', S', e, h1⟩ := h x xs ρ S h0
    have hi : ys[i]? = some x := by
      have : (ys.drop i)[0]? = some x := by rw [← hx]; rfl
      simpa using this
    obtain ⟨ρ2, S2, e2, h2⟩ := ih (i + 1) n ρ' S' (by
      have : ys.drop (i + 1) = (ys.drop i).drop 1 := by simp [Nat.add_comm]
      rw [this, ← hx]; rfl) (by simp at hn; omega) h1
    refine ⟨ρ2, S2, ?_, h2⟩
    have e' : ((ofOpt (tgW t x ρ) S).bd fun ρ2 S2 => exes C b ρ2 S2) = .ok (.nx ρ') S' := e
    simp only [forD] at e2 ⊢
    simp only [loopsD, hI _ _ _ h0, hi, e', Out.bd_ok]
    exact e2
@[simp] theorem exe_raise0 {c : Str} : exe C (.raise0 c) ρ S = .ex ⟨c, []⟩ S := (rfl)
def kTry (C : Cn) (c : Str) (su : Sx) (o : Out Fl) : Out Fl := match o with
    | .ok f S1 => .ok f S1
    | .ex x S1 => (match C.gl.sub x.cls c, x.fs with
      | some true, [] => (match sxB (C.gl.sub x.cls) su with
        | some t => .ok (.rt (.bl t)) S1
        | none => .no)
      | some false, _ => .ex x S1
      | _, _ => .no)
    | .no => .no
@[simp] theorem exe_tryR {b : List Sm} {c : Str} {i : Nat} {su : Sx} : exe C (.tryR b c i su) ρ S = kTry C c su (exes C b ρ S) := by
  simp only [exe, kTry] <;> rfl
@[simp] theorem kTry_ok {c : Str} {su : Sx} {f : Fl} : kTry C c su (.ok f S) = .ok f S := (rfl)
theorem kTry_ex {c x : Str} {su : Sx} {t : Bool} (h : C.gl.sub x c = some true) (h' : sxB (C.gl.sub x) su = some t) : kTry C c su (.ex ⟨x, []⟩ S) = .ok (.rt (.bl t)) S := by
  simp only [kTry, h, h']
@[simp] theorem kS_ex {r : List Sm} {x : Xc} : kS C r (.ex x S) = .ex x S := (rfl)
@[simp] theorem kRun_ex {n : Nat} {x : Xc} : kRun n (.ex x S) = .ex x S := (rfl)
@[simp] theorem kIf_ex {a b : List Sm} {x : Xc} : kIf C a b ρ (.ex x S) = .ex x S := (rfl)
@[simp] theorem kRet_ex {x : Xc} : kRet (.ex x S) = .ex x S := (rfl)
@[simp] theorem kExpr_ex {x : Xc} : kExpr ρ (.ex x S) = .ex x S := (rfl)
@[simp] theorem kAsg_ex {t : Tg} {x : Xc} : kAsg t ρ (.ex x S) = .ex x S := (rfl)
@[simp] theorem kCmp1_ex {op : CmpOp} {b : E} {x : Xc} : kCmp1 C op b ρ (.ex x S) = .ex x S := (rfl)
@[simp] theorem kOrs_ex {ts : List T} {x : Xc} : kOrs C ts ρ (.ex x S) = .ex x S := (rfl)
@[simp] theorem kAnds_ex {ts : List T} {x : Xc} : kAnds C ts ρ (.ex x S) = .ex x S := (rfl)
@[simp] theorem Cx_lv {gl : Gls} {fuel : Nat} {ds : List Fd} {n : Nat} : (Cx gl fuel ds n).lv = n := (rfl)
def kRaiseN (C : Cn) (c : Str) (fs : List Str) (o : Out (List W)) : Out Fl := if 2 ≤ C.lv then o.bd fun xs S1 => if xs.length = fs.length ∧ fs ≠ [] then .ex ⟨c, (fs.zip xs).reverse⟩ S1 else .no else .no
@[simp] theorem exe_raiseN {c : Str} {fs : List Str} {es : List E} : exe C (.raiseN c fs es) ρ S = kRaiseN C c fs (dens C es ρ S) := by
  simp only [exe, kRaiseN] <;> rfl
theorem kRaiseN_ok {c : Str} {fs : List Str} {xs : List W} (h : 2 ≤ C.lv) (hl : xs.length = fs.length ∧ fs ≠ []) : kRaiseN C c fs (.ok xs S) = .ex ⟨c, (fs.zip xs).reverse⟩ S := by
  unfold kRaiseN
  rw [if_pos h, Out.bd_ok, if_pos hl]
def kHx (o : Out W) : Out Fl := o.bd fun w S2 => .ok (.rt w) S2
@[simp] theorem kHx_ok {w : W} : kHx (.ok w S) = .ok (.rt w) S := (rfl)
def kTryH (C : Cn) (c : Str) (r : Hx) (o : Out Fl) : Out Fl := match o with
    | .ok f S1 => .ok f S1
    | .ex x S1 => (match C.gl.sub x.cls c with
      | some true => kHx (hxW (C.gl.sub x.cls) x.fs r S1)
      | some false => .ex x S1
      | none => .no)
    | .no => .no
@[simp] theorem exe_tryP {b : List Sm} : exe C (.tryP b) ρ S = (exes C b ρ S).noex := (rfl)
@[simp] theorem exe_tryH {b : List Sm} {c : Str} {i : Nat} {r : Hx} : exe C (.tryH b c i r) ρ S = kTryH C c r (exes C b ρ S) := by
  simp only [exe, kTryH] <;> rfl
@[simp] theorem kTryH_ok {c : Str} {r : Hx} {f : Fl} : kTryH C c r (.ok f S) = .ok f S := (rfl)
theorem kTryH_ex {c : Str} {x : Xc} {r : Hx} (h : C.gl.sub x.cls c = some true) : kTryH C c r (.ex x S) = kHx (hxW (C.gl.sub x.cls) x.fs r S) := by
  simp only [kTryH, h]
/-! ### all, any -/
@[simp] theorem blsOf_nil : blsOf [] = some [] := (rfl)
theorem blsOf_map {α : Type} (g : α → Bool) (xs : List α) : blsOf (xs.map fun x => W.bl (g x)) = some (xs.map g) := by
  induction xs with
  | nil => rfl
  | cons x r ih => simp only [List.map_cons, blsOf, ih, Option.map]
def kAll (o : Option (List Bool)) (S : Store) : Out W := match o with
    | some ns => .ok (.bl (ns.all id)) S
    | _ => .no
def kAny (o : Option (List Bool)) (S : Store) : Out W := match o with
    | some ns => .ok (.bl (ns.any id)) S
    | _ => .no
@[simp] theorem kAll_some {ns : List Bool} : kAll (some ns) S = .ok (.bl (ns.all id)) S := (rfl)
@[simp] theorem kAny_some {ns : List Bool} : kAny (some ns) S = .ok (.bl (ns.any id)) S := (rfl)
@[simp] theorem biW_allL {xs : List W} : biW .allL [.lst xs] S = kAll (blsOf xs) S := (rfl)
@[simp] theorem biW_anyL {xs : List W} : biW .anyL [.lst xs] S = kAny (blsOf xs) S := (rfl)
/-! ### pure comprehensions -/
theorem lcT_pure {α : Type} {own : List Nat} {t : Tg} {ifs : List T} {e : E} (f : α → W) (p : α → Bool) (g : α → W) :
    ∀ (xs : List α) (acc : List W), (∀ x ∈ xs, ∃ ρ2, tgW t (f x) (wipeR ρ own) = some ρ2 ∧ ands C ifs ρ2 S = .ok (p x) S ∧ (p x = true → den C e ρ2 S = .ok (g x) S)) → acc.length + xs.length ≤ line →
    lcT C own t ifs e ρ (xs.map f) acc S = .ok (acc ++ (xs.filter p).map g) S := by
  intro xs
  induction xs with
  | nil => intro acc _ _; simp
  | cons x r ih =>
    intro acc h hl
    obtain ⟨ρ2, e1, e2, e3⟩ := h x (by simp)
    simp only [List.length_cons] at hl
    rw [List.map_cons, lcT_cons, e1, kLcTg_some, e2, kLcI_ok]
    cases hp : p x with
    | false =>
      rw [kLcB_f, kLcN_ok, ih acc (fun y hy => h y (by simp [hy])) (by omega)]
      simp [hp]
    | true =>
      rw [kLcB_t, e3 hp, kPush_ok (by omega), kLcN_ok, ih _ (fun y hy => h y (by simp [hy])) (by rw [List.length_append]; simp only [List.length_cons, List.length_nil]; omega)]
      simp [hp]
theorem lcT_map {α : Type} {own : List Nat} {t : Tg} {e : E} (f : α → W) (g : α → W) (xs : List α) (acc : List W)
    (h : ∀ x ∈ xs, ∃ ρ2, tgW t (f x) (wipeR ρ own) = some ρ2 ∧ den C e ρ2 S = .ok (g x) S) (hl : acc.length + xs.length ≤ line) :
    lcT C own t [] e ρ (xs.map f) acc S = .ok (acc ++ xs.map g) S := by
  have := lcT_pure (C := C) (own := own) (t := t) (ifs := []) (e := e) (ρ := ρ) (S := S) f (fun _ => true) g xs acc (fun x hx => by
    obtain ⟨ρ2, e1, e2⟩ := h x hx
    exact ⟨ρ2, e1, rfl, fun _ => e2⟩) hl
  rw [this]
  congr 3
  exact List.filter_eq_self.2 (by simp)
theorem rangeW_map (lo hi : Int) : rangeW lo hi = (List.range (hi - lo).toNat).map fun k => .int (lo + (k : Nat)) := rfl
theorem rangeW_0 (n : Nat) : rangeW 0 (n : Int) = (List.range n).map fun k => .int (k : Nat) := by
  simp [rangeW]
/-! ### while -/
theorem whlL_rule {c : T} {b : List Sm} (I : Nat → Rho → Store → Prop) (N : Rho → Store → Prop) (Q : W → Store → Prop)
    (h : ∀ m ρ S, I m ρ S → (tst C c ρ S = .ok false S ∧ N ρ S) ∨ (tst C c ρ S = .ok true S ∧ ((∃ m' ρ' S', m' < m ∧ exes C b ρ S = .ok (.nx ρ') S' ∧ I m' ρ' S') ∨ (∃ w S', exes C b ρ S = .ok (.rt w) S' ∧ Q w S')))) :
    ∀ (n m : Nat) (ρ : Rho) (S : Store), I m ρ S → m < n → (∃ ρ' S', whlL C c b n ρ S = .ok (.nx ρ') S' ∧ N ρ' S') ∨ (∃ w S', whlL C c b n ρ S = .ok (.rt w) S' ∧ Q w S') := by
  intro n
  induction n with
  | zero => intro m ρ S _ h; omega
  | succ n ih =>
    intro m ρ S hI hm
    rw [whlL_succ]
    rcases h m ρ S hI with ⟨e, hN⟩ | ⟨e, ⟨m', ρ', S', hm', e', hI'⟩ | ⟨w, S', e', hQ⟩⟩
    · rw [e, kWh_ok, kWhT_f]
      exact .inl ⟨ρ, S, rfl, hN⟩
    · rw [e, kWh_ok, kWhT_t, e', kWhB_nx]
      exact ih m' ρ' S' hI' (by omega)
    · rw [e, kWh_ok, kWhT_t, e', kWhB_rt]
      exact .inr ⟨w, S', rfl, hQ⟩
/-- a while loop that ends by its test -/
theorem whlL_nx {c : T} {b : List Sm} (I : Nat → Rho → Store → Prop) (N : Rho → Store → Prop)
    (h : ∀ m ρ S, I m ρ S → (tst C c ρ S = .ok false S ∧ N ρ S) ∨ (tst C c ρ S = .ok true S ∧ (∃ m' ρ' S', m' < m ∧ exes C b ρ S = .ok (.nx ρ') S' ∧ I m' ρ' S')))
    (n m : Nat) (ρ : Rho) (S : Store) (hI : I m ρ S) (hm : m < n) : ∃ ρ' S', whlL C c b n ρ S = .ok (.nx ρ') S' ∧ N ρ' S' := by
  rcases whlL_rule (C := C) (c := c) (b := b) I N (fun _ _ => False) (fun m ρ S hI => by
    rcases h m ρ S hI with h | ⟨h1, h2⟩
    · exact .inl h
    · exact .inr ⟨h1, .inl h2⟩) n m ρ S hI hm with h | ⟨_, _, _, h⟩
  · exact h
  · exact h.elim
/-! ### equality of values without lists of the store -/
mutual
def W.pure : W → Nat
  | .non => 1 | .bl _ => 1 | .int _ => 1 | .str _ => 1
  | .tup xs => match W.pures xs with
    | 0 => 0
    | n + 1 => n + 2
  | .lst xs => match W.pures xs with
    | 0 => 0
    | n + 1 => n + 2
  | _ => 0
def W.pures : List W → Nat
  | [] => 1
  | x :: r => match W.pure x, W.pures r with
    | n + 1, m + 1 => max n m + 1
    | _, _ => 0
end
mutual
theorem resW_pure : ∀ (x : W) (n : Nat), 0 < x.pure → x.pure ≤ n + 1 → resW S n x = some x
  | .non, n, _, _ => by cases n <;> rfl
  | .bl _, n, _, _ => by cases n <;> rfl
  | .int _, n, _, _ => by cases n <;> rfl
  | .str _, n, _, _ => by cases n <;> rfl
  | .tup xs, n, h, h' => by
    simp only [W.pure] at h h'
    cases hp : W.pures xs with
    | zero => rw [hp] at h; simp at h
    | succ m =>
      rw [hp] at h'
      simp at h'
      cases n with
      | zero => omega
      | succ n =>
        simp only [resW]
        rw [resWs_pure xs n (by omega) (by omega)]
        rfl
  | .lst xs, n, h, h' => by
    simp only [W.pure] at h h'
    cases hp : W.pures xs with
    | zero => rw [hp] at h; simp at h
    | succ m =>
      rw [hp] at h'
      simp at h'
      cases n with
      | zero => omega
      | succ n =>
        simp only [resW]
        rw [resWs_pure xs n (by omega) (by omega)]
        rfl
  | .ty _, n, h, _ => by simp [W.pure] at h
  | .loc _, n, h, _ => by simp [W.pure] at h
  | .fn _, n, h, _ => by simp [W.pure] at h
  | .scr _, n, h, _ => by simp [W.pure] at h
theorem resWs_pure : ∀ (xs : List W) (n : Nat), 0 < W.pures xs → W.pures xs ≤ n + 1 → xs.mapM (resW S n) = some xs
  | [], n, _, _ => rfl
  | x :: r, n, h, h' => by
    simp only [W.pures] at h h'
    cases h1 : W.pure x with
    | zero => rw [h1] at h; simp at h
    | succ a =>
      cases h2 : W.pures r with
      | zero => rw [h1, h2] at h; simp at h
      | succ b =>
        rw [h1, h2] at h'
        simp at h'
        rw [List.mapM_cons, resW_pure x n (by omega) (by omega), resWs_pure r n (by omega) (by omega)]
        rfl
end
theorem eqW_pure {a b : W} (ha : 0 < a.pure) (ha' : a.pure ≤ 61) (hb : 0 < b.pure) (hb' : b.pure ≤ 61) : eqW S a b = some (W.eqb a b) := by
  have h1 := resW_pure (S := S) a 60 ha ha'
  have h2 := resW_pure (S := S) b 60 hb hb'
  exact eqW_res h1 h2
end Gs
end

section
set_option linter.all false
set_option maxRecDepth 100000
/-! GEv3: equations of max with a key, tables, texts of parts. -/
namespace Gs
open PySem
variable {C : Cn} {ρ : Rho} {S S1 : Store}
def kMaxk (C : Cn) (f : Str) (r : Out W) : Out W := r.bd fun x S1 => (match x with
  | .lst xs => maxkW (C.fn f) xs S1
  | _ => .no)
@[simp] theorem den_maxk {a : E} {f : Str} : den C (.maxk a f) ρ S = kMaxk C f (den C a ρ S) := (rfl)
@[simp] theorem kMaxk_ok {f : Str} {xs : List W} : kMaxk C f (.ok (.lst xs) S) = maxkW (C.fn f) xs S := (rfl)
def kLens (o : Out W) : Out W := o.bd fun x S1 => (match x with
    | .lst xs => (match strsOf xs with
      | some ys => if ys.length < 4000 then .ok (.int (unlk ys ys.length : Nat)) S1 else .no
      | none => .no)
    | _ => .no)
@[simp] theorem den_lens {a : E} : den C (.lens a) ρ S = kLens (den C a ρ S) := (rfl)
theorem kLens_ok {xs : List W} {ys : List Str} (h : strsOf xs = some ys) (hl : ys.length < 4000) : kLens (.ok (.lst xs) S) = .ok (.int (unlk ys ys.length : Nat)) S := by
  simp only [kLens, Out.bd_ok, h, hl, if_true]
@[simp] theorem den_tnew : den C .tnew ρ S = .ok (.tab []) S := (rfl)
def kTinC (ng : Bool) (u v : W) (r : Out W) : Out W := r.bd fun d S3 => (match d, tpairW u v with
    | .tab t, some k => .ok (.bl ((tfind k t).isSome != ng)) S3
    | _, _ => .no)
def kTinB (C : Cn) (ng : Bool) (o : E) (u : W) (ρ : Rho) (r : Out W) : Out W := r.bd fun v S2 => kTinC ng u v (den C o ρ S2)
def kTinA (C : Cn) (ng : Bool) (y o : E) (ρ : Rho) (r : Out W) : Out W := r.bd fun u S1 => kTinB C ng o u ρ (den C y ρ S1)
@[simp] theorem den_tin {ng : Bool} {x y o : E} : den C (.tin ng x y o) ρ S = kTinA C ng y o ρ (den C x ρ S) := (rfl)
@[simp] theorem kTinA_ok {ng : Bool} {y o : E} {u : W} : kTinA C ng y o ρ (.ok u S) = kTinB C ng o u ρ (den C y ρ S) := (rfl)
@[simp] theorem kTinB_ok {ng : Bool} {o : E} {u v : W} : kTinB C ng o u ρ (.ok v S) = kTinC ng u v (den C o ρ S) := (rfl)
@[simp] theorem kTinC_ok {ng b : Bool} {z : Str} {t : Tab} : kTinC ng (.bl b) (.str z) (.ok (.tab t) S) = .ok (.bl ((tfind (b, z) t).isSome != ng)) S := (rfl)
def kTntC (ng : Bool) (u v : W) (r : Out W) : Out Bool := r.bd fun d S3 => (match d, tpairW u v with
    | .tab t, some k => .ok ((tfind k t).isSome != ng) S3
    | _, _ => .no)
def kTntB (C : Cn) (ng : Bool) (o : E) (u : W) (ρ : Rho) (r : Out W) : Out Bool := r.bd fun v S2 => kTntC ng u v (den C o ρ S2)
def kTntA (C : Cn) (ng : Bool) (y o : E) (ρ : Rho) (r : Out W) : Out Bool := r.bd fun u S1 => kTntB C ng o u ρ (den C y ρ S1)
def kGin (C : Cn) (d : Str) (o : Out W) : Out Bool := o.bd fun u S1 => (match u with
    | .str z => .ok (lkS z (C.gl.gd d)).isSome S1
    | _ => .no)
@[simp] theorem kGin_ok {d z : Str} : kGin C d (.ok (.str z) S) = .ok (lkS z (C.gl.gd d)).isSome S := (rfl)
@[simp] theorem tst_gin {d : Str} {x : E} : tst C (.gin d x) ρ S = kGin C d (den C x ρ S) := (rfl)
@[simp] theorem tst_tin {ng : Bool} {x y o : E} : tst C (.tin ng x y o) ρ S = kTntA C ng y o ρ (den C x ρ S) := (rfl)
@[simp] theorem kTntA_ok {ng : Bool} {y o : E} {u : W} : kTntA C ng y o ρ (.ok u S) = kTntB C ng o u ρ (den C y ρ S) := (rfl)
@[simp] theorem kTntB_ok {ng : Bool} {o : E} {u v : W} : kTntB C ng o u ρ (.ok v S) = kTntC ng u v (den C o ρ S) := (rfl)
@[simp] theorem kTntC_ok {ng b : Bool} {z : Str} {t : Tab} : kTntC ng (.bl b) (.str z) (.ok (.tab t) S) = .ok ((tfind (b, z) t).isSome != ng) S := (rfl)
def ofTab (o : Option (Int × Str)) (S : Store) : Out W := match o with
  | some p => .ok (.tup [.int p.1, .str p.2]) S
  | none => .no
@[simp] theorem ofTab_some {p : Int × Str} : ofTab (some p) S = .ok (.tup [.int p.1, .str p.2]) S := (rfl)
def kTixC (d u : W) (r : Out W) : Out W := r.bd fun v S3 => (match d, tpairW u v with
    | .tab t, some k => ofTab (tfind k t) S3
    | _, _ => .no)
def kTixB (C : Cn) (d : W) (y : E) (ρ : Rho) (r : Out W) : Out W := r.bd fun u S2 => kTixC d u (den C y ρ S2)
def kTixA (C : Cn) (x y : E) (ρ : Rho) (r : Out W) : Out W := r.bd fun d S1 => kTixB C d y ρ (den C x ρ S1)
@[simp] theorem den_tix {x y o : E} : den C (.tix o x y) ρ S = kTixA C x y ρ (den C o ρ S) := (rfl)
@[simp] theorem kTixA_ok {x y : E} {d : W} : kTixA C x y ρ (.ok d S) = kTixB C d y ρ (den C x ρ S) := (rfl)
@[simp] theorem kTixB_ok {y : E} {d u : W} : kTixB C d y ρ (.ok u S) = kTixC d u (den C y ρ S) := (rfl)
@[simp] theorem kTixC_ok {b : Bool} {z : Str} {t : Tab} : kTixC (.tab t) (.bl b) (.ok (.str z) S) = ofTab (tfind (b, z) t) S := (rfl)
def ofTabN (o : Option (Int × Str)) (S : Store) : Out W := match o with
  | some p => .ok (.tup [.int p.1, .str p.2]) S
  | none => .ok .non S
@[simp] theorem ofTabN_some {p : Int × Str} : ofTabN (some p) S = .ok (.tup [.int p.1, .str p.2]) S := (rfl)
@[simp] theorem ofTabN_none : ofTabN none S = .ok .non S := (rfl)
def kTgtC (t : Tab) (u : W) (r : Out W) : Out W := r.bd fun v S3 => (match tpairW u v with
    | some k => ofTabN (tfind k t) S3
    | none => .no)
def kTgtB (C : Cn) (t : Tab) (y : E) (ρ : Rho) (r : Out W) : Out W := r.bd fun u S2 => kTgtC t u (den C y ρ S2)
def kTgtA (C : Cn) (x y : E) (ρ : Rho) (r : Out W) : Out W := r.bd fun d S1 => (match d with
  | .tab t => kTgtB C t y ρ (den C x ρ S1)
  | _ => .no)
@[simp] theorem den_tget {x y o : E} : den C (.tget o x y) ρ S = kTgtA C x y ρ (den C o ρ S) := (rfl)
@[simp] theorem kTgtA_ok {x y : E} {t : Tab} : kTgtA C x y ρ (.ok (.tab t) S) = kTgtB C t y ρ (den C x ρ S) := (rfl)
@[simp] theorem kTgtB_ok {y : E} {t : Tab} {u : W} : kTgtB C t y ρ (.ok u S) = kTgtC t u (den C y ρ S) := (rfl)
@[simp] theorem kTgtC_ok {b : Bool} {z : Str} {t : Tab} : kTgtC t (.bl b) (.ok (.str z) S) = ofTabN (tfind (b, z) t) S := (rfl)
/-! ### texts of parts -/
@[simp] theorem den_fstr {es : List E} : den C (.fstr es) ρ S = fstrD C es ⟨#[]⟩ ρ S := (rfl)
def kFs (C : Cn) (es : List E) (acc : Str) (ρ : Rho) (r : Out W) : Out W := r.bd fun x S1 => (match x with
    | .str y => if acc.length + y.length ≤ line then fstrD C es (acc ++ y) ρ S1 else .no
    | _ => .no)
@[simp] theorem fstrD_nil {acc : Str} : fstrD C [] acc ρ S = .ok (.str acc) S := (rfl)
@[simp] theorem fstrD_cons {e : E} {es : List E} {acc : Str} : fstrD C (e :: es) acc ρ S = kFs C es acc ρ (den C e ρ S) := (rfl)
@[simp] theorem kFs_ok {es : List E} {acc y : Str} (h : acc.length + y.length ≤ line) : kFs C es acc ρ (.ok (.str y) S) = fstrD C es (acc ++ y) ρ S := by
  simp only [kFs, Out.bd_ok, h, if_true]
/-! ### tables made -/
def tabStep (C : Cn) (own : List Nat) (t : Tg) (x y e : E) (ρ : Rho) : W → Tab → Store → Out Tab := fun z acc S2 => (ofOpt (tgW t z (wipeR ρ own)) S2).bd fun ρ2 S2 => (den C x ρ2 S2).noex.bd fun u S3 => (den C y ρ2 S3).noex.bd fun v S4 => (den C e ρ2 S4).noex.bd fun w S5 => (match tpairW u v, tvalW w with
        | some k, some p => if acc.length < line then .ok (tput k p acc) S5 else .no
        | _, _ => .no)
def kTabc (C : Cn) (own : List Nat) (t : Tg) (x y e : E) (ρ : Rho) (r : Out (List W)) : Out W := r.bd fun xs S1 => (turnsT (tabStep C own t x y e ρ) xs [] S1).bd fun t S6 => .ok (.tab t) S6
@[simp] theorem den_tabc {own : List Nat} {t : Tg} {it : I} {x y e : E} : den C (.tabc own t it x y e) ρ S = kTabc C own t x y e ρ (itr C it ρ S) := (rfl)
/-- rows that each lay one entry -/
theorem turnsT_map {α β : Type} {step : W → List β → Store → Out (List β)} {g : List β → α → List β} {v : α → W} {S : Store} : ∀ (as : List α) (acc : List β), (∀ a ∈ as, ∀ acc, acc.length < line → step (v a) acc S = .ok (g acc a) S) → (∀ acc a, (g acc a).length ≤ acc.length + 1) → acc.length + as.length ≤ line →
    turnsT step (as.map v) acc S = .ok (as.foldl g acc) S
  | [], acc, _, _, _ => rfl
  | a :: as, acc, h, hg, hl => by
    simp only [List.map_cons, turnsT, List.length_cons] at hl ⊢
    rw [h a (by simp) acc (by omega), Out.bd_ok, List.foldl_cons]
    exact turnsT_map as _ (fun b hb => h b (by simp [hb])) hg (by have := hg acc a; omega)
theorem tput_length (k : Bool × Str) (v : Int × Str) (t : Tab) : (tput k v t).length ≤ t.length + 1 := by
  unfold tput; split <;> simp
/-! ### the greatest by a worth -/
theorem maxkL_map {α : Type} {fn : List W → Store → Out W} {v : α → W} {k : α → W} {gt : α → α → Bool} {S : Store} : ∀ (as : List α) (b : α), (∀ a ∈ as, fn [v a] S = .ok (k a) S) → (∀ a c, gtW (k a) (k c) = some (gt a c)) →
    maxkL fn (as.map v) (v b) (k b) S = .ok (v (as.foldl (fun b a => if gt a b = true then a else b) b)) S
  | [], b, _, _ => rfl
  | a :: as, b, h, hg => by
    simp only [List.map_cons, maxkL]
    rw [h a (by simp), Out.noex_ok, Out.bd_ok, hg a b]
    dsimp only
    have e1 : (if gt a b = true then v a else v b) = v (if gt a b = true then a else b) := by split <;> rfl
    have e2 : (if gt a b = true then k a else k b) = k (if gt a b = true then a else b) := by split <;> rfl
    rw [e1, e2, List.foldl_cons]
    exact maxkL_map as _ (fun c hc => h c (by simp [hc])) hg
/-- .. is one of them -/
theorem foldl_pick {α : Type} (gt : α → α → Bool) : ∀ (as : List α) (b : α), (as.foldl (fun b a => if gt a b = true then a else b) b) ∈ b :: as
  | [], b => by simp
  | a :: as, b => by
    rw [List.foldl_cons]
    have := foldl_pick gt as (if gt a b = true then a else b)
    by_cases h : gt a b = true
    · rw [if_pos h] at this ⊢; simp only [List.mem_cons] at this ⊢; exact .inr this
    · rw [if_neg h] at this ⊢; simp only [List.mem_cons] at this ⊢
      rcases this with e | e
      · exact .inl e
      · exact .inr (.inr e)
theorem maxkW_map {α : Type} {fn : List W → Store → Out W} {v : α → W} {k : α → W} {gt : α → α → Bool} {S : Store} (b : α) (as : List α) (h : ∀ a ∈ b :: as, fn [v a] S = .ok (k a) S) (hg : ∀ a c, gtW (k a) (k c) = some (gt a c)) :
    maxkW fn ((b :: as).map v) S = .ok (v (as.foldl (fun b a => if gt a b = true then a else b) b)) S := by
  simp only [List.map_cons, maxkW]
  rw [h b (by simp), Out.noex_ok, Out.bd_ok]
  exact maxkL_map as b (fun c hc => h c (by simp [hc])) hg
/-! ### x[-2::-1], count, three at once, handlers of constants -/
def kRev2 (fz : Bool) (o : Out W) : Out W := o.bd fun x S1 => (match lstW S1 x with
    | some xs => newL fz xs.dropLast.reverse S1
    | none => .no)
@[simp] theorem den_rev2 {fz : Bool} {o : E} : den C (.rev2 fz o) ρ S = kRev2 fz (den C o ρ S) := (rfl)
@[simp] theorem kRev2_lst {fz : Bool} {xs : List W} : kRev2 fz (.ok (.lst xs) S) = newL fz xs.dropLast.reverse S := (rfl)
theorem mtW_count {xs : List W} {ys : List Str} {x : Str} (h : strsOf xs = some ys) : mtW .count (.lst xs) [.str x] S = .ok (.int (ys.count x : Nat)) S := by simp only [mtW, lstW, h]
def kP3c (i j l : Nat) (x y : W) (ρ : Rho) (o : Out W) : Out Fl := o.bd fun z S3 => .ok (.nx (((ρ.set i (some x)).set j (some y)).set l (some z))) S3
def kP3b (C : Cn) (i j l : Nat) (c : E) (x : W) (ρ : Rho) (o : Out W) : Out Fl := o.bd fun y S2 => kP3c i j l x y ρ (den C c ρ S2)
def kP3a (C : Cn) (i j l : Nat) (b c : E) (ρ : Rho) (o : Out W) : Out Fl := o.bd fun x S1 => kP3b C i j l c x ρ (den C b ρ S1)
@[simp] theorem kP3c_ok {i j l : Nat} {x y z : W} : kP3c i j l x y ρ (.ok z S) = .ok (.nx (((ρ.set i (some x)).set j (some y)).set l (some z))) S := (rfl)
@[simp] theorem kP3b_ok {i j l : Nat} {c : E} {x y : W} : kP3b C i j l c x ρ (.ok y S) = kP3c i j l x y ρ (den C c ρ S) := (rfl)
@[simp] theorem kP3a_ok {i j l : Nat} {b c : E} {x : W} : kP3a C i j l b c ρ (.ok x S) = kP3b C i j l c x ρ (den C b ρ S) := (rfl)
@[simp] theorem exe_par3 {i j l : Nat} {a b c : E} : exe C (.par3 i j l a b c) ρ S = kP3a C i j l b c ρ (den C a ρ S) := (rfl)
def kTryA (C : Cn) (i : Nat) (c : Str) (r : E) (ρ : Rho) (o : Out W) : Out Fl := match o with
    | .ok w S1 => .ok (.nx (ρ.set i (some w))) S1
    | .ex x S1 => (match C.gl.sub x.cls c with
      | some true => (cstO r S1).bd fun w S2 => .ok (.nx (ρ.set i (some w))) S2
      | some false => .ex x S1
      | none => .no)
    | .no => .no
@[simp] theorem exe_tryA {i : Nat} {e : E} {c : Str} {r : E} : exe C (.tryA i e c r) ρ S = kTryA C i c r ρ (den C e ρ S) := by
  simp only [exe, kTryA] <;> rfl
@[simp] theorem kTryA_ok {i : Nat} {c : Str} {r : E} {w : W} : kTryA C i c r ρ (.ok w S) = .ok (.nx (ρ.set i (some w))) S := (rfl)
theorem kTryA_ex {i : Nat} {c : Str} {r : E} {x : Xc} {w : W} (h : C.gl.sub x.cls c = some true) (hw : cstO r S = .ok w S) : kTryA C i c r ρ (.ex x S) = .ok (.nx (ρ.set i (some w))) S := by
  simp only [kTryA, h, hw] <;> rfl
def kTryC (C : Cn) (hs : List (Str × E)) (o : Out Fl) : Out Fl := match o with
    | .ok f S1 => .ok f S1
    | .ex x S1 => hdsO (C.gl.sub x.cls) x hs S1
    | .no => .no
@[simp] theorem exe_tryC {b : List Sm} {hs : List (Str × E)} : exe C (.tryC b hs) ρ S = kTryC C hs (exes C b ρ S) := by
  simp only [exe, kTryC] <;> rfl
@[simp] theorem kTryC_ok {hs : List (Str × E)} {f : Fl} : kTryC C hs (.ok f S) = .ok f S := (rfl)
@[simp] theorem kTryC_ex {hs : List (Str × E)} {x : Xc} : kTryC C hs (.ex x S) = hdsO (C.gl.sub x.cls) x hs S := (rfl)
end Gs
end

section
set_option linter.all false
set_option maxRecDepth 100000
namespace K39
open PySem Gs
def fuel : Nat := 100000
def lv : Nat := 90
def F (n : Nat) : Str → List W → Store → Out W := fnN gc.g fuel ds n
def C (n : Nat) : Cn := Cx gc.g fuel ds n
@[simp] theorem C_fn {n : Nat} : (C n).fn = F n := rfl
@[simp] theorem C_gl {n : Nat} : (C n).gl = gc.g := rfl
@[simp] theorem C_fuel {n : Nat} : (C n).fuel = fuel := rfl
theorem F_run {n : Nat} {f : Str} {vs : List W} {S : Store} (d : Fd) (h : ds.find? (·.name = f) = some d) (hv : vs.length = d.np) :
    F (n + 1) f vs S = kRun S.length (exes (C n) d.body (vs.map some ++ List.replicate (d.ns - d.np) none) S) := fn_run d h hv
theorem f_draw {n : Nat} {d : DS} (R : Store) (m : Int) {b : Int} (h : Good b d) (hb : b < 100000000000) (hm : 0 < m) (hm' : m < 2 ^ 250) :
    ∃ r d', F (n + 1) "_law_draw" [.loc 1, .int m] (st d ++ R) = .ok (.int r) (st d' ++ R) ∧ 0 ≤ r ∧ r < m ∧ Good (b + 1) d' := draw_ok rfl R m h hb hm hm'
/-! ### sums -/
inductive Sg where
  | add | sub | mul | div | mod
def Sg.s : Sg → Str
  | .add => "+" | .sub => "-" | .mul => "*" | .div => "//" | .mod => "mod"
inductive Su where
  | num (i : Int) | nm (x : Str) | op (s : Sg) (l r : Su)
def Su.w : Su → W
  | .num i => .int i
  | .nm x => .str x
  | .op s l r => .tup [.str s.s, l.w, r.w]
def Su.dp : Su → Nat
  | .op _ l r => max l.dp r.dp + 1
  | _ => 0
/-- small numbers, names of a kind -/
def Su.Ok (P : Str → Prop) : Su → Prop
  | .num i => i.natAbs < 2 ^ 200
  | .nm x => P x
  | .op _ l r => l.Ok P ∧ r.Ok P
theorem Su.Ok.imp {P Q : Str → Prop} (h : ∀ x, P x → Q x) : ∀ {t : Su}, t.Ok P → t.Ok Q
  | .num _, k => k
  | .nm x, k => h x k
  | .op _ l r, k => ⟨Su.Ok.imp h k.1, Su.Ok.imp h k.2⟩
def ofO : Option Int → W
  | none => .non
  | some i => .int i
def rek : Sg → Int → Int → Option Int
  | .add, a, b => some (a + b)
  | .sub, a, b => some (a - b)
  | .mul, a, b => some (a * b)
  | .div, a, b => if b = 0 then none else some (a.fdiv b)
  | .mod, a, b => if b = 0 then none else some (a.fmod b)
def rekO (s : Sg) : Option Int → Option Int → Option Int
  | some a, some b => rek s a b
  | _, _ => none
abbrev Dc := List (Key × W)
def numW : W → Option Int
  | .int i => some i
  | _ => none
def valO (kvs : Dc) (x : Str) : Option Int := (dget (.inr x) kvs).bind numW
def worth (kvs : Dc) : Su → Option Int
  | .num i => some i
  | .nm x => valO kvs x
  | .op s l r => rekO s (worth kvs l) (worth kvs r)
/-- what a filling holds -/
def Pl (w : W) : Prop := (∃ i : Int, w = .int i ∧ i.natAbs < 2 ^ 200) ∨ (∃ x, w = .str x) ∨ ∃ s a b, w = .tup (.str s :: .int a :: b) ∧ (b = [] ∨ ∃ c, b = [.int c])
structure Fil (kvs : Dc) : Prop where
  vals : ∀ k v, dget k kvs = some v → Pl v
  noi : ∀ i : Int, dget (.inl i) kvs = none
theorem val_lt {kvs : Dc} (h : Fil kvs) {x : Str} {v : Int} (e : valO kvs x = some v) : v.natAbs < 2 ^ 200 := by
  unfold valO at e
  cases hd : dget (.inr x) kvs with
  | none => rw [hd] at e; cases e
  | some w =>
    rw [hd] at e
    rcases h.vals _ _ hd with ⟨i, rfl, hi⟩ | ⟨y, rfl⟩ | ⟨_, _, _, rfl, _⟩
    · cases e; exact hi
    · cases e
    · cases e
theorem leaf_lt {kvs : Dc} (h : Fil kvs) {P : Str → Prop} : ∀ {t : Su}, t.Ok P → t.dp = 0 → ∀ {v : Int}, worth kvs t = some v → v.natAbs < 2 ^ 200
  | .num i, k, _, v, e => by cases e; exact k
  | .nm x, _, _, v, e => val_lt h e
  | .op _ _ _, _, hd, _, _ => by simp [Su.dp] at hd
theorem fmod_abs (a b : Int) (hb : b ≠ 0) : (a.fmod b).natAbs ≤ b.natAbs := by
  rcases Int.lt_or_gt_of_ne hb with h | h
  · have h2 := Int.fmod_lt_of_pos (-a) (show 0 < -b by omega)
    have h3 := Int.fmod_nonneg_of_pos (-a) (show 0 < -b by omega)
    rw [Int.neg_fmod_neg] at h2 h3
    omega
  · have h2 := Int.fmod_lt_of_pos a h
    have h3 := Int.fmod_nonneg_of_pos a h
    omega
theorem fdiv_abs (a b : Int) : (a.fdiv b).natAbs ≤ a.natAbs + 1 := by
  by_cases hb : b = 0
  · subst hb; simp
  · have h1 := Int.mul_fdiv_add_fmod a b
    have h2 := fmod_abs a b hb
    have h3 : (b * a.fdiv b).natAbs ≤ a.natAbs + b.natAbs := by omega
    rw [Int.natAbs_mul] at h3
    have hb' : 0 < b.natAbs := by omega
    by_cases hq : (a.fdiv b).natAbs ≤ 1
    · omega
    · have h4 : (a.fdiv b).natAbs - 1 ≤ a.natAbs := by
        have h5 : b.natAbs * ((a.fdiv b).natAbs - 1) ≤ a.natAbs := by
          rw [Nat.mul_sub]
          omega
        exact Nat.le_trans (Nat.le_mul_of_pos_left _ hb') h5
      omega
theorem rek_lt {s : Sg} {a b v : Int} (ha : a.natAbs < 2 ^ 200) (hb : b.natAbs < 2 ^ 200) (e : rek s a b = some v) : v.natAbs < 2 ^ 400 := by
  have hm : (a * b).natAbs < 2 ^ 400 := by
    rw [Int.natAbs_mul, show (400 : Nat) = 200 + 200 from rfl, Nat.pow_add]
    exact Nat.mul_lt_mul_of_lt_of_lt ha hb
  have h2 : (2 : Nat) ^ 201 ≤ 2 ^ 400 := Nat.pow_le_pow_right (by omega) (by omega)
  have h3 : (2 : Nat) ^ 201 = 2 * 2 ^ 200 := by omega
  have h0 : (1 : Nat) ≤ 2 ^ 200 := Nat.one_le_two_pow
  cases s with
  | add => cases e; omega
  | sub => cases e; omega
  | mul => cases e; exact hm
  | div =>
    simp only [rek] at e
    split at e
    · cases e
    · cases e
      have := fdiv_abs a b
      omega
  | mod =>
    simp only [rek] at e
    split at e
    · cases e
    · cases e
      have := fmod_abs a b (by assumption)
      omega
theorem worth_lt {kvs : Dc} (h : Fil kvs) {P : Str → Prop} {t : Su} (k : t.Ok P) (hd : t.dp ≤ 1) {v : Int} (e : worth kvs t = some v) : v.natAbs < 2 ^ 400 := by
  have h2 : (2 : Nat) ^ 200 ≤ 2 ^ 400 := Nat.pow_le_pow_right (by omega) (by omega)
  cases t with
  | num i => have := leaf_lt h k rfl e; omega
  | nm x => have := leaf_lt h (P := P) (t := .nm x) k rfl e; omega
  | op s l r =>
    simp only [Su.dp] at hd
    simp only [worth] at e
    cases hl : worth kvs l with
    | none => rw [hl] at e; cases e
    | some a =>
      cases hr : worth kvs r with
      | none => rw [hl, hr] at e; cases e
      | some b =>
        rw [hl, hr] at e
        exact rek_lt (leaf_lt h k.1 (by omega) hl) (leaf_lt h k.2 (by omega) hr) e
/-! ### walks of a worth -/
@[simp] theorem ne_add_sub : (("+" : Str) = "-") = False := eq_false (by decide)
@[simp] theorem ne_add_mul : (("+" : Str) = "*") = False := eq_false (by decide)
@[simp] theorem ne_add_div : (("+" : Str) = "//") = False := eq_false (by decide)
@[simp] theorem ne_add_mod : (("+" : Str) = "mod") = False := eq_false (by decide)
@[simp] theorem ne_sub_add : (("-" : Str) = "+") = False := eq_false (by decide)
@[simp] theorem ne_sub_mul : (("-" : Str) = "*") = False := eq_false (by decide)
@[simp] theorem ne_sub_div : (("-" : Str) = "//") = False := eq_false (by decide)
@[simp] theorem ne_sub_mod : (("-" : Str) = "mod") = False := eq_false (by decide)
@[simp] theorem ne_mul_add : (("*" : Str) = "+") = False := eq_false (by decide)
@[simp] theorem ne_mul_sub : (("*" : Str) = "-") = False := eq_false (by decide)
@[simp] theorem ne_mul_div : (("*" : Str) = "//") = False := eq_false (by decide)
@[simp] theorem ne_mul_mod : (("*" : Str) = "mod") = False := eq_false (by decide)
@[simp] theorem ne_div_add : (("//" : Str) = "+") = False := eq_false (by decide)
@[simp] theorem ne_div_sub : (("//" : Str) = "-") = False := eq_false (by decide)
@[simp] theorem ne_div_mul : (("//" : Str) = "*") = False := eq_false (by decide)
@[simp] theorem ne_div_mod : (("//" : Str) = "mod") = False := eq_false (by decide)
@[simp] theorem ne_mod_add : (("mod" : Str) = "+") = False := eq_false (by decide)
@[simp] theorem ne_mod_sub : (("mod" : Str) = "-") = False := eq_false (by decide)
@[simp] theorem ne_mod_mul : (("mod" : Str) = "*") = False := eq_false (by decide)
@[simp] theorem ne_mod_div : (("mod" : Str) = "//") = False := eq_false (by decide)
theorem f_reckoned {n : Nat} (S : Store) (s : Sg) (a b : Option Int) (ha : ∀ v, a = some v → v.natAbs < 2 ^ 200) (hb : ∀ v, b = some v → v.natAbs < 2 ^ 200) :
    F (n + 1) "reckoned" [.str s.s, ofO a, ofO b] S = .ok (ofO (rekO s a b)) S := by
  rw [F_run d_reckoned rfl rfl]
  cases a with
  | none => cases s <;> simp [b_reckoned, ofO, rekO]
  | some a =>
    cases b with
    | none => cases s <;> simp [b_reckoned, ofO, rekO]
    | some b =>
      have ba := ha a rfl
      have bb := hb b rfl
      have mab := binW_mul (S := S) (fz := true) (mulOk_of 200 200 ba bb (by omega))
      cases s
      · simp [b_reckoned, ofO, rekO, rek, Sg.s]
      · simp [b_reckoned, ofO, rekO, rek, Sg.s]
      · simp [b_reckoned, ofO, rekO, rek, Sg.s, mab]
      all_goals
        by_cases hb0 : b = 0
        · subst hb0; simp [b_reckoned, ofO, rekO, rek, Sg.s]
        · have dm := biW_divmod (S := S) (i := a) (divOk_of hb0 200 bb (by omega))
          simp [b_reckoned, ofO, rekO, rek, Sg.s, hb0, dm]
/-- names start with a capital -/
def UpN (x : Str) : Prop := ∃ c r, x.cps.toList = c :: r ∧ 65 ≤ c ∧ c ≤ 90
end K39
end

section
set_option linter.all false
set_option maxRecDepth 100000
namespace K39
open PySem Gs
theorem upA {S : Store} {x : Str} (h : UpN x) : ∃ c : Nat, getW (.str x) (.int 0) S = .ok (.str ⟨#[c]⟩) S ∧ cmpW .LtE (.str "A") (.str (⟨#[c]⟩ : Str)) S = .ok true S ∧ cmpW .LtE (.str (⟨#[c]⟩ : Str)) (.str "Z") S = .ok true S := by
  obtain ⟨c, r, e, h1, h2⟩ := h
  have lt1 : ∀ a b : Nat, ltStr (⟨#[a]⟩ : Str) ⟨#[b]⟩ = decide (a < b) := by
    intro a b
    unfold ltStr
    have e : (([a] : List Nat) < [b]) ↔ a < b := by
      rw [List.cons_lt_cons_iff]
      exact ⟨fun h => h.elim id fun h => absurd h.2 (by simp), .inl⟩
    exact decide_eq_decide.mpr e
  have eA : ("A" : Str) = ⟨#[65]⟩ := rfl
  have eZ : ("Z" : Str) = ⟨#[90]⟩ := rfl
  refine ⟨c, ?_, ?_, ?_⟩
  · have : atW x.cps.toList (0 : Int) = some c := by
      rw [e]
      unfold atW ixW
      simp
    simp only [getW, this]
  · rw [eA]
    show Out.ok (!ltStr (⟨#[c]⟩ : Str) ⟨#[65]⟩) S = _
    rw [lt1]
    congr 1
    simp; omega
  · rw [eZ]
    show Out.ok (!ltStr (⟨#[90]⟩ : Str) ⟨#[c]⟩) S = _
    rw [lt1]
    congr 1
    simp; omega
theorem f_isU {x : Str} (h : UpN x) (k : Nat) (S : Store) : F (k + 1) "is_unknown" [.str x] S = .ok (.bl true) S := by
  rw [F_run d_is_unknown rfl rfl]
  obtain ⟨c, e1, e2, e3⟩ := upA (S := S) h
  simp [b_is_unknown, e1, e2, e3]
theorem f_isI (i : Int) (k : Nat) (S : Store) : F (k + 1) "is_unknown" [.int i] S = .ok (.bl false) S := by
  rw [F_run d_is_unknown rfl rfl]
  simp [b_is_unknown]
theorem f_num {w : W} (h : Pl w) (k : Nat) (S : Store) : F (k + 1) "number_in" [w] S = .ok (ofO (numW w)) S := by
  rw [F_run d_number_in rfl rfl]
  rcases h with ⟨i, rfl, hi⟩ | ⟨x, rfl⟩ | ⟨_, _, _, rfl, _⟩ <;> simp [b_number_in, numW, ofO]
theorem f_numI (i : Int) (k : Nat) (S : Store) : F (k + 1) "number_in" [.int i] S = .ok (.int i) S := by
  rw [F_run d_number_in rfl rfl]
  simp [b_number_in]
/-- a name that the filling holds -/
def Has (kvs : Dc) (x : Str) : Prop := UpN x ∧ ∃ v, dget (.inr x) kvs = some v
theorem f_sumunder {kvs : Dc} (hk : Fil kvs) {S : Store} {l : Nat} (hS : S[l]? = some (some (.dic kvs))) : ∀ (t : Su), t.Ok (Has kvs) → t.dp ≤ 1 → ∀ n, t.dp + 2 ≤ n → F n "sum_under" [t.w, .loc l] S = .ok (ofO (worth kvs t)) S := by
  intro t
  induction t with
  | num i =>
    intro h hd n hn
    obtain ⟨n, rfl⟩ : ∃ m, n = m + 2 := ⟨n - 2, by omega⟩
    rw [F_run d_sum_under rfl rfl]
    simp [b_sum_under, Su.w, f_isI, f_numI, worth, ofO]
  | nm x =>
    intro h hd n hn
    obtain ⟨n, rfl⟩ : ∃ m, n = m + 2 := ⟨n - 2, by omega⟩
    rw [F_run d_sum_under rfl rfl]
    obtain ⟨hx, v, hv⟩ := h
    have e1 := f_isU hx n S
    have e2 := f_num (hk.vals _ _ hv) n S
    simp [b_sum_under, Su.w, e1, hS, hv, e2, worth, valO]
  | op s a b iha ihb =>
    intro h hd n hn
    simp only [Su.dp] at hd hn
    obtain ⟨n, rfl⟩ : ∃ m, n = m + 3 := ⟨n - 3, by omega⟩
    have ea := iha h.1 (by omega) (n + 2) (by omega)
    have eb := ihb h.2 (by omega) (n + 2) (by omega)
    have ek := f_reckoned (n := n + 1) S s (worth kvs a) (worth kvs b) (fun v e => leaf_lt hk h.1 (by omega) e) (fun v e => leaf_lt hk h.2 (by omega) e)
    rw [F_run d_sum_under rfl rfl]
    simp [b_sum_under, Su.w, ea, eb, ek, worth]
theorem f_lworth {kvs : Dc} (hk : Fil kvs) {S : Store} {l : Nat} (hS : S[l]? = some (some (.dic kvs))) : ∀ (t : Su), t.Ok (Has kvs) → t.dp ≤ 1 → ∀ n, t.dp + 1 ≤ n → F n "_law_worth" [t.w, .loc l] S = .ok (ofO (worth kvs t)) S := by
  intro t
  induction t with
  | num i =>
    intro h hd n hn
    obtain ⟨n, rfl⟩ : ∃ m, n = m + 1 := ⟨n - 1, by omega⟩
    rw [F_run d__law_worth rfl rfl]
    have dg : kDg3 (.loc l) (.int i) (.int i) S = .ok (.int i) S := by
      rw [kDg3_i (kvs := kvs) (by simp [hS]), hk.noi]; rfl
    simp [b__law_worth, Su.w, hS, dg, worth, ofO]
  | nm x =>
    intro h hd n hn
    obtain ⟨n, rfl⟩ : ∃ m, n = m + 1 := ⟨n - 1, by omega⟩
    rw [F_run d__law_worth rfl rfl]
    obtain ⟨hx, v, hv⟩ := h
    have dg : kDg3 (.loc l) (.str x) (.str x) S = .ok v S := by
      rw [kDg3_s (kvs := kvs) (by simp [hS]), hv]; rfl
    rcases hk.vals _ _ hv with ⟨i, rfl, hi⟩ | ⟨y, rfl⟩ | ⟨_, _, _, rfl, _⟩ <;> simp [b__law_worth, Su.w, hS, dg, worth, valO, hv, numW, ofO]
  | op s a b iha ihb =>
    intro h hd n hn
    simp only [Su.dp] at hd hn
    obtain ⟨n, rfl⟩ : ∃ m, n = m + 1 := ⟨n - 1, by omega⟩
    have ea := iha h.1 (by omega) n (by omega)
    have eb := ihb h.2 (by omega) n (by omega)
    have bA := fun v e => leaf_lt hk h.1 (by omega) (v := v) e
    have bB := fun v e => leaf_lt hk h.2 (by omega) (v := v) e
    rw [F_run d__law_worth rfl rfl]
    have g0 : ∀ S, getW (.tup [.str s.s, a.w, b.w]) (.int 0) S = .ok (.str s.s) S := fun S => rfl
    have g1 : ∀ S, getW (.tup [.str s.s, a.w, b.w]) (.int 1) S = .ok a.w S := fun S => rfl
    have g2 : ∀ S, getW (.tup [.str s.s, a.w, b.w]) (.int 2) S = .ok b.w S := fun S => rfl
    have hin : ∀ z : Str, inO S (.str z) (.lst [.str "//", .str "mod"]) = some (decide (("//" : Str) = z) || (decide (("mod" : Str) = z) || false)) := fun z => rfl
    simp only [Su.w, worth]
    cases hwa : worth kvs a with
    | none =>
      rw [hwa] at ea
      simp [b__law_worth, ea, eb, ofO, rekO]
    | some x =>
      rw [hwa] at ea
      cases hwb : worth kvs b with
      | none =>
        rw [hwb] at eb
        simp [b__law_worth, ea, eb, ofO, rekO]
      | some y =>
        rw [hwb] at eb
        have ba := bA x hwa
        have bb := bB y hwb
        have mab := binW_mul (S := S) (fz := true) (mulOk_of 200 200 ba bb (by omega))
        by_cases hy : y = 0
        · subst hy
          have mab0 : binW true .Mult (.int x) (.int 0) S = .ok (.int (x * 0)) S := mab
          cases s
          · simp [b__law_worth, ea, eb, ofO, rekO, rek, Sg.s, hin]
          · simp [b__law_worth, ea, eb, ofO, rekO, rek, Sg.s, hin]
          · simp [b__law_worth, ea, eb, ofO, rekO, rek, Sg.s, hin, mab0]
          · simp [b__law_worth, ea, eb, ofO, rekO, rek, Sg.s, hin]
          · simp [b__law_worth, ea, eb, ofO, rekO, rek, Sg.s, hin]
        · have dk : divOk y := divOk_of hy 200 bb (by omega)
          cases s
          · simp [b__law_worth, ea, eb, ofO, rekO, rek, Sg.s, hy]
          · simp [b__law_worth, ea, eb, ofO, rekO, rek, Sg.s, hy]
          · simp [b__law_worth, ea, eb, ofO, rekO, rek, Sg.s, hy, mab]
          · simp [b__law_worth, ea, eb, ofO, rekO, rek, Sg.s, hy, binW_div dk]
          · simp [b__law_worth, ea, eb, ofO, rekO, rek, Sg.s, hy, binW_mod hy]
end K39
end

section
set_option linter.all false
set_option maxRecDepth 100000
namespace K39
open PySem Gs
/-! ### a pure value is equal to itself -/
mutual
theorem eqb_self : ∀ (n : Nat) (w : W), 0 < w.pure → W.eqb w w = true
  | _, .non, _ => rfl
  | _, .bl b, _ => by simp [W.eqb]
  | _, .int b, _ => by simp [W.eqb]
  | _, .str b, _ => by simp [W.eqb]
  | n, .tup xs, h => by
    simp only [W.eqb]
    apply eqbs_self n
    simp only [W.pure] at h
    cases e : W.pures xs with
    | zero => rw [e] at h; simp at h
    | succ c => omega
  | n, .lst xs, h => by
    simp only [W.eqb]
    apply eqbs_self n
    simp only [W.pure] at h
    cases e : W.pures xs with
    | zero => rw [e] at h; simp at h
    | succ c => omega
  | _, .ty _, h => by simp [W.pure] at h
  | _, .loc _, h => by simp [W.pure] at h
  | _, .fn _, h => by simp [W.pure] at h
  | _, .scr _, h => by simp [W.pure] at h
theorem eqbs_self : ∀ (n : Nat) (ws : List W), 0 < W.pures ws → W.eqbs ws ws = true
  | _, [], _ => rfl
  | n, x :: r, h => by
    simp only [W.pures] at h
    cases e1 : x.pure with
    | zero => rw [e1] at h; simp at h
    | succ a =>
      cases e2 : W.pures r with
      | zero => rw [e1, e2] at h; simp at h
      | succ c => simp only [W.eqbs, eqb_self n x (by omega), eqbs_self n r (by omega), Bool.and_self]
end
theorem eqW_self {S : Store} {w : W} (h0 : 0 < w.pure) (h1 : w.pure ≤ 61) : eqW S w w = some true := by
  rw [eqW_pure h0 h1 h0 h1, eqb_self 0 w h0]
end K39
end

section
set_option linter.all false
set_option maxRecDepth 100000
namespace K39
open PySem Gs
/-! ### trees -/
def tree (names : List Str) (kvs : Dc) : Su → Option W
  | .num i => some (.int i)
  | .nm x => if x ∈ names then some (.tup [.str "at", .int (names.idxOf x : Nat)]) else (valO kvs x).map .int
  | .op s l r => match tree names kvs l, tree names kvs r with
    | some a, some b => some (.tup [.str s.s, a, b])
    | _, _ => none
def optT : Option W → W
  | some w => w
  | none => .non
theorem tree_pure {names : List Str} {kvs : Dc} : ∀ {t : Su} {w : W}, tree names kvs t = some w → 0 < w.pure ∧ w.pure ≤ t.dp + 2 ∧ isNon w = false
  | .num i, w, h => by cases h; exact ⟨by simp [W.pure], by simp [W.pure, Su.dp], rfl⟩
  | .nm x, w, h => by
    simp only [tree] at h
    split at h
    · cases h; exact ⟨by simp [W.pure, W.pures], by simp [W.pure, W.pures, Su.dp], rfl⟩
    · cases hv : valO kvs x with
      | none => rw [hv] at h; cases h
      | some i => rw [hv] at h; cases h; exact ⟨by simp [W.pure], by simp [W.pure, Su.dp], rfl⟩
  | .op s l r, w, h => by
    simp only [tree] at h
    cases hl : tree names kvs l with
    | none => rw [hl] at h; cases h
    | some a =>
      cases hr : tree names kvs r with
      | none => rw [hl, hr] at h; cases h
      | some b =>
        rw [hl, hr] at h
        cases h
        obtain ⟨a1, a2, _⟩ := tree_pure hl
        obtain ⟨b1, b2, _⟩ := tree_pure hr
        obtain ⟨a', ha⟩ : ∃ k, a.pure = k + 1 := ⟨a.pure - 1, by omega⟩
        obtain ⟨b', hb⟩ : ∃ k, b.pure = k + 1 := ⟨b.pure - 1, by omega⟩
        refine ⟨?_, ?_, rfl⟩
        · simp [W.pure, W.pures, ha, hb]
        · simp only [W.pure, W.pures, ha, hb, Su.dp]
          omega
theorem idx_find (x : Str) : ∀ names : List Str, x ∈ names → (names.map W.str).findIdx? (fun z => W.eqb z (.str x)) = some (names.idxOf x)
  | [], h => by simp at h
  | y :: r, h => by
    rw [List.map_cons, List.findIdx?_cons]
    by_cases e : y = x
    · subst e
      simp [W.eqb]
    · have hf : W.eqb (.str y) (.str x) = false := by simp [W.eqb, e]
      rw [hf, idx_find x r (by rcases List.mem_cons.mp h with rfl | h; exact absurd rfl e; exact h)]
      have hb : (y == x) = false := by simpa using e
      simp [List.idxOf_cons, hb]
theorem resL_strs {S : Store} (n : Nat) : ∀ names : List Str, (names.map W.str).mapM (resW S n) = some (names.map W.str)
  | [] => rfl
  | x :: r => by
    have e : resW S n (.str x) = some (.str x) := by cases n <;> rfl
    rw [List.map_cons, List.mapM_cons, e, resL_strs n r]
    rfl
theorem mt_idx {S : Store} {x : Str} {names : List Str} (h : x ∈ names) : mtW .index (.lst (names.map .str)) [.str x] S = .ok (.int (names.idxOf x : Nat)) S := by
  have e1 : resW S 60 (.lst (names.map .str)) = some (.lst (names.map .str)) := by
    show ((names.map W.str).mapM (resW S 59)).map W.lst = _
    rw [resL_strs]
    rfl
  have e2 : resW S 60 (.str x) = some (.str x) := rfl
  simp only [mtW, e1, e2, idx_find x names h]
theorem in_nm {S : Store} {x : Str} (names : List Str) : inO S (.str x) (.lst (names.map .str)) = some (decide (x ∈ names)) := by
  rw [inO_lst rfl (by simp [flatW])]
  congr 1
  rw [List.any_map]
  by_cases h : x ∈ names
  · rw [decide_eq_true h, List.any_eq_true]
    exact ⟨x, h, by simp [eqF]⟩
  · rw [decide_eq_false h, List.any_eq_false]
    intro y hy
    simp only [Function.comp, eqF, decide_eq_true_eq]
    rintro rfl
    exact h hy
theorem in_nmI {S : Store} {i : Int} (names : List Str) : inO S (.int i) (.lst (names.map .str)) = some false := by
  rw [inO_lst rfl (by simp [flatW])]
  congr 1
  rw [List.any_map, List.any_eq_false]
  intro y hy
  simp [Function.comp, eqF]
/-- a name of a range, or one that the filling holds -/
def Hat (names : List Str) (kvs : Dc) (x : Str) : Prop := UpN x ∧ (x ∈ names ∨ ∃ v, dget (.inr x) kvs = some v)
theorem f_ltree {names : List Str} {kvs : Dc} (hk : Fil kvs) {S : Store} {l : Nat} (hS : S[l]? = some (some (.dic kvs))) : ∀ (t : Su), t.Ok (Hat names kvs) → ∀ n, t.dp + 1 ≤ n → F n "_law_tree" [t.w, .lst (names.map .str), .loc l] S = .ok (optT (tree names kvs t)) S := by
  intro t
  induction t with
  | num i =>
    intro h n hn
    obtain ⟨n, rfl⟩ : ∃ m, n = m + 1 := ⟨n - 1, by omega⟩
    rw [F_run d__law_tree rfl rfl]
    have dg : kDg3 (.loc l) (.int i) (.int i) S = .ok (.int i) S := by
      rw [kDg3_i (kvs := kvs) (by simp [hS]), hk.noi]; rfl
    have hi := in_nmI (S := S) (i := i) names
    obtain ⟨nw, hnw⟩ : ∃ w, w = names.map W.str := ⟨_, rfl⟩
    rw [← hnw] at hi ⊢
    simp [b__law_tree, Su.w, hi, hS, dg, tree, optT]
  | nm x =>
    intro h n hn
    obtain ⟨n, rfl⟩ : ∃ m, n = m + 1 := ⟨n - 1, by omega⟩
    rw [F_run d__law_tree rfl rfl]
    have hi := in_nm (S := S) (x := x) names
    by_cases hx : x ∈ names
    · have hm := mt_idx (S := S) hx
      rw [decide_eq_true hx] at hi
      simp only [tree, if_pos hx]
      obtain ⟨nw, hnw⟩ : ∃ w, w = names.map W.str := ⟨_, rfl⟩
      rw [← hnw] at hi hm ⊢
      simp [b__law_tree, Su.w, hi, hm, optT]
    · obtain ⟨v, hv⟩ := h.2.resolve_left hx
      have dg : kDg3 (.loc l) (.str x) (.str x) S = .ok v S := by
        rw [kDg3_s (kvs := kvs) (by simp [hS]), hv]; rfl
      rw [decide_eq_false hx] at hi
      simp only [tree, if_neg hx]
      obtain ⟨nw, hnw⟩ : ∃ w, w = names.map W.str := ⟨_, rfl⟩
      rw [← hnw] at hi ⊢
      rcases hk.vals _ _ hv with ⟨i, rfl, hi'⟩ | ⟨y, rfl⟩ | ⟨_, _, _, rfl, _⟩ <;> simp [b__law_tree, Su.w, hi, hS, dg, valO, hv, numW, optT]
  | op s a b iha ihb =>
    intro h n hn
    simp only [Su.dp] at hn
    obtain ⟨n, rfl⟩ : ∃ m, n = m + 1 := ⟨n - 1, by omega⟩
    have ea := iha h.1 n (by omega)
    have eb := ihb h.2 n (by omega)
    rw [F_run d__law_tree rfl rfl]
    obtain ⟨nw, hnw⟩ : ∃ w, w = names.map W.str := ⟨_, rfl⟩
    rw [← hnw] at ea eb ⊢
    simp only [Su.w, tree]
    have g0 : ∀ (p q : W) S, getW (.lst [p, q]) (.int 0) S = .ok p S := fun _ _ _ => rfl
    have g1 : ∀ (p q : W) S, getW (.lst [p, q]) (.int 1) S = .ok q S := fun _ _ _ => rfl
    cases hta : tree names kvs a with
    | none =>
      rw [hta] at ea
      simp [b__law_tree, ea, eb, optT, g0, g1]
    | some x =>
      rw [hta] at ea
      have nx := (tree_pure hta).2.2
      cases htb : tree names kvs b with
      | none =>
        rw [htb] at eb
        simp [b__law_tree, ea, eb, optT, g0, g1, nx]
      | some y =>
        rw [htb] at eb
        have ny := (tree_pure htb).2.2
        simp [b__law_tree, ea, eb, optT, g0, g1, nx, ny]
/-! ### the program's trees -/
structure Plc (names : List Str) (pl : Dc) : Prop where
  s : ∀ x : Str, dget (.inr x) pl = if x ∈ names then some (.int (names.idxOf x : Nat)) else none
  i : ∀ i : Int, dget (.inl i) pl = none
theorem inO_dicS {S : Store} {l : Nat} {d : Dc} {x : Str} (h : S[l]? = some (some (.dic d))) : inO S (.str x) (.loc l) = some (dget (.inr x) d).isSome := by
  simp [inO, seqW, dicW, keyW, h]
theorem inO_dicI {S : Store} {l : Nat} {d : Dc} {i : Int} (h : S[l]? = some (some (.dic d))) : inO S (.int i) (.loc l) = some (dget (.inl i) d).isSome := by
  simp [inO, seqW, dicW, keyW, h]
/-- None among two trees -/
theorem in_non {S : Store} {p q : Option W} (hp : ∀ w, p = some w → 0 < w.pure ∧ w.pure ≤ 50 ∧ isNon w = false) (hq : ∀ w, q = some w → 0 < w.pure ∧ w.pure ≤ 50 ∧ isNon w = false) :
    inO S .non (.lst [optT p, optT q]) = some (p.isNone || q.isNone) := by
  have r : ∀ o : Option W, (∀ w, o = some w → 0 < w.pure ∧ w.pure ≤ 50 ∧ isNon w = false) → resW S 59 (optT o) = some (optT o) ∧ W.eqb (optT o) .non = o.isNone := by
    intro o ho
    cases o with
    | none => exact ⟨rfl, rfl⟩
    | some w =>
      obtain ⟨h1, h2, h3⟩ := ho w rfl
      refine ⟨resW_pure w 59 h1 (by omega), ?_⟩
      show W.eqb w .non = false
      cases w <;> first | rfl | (simp at h3)
  obtain ⟨p1, p2⟩ := r p hp
  obtain ⟨q1, q2⟩ := r q hq
  have e : resW S 60 (.lst [optT p, optT q]) = some (.lst [optT p, optT q]) := by
    show (([optT p, optT q] : List W).mapM (resW S 59)).map W.lst = _
    simp [List.mapM_cons, p1, q1]
  have e0 : resW S 60 .non = some .non := rfl
  have hu : inO S .non (.lst [optT p, optT q]) = (match resW S 60 .non, resW S 60 (.lst [optT p, optT q]) with
      | some a, some (.lst zs) => some (zs.any fun z => W.eqb z a)
      | _, _ => none) := rfl
  rw [hu, e, e0]
  simp [p2, q2]
theorem f_astree {names : List Str} {kvs pl : Dc} (hk : Fil kvs) (hp : Plc names pl) {S : Store} {l lp : Nat} (hS : S[l]? = some (some (.dic kvs))) (hL : S[lp]? = some (some (.dic pl))) : ∀ (t : Su), t.Ok (Hat names kvs) → t.dp ≤ 20 → ∀ n, t.dp + 2 ≤ n → F n "as_tree" [t.w, .loc lp, .loc l] S = .ok (optT (tree names kvs t)) S := by
  intro t
  induction t with
  | num i =>
    intro h hd n hn
    obtain ⟨n, rfl⟩ : ∃ m, n = m + 2 := ⟨n - 2, by omega⟩
    rw [F_run d_as_tree rfl rfl]
    have hi := inO_dicI (i := i) hL
    rw [hp.i] at hi
    simp [b_as_tree, Su.w, hi, f_isI, tree, optT]
  | nm x =>
    intro h hd n hn
    obtain ⟨n, rfl⟩ : ∃ m, n = m + 2 := ⟨n - 2, by omega⟩
    rw [F_run d_as_tree rfl rfl]
    have hi := inO_dicS (x := x) hL
    rw [hp.s] at hi
    by_cases hx : x ∈ names
    · rw [if_pos hx] at hi
      have hg : dget (.inr x) pl = some (.int (names.idxOf x : Nat)) := by rw [hp.s, if_pos hx]
      simp [b_as_tree, Su.w, hi, hL, hg, tree, hx, optT]
    · rw [if_neg hx] at hi
      obtain ⟨v, hv⟩ := h.2.resolve_left hx
      have e1 := f_isU h.1 n S
      have e2 := f_num (hk.vals _ _ hv) n S
      simp only [tree, if_neg hx, valO, hv, Option.bind_some]
      have e3 : optT ((numW v).map W.int) = ofO (numW v) := by cases numW v <;> rfl
      simp [b_as_tree, Su.w, hi, e1, hS, hv, e2, e3]
  | op s a b iha ihb =>
    intro h hd n hn
    simp only [Su.dp] at hn hd
    obtain ⟨n, rfl⟩ : ∃ m, n = m + 1 := ⟨n - 1, by omega⟩
    have ea := iha h.1 (by omega) n (by omega)
    have eb := ihb h.2 (by omega) n (by omega)
    rw [F_run d_as_tree rfl rfl]
    have e := lcT_map (C := C n) (own := [4]) (t := .nm 4) (e := .call "as_tree" [(.var 4), (.var 1), (.var 2)]) (ρ := [some (.tup [.str s.s, a.w, b.w]), some (.loc lp), some (.loc l), none, none]) (S := S) Su.w (fun t => optT (tree names kvs t)) [a, b] []
      (fun p hp' => ⟨_, rfl, by
        simp only [List.mem_cons, List.not_mem_nil, or_false] at hp'
        rcases hp' with rfl | rfl
        · simp [wipeR, ea]
        · simp [wipeR, eb]⟩) (by simp)
    simp only [List.map_cons, List.map_nil, List.nil_append] at e
    have hpa : ∀ t : Su, t.dp ≤ 20 → ∀ w, tree names kvs t = some w → 0 < w.pure ∧ w.pure ≤ 50 ∧ isNon w = false := fun t ht w hw => by
      obtain ⟨h1, h2, h3⟩ := tree_pure hw
      exact ⟨h1, by omega, h3⟩
    have hin := in_non (S := S) (hpa a (by omega)) (hpa b (by omega))
    have hsl : sliceW true (.tup [.str s.s, a.w, b.w]) (some 1) none S = .ok (.tup [a.w, b.w]) S := rfl
    have hto : ∀ (xs : List W), biW .tupleOf [.lst xs] S = .ok (.tup xs) S := fun _ => rfl
    have hadd : ∀ p q : W, addW true (.tup [.str s.s]) (.tup [p, q]) S = .ok (.tup [.str s.s, p, q]) S := fun p q => rfl
    have g0 : getW (.tup [.str s.s, a.w, b.w]) (.int 0) S = .ok (.str s.s) S := rfl
    simp only [Su.w, tree]
    cases hta : tree names kvs a with
    | none =>
      rw [hta] at e hin
      simp only [Option.isNone_none, Bool.true_or] at hin
      obtain ⟨lw, hlw⟩ : ∃ w, w = [optT none, optT (tree names kvs b)] := ⟨_, rfl⟩
      have hln : lw.length ≤ 16777216 := by rw [hlw]; simp
      rw [← hlw] at e hin
      simp [b_as_tree, hsl, e, hln, hin, optT]
    | some x =>
      cases htb : tree names kvs b with
      | none =>
        rw [hta, htb] at e hin
        simp only [Option.isNone_none, Bool.or_true] at hin
        obtain ⟨lw, hlw⟩ : ∃ w, w = [optT (some x), optT none] := ⟨_, rfl⟩
        have hln : lw.length ≤ 16777216 := by rw [hlw]; simp
        rw [← hlw] at e hin
        simp [b_as_tree, hsl, e, hln, hin, optT]
      | some y =>
        rw [hta, htb] at e hin
        simp only [Option.isNone_some, Bool.or_false] at hin
        obtain ⟨lw, hlw⟩ : ∃ w, w = [optT (some x), optT (some y)] := ⟨_, rfl⟩
        have hln : lw.length ≤ 16777216 := by rw [hlw]; simp
        have hto' := hto lw
        rw [← hlw] at e hin
        have hadd' : addW true (.tup [.str s.s]) (.tup lw) S = .ok (.tup [.str s.s, x, y]) S := by rw [hlw]; exact hadd x y
        simp [b_as_tree, hsl, e, hln, hin, hto', hadd', optT]
end K39
end

section
set_option linter.all false
set_option maxRecDepth 100000
namespace K39
open PySem Gs
/-! ### joined by and -/
def andW : List W → W
  | [] => .non
  | [x] => x
  | x :: y :: r => .tup [.str "and", x, andW (y :: r)]
structure El (w : W) : Prop where
  ex : ∃ n p q, w = .tup [.str n, p, q] ∧ n ≠ ("and" : Str)
  bel : ∀ m, w.bel m = true
theorem bels_of {m : Nat} : ∀ {ws : List W}, (∀ w ∈ ws, w.bel m = true) → W.bels m ws = true
  | [], _ => rfl
  | w :: r, h => by
    simp only [W.bels, h w (by simp), bels_of (ws := r) fun z hz => h z (by simp [hz]), Bool.and_self]
theorem su_bel (m : Nat) : ∀ t : Su, t.w.bel m = true
  | .num _ => rfl
  | .nm _ => rfl
  | .op _ a b => by
    simp only [Su.w, W.bel, W.bels, su_bel m a, su_bel m b, Bool.and_self]
def chC : T := .cmp .Eq (.ix (.var 0) (.cint 0)) (.cstr "and")
def chB : List Sm := [.expr (.mt .append (.var 1) [(.ix (.var 0) (.cint 1))]), .asg (.nm 0) (.ix (.var 0) (.cint 2))]
theorem f_chain {ts : List W} (hn : ts ≠ []) (hl : ts.length ≤ 1000) (ha : ∀ t ∈ ts, El t) {k : Nat} {S : Store} (hS : belowS S.length S = true) : F (k + 1) "chain_of" [andW ts] S = .ok (.lst ts) S := by
  rw [F_run d_chain_of rfl rfl]
  have hbd : b_chain_of = [.asg (.nm 1) (.lst false []), .whl chC chB, .expr (.mt .append (.var 1) [(.var 0)]), .ret (.frz (.var 1))] := rfl
  have hw := whlL_rule (C := C k) (c := chC) (b := chB)
    (fun m ρ S' => ∃ (done rest : List W), rest ≠ [] ∧ ts = done ++ rest ∧ m = rest.length ∧ ρ = [some (andW rest), some (.loc S.length)] ∧ S' = S ++ [some (.lst done)])
    (fun ρ S' => ∃ (done : List W) (x : W), ts = done ++ [x] ∧ ρ = [some x, some (.loc S.length)] ∧ S' = S ++ [some (.lst done)])
    (fun _ _ => False)
    (by
      rintro m ρ S' ⟨done, rest, hne, hts, rfl, rfl, rfl⟩
      cases rest with
      | nil => exact absurd rfl hne
      | cons x r =>
        cases r with
        | nil =>
          refine .inl ⟨?_, done, x, hts, rfl, rfl⟩
          obtain ⟨n, p, q, rfl, hx⟩ := (ha x (by rw [hts]; simp)).ex
          simp [chC, andW, hx]
        | cons y r =>
          have hdl : done.length ≤ 1000 := by have := congrArg List.length hts; simp at this; omega
          refine .inr ⟨?_, .inl ⟨(y :: r).length, [some (andW (y :: r)), some (.loc S.length)], S ++ [some (.lst (done ++ [x]))], by simp, ?_, done ++ [x], y :: r, by simp, by rw [hts]; simp, rfl, rfl, rfl⟩⟩
          · simp [chC, andW]
          · have hz : done.length < 16777216 := by omega
            simp [chB, andW, hz])
    fuel ts.length [some (andW ts), some (.loc S.length)] (S ++ [some (.lst [])]) ⟨[], ts, hn, rfl, rfl, rfl, rfl⟩ (by simp [fuel]; omega)
  rcases hw with ⟨ρ', S', e, done, x, hts, rfl, rfl⟩ | ⟨_, _, _, h⟩
  · have hdl : done.length < 16777216 := by have := congrArg List.length hts; simp at this; omega
    have hbel : (W.lst ts).bel S.length = true := by
      simp only [W.bel]
      exact bels_of fun w hw => (ha w hw).bel _
    have hlv := leave_drop (J := [none]) (w := .lst ts) (n := S.length) rfl hbel hS
    have hcf : (C k).fuel = fuel := rfl
    have hts' : done ++ [x] = ts := hts.symm
    show kRun S.length (exes (C k) b_chain_of [some (andW ts), none] S) = _
    obtain ⟨aw, haw⟩ : ∃ w, w = andW ts := ⟨_, rfl⟩
    rw [← haw] at e ⊢
    simp [hbd, hcf, e, hdl, hts', hlv]
  · exact h.elim
theorem joined_fold : ∀ (ys : List W) (z : W), List.foldl (fun w p => W.tup [.str "and", p, w]) z ys.reverse = andW (ys ++ [z])
  | [], z => rfl
  | y :: r, z => by
    rw [List.reverse_cons, List.foldl_append, joined_fold r z]
    simp only [List.foldl_cons, List.foldl_nil]
    cases r with
    | nil => rfl
    | cons a b => rfl
theorem f_joined {S : Store} {x : W} {ws : List W} (hx : lstW S x = some ws) (hn : ws ≠ []) (hl : ws.length ≤ 1000) (k : Nat) : F (k + 1) "_law_joined" [x] S = .ok (andW ws) S := by
  rw [F_run d__law_joined rfl rfl]
  obtain ⟨ys, z, rfl⟩ : ∃ ys z, ws = ys ++ [z] := ⟨ws.dropLast, ws.getLast hn, (List.dropLast_concat_getLast hn).symm⟩
  obtain ⟨ρ', S', e, w, o, rfl, hSe, hw⟩ := forL_inv (C := C k) (t := .nm 2) (b := [.asg (.nm 1) (.tup [(.cstr "and"), (.var 2), (.var 1)])])
    (fun xs ρ S' => ∃ (w : W) (o : Option W), ρ = [some x, some w, o] ∧ S' = S ∧ List.foldl (fun w p => W.tup [.str "and", p, w]) w xs = andW (ys ++ [z]))
    (by
      rintro y xs ρ S' ⟨w, o, rfl, rfl, hw⟩
      exact ⟨_, _, by simp, .tup [.str "and", y, w], some y, rfl, rfl, hw⟩)
    ys.reverse [some x, some z, none] S ⟨z, none, rfl, rfl, joined_fold ys z⟩
  simp only [List.foldl_nil] at hw
  subst hw
  rw [hSe] at e
  have gl : getW x (.int (-1)) S = .ok z S := by
    have hs : seqW S x = some (ys ++ [z]) := by
      cases x with
      | lst xs => simpa [lstW] using hx
      | loc l =>
        simp only [lstW] at hx
        simp only [seqW]
        exact hx
      | _ => simp [lstW] at hx
    have hat : atW (ys ++ [z]) (-1 : Int) = some z := by
      unfold atW ixW
      rw [if_neg (by omega), if_pos (by simp; omega)]
      have e0 : (-1 + (ys ++ [z]).length : Int).toNat = ys.length := by simp; omega
      rw [Option.bind_some, e0]
      simp
    cases x with
    | str _ => simp [lstW] at hx
    | lst xs => simp only [getW, hs, hat]
    | loc l => simp only [getW, hs, hat]
    | _ => simp [lstW] at hx
  have hr : kRev2 true (.ok x S) = .ok (.lst ys.reverse) S := by
    show (match lstW S x with
      | some xs => newL true xs.dropLast.reverse S
      | none => .no) = _
    rw [hx]
    simp only [List.dropLast_concat]
    exact newL_t (by simp only [List.length_append, List.length_cons, List.length_nil] at hl; simp; omega)
  have hf : frozenW (.lst ys.reverse) = some ys.reverse := rfl
  have hbd : b__law_joined = [.asg (.nm 1) (.ix (.var 0) (.neg (.cint 1))), .for (.nm 2) (.seq (.rev2 true (.var 0))) [.asg (.nm 1) (.tup [(.cstr "and"), (.var 2), (.var 1)])], .ret (.var 1)] := rfl
  simp [hbd, gl, hr, hf, e]
/-! ### ranges and tests -/
structure Rg where
  nm : Str
  lo : Su
  hi : Su
def Rg.w (r : Rg) : W := .tup [.str "in", .str r.nm, .tup [.str "..", r.lo.w, r.hi.w]]
def Rg.w3 (r : Rg) : W := .tup [.str r.nm, r.lo.w, r.hi.w]
structure Ts where
  s : Str
  a : Su
  b : Su
def Ts.w (t : Ts) : W := .tup [.str t.s, t.a.w, t.b.w]
theorem rg_el (r : Rg) : El r.w := ⟨⟨_, _, _, rfl, by decide⟩, fun m => by simp only [Rg.w, W.bel, W.bels, su_bel, Bool.and_self]⟩
theorem ts_el {t : Ts} (h : t.s ≠ ("and" : Str)) : El t.w := ⟨⟨_, _, _, rfl, h⟩, fun m => by simp only [Ts.w, W.bel, W.bels, su_bel, Bool.and_self]⟩
/-- the goal -/
def goalW (rs : List Rg) (ts : List Ts) : W := if ts = [] then andW (rs.map Rg.w) else .tup [.str "such", andW (rs.map Rg.w), andW (ts.map Ts.w)]
theorem and_hd {ws : List W} (hn : ws ≠ []) (ha : ∀ t ∈ ws, ∃ n p q, t = W.tup [.str n, p, q] ∧ n ≠ ("such" : Str)) : ∃ n p q, andW ws = .tup [.str n, p, q] ∧ n ≠ ("such" : Str) := by
  cases ws with
  | nil => exact absurd rfl hn
  | cons x r =>
    cases r with
    | nil => exact ha x (by simp)
    | cons y r => exact ⟨_, _, _, rfl, by decide⟩
theorem f_ranges {rs : List Rg} {ts : List Ts} (hn : rs ≠ []) (hl : rs.length ≤ 10) {k : Nat} {S : Store} (hS : belowS S.length S = true) : F (k + 2) "ranges_of" [goalW rs ts] S = .ok (.lst (rs.map Rg.w3)) S := by
  rw [F_run d_ranges_of rfl rfl]
  have hc := f_chain (ts := rs.map Rg.w) (by simpa using hn) (by simp; omega) (fun t ht => by
    obtain ⟨r, _, rfl⟩ := List.mem_map.mp ht
    exact rg_el r) (k := k) hS
  have hm : ∀ (ρ : Rho), ρ.length = 7 → lcT (C (k + 1)) [2, 3, 4, 5, 6] (.tp [(.nm 2), (.nm 3), (.tp [(.nm 4), (.nm 5), (.nm 6)])]) [] (.tup [(.var 3), (.var 5), (.var 6)]) ρ (rs.map Rg.w) [] S = .ok (rs.map Rg.w3) S := by
    intro ρ hρ
    match ρ, hρ with
    | [r0, r1, r2, r3, r4, r5, r6], _ =>
    have e := lcT_map (C := C (k + 1)) (own := [2, 3, 4, 5, 6]) (t := .tp [(.nm 2), (.nm 3), (.tp [(.nm 4), (.nm 5), (.nm 6)])]) (e := .tup [(.var 3), (.var 5), (.var 6)]) (ρ := [r0, r1, r2, r3, r4, r5, r6]) (S := S) Rg.w Rg.w3 rs []
      (fun r hr => ⟨_, rfl, by simp [wipeR, Rg.w3]⟩) (by simp; omega)
    simpa using e
  have nl : ∀ S, newL true (rs.map Rg.w3) S = .ok (.lst (rs.map Rg.w3)) S := fun S => newL_t (by simp; omega)
  have hf : frozenW (.lst (rs.map Rg.w)) = some (rs.map Rg.w) := rfl
  by_cases ht : ts = []
  · obtain ⟨n, p, q, ea, hnn⟩ := and_hd (ws := rs.map Rg.w) (by simpa using hn) (fun t ht' => by
      obtain ⟨r, _, rfl⟩ := List.mem_map.mp ht'
      exact ⟨_, _, _, rfl, by decide⟩)
    have hg : goalW rs ts = andW (rs.map Rg.w) := if_pos ht
    rw [hg]
    have g0 : ∀ S, getW (andW (rs.map Rg.w)) (.int 0) S = .ok (.str n) S := fun S => by rw [ea]; rfl
    have hm' := hm [some (andW (rs.map Rg.w)), some (andW (rs.map Rg.w)), none, none, none, none, none] rfl
    obtain ⟨aw, haw⟩ : ∃ w, w = andW (rs.map Rg.w) := ⟨_, rfl⟩
    rw [← haw] at hc g0 hm' ⊢
    obtain ⟨rw', hrw⟩ : ∃ w, w = rs.map Rg.w := ⟨_, rfl⟩
    rw [← hrw] at hc hf hm'
    obtain ⟨r3, hr3⟩ : ∃ w, w = rs.map Rg.w3 := ⟨_, rfl⟩
    rw [← hr3] at hm' nl ⊢
    simp [b_ranges_of, g0, hnn, hc, hf, hm', nl]
  · have hg : goalW rs ts = .tup [.str "such", andW (rs.map Rg.w), andW (ts.map Ts.w)] := if_neg ht
    rw [hg]
    have hm' := hm [some (.tup [.str "such", andW (rs.map Rg.w), andW (ts.map Ts.w)]), some (andW (rs.map Rg.w)), none, none, none, none, none] rfl
    obtain ⟨aw, haw⟩ : ∃ w, w = andW (rs.map Rg.w) := ⟨_, rfl⟩
    rw [← haw] at hc hm' ⊢
    obtain ⟨rw', hrw⟩ : ∃ w, w = rs.map Rg.w := ⟨_, rfl⟩
    rw [← hrw] at hc hf hm'
    obtain ⟨r3, hr3⟩ : ∃ w, w = rs.map Rg.w3 := ⟨_, rfl⟩
    rw [← hr3] at hm' nl ⊢
    simp [b_ranges_of, hc, hf, hm', nl]
theorem f_tests {rs : List Rg} {ts : List Ts} (hn : rs ≠ []) (hl : ts.length ≤ 10) (hs : ∀ t ∈ ts, t.s ≠ ("and" : Str)) {k : Nat} {S : Store} (hS : belowS S.length S = true) : F (k + 2) "tests_of" [goalW rs ts] S = .ok (.lst (ts.map Ts.w)) S := by
  rw [F_run d_tests_of rfl rfl]
  by_cases ht : ts = []
  · obtain ⟨n, p, q, ea, hnn⟩ := and_hd (ws := rs.map Rg.w) (by simpa using hn) (fun t ht' => by
      obtain ⟨r, _, rfl⟩ := List.mem_map.mp ht'
      exact ⟨_, _, _, rfl, by decide⟩)
    have hg : goalW rs ts = andW (rs.map Rg.w) := if_pos ht
    rw [hg, ea, ht]
    simp [b_tests_of, hnn]
  · have hg : goalW rs ts = .tup [.str "such", andW (rs.map Rg.w), andW (ts.map Ts.w)] := if_neg ht
    have hc := f_chain (ts := ts.map Ts.w) (by simpa using ht) (by simp; omega) (fun t ht => by
      obtain ⟨r, hr, rfl⟩ := List.mem_map.mp ht
      exact ts_el (hs r hr)) (k := k) hS
    rw [hg]
    simp [b_tests_of, hc]
end K39
end

section
set_option linter.all false
set_option maxRecDepth 100000
namespace K39
open PySem Gs
/-! ### figures -/
def digs (n : Nat) : List Nat := (Nat.toDigits 10 n).map Char.toNat
theorem intS_nat (n : Nat) : (intS (n : Int)).cps.toList = digs n := by
  show (Str.ofString (toString (n : Int))).cps.toList = _
  rw [Str.ofString_eq_toList, Int.toString_eq_repr, Int.repr_eq_if, if_pos (by omega)]
  simp only [Int.toNat_natCast, Nat.repr_eq_ofList_toDigits]
  simp [digs]
theorem digs_dg {n c : Nat} (h : c ∈ digs n) : 48 ≤ c ∧ c ≤ 57 := by
  obtain ⟨x, hx, rfl⟩ := List.mem_map.mp h
  have := Nat.isDigit_of_mem_toDigits (by omega) (by omega) hx
  simp only [Char.isDigit, Bool.and_eq_true, decide_eq_true_eq] at this
  obtain ⟨h1, h2⟩ := this
  have e1 : (48 : UInt32) ≤ x.val := h1
  have e2 : x.val ≤ (57 : UInt32) := h2
  exact ⟨UInt32.le_iff_toNat_le.mp e1, UInt32.le_iff_toNat_le.mp e2⟩
theorem digs_le {n k : Nat} (hk : 0 < k) : (digs n).length ≤ k ↔ n < 10 ^ k := by
  simp only [digs, List.length_map]
  exact Nat.length_toDigits_le_iff (by omega) hk
theorem len_cps (a : Str) : a.length = a.cps.toList.length := by
  show a.cps.size = _
  simp
theorem str1_big {n : Nat} {S : Store} (h : n < 2 ^ 400) : biW .str1 [.int n] S = .ok (.str (intS n)) S := by
  have h1 : (n : Int).natAbs.log2 < 1920 := by
    have : (n : Int).natAbs = n := by simp
    rw [this]
    by_cases hn : n = 0
    · subst hn; decide
    · have := (Nat.log2_lt hn).mpr h
      omega
  have h10 : n < 10 ^ 400 := Nat.lt_of_lt_of_le h (Nat.pow_le_pow_left (by omega) _)
  have h2 : asciiB (intS n) = true := by
    have hl := (digs_le (n := n) (k := 400) (by omega)).mpr h10
    simp only [asciiB, Bool.and_eq_true, List.all_eq_true, decide_eq_true_eq]
    constructor
    · intro c hc
      rw [intS_nat] at hc
      have := digs_dg hc
      omega
    · rw [len_cps, intS_nat]
      show _ ≤ 16777216
      omega
  simp only [biW, h1, h2, and_self, if_true]
/-! ### the ends -/
def end1 (kvs : Dc) (t : Su) : Except Bool Int := match worth kvs t with
  | none => .error false
  | some v => if 10 ^ 60 ≤ v.natAbs then .error true else .ok v
abbrev Pr := Int × Int
def pw (p : Pr) : W := .tup [.int p.1, .int p.2]
def scanR (kvs : Dc) : List Rg → Except Bool (List Pr)
  | [] => .ok []
  | r :: rs => match end1 kvs r.lo with
    | .error e => .error e
    | .ok a => match end1 kvs r.hi with
      | .error e => .error e
      | .ok b => match scanR kvs rs with
        | .error e => .error e
        | .ok l => .ok ((a, b) :: l)
structure ROk (kvs : Dc) (r : Rg) : Prop where
  a : r.lo.Ok (Has kvs)
  b : r.hi.Ok (Has kvs)
  da : r.lo.dp ≤ 1
  db : r.hi.dp ≤ 1
theorem kLoop_x {C : Cn} {S : Store} {t : Tg} {b : List Sm} {xs : List W} {x : Xc} : kLoop C t b xs (.ex x S) = .ex x S := rfl
def biB : List Sm := [.asg (.nm 8) (.call "sum_under" [(.var 7), (.var 1)]), .ife (.cmp .Is (.var 8) .cnon) [.ret .cnon] [], .ife (.cmp .Gt (.bi .len [(.bi .str1 [(.bi .abs [(.var 8)])])]) (.glo "FIGURES")) [.raise0 "Open"] [], .aug 6 .Add (.tup [(.var 8)])]
def boB : List Sm := [.asg (.nm 6) (.tup []), .for (.nm 7) (.seq (.tup [(.var 4), (.var 5)])) biB, .aug 2 .Add (.tup [(.var 6)])]
def stopO (e : Bool) (S : Store) : Out Fl := if e = true then .ex ⟨"Open", []⟩ S else .ok (.rt .non) S
theorem bi_turn {kvs : Dc} (hk : Fil kvs) {S : Store} {l : Nat} (hS : S[l]? = some (some (.dic kvs))) {t : Su} (h : t.Ok (Has kvs)) (hd : t.dp ≤ 1) {k : Nat} (hk3 : 3 ≤ k) {pr : List W} (hp : pr.length ≤ 10) (o0 o2 o3 o4 o5 o8 : Option W) :
    exes (C k) biB [o0, some (.loc l), o2, o3, o4, o5, some (.tup pr), some t.w, o8] S = match end1 kvs t with
      | .ok v => .ok (.nx [o0, some (.loc l), o2, o3, o4, o5, some (.tup (pr ++ [.int v])), some t.w, some (.int v)]) S
      | .error e => stopO e S := by
  have e1 := f_sumunder hk hS t h hd k (by omega)
  have hfl : gc.g.gl "FIGURES" = some (.int 60) := g_FIGURES
  unfold end1
  cases hw : worth kvs t with
  | none =>
    rw [hw] at e1
    simp [biB, e1, ofO, stopO]
  | some v =>
    rw [hw] at e1
    have hv := worth_lt hk h hd hw
    have hs := str1_big (S := S) hv
    have hln : biW .len [.str (intS (v.natAbs : Nat))] S = .ok (.int ((digs v.natAbs).length : Nat)) S := by
      have : (intS (v.natAbs : Nat)).length = (digs v.natAbs).length := by rw [len_cps, intS_nat]
      rw [← this]
      rfl
    have hab : biW .abs [.int v] S = .ok (.int (v.natAbs : Nat)) S := by
      have : (if v < 0 then -v else v) = ((v.natAbs : Nat) : Int) := by split <;> omega
      simp [biW, this]
    have hdl := digs_le (n := v.natAbs) (k := 60) (by omega)
    obtain ⟨z, hz⟩ : ∃ z, z = intS (v.natAbs : Nat) := ⟨_, rfl⟩
    rw [← hz] at hs hln
    obtain ⟨av, hav⟩ : ∃ z : Int, z = (v.natAbs : Nat) := ⟨_, rfl⟩
    rw [← hav] at hs hab
    obtain ⟨m, hm⟩ : ∃ m, m = (digs v.natAbs).length := ⟨_, rfl⟩
    rw [← hm] at hln hdl
    by_cases hb : 10 ^ 60 ≤ v.natAbs
    · have h1 : (60 : Int) < (m : Int) := by
        have : ¬ m ≤ 60 := fun z => by have := hdl.mp z; omega
        omega
      simp only [if_pos hb]
      simp [biB, e1, ofO, stopO, hab, hs, hln, hfl, h1]
    · have h1 : ¬ (60 : Int) < (m : Int) := by
        have := hdl.mpr (by omega)
        omega
      have hl1 : pr.length + 1 ≤ 16777216 := by omega
      simp only [if_neg hb]
      simp [biB, e1, ofO, hab, hs, hln, hfl, h1, hl1]
theorem bo_turn {kvs : Dc} (hk : Fil kvs) {S : Store} {l : Nat} (hS : S[l]? = some (some (.dic kvs))) {r : Rg} (h : ROk kvs r) {k : Nat} (hk3 : 3 ≤ k) {bx : List W} (hp : bx.length ≤ 10) (o0 o3 o6 o7 o8 : Option W) :
    ∃ o6' o7' o8', exes (C k) boB [o0, some (.loc l), some (.tup bx), o3, some r.lo.w, some r.hi.w, o6, o7, o8] S = match end1 kvs r.lo with
      | .error e => stopO e S
      | .ok a => match end1 kvs r.hi with
        | .error e => stopO e S
        | .ok b => .ok (.nx [o0, some (.loc l), some (.tup (bx ++ [pw (a, b)])), o3, some r.lo.w, some r.hi.w, o6', o7', o8']) S := by
  have e1 := bi_turn hk hS h.a h.da hk3 (pr := []) (by simp) o0 (some (.tup bx)) o3 (some r.lo.w) (some r.hi.w) o8
  cases ha : end1 kvs r.lo with
  | error e =>
    refine ⟨none, none, none, ?_⟩
    simp only [ha] at e1 ⊢
    cases e with
    | true =>
      have e1 : exes (C k) biB _ S = .ex ⟨"Open", []⟩ S := e1
      show _ = Out.ex ⟨"Open", []⟩ S
      simp [boB, kLoop_x, forL_cons, e1]
    | false =>
      have e1 : exes (C k) biB _ S = .ok (Fl.rt .non) S := e1
      show _ = Out.ok (Fl.rt .non) S
      simp [boB, kLoop_x, forL_cons, e1]
  | ok a =>
    simp only [ha, List.nil_append] at e1
    have e2 := bi_turn hk hS h.b h.db hk3 (pr := [.int a]) (by simp) o0 (some (.tup bx)) o3 (some r.lo.w) (some r.hi.w) (some (.int a))
    cases hb : end1 kvs r.hi with
    | error e =>
      refine ⟨none, none, none, ?_⟩
      simp only [hb] at e2 ⊢
      cases e with
      | true =>
        have e2 : exes (C k) biB _ S = .ex ⟨"Open", []⟩ S := e2
        show _ = Out.ex ⟨"Open", []⟩ S
        simp [boB, kLoop_x, forL_cons, e1, e2]
      | false =>
        have e2 : exes (C k) biB _ S = .ok (Fl.rt .non) S := e2
        show _ = Out.ok (Fl.rt .non) S
        simp [boB, kLoop_x, forL_cons, e1, e2]
    | ok b =>
      refine ⟨some (.tup [.int a, .int b]), some r.hi.w, some (.int b), ?_⟩
      simp only [hb] at e2 ⊢
      have hl1 : bx.length + 1 ≤ 16777216 := by omega
      simp [boB, kLoop_x, forL_cons, e1, e2, hl1, pw]
theorem bo_loop {kvs : Dc} (hk : Fil kvs) {S : Store} {l : Nat} (hS : S[l]? = some (some (.dic kvs))) {k : Nat} (hk3 : 3 ≤ k) (o0 : Option W) : ∀ (rs : List Rg), (∀ r ∈ rs, ROk kvs r) → ∀ (bx : List W), bx.length + rs.length ≤ 10 → ∀ (o3 o4 o5 o6 o7 o8 : Option W),
    ∃ o3' o4' o5' o6' o7' o8', forL (C k) (.tp [(.nm 3), (.nm 4), (.nm 5)]) boB (rs.map Rg.w3) [o0, some (.loc l), some (.tup bx), o3, o4, o5, o6, o7, o8] S = match scanR kvs rs with
      | .error e => stopO e S
      | .ok q => .ok (.nx [o0, some (.loc l), some (.tup (bx ++ q.map pw)), o3', o4', o5', o6', o7', o8']) S := by
  intro rs
  induction rs with
  | nil => intro _ bx _ o3 o4 o5 o6 o7 o8; exact ⟨o3, o4, o5, o6, o7, o8, by simp [scanR]⟩
  | cons r rs ih =>
    intro h bx hl o3 o4 o5 o6 o7 o8
    simp only [List.length_cons] at hl
    obtain ⟨p6, p7, p8, e1⟩ := bo_turn hk hS (h r (by simp)) hk3 (bx := bx) (by omega) o0 (some (.str r.nm)) o6 o7 o8
    simp only [scanR]
    cases ha : end1 kvs r.lo with
    | error e =>
      refine ⟨none, none, none, none, none, none, ?_⟩
      simp only [ha] at e1 ⊢
      cases e with
      | true =>
        have e1 : exes (C k) boB _ S = .ex ⟨"Open", []⟩ S := e1
        show _ = Out.ex ⟨"Open", []⟩ S
        simp [Rg.w3, kLoop_x, forL_cons, e1]
      | false =>
        have e1 : exes (C k) boB _ S = .ok (Fl.rt .non) S := e1
        show _ = Out.ok (Fl.rt .non) S
        simp [Rg.w3, kLoop_x, forL_cons, e1]
    | ok a =>
      simp only [ha] at e1
      cases hb : end1 kvs r.hi with
      | error e =>
        refine ⟨none, none, none, none, none, none, ?_⟩
        simp only [hb] at e1 ⊢
        cases e with
        | true =>
          have e1 : exes (C k) boB _ S = .ex ⟨"Open", []⟩ S := e1
          show _ = Out.ex ⟨"Open", []⟩ S
          simp [Rg.w3, kLoop_x, forL_cons, e1]
        | false =>
          have e1 : exes (C k) boB _ S = .ok (Fl.rt .non) S := e1
          show _ = Out.ok (Fl.rt .non) S
          simp [Rg.w3, kLoop_x, forL_cons, e1]
      | ok b =>
        simp only [hb] at e1
        obtain ⟨q3, q4, q5, q6, q7, q8, e2⟩ := ih (fun q hq => h q (by simp [hq])) (bx ++ [pw (a, b)]) (by simp; omega) (some (.str r.nm)) (some r.lo.w) (some r.hi.w) p6 p7 p8
        cases hq : scanR kvs rs with
        | error e =>
          refine ⟨none, none, none, none, none, none, ?_⟩
          simp only [hq] at e2
          simp only [hb, hq]
          simp [Rg.w3, kLoop_x, forL_cons, e1, e2]
        | ok q =>
          refine ⟨q3, q4, q5, q6, q7, q8, ?_⟩
          simp only [hq] at e2
          simp only [hb, hq]
          simp only [List.append_assoc, List.cons_append, List.nil_append] at e2
          simp [Rg.w3, kLoop_x, forL_cons, e1, e2]
end K39
end

section
set_option linter.all false
set_option maxRecDepth 100000
namespace K39
open PySem Gs
/-! ### how many points -/
def wd (p : Pr) : Int := if p.2 - p.1 + 1 > 0 then p.2 - p.1 + 1 else 0
def manyA (a : Int) : List Pr → Int
  | [] => a
  | p :: r => manyA (a * wd p) r
abbrev many (bx : List Pr) : Int := manyA 1 bx
def SmallP (p : Pr) : Prop := p.1.natAbs < 10 ^ 60 ∧ p.2.natAbs < 10 ^ 60
theorem wd_lt {p : Pr} (h : SmallP p) : (wd p).natAbs < 2 ^ 202 := by
  obtain ⟨h1, h2⟩ := h
  unfold wd
  split <;> omega
theorem mul_natAbs {a b : Int} {m n : Nat} (h : a.natAbs < 2 ^ m) (h' : b.natAbs < 2 ^ n) : (a * b).natAbs < 2 ^ (m + n) := by
  rw [Int.natAbs_mul, Nat.pow_add]
  exact Nat.mul_lt_mul_of_lt_of_lt h h'
theorem many_loop {n : Nat} {S : Store} : ∀ (bx : List Pr) (k : Nat) (a : Int) (o0 o2 o3 : Option W), (∀ p ∈ bx, SmallP p) → bx.length + k ≤ 10 → a.natAbs < 2 ^ (202 * k + 1) →
    ∃ o2' o3', forL (C n) (.tp [(.nm 2), (.nm 3)]) [.aug 1 .Mult (.bi .max2 [(.cint 0), (.bin true .Add (.bin true .Sub (.var 3) (.var 2)) (.cint 1))])] (bx.map pw) [o0, some (.int a), o2, o3] S
      = .ok (.nx [o0, some (.int (manyA a bx)), o2', o3']) S := by
  intro bx
  induction bx with
  | nil => intro k a o0 o2 o3 _ _ _; exact ⟨o2, o3, rfl⟩
  | cons p r ih =>
    intro k a o0 o2 o3 h hk ha
    simp only [List.length_cons] at hk
    have hw := wd_lt (h p (by simp))
    obtain ⟨o2', o3', e⟩ := ih (k + 1) (a * wd p) o0 (some (.int p.1)) (some (.int p.2)) (fun q hq => h q (by simp [hq])) (by omega) (by
      have := mul_natAbs ha hw
      rw [show 202 * (k + 1) + 1 = 202 * k + 1 + 202 by omega]
      exact this)
    refine ⟨o2', o3', ?_⟩
    have mk : mulOk a (wd p) := mulOk_of _ _ ha hw (by omega)
    rw [List.map_cons, forL_cons]
    simp only [wd] at mk e
    simp [pw, mk]
    simp at e
    rw [e]
    rfl
theorem f_many {bx : List Pr} (hbx : ∀ p ∈ bx, SmallP p) (hl : bx.length ≤ 8) (n : Nat) (S : Store) : F (n + 1) "many_points" [.tup (bx.map pw)] S = .ok (.int (many bx)) S := by
  rw [F_run d_many_points rfl rfl]
  obtain ⟨o2, o3, e⟩ := many_loop (n := n) (S := S) bx 0 1 (some (.tup (bx.map pw))) none none hbx (by omega) (by decide)
  simp [b_many_points, e]
/-! ### the box -/
def boxU (kvs : Dc) (rs : List Rg) : Except Bool (List Pr) := match scanR kvs rs with
  | .error e => .error e
  | .ok q => if 400 < many q then .error true else if many q = 0 then .error false else .ok q
theorem end_sm {kvs : Dc} {t : Su} {v : Int} (h : end1 kvs t = .ok v) : v.natAbs < 10 ^ 60 := by
  unfold end1 at h
  cases hw : worth kvs t with
  | none => rw [hw] at h; cases h
  | some u =>
    rw [hw] at h
    simp only at h
    split at h
    · cases h
    · cases h; omega
theorem scan_sm {kvs : Dc} : ∀ {rs : List Rg} {q : List Pr}, scanR kvs rs = .ok q → (∀ p ∈ q, SmallP p) ∧ q.length = rs.length
  | [], q, h => by cases h; exact ⟨by simp, rfl⟩
  | r :: rs, q, h => by
    simp only [scanR] at h
    cases ha : end1 kvs r.lo with
    | error e => rw [ha] at h; cases h
    | ok a =>
      rw [ha] at h
      simp only at h
      cases hb : end1 kvs r.hi with
      | error e => rw [hb] at h; cases h
      | ok b =>
        rw [hb] at h
        simp only at h
        cases hq : scanR kvs rs with
        | error e => rw [hq] at h; cases h
        | ok l =>
          rw [hq] at h
          cases h
          obtain ⟨h1, h2⟩ := scan_sm hq
          refine ⟨fun p hp => ?_, by simp [h2]⟩
          rcases List.mem_cons.mp hp with rfl | hp
          · exact ⟨end_sm ha, end_sm hb⟩
          · exact h1 p hp
theorem f_checked {bx : List Pr} (hbx : ∀ p ∈ bx, SmallP p) (hl : bx.length ≤ 8) (n : Nat) (S : Store) : F (n + 2) "checked_points" [.tup (bx.map pw)] S = if 400 < many bx then .ex ⟨"Open", []⟩ S else .ok (.int (many bx)) S := by
  rw [F_run d_checked_points rfl rfl]
  have e := f_many hbx hl n S
  by_cases h : 400 < many bx
  · rw [if_pos h]
    simp [b_checked_points, e, g_POINTS, h]
  · rw [if_neg h]
    simp [b_checked_points, e, g_POINTS, h]
def exW (w : Except Bool W) (S : Store) : Out W := match w with
  | .ok w => .ok w S
  | .error true => .ex ⟨"Open", []⟩ S
  | .error false => .ok .non S
theorem f_box {kvs : Dc} (hk : Fil kvs) {S : Store} {l : Nat} (hS : S[l]? = some (some (.dic kvs))) (hb : belowS S.length S = true) {rs : List Rg} {ts : List Ts} (hr : ∀ r ∈ rs, ROk kvs r) (hn : rs ≠ []) (hl : rs.length ≤ 3) {k : Nat} (hk3 : 3 ≤ k) :
    F (k + 1) "box_under" [goalW rs ts, .loc l] S = exW ((boxU kvs rs).map fun q => .tup (q.map pw)) S := by
  rw [F_run d_box_under rfl rfl]
  obtain ⟨k, rfl⟩ : ∃ j, k = j + 3 := ⟨k - 3, by omega⟩
  have e1 := f_ranges (ts := ts) hn (by omega) (k := k + 1) hb
  obtain ⟨o3, o4, o5, o6, o7, o8, e2⟩ := bo_loop hk hS (k := k + 3) (by omega) (some (goalW rs ts)) rs hr [] (by simp; omega) none none none none none none
  have hf : frozenW (.lst (rs.map Rg.w3)) = some (rs.map Rg.w3) := rfl
  have hbd : b_box_under = [.asg (.nm 2) (.tup []), .for (.tp [(.nm 3), (.nm 4), (.nm 5)]) (.seq (.call "ranges_of" [(.var 0)])) boB, .ife (.cmp .Eq (.call "checked_points" [(.var 2)]) (.cint 0)) [.ret .cnon] [], .ret (.var 2)] := rfl
  obtain ⟨gw, hgw⟩ : ∃ w, w = goalW rs ts := ⟨_, rfl⟩
  rw [← hgw] at e1 e2 ⊢
  obtain ⟨rw', hrw⟩ : ∃ w, w = rs.map Rg.w3 := ⟨_, rfl⟩
  rw [← hrw] at e1 e2 hf
  unfold boxU
  cases hq : scanR kvs rs with
  | error e =>
    rw [hq] at e2
    cases e with
    | true =>
      have e2 : forL (C (k + 3)) _ boB rw' _ S = .ex ⟨"Open", []⟩ S := e2
      show _ = Out.ex ⟨"Open", []⟩ S
      simp [hbd, e1, hf, e2]
    | false =>
      have e2 : forL (C (k + 3)) _ boB rw' _ S = .ok (Fl.rt .non) S := e2
      show _ = Out.ok W.non S
      simp [hbd, e1, hf, e2]
  | ok q =>
    rw [hq] at e2
    simp only [List.nil_append] at e2
    obtain ⟨s1, s2⟩ := scan_sm hq
    have e3 := f_checked s1 (by omega) (k + 1) S
    simp only
    by_cases h4 : 400 < many q
    · rw [if_pos h4] at e3
      simp only [if_pos h4]
      show _ = Out.ex ⟨"Open", []⟩ S
      simp [hbd, e1, hf, e2, e3]
    · rw [if_neg h4] at e3
      simp only [if_neg h4]
      by_cases h0 : many q = 0
      · simp only [if_pos h0]
        show _ = Out.ok W.non S
        simp [hbd, e1, hf, e2, e3, h0]
      · simp only [if_neg h0]
        show _ = Out.ok (W.tup (q.map pw)) S
        simp [hbd, e1, hf, e2, e3, h0]
/-! ### places -/
theorem dget_app {k : Key} : ∀ (a b : Dc), dget k (a ++ b) = (dget k a).orElse fun _ => dget k b
  | [], b => by simp [dget]
  | (x, v) :: r, b => by
    simp only [List.cons_append, dget]
    by_cases e : x = k
    · simp [e]
    · simp only [if_neg e]; exact dget_app r b
theorem dget_any {k : Key} : ∀ (d : Dc), (d.any fun p => decide (p.1 = k)) = (dget k d).isSome
  | [] => rfl
  | (x, v) :: r => by
    simp only [List.any_cons, dget]
    by_cases e : x = k
    · simp [e]
    · simp only [if_neg e, dget_any r, decide_eq_false e, Bool.false_or]
theorem dget_map {k k' : Key} {v : W} : ∀ (d : Dc), dget k' (d.map fun p => if p.1 = k then (p.1, v) else p) = if k' = k ∧ (dget k d).isSome then some v else dget k' d
  | [] => by simp [dget]
  | (x, u) :: r => by
    simp only [List.map_cons, dget]
    by_cases e : x = k
    · subst e
      by_cases e' : x = k'
      · subst e'; simp [dget]
      · have h1 : ¬ k' = x := fun z => e' z.symm
        simp only [if_true, dget, if_neg e', dget_map r, h1, false_and, if_false]
    · by_cases e' : x = k'
      · subst e'
        have h1 : ¬ x = k := e
        simp [dget, h1]
      · simp only [if_neg e, dget, if_neg e', dget_map r]
theorem dget_dput (k k' : Key) (v : W) (d : Dc) : dget k' (dput k v d) = if k' = k then some v else dget k' d := by
  unfold dput
  split
  · rename_i h
    rw [dget_any] at h
    rw [dget_map]
    by_cases e : k' = k
    · simp [e, h]
    · simp [e]
  · rename_i h
    rw [dget_any] at h
    rw [dget_app]
    by_cases e : k' = k
    · subst e
      have : dget k' d = none := by simpa using h
      simp [this, dget]
    · have h1 : ¬ k = k' := fun z => e z.symm
      simp only [dget, if_neg h1, if_neg e]
      cases dget k' d <;> rfl
theorem dput_len (k : Key) (v : W) (d : Dc) : (dput k v d).length ≤ d.length + 1 := by
  unfold dput
  split <;> simp
def numR : Nat → List Rg → List (Nat × Rg)
  | _, [] => []
  | n, r :: rs => (n, r) :: numR (n + 1) rs
theorem enum_num : ∀ (n : Nat) (rs : List Rg), enumW n (rs.map Rg.w3) = (numR n rs).map fun p => .tup [.int p.1, p.2.w3]
  | _, [] => rfl
  | n, r :: rs => by simp [enumW, numR, enum_num (n + 1) rs]
def putR (acc : Dc) (p : Nat × Rg) : Dc := dput (.inr p.2.nm) (.int p.1) acc
theorem put_get (x : Str) : ∀ (rs : List Rg) (n : Nat) (acc : Dc), (rs.map Rg.nm).Nodup → dget (.inr x) ((numR n rs).foldl putR acc) = if x ∈ rs.map Rg.nm then some (.int ((n + (rs.map Rg.nm).idxOf x : Nat))) else dget (.inr x) acc
  | [], n, acc, _ => by simp [numR]
  | r :: rs, n, acc, h => by
    simp only [List.map_cons, List.nodup_cons] at h
    simp only [numR, List.foldl_cons]
    rw [put_get x rs (n + 1) _ h.2]
    by_cases hx : x ∈ rs.map Rg.nm
    · have hne : r.nm ≠ x := fun z => h.1 (by rw [z]; exact hx)
      have hb : (r.nm == x) = false := by simpa using hne
      rw [if_pos hx, if_pos (by simp only [List.map_cons, List.mem_cons]; exact .inr hx)]
      simp only [List.map_cons, List.idxOf_cons, hb, cond_false]
      congr 2
      push_cast
      omega
    · rw [if_neg hx]
      simp only [putR, dget_dput]
      by_cases e : x = r.nm
      · subst e
        simp
      · have h1 : ¬ (Sum.inr x : Key) = .inr r.nm := fun z => e (Sum.inr.inj z)
        rw [if_neg h1, if_neg (by simp only [List.map_cons, List.mem_cons]; exact fun z => z.elim e hx)]
theorem put_geti (i : Int) : ∀ (rs : List Rg) (n : Nat) (acc : Dc), dget (.inl i) ((numR n rs).foldl putR acc) = dget (.inl i) acc
  | [], n, acc => by simp [numR]
  | r :: rs, n, acc => by
    simp only [numR, List.foldl_cons]
    rw [put_geti i rs (n + 1) _, putR, dget_dput, if_neg (by simp)]
theorem num_len : ∀ (n : Nat) (rs : List Rg), (numR n rs).length = rs.length
  | _, [] => rfl
  | n, r :: rs => by simp [numR, num_len (n + 1) rs]
def dcStep (C : Cn) (own : List Nat) (t : Tg) (k e : E) (ρ : Rho) : W → Dc → Store → Out Dc := fun z acc S2 => (ofOpt (tgW t z (wipeR ρ own)) S2).bd fun ρ2 S2 => (den C k ρ2 S2).noex.bd fun u S3 => (den C e ρ2 S3).noex.bd fun w S4 => (match keyW u with
        | some kk => if acc.length < line then .ok (dput kk w acc) S4 else .no
        | none => .no)
def kDcomp (C : Cn) (own : List Nat) (t : Tg) (k e : E) (ρ : Rho) (r : Out (List W)) : Out W := r.bd fun xs S1 =>
      (turnsT (dcStep C own t k e ρ) xs [] S1).bd fun t S6 => .ok (.loc S6.length) (S6 ++ [some (.dic t)])
@[simp] theorem den_dcomp {C : Cn} {ρ : Rho} {S : Store} {own : List Nat} {t : Tg} {it : I} {k e : E} : den C (.dcomp own t it k e) ρ S = kDcomp C own t k e ρ (itr C it ρ S) := (rfl)
theorem plc_ok {rs : List Rg} (h : (rs.map Rg.nm).Nodup) : Plc (rs.map Rg.nm) ((numR 0 rs).foldl putR []) := by
  refine ⟨fun x => ?_, fun i => ?_⟩
  · rw [put_get x rs 0 [] h]
    simp [dget]
  · rw [put_geti]; rfl
end K39
end

section
set_option linter.all false
set_option maxRecDepth 100000
namespace K39
open PySem Gs
theorem belowS_app (n : Nat) : ∀ A B : Store, belowS n (A ++ B) = (belowS n A && belowS n B)
  | [], B => by simp [belowS]
  | none :: A, B => by simp [belowS, belowS_app n A B]
  | some o :: A, B => by simp [belowS, belowS_app n A B, Bool.and_assoc]
theorem belOb_mono {n m : Nat} (h : n ≤ m) : ∀ o : Ob, o.bel n = true → o.bel m = true
  | .lst xs, hb => bels_mono2 h xs hb
  | .dic kvs, hb => by
    simp only [Ob.bel, List.all_eq_true] at hb ⊢
    exact fun p hp => bel_mono2 h _ (hb p hp)
  | .ins c fs, hb => by
    simp only [Ob.bel, List.all_eq_true] at hb ⊢
    exact fun p hp => bel_mono2 h _ (hb p hp)
theorem belowS_mono {n m : Nat} (h : n ≤ m) : ∀ {S : Store}, belowS n S = true → belowS m S = true
  | [], _ => rfl
  | none :: S, hb => belowS_mono h (S := S) hb
  | some o :: S, hb => by
    simp only [belowS, Bool.and_eq_true] at hb ⊢
    exact ⟨belOb_mono h o hb.1, belowS_mono h hb.2⟩
mutual
theorem bel_pure (m : Nat) : ∀ (w : W), 0 < w.pure → w.bel m = true
  | .non, _ => rfl
  | .bl _, _ => rfl
  | .int _, _ => rfl
  | .str _, _ => rfl
  | .tup xs, h => by
    simp only [W.bel]
    apply bels_pure m xs
    simp only [W.pure] at h
    cases e : W.pures xs with
    | zero => rw [e] at h; simp at h
    | succ c => omega
  | .lst xs, h => by
    simp only [W.bel]
    apply bels_pure m xs
    simp only [W.pure] at h
    cases e : W.pures xs with
    | zero => rw [e] at h; simp at h
    | succ c => omega
  | .ty _, h => by simp [W.pure] at h
  | .loc _, h => by simp [W.pure] at h
  | .fn _, h => by simp [W.pure] at h
  | .scr _, h => by simp [W.pure] at h
theorem bels_pure (m : Nat) : ∀ (ws : List W), 0 < W.pures ws → W.bels m ws = true
  | [], _ => rfl
  | w :: r, h => by
    simp only [W.pures] at h
    cases e1 : w.pure with
    | zero => rw [e1] at h; simp at h
    | succ a =>
      cases e2 : W.pures r with
      | zero => rw [e1, e2] at h; simp at h
      | succ b =>
        simp only [W.bels, bel_pure m w (by omega), bels_pure m r (by omega), Bool.and_self]
end
theorem pures_of {m : Nat} : ∀ {ps : List W}, (∀ p ∈ ps, 0 < p.pure ∧ p.pure ≤ m + 1) → 0 < W.pures ps ∧ W.pures ps ≤ m + 1
  | [], _ => by simp [W.pures]
  | p :: r, h => by
    have h1 := h p (by simp)
    have h2 := pures_of (ps := r) fun q hq => h q (by simp [hq])
    simp only [W.pures]
    cases e1 : p.pure with
    | zero => omega
    | succ a =>
      cases e2 : W.pures r with
      | zero => omega
      | succ c => simp only []; omega
theorem tup_pure {m : Nat} {ps : List W} (h : ∀ p ∈ ps, 0 < p.pure ∧ p.pure ≤ m + 1) : 0 < (W.tup ps).pure ∧ (W.tup ps).pure ≤ m + 2 := by
  obtain ⟨h1, h2⟩ := pures_of h
  simp only [W.pure]
  cases e : W.pures ps with
  | zero => omega
  | succ c => simp only []; omega
def treesL (names : List Str) (kvs : Dc) : List Ts → Option (List W)
  | [] => some []
  | t :: r => match tree names kvs t.a, tree names kvs t.b with
    | some x, some y => (treesL names kvs r).map (W.tup [.str t.s, x, y] :: ·)
    | _, _ => none
theorem trees_pure {names : List Str} {kvs : Dc} : ∀ {ts : List Ts} {q : List W}, (∀ t ∈ ts, t.a.dp ≤ 20 ∧ t.b.dp ≤ 20) → treesL names kvs ts = some q → (∀ w ∈ q, 0 < w.pure ∧ w.pure ≤ 30) ∧ q.length = ts.length
  | [], q, _, h => by cases h; exact ⟨by simp, rfl⟩
  | t :: r, q, hd, h => by
    simp only [treesL] at h
    cases ha : tree names kvs t.a with
    | none => rw [ha] at h; cases h
    | some x =>
      cases hb : tree names kvs t.b with
      | none => rw [ha, hb] at h; cases h
      | some y =>
        rw [ha, hb] at h
        obtain ⟨q', hq, rfl⟩ := Option.map_eq_some_iff.mp h
        obtain ⟨h1, h2⟩ := trees_pure (fun t ht => hd t (by simp [ht])) hq
        obtain ⟨a1, a2, _⟩ := tree_pure ha
        obtain ⟨b1, b2, _⟩ := tree_pure hb
        have hdt := hd t (by simp)
        refine ⟨fun w hw => ?_, by simp [h2]⟩
        rcases List.mem_cons.mp hw with rfl | hw
        · have := tup_pure (m := 24) (ps := [.str t.s, x, y]) (fun p hp => by
            simp only [List.mem_cons, List.not_mem_nil, or_false] at hp
            rcases hp with rfl | rfl | rfl
            · simp [W.pure]
            · omega
            · omega)
          omega
        · exact h1 w hw
structure TOk (names : List Str) (kvs : Dc) (t : Ts) : Prop where
  a : t.a.Ok (Hat names kvs)
  b : t.b.Ok (Hat names kvs)
  da : t.a.dp ≤ 20
  db : t.b.dp ≤ 20
  s : t.s ≠ ("and" : Str)
def rtB : List Sm := [.asg (.nm 12) (.lst true [(.call "as_tree" [(.var 10), (.var 3), (.var 1)]), (.call "as_tree" [(.var 11), (.var 3), (.var 1)])]), .ife (.cmp .In .cnon (.var 12)) [.ret .cnon] [], .expr (.mt .append (.var 8) [(.tup [(.var 9), (.ix (.var 12) (.cint 0)), (.ix (.var 12) (.cint 1))])])]
theorem rt_loop {names : List Str} {kvs pl : Dc} (hk : Fil kvs) (hp : Plc names pl) {S1 : Store} {l lp : Nat} (hS : S1[l]? = some (some (.dic kvs))) (hL : S1[lp]? = some (some (.dic pl))) {k : Nat} (hk3 : 25 ≤ k) (o0 o2 o4 o5 o6 o7 : Option W) : ∀ (ts : List Ts), (∀ t ∈ ts, TOk names kvs t) → ∀ (acc : List W), acc.length + ts.length ≤ 100 → ∀ (o9 o10 o11 o12 : Option W),
    match treesL names kvs ts with
    | some q => ∃ o9' o10' o11' o12', forL (C k) (.tp [(.nm 9), (.nm 10), (.nm 11)]) rtB (ts.map Ts.w) [o0, some (.loc l), o2, some (.loc lp), o4, o5, o6, o7, some (.loc S1.length), o9, o10, o11, o12] (S1 ++ [some (.lst acc)]) = .ok (.nx [o0, some (.loc l), o2, some (.loc lp), o4, o5, o6, o7, some (.loc S1.length), o9', o10', o11', o12']) (S1 ++ [some (.lst (acc ++ q))])
    | none => ∃ acc', forL (C k) (.tp [(.nm 9), (.nm 10), (.nm 11)]) rtB (ts.map Ts.w) [o0, some (.loc l), o2, some (.loc lp), o4, o5, o6, o7, some (.loc S1.length), o9, o10, o11, o12] (S1 ++ [some (.lst acc)]) = .ok (.rt .non) (S1 ++ [some (.lst acc')]) := by
  intro ts
  induction ts with
  | nil => intro _ acc _ o9 o10 o11 o12; exact ⟨o9, o10, o11, o12, by simp⟩
  | cons t ts ih =>
    intro h acc hl o9 o10 o11 o12
    simp only [List.length_cons] at hl
    have ht := h t (by simp)
    have hda := ht.da
    have hdb := ht.db
    have hS' : ∀ X : Store, (S1 ++ X)[l]? = some (some (.dic kvs)) := fun X => by
      rw [List.getElem?_append_left (List.getElem?_eq_some_iff.mp hS).1]; exact hS
    have hL' : ∀ X : Store, (S1 ++ X)[lp]? = some (some (.dic pl)) := fun X => by
      rw [List.getElem?_append_left (List.getElem?_eq_some_iff.mp hL).1]; exact hL
    have e1 := f_astree hk hp (hS' [some (.lst acc)]) (hL' _) t.a ht.a hda k (by omega)
    have e2 := f_astree hk hp (hS' [some (.lst acc)]) (hL' _) t.b ht.b hdb k (by omega)
    have hpa : ∀ t : Su, t.dp ≤ 20 → ∀ w, tree names kvs t = some w → 0 < w.pure ∧ w.pure ≤ 50 ∧ isNon w = false := fun t ht w hw => by
      obtain ⟨h1, h2, h3⟩ := tree_pure hw
      exact ⟨h1, by omega, h3⟩
    have hin := in_non (S := S1 ++ [some (.lst acc)]) (hpa t.a (by omega)) (hpa t.b (by omega))
    have n2 : ∀ (p q : W) S, newL true [p, q] S = .ok (.lst [p, q]) S := fun p q S => rfl
    have hz : acc.length < 16777216 := by omega
    have hg : (S1 ++ [some (Ob.lst acc)])[S1.length]? = some (some (.lst acc)) := by simp
    have hs : ∀ w : W, (S1 ++ [some (Ob.lst acc)]).set S1.length (some (.lst (acc ++ [w]))) = S1 ++ [some (.lst (acc ++ [w]))] := fun w => by
      rw [List.set_append_right _ _ (by omega)]; simp
    simp only [treesL]
    obtain ⟨S0, hS0⟩ : ∃ S, S = S1 ++ [some (Ob.lst acc)] := ⟨_, rfl⟩
    cases ha : tree names kvs t.a with
    | none =>
      refine ⟨acc, ?_⟩
      rw [ha] at e1 hin
      simp only [Option.isNone_none, Bool.true_or] at hin
      obtain ⟨lw, hlw⟩ : ∃ w, w = [optT none, optT (tree names kvs t.b)] := ⟨_, rfl⟩
      have hn2 : newL true [optT none, optT (tree names kvs t.b)] S0 = .ok (.lst lw) S0 := by rw [hlw]; rfl
      rw [← hlw] at hin
      rw [← hS0] at e1 e2 hin ⊢
      simp only [optT] at hn2 e1
      simp [Ts.w, forL_cons, rtB, e1, e2, hn2, hin, optT]
    | some x =>
      cases hb : tree names kvs t.b with
      | none =>
        refine ⟨acc, ?_⟩
        rw [ha] at e1
        rw [hb] at e2
        rw [ha, hb] at hin
        simp only [Option.isNone_none, Bool.or_true] at hin
        obtain ⟨lw, hlw⟩ : ∃ w, w = [optT (some x), optT none] := ⟨_, rfl⟩
        have hn2 : newL true [x, W.non] S0 = .ok (.lst lw) S0 := by rw [hlw]; rfl
        rw [← hlw] at hin
        rw [← hS0] at e1 e2 hin ⊢
        simp only [optT] at e1 e2
        simp [Ts.w, forL_cons, rtB, e1, e2, hn2, hin]
      | some y =>
        rw [ha] at e1
        rw [hb] at e2
        rw [ha, hb] at hin
        simp only [Option.isNone_some, Bool.or_false] at hin
        simp only [optT] at e1 e2 hin
        have hturn : ∃ o12', kTgB (C k) rtB (tgW (.tp [(.nm 9), (.nm 10), (.nm 11)]) t.w [o0, some (.loc l), o2, some (.loc lp), o4, o5, o6, o7, some (.loc S1.length), o9, o10, o11, o12]) (S1 ++ [some (.lst acc)]) = .ok (.nx [o0, some (.loc l), o2, some (.loc lp), o4, o5, o6, o7, some (.loc S1.length), some (.str t.s), some t.a.w, some t.b.w, o12']) (S1 ++ [some (.lst (acc ++ [.tup [.str t.s, x, y]]))]) := by
          refine ⟨some (.lst [x, y]), ?_⟩
          obtain ⟨lw, hlw⟩ : ∃ w, w = [x, y] := ⟨_, rfl⟩
          have hn2 : newL true [x, y] S0 = .ok (.lst lw) S0 := by rw [hlw]; rfl
          have g0 : ∀ S, getW (.lst lw) (.int 0) S = .ok x S := fun S => by rw [hlw]; rfl
          have g1 : ∀ S, getW (.lst lw) (.int 1) S = .ok y S := fun S => by rw [hlw]; rfl
          rw [← hlw] at hin ⊢
          have hs' := hs (.tup [.str t.s, x, y])
          rw [← hS0] at e1 e2 hin hg hs' ⊢
          simp [Ts.w, rtB, e1, e2, hn2, hin, g0, g1, hg, hz, hs']
          exact hlw.symm
        obtain ⟨o12', e3⟩ := hturn
        have e4 := ih (fun q hq => h q (by simp [hq])) (acc ++ [.tup [.str t.s, x, y]]) (by simp; omega) (some (.str t.s)) (some t.a.w) (some t.b.w) o12'
        cases hq : treesL names kvs ts with
        | none =>
          rw [hq] at e4
          obtain ⟨acc', e4⟩ := e4
          refine ⟨acc', ?_⟩
          rw [List.map_cons, forL_cons, e3]
          exact e4
        | some q =>
          rw [hq] at e4
          obtain ⟨p9, p10, p11, p12, e4⟩ := e4
          refine ⟨p9, p10, p11, p12, ?_⟩
          rw [List.map_cons, forL_cons, e3]
          simp only [List.append_assoc, List.cons_append, List.nil_append] at e4
          exact e4
/-! ### resolved -/
def dueR (names : List Str) (kvs : Dc) (rs : List Rg) (ts : List Ts) : Except Bool (List Pr × List W) := match boxU kvs rs with
  | .error e => .error e
  | .ok q => match treesL names kvs ts with
    | none => .error false
    | some q2 => .ok (q, q2)
def dueW (p : List Pr × List W) : W := .tup [.tup (p.1.map pw), .tup p.2]
theorem pw_pure (p : Pr) : 0 < (pw p).pure ∧ (pw p).pure ≤ 3 := ⟨by simp [pw, W.pure, W.pures], by simp [pw, W.pure, W.pures]⟩
theorem dueW_pure {q : List Pr} {q2 : List W} (h : ∀ w ∈ q2, 0 < w.pure ∧ w.pure ≤ 30) : 0 < (dueW (q, q2)).pure ∧ (dueW (q, q2)).pure ≤ 40 := by
  have h1 := tup_pure (m := 29) (ps := q.map pw) (fun w hw => by
    obtain ⟨p, _, rfl⟩ := List.mem_map.mp hw
    have := pw_pure p
    omega)
  have h2 := tup_pure (m := 29) (ps := q2) (fun w hw => by
    have := h w hw
    omega)
  have := tup_pure (m := 30) (ps := [.tup (q.map pw), .tup q2]) (fun w hw => by
    simp only [List.mem_cons, List.not_mem_nil, or_false] at hw
    rcases hw with rfl | rfl
    · omega
    · omega)
  exact ⟨this.1, by show (W.tup [.tup (q.map pw), .tup q2]).pure ≤ _; omega⟩
theorem dput_mem {k : Key} {v : W} {d : Dc} {x : Key × W} (hx : x ∈ dput k v d) : x.2 = v ∨ ∃ y ∈ d, x.2 = y.2 := by
  simp only [dput] at hx
  split at hx
  · obtain ⟨y, hy, rfl⟩ := List.mem_map.mp hx
    split
    · exact .inl rfl
    · exact .inr ⟨y, hy, rfl⟩
  · rcases List.mem_append.mp hx with hx | hx
    · exact .inr ⟨x, hx, rfl⟩
    · rw [List.mem_singleton.mp hx]; exact .inl rfl
theorem put_bel (m : Nat) : ∀ (rs : List Rg) (n : Nat) (acc : Dc), (∀ p ∈ acc, p.2.bel m = true) → ∀ p ∈ (numR n rs).foldl putR acc, p.2.bel m = true
  | [], n, acc, h => by simpa [numR] using h
  | r :: rs, n, acc, h => by
    simp only [numR, List.foldl_cons]
    refine put_bel m rs (n + 1) _ fun p hp => ?_
    rcases dput_mem hp with e | ⟨y, hy, e⟩
    · rw [e]; rfl
    · rw [e]; exact h y hy
theorem itr_enum {C : Cn} {ρ : Rho} {S : Store} {a : E} : itr C (.enum a) ρ S = (den C a ρ S).bd fun x S1 => (match x with
    | .lst xs => .ok (enumW 0 xs) S1
    | _ => .no) := (rfl)
theorem dcomp_run {k : Nat} {S : Store} {rs : List Rg} (hl : rs.length ≤ 3) {ρ : Rho} (hρ : ρ.length = 13) :
    kDcomp (C k) [4, 5, 6, 7] (.tp [(.nm 4), (.tp [(.nm 5), (.nm 6), (.nm 7)])]) (.var 5) (.var 4) ρ (.ok (enumW 0 (rs.map Rg.w3)) S) = .ok (.loc S.length) (S ++ [some (.dic ((numR 0 rs).foldl putR []))]) := by
  match ρ, hρ with
  | [r0, r1, r2, r3, r4, r5, r6, r7, r8, r9, r10, r11, r12], _ =>
  unfold kDcomp
  rw [Out.bd_ok, enum_num]
  have e := turnsT_map (S := S) (v := fun p : Nat × Rg => W.tup [.int p.1, p.2.w3]) (g := putR) (step := dcStep (C k) [4, 5, 6, 7] (.tp [(.nm 4), (.tp [(.nm 5), (.nm 6), (.nm 7)])]) (.var 5) (.var 4) [r0, r1, r2, r3, r4, r5, r6, r7, r8, r9, r10, r11, r12]) (numR 0 rs) [] (fun p hp acc ha => by
          have ha' : acc.length < 16777216 := ha
          simp [dcStep, wipeR, Rg.w3, tgW, tgsW, keyW, ha', putR]) (fun acc a => dput_len _ _ _) (by rw [num_len]; show 0 + rs.length ≤ 16777216; omega)
  rw [e]
  rfl
theorem f_resolved {kvs : Dc} (hk : Fil kvs) {S : Store} {l : Nat} (hS : S[l]? = some (some (.dic kvs))) (hb : belowS S.length S = true) {rs : List Rg} {ts : List Ts} (hr : ∀ r ∈ rs, ROk kvs r) (hn : rs ≠ []) (hl : rs.length ≤ 3) (hnd : (rs.map Rg.nm).Nodup)
    (ht : ∀ t ∈ ts, TOk (rs.map Rg.nm) kvs t) (htl : ts.length ≤ 9) {k : Nat} (hk3 : 30 ≤ k) :
    F (k + 1) "resolved" [goalW rs ts, .loc l] S = exW ((dueR (rs.map Rg.nm) kvs rs ts).map dueW) S := by
  rw [F_run d_resolved rfl rfl]
  obtain ⟨k, rfl⟩ : ∃ j, k = j + 4 := ⟨k - 4, by omega⟩
  have e1 := f_box (ts := ts) hk hS hb hr hn hl (k := k + 3) (by omega)
  have e2 := f_ranges (ts := ts) hn (by omega) (k := k + 2) hb
  obtain ⟨pl, hpl⟩ : ∃ pl, pl = (numR 0 rs).foldl putR [] := ⟨_, rfl⟩
  have hP := plc_ok hnd
  rw [← hpl] at hP
  have hbP : belowS (S ++ [some (Ob.dic pl)]).length (S ++ [some (Ob.dic pl)]) = true := by
    have hlen : (S ++ [some (Ob.dic pl)]).length = S.length + 1 := by simp
    rw [hlen, belowS_app, belowS_mono (by omega) hb, Bool.true_and]
    have : ∀ p ∈ pl, p.2.bel (S.length + 1) = true := by rw [hpl]; exact put_bel _ rs 0 [] (by simp)
    simp only [belowS, Ob.bel, Bool.and_true, List.all_eq_true]
    exact this
  have hfz : frozenW (.lst (ts.map Ts.w)) = some (ts.map Ts.w) := rfl
  have e3 := fun (ρ : Rho) (hρ : ρ.length = 13) => dcomp_run (k := k + 4) (S := S) (rs := rs) hl hρ
  rw [← hpl] at e3
  have hbd : b_resolved = [.asg (.nm 2) (.call "box_under" [(.var 0), (.var 1)]), .ife (.cmp .Is (.var 2) .cnon) [.ret .cnon] [], .asg (.nm 3) (.dcomp [4, 5, 6, 7] (.tp [(.nm 4), (.tp [(.nm 5), (.nm 6), (.nm 7)])]) (.enum (.call "ranges_of" [(.var 0)])) (.var 5) (.var 4)), .asg (.nm 8) (.lst false []), .for (.tp [(.nm 9), (.nm 10), (.nm 11)]) (.seq (.call "tests_of" [(.var 0)])) rtB, .ret (.tup [(.var 2), (.bi .tupleOf [(.var 8)])])] := rfl
  unfold dueR
  cases hq : boxU kvs rs with
  | error e =>
    rw [hq] at e1
    obtain ⟨gw, hgw⟩ : ∃ w, w = goalW rs ts := ⟨_, rfl⟩
    rw [← hgw] at e1 ⊢
    cases e with
    | true =>
      have e1 : F (k + 4) "box_under" [gw, .loc l] S = .ex ⟨"Open", []⟩ S := e1
      show _ = Out.ex ⟨"Open", []⟩ S
      simp [b_resolved, e1]
    | false =>
      have e1 : F (k + 4) "box_under" [gw, .loc l] S = .ok .non S := e1
      show _ = Out.ok W.non S
      simp [b_resolved, e1]
  | ok q =>
    rw [hq] at e1
    have e1 : F (k + 4) "box_under" [goalW rs ts, .loc l] S = .ok (.tup (q.map pw)) S := e1
    obtain ⟨S1, hS1⟩ : ∃ S1, S1 = S ++ [some (Ob.dic pl)] := ⟨_, rfl⟩
    have hl1 : S1.length = S.length + 1 := by rw [hS1]; simp
    have hSl : S1[l]? = some (some (.dic kvs)) := by
      rw [hS1, List.getElem?_append_left (List.getElem?_eq_some_iff.mp hS).1]; exact hS
    have hSp : S1[S.length]? = some (some (.dic pl)) := by rw [hS1]; simp
    have hbL : belowS (S1 ++ [some (Ob.lst [])]).length (S1 ++ [some (Ob.lst [])]) = true := by
      have hlen : (S1 ++ [some (Ob.lst [])]).length = S1.length + 1 := by simp
      have h0 : belowS S1.length S1 = true := by rw [hS1]; exact hbP
      rw [hlen, belowS_app, belowS_mono (n := S1.length) (by omega) h0]
      rfl
    have e4 := f_tests (rs := rs) (ts := ts) hn (by omega) (fun t h => (ht t h).s) (k := k + 2) hbL
    have e5 := rt_loop hk hP hSl hSp (k := k + 4) (by omega) (some (goalW rs ts)) (some (.tup (q.map pw))) none none none none ts ht [] (by simp; omega) none none none none
    have e3' := e3 [some (goalW rs ts), some (.loc l), some (.tup (q.map pw)), none, none, none, none, none, none, none, none, none, none] rfl
    rw [← hS1] at e3'
    obtain ⟨gw, hgw⟩ : ∃ w, w = goalW rs ts := ⟨_, rfl⟩
    rw [← hgw] at e1 e2 e3' e4 e5 ⊢
    obtain ⟨qw, hqw⟩ : ∃ w, w = W.tup (q.map pw) := ⟨_, rfl⟩
    rw [← hqw] at e1 e3' e5
    have hqn : isNon qw = false := by rw [hqw]; rfl
    obtain ⟨rw', hrw⟩ : ∃ w, w = rs.map Rg.w3 := ⟨_, rfl⟩
    rw [← hrw] at e2 e3'
    obtain ⟨tw, htw⟩ : ∃ w, w = ts.map Ts.w := ⟨_, rfl⟩
    rw [← htw] at e4 e5 hfz
    cases hq2 : treesL (rs.map Rg.nm) kvs ts with
    | none =>
      rw [hq2] at e5
      obtain ⟨acc', e5⟩ := e5
      have hlv := leave_drop (J := [some (Ob.dic pl), some (Ob.lst acc')]) (w := .non) (n := S.length) rfl rfl hb
      have hJ : S1 ++ [some (Ob.lst acc')] = S ++ [some (Ob.dic pl), some (Ob.lst acc')] := by rw [hS1]; simp
      rw [← hJ] at hlv
      obtain ⟨S3, hS3⟩ : ∃ S, S = S1 ++ [some (Ob.lst acc')] := ⟨_, rfl⟩
      rw [← hS3] at e5 hlv
      show _ = Out.ok W.non S
      simp [hbd, e1, hqn, itr_enum, e2, e3', e4, hfz, e5, hlv]
    | some q2 =>
      rw [hq2] at e5
      obtain ⟨p9, p10, p11, p12, e5⟩ := e5
      simp only [List.nil_append] at e5
      obtain ⟨h1, h2⟩ := trees_pure (fun t h => ⟨(ht t h).da, (ht t h).db⟩) hq2
      have hdp := dueW_pure (q := q) h1
      have hlv := leave_drop (J := [some (Ob.dic pl), some (Ob.lst q2)]) (w := dueW (q, q2)) (n := S.length) rfl (bel_pure _ _ hdp.1) hb
      have hJ : S1 ++ [some (Ob.lst q2)] = S ++ [some (Ob.dic pl), some (Ob.lst q2)] := by rw [hS1]; simp
      rw [← hJ] at hlv
      have hto : biW .tupleOf [.loc S1.length] (S1 ++ [some (Ob.lst q2)]) = .ok (.tup q2) (S1 ++ [some (Ob.lst q2)]) := by simp [seqW]
      obtain ⟨S3, hS3⟩ : ∃ S, S = S1 ++ [some (Ob.lst q2)] := ⟨_, rfl⟩
      rw [← hS3] at e5 hlv hto
      show _ = Out.ok (dueW (q, q2)) S
      have hdw : dueW (q, q2) = .tup [qw, .tup q2] := by rw [hqw]; rfl
      rw [hdw] at hlv ⊢
      simp [hbd, e1, hqn, itr_enum, e2, e3', e4, hfz, e5, hto, hlv]
end K39
end

section
set_option linter.all false
set_option maxRecDepth 100000
/-! GLoop: loops that return or raise. -/
namespace Gs
open PySem
variable {C : Cn} {ρ : Rho} {S S1 : Store}
/-- a loop whose turns go through or raise -/
theorem forL_ex {t : Tg} {b : List Sm} (I : List W → Rho → Store → Prop) (Q : Xc → Store → Prop)
    (h : ∀ x xs ρ S, I (x :: xs) ρ S → (∃ ρ' S', kTgB C b (tgW t x ρ) S = .ok (.nx ρ') S' ∧ I xs ρ' S') ∨ (∃ e S', kTgB C b (tgW t x ρ) S = .ex e S' ∧ Q e S')) :
    ∀ (xs : List W) (ρ : Rho) (S : Store), I xs ρ S → (∃ ρ' S', forL C t b xs ρ S = .ok (.nx ρ') S' ∧ I [] ρ' S') ∨ ∃ e S', forL C t b xs ρ S = .ex e S' ∧ Q e S' := by
  intro xs
  induction xs with
  | nil => intro ρ S h0; exact .inl ⟨ρ, S, rfl, h0⟩
  | cons x xs ih =>
    intro ρ S h0
    rcases h x xs ρ S h0 with ⟨ρ', S', e, h1⟩ | ⟨x', S', e, h1⟩
    · rcases ih ρ' S' h1 with ⟨ρ2, S2, e2, h2⟩ | ⟨x2, S2, e2, h2⟩
      · exact .inl ⟨ρ2, S2, by rw [forL_cons, e, kLoop_nx, e2], h2⟩
      · exact .inr ⟨x2, S2, by rw [forL_cons, e, kLoop_nx, e2], h2⟩
    · exact .inr ⟨x', S', by rw [forL_cons, e]; rfl, h1⟩
/-- a loop over a list of the store that stays as it is, whose turns go through or return -/
theorem forD_rt {l : Nat} {t : Tg} {b : List Sm} (ys : List W) (I : List W → Rho → Store → Prop) (Q : W → Store → Prop)
    (hI : ∀ xs ρ S, I xs ρ S → S[l]? = some (some (.lst ys)))
    (h : ∀ x xs ρ S, I (x :: xs) ρ S → (∃ ρ' S', kTgB C b (tgW t x ρ) S = .ok (.nx ρ') S' ∧ I xs ρ' S') ∨ (∃ w S', kTgB C b (tgW t x ρ) S = .ok (.rt w) S' ∧ Q w S')) :
    ∀ (xs : List W) (i n : Nat) (ρ : Rho) (S : Store), xs = ys.drop i → xs.length < n → I xs ρ S → (∃ ρ' S', forD C l t b n i ρ S = .ok (.nx ρ') S' ∧ I [] ρ' S') ∨ ∃ w S', forD C l t b n i ρ S = .ok (.rt w) S' ∧ Q w S' := by
  intro xs
  induction xs with
  | nil =>
    intro i n ρ S hx hn h0
    obtain ⟨n, rfl⟩ : ∃ m, n = m + 1 := ⟨n - 1, by simp at hn; omega⟩
    refine .inl ⟨ρ, S, ?_, h0⟩
    have hi : ys[i]? = none := by
      have := congrArg List.length hx
      simp at this
      exact List.getElem?_eq_none (by omega)
    simp only [forD, loopsD, hI _ _ _ h0, hi]
  | cons x xs ih =>
    intro i n ρ S hx hn h0
    obtain ⟨n, rfl⟩ : ∃ m, n = m + 1 := ⟨n - 1, by simp at hn; omega⟩
    have hi : ys[i]? = some x := by
      have : (ys.drop i)[0]? = some x := by rw [← hx]; rfl
      simpa using this
    rcases h x xs ρ S h0 with ⟨ρ', S', e, h1⟩ | ⟨w, S', e, h1⟩
    · have e' : ((ofOpt (tgW t x ρ) S).bd fun ρ2 S2 => exes C b ρ2 S2) = .ok (.nx ρ') S' := e
      rcases ih (i + 1) n ρ' S' (by
        have : ys.drop (i + 1) = (ys.drop i).drop 1 := by simp [Nat.add_comm]
        rw [this, ← hx]; rfl) (by simp at hn; omega) h1 with ⟨ρ2, S2, e2, h2⟩ | ⟨w, S2, e2, h2⟩
      · refine .inl ⟨ρ2, S2, ?_, h2⟩
        simp only [forD] at e2 ⊢
        simp only [loopsD, hI _ _ _ h0, hi, e', Out.bd_ok]
        exact e2
      · refine .inr ⟨w, S2, ?_, h2⟩
        simp only [forD] at e2 ⊢
        simp only [loopsD, hI _ _ _ h0, hi, e', Out.bd_ok]
        exact e2
    · have e' : ((ofOpt (tgW t x ρ) S).bd fun ρ2 S2 => exes C b ρ2 S2) = .ok (.rt w) S' := e
      refine .inr ⟨w, S', ?_, h1⟩
      simp only [forD, loopsD, hI _ _ _ h0, hi, e', Out.bd_ok]
end Gs
end

section
set_option linter.all false
set_option maxRecDepth 100000
namespace K39
open PySem Gs
/-! ### the law's own reckoning -/
def stopW (e : Bool) : W := if e = true then .tup [.str "open"] else .tup [.str "told", .non]
def dwB : List Sm := [.asg (.nm 7) (.call "_law_worth" [(.var 6), (.var 3)]), .ife (.cmp .Is (.var 7) .cnon) [.ret (.tup [(.cstr "told"), .cnon])] [], .ife (.cmp .GtE (.bi .abs [(.var 7)]) (.bin true .Pow (.cint 10) (.cint 60))) [.ret (.tup [(.cstr "open")])] [], .expr (.mt .append (.var 4) [(.var 7)])]
def drB : List Sm := [.for (.nm 6) (.seq (.sl true (.ix (.var 5) (.cint 2)) (some (.cint 1)) none)) dwB]
theorem dw_turn {kvs : Dc} (hk : Fil kvs) {S : Store} {l : Nat} (hS : S[l]? = some (some (.dic kvs))) {t : Su} (h : t.Ok (Has kvs)) (hd : t.dp ≤ 1) {k : Nat} (hk3 : 3 ≤ k) {acc : List W} (hp : acc.length ≤ 100) (o0 o1 o2 o5 o7 : Option W) (o8 : Rho) :
    ∃ o7', exes (C k) dwB (o0 :: o1 :: o2 :: some (.loc l) :: some (.loc S.length) :: o5 :: some t.w :: o7 :: o8) (S ++ [some (.lst acc)]) = match end1 kvs t with
      | .ok v => .ok (.nx (o0 :: o1 :: o2 :: some (.loc l) :: some (.loc S.length) :: o5 :: some t.w :: o7' :: o8)) (S ++ [some (.lst (acc ++ [.int v]))])
      | .error e => .ok (.rt (stopW e)) (S ++ [some (.lst acc)]) := by
  have hS' : (S ++ [some (.lst acc)])[l]? = some (some (.dic kvs)) := by
    rw [List.getElem?_append_left (List.getElem?_eq_some_iff.mp hS).1]; exact hS
  have e1 := f_lworth hk hS' t h hd k (by omega)
  have p60 : powOk 10 60 := by decide
  unfold end1
  cases hw : worth kvs t with
  | none =>
    rw [hw] at e1
    refine ⟨none, ?_⟩
    simp [dwB, e1, ofO, stopW]
  | some v =>
    rw [hw] at e1
    have hz : acc.length < 16777216 := by omega
    have hg : (S ++ [some (Ob.lst acc)])[S.length]? = some (some (.lst acc)) := by simp
    have hs : (S ++ [some (Ob.lst acc)]).set S.length (some (.lst (acc ++ [.int v]))) = S ++ [some (.lst (acc ++ [.int v]))] := by
      rw [List.set_append_right _ _ (by omega)]; simp
    have hab : ∀ S, biW .abs [.int v] S = .ok (.int (v.natAbs : Nat)) S := fun S => by
      have : (if v < 0 then -v else v) = ((v.natAbs : Nat) : Int) := by split <;> omega
      simp [biW, this]
    refine ⟨some (.int v), ?_⟩
    obtain ⟨S0, hS0⟩ : ∃ S', S' = S ++ [some (Ob.lst acc)] := ⟨_, rfl⟩
    obtain ⟨n, hn⟩ : ∃ n, n = S.length := ⟨_, rfl⟩
    rw [← hS0, ← hn] at hg hs
    rw [← hS0] at e1
    by_cases hb : 10 ^ 60 ≤ v.natAbs
    · have h1 : (10 : Int) ^ 60 ≤ ((v.natAbs : Nat) : Int) := by exact_mod_cast hb
      simp only [if_pos hb]
      rw [← hS0, ← hn]
      obtain ⟨av, hav⟩ : ∃ z : Int, z = ((v.natAbs : Nat) : Int) := ⟨_, rfl⟩
      rw [← hav] at hab h1
      have hc : cmpW .GtE (.int av) (.int (10 ^ 60)) S0 = .ok true S0 := by
        show Out.ok (decide ((10 : Int) ^ 60 ≤ av)) S0 = _
        rw [decide_eq_true h1]
      obtain ⟨tp, htp⟩ : ∃ z : Int, z = 10 ^ 60 := ⟨_, rfl⟩
      have hpw : binW true .Pow (.int 10) (.int 60) S0 = .ok (.int tp) S0 := by rw [htp]; exact binW_pow p60
      rw [← htp] at hc
      simp [dwB, e1, ofO, hab, hpw, hc, stopW]
    · have h1 : ¬ (10 : Int) ^ 60 ≤ ((v.natAbs : Nat) : Int) := by exact_mod_cast hb
      simp only [if_neg hb]
      rw [← hS0, ← hn]
      obtain ⟨av, hav⟩ : ∃ z : Int, z = ((v.natAbs : Nat) : Int) := ⟨_, rfl⟩
      rw [← hav] at hab h1
      have hc : cmpW .GtE (.int av) (.int (10 ^ 60)) S0 = .ok false S0 := by
        show Out.ok (decide ((10 : Int) ^ 60 ≤ av)) S0 = _
        rw [decide_eq_false h1]
      obtain ⟨tp, htp⟩ : ∃ z : Int, z = 10 ^ 60 := ⟨_, rfl⟩
      have hpw : binW true .Pow (.int 10) (.int 60) S0 = .ok (.int tp) S0 := by rw [htp]; exact binW_pow p60
      rw [← htp] at hc
      simp [dwB, e1, ofO, hab, hpw, hc, hg, hz, hs]
def flatI (q : List Pr) : List W := q.flatMap fun p => [W.int p.1, .int p.2]
theorem dr_turn {kvs : Dc} (hk : Fil kvs) {S : Store} {l : Nat} (hS : S[l]? = some (some (.dic kvs))) {r : Rg} (h : ROk kvs r) {k : Nat} (hk3 : 3 ≤ k) {acc : List W} (hp : acc.length ≤ 90) (o0 o1 o2 o6 o7 : Option W) (o8 : Rho) :
    ∃ o6' o7' acc', exes (C k) drB (o0 :: o1 :: o2 :: some (.loc l) :: some (.loc S.length) :: some r.w :: o6 :: o7 :: o8) (S ++ [some (.lst acc)]) = match end1 kvs r.lo with
      | .error e => .ok (.rt (stopW e)) (S ++ [some (.lst acc')])
      | .ok a => match end1 kvs r.hi with
        | .error e => .ok (.rt (stopW e)) (S ++ [some (.lst acc')])
        | .ok b => .ok (.nx (o0 :: o1 :: o2 :: some (.loc l) :: some (.loc S.length) :: some r.w :: o6' :: o7' :: o8)) (S ++ [some (.lst (acc ++ [.int a, .int b]))]) := by
  obtain ⟨p7, e1⟩ := dw_turn hk hS h.a h.da hk3 (acc := acc) (by omega) o0 o1 o2 (some r.w) o7 o8
  have hsl : ∀ S, sliceW true (.tup [.str "..", r.lo.w, r.hi.w]) (some 1) none S = .ok (.tup [r.lo.w, r.hi.w]) S := fun S => rfl
  have g2 : ∀ S, getW r.w (.int 2) S = .ok (.tup [.str "..", r.lo.w, r.hi.w]) S := fun S => rfl
  cases ha : end1 kvs r.lo with
  | error e =>
    refine ⟨none, none, acc, ?_⟩
    simp only [ha] at e1 ⊢
    simp [drB, g2, hsl, forL_cons, e1]
  | ok a =>
    simp only [ha] at e1
    obtain ⟨q7, e2⟩ := dw_turn hk hS h.b h.db hk3 (acc := acc ++ [.int a]) (by simp; omega) o0 o1 o2 (some r.w) p7 o8
    cases hb : end1 kvs r.hi with
    | error e =>
      refine ⟨none, none, acc ++ [.int a], ?_⟩
      simp only [hb] at e2 ⊢
      simp [drB, g2, hsl, forL_cons, e1, e2]
    | ok b =>
      refine ⟨some r.hi.w, q7, acc, ?_⟩
      simp only [hb] at e2 ⊢
      simp only [List.append_assoc, List.cons_append, List.nil_append] at e2
      simp [drB, g2, hsl, forL_cons, e1, e2]
theorem dr_loop {kvs : Dc} (hk : Fil kvs) {S : Store} {l : Nat} (hS : S[l]? = some (some (.dic kvs))) {k : Nat} (hk3 : 3 ≤ k) (o0 o1 o2 : Option W) (o8 : Rho) : ∀ (rs : List Rg), (∀ r ∈ rs, ROk kvs r) → ∀ (acc : List W), acc.length + 2 * rs.length ≤ 80 → ∀ (o5 o6 o7 : Option W),
    ∃ o5' o6' o7' acc', forL (C k) (.nm 5) drB (rs.map Rg.w) (o0 :: o1 :: o2 :: some (.loc l) :: some (.loc S.length) :: o5 :: o6 :: o7 :: o8) (S ++ [some (.lst acc)]) = match scanR kvs rs with
      | .error e => .ok (.rt (stopW e)) (S ++ [some (.lst acc')])
      | .ok q => .ok (.nx (o0 :: o1 :: o2 :: some (.loc l) :: some (.loc S.length) :: o5' :: o6' :: o7' :: o8)) (S ++ [some (.lst (acc ++ flatI q))]) := by
  intro rs
  induction rs with
  | nil => intro _ acc _ o5 o6 o7; exact ⟨o5, o6, o7, acc, by simp [scanR, flatI]⟩
  | cons r rs ih =>
    intro h acc hl o5 o6 o7
    simp only [List.length_cons] at hl
    obtain ⟨p6, p7, acc', e1⟩ := dr_turn hk hS (h r (by simp)) hk3 (acc := acc) (by omega) o0 o1 o2 o6 o7 o8
    simp only [scanR]
    cases ha : end1 kvs r.lo with
    | error e =>
      refine ⟨none, none, none, acc', ?_⟩
      simp only [ha] at e1 ⊢
      simp [forL_cons, e1]
    | ok a =>
      simp only [ha] at e1
      cases hb : end1 kvs r.hi with
      | error e =>
        refine ⟨none, none, none, acc', ?_⟩
        simp only [hb] at e1 ⊢
        simp [forL_cons, e1]
      | ok b =>
        simp only [hb] at e1
        obtain ⟨q5, q6, q7, acc2, e2⟩ := ih (fun q hq => h q (by simp [hq])) (acc ++ [.int a, .int b]) (by simp; omega) (some r.w) p6 p7
        cases hq : scanR kvs rs with
        | error e =>
          refine ⟨none, none, none, acc2, ?_⟩
          simp only [hq] at e2
          simp only [hb, hq]
          simp [forL_cons, e1, e2]
        | ok q =>
          refine ⟨q5, q6, q7, acc, ?_⟩
          simp only [hq] at e2
          simp only [hb, hq]
          simp only [List.append_assoc, List.cons_append, List.nil_append] at e2
          have hfl : flatI ((a, b) :: q) = .int a :: .int b :: flatI q := rfl
          rw [hfl]
          simp [forL_cons, e1, e2]
end K39
end

section
set_option linter.all false
set_option maxRecDepth 100000
namespace K39
open PySem Gs
theorem flat_get : ∀ (q : List Pr) (k : Nat) (p : Pr), q[k]? = some p → (flatI q)[2 * k]? = some (.int p.1) ∧ (flatI q)[2 * k + 1]? = some (.int p.2)
  | [], k, p, h => by simp at h
  | x :: q, 0, p, h => by
    simp at h
    subst h
    exact ⟨rfl, rfl⟩
  | x :: q, k + 1, p, h => by
    have hf : flatI (x :: q) = .int x.1 :: .int x.2 :: flatI q := rfl
    rw [hf]
    simp only [List.getElem?_cons_succ] at h
    have := flat_get q k p h
    have e1 : 2 * (k + 1) = 2 * k + 1 + 1 := by omega
    rw [e1]
    simpa only [List.getElem?_cons_succ] using this
theorem flat_len : ∀ q : List Pr, (flatI q).length = 2 * q.length
  | [] => rfl
  | x :: q => by
    have hf : flatI (x :: q) = .int x.1 :: .int x.2 :: flatI q := rfl
    rw [hf]
    simp [flat_len q]
    omega
theorem at_nat {α : Type} {xs : List α} {k : Nat} {a : α} (h : xs[k]? = some a) : atW xs (k : Int) = some a := by
  have hl := (List.getElem?_eq_some_iff.mp h).1
  unfold atW ixW
  rw [if_pos (by omega), if_pos (by omega)]
  simpa using h
theorem box_lc {k : Nat} {S : Store} {p : Nat} {q : List Pr} (hq : q.length ≤ 10) (hS : S[p]? = some (some (.lst (flatI q)))) {ρ : Rho} (hρ : ρ.length = 15) (h4 : ρ[4]? = some (some (.loc p))) :
    lcT (C k) [9] (.nm 9) [] (.tup [(.ix (.var 4) (.bin true .Mult (.cint 2) (.var 9))), (.ix (.var 4) (.bin true .Add (.bin true .Mult (.cint 2) (.var 9)) (.cint 1)))]) ρ (rangeW 0 (q.length : Nat)) [] S = .ok (q.map pw) S := by
  match ρ, hρ with
  | [r0, r1, r2, r3, r4, r5, r6, r7, r8, r9, r10, r11, r12, r13, r14], _ =>
  simp only [List.getElem?_cons_succ, List.getElem?_cons_zero, Option.some.injEq] at h4
  subst h4
  have e := lcT_map (C := C k) (own := [9]) (t := .nm 9) (e := .tup [(.ix (.var 4) (.bin true .Mult (.cint 2) (.var 9))), (.ix (.var 4) (.bin true .Add (.bin true .Mult (.cint 2) (.var 9)) (.cint 1)))]) (ρ := [r0, r1, r2, r3, some (.loc p), r5, r6, r7, r8, r9, r10, r11, r12, r13, r14]) (S := S) (fun k : Nat => W.int (0 + (k : Nat))) (fun k => pw (q.getD k (0, 0))) (List.range q.length) []
    (fun j hj => ⟨_, rfl, by
      have hj := List.mem_range.mp hj
      obtain ⟨h1, h2⟩ := flat_get q j q[j] (List.getElem?_eq_getElem hj)
      have mk : mulOk 2 ((j : Nat) : Int) := mulOk_of 64 64 (by omega) (by omega) (by omega)
      have g1 : getW (.loc p) (.int (2 * ((j : Nat) : Int))) S = .ok (.int q[j].1) S := by
        have ha := at_nat h1
        push_cast at ha
        simp only [getW, seqW, hS, ha]
      have g2 : getW (.loc p) (.int (2 * ((j : Nat) : Int) + 1)) S = .ok (.int q[j].2) S := by
        have ha := at_nat h2
        push_cast at ha
        simp only [getW, seqW, hS, ha]
      have hgd : q.getD j (0, 0) = q[j] := by simp [List.getD, List.getElem?_eq_getElem hj]
      rw [hgd]
      simp [wipeR, binW_mul mk, g1, g2, pw]⟩) (by simp; omega)
  have hr : rangeW 0 (q.length : Nat) = (List.range q.length).map fun k : Nat => W.int (0 + (k : Nat)) := by
    unfold rangeW
    have : ((q.length : Int) - 0).toNat = q.length := by omega
    rw [this]
  rw [hr, e]
  congr 1
  rw [List.nil_append]
  apply List.ext_getElem
  · simp
  · intro i h1 h2
    simp only [List.length_map, List.length_range] at h1
    simp [List.getD, List.getElem?_eq_getElem h1]
def mnB : List Sm := [.asg (.nm 10) (.bin true .Mult (.var 10) (.bi .max2 [(.cint 0), (.bin true .Add (.bin true .Sub (.ix (.var 11) (.cint 1)) (.ix (.var 11) (.cint 0))) (.cint 1))]))]
theorem mn_loop {n : Nat} {S : Store} (o0 o1 o2 o3 o4 o5 o6 o7 o8 o9 o12 o13 o14 : Option W) : ∀ (bx : List Pr) (k : Nat) (a : Int) (o11 : Option W), (∀ p ∈ bx, SmallP p) → bx.length + k ≤ 10 → a.natAbs < 2 ^ (202 * k + 1) →
    ∃ o11', forL (C n) (.nm 11) mnB (bx.map pw) [o0, o1, o2, o3, o4, o5, o6, o7, o8, o9, some (.int a), o11, o12, o13, o14] S
      = .ok (.nx [o0, o1, o2, o3, o4, o5, o6, o7, o8, o9, some (.int (manyA a bx)), o11', o12, o13, o14]) S := by
  intro bx
  induction bx with
  | nil => intro k a o11 _ _ _; exact ⟨o11, rfl⟩
  | cons p r ih =>
    intro k a o11 h hk ha
    simp only [List.length_cons] at hk
    have hw := wd_lt (h p (by simp))
    obtain ⟨o11', e⟩ := ih (k + 1) (a * wd p) (some (pw p)) (fun q hq => h q (by simp [hq])) (by omega) (by
      have := mul_natAbs ha hw
      rw [show 202 * (k + 1) + 1 = 202 * k + 1 + 202 by omega]
      exact this)
    refine ⟨o11', ?_⟩
    have mk : mulOk a (wd p) := mulOk_of _ _ ha hw (by omega)
    have mb := binW_mul (S := S) (fz := true) mk
    have hm : biW .max2 [.int 0, .int (p.2 - p.1 + 1)] S = .ok (.int (wd p)) S := by
      show Out.ok (W.int (if p.2 - p.1 + 1 > 0 then p.2 - p.1 + 1 else 0)) S = _
      rfl
    have g0 : getW (pw p) (.int 0) S = .ok (.int p.1) S := rfl
    have g1 : getW (pw p) (.int 1) S = .ok (.int p.2) S := rfl
    rw [List.map_cons, forL_cons]
    obtain ⟨w, hw'⟩ : ∃ w, w = pw p := ⟨_, rfl⟩
    rw [← hw'] at g0 g1 e ⊢
    obtain ⟨v, hv⟩ : ∃ v, v = wd p := ⟨_, rfl⟩
    have hmn : manyA a (p :: r) = manyA (a * v) r := by rw [hv]; rfl
    rw [hmn]
    rw [← hv] at hm mb e
    obtain ⟨z, hz⟩ : ∃ z, z = p.2 - p.1 + 1 := ⟨_, rfl⟩
    have hz' : p.2 - p.1 + 1 = z := hz.symm
    rw [hz'] at hm
    simp [mnB, g0, g1, hz', hm, mb]
    exact e
def dtB : List Sm := [.asg (.nm 14) (.lst true [(.call "_law_tree" [(.ix (.var 13) (.cint 1)), (.var 2), (.var 3)]), (.call "_law_tree" [(.ix (.var 13) (.cint 2)), (.var 2), (.var 3)])]), .ife (.or [(.cmp .Is (.ix (.var 14) (.cint 0)) .cnon), (.cmp .Is (.ix (.var 14) (.cint 1)) .cnon)]) [.ret (.tup [(.cstr "told"), .cnon])] [], .expr (.mt .append (.var 12) [(.tup [(.ix (.var 13) (.cint 0)), (.ix (.var 14) (.cint 0)), (.ix (.var 14) (.cint 1))])])]
theorem dt_turn {names : List Str} {kvs : Dc} (hk : Fil kvs) {S1 : Store} {l : Nat} (hS : S1[l]? = some (some (.dic kvs))) {k : Nat} (hk3 : 25 ≤ k) (o0 o1 o4 o5 o6 o7 o8 o9 o10 o11 o14 : Option W) {t : Ts} (ht : TOk names kvs t) {acc : List W} (hl : acc.length ≤ 100) :
    match tree names kvs t.a, tree names kvs t.b with
    | some x, some y => ∃ o14', exes (C k) dtB [o0, o1, some (.lst (names.map .str)), some (.loc l), o4, o5, o6, o7, o8, o9, o10, o11, some (.loc S1.length), some t.w, o14] (S1 ++ [some (.lst acc)]) = .ok (.nx [o0, o1, some (.lst (names.map .str)), some (.loc l), o4, o5, o6, o7, o8, o9, o10, o11, some (.loc S1.length), some t.w, o14']) (S1 ++ [some (.lst (acc ++ [.tup [.str t.s, x, y]]))])
    | _, _ => exes (C k) dtB [o0, o1, some (.lst (names.map .str)), some (.loc l), o4, o5, o6, o7, o8, o9, o10, o11, some (.loc S1.length), some t.w, o14] (S1 ++ [some (.lst acc)]) = .ok (.rt (stopW false)) (S1 ++ [some (.lst acc)]) := by
  have hda := ht.da
  have hdb := ht.db
  have hS' : ∀ X : Store, (S1 ++ X)[l]? = some (some (.dic kvs)) := fun X => by
    rw [List.getElem?_append_left (List.getElem?_eq_some_iff.mp hS).1]; exact hS
  have e1 := f_ltree hk (hS' [some (.lst acc)]) t.a ht.a k (by omega)
  have e2 := f_ltree hk (hS' [some (.lst acc)]) t.b ht.b k (by omega)
  have hz : acc.length < 16777216 := by omega
  have hg : (S1 ++ [some (Ob.lst acc)])[S1.length]? = some (some (.lst acc)) := by simp
  have hs : ∀ w : W, (S1 ++ [some (Ob.lst acc)]).set S1.length (some (.lst (acc ++ [w]))) = S1 ++ [some (.lst (acc ++ [w]))] := fun w => by
    rw [List.set_append_right _ _ (by omega)]; simp
  obtain ⟨S0, hS0⟩ : ∃ S, S = S1 ++ [some (Ob.lst acc)] := ⟨_, rfl⟩
  obtain ⟨nw, hnw⟩ : ∃ w, w = names.map W.str := ⟨_, rfl⟩
  rw [← hS0] at e1 e2 hg
  have hs := fun w => (by have := hs w; rw [← hS0] at this; exact this : S0.set S1.length (some (.lst (acc ++ [w]))) = S1 ++ [some (.lst (acc ++ [w]))])
  rw [← hnw] at e1 e2
  obtain ⟨n, hn⟩ : ∃ n, n = S1.length := ⟨_, rfl⟩
  have gt0 : ∀ S, getW t.w (.int 0) S = .ok (.str t.s) S := fun S => rfl
  have gt1 : ∀ S, getW t.w (.int 1) S = .ok t.a.w S := fun S => rfl
  have gt2 : ∀ S, getW t.w (.int 2) S = .ok t.b.w S := fun S => rfl
  obtain ⟨tw, htw⟩ : ∃ w, w = t.w := ⟨_, rfl⟩
  rw [← htw] at gt0 gt1 gt2
  have g0 : ∀ (p q : W) S, getW (.lst [p, q]) (.int 0) S = .ok p S := fun _ _ _ => rfl
  have g1 : ∀ (p q : W) S, getW (.lst [p, q]) (.int 1) S = .ok q S := fun _ _ _ => rfl
  cases ha : tree names kvs t.a with
  | none =>
    rw [ha] at e1
    show exes _ _ _ _ = _
    rw [← hS0, ← hnw, ← htw, ← hn]
    simp only [optT] at e1
    simp [dtB, gt1, gt2, e1, e2, g0, stopW]
  | some x =>
    rw [ha] at e1
    have nx := (tree_pure ha).2.2
    cases hb : tree names kvs t.b with
    | none =>
      rw [hb] at e2
      show exes _ _ _ _ = _
      rw [← hS0, ← hnw, ← htw, ← hn]
      simp only [optT] at e1 e2
      simp [dtB, gt1, gt2, e1, e2, g0, g1, nx, stopW]
    | some y =>
      rw [hb] at e2
      have ny := (tree_pure hb).2.2
      refine ⟨some (.lst [x, y]), ?_⟩
      have hs' := hs (.tup [.str t.s, x, y])
      rw [← hn] at hs' hg
      rw [← hS0, ← hnw, ← htw, ← hn]
      simp only [optT] at e1 e2
      simp [dtB, gt0, gt1, gt2, e1, e2, g0, g1, nx, ny, hg, hz, hs']
theorem dt_loop {names : List Str} {kvs : Dc} (hk : Fil kvs) {S1 : Store} {l lt : Nat} (hS : S1[l]? = some (some (.dic kvs))) {k : Nat} (hk3 : 25 ≤ k) (o0 o1 o4 o5 o6 o7 o8 o9 o10 o11 : Option W) (ts : List Ts) (hts : ∀ t ∈ ts, TOk names kvs t) (hL : S1[lt]? = some (some (.lst (ts.map Ts.w)))) (hl : ts.length ≤ 50) :
    (∃ o13 o14 q, forD (C k) lt (.nm 13) dtB fuel 0 [o0, o1, some (.lst (names.map .str)), some (.loc l), o4, o5, o6, o7, o8, o9, o10, o11, some (.loc S1.length), none, none] (S1 ++ [some (.lst [])]) = .ok (.nx [o0, o1, some (.lst (names.map .str)), some (.loc l), o4, o5, o6, o7, o8, o9, o10, o11, some (.loc S1.length), o13, o14]) (S1 ++ [some (.lst q)]) ∧ treesL names kvs ts = some q) ∨
    ∃ acc', forD (C k) lt (.nm 13) dtB fuel 0 [o0, o1, some (.lst (names.map .str)), some (.loc l), o4, o5, o6, o7, o8, o9, o10, o11, some (.loc S1.length), none, none] (S1 ++ [some (.lst [])]) = .ok (.rt (stopW false)) (S1 ++ [some (.lst acc')]) ∧ treesL names kvs ts = none := by
  have hL' : ∀ X : Store, (S1 ++ X)[lt]? = some (some (.lst (ts.map Ts.w))) := fun X => by
    rw [List.getElem?_append_left (List.getElem?_eq_some_iff.mp hL).1]; exact hL
  have key := forD_rt (C := C k) (l := lt) (t := .nm 13) (b := dtB) (ts.map Ts.w)
    (fun xs ρ S => ∃ (rest : List Ts) (acc : List W) (o13 o14 : Option W), xs = rest.map Ts.w ∧ (∀ t ∈ rest, TOk names kvs t) ∧ ρ = [o0, o1, some (.lst (names.map .str)), some (.loc l), o4, o5, o6, o7, o8, o9, o10, o11, some (.loc S1.length), o13, o14] ∧ S = S1 ++ [some (.lst acc)] ∧ treesL names kvs ts = (treesL names kvs rest).map (acc ++ ·) ∧ acc.length + rest.length ≤ 60)
    (fun w S => w = stopW false ∧ (∃ acc', S = S1 ++ [some (.lst acc')]) ∧ treesL names kvs ts = none)
    (by rintro xs ρ S ⟨_, _, _, _, _, _, _, rfl, _⟩; exact hL' _)
    (by
      rintro x xs ρ S ⟨rest, acc, o13, o14, hx, ho, rfl, rfl, htr, hl⟩
      cases rest with
      | nil => simp at hx
      | cons t rest =>
        simp only [List.map_cons, List.cons.injEq] at hx
        obtain ⟨rfl, rfl⟩ := hx
        simp only [List.length_cons] at hl
        have e := dt_turn hk hS hk3 o0 o1 o4 o5 o6 o7 o8 o9 o10 o11 o14 (ho t (by simp)) (acc := acc) (by omega)
        simp only [treesL] at htr
        cases ha : tree names kvs t.a with
        | none =>
          rw [ha] at e htr
          refine .inr ⟨_, _, ?_, rfl, ⟨acc, rfl⟩, htr⟩
          exact e
        | some p =>
          cases hb : tree names kvs t.b with
          | none =>
            rw [ha, hb] at e htr
            refine .inr ⟨_, _, ?_, rfl, ⟨acc, rfl⟩, htr⟩
            exact e
          | some y =>
            rw [ha, hb] at e htr
            obtain ⟨p14, e⟩ := e
            refine .inl ⟨_, _, ?_, rest, acc ++ [.tup [.str t.s, p, y]], some t.w, p14, rfl, fun q hq => ho q (by simp [hq]), rfl, rfl, ?_, by simp; omega⟩
            · exact e
            · rw [htr]
              simp only [Option.map_map]
              congr 1
              funext z
              simp)
    (ts.map Ts.w) 0 fuel _ (S1 ++ [some (.lst [])]) rfl (by simp [fuel]; omega) ⟨ts, [], none, none, rfl, hts, rfl, rfl, by simp, by simp; omega⟩
  rcases key with ⟨ρ', S', e, rest, acc, o13, o14, hx, _, rfl, rfl, htr, _⟩ | ⟨w, S', e, rfl, ⟨acc', rfl⟩, htr⟩
  · have hr : rest = [] := by cases rest with | nil => rfl | cons _ _ => simp at hx
    subst hr
    refine .inl ⟨o13, o14, acc, e, ?_⟩
    rw [htr]; simp [treesL]
  · exact .inr ⟨acc', e, htr⟩
end K39
end

section
set_option linter.all false
set_option maxRecDepth 100000
namespace K39
open PySem Gs
def dueLW : Except Bool (List Pr × List W) → W
  | .error e => stopW e
  | .ok p => .tup [.str "told", dueW p]
def duA : List Sm := [.asg (.nm 4) (.lst false []), .for (.nm 5) (.seq (.var 0)) drB]
def duB : List Sm := [.asg (.nm 8) (.lc true [9] (.nm 9) (.rng1 (.bi .len [(.var 0)])) [] (.tup [(.ix (.var 4) (.bin true .Mult (.cint 2) (.var 9))), (.ix (.var 4) (.bin true .Add (.bin true .Mult (.cint 2) (.var 9)) (.cint 1)))])), .asg (.nm 10) (.cint 1), .for (.nm 11) (.seq (.var 8)) mnB, .ife (.cmp .Eq (.var 10) (.cint 0)) [.ret (.tup [(.cstr "told"), .cnon])] [], .ife (.cmp .Gt (.var 10) (.cint 400)) [.ret (.tup [(.cstr "open")])] [], .asg (.nm 12) (.lst false []), .forV (.nm 13) 1 dtB, .ret (.tup [(.cstr "told"), (.tup [(.bi .tupleOf [(.var 8)]), (.bi .tupleOf [(.var 12)])])])]
theorem b_due_split : b__law_due = duA ++ duB := rfl
theorem stop_bel (m : Nat) (e : Bool) : (stopW e).bel m = true := by cases e <;> rfl
theorem f_due {kvs : Dc} (hk : Fil kvs) {S : Store} {l lt : Nat} (hS : S[l]? = some (some (.dic kvs))) (hb : belowS S.length S = true) {rs : List Rg} {ts : List Ts} (hr : ∀ r ∈ rs, ROk kvs r) (hn : rs ≠ []) (hl : rs.length ≤ 3)
    (ht : ∀ t ∈ ts, TOk (rs.map Rg.nm) kvs t) (htl : ts.length ≤ 9) (hL : S[lt]? = some (some (.lst (ts.map Ts.w)))) {k : Nat} (hk3 : 30 ≤ k) :
    F (k + 1) "_law_due" [.lst (rs.map Rg.w), .loc lt, .lst ((rs.map Rg.nm).map .str), .loc l] S = .ok (dueLW (dueR (rs.map Rg.nm) kvs rs ts)) S := by
  rw [F_run d__law_due rfl rfl]
  show kRun S.length (exes (C k) b__law_due [some (.lst (rs.map Rg.w)), some (.loc lt), some (.lst ((rs.map Rg.nm).map .str)), some (.loc l), none, none, none, none, none, none, none, none, none, none, none] S) = _
  obtain ⟨p5, p6, p7, acc', e1⟩ := dr_loop hk hS (k := k) (by omega) (some (.lst (rs.map Rg.w))) (some (.loc lt)) (some (.lst ((rs.map Rg.nm).map .str))) [none, none, none, none, none, none, none] rs hr [] (by simp; omega) none none none
  have hfr : frozenW (.lst (rs.map Rg.w)) = some (rs.map Rg.w) := rfl
  obtain ⟨nw, hnw⟩ : ∃ w, w = W.lst ((rs.map Rg.nm).map .str) := ⟨_, rfl⟩
  have hrl : biW .len [.lst (rs.map Rg.w)] (S ++ [some (Ob.lst (flatI (match scanR kvs rs with | .ok q => q | .error _ => [])))]) = .ok (.int (rs.length : Nat)) (S ++ [some (Ob.lst (flatI (match scanR kvs rs with | .ok q => q | .error _ => [])))]) := by simp [biW, seqW]
  unfold dueR boxU
  cases hq : scanR kvs rs with
  | error e =>
    rw [hq] at e1
    simp only at e1
    have hlv := leave_drop (J := [some (Ob.lst acc')]) (w := stopW e) (n := S.length) rfl (stop_bel _ e) hb
    obtain ⟨rw', hrw⟩ : ∃ w, w = rs.map Rg.w := ⟨_, rfl⟩
    rw [← hnw, ← hrw] at e1 ⊢
    rw [← hrw] at hfr
    have hA : exes (C k) (duA ++ duB) [some (.lst rw'), some (.loc lt), some nw, some (.loc l), none, none, none, none, none, none, none, none, none, none, none] S = .ok (.rt (stopW e)) (S ++ [some (.lst acc')]) := by
      simp [duA, hfr, e1]
    rw [b_due_split, hA]
    show leave S.length (stopW e) _ = _
    rw [hlv]
    rfl
  | ok q =>
    rw [hq] at e1 hrl
    simp only [List.nil_append] at e1 hrl
    obtain ⟨s1, s2⟩ := scan_sm hq
    obtain ⟨S1, hS1⟩ : ∃ S1, S1 = S ++ [some (Ob.lst (flatI q))] := ⟨_, rfl⟩
    have hl1 : S1.length = S.length + 1 := by rw [hS1]; simp
    have h4 : S1[S.length]? = some (some (.lst (flatI q))) := by rw [hS1]; simp
    have hSl : S1[l]? = some (some (.dic kvs)) := by
      rw [hS1, List.getElem?_append_left (List.getElem?_eq_some_iff.mp hS).1]; exact hS
    have hLt : S1[lt]? = some (some (.lst (ts.map Ts.w))) := by
      rw [hS1, List.getElem?_append_left (List.getElem?_eq_some_iff.mp hL).1]; exact hL
    rw [← hS1] at e1 hrl
    have e2 := fun (ρ : Rho) (hρ : ρ.length = 15) (h4' : ρ[4]? = some (some (.loc S.length))) => box_lc (k := k) (q := q) (by omega) h4 hρ h4'
    obtain ⟨p11, e3⟩ := mn_loop (n := k) (S := S1) (some (.lst (rs.map Rg.w))) (some (.loc lt)) (some nw) (some (.loc l)) (some (.loc S.length)) p5 p6 p7 (some (.lst (q.map pw))) none none none none q 0 1 none s1 (by omega) (by decide)
    have hA : exes (C k) duA [some (.lst (rs.map Rg.w)), some (.loc lt), some nw, some (.loc l), none, none, none, none, none, none, none, none, none, none, none] S = .ok (.nx [some (.lst (rs.map Rg.w)), some (.loc lt), some nw, some (.loc l), some (.loc S.length), p5, p6, p7, none, none, none, none, none, none, none]) S1 := by
      rw [← hnw] at e1
      obtain ⟨rw', hrw⟩ : ∃ w, w = rs.map Rg.w := ⟨_, rfl⟩
      rw [← hrw] at e1 hfr ⊢
      simp [duA, hfr, e1]
    have sk : small62 ((rs.length : Nat) : Int) := ⟨by omega, by omega⟩
    have k3 := kRng_ok (S := S1) sk
    have e2' := e2 [some (.lst (rs.map Rg.w)), some (.loc lt), some nw, some (.loc l), some (.loc S.length), p5, p6, p7, none, none, none, none, none, none, none] rfl rfl
    rw [s2] at e2'
    have nq : newL true (q.map pw) S1 = .ok (.lst (q.map pw)) S1 := newL_t (by simp; omega)
    have hfq : frozenW (.lst (q.map pw)) = some (q.map pw) := rfl
    rw [← hnw, b_due_split, exes_app hA]
    obtain ⟨rw', hrw⟩ : ∃ w, w = rs.map Rg.w := ⟨_, rfl⟩
    rw [← hrw] at e2' e3 hrl ⊢
    obtain ⟨rg, hrg⟩ : ∃ w, w = rangeW 0 ((rs.length : Nat) : Int) := ⟨_, rfl⟩
    rw [← hrg] at k3 e2'
    obtain ⟨qw, hqw⟩ : ∃ w, w = q.map pw := ⟨_, rfl⟩
    rw [← hqw] at e2' e3 nq hfq
    obtain ⟨n, hn'⟩ : ∃ n : Int, n = ((rs.length : Nat) : Int) := ⟨_, rfl⟩
    rw [← hn'] at hrl k3
    obtain ⟨m, hm⟩ : ∃ m, m = many q := ⟨_, rfl⟩
    have hmm : manyA 1 q = m := hm.symm
    rw [hmm] at e3
    have hdrop : ∀ (J : Store) (w : W), w.bel S.length = true → leave S.length w (S1 ++ J) = .ok w S := fun J w hw => by
      rw [hS1, List.append_assoc]
      exact leave_drop rfl hw hb
    have hdrop0 : ∀ (w : W), w.bel S.length = true → leave S.length w S1 = .ok w S := fun w hw => by
      have := hdrop [] w hw
      rwa [List.append_nil] at this
    show _ = Out.ok (dueLW (match (if 400 < many q then Except.error true else if many q = 0 then .error false else .ok q : Except Bool (List Pr)) with
      | .error e => .error e
      | .ok q => match treesL (rs.map Rg.nm) kvs ts with
        | none => .error false
        | some q2 => .ok (q, q2))) S
    rw [← hm]
    by_cases h0 : m = 0
    · have h40 : ¬ 400 < m := by omega
      have hld := hdrop0 (stopW false) rfl
      simp only [if_neg h40, if_pos h0, dueLW]
      have hst : stopW false = .tup [.str "told", .non] := rfl
      rw [hst] at hld ⊢
      simp [duB, hrl, k3, e2', nq, hfq, e3, h0, hld]
    · by_cases h4' : 400 < m
      · have hld := hdrop0 (stopW true) rfl
        simp only [if_pos h4', dueLW]
        have hst : stopW true = .tup [.str "open"] := rfl
        rw [hst] at hld ⊢
        simp [duB, hrl, k3, e2', nq, hfq, e3, h0, h4', hld]
      · simp only [if_neg h4', if_neg h0]
        have hcf : (C k).fuel = fuel := rfl
        rcases dt_loop hk hSl (k := k) (by omega) (some (.lst rw')) (some (.loc lt)) (some (.loc S.length)) p5 p6 p7 (some (.lst qw)) none (some (.int m)) p11 ts ht hLt (by omega) with ⟨o13, o14, q2, e4, hq2⟩ | ⟨acc', e4, hq2⟩
        · rw [← hnw] at e4
          obtain ⟨h1, h2⟩ := trees_pure (fun t h => ⟨(ht t h).da, (ht t h).db⟩) hq2
          have hdp := dueW_pure (q := q) h1
          rw [hq2]
          simp only [dueLW]
          have hdw : dueW (q, q2) = .tup [.tup qw, .tup q2] := by rw [hqw]; rfl
          have hld := hdrop [some (.lst q2)] (.tup [.str "told", dueW (q, q2)]) (by
            simp only [W.bel, W.bels, bel_pure _ _ hdp.1, Bool.and_self])
          rw [hdw] at hld ⊢
          have hto : biW .tupleOf [.loc S1.length] (S1 ++ [some (Ob.lst q2)]) = .ok (.tup q2) (S1 ++ [some (Ob.lst q2)]) := by simp [seqW]
          obtain ⟨S3, hS3⟩ : ∃ S, S = S1 ++ [some (Ob.lst q2)] := ⟨_, rfl⟩
          rw [← hS3] at e4 hld hto
          simp [duB, hrl, k3, e2', nq, hfq, e3, h0, h4', hcf, e4, hto, hld]
        · rw [← hnw] at e4
          rw [hq2]
          simp only [dueLW]
          have hld := hdrop [some (.lst acc')] (stopW false) rfl
          obtain ⟨S3, hS3⟩ : ∃ S, S = S1 ++ [some (Ob.lst acc')] := ⟨_, rfl⟩
          rw [← hS3] at e4 hld
          simp [duB, hrl, k3, e2', nq, hfq, e3, h0, h4', hcf, e4, hld]
end K39
end

section
set_option linter.all false
set_option maxRecDepth 100000
namespace K39
open PySem Gs
theorem cps_app (a b : Str) : (a ++ b).cps.toList = a.cps.toList ++ b.cps.toList := by
  show (a.cps ++ b.cps).toList = _
  simp
theorem len_app (a b : Str) : (a ++ b).length = a.length + b.length := by
  show (a.cps ++ b.cps).size = _
  rw [Array.size_append]
  rfl
theorem getW_sign {S : Store} (z : Str) {r : Int} (h0 : 0 ≤ r) (h1 : r < z.cps.toList.length) : ∃ c, getW (.str z) (.int r) S = .ok (.str ⟨#[c]⟩) S ∧ c ∈ z.cps.toList := by
  obtain ⟨c, e, hc⟩ := atW_mem h0 h1
  exact ⟨c, by simp only [getW, e], hc⟩
/-- a text whose first sign is as said -/
structure Fst (p : Nat → Prop) (m : Nat) (x : Str) : Prop where
  hd : ∃ c r, x.cps.toList = c :: r ∧ p c
  ln : x.length ≤ m
theorem Fst.app {p : Nat → Prop} {m k : Nat} {x : Str} (h : Fst p m x) (y : Str) (hy : y.length ≤ k) : Fst p (m + k) (x ++ y) := by
  obtain ⟨⟨c, r, e, hc⟩, hl⟩ := h
  exact ⟨⟨c, r ++ y.cps.toList, by rw [cps_app, e]; rfl, hc⟩, by rw [len_app]; omega⟩
theorem Fst.le {p : Nat → Prop} {m k : Nat} {x : Str} (h : Fst p m x) (hk : m ≤ k) : Fst p k x := ⟨h.hd, Nat.le_trans h.ln hk⟩
theorem Fst.one {p : Nat → Prop} {c : Nat} (h : p c) : Fst p 1 ⟨#[c]⟩ := ⟨⟨c, [], rfl, h⟩, Nat.le_refl _⟩
theorem len36 : ("abcdefghijklmnopqrstuvwxyz0123456789" : Str).cps.toList.length = 36 := by decide
def wordsL : List Str := ["op", "mode", "table", "not", "is", "in", "such", "and", "mod"]
theorem words5 : ∀ y ∈ wordsL, y.length ≤ 5 := by decide
def txB : List Sm := [.asg (.nm 3) (.bin true .Add (.var 3) (.ix (.cstr "abcdefghijklmnopqrstuvwxyz0123456789") (.call "_law_draw" [(.var 0), (.cint 36)])))]
def txC : T := .cmp .In (.var 3) (.bin true .Add (.var 2) (.lst true [(.cstr "op"), (.cstr "mode"), (.cstr "table"), (.cstr "not"), (.cstr "is"), (.cstr "in"), (.cstr "such"), (.cstr "and"), (.cstr "mod")]))
def txW : List Sm := [.asg (.nm 3) (.bin true .Add (.var 3) (.cstr "a"))]
theorem f_text {n : Nat} {d : DS} {R : Store} {z : Str} (hz : z.cps.toList.length = 26) {P : Nat → Prop} (hP : ∀ c ∈ z.cps.toList, P c) {names : List Str} {w : W}
    (hadd : ∀ d, addW true w (.lst (wordsL.map .str)) (st d ++ R) = .ok (.lst ((names ++ wordsL).map .str)) (st d ++ R)) {M : Nat} (hM : ∀ y ∈ names, y.length ≤ M) (h5 : 5 ≤ M) (hM2 : M ≤ 1000) {b : Int} (g : Good b d) (hb : b < 10000000000) :
    ∃ x d', F (n + 2) "_law_text" [.loc 1, .str z, w] (st d ++ R) = .ok (.str x) (st d' ++ R) ∧ Fst P (M + 1) x ∧ x ∉ names ∧ Good (b + 5) d' := by
  rw [F_run d__law_text rfl rfl]
  have hln : ∀ S, biW .len [.str z] S = .ok (.int 26) S := fun S => by
    have : z.length = 26 := by rw [len_cps, hz]
    show Out.ok (W.int (z.length : Nat)) S = _
    rw [this]; rfl
  obtain ⟨r, d1, e1, r0, r1, g1⟩ := f_draw (n := n) R 26 g (by omega) (by omega) (by omega)
  obtain ⟨c, ec, hc⟩ := getW_sign (S := st d1 ++ R) z r0 (by rw [hz]; omega)
  obtain ⟨q, d2, e2, q0, q1, g2⟩ := f_draw (n := n) R 4 g1 (by omega) (by omega) (by omega)
  have hq : ∃ k : Nat, atW [W.int 0, .int 0, .int 1, .int 3] q = some (.int k) ∧ k ≤ 3 := by
    have : q = 0 ∨ q = 1 ∨ q = 2 ∨ q = 3 := by omega
    rcases this with rfl | rfl | rfl | rfl
    · exact ⟨0, rfl, by omega⟩
    · exact ⟨0, rfl, by omega⟩
    · exact ⟨1, rfl, by omega⟩
    · exact ⟨3, rfl, by omega⟩
  obtain ⟨k, ek, hk⟩ := hq
  have sk : small62 (k : Int) := ⟨by omega, by omega⟩
  obtain ⟨ρ', S', e3, x, d3, o, rfl, rfl, hx, -, g3⟩ := forL_inv (C := C (n + 1)) (t := .nm 4) (b := txB)
    (fun xs ρ S => ∃ (x : Str) (d : DS) (o : Option W), ρ = [some (.loc 1), some (.str z), some w, some (.str x), o] ∧ S = st d ++ R ∧ Fst P (1 + (k - xs.length)) x ∧ xs.length ≤ k ∧ Good (b + 2 + (k - xs.length : Nat)) d)
    (by
      rintro y xs ρ S ⟨x, d, o, rfl, rfl, hx, hl, g⟩
      simp only [List.length_cons] at hx g hl
      obtain ⟨p, d', e, p0, p1, g'⟩ := f_draw (n := n) R 36 g (by omega) (by omega) (by omega)
      obtain ⟨c', ec', _⟩ := getW_sign (S := st d' ++ R) "abcdefghijklmnopqrstuvwxyz0123456789" p0 (by rw [len36]; omega)
      have hl1 : x.length + (⟨#[c']⟩ : Str).length ≤ 16777216 := by have := hx.ln; show x.length + 1 ≤ _; omega
      refine ⟨_, _, ?_, x ++ ⟨#[c']⟩, d', some y, rfl, rfl, (hx.app (k := 1) ⟨#[c']⟩ (Nat.le_refl _)).le (by omega), by omega, g'.le (by omega)⟩
      simp [txB, e, ec', addW_str hl1])
    (rangeW 0 k) [some (.loc 1), some (.str z), some w, some (.str ⟨#[c]⟩), none] (st d2 ++ R) ⟨⟨#[c]⟩, d2, none, rfl, rfl, (Fst.one (hP c hc)).le (by omega), by simp, g2.le (by simp; omega)⟩
  have hx4 : Fst P (M + 1) x := hx.le (by simp; omega)
  have hin : ∀ x : Str, tst (C (n + 1)) txC [some (.loc 1), some (.str z), some w, some (.str x), o] (st d3 ++ R) = .ok (decide (x ∈ names ++ wordsL)) (st d3 ++ R) := by
    intro x
    have h1 := hadd d3
    have h2 := in_nm (S := st d3 ++ R) (x := x) (names ++ wordsL)
    have hwl : wordsL.map W.str = [.str "op", .str "mode", .str "table", .str "not", .str "is", .str "in", .str "such", .str "and", .str "mod"] := rfl
    rw [hwl] at h1
    obtain ⟨L, hL⟩ : ∃ L, L = (names ++ wordsL).map W.str := ⟨_, rfl⟩
    rw [← hL] at h1 h2
    simp [txC, h1, h2]
  have hwh := whlL_rule (C := C (n + 1)) (c := txC) (b := txW)
    (fun m ρ S => ∃ x : Str, ρ = [some (.loc 1), some (.str z), some w, some (.str x), o] ∧ S = st d3 ++ R ∧ Fst P (M + 1) x ∧ m + x.length = M + 1)
    (fun ρ S => ∃ x : Str, ρ = [some (.loc 1), some (.str z), some w, some (.str x), o] ∧ S = st d3 ++ R ∧ Fst P (M + 1) x ∧ x ∉ names)
    (fun _ _ => False)
    (by
      rintro m ρ S ⟨x, rfl, rfl, hx, hm⟩
      by_cases hmem : x ∈ names ++ wordsL
      · have hxl : x.length ≤ M := by
          rcases List.mem_append.mp hmem with h | h
          · exact hM x h
          · exact Nat.le_trans (words5 x h) h5
        have hl1 : x.length + ("a" : Str).length ≤ 16777216 := by show x.length + 1 ≤ _; omega
        refine .inr ⟨by rw [hin x, decide_eq_true hmem], .inl ⟨m - 1, _, _, by omega, ?_, x ++ "a", rfl, rfl, ?_, ?_⟩⟩
        · simp [txW, addW_str hl1]
        · exact ((⟨hx.hd, hxl⟩ : Fst P M x).app (k := 1) "a" (by decide))
        · rw [len_app]; show m - 1 + (x.length + 1) = _; omega
      · exact .inl ⟨by rw [hin x, decide_eq_false hmem], x, rfl, rfl, hx, fun h => hmem (List.mem_append_left _ h)⟩)
    fuel (M + 1 - x.length) [some (.loc 1), some (.str z), some w, some (.str x), o] (st d3 ++ R) ⟨x, rfl, rfl, hx4, by have := hx4.ln; omega⟩ (by simp [fuel]; omega)
  rcases hwh with ⟨ρ', S', e4, x', rfl, rfl, hx', hn'⟩ | ⟨_, _, _, h⟩
  · have hbd : b__law_text = [.asg (.nm 3) (.ix (.var 1) (.call "_law_draw" [(.var 0), (.bi .len [(.var 1)])])), .for (.nm 4) (.rng1 (.ix (.lst true [(.cint 0), (.cint 0), (.cint 1), (.cint 3)]) (.call "_law_draw" [(.var 0), (.cint 4)]))) txB, .whl txC txW, .ret (.var 3)] := rfl
    have hcf : (C (n + 1)).fuel = fuel := rfl
    refine ⟨x', d3, ?_, hx', hn', g3.le (by simp; omega)⟩
    simp [hbd, hln, e1, ec, e2, ek, kRng_ok sk, e3, hcf, e4]
  · exact h.elim
theorem lower26 : ("abcdefghijklmnopqrstuvwxyz" : Str).cps.toList.length = 26 := by decide
theorem upper26 : ("ABCDEFGHIJKLMNOPQRSTUVWXYZ" : Str).cps.toList.length = 26 := by decide
theorem upper_P : ∀ c ∈ ("ABCDEFGHIJKLMNOPQRSTUVWXYZ" : Str).cps.toList, 65 ≤ c ∧ c ≤ 90 := by decide
theorem sign7 {q : Int} (q0 : 0 ≤ q) (q1 : q < 7) : ∃ s : Str, atW [W.str "f", .str "+", .str "-", .str "*", .str "//", .str "mod", .str "at"] q = some (.str s) := by
  have : q = 0 ∨ q = 1 ∨ q = 2 ∨ q = 3 ∨ q = 4 ∨ q = 5 ∨ q = 6 := by omega
  rcases this with rfl | rfl | rfl | rfl | rfl | rfl | rfl <;> exact ⟨_, rfl⟩
theorem f_term {n : Nat} {d : DS} {R : Store} {b : Int} (g : Good b d) (hb : b < 1000000000) :
    ∃ w d', F (n + 3) "_law_term" [.loc 1] (st d ++ R) = .ok w (st d' ++ R) ∧ Pl w ∧ Good (b + 10) d' := by
  rw [F_run d__law_term rfl rfl]
  obtain ⟨r, d1, e1, r0, r1, g1⟩ := f_draw (n := n + 1) R 10 g (by omega) (by omega) (by omega)
  by_cases h0 : r = 0
  · obtain ⟨x, d2, e2, hx, _, g2⟩ := f_text (n := n) (R := R) lower26 (P := fun _ => True) (fun _ _ => trivial) (names := []) (w := .lst []) (fun d => rfl) (M := 5) (by simp) (by omega) (by omega) g1 (by omega)
    refine ⟨.str x, d2, ?_, .inr (.inl ⟨x, rfl⟩), g2.le (by omega)⟩
    simp [b__law_term, e1, h0, e2]
  by_cases h1 : r = 1
  · obtain ⟨q, d2, e2, q0, q1, g2⟩ := f_draw (n := n + 1) R 7 g1 (by omega) (by omega) (by omega)
    obtain ⟨s, es⟩ := sign7 q0 q1
    obtain ⟨a, d3, e3, a0, a1, g3⟩ := f_draw (n := n + 1) R 6 g2 (by omega) (by omega) (by omega)
    obtain ⟨c, d4, e4, c0, c1, g4⟩ := f_draw (n := n + 1) R 6 g3 (by omega) (by omega) (by omega)
    obtain ⟨v, d5, e5, v0, v1, g5⟩ := f_draw (n := n + 1) R 2 g4 (by omega) (by omega) (by omega)
    have hv : v = 0 ∨ v = 1 := by omega
    rcases hv with rfl | rfl
    · have hsl : sliceW true (.tup [.str s, .int a, .int c]) none (some 2) (st d5 ++ R) = .ok (.tup [.str s, .int a]) (st d5 ++ R) := rfl
      refine ⟨.tup [.str s, .int a], d5, ?_, .inr (.inr ⟨s, a, [], rfl, .inl rfl⟩), g5.le (by omega)⟩
      simp [b__law_term, e1, h1, e2, es, e3, e4, e5, hsl]
    · have hsl : sliceW true (.tup [.str s, .int a, .int c]) none (some 3) (st d5 ++ R) = .ok (.tup [.str s, .int a, .int c]) (st d5 ++ R) := rfl
      refine ⟨.tup [.str s, .int a, .int c], d5, ?_, .inr (.inr ⟨s, a, [.int c], rfl, .inr ⟨c, rfl⟩⟩), g5.le (by omega)⟩
      simp [b__law_term, e1, h1, e2, es, e3, e4, e5, hsl]
  by_cases h2 : r = 2
  · obtain ⟨q, d2, e2, q0, q1, g2⟩ := f_draw (n := n + 1) R (10 ^ 20) g1 (by omega) (by omega) (by omega)
    obtain ⟨v, d3, e3, v0, v1, g3⟩ := f_draw (n := n + 1) R 2 g2 (by omega) (by omega) (by omega)
    have p60 : powOk 10 60 := by decide
    have p20 : powOk 10 20 := by decide
    have mk2 : mulOk 2 v := mulOk_of 64 64 (by omega) (by omega) (by omega)
    have mk : mulOk (10 ^ 60 - 1 - q) (1 - 2 * v) := mulOk_of 200 64 (by omega) (by omega) (by omega)
    refine ⟨.int ((10 ^ 60 - 1 - q) * (1 - 2 * v)), d3, ?_, .inl ⟨_, rfl, ?_⟩, g3.le (by omega)⟩
    · obtain ⟨t60, ht60⟩ : ∃ t : Int, t = 10 ^ 60 := ⟨_, rfl⟩
      obtain ⟨t20, ht20⟩ : ∃ t : Int, t = 10 ^ 20 := ⟨_, rfl⟩
      have b60 : ∀ S, binW true .Pow (.int 10) (.int 60) S = .ok (.int t60) S := fun S => by rw [ht60]; exact binW_pow p60
      have b20 : ∀ S, binW true .Pow (.int 10) (.int 20) S = .ok (.int t20) S := fun S => by rw [ht20]; exact binW_pow p20
      rw [← ht60] at mk ⊢
      rw [← ht20] at e2
      simp [b__law_term, e1, h2, b60, b20, e2, e3, binW_mul mk2, binW_mul mk]
    · have hv : v = 0 ∨ v = 1 := by omega
      rcases hv with rfl | rfl <;> omega
  · obtain ⟨q, d2, e2, q0, q1, g2⟩ := f_draw (n := n + 1) R 13 g1 (by omega) (by omega) (by omega)
    refine ⟨.int (q - 5), d2, ?_, .inl ⟨_, rfl, by omega⟩, g2.le (by omega)⟩
    simp [b__law_term, e1, h0, h1, h2, e2]
end K39
end

section
set_option linter.all false
set_option maxRecDepth 100000
namespace K39
open PySem Gs
theorem sgn5 {q : Int} (q0 : 0 ≤ q) (q1 : q < 5) : ∃ s : Sg, atW [W.str "+", .str "-", .str "*", .str "//", .str "mod"] q = some (.str s.s) := by
  have : q = 0 ∨ q = 1 ∨ q = 2 ∨ q = 3 ∨ q = 4 := by omega
  rcases this with rfl | rfl | rfl | rfl | rfl
  · exact ⟨.add, rfl⟩
  · exact ⟨.sub, rfl⟩
  · exact ⟨.mul, rfl⟩
  · exact ⟨.div, rfl⟩
  · exact ⟨.mod, rfl⟩
theorem getNm {S : Store} {names : List Str} {r : Int} (h0 : 0 ≤ r) (h1 : r < names.length) : ∃ x, getW (.lst (names.map .str)) (.int r) S = .ok (.str x) S ∧ x ∈ names := by
  obtain ⟨c, e, hc⟩ := atW_mem (xs := names.map W.str) h0 (by simpa using h1)
  obtain ⟨x, hx, rfl⟩ := List.mem_map.mp hc
  exact ⟨x, by simp only [getW, seqW, e], hx⟩
theorem f_sum {names : List Str} (hn : 1 ≤ names.length) (hn6 : names.length ≤ 100) : ∀ (deep : Nat), deep ≤ 3 → ∀ {n : Nat} {d : DS} {R : Store} {b : Int}, Good b d → b + 20 * 3 ^ deep < 2000000000 →
    ∃ (t : Su) (d' : DS), F (n + 2 + deep) "_law_sum" [.loc 1, .lst (names.map .str), .int (deep : Nat)] (st d ++ R) = .ok t.w (st d' ++ R) ∧ t.Ok (· ∈ names) ∧ t.dp ≤ deep ∧ Good (b + 20 * 3 ^ deep) d' := by
  intro deep
  induction deep with
  | zero =>
    intro _ n d R b g hb
    rw [F_run d__law_sum rfl rfl]
    obtain ⟨w, d1, e1, w0, w1, g1⟩ := f_draw (n := n) R 5 g (by omega) (by omega) (by omega)
    have hln : ∀ S, biW .len [.lst (names.map W.str)] S = .ok (.int (names.length : Nat)) S := fun S => by simp [biW, seqW]
    by_cases h2 : w < 2
    · obtain ⟨r, d2, e2, r0, r1, g2⟩ := f_draw (n := n) R (names.length : Nat) g1 (by omega) (by omega) (by omega)
      obtain ⟨x, ex, hx⟩ := getNm (S := st d2 ++ R) r0 r1
      refine ⟨.nm x, d2, ?_, hx, by simp [Su.dp], g2.le (by omega)⟩
      obtain ⟨nw, hnw⟩ : ∃ w, w = names.map W.str := ⟨_, rfl⟩
      rw [← hnw] at hln ex ⊢
      simp [b__law_sum, Su.w, e1, h2, hln, e2, ex]
    · obtain ⟨r, d2, e2, r0, r1, g2⟩ := f_draw (n := n) R 13 g1 (by omega) (by omega) (by omega)
      refine ⟨.num (r - 5), d2, ?_, by show (r - 5).natAbs < 2 ^ 200; omega, by simp [Su.dp], g2.le (by omega)⟩
      simp [b__law_sum, Su.w, e1, h2, e2]
  | succ deep ih =>
    intro hd n d R b g hb
    have hn' : n + 2 + (deep + 1) = (n + 2 + deep) + 1 := by omega
    rw [hn', F_run d__law_sum rfl rfl]
    have hp3 : (1 : Nat) ≤ 3 ^ deep := Nat.one_le_pow _ _ (by omega)
    have hp : (3 : Int) ^ (deep + 1) = 3 * 3 ^ deep := by rw [Int.pow_succ]; omega
    have hp1 : (1 : Int) ≤ 3 ^ deep := by exact_mod_cast hp3
    have hpb : (3 : Int) ^ deep ≤ 27 := by
      have : (3 : Nat) ^ deep ≤ 3 ^ 3 := Nat.pow_le_pow_right (by omega) (by omega)
      exact_mod_cast this
    rw [hp] at hb ⊢
    obtain ⟨w, d1, e1, w0, w1, g1⟩ := f_draw (n := n + 1 + deep) R 5 g (by omega) (by omega) (by omega)
    rw [show n + 1 + deep + 1 = n + 2 + deep by omega] at e1
    have hln : ∀ S, biW .len [.lst (names.map W.str)] S = .ok (.int (names.length : Nat)) S := fun S => by simp [biW, seqW]
    by_cases h2 : w < 2
    · obtain ⟨r, d2, e2, r0, r1, g2⟩ := f_draw (n := n + 1 + deep) R (names.length : Nat) g1 (by omega) (by omega) (by omega)
      rw [show n + 1 + deep + 1 = n + 2 + deep by omega] at e2
      obtain ⟨x, ex, hx⟩ := getNm (S := st d2 ++ R) r0 r1
      refine ⟨.nm x, d2, ?_, hx, by simp [Su.dp], g2.le (by omega)⟩
      obtain ⟨nw, hnw⟩ : ∃ w, w = names.map W.str := ⟨_, rfl⟩
      rw [← hnw] at hln ex ⊢
      simp [b__law_sum, Su.w, e1, h2, hln, e2, ex]
    · have hd0 : ¬ ((deep : Int) + 1 = 0) := by omega
      by_cases h4 : w < 4
      · obtain ⟨r, d2, e2, r0, r1, g2⟩ := f_draw (n := n + 1 + deep) R 13 g1 (by omega) (by omega) (by omega)
        rw [show n + 1 + deep + 1 = n + 2 + deep by omega] at e2
        refine ⟨.num (r - 5), d2, ?_, by show (r - 5).natAbs < 2 ^ 200; omega, by simp [Su.dp], g2.le (by omega)⟩
        simp [b__law_sum, Su.w, e1, h2, hd0, h4, e2]
      · obtain ⟨q, d2, e2, q0, q1, g2⟩ := f_draw (n := n + 1 + deep) R 5 g1 (by omega) (by omega) (by omega)
        rw [show n + 1 + deep + 1 = n + 2 + deep by omega] at e2
        obtain ⟨s, es⟩ := sgn5 q0 q1
        obtain ⟨a, d3, e3, ha, hda, g3⟩ := ih (by omega) (n := n) (d := d2) (R := R) g2 (by omega)
        obtain ⟨c, d4, e4, hc, hdc, g4⟩ := ih (by omega) (n := n) (d := d3) (R := R) g3 (by omega)
        refine ⟨.op s a c, d4, ?_, ⟨ha, hc⟩, by simp only [Su.dp]; omega, g4.le (by omega)⟩
        obtain ⟨nw, hnw⟩ : ∃ w, w = names.map W.str := ⟨_, rfl⟩
        rw [← hnw] at e3 e4 ⊢
        have hm : (deep : Int) + 1 - 1 = (deep : Nat) := by omega
        simp [b__law_sum, Su.w, e1, h2, hd0, h4, e2, es, hm, e3, e4]
/-! ### ranges, drawn -/
def EndOk (names : List Str) (t : Su) : Prop := t.Ok (· ∈ names) ∧ t.dp ≤ 1
theorem num_ok {names : List Str} {i : Int} (h : i.natAbs < 2 ^ 200) : EndOk names (.num i) := ⟨h, by simp [Su.dp]⟩
def rgA : List Sm := [.asg (.nm 4) (.call "_law_draw" [(.var 0), (.cint 16)]), .asg (.nm 5) (.bin true .Sub (.call "_law_draw" [(.var 0), (.cint 13)]) (.cint 5)), .asg (.nm 6) (.bin true .Add (.var 5) (.call "_law_draw" [(.var 0), (.cint 6)])), .ife (.cmp .Eq (.var 4) (.cint 0)) [.asg (.nm 6) (.bin true .Add (.var 5) (.ix (.lst true [(.cint 19), (.cint 20), (.cint 399), (.cint 400), (.neg (.cint 1)), (.neg (.cint 2))]) (.call "_law_draw" [(.var 0), (.cint 6)])))] [], .ife (.cmp .Eq (.var 4) (.cint 1)) [.asg (.nm 6) (.bin true .Sub (.bin true .Pow (.cint 10) (.cint 60)) (.cint 1)), .asg (.nm 5) (.bin true .Sub (.var 6) (.call "_law_draw" [(.var 0), (.cint 3)])), .ife (.cmp .Eq (.call "_law_draw" [(.var 0), (.cint 2)]) (.cint 0)) [.par 5 6 (.bin true .Sub (.cint 0) (.var 6)) (.bin true .Sub (.cint 0) (.var 5))] []] []]
def rgB : List Sm := [.ife (.or [(.cmp .Eq (.var 4) (.cint 2)), (.cmp .Eq (.var 4) (.cint 3))]) [.asg (.nm 6) (.call "_law_sum" [(.var 0), (.var 2), (.var 3)])] [], .ife (.or [(.cmp .Eq (.var 4) (.cint 3)), (.cmp .Eq (.var 4) (.cint 4))]) [.asg (.nm 5) (.call "_law_sum" [(.var 0), (.var 2), (.var 3)])] []]
def rgC : List Sm := [.ife (.and [(.cmp .Eq (.var 4) (.cint 5)), (.cmp .Gt (.var 3) (.cint 0))]) [.asg (.nm 5) (.bin true .Sub (.bin true .Pow (.cint 10) (.cint 60)) (.cint 2)), .asg (.nm 6) (.tup [(.cstr "+"), (.var 5), (.call "_law_draw" [(.var 0), (.cint 4)])])] []]
def rgD : List Sm := [.ife (.and [(.cmp .Gt (.var 4) (.cint 5)), (.cmp .Lt (.var 4) (.cint 10)), (.cmp .Gt (.var 3) (.cint 0))]) [.asg (.nm 5) (.tup [(.cstr "*"), (.bin true .Pow (.cint 10) (.cint 30)), (.bin true .Mult (.ix (.lst true [(.neg (.cint 1)), (.cint 1)]) (.call "_law_draw" [(.var 0), (.cint 2)])) (.bin true .Pow (.cint 10) (.cint 30)))])] []]
def rgE : List Sm := [.ife (.and [(.cmp .Gt (.var 4) (.cint 6)), (.cmp .Lt (.var 4) (.cint 10)), (.cmp .Gt (.var 3) (.cint 0))]) [.asg (.nm 6) (.ix (.var 2) (.call "_law_draw" [(.var 0), (.bi .len [(.var 2)])]))] [], .ife (.cmp .Eq (.var 4) (.cint 9)) [.par 5 6 (.var 6) (.var 5)] []]
def rgF : List Sm := [.ret (.tup [(.cstr "in"), (.var 1), (.tup [(.cstr ".."), (.var 5), (.var 6)])])]
theorem b_range_split : b__law_range = rgA ++ (rgB ++ (rgC ++ (rgD ++ (rgE ++ rgF)))) := rfl
section
variable {n : Nat} {names : List Str} {nw : List W} {x : Str} {dp : Nat} {R : Store}
abbrev rgR (nw : List W) (x : Str) (dp : Nat) (way : Int) (lo hi : W) : Rho := [some (.loc 1), some (.str x), some (.lst nw), some (.int (dp : Nat)), some (.int way), some lo, some hi]
theorem rgA_run {d : DS} {b : Int} (g : Good b d) (hb : b < 1000000000) : ∃ (way a c : Int) (d' : DS), exes (C (n + 1)) rgA [some (.loc 1), some (.str x), some (.lst nw), some (.int (dp : Nat)), none, none, none] (st d ++ R) = .ok (.nx (rgR nw x dp way (.int a) (.int c))) (st d' ++ R) ∧ a.natAbs < 2 ^ 200 ∧ c.natAbs < 2 ^ 200 ∧ Good (b + 10) d' := by
  obtain ⟨way, d1, e1, w0, w1, g1⟩ := f_draw (n := n) R 16 g (by omega) (by omega) (by omega)
  obtain ⟨p, d2, e2, p0, p1, g2⟩ := f_draw (n := n) R 13 g1 (by omega) (by omega) (by omega)
  obtain ⟨q, d3, e3, q0, q1, g3⟩ := f_draw (n := n) R 6 g2 (by omega) (by omega) (by omega)
  by_cases h0 : way = 0
  · obtain ⟨u, d4, e4, u0, u1, g4⟩ := f_draw (n := n) R 6 g3 (by omega) (by omega) (by omega)
    have hu : ∃ v : Int, atW [W.int 19, .int 20, .int 399, .int 400, .int (-1), .int (-2)] u = some (.int v) ∧ v.natAbs ≤ 400 := by
      have : u = 0 ∨ u = 1 ∨ u = 2 ∨ u = 3 ∨ u = 4 ∨ u = 5 := by omega
      rcases this with rfl | rfl | rfl | rfl | rfl | rfl
      · exact ⟨19, rfl, by omega⟩
      · exact ⟨20, rfl, by omega⟩
      · exact ⟨399, rfl, by omega⟩
      · exact ⟨400, rfl, by omega⟩
      · exact ⟨-1, rfl, by omega⟩
      · exact ⟨-2, rfl, by omega⟩
    obtain ⟨v, ev, hv⟩ := hu
    refine ⟨way, p - 5, p - 5 + v, d4, ?_, by omega, by omega, g4.le (by omega)⟩
    subst h0
    simp [rgA, e1, e2, e3, e4, ev]
  by_cases h1 : way = 1
  · obtain ⟨u, d4, e4, u0, u1, g4⟩ := f_draw (n := n) R 3 g3 (by omega) (by omega) (by omega)
    obtain ⟨v, d5, e5, v0, v1, g5⟩ := f_draw (n := n) R 2 g4 (by omega) (by omega) (by omega)
    have p60 : powOk 10 60 := by decide
    obtain ⟨t60, ht60⟩ : ∃ t : Int, t = 10 ^ 60 := ⟨_, rfl⟩
    have b60 : ∀ S, binW true .Pow (.int 10) (.int 60) S = .ok (.int t60) S := fun S => by rw [ht60]; exact binW_pow p60
    by_cases hv : v = 0
    · refine ⟨way, 0 - (t60 - 1), 0 - (t60 - 1 - u), d5, ?_, by omega, by omega, g5.le (by omega)⟩
      subst h1 hv
      simp [rgA, e1, e2, e3, b60, e4, e5]
    · refine ⟨way, t60 - 1 - u, t60 - 1, d5, ?_, by omega, by omega, g5.le (by omega)⟩
      subst h1
      simp [rgA, e1, e2, e3, b60, e4, e5, hv]
  · refine ⟨way, p - 5, p - 5 + q, d3, ?_, by omega, by omega, g3.le (by omega)⟩
    simp [rgA, e1, e2, e3, h0, h1]
theorem rgB_run (hn : 1 ≤ names.length) (hn6 : names.length ≤ 100) (hd : dp ≤ 1) {d : DS} {b : Int} (g : Good b d) (hb : b < 100000000) (way : Int) {lo hi : Su} (hlo : EndOk names lo) (hhi : EndOk names hi) :
    ∃ (lo' hi' : Su) (d' : DS), exes (C (n + 3)) rgB (rgR (names.map .str) x dp way lo.w hi.w) (st d ++ R) = .ok (.nx (rgR (names.map .str) x dp way lo'.w hi'.w)) (st d' ++ R) ∧ EndOk names lo' ∧ EndOk names hi' ∧ Good (b + 200) d' := by
  have hp : (3 : Int) ^ dp ≤ 3 := by
    have : (3 : Nat) ^ dp ≤ 3 ^ 1 := Nat.pow_le_pow_right (by omega) hd
    exact_mod_cast this
  have mk : ∀ {d : DS} {b : Int}, Good b d → b < 1000000000 → ∃ (t : Su) (d' : DS), F (n + 3) "_law_sum" [.loc 1, .lst (names.map .str), .int (dp : Nat)] (st d ++ R) = .ok t.w (st d' ++ R) ∧ EndOk names t ∧ Good (b + 60) d' := by
    intro d b g hb
    obtain ⟨j, hj⟩ : ∃ j, n + 3 = j + 2 + dp := ⟨n + 1 - dp, by omega⟩
    obtain ⟨t, d', e, h1, h2, g'⟩ := f_sum hn hn6 dp (by omega) (n := j) (d := d) (R := R) g (by omega)
    exact ⟨t, d', by rw [hj]; exact e, ⟨h1, by omega⟩, g'.le (by omega)⟩
  obtain ⟨t1, d1, e1, h1, g1⟩ := mk g (by omega)
  obtain ⟨t2, d2, e2, h2, g2⟩ := mk g1 (by omega)
  obtain ⟨nw, hnw⟩ : ∃ w, w = names.map W.str := ⟨_, rfl⟩
  rw [← hnw] at e1 e2 ⊢
  by_cases w2 : way = 2
  · subst w2
    exact ⟨lo, t1, d1, by simp [rgB, e1], hlo, h1, g1.le (by omega)⟩
  by_cases w3 : way = 3
  · subst w3
    exact ⟨t2, t1, d2, by simp [rgB, e1, e2], h2, h1, g2.le (by omega)⟩
  by_cases w4 : way = 4
  · subst w4
    exact ⟨t1, hi, d1, by simp [rgB, e1], h1, hhi, g1.le (by omega)⟩
  · exact ⟨lo, hi, d, by simp [rgB, w2, w3, w4], hlo, hhi, g.le (by omega)⟩
theorem rgC_run {d : DS} {b : Int} (g : Good b d) (hb : b < 100000000) (way : Int) {lo hi : Su} (hlo : EndOk names lo) (hhi : EndOk names hi) :
    ∃ (lo' hi' : Su) (d' : DS), exes (C (n + 1)) rgC (rgR nw x dp way lo.w hi.w) (st d ++ R) = .ok (.nx (rgR nw x dp way lo'.w hi'.w)) (st d' ++ R) ∧ EndOk names lo' ∧ EndOk names hi' ∧ Good (b + 2) d' := by
  by_cases w5 : way = 5
  · by_cases hd : (0 : Int) < (dp : Nat)
    · obtain ⟨q, d1, e1, q0, q1, g1⟩ := f_draw (n := n) R 4 g (by omega) (by omega) (by omega)
      have p60 : powOk 10 60 := by decide
      obtain ⟨t60, ht60⟩ : ∃ t : Int, t = 10 ^ 60 := ⟨_, rfl⟩
      have b60 : ∀ S, binW true .Pow (.int 10) (.int 60) S = .ok (.int t60) S := fun S => by rw [ht60]; exact binW_pow p60
      have h6 : (t60 - 2).natAbs < 2 ^ 200 := by omega
      obtain ⟨dd, hdd⟩ : ∃ z : Int, z = (dp : Nat) := ⟨_, rfl⟩
      unfold rgR
      rw [← hdd] at hd ⊢
      refine ⟨.num (t60 - 2), .op .add (.num (t60 - 2)) (.num q), d1, ?_, num_ok h6, ⟨⟨h6, by show q.natAbs < 2 ^ 200; omega⟩, by simp [Su.dp]⟩, g1.le (by omega)⟩
      subst w5
      simp [rgC, hd, b60, e1, Su.w, Sg.s]
    · refine ⟨lo, hi, d, ?_, hlo, hhi, g.le (by omega)⟩
      obtain ⟨dd, hdd⟩ : ∃ z : Int, z = (dp : Nat) := ⟨_, rfl⟩
      unfold rgR
      rw [← hdd] at hd ⊢
      subst w5
      simp [rgC, hd]
  · exact ⟨lo, hi, d, by simp [rgC, w5], hlo, hhi, g.le (by omega)⟩
theorem rgD_run {d : DS} {b : Int} (g : Good b d) (hb : b < 100000000) (way : Int) {lo hi : Su} (hlo : EndOk names lo) (hhi : EndOk names hi) :
    ∃ (lo' hi' : Su) (d' : DS), exes (C (n + 1)) rgD (rgR nw x dp way lo.w hi.w) (st d ++ R) = .ok (.nx (rgR nw x dp way lo'.w hi'.w)) (st d' ++ R) ∧ EndOk names lo' ∧ EndOk names hi' ∧ Good (b + 2) d' := by
  obtain ⟨dd, hdd⟩ : ∃ z : Int, z = (dp : Nat) := ⟨_, rfl⟩
  unfold rgR
  rw [← hdd]
  by_cases w5 : 5 < way
  · by_cases w10 : way < 10
    · by_cases hd : 0 < dd
      · obtain ⟨q, d1, e1, q0, q1, g1⟩ := f_draw (n := n) R 2 g (by omega) (by omega) (by omega)
        have p30 : powOk 10 30 := by decide
        have hq : ∃ v : Int, atW [W.int (-1), .int 1] q = some (.int v) ∧ v.natAbs ≤ 1 := by
          have : q = 0 ∨ q = 1 := by omega
          rcases this with rfl | rfl
          · exact ⟨-1, rfl, by omega⟩
          · exact ⟨1, rfl, by omega⟩
        obtain ⟨v, ev, hv⟩ := hq
        obtain ⟨t30, ht30⟩ : ∃ t : Int, t = 10 ^ 30 := ⟨_, rfl⟩
        have b30 : ∀ S, binW true .Pow (.int 10) (.int 30) S = .ok (.int t30) S := fun S => by rw [ht30]; exact binW_pow p30
        have mk : mulOk v t30 := mulOk_of 64 200 (by omega) (by omega) (by omega)
        have hvt : (v * t30).natAbs < 2 ^ 200 := by
          rw [Int.natAbs_mul]
          have h3 : t30.natAbs < 2 ^ 199 := by omega
          have h4 : v.natAbs * t30.natAbs ≤ 1 * t30.natAbs := Nat.mul_le_mul_right _ hv
          omega
        have h6 : t30.natAbs < 2 ^ 200 := by omega
        refine ⟨.op .mul (.num t30) (.num (v * t30)), hi, d1, ?_, ⟨⟨h6, hvt⟩, by simp [Su.dp]⟩, hhi, g1.le (by omega)⟩
        simp [rgD, w5, w10, hd, b30, e1, ev, binW_mul mk, Su.w, Sg.s]
      · exact ⟨lo, hi, d, by simp [rgD, w5, w10, hd], hlo, hhi, g.le (by omega)⟩
    · exact ⟨lo, hi, d, by simp [rgD, w5, w10], hlo, hhi, g.le (by omega)⟩
  · exact ⟨lo, hi, d, by simp [rgD, w5], hlo, hhi, g.le (by omega)⟩
theorem rgE_run (hn : 1 ≤ names.length) (hn6 : names.length ≤ 100) {d : DS} {b : Int} (g : Good b d) (hb : b < 100000000) (way : Int) {lo hi : Su} (hlo : EndOk names lo) (hhi : EndOk names hi) :
    ∃ (lo' hi' : Su) (d' : DS), exes (C (n + 1)) rgE (rgR (names.map .str) x dp way lo.w hi.w) (st d ++ R) = .ok (.nx (rgR (names.map .str) x dp way lo'.w hi'.w)) (st d' ++ R) ∧ EndOk names lo' ∧ EndOk names hi' ∧ Good (b + 2) d' := by
  obtain ⟨dd, hdd⟩ : ∃ z : Int, z = (dp : Nat) := ⟨_, rfl⟩
  unfold rgR
  rw [← hdd]
  have hln : ∀ S, biW .len [.lst (names.map W.str)] S = .ok (.int (names.length : Nat)) S := fun S => by simp [biW, seqW]
  obtain ⟨r, d1, e1, r0, r1, g1⟩ := f_draw (n := n) R (names.length : Nat) g (by omega) (by omega) (by omega)
  obtain ⟨y, ey, hy⟩ := getNm (S := st d1 ++ R) r0 r1
  have hyo : EndOk names (.nm y) := ⟨hy, by simp [Su.dp]⟩
  obtain ⟨nw, hnw⟩ : ∃ w, w = names.map W.str := ⟨_, rfl⟩
  rw [← hnw] at hln ey ⊢
  by_cases w6 : 6 < way
  · by_cases w10 : way < 10
    · by_cases hd : 0 < dd
      · by_cases w9 : way = 9
        · refine ⟨.nm y, lo, d1, ?_, hyo, hlo, g1.le (by omega)⟩
          subst w9
          simp [rgE, hd, hln, e1, ey, Su.w]
        · exact ⟨lo, .nm y, d1, by simp [rgE, w6, w10, hd, hln, e1, ey, Su.w, w9], hlo, hyo, g1.le (by omega)⟩
      · by_cases w9 : way = 9
        · refine ⟨hi, lo, d, ?_, hhi, hlo, g.le (by omega)⟩
          subst w9
          simp [rgE, hd]
        · exact ⟨lo, hi, d, by simp [rgE, w6, w10, hd, w9], hlo, hhi, g.le (by omega)⟩
    · have w9 : ¬ way = 9 := by omega
      exact ⟨lo, hi, d, by simp [rgE, w6, w10, w9], hlo, hhi, g.le (by omega)⟩
  · have w9 : ¬ way = 9 := by omega
    exact ⟨lo, hi, d, by simp [rgE, w6, w9], hlo, hhi, g.le (by omega)⟩
theorem f_range (hn : 1 ≤ names.length) (hn6 : names.length ≤ 100) (hd : dp ≤ 1) {d : DS} {b : Int} (g : Good b d) (hb : b < 10000000) :
    ∃ (r : Rg) (d' : DS), F (n + 4) "_law_range" [.loc 1, .str x, .lst (names.map .str), .int (dp : Nat)] (st d ++ R) = .ok r.w (st d' ++ R) ∧ r.nm = x ∧ EndOk names r.lo ∧ EndOk names r.hi ∧ Good (b + 300) d' := by
  rw [F_run d__law_range rfl rfl]
  obtain ⟨way, a, c, d1, e1, ha, hc, g1⟩ := rgA_run (n := n + 2) (nw := names.map .str) (x := x) (dp := dp) (R := R) g (by omega)
  obtain ⟨lo2, hi2, d2, e2, o2, p2, g2⟩ := rgB_run (n := n) (x := x) (R := R) hn hn6 hd g1 (by omega) way (num_ok (names := names) ha) (num_ok hc)
  obtain ⟨lo3, hi3, d3, e3, o3, p3, g3⟩ := rgC_run (n := n + 2) (nw := names.map .str) (x := x) (dp := dp) (R := R) g2 (by omega) way o2 p2
  obtain ⟨lo4, hi4, d4, e4, o4, p4, g4⟩ := rgD_run (n := n + 2) (nw := names.map .str) (x := x) (dp := dp) (R := R) g3 (by omega) way o3 p3
  obtain ⟨lo5, hi5, d5, e5, o5, p5, g5⟩ := rgE_run (n := n + 2) (x := x) (dp := dp) (R := R) hn hn6 g4 (by omega) way o4 p4
  refine ⟨⟨x, lo5, hi5⟩, d5, ?_, rfl, o5, p5, g5.le (by omega)⟩
  have e1 : exes (C (n + 3)) rgA _ _ = _ := e1
  have e2 : exes (C (n + 3)) rgB (rgR (names.map .str) x dp way (.int a) (.int c)) _ = _ := e2
  have e3 : exes (C (n + 3)) rgC _ _ = _ := e3
  have e4 : exes (C (n + 3)) rgD _ _ = _ := e4
  have e5 : exes (C (n + 3)) rgE _ _ = _ := e5
  have e6 : exes (C (n + 3)) rgF (rgR (names.map .str) x dp way lo5.w hi5.w) (st d5 ++ R) = .ok (.rt (Rg.w ⟨x, lo5, hi5⟩)) (st d5 ++ R) := by
    simp [rgF, Rg.w]
  have hall : exes (C (n + 3)) b__law_range [some (.loc 1), some (.str x), some (.lst (names.map .str)), some (.int (dp : Nat)), none, none, none] (st d ++ R) = .ok (.rt (Rg.w ⟨x, lo5, hi5⟩)) (st d5 ++ R) := by
    rw [b_range_split, exes_app e1, exes_app e2, exes_app e3, exes_app e4, exes_app e5]
    exact e6
  show kRun (st d ++ R).length (exes (C (n + 3)) b__law_range [some (.loc 1), some (.str x), some (.lst (names.map .str)), some (.int (dp : Nat)), none, none, none] (st d ++ R)) = _
  rw [hall]
  exact leave_same (by simp [st])
end
end K39
end

section
set_option linter.all false
set_option maxRecDepth 100000
namespace K39
open PySem Gs
/-! ### fillings -/
structure FX (kvs : Dc) : Prop where
  nd : (kvs.map (·.1)).Nodup
  pl : ∀ p ∈ kvs, Pl p.2
  ks : ∀ p ∈ kvs, ∃ x, p.1 = .inr x
theorem dget_mem {k : Key} {v : W} : ∀ {d : Dc}, dget k d = some v → (k, v) ∈ d
  | [], h => by simp [dget] at h
  | (a, u) :: r, h => by
    simp only [dget] at h
    split at h
    · rename_i e; cases h; rw [e]; simp
    · exact List.mem_cons_of_mem _ (dget_mem h)
theorem FX.fil {kvs : Dc} (h : FX kvs) : Fil kvs := by
  refine ⟨fun k v e => h.pl _ (dget_mem e), fun i => ?_⟩
  cases e : dget (.inl i) kvs with
  | none => rfl
  | some v =>
    obtain ⟨x, hx⟩ := h.ks _ (dget_mem e)
    cases hx
theorem FX.put {kvs : Dc} (h : FX kvs) (x : Str) {v : W} (hv : Pl v) : FX (dput (.inr x) v kvs) := by
  unfold dput
  split
  · refine ⟨?_, ?_, ?_⟩
    · have : (kvs.map fun p => if p.1 = .inr x then (p.1, v) else p).map (·.1) = kvs.map (·.1) := by
        rw [List.map_map]
        apply List.map_congr_left
        intro p _
        simp only [Function.comp]
        split <;> rfl
      rw [this]
      exact h.nd
    · intro p hp
      obtain ⟨q, hq, rfl⟩ := List.mem_map.mp hp
      split
      · exact hv
      · exact h.pl q hq
    · intro p hp
      obtain ⟨q, hq, rfl⟩ := List.mem_map.mp hp
      split
      · exact h.ks q hq
      · exact h.ks q hq
  · rename_i hn
    rw [dget_any] at hn
    refine ⟨?_, ?_, ?_⟩
    · rw [List.map_append, List.nodup_append]
      refine ⟨h.nd, by simp, ?_⟩
      intro a ha b hb
      simp only [List.map_cons, List.map_nil, List.mem_singleton] at hb
      subst hb
      rintro rfl
      obtain ⟨p, hp, hpx⟩ := List.mem_map.mp ha
      have : (kvs.any fun p => decide (p.1 = .inr x)) = true := List.any_eq_true.mpr ⟨p, hp, by simp [hpx]⟩
      rw [dget_any] at this
      exact hn this
    · intro p hp
      rcases List.mem_append.mp hp with hp | hp
      · exact h.pl p hp
      · rw [List.mem_singleton.mp hp]; exact hv
    · intro p hp
      rcases List.mem_append.mp hp with hp | hp
      · exact h.ks p hp
      · rw [List.mem_singleton.mp hp]; exact ⟨x, rfl⟩
theorem Pl.pure {w : W} (h : Pl w) : 0 < w.pure ∧ w.pure ≤ 5 := by
  rcases h with ⟨i, rfl, _⟩ | ⟨x, rfl⟩ | ⟨s, a, b, rfl, rfl | ⟨c, rfl⟩⟩
  · simp [W.pure]
  · simp [W.pure]
  · simp [W.pure, W.pures]
  · simp [W.pure, W.pures]
theorem resD_self {S : Store} : ∀ {d : Dc}, (∀ p ∈ d, Pl p.2) → resD S d = some d
  | [], _ => rfl
  | (k, w) :: r, h => by
    have h1 := (h (k, w) (by simp)).pure
    simp only at h1
    have h2 := resW_pure (S := S) w 60 h1.1 (by omega)
    have h3 := resD_self (S := S) (d := r) fun p hp => h p (by simp [hp])
    simp only [resD, h2, h3]
theorem dget_nd {k : Key} {v : W} : ∀ {d : Dc}, (d.map (·.1)).Nodup → (k, v) ∈ d → dget k d = some v
  | [], _, h => by simp at h
  | (a, u) :: r, hn, h => by
    simp only [List.map_cons, List.nodup_cons] at hn
    simp only [dget]
    rcases List.mem_cons.mp h with e | h
    · cases e; simp
    · have : a ≠ k := fun e => hn.1 (List.mem_map.mpr ⟨(k, v), h, e.symm⟩)
      rw [if_neg this]
      exact dget_nd hn.2 h
theorem eqW_dd {S : Store} {a b : Nat} {d : Dc} (h : FX d) (ha : S[a]? = some (some (.dic d))) (hb : S[b]? = some (some (.dic d))) : eqW S (.loc a) (.loc b) = some true := by
  have h1 : dicW S (.loc a) = some d := by simp [ha]
  have h2 : dicW S (.loc b) = some d := by simp [hb]
  have h3 := resD_self (S := S) h.pl
  have h4 : eqDs d d = true := by
    unfold eqDs
    simp only [beq_self_eq_true, Bool.true_and, List.all_eq_true]
    intro p hp
    have : dget p.1 d = some p.2 := dget_nd h.nd hp
    rw [this]
    exact eqb_self 0 _ (h.pl p hp).pure.1
  have h5 : eqD S d d = some true := by simp only [eqD, h3, h4]
  simp only [eqW, h1, h2, h5]
theorem Su.pure : ∀ t : Su, 0 < t.w.pure ∧ t.w.pure ≤ t.dp + 1
  | .num _ => by simp [Su.w, W.pure, Su.dp]
  | .nm _ => by simp [Su.w, W.pure, Su.dp]
  | .op s a b => by
    obtain ⟨a1, a2⟩ := Su.pure a
    obtain ⟨b1, b2⟩ := Su.pure b
    obtain ⟨a', ha⟩ : ∃ k, a.w.pure = k + 1 := ⟨a.w.pure - 1, by omega⟩
    obtain ⟨b', hb⟩ : ∃ k, b.w.pure = k + 1 := ⟨b.w.pure - 1, by omega⟩
    constructor
    · simp [Su.w, W.pure, W.pures, ha, hb]
    · simp only [Su.w, W.pure, W.pures, ha, hb, Su.dp]
      omega
/-- a list of tests against the empty one -/
theorem eq_tests {S : Store} {l : Nat} {ts : List Ts} (h : ∀ t ∈ ts, t.a.dp ≤ 20 ∧ t.b.dp ≤ 20) (hS : S[l]? = some (some (.lst (ts.map Ts.w)))) : eqW S (.loc l) (.lst []) = some (decide (ts = [])) := by
  have hp : 0 < W.pures (ts.map Ts.w) ∧ W.pures (ts.map Ts.w) ≤ 41 := pures_of (m := 40) (ps := ts.map Ts.w) fun p hp => by
    obtain ⟨t, ht, rfl⟩ := List.mem_map.mp hp
    have h1 := h t ht
    have a := t.a.pure
    have b := t.b.pure
    have := tup_pure (m := 30) (ps := [.str t.s, t.a.w, t.b.w]) (fun p hp => by
      simp only [List.mem_cons, List.not_mem_nil, or_false] at hp
      rcases hp with rfl | rfl | rfl
      · simp [W.pure]
      · omega
      · omega)
    have e : t.w = .tup [.str t.s, t.a.w, t.b.w] := rfl
    rw [e]
    omega
  have h1 : resW S 60 (.loc l) = some (.lst (ts.map Ts.w)) := by
    show (match S[l]? with
      | some (some (.lst xs)) => (xs.mapM (resW S 59)).map W.lst
      | _ => none) = _
    rw [hS]
    have := resWs_pure (S := S) (ts.map Ts.w) 59 hp.1 (by omega)
    simp [this]
  rw [eqW_res h1 (show resW S 60 (.lst []) = some (.lst []) from rfl)]
  cases ts with
  | nil => rfl
  | cons t r => simp [W.eqb, W.eqbs]
theorem cut_to {α : Type} (xs : List α) (k : Nat) (h : k ≤ xs.length) : cut xs none (some ((k : Nat) : Int)) = xs.take k := by
  have h1 : sIx xs.length 0 none = 0 := rfl
  have h2 : sIx xs.length xs.length (some ((k : Nat) : Int)) = k := by
    simp only [sIx]
    rw [if_neg (by omega)]
    omega
  unfold cut
  rw [h1, h2]
  simp
theorem cut_mid {α : Type} (xs : List α) (a k : Nat) (h : a + k ≤ xs.length) : cut xs (some ((a : Nat) : Int)) (some (((a + k : Nat)) : Int)) = (xs.drop a).take k := by
  have h1 : sIx xs.length 0 (some ((a : Nat) : Int)) = a := by
    simp only [sIx]
    rw [if_neg (by omega)]
    omega
  have h2 : sIx xs.length xs.length (some (((a + k : Nat)) : Int)) = a + k := by
    simp only [sIx]
    rw [if_neg (by omega)]
    omega
  unfold cut
  rw [h1, h2]
  congr 1
  omega
theorem sl_loc {S : Store} {l : Nat} {xs : List W} (hS : S[l]? = some (some (.lst xs))) (lo hi : Option Int) (h : (cut xs lo hi).length ≤ 16777216) : sliceW true (.loc l) lo hi S = .ok (.lst (cut xs lo hi)) S := by
  have hs : seqW S (.loc l) = some xs := by simp [seqW, hS]
  simp only [sliceW, hs]
  exact newL_t h
end K39
end

section
set_option linter.all false
set_option maxRecDepth 100000
namespace K39
open PySem Gs
/-! ### names -/
def UpC (c : Nat) : Prop := 65 ≤ c ∧ c ≤ 90
structure NmL (nms : List Str) : Prop where
  nd : nms.Nodup
  up : ∀ x ∈ nms, UpN x
  ln : ∀ x ∈ nms, x.length ≤ 6 + nms.length
def lnB : List Sm := [.expr (.mt .append (.var 2) [(.call "_law_text" [(.var 1), (.cstr "ABCDEFGHIJKLMNOPQRSTUVWXYZ"), (.var 2)])])]
theorem names_run {d : DS} {b : Int} (g : Good b d) (hb : b < 1000) (o0 : Option W) (o4 : Rho) : ∃ (nms : List Str) (d' : DS) (o3 : Option W), forL (C 89) (.nm 3) lnB (rangeW 0 6) (o0 :: some (.loc 1) :: some (.loc 2) :: none :: o4) (st d ++ [some (.lst [])]) = .ok (.nx (o0 :: some (.loc 1) :: some (.loc 2) :: o3 :: o4)) (st d' ++ [some (.lst (nms.map .str))]) ∧ NmL nms ∧ nms.length = 6 ∧ Good (b + 30) d' := by
  obtain ⟨ρ', S', e, nms, d', o3, rfl, rfl, hN, hl, g'⟩ := forL_inv (C := C 89) (t := .nm 3) (b := lnB)
    (fun xs ρ S => ∃ (nms : List Str) (d : DS) (o3 : Option W), ρ = o0 :: some (.loc 1) :: some (.loc 2) :: o3 :: o4 ∧ S = st d ++ [some (.lst (nms.map .str))] ∧ NmL nms ∧ nms.length + xs.length = 6 ∧ Good (b + 5 * nms.length) d)
    (by
      rintro y xs ρ S ⟨nms, d, o3, rfl, rfl, hN, hl, g⟩
      simp only [List.length_cons] at hl
      obtain ⟨x, d2, e2, hx, hnx, g2⟩ := f_text (n := 87) (R := [some (Ob.lst (nms.map .str))]) upper26 (P := UpC) upper_P (names := nms) (w := .loc 2) (fun d => by
          have hg : (st d ++ [some (Ob.lst (nms.map .str))])[2]? = some (some (.lst (nms.map .str))) := rfl
          have hA : ∀ (ws : List W) S, addW true (.loc 2) (.lst ws) S = addL true (.loc 2) (.lst ws) S := fun _ _ => rfl
          rw [hA]
          have h1 : lstW (st d ++ [some (Ob.lst (nms.map W.str))]) (.loc 2) = some (nms.map .str) := by simp only [lstW, hg]
          have h2 : lstW (st d ++ [some (Ob.lst (nms.map W.str))]) (.lst (wordsL.map .str)) = some (wordsL.map .str) := rfl
          simp only [addL, h1, h2]
          rw [← List.map_append]
          exact newL_t (by simp [wordsL]; omega)) (M := 6 + nms.length) hN.ln (by omega) (by omega) g (by omega)
      refine ⟨_, _, ?_, nms ++ [x], d2, some y, rfl, rfl, ⟨?_, ?_, ?_⟩, by simp; omega, g2.le (by simp; omega)⟩
      · have e2 : F 89 "_law_text" [.loc 1, .str "ABCDEFGHIJKLMNOPQRSTUVWXYZ", .loc 2] (st d ++ [some (Ob.lst (nms.map .str))]) = .ok (.str x) (st d2 ++ [some (Ob.lst (nms.map .str))]) := e2
        have hz : (nms.map W.str).length < 16777216 := by simp; omega
        have hg : ∀ dw : List W, (st d2 ++ [some (Ob.lst dw)])[2]? = some (some (.lst dw)) := fun _ => rfl
        have hs : ∀ (dw : List W) (w : W), (st d2 ++ [some (Ob.lst dw)]).set 2 (some (.lst (dw ++ [w]))) = st d2 ++ [some (.lst (dw ++ [w]))] := fun _ _ => rfl
        rw [List.map_append]
        simp only [List.map_cons, List.map_nil]
        obtain ⟨dw, hdw⟩ : ∃ w, w = nms.map W.str := ⟨_, rfl⟩
        rw [← hdw] at e2 hz ⊢
        have hg' := hg dw
        have hs' := hs dw (.str x)
        have hst : (st d2 ++ [some (Ob.lst dw)]).length = 3 := rfl
        obtain ⟨S2, hS2⟩ : ∃ S, S = st d2 ++ [some (Ob.lst dw)] := ⟨_, rfl⟩
        rw [← hS2] at e2 hg' hs'
        simp [lnB, e2, hg', hz, hs']
      · rw [List.nodup_append]
        refine ⟨hN.nd, by simp, ?_⟩
        rintro a ha b hb' rfl
        rw [List.mem_singleton.mp hb'] at ha
        exact hnx ha
      · intro z hz
        rcases List.mem_append.mp hz with hz | hz
        · exact hN.up z hz
        · rw [List.mem_singleton.mp hz]
          obtain ⟨c, r, e, hc⟩ := hx.hd
          exact ⟨c, r, e, hc⟩
      · intro z hz
        simp only [List.length_append, List.length_cons, List.length_nil]
        rcases List.mem_append.mp hz with hz | hz
        · have := hN.ln z hz; omega
        · rw [List.mem_singleton.mp hz]
          have := hx.ln; omega)
    (rangeW 0 6) (o0 :: some (.loc 1) :: some (.loc 2) :: none :: o4) (st d ++ [some (.lst [])]) ⟨[], d, none, rfl, rfl, ⟨by simp, by simp, by simp⟩, by simp, g.le (by simp)⟩
  simp only [List.length_nil, Nat.add_zero] at hl
  exact ⟨nms, d', o3, e, hN, hl, g'.le (by omega)⟩
/-! ### the filling -/
def fA : List Sm := [.sub (.var 6) (.var 7) (.call "_law_term" [(.var 1)])]
def fB : List Sm := [.ife (.cmp .Eq (.call "_law_draw" [(.var 1), (.cint 4)]) (.cint 0)) [.sub (.var 6) (.var 7) (.call "_law_term" [(.var 1)])] []]
theorem put_turn {d : DS} {b : Int} (g : Good b d) (hb : b < 1000000) {nw : List W} {kvs : Dc} (hf : FX kvs) (hl : kvs.length ≤ 50) (x : Str) (o0 o2 o3 o4 o5 : Option W) (o8 : Rho) :
    ∃ (kvs' : Dc) (d' : DS), exes (C 89) fA (o0 :: some (.loc 1) :: o2 :: o3 :: o4 :: o5 :: some (.loc 3) :: some (.str x) :: o8) (st d ++ [some (.lst nw), some (.dic kvs)]) = .ok (.nx (o0 :: some (.loc 1) :: o2 :: o3 :: o4 :: o5 :: some (.loc 3) :: some (.str x) :: o8)) (st d' ++ [some (.lst nw), some (.dic kvs')]) ∧ FX kvs' ∧ kvs'.length ≤ kvs.length + 1 ∧ (∃ v, dget (.inr x) kvs' = some v) ∧ (∀ y, (∃ v, dget (.inr y) kvs = some v) → ∃ v, dget (.inr y) kvs' = some v) ∧ Good (b + 10) d' := by
  obtain ⟨v, d1, e1, hv, g1⟩ := f_term (n := 86) (R := [some (.lst nw), some (.dic kvs)]) g (by omega)
  refine ⟨dput (.inr x) v kvs, d1, ?_, hf.put x hv, dput_len _ _ _, ⟨v, by rw [dget_dput, if_pos rfl]⟩, fun y hy => ?_, g1⟩
  · have e1 : F 89 "_law_term" [.loc 1] (st d ++ [some (.lst nw), some (.dic kvs)]) = .ok v (st d1 ++ [some (.lst nw), some (.dic kvs)]) := e1
    have hg : (st d1 ++ [some (Ob.lst nw), some (Ob.dic kvs)])[3]? = some (some (.dic kvs)) := rfl
    have hs : (st d1 ++ [some (Ob.lst nw), some (Ob.dic kvs)]).set 3 (some (.dic (dput (.inr x) v kvs))) = st d1 ++ [some (.lst nw), some (.dic (dput (.inr x) v kvs))] := rfl
    have hz : kvs.length < 16777216 := by omega
    obtain ⟨k2, hk2⟩ : ∃ k, k = dput (.inr x) v kvs := ⟨_, rfl⟩
    rw [← hk2] at hs ⊢
    obtain ⟨S2, hS2⟩ : ∃ S, S = st d1 ++ [some (Ob.lst nw), some (Ob.dic kvs)] := ⟨_, rfl⟩
    rw [← hS2] at e1 hg hs
    simp [fA, e1, hg, hz, ← hk2, hs]
  · rw [dget_dput]
    split
    · exact ⟨v, rfl⟩
    · exact hy
theorem fA_run (nw : List W) (o0 o2 o3 o4 o5 : Option W) (o8 : Rho) : ∀ (xs : List Str) {d : DS} {b : Int} (g : Good b d) (hb : b + 20 * xs.length < 1000000) {kvs : Dc} (hf : FX kvs) (hl : kvs.length + xs.length ≤ 50) (o7 : Option W),
    ∃ (kvs' : Dc) (d' : DS) (o7' : Option W), forL (C 89) (.nm 7) fA (xs.map .str) (o0 :: some (.loc 1) :: o2 :: o3 :: o4 :: o5 :: some (.loc 3) :: o7 :: o8) (st d ++ [some (.lst nw), some (.dic kvs)]) = .ok (.nx (o0 :: some (.loc 1) :: o2 :: o3 :: o4 :: o5 :: some (.loc 3) :: o7' :: o8)) (st d' ++ [some (.lst nw), some (.dic kvs')]) ∧ FX kvs' ∧ kvs'.length ≤ kvs.length + xs.length ∧ (∀ x ∈ xs, ∃ v, dget (.inr x) kvs' = some v) ∧ (∀ y, (∃ v, dget (.inr y) kvs = some v) → ∃ v, dget (.inr y) kvs' = some v) ∧ Good (b + 20 * xs.length) d' := by
  intro xs
  induction xs with
  | nil => intro d b g hb kvs hf hl o7; exact ⟨kvs, d, o7, rfl, hf, by simp, by simp, fun _ h => h, g.le (by simp)⟩
  | cons x xs ih =>
    intro d b g hb kvs hf hl o7
    simp only [List.length_cons] at hb hl
    obtain ⟨k1, d1, e1, f1, l1, hx1, m1, g1⟩ := put_turn g (by omega) (nw := nw) hf (by omega) x o0 o2 o3 o4 o5 o8
    obtain ⟨k2, d2, o7', e2, f2, l2, hx2, m2, g2⟩ := ih g1 (by push_cast at hb; omega) f1 (by omega) (some (.str x))
    refine ⟨k2, d2, o7', ?_, f2, by simp only [List.length_cons]; omega, fun y hy => ?_, fun y hy => m2 y (m1 y hy), g2.le (by simp only [List.length_cons]; push_cast; omega)⟩
    · rw [List.map_cons, forL_cons]
      have : kTgB (C 89) fA (tgW (.nm 7) (.str x) (o0 :: some (.loc 1) :: o2 :: o3 :: o4 :: o5 :: some (.loc 3) :: o7 :: o8)) (st d ++ [some (.lst nw), some (.dic kvs)]) = .ok (.nx (o0 :: some (.loc 1) :: o2 :: o3 :: o4 :: o5 :: some (.loc 3) :: some (.str x) :: o8)) (st d1 ++ [some (.lst nw), some (.dic k1)]) := e1
      rw [this]
      exact e2
    · rcases List.mem_cons.mp hy with rfl | hy
      · exact m2 _ hx1
      · exact hx2 y hy
theorem fB_run (nw : List W) (o0 o2 o3 o4 o5 : Option W) (o8 : Rho) : ∀ (xs : List Str) {d : DS} {b : Int} (g : Good b d) (hb : b + 20 * xs.length < 1000000) {kvs : Dc} (hf : FX kvs) (hl : kvs.length + xs.length ≤ 50) (o7 : Option W),
    ∃ (kvs' : Dc) (d' : DS) (o7' : Option W), forL (C 89) (.nm 7) fB (xs.map .str) (o0 :: some (.loc 1) :: o2 :: o3 :: o4 :: o5 :: some (.loc 3) :: o7 :: o8) (st d ++ [some (.lst nw), some (.dic kvs)]) = .ok (.nx (o0 :: some (.loc 1) :: o2 :: o3 :: o4 :: o5 :: some (.loc 3) :: o7' :: o8)) (st d' ++ [some (.lst nw), some (.dic kvs')]) ∧ FX kvs' ∧ kvs'.length ≤ kvs.length + xs.length ∧ (∀ y, (∃ v, dget (.inr y) kvs = some v) → ∃ v, dget (.inr y) kvs' = some v) ∧ Good (b + 20 * xs.length) d' := by
  intro xs
  induction xs with
  | nil => intro d b g hb kvs hf hl o7; exact ⟨kvs, d, o7, rfl, hf, by simp, fun _ h => h, g.le (by simp)⟩
  | cons x xs ih =>
    intro d b g hb kvs hf hl o7
    simp only [List.length_cons] at hb hl
    obtain ⟨q, d0, e0, q0, q1, g0⟩ := f_draw (n := 88) [some (.lst nw), some (.dic kvs)] 4 g (by push_cast at hb; omega) (by omega) (by omega)
    have hturn : ∃ k1 d1, kTgB (C 89) fB (tgW (.nm 7) (.str x) (o0 :: some (.loc 1) :: o2 :: o3 :: o4 :: o5 :: some (.loc 3) :: o7 :: o8)) (st d ++ [some (.lst nw), some (.dic kvs)]) = .ok (.nx (o0 :: some (.loc 1) :: o2 :: o3 :: o4 :: o5 :: some (.loc 3) :: some (.str x) :: o8)) (st d1 ++ [some (.lst nw), some (.dic k1)]) ∧ FX k1 ∧ k1.length ≤ kvs.length + 1 ∧ (∀ y, (∃ v, dget (.inr y) kvs = some v) → ∃ v, dget (.inr y) k1 = some v) ∧ Good (b + 11) d1 := by
      by_cases hq : q = 0
      · obtain ⟨k1, d1, e1, f1, l1, _, m1, g1⟩ := put_turn g0 (by push_cast at hb; omega) (nw := nw) hf (by omega) x o0 o2 o3 o4 o5 o8
        refine ⟨k1, d1, ?_, f1, l1, m1, g1.le (by omega)⟩
        have hfa : fA = [.sub (.var 6) (.var 7) (.call "_law_term" [(.var 1)])] := rfl
        rw [hfa] at e1
        have e0 : F 89 "_law_draw" [.loc 1, .int 4] _ = _ := e0
        subst hq
        obtain ⟨S0, hS0⟩ : ∃ S, S = st d ++ [some (Ob.lst nw), some (Ob.dic kvs)] := ⟨_, rfl⟩
        obtain ⟨S1, hS1⟩ : ∃ S, S = st d0 ++ [some (Ob.lst nw), some (Ob.dic kvs)] := ⟨_, rfl⟩
        rw [← hS0, ← hS1] at e0
        rw [← hS1] at e1
        rw [← hS0]
        show exes (C 89) fB (o0 :: some (.loc 1) :: o2 :: o3 :: o4 :: o5 :: some (.loc 3) :: some (.str x) :: o8) S0 = _
        rw [fB, exes_cons, exe_ife]
        simp only [tst_cmp, den_call, dens_cons, dens_nil, den_var, den_cint] at *
        simp [e0, e1]
      · refine ⟨kvs, d0, ?_, hf, by omega, fun _ h => h, g0.le (by omega)⟩
        have e0 : F 89 "_law_draw" [.loc 1, .int 4] _ = _ := e0
        show exes (C 89) fB (o0 :: some (.loc 1) :: o2 :: o3 :: o4 :: o5 :: some (.loc 3) :: some (.str x) :: o8) _ = _
        simp [fB, e0, hq]
    obtain ⟨k1, d1, e1, f1, l1, m1, g1⟩ := hturn
    obtain ⟨k2, d2, o7', e2, f2, l2, m2, g2⟩ := ih g1 (by push_cast at hb; omega) f1 (by omega) (some (.str x))
    refine ⟨k2, d2, o7', ?_, f2, by simp only [List.length_cons]; omega, fun y hy => m2 y (m1 y hy), g2.le (by simp only [List.length_cons]; push_cast; omega)⟩
    rw [List.map_cons, forL_cons, e1]
    exact e2
end K39
end

section
set_option linter.all false
set_option maxRecDepth 100000
namespace K39
open PySem Gs
def rgX : E := .call "_law_range" [(.var 1), (.var 7), (.sl true (.var 2) none (some (.cint 3))), (.bi .int1 [(.cmp .Lt (.var 4) (.cint 3))])]
theorem lc_rg {nms : List Str} (h6 : nms.length = 6) {kvs : Dc} {m : Int} (o0 o3 o5 o7 o8 o9 o10 o11 o12 o13 o14 o15 : Option W) : ∀ (xs : List Str) (acc : List W) {d : DS} {b : Int}, Good b d → b + 300 * xs.length < 1000000 → acc.length + xs.length ≤ 50 →
    ∃ (rs : List Rg) (d' : DS), lcT (C 89) [7] (.nm 7) [] rgX [o0, some (.loc 1), some (.loc 2), o3, some (.int m), o5, some (.loc 3), o7, o8, o9, o10, o11, o12, o13, o14, o15] (xs.map .str) acc (st d ++ [some (.lst (nms.map .str)), some (.dic kvs)]) = .ok (acc ++ rs.map Rg.w) (st d' ++ [some (.lst (nms.map .str)), some (.dic kvs)]) ∧ rs.map Rg.nm = xs ∧ (∀ r ∈ rs, EndOk (nms.take 3) r.lo ∧ EndOk (nms.take 3) r.hi) ∧ Good (b + 300 * xs.length) d' := by
  intro xs
  induction xs with
  | nil => intro acc d b g hb hl; exact ⟨[], d, by simp, rfl, by simp, g.le (by simp)⟩
  | cons x xs ih =>
    intro acc d b g hb hl
    simp only [List.length_cons] at hb hl
    push_cast at hb
    obtain ⟨dp, hdp, hdp1⟩ : ∃ dp : Nat, (if m < 3 then (1 : Int) else 0) = (dp : Nat) ∧ dp ≤ 1 := by
      by_cases h : m < 3
      · exact ⟨1, by rw [if_pos h]; rfl, by omega⟩
      · exact ⟨0, by rw [if_neg h]; rfl, by omega⟩
    obtain ⟨r, d1, e1, hx, h1, h2, g1⟩ := f_range (n := 85) (names := nms.take 3) (x := x) (dp := dp) (R := [some (.lst (nms.map .str)), some (.dic kvs)]) (by simp [h6]) (by simp [h6]) hdp1 g (by omega)
    obtain ⟨rs, d', e2, hrs, ho, g2⟩ := ih (acc ++ [r.w]) g1 (by omega) (by simp; omega)
    refine ⟨r :: rs, d', ?_, by simp [hx, hrs], fun q hq => ?_, g2.le (by simp only [List.length_cons]; push_cast; omega)⟩
    · have la : acc.length < 16777216 := by omega
      have hk : kLcTg (C 89) [] rgX acc (tgW (.nm 7) (.str x) (wipeR [o0, some (.loc 1), some (.loc 2), o3, some (.int m), o5, some (.loc 3), o7, o8, o9, o10, o11, o12, o13, o14, o15] [7])) (st d ++ [some (.lst (nms.map .str)), some (.dic kvs)]) = .ok (acc ++ [r.w]) (st d1 ++ [some (.lst (nms.map .str)), some (.dic kvs)]) := by
        have hsl := sl_loc (S := st d ++ [some (Ob.lst (nms.map .str)), some (Ob.dic kvs)]) (l := 2) (xs := nms.map .str) rfl none (some ((3 : Nat) : Int)) (by rw [cut_to _ _ (by simp [h6])]; simp; omega)
        rw [cut_to _ _ (by simp [h6]), ← List.map_take] at hsl
        have hsl : sliceW true (.loc 2) none (some 3) (st d ++ [some (Ob.lst (nms.map .str)), some (Ob.dic kvs)]) = .ok (.lst ((nms.take 3).map .str)) (st d ++ [some (Ob.lst (nms.map .str)), some (Ob.dic kvs)]) := hsl
        have hi : ∀ S, biW .int1 [.bl (decide (m < 3))] S = .ok (.int (dp : Nat)) S := fun S => by
          by_cases h : m < 3
          · rw [if_pos h] at hdp
            rw [decide_eq_true h, ← hdp]; rfl
          · rw [if_neg h] at hdp
            rw [decide_eq_false h, ← hdp]; rfl
        obtain ⟨nw, hnw⟩ : ∃ w, w = (nms.take 3).map W.str := ⟨_, rfl⟩
        rw [← hnw] at hsl e1
        obtain ⟨S0, hS0⟩ : ∃ S, S = st d ++ [some (Ob.lst (nms.map .str)), some (Ob.dic kvs)] := ⟨_, rfl⟩
        obtain ⟨S1, hS1⟩ : ∃ S, S = st d1 ++ [some (Ob.lst (nms.map .str)), some (Ob.dic kvs)] := ⟨_, rfl⟩
        rw [← hS0, ← hS1] at e1
        rw [← hS0] at hsl
        rw [← hS0, ← hS1]
        obtain ⟨rw', hrw⟩ : ∃ w, w = r.w := ⟨_, rfl⟩
        rw [← hrw] at e1 ⊢
        obtain ⟨dz, hdz⟩ : ∃ z : Int, z = (dp : Nat) := ⟨_, rfl⟩
        rw [← hdz] at e1 hi
        have e1 : F 89 "_law_range" [.loc 1, .str x, .lst nw, .int dz] S0 = .ok rw' S1 := e1
        simp [wipeR, rgX, hsl, hi, e1, la]
      rw [List.map_cons, lcT_cons, hk, kLcN_ok, e2]
      simp
    · rcases List.mem_cons.mp hq with rfl | hq
      · exact ⟨h1, h2⟩
      · exact ho q hq
/-! ### tests -/
def tsB : List Sm := [.asg (.nm 11) (.lc true [12] (.nm 12) (.rng1 (.cint 2)) [] (.call "_law_sum" [(.var 1), (.sl true (.var 2) none (some (.bin true .Add (.cint 3) (.var 4)))), (.bin true .Add (.cint 1) (.bi .int1 [(.cmp .Lt (.var 9) (.cint 3))]))])), .expr (.mt .append (.var 10) [(.tup [(.ix (.lst true [(.cstr "<"), (.cstr "=<"), (.cstr "=="), (.cstr "=/=")]) (.call "_law_draw" [(.var 1), (.cint 4)])), (.ix (.var 11) (.cint 0)), (.ix (.var 11) (.cint 1))])])]
structure TsOk (names : List Str) (t : Ts) : Prop where
  a : t.a.Ok (· ∈ names)
  b : t.b.Ok (· ∈ names)
  da : t.a.dp ≤ 2
  db : t.b.dp ≤ 2
  s : t.s ≠ ("and" : Str)
theorem ts_turn {nms : List Str} (h6 : nms.length = 6) {kvs : Dc} {m : Nat} (hm : m ≤ 3) {c : Int} (o0 o3 o5 o7 o8 o11 o12 o13 o14 o15 : Option W) {ts : List Ts} (hl : ts.length ≤ 20) {d : DS} {b : Int} (g : Good b d) (hb : b < 1000000) :
    ∃ (t : Ts) (d' : DS) (o11' : Option W), exes (C 89) tsB [o0, some (.loc 1), some (.loc 2), o3, some (.int (m : Nat)), o5, some (.loc 3), o7, o8, some (.int c), some (.loc 4), o11, o12, o13, o14, o15] (st d ++ [some (.lst (nms.map .str)), some (.dic kvs), some (.lst (ts.map Ts.w))]) =
      .ok (.nx [o0, some (.loc 1), some (.loc 2), o3, some (.int (m : Nat)), o5, some (.loc 3), o7, o8, some (.int c), some (.loc 4), o11', o12, o13, o14, o15]) (st d' ++ [some (.lst (nms.map .str)), some (.dic kvs), some (.lst ((ts ++ [t]).map Ts.w))]) ∧ TsOk (nms.take (3 + m)) t ∧ Good (b + 400) d' := by
  obtain ⟨dp, hdp, hdp1⟩ : ∃ dp : Nat, (if c < 3 then (2 : Int) else 1) = (dp : Nat) ∧ dp ≤ 2 := by
    by_cases h : c < 3
    · exact ⟨2, by rw [if_pos h]; rfl, by omega⟩
    · exact ⟨1, by rw [if_neg h]; rfl, by omega⟩
  have hpw : (3 : Int) ^ dp ≤ 9 := by
    have : (3 : Nat) ^ dp ≤ 3 ^ 2 := Nat.pow_le_pow_right (by omega) hdp1
    exact_mod_cast this
  have mk : ∀ {d : DS} {b : Int}, Good b d → b < 2000000 → ∃ (t : Su) (d' : DS), F 89 "_law_sum" [.loc 1, .lst ((nms.take (3 + m)).map .str), .int (dp : Nat)] (st d ++ [some (.lst (nms.map .str)), some (.dic kvs), some (.lst (ts.map Ts.w))]) = .ok t.w (st d' ++ [some (.lst (nms.map .str)), some (.dic kvs), some (.lst (ts.map Ts.w))]) ∧ t.Ok (· ∈ nms.take (3 + m)) ∧ t.dp ≤ 2 ∧ Good (b + 180) d' := by
    intro d b g hb
    obtain ⟨j, hj⟩ : ∃ j, 89 = j + 2 + dp := ⟨87 - dp, by omega⟩
    obtain ⟨t, d', e, h1, h2, g'⟩ := f_sum (names := nms.take (3 + m)) (by simp [h6]; omega) (by simp [h6]; omega) dp (by omega) (n := j) (d := d) (R := [some (.lst (nms.map .str)), some (.dic kvs), some (.lst (ts.map Ts.w))]) g (by omega)
    exact ⟨t, d', by rw [hj]; exact e, h1, by omega, g'.le (by omega)⟩
  obtain ⟨a, d1, e1, ha, hda, g1⟩ := mk g (by omega)
  obtain ⟨c2, d2, e2, hc, hdc, g2⟩ := mk g1 (by omega)
  obtain ⟨q, d3, e3, q0, q1, g3⟩ := f_draw (n := 88) [some (.lst (nms.map .str)), some (.dic kvs), some (.lst (ts.map Ts.w))] 4 g2 (by omega) (by omega) (by omega)
  have hq : ∃ s : Str, atW [W.str "<", .str "=<", .str "==", .str "=/="] q = some (.str s) ∧ s ≠ ("and" : Str) := by
    have : q = 0 ∨ q = 1 ∨ q = 2 ∨ q = 3 := by omega
    rcases this with rfl | rfl | rfl | rfl
    · exact ⟨_, rfl, by decide⟩
    · exact ⟨_, rfl, by decide⟩
    · exact ⟨_, rfl, by decide⟩
    · exact ⟨_, rfl, by decide⟩
  obtain ⟨s, es, hs⟩ := hq
  refine ⟨⟨s, a, c2⟩, d3, some (.lst [a.w, c2.w]), ?_, ⟨ha, hc, hda, hdc, hs⟩, g3.le (by omega)⟩
  have hsl : ∀ d : DS, sliceW true (.loc 2) none (some (3 + (m : Int))) (st d ++ [some (Ob.lst (nms.map .str)), some (Ob.dic kvs), some (.lst (ts.map Ts.w))]) = .ok (.lst ((nms.take (3 + m)).map .str)) (st d ++ [some (Ob.lst (nms.map .str)), some (Ob.dic kvs), some (.lst (ts.map Ts.w))]) := fun d => by
    have hsl := sl_loc (S := st d ++ [some (Ob.lst (nms.map .str)), some (Ob.dic kvs), some (.lst (ts.map Ts.w))]) (l := 2) (xs := nms.map .str) rfl none (some (((3 + m : Nat)) : Int)) (by rw [cut_to _ _ (by simp [h6]; omega)]; simp; omega)
    rw [cut_to _ _ (by simp [h6]; omega), ← List.map_take] at hsl
    have hc : (((3 + m : Nat)) : Int) = 3 + (m : Int) := by push_cast; rfl
    rw [hc] at hsl
    exact hsl
  have hi : ∀ S, ∃ z : Int, biW .int1 [.bl (decide (c < 3))] S = .ok (.int z) S ∧ 1 + z = (dp : Nat) := fun S => by
    by_cases h : c < 3
    · rw [if_pos h] at hdp
      exact ⟨1, by rw [decide_eq_true h]; rfl, by omega⟩
    · rw [if_neg h] at hdp
      exact ⟨0, by rw [decide_eq_false h]; rfl, by omega⟩
  obtain ⟨z, hz⟩ : ∃ z : Int, 1 + z = (dp : Nat) ∧ ∀ S, biW .int1 [.bl (decide (c < 3))] S = .ok (.int z) S := by
    by_cases h : c < 3
    · rw [if_pos h] at hdp
      exact ⟨1, by omega, fun S => by rw [decide_eq_true h]; rfl⟩
    · rw [if_neg h] at hdp
      exact ⟨0, by omega, fun S => by rw [decide_eq_false h]; rfl⟩
  have hl1 : (ts.map Ts.w).length < 16777216 := by simp; omega
  have hg : (st d3 ++ [some (Ob.lst (nms.map .str)), some (Ob.dic kvs), some (.lst (ts.map Ts.w))])[4]? = some (some (.lst (ts.map Ts.w))) := rfl
  have hg2 : (st d2 ++ [some (Ob.lst (nms.map .str)), some (Ob.dic kvs), some (.lst (ts.map Ts.w))])[4]? = some (some (.lst (ts.map Ts.w))) := rfl
  have hst : ∀ w : W, (st d3 ++ [some (Ob.lst (nms.map .str)), some (Ob.dic kvs), some (.lst (ts.map Ts.w))]).set 4 (some (.lst (ts.map Ts.w ++ [w]))) = st d3 ++ [some (Ob.lst (nms.map .str)), some (Ob.dic kvs), some (.lst (ts.map Ts.w ++ [w]))] := fun _ => rfl
  have hmp : (ts ++ [(⟨s, a, c2⟩ : Ts)]).map Ts.w = ts.map Ts.w ++ [.tup [.str s, a.w, c2.w]] := by simp [Ts.w]
  rw [hmp]
  have hst' := hst (.tup [.str s, a.w, c2.w])
  obtain ⟨tw, htw⟩ : ∃ w, w = ts.map Ts.w := ⟨_, rfl⟩
  rw [← htw] at e1 e2 e3 hsl hl1 hg hg2 hst' ⊢
  obtain ⟨nw, hnw⟩ : ∃ w, w = (nms.take (3 + m)).map W.str := ⟨_, rfl⟩
  rw [← hnw] at e1 e2 hsl
  obtain ⟨aw, haw⟩ : ∃ w, w = a.w := ⟨_, rfl⟩
  obtain ⟨cw, hcw⟩ : ∃ w, w = c2.w := ⟨_, rfl⟩
  rw [← haw] at e1 hst' ⊢
  rw [← hcw] at e2 hst' ⊢
  have hsl0 := hsl d
  have hsl1 := hsl d1
  obtain ⟨S0, hS0⟩ : ∃ S, S = st d ++ [some (Ob.lst (nms.map .str)), some (Ob.dic kvs), some (.lst tw)] := ⟨_, rfl⟩
  obtain ⟨S1, hS1⟩ : ∃ S, S = st d1 ++ [some (Ob.lst (nms.map .str)), some (Ob.dic kvs), some (.lst tw)] := ⟨_, rfl⟩
  obtain ⟨S2, hS2⟩ : ∃ S, S = st d2 ++ [some (Ob.lst (nms.map .str)), some (Ob.dic kvs), some (.lst tw)] := ⟨_, rfl⟩
  obtain ⟨S3, hS3⟩ : ∃ S, S = st d3 ++ [some (Ob.lst (nms.map .str)), some (Ob.dic kvs), some (.lst tw)] := ⟨_, rfl⟩
  rw [← hS0, ← hS1] at e1
  rw [← hS1, ← hS2] at e2
  rw [← hS2, ← hS3] at e3
  rw [← hS0] at hsl0 ⊢
  rw [← hS1] at hsl1
  rw [← hS3] at hg hst'
  rw [← hS2] at hg2
  have e3 : F 89 "_law_draw" [.loc 1, .int 4] S2 = .ok (.int q) S3 := e3
  have s2 : small62 2 := by decide
  have k3 := kRng_ok (S := S0) s2
  have hr : rangeW 0 2 = [.int 0, .int 1] := rfl
  rw [hr] at k3
  have n2 : newL true [aw, cw] S2 = .ok (.lst [aw, cw]) S2 := rfl
  have hlc : lcT (C 89) [12] (.nm 12) [] (.call "_law_sum" [(.var 1), (.sl true (.var 2) none (some (.bin true .Add (.cint 3) (.var 4)))), (.bin true .Add (.cint 1) (.bi .int1 [(.cmp .Lt (.var 9) (.cint 3))]))]) [o0, some (.loc 1), some (.loc 2), o3, some (.int (m : Nat)), o5, some (.loc 3), o7, o8, some (.int c), some (.loc 4), o11, o12, o13, o14, o15] [.int 0, .int 1] [] S0 = .ok [aw, cw] S2 := by
    obtain ⟨dz, hdz⟩ : ∃ z : Int, z = (dp : Nat) := ⟨_, rfl⟩
    obtain ⟨hz1, hz2⟩ := hz
    rw [← hdz] at e1 e2 hz1
    obtain ⟨mz, hmz⟩ : ∃ z : Int, z = (m : Nat) := ⟨_, rfl⟩
    have hmz' : (m : Int) = mz := hmz.symm
    rw [hmz'] at hsl0 hsl1 ⊢
    rw [lcT_cons]
    have h1 : kLcTg (C 89) [] (.call "_law_sum" [(.var 1), (.sl true (.var 2) none (some (.bin true .Add (.cint 3) (.var 4)))), (.bin true .Add (.cint 1) (.bi .int1 [(.cmp .Lt (.var 9) (.cint 3))]))]) [] (tgW (.nm 12) (.int 0) (wipeR [o0, some (.loc 1), some (.loc 2), o3, some (.int mz), o5, some (.loc 3), o7, o8, some (.int c), some (.loc 4), o11, o12, o13, o14, o15] [12])) S0 = .ok [aw] S1 := by
      simp [wipeR, hsl0, hz2, hz1, e1]
    rw [h1, kLcN_ok, lcT_cons]
    have h2 : kLcTg (C 89) [] (.call "_law_sum" [(.var 1), (.sl true (.var 2) none (some (.bin true .Add (.cint 3) (.var 4)))), (.bin true .Add (.cint 1) (.bi .int1 [(.cmp .Lt (.var 9) (.cint 3))]))]) [aw] (tgW (.nm 12) (.int 1) (wipeR [o0, some (.loc 1), some (.loc 2), o3, some (.int mz), o5, some (.loc 3), o7, o8, some (.int c), some (.loc 4), o11, o12, o13, o14, o15] [12])) S1 = .ok [aw, cw] S2 := by
      simp [wipeR, hsl1, hz2, hz1, e2]
    rw [h2, kLcN_ok]
    rfl
  have g0 : ∀ S, getW (.lst [aw, cw]) (.int 0) S = .ok aw S := fun S => rfl
  have g1' : ∀ S, getW (.lst [aw, cw]) (.int 1) S = .ok cw S := fun S => rfl
  obtain ⟨lw, hlw⟩ : ∃ w, w = [aw, cw] := ⟨_, rfl⟩
  rw [← hlw] at hlc n2 g0 g1' ⊢
  simp [tsB, k3, hlc, n2, hg2, e3, es, g0, g1', hg, hl1, hst']
  exact hlw.symm
end K39
end

section
set_option linter.all false
set_option maxRecDepth 100000
namespace K39
open PySem Gs
theorem ts_run {nms : List Str} (h6 : nms.length = 6) {kvs : Dc} {m : Nat} (hm : m ≤ 3) {c : Int} (o0 o5 o7 o8 o12 o13 o14 o15 : Option W) : ∀ (xs : List W) (ts : List Ts) {d : DS} {b : Int} (o3 o11 : Option W), Good b d → b + 400 * xs.length < 1000000 → ts.length + xs.length ≤ 20 → (∀ t ∈ ts, TsOk (nms.take (3 + m)) t) →
    ∃ (ts' : List Ts) (d' : DS) (o3' o11' : Option W), forL (C 89) (.nm 3) tsB xs [o0, some (.loc 1), some (.loc 2), o3, some (.int (m : Nat)), o5, some (.loc 3), o7, o8, some (.int c), some (.loc 4), o11, o12, o13, o14, o15] (st d ++ [some (.lst (nms.map .str)), some (.dic kvs), some (.lst (ts.map Ts.w))]) =
      .ok (.nx [o0, some (.loc 1), some (.loc 2), o3', some (.int (m : Nat)), o5, some (.loc 3), o7, o8, some (.int c), some (.loc 4), o11', o12, o13, o14, o15]) (st d' ++ [some (.lst (nms.map .str)), some (.dic kvs), some (.lst (ts'.map Ts.w))]) ∧ (∀ t ∈ ts', TsOk (nms.take (3 + m)) t) ∧ ts'.length = ts.length + xs.length ∧ Good (b + 400 * xs.length) d' := by
  intro xs
  induction xs with
  | nil => intro ts d b o3 o11 g hb hl ht; exact ⟨ts, d, o3, o11, rfl, ht, by simp, g.le (by simp)⟩
  | cons x xs ih =>
    intro ts d b o3 o11 g hb hl ht
    simp only [List.length_cons] at hb hl
    push_cast at hb
    obtain ⟨t, d1, p11, e1, ht1, g1⟩ := ts_turn h6 (kvs := kvs) hm (c := c) o0 (some x) o5 o7 o8 o11 o12 o13 o14 o15 (ts := ts) (by omega) g (by omega)
    obtain ⟨ts', d', q3, q11, e2, ht2, hl2, g2⟩ := ih (ts ++ [t]) (some x) p11 g1 (by omega) (by simp; omega) (fun q hq => by
      rcases List.mem_append.mp hq with hq | hq
      · exact ht q hq
      · rw [List.mem_singleton.mp hq]; exact ht1)
    refine ⟨ts', d', q3, q11, ?_, ht2, by rw [hl2]; simp; omega, g2.le (by simp only [List.length_cons]; push_cast; omega)⟩
    rw [forL_cons]
    have : kTgB (C 89) tsB (tgW (.nm 3) x [o0, some (.loc 1), some (.loc 2), o3, some (.int (m : Nat)), o5, some (.loc 3), o7, o8, some (.int c), some (.loc 4), o11, o12, o13, o14, o15]) (st d ++ [some (.lst (nms.map .str)), some (.dic kvs), some (.lst (ts.map Ts.w))]) = _ := e1
    rw [this]
    exact e2
def lP1 : List Sm := [.asg (.nm 2) (.lst false []), .for (.nm 3) (.rng1 (.cint 6)) lnB, .asg (.nm 4) (.bin true .Add (.cint 1) (.call "_law_draw" [(.var 1), (.cint 3)])), .asg (.nm 5) (.sl true (.var 2) (some (.cint 3)) (some (.bin true .Add (.cint 3) (.var 4)))), .asg (.nm 6) .dnew, .for (.nm 7) (.seq (.sl true (.var 2) none (some (.cint 3)))) fA, .for (.nm 7) (.seq (.var 5)) fB, .asg (.nm 8) (.lc true [7] (.nm 7) (.seq (.var 5)) [] rgX)]
def lP2 : List Sm := [.asg (.nm 9) (.call "_law_draw" [(.var 1), (.cint 5)]), .asg (.nm 10) (.lst false []), .for (.nm 3) (.rng1 (.var 9)) tsB]
def lP3 : List Sm := [.asg (.nm 13) (.call "_law_joined" [(.var 8)]), .ife (.cmp .NotEq (.var 10) (.lst true [])) [.asg (.nm 13) (.tup [(.cstr "such"), (.var 13), (.call "_law_joined" [(.var 10)])])] [], .asg (.nm 14) (.bi .dictOf [(.var 6)]), .asg (.nm 15) (.tup [(.cstr "open")]), .tryA 15 (.tup [(.cstr "told"), (.call "resolved" [(.var 13), (.var 14)])]) "Open" (.tup [(.cstr "open")]), .ret (.and [(.cmp .Eq (.var 15) (.call "_law_due" [(.var 8), (.var 10), (.var 5), (.var 6)])), (.cmp .Eq (.var 14) (.var 6)), (.cmp .Eq (.glo "FIGURES") (.cint 60))])]
theorem b_law_split : b_law = .asg (.nm 1) (.lst false [(.bi (.listOf false) [(.var 0)]), (.cint 0), (.cint 0), (.cint 0)]) :: (lP1 ++ (lP2 ++ lP3)) := rfl
theorem kD1x {C : Cn} {ρ : Rho} {es : List E} {x : Xc} {S : Store} : kDens1 C es ρ (.ex x S) = .ex x S := rfl
theorem kD2x {w : W} {x : Xc} {S : Store} : kDens2 w (.ex x S) = .ex x S := rfl
theorem kTpx {x : Xc} {S : Store} : kTup (.ex x S) = .ex x S := rfl
theorem due_pure {names : List Str} {kvs : Dc} {rs : List Rg} {ts : List Ts} (h : ∀ t ∈ ts, t.a.dp ≤ 20 ∧ t.b.dp ≤ 20) : 0 < (dueLW (dueR names kvs rs ts)).pure ∧ (dueLW (dueR names kvs rs ts)).pure ≤ 61 := by
  have hst : ∀ e, 0 < (stopW e).pure ∧ (stopW e).pure ≤ 61 := fun e => by cases e <;> simp [stopW, W.pure, W.pures]
  unfold dueR
  cases hq : boxU kvs rs with
  | error e => exact hst e
  | ok q =>
    cases hq2 : treesL names kvs ts with
    | none => simp only [hq2]; exact hst false
    | some q2 =>
      simp only [hq2, dueLW]
      have h1 := dueW_pure (q := q) (trees_pure h hq2).1
      have := tup_pure (m := 50) (ps := [.str "told", dueW (q, q2)]) (fun p hp => by
        simp only [List.mem_cons, List.not_mem_nil, or_false] at hp
        rcases hp with rfl | rfl
        · simp [W.pure]
        · omega)
      omega
theorem lP3_run {nms : List Str} {kvs : Dc} (hf : FX kvs) {rs : List Rg} {ts : List Ts} {ranged : List Str} (hrn : rs.map Rg.nm = ranged) (hnd : ranged.Nodup) (hr : ∀ r ∈ rs, ROk kvs r) (hn : rs ≠ []) (hl : rs.length ≤ 3) (ht : ∀ t ∈ ts, TOk ranged kvs t) (htl : ts.length ≤ 9) (d : DS) (o0 o3 o4 o7 o9 o11 o12 : Option W) :
    ∃ S, exes (C 89) lP3 [o0, some (.loc 1), some (.loc 2), o3, o4, some (.lst (ranged.map .str)), some (.loc 3), o7, some (.lst (rs.map Rg.w)), o9, some (.loc 4), o11, o12, none, none, none] (st d ++ [some (.lst (nms.map .str)), some (.dic kvs), some (.lst (ts.map Ts.w))]) = .ok (.rt (.bl true)) S := by
  obtain ⟨S0, hS0⟩ : ∃ S, S = st d ++ [some (.lst (nms.map .str)), some (.dic kvs), some (.lst (ts.map Ts.w))] := ⟨_, rfl⟩
  have h3 : S0[3]? = some (some (.dic kvs)) := by rw [hS0]; rfl
  have h4 : S0[4]? = some (some (.lst (ts.map Ts.w))) := by rw [hS0]; rfl
  have hln : S0.length = 5 := by rw [hS0]; rfl
  have tdp : ∀ t ∈ ts, t.a.dp ≤ 20 ∧ t.b.dp ≤ 20 := fun t h => ⟨(ht t h).da, (ht t h).db⟩
  have e1 := f_joined (S := S0) (x := .lst (rs.map Rg.w)) (ws := rs.map Rg.w) rfl (by simpa using hn) (by simp; omega) 88
  have heq := eq_tests (S := S0) (l := 4) tdp h4
  obtain ⟨S1, hS1⟩ : ∃ S, S = S0 ++ [some (Ob.dic kvs)] := ⟨_, rfl⟩
  have hg5 : S1[5]? = some (some (.dic kvs)) := by rw [hS1, ← hln]; simp
  have hg3 : S1[3]? = some (some (.dic kvs)) := by rw [hS1, List.getElem?_append_left (by omega)]; exact h3
  have hg4 : S1[4]? = some (some (.lst (ts.map Ts.w))) := by rw [hS1, List.getElem?_append_left (by omega)]; exact h4
  have hbel : belowS S1.length S1 = true := by
    have hl1 : S1.length = 6 := by rw [hS1]; simp [hln]
    have hbd : (Ob.dic kvs).bel 6 = true := by
      simp only [Ob.bel, List.all_eq_true]
      exact fun p hp => bel_pure _ _ (hf.pl p hp).pure.1
    have hbn : W.bels 6 (nms.map .str) = true := bels_of fun w hw => by
      obtain ⟨x, _, rfl⟩ := List.mem_map.mp hw; rfl
    have hbt : W.bels 6 (ts.map Ts.w) = true := bels_of fun w hw => by
      obtain ⟨t, h, rfl⟩ := List.mem_map.mp hw
      exact (ts_el (ht t h).s).bel _
    have hbs : W.bels 6 (d.xs.map .int) = true := bels_of fun w hw => by
      obtain ⟨x, _, rfl⟩ := List.mem_map.mp hw; rfl
    rw [hl1, hS1, hS0]
    simp only [st, List.cons_append, List.nil_append, belowS, hbd, Bool.and_true, Bool.true_and]
    simp [Ob.bel, hbn, hbt, hbs, W.bels, W.bel]
  have e2 := f_resolved hf.fil hg5 hbel (ts := ts) hr hn hl (by rw [hrn]; exact hnd) (by rw [hrn]; exact ht) htl (k := 88) (by omega)
  have e3 := f_due hf.fil hg3 hbel (ts := ts) hr hn hl (by rw [hrn]; exact ht) htl hg4 (k := 88) (by omega)
  rw [hrn] at e2 e3
  have e4 := eqW_dd (S := S1) hf hg5 hg3
  obtain ⟨hp1, hp2⟩ := due_pure (names := ranged) (kvs := kvs) (rs := rs) tdp
  have e5 := eqW_self (S := S1) hp1 hp2
  have hgf : gc.g.gl "FIGURES" = some (.int 60) := g_FIGURES
  obtain ⟨dw, hdw⟩ : ∃ w, w = dueLW (dueR ranged kvs rs ts) := ⟨_, rfl⟩
  have hdl : S0.length = 5 := hln
  have hdo : dicW S0 (.loc 3) = some kvs := by simp [h3]
  -- the goal's term
  obtain ⟨gw, hgw⟩ : ∃ w, w = goalW rs ts := ⟨_, rfl⟩
  have hgoal : exes (C 89) [.asg (.nm 13) (.call "_law_joined" [(.var 8)]), .ife (.cmp .NotEq (.var 10) (.lst true [])) [.asg (.nm 13) (.tup [(.cstr "such"), (.var 13), (.call "_law_joined" [(.var 10)])])] [], .asg (.nm 14) (.bi .dictOf [(.var 6)]), .asg (.nm 15) (.tup [(.cstr "open")])] [o0, some (.loc 1), some (.loc 2), o3, o4, some (.lst (ranged.map .str)), some (.loc 3), o7, some (.lst (rs.map Rg.w)), o9, some (.loc 4), o11, o12, none, none, none] S0 =
      .ok (.nx [o0, some (.loc 1), some (.loc 2), o3, o4, some (.lst (ranged.map .str)), some (.loc 3), o7, some (.lst (rs.map Rg.w)), o9, some (.loc 4), o11, o12, some gw, some (.loc 5), some (.tup [.str "open"])]) S1 := by
    have e1 : F 89 "_law_joined" [.lst (rs.map Rg.w)] S0 = .ok (andW (rs.map Rg.w)) S0 := e1
    obtain ⟨rw', hrw⟩ : ∃ w, w = rs.map Rg.w := ⟨_, rfl⟩
    obtain ⟨nw, hnw⟩ : ∃ w, w = ranged.map W.str := ⟨_, rfl⟩
    rw [← hrw] at e1 ⊢
    rw [← hnw]
    by_cases htn : ts = []
    · have hg : gw = andW rw' := by rw [hgw, hrw]; exact if_pos htn
      rw [decide_eq_true htn] at heq
      rw [← hg] at e1
      simp [e1, heq, hdo, hdl, hS1]
    · have e1' := f_joined (S := S0) (x := .loc 4) (ws := ts.map Ts.w) (by simp [lstW, h4]) (by simpa using htn) (by simp; omega) 88
      have e1' : F 89 "_law_joined" [.loc 4] S0 = .ok (andW (ts.map Ts.w)) S0 := e1'
      have hg : gw = .tup [.str "such", andW rw', andW (ts.map Ts.w)] := by rw [hgw, hrw]; exact if_neg htn
      rw [decide_eq_false htn] at heq
      obtain ⟨aw, haw⟩ : ∃ w, w = andW rw' := ⟨_, rfl⟩
      obtain ⟨bw, hbw⟩ : ∃ w, w = andW (ts.map Ts.w) := ⟨_, rfl⟩
      rw [← haw] at e1 hg
      rw [← hbw] at e1' hg
      rw [hg]
      simp [e1, heq, e1', hdo, hdl, hS1]
  have hsp : lP3 = [.asg (.nm 13) (.call "_law_joined" [(.var 8)]), .ife (.cmp .NotEq (.var 10) (.lst true [])) [.asg (.nm 13) (.tup [(.cstr "such"), (.var 13), (.call "_law_joined" [(.var 10)])])] [], .asg (.nm 14) (.bi .dictOf [(.var 6)]), .asg (.nm 15) (.tup [(.cstr "open")])] ++ [.tryA 15 (.tup [(.cstr "told"), (.call "resolved" [(.var 13), (.var 14)])]) "Open" (.tup [(.cstr "open")]), .ret (.and [(.cmp .Eq (.var 15) (.call "_law_due" [(.var 8), (.var 10), (.var 5), (.var 6)])), (.cmp .Eq (.var 14) (.var 6)), (.cmp .Eq (.glo "FIGURES") (.cint 60))])] := rfl
  rw [← hS0, hsp, exes_app hgoal]
  rw [← hdw] at e3 e5
  rw [← hgw] at e2
  have htry : exe (C 89) (.tryA 15 (.tup [(.cstr "told"), (.call "resolved" [(.var 13), (.var 14)])]) "Open" (.tup [(.cstr "open")])) [o0, some (.loc 1), some (.loc 2), o3, o4, some (.lst (ranged.map .str)), some (.loc 3), o7, some (.lst (rs.map Rg.w)), o9, some (.loc 4), o11, o12, some gw, some (.loc 5), some (.tup [.str "open"])] S1 =
      .ok (.nx [o0, some (.loc 1), some (.loc 2), o3, o4, some (.lst (ranged.map .str)), some (.loc 3), o7, some (.lst (rs.map Rg.w)), o9, some (.loc 4), o11, o12, some gw, some (.loc 5), some dw]) S1 := by
    obtain ⟨rw', hrw⟩ : ∃ w, w = rs.map Rg.w := ⟨_, rfl⟩
    obtain ⟨nw, hnw⟩ : ∃ w, w = ranged.map W.str := ⟨_, rfl⟩
    rw [← hrw, ← hnw]
    cases hdu : dueR ranged kvs rs ts with
    | error e =>
      rw [hdu] at hdw e2
      cases e with
      | true =>
        have e2 : F 89 "resolved" [gw, .loc 5] S1 = .ex ⟨"Open", []⟩ S1 := e2
        have hs : (C 89).gl.sub "Open" "Open" = some true := x_Open_Open
        have hk := fun (ρ : Rho) => kTryA_ex (C := C 89) (ρ := ρ) (i := 15) (c := "Open") (r := .tup [(.cstr "open")]) (x := ⟨"Open", []⟩) (w := .tup [.str "open"]) (S := S1) hs rfl
        have hd : dw = .tup [.str "open"] := hdw
        rw [hd]
        simp [e2, kD1x, kD2x, kTpx, hk]
      | false =>
        have e2 : F 89 "resolved" [gw, .loc 5] S1 = .ok .non S1 := e2
        have hd : dw = .tup [.str "told", .non] := hdw
        rw [hd]
        simp [e2]
    | ok p =>
      rw [hdu] at hdw e2
      have e2 : F 89 "resolved" [gw, .loc 5] S1 = .ok (dueW p) S1 := e2
      have hd : dw = .tup [.str "told", dueW p] := hdw
      rw [hd]
      obtain ⟨pw', hpw⟩ : ∃ w, w = dueW p := ⟨_, rfl⟩
      rw [← hpw] at e2 ⊢
      simp [e2]
  refine ⟨S1, ?_⟩
  rw [exes_cons, htry, kS_nx]
  have e3 : F 89 "_law_due" [.lst (rs.map Rg.w), .loc 4, .lst (ranged.map .str), .loc 3] S1 = .ok dw S1 := e3
  obtain ⟨rw', hrw⟩ : ∃ w, w = rs.map Rg.w := ⟨_, rfl⟩
  obtain ⟨nw, hnw⟩ : ∃ w, w = ranged.map W.str := ⟨_, rfl⟩
  rw [← hrw, ← hnw] at e3 ⊢
  simp [e3, e5, e4, hgf]
end K39
end

section
set_option linter.all false
set_option maxRecDepth 100000
namespace K39
open PySem Gs
theorem lP1_run (o0 : Option W) {d : DS} (g : Good 0 d) : ∃ (nms : List Str) (kvs : Dc) (m : Nat) (rs : List Rg) (d' : DS) (o3 o7 : Option W),
    exes (C 89) lP1 [o0, some (.loc 1), none, none, none, none, none, none, none, none, none, none, none, none, none, none] (st d) =
      .ok (.nx [o0, some (.loc 1), some (.loc 2), o3, some (.int (m : Nat)), some (.lst (((nms.drop 3).take m).map .str)), some (.loc 3), o7, some (.lst (rs.map Rg.w)), none, none, none, none, none, none, none]) (st d' ++ [some (.lst (nms.map .str)), some (.dic kvs)]) ∧
    NmL nms ∧ nms.length = 6 ∧ 1 ≤ m ∧ m ≤ 3 ∧ FX kvs ∧ (∀ x ∈ nms.take 3, ∃ v, dget (.inr x) kvs = some v) ∧ rs.map Rg.nm = (nms.drop 3).take m ∧ (∀ r ∈ rs, EndOk (nms.take 3) r.lo ∧ EndOk (nms.take 3) r.hi) ∧ Good 10000 d' := by
  obtain ⟨nms, d1, o3, e1, hN, h6, g1⟩ := names_run g (by omega) o0 [none, none, none, none, none, none, none, none, none, none, none, none]
  obtain ⟨q, d2, e2, q0, q1, g2⟩ := f_draw (n := 88) [some (.lst (nms.map .str))] 3 g1 (by omega) (by omega) (by omega)
  obtain ⟨m, hm⟩ : ∃ m : Nat, 1 + q = (m : Nat) := ⟨(1 + q).toNat, by omega⟩
  have hm1 : 1 ≤ m := by omega
  have hm3 : m ≤ 3 := by omega
  obtain ⟨k1, d3, o7, e3, f1, l1, hx1, _, g3⟩ := fA_run (nms.map .str) o0 (some (.loc 2)) o3 (some (.int (m : Nat))) (some (.lst (((nms.drop 3).take m).map .str))) [none, none, none, none, none, none, none, none] (nms.take 3) (d := d2) g2 (by simp [h6]) (kvs := []) ⟨by simp, by simp, by simp⟩ (by simp [h6]) none
  have hl3 : (nms.take 3).length = 3 := by simp [h6]
  have hlm : ((nms.drop 3).take m).length = m := by simp [h6]; omega
  rw [hl3] at l1 g3
  simp only [List.length_nil, Nat.zero_add] at l1
  obtain ⟨k2, d4, o7', e4, f2, l2, m2, g4⟩ := fB_run (nms.map .str) o0 (some (.loc 2)) o3 (some (.int (m : Nat))) (some (.lst (((nms.drop 3).take m).map .str))) [none, none, none, none, none, none, none, none] ((nms.drop 3).take m) (d := d3) g3 (by rw [hlm]; omega) f1 (by rw [hlm]; omega) o7
  rw [hlm] at g4
  obtain ⟨rs, d5, e5, hrs, ho, g5⟩ := lc_rg h6 (kvs := k2) (m := (m : Nat)) o0 o3 (some (.lst (((nms.drop 3).take m).map .str))) o7' none none none none none none none none ((nms.drop 3).take m) [] (d := d4) g4 (by rw [hlm]; omega) (by rw [hlm]; simp; omega)
  rw [hlm] at g5
  refine ⟨nms, k2, m, rs, d5, o3, o7', ?_, hN, h6, hm1, hm3, f2, fun x hx => m2 x (hx1 x hx), hrs, ho, g5.le (by omega)⟩
  have e2 : F 89 "_law_draw" [.loc 1, .int 3] (st d1 ++ [some (.lst (nms.map .str))]) = .ok (.int q) (st d2 ++ [some (.lst (nms.map .str))]) := e2
  have hs1 : sliceW true (.loc 2) (some 3) (some (3 + (m : Int))) (st d2 ++ [some (Ob.lst (nms.map .str))]) = .ok (.lst (((nms.drop 3).take m).map .str)) (st d2 ++ [some (Ob.lst (nms.map .str))]) := by
    have hsl := sl_loc (S := st d2 ++ [some (Ob.lst (nms.map .str))]) (l := 2) (xs := nms.map .str) rfl (some ((3 : Nat) : Int)) (some (((3 + m : Nat)) : Int)) (by rw [cut_mid _ _ _ (by simp [h6]; omega)]; simp; omega)
    rw [cut_mid _ _ _ (by simp [h6]; omega), ← List.map_drop, ← List.map_take] at hsl
    have hc : (((3 + m : Nat)) : Int) = 3 + (m : Int) := by push_cast; rfl
    rw [hc] at hsl
    exact hsl
  have hs2 : sliceW true (.loc 2) none (some 3) (st d2 ++ [some (Ob.lst (nms.map .str)), some (.dic [])]) = .ok (.lst ((nms.take 3).map .str)) (st d2 ++ [some (Ob.lst (nms.map .str)), some (.dic [])]) := by
    have hsl := sl_loc (S := st d2 ++ [some (Ob.lst (nms.map .str)), some (.dic [])]) (l := 2) (xs := nms.map .str) rfl none (some ((3 : Nat) : Int)) (by rw [cut_to _ _ (by simp [h6])]; simp; omega)
    rw [cut_to _ _ (by simp [h6]), ← List.map_take] at hsl
    exact hsl
  have s6 : small62 6 := by decide
  have k3 := fun S => kRng_ok (S := S) s6
  have hl0 : (st d).length = 2 := rfl
  have hl2 : (st d2 ++ [some (Ob.lst (nms.map W.str))]).length = 3 := rfl
  have nr : ∀ S, newL true (rs.map Rg.w) S = .ok (.lst (rs.map Rg.w)) S := fun S => newL_t (by
    have := congrArg List.length hrs
    simp only [List.length_map, hlm] at this
    simp; omega)
  have ha2 : st d2 ++ [some (Ob.lst (nms.map W.str)), some (.dic [])] = (st d2 ++ [some (Ob.lst (nms.map W.str))]) ++ [some (.dic [])] := by simp
  rw [List.nil_append] at e5
  have hfA : ∀ xs : List Str, frozenW (.lst (xs.map .str)) = some (xs.map .str) := fun _ => rfl
  have hf1 := hfA (nms.take 3)
  have hf2 := hfA ((nms.drop 3).take m)
  have dn : ∀ (ρ : Rho) (S : Store), den (C 89) .dnew ρ S = .ok (.loc S.length) (S ++ [some (.dic [])]) := fun ρ S => rfl
  obtain ⟨mz, hmz⟩ : ∃ z : Int, z = (m : Nat) := ⟨_, rfl⟩
  have hmz' : (m : Int) = mz := hmz.symm
  rw [hmz'] at hm hs1 e3 e4 e5 ⊢
  obtain ⟨w3, hw3⟩ : ∃ w, w = (nms.take 3).map W.str := ⟨_, rfl⟩
  obtain ⟨wm, hwm⟩ : ∃ w, w = ((nms.drop 3).take m).map W.str := ⟨_, rfl⟩
  obtain ⟨wr, hwr⟩ : ∃ w, w = rs.map Rg.w := ⟨_, rfl⟩
  rw [← hw3] at e3 hs2 hf1
  rw [← hwm] at e3 e4 e5 hs1 hf2 ⊢
  rw [← hwr] at e5 nr ⊢
  obtain ⟨T1, hT1⟩ : ∃ S, S = st d1 ++ [some (Ob.lst (nms.map W.str))] := ⟨_, rfl⟩
  obtain ⟨T2, hT2⟩ : ∃ S, S = st d2 ++ [some (Ob.lst (nms.map W.str))] := ⟨_, rfl⟩
  rw [ha2, ← hT2] at hs2 e3
  rw [← hT1] at e1
  rw [← hT1, ← hT2] at e2
  rw [← hT2] at hs1 hl2
  obtain ⟨T3, hT3⟩ : ∃ S, S = T2 ++ [some (Ob.dic [])] := ⟨_, rfl⟩
  rw [← hT3] at hs2 e3
  obtain ⟨T4, hT4⟩ : ∃ S, S = st d3 ++ [some (Ob.lst (nms.map W.str)), some (.dic k1)] := ⟨_, rfl⟩
  rw [← hT4] at e3 e4
  obtain ⟨T5, hT5⟩ : ∃ S, S = st d4 ++ [some (Ob.lst (nms.map W.str)), some (.dic k2)] := ⟨_, rfl⟩
  rw [← hT5] at e4 e5
  obtain ⟨T6, hT6⟩ : ∃ S, S = st d5 ++ [some (Ob.lst (nms.map W.str)), some (.dic k2)] := ⟨_, rfl⟩
  rw [← hT6] at e5 ⊢
  simp [lP1, hl0, k3, e1, e2, hm, hs1, dn, hl2, ← hT3, hs2, hf1, e3, hf2, e4, e5, nr]
theorem main : ∀ ns : List Int, ns.length ≤ 63 → ∃ S, fnN gc.g fuel ds lv "law" [.scr ns] [] = .ok (.bl true) S := by
  intro ns hns
  refine ⟨[], ?_⟩
  show F (89 + 1) _ _ _ = _
  rw [F_run d_law rfl rfl]
  have hρ : (List.map some [W.scr ns] ++ List.replicate (d_law.ns - d_law.np) none) = some (W.scr ns) :: none :: List.replicate 14 none := rfl
  have hbd : d_law.body = b_law := rfl
  rw [hρ, hbd, b_law_split, exes_one (stream_made hns 14)]
  simp only [List.replicate]
  obtain ⟨nms, kvs, m, rs, d1, o3, o7, e1, hN, h6, hm1, hm3, hf, hx3, hrs, ho, g1⟩ := lP1_run (some (.scr ns)) (good0 ns)
  rw [exes_app e1]
  obtain ⟨c, d2, e2, c0, c1, g2⟩ := f_draw (n := 88) [some (.lst (nms.map .str)), some (.dic kvs)] 5 g1 (by omega) (by omega) (by omega)
  have hlr : (rangeW 0 c).length ≤ 4 := by simp; omega
  obtain ⟨ts, d3, o3', o11, e3, hts, hlt, g3⟩ := ts_run h6 (kvs := kvs) hm3 (c := c) (some (.scr ns)) (some (.lst (((nms.drop 3).take m).map .str))) o7 (some (.lst (rs.map Rg.w))) none none none none (rangeW 0 c) [] (d := d2) o3 none g2 (by omega) (by simp; omega) (by simp)
  have hP2 : exes (C 89) lP2 [some (.scr ns), some (.loc 1), some (.loc 2), o3, some (.int (m : Nat)), some (.lst (((nms.drop 3).take m).map .str)), some (.loc 3), o7, some (.lst (rs.map Rg.w)), none, none, none, none, none, none, none] (st d1 ++ [some (.lst (nms.map .str)), some (.dic kvs)]) =
      .ok (.nx [some (.scr ns), some (.loc 1), some (.loc 2), o3', some (.int (m : Nat)), some (.lst (((nms.drop 3).take m).map .str)), some (.loc 3), o7, some (.lst (rs.map Rg.w)), some (.int c), some (.loc 4), o11, none, none, none, none]) (st d3 ++ [some (.lst (nms.map .str)), some (.dic kvs), some (.lst (ts.map Ts.w))]) := by
    have e2 : F 89 "_law_draw" [.loc 1, .int 5] _ = _ := e2
    have sc : small62 c := ⟨by omega, by omega⟩
    have k3 := fun S => kRng_ok (S := S) sc
    have hl2 : (st d2 ++ [some (Ob.lst (nms.map W.str)), some (.dic kvs)]).length = 4 := rfl
    have ha2 : st d2 ++ [some (Ob.lst (nms.map W.str)), some (.dic kvs), some (.lst (([] : List Ts).map Ts.w))] = (st d2 ++ [some (Ob.lst (nms.map W.str)), some (.dic kvs)]) ++ [some (.lst [])] := by simp
    rw [ha2] at e3
    obtain ⟨mz, hmz⟩ : ∃ z : Int, z = (m : Nat) := ⟨_, rfl⟩
    have hmz' : (m : Int) = mz := hmz.symm
    rw [hmz'] at e3 ⊢
    obtain ⟨wm, hwm⟩ : ∃ w, w = ((nms.drop 3).take m).map W.str := ⟨_, rfl⟩
    obtain ⟨wr, hwr⟩ : ∃ w, w = rs.map Rg.w := ⟨_, rfl⟩
    rw [← hwm, ← hwr] at e3 ⊢
    obtain ⟨rg, hrg⟩ : ∃ w, w = rangeW 0 c := ⟨_, rfl⟩
    rw [← hrg] at k3 e3
    obtain ⟨T1, hT1⟩ : ∃ S, S = st d1 ++ [some (Ob.lst (nms.map W.str)), some (.dic kvs)] := ⟨_, rfl⟩
    obtain ⟨T2, hT2⟩ : ∃ S, S = st d2 ++ [some (Ob.lst (nms.map W.str)), some (.dic kvs)] := ⟨_, rfl⟩
    rw [← hT1, ← hT2] at e2
    rw [← hT2] at e3 hl2
    rw [← hT1]
    obtain ⟨T3, hT3⟩ : ∃ S, S = st d3 ++ [some (Ob.lst (nms.map W.str)), some (.dic kvs), some (.lst (ts.map Ts.w))] := ⟨_, rfl⟩
    rw [← hT3] at e3 ⊢
    simp [lP2, e2, hl2, k3, e3]
  rw [exes_app hP2]
  have hup : ∀ x ∈ nms.take 3, Has kvs x := fun x hx => ⟨hN.up x (List.mem_of_mem_take hx), hx3 x hx⟩
  have hat : ∀ x ∈ nms.take (3 + m), Hat ((nms.drop 3).take m) kvs x := fun x hx => by
    refine ⟨hN.up x (List.mem_of_mem_take hx), ?_⟩
    have hsp : nms.take (3 + m) = nms.take 3 ++ (nms.drop 3).take m := List.take_add
    rw [hsp] at hx
    rcases List.mem_append.mp hx with hx | hx
    · exact .inr (hx3 x hx)
    · exact .inl hx
  have hrl : rs.length = m := by
    have := congrArg List.length hrs
    simp only [List.length_map] at this
    rw [this]
    simp [h6]; omega
  obtain ⟨S, e4⟩ := lP3_run (nms := nms) hf (rs := rs) (ts := ts) hrs (((List.take_sublist _ _).trans (List.drop_sublist _ _)).nodup hN.nd) (fun r hr => ⟨(ho r hr).1.1.imp hup, (ho r hr).2.1.imp hup, (ho r hr).1.2, (ho r hr).2.2⟩) (by rintro rfl; simp at hrl; omega) (by omega)
    (fun t ht => ⟨(hts t ht).a.imp hat, (hts t ht).b.imp hat, by have := (hts t ht).da; omega, by have := (hts t ht).db; omega, (hts t ht).s⟩) (by rw [hlt]; simp; omega) d3 (some (.scr ns)) o3' (some (.int (m : Nat))) o7 (some (.int c)) o11 none
  rw [e4]
  exact leave_zero
end K39
end

section
open PySem PySem.W PySem.Calls PyProof.Rows
set_option maxRecDepth 100000 in
set_option maxHeartbeats 0 in
theorem PySem.Challenge.cw_goalstead_k39_resolved_holds : PySem.Challenge.rw_goalstead_k39_resolved.Holds := by
  w_on; o_law
  refine HandSHeadRun.head_any (r := OpenLaw.row PySem.Challenge.rw_goalstead_k39_resolved) (q := view (OpenLaw.row PySem.Challenge.rw_goalstead_k39_resolved).prog [31]) (H := K39.hk) (ob := K39.ob) (M := 20000) (loose := K39.loose) (d := HandSHeadRun.topDef (OpenLaw.row PySem.Challenge.rw_goalstead_k39_resolved).prog 31) (kwd := []) K39.ob_eq
    (by kernel_rfl) (fun s => by kernel_rfl) K39.run (by kernel_rfl) (by kernel_rfl) (by kernel_rfl) (by rfl) (by first | assumption | decide +kernel) (by decide +kernel) ⟨rfl, rfl, rfl, rfl, rfl, by decide +kernel⟩ ?hw ?hc
  case hw => w_witness2
  case hc =>
    refine Gs.walk_ofW (l := PySem.Challenge.rw_goalstead_k39_resolved) (n := 63) (k := 2 * K39.lv) (x := "_law_script") rfl (by decide) (by kernel_rfl) ⟨rfl, by decide, by decide⟩ ?F
    intro w mg fa h Y G hmg0
    obtain ⟨K, KX, c⟩ := Y
    have hmg : mg ("law" : PySem.Str) = some (.ref fa) := by
      have e : (HandSHeadRun.topDef (OpenLaw.row PySem.Challenge.rw_goalstead_k39_resolved).prog 31).name = ("law" : PySem.Str) := by kernel_rfl
      rw [← e]
      exact hmg0
    obtain ⟨fd, sp, h1, h2, h3⟩ := Gs.law_of (P := (PySem.Challenge.rw_goalstead_k39_resolved).prog) (w := w) K39.srcs K39.xis K39.fr K39.gc K39.fuel K39.lv K39.s_law "_law_script" (by simp [K39.srcs]) rfl rfl K39.nd_ok K39.src_ok K39.bos K39.xis_eq K39.xis_ok K39.xbos KX G hmg c (n := 63) K39.main
    exact ⟨K, fd, sp, KX, h1, h2, h3⟩
end
