import PyProof.Rows.All
import Wide.All
import OpenK.AllK
import Wide.FinOn
import HandS.ForMost
import HandS.Exc
import HandS.ExcOwn
import HandS.Zip
import HandS.TupAny
import HandS.TupMul
import HandS.IsInst
import HandS.Conv
import HandS.Deep
import HandS.Style
import HandS.SortRule
import HandS.SortInts
import KE.SortData
import KE.DataMinMax
import KE.DataFind
import KE.KTupSum
import KE.GoesEnum
import KE.GoesMore
import HandS.Sort
import HandS.ExcIs
import HandS.HotCalls
import HandS.WordsExc
import HandS.Words
import PySem.Challenge.RW_lamprows_k81_reels
set_option Elab.async false
set_option linter.all false
section
/-! EvA: plain data, and a small evaluator over them. -/
namespace Ev
open PySem

/-- plain data -/
inductive D where
  | non | bl (b : Bool) | int (i : Int) | str (s : Str) | lst (l : List D) | tup (l : List D) | scr (l : List Int) | obj (n : Nat) | exc (c : Str) | fn (f : Str)
  deriving Inhabited

/-- an object: its class, its attributes -/
structure Ob where
  cls : Str
  fs : List (Str × D)
abbrev Sto := List Ob

inductive R (α : Type) where
  | ok (a : α) (S : Sto) | ex (c : Str) (S : Sto) | er
abbrev M (α : Type) := Sto → R α
def M.pure {α : Type} (a : α) : M α := fun S => .ok a S
def M.bind {α β : Type} (m : M α) (f : α → M β) : M β := fun S => match m S with
  | .ok a S' => f a S'
  | .ex c S' => .ex c S'
  | .er => .er
def M.er {α : Type} : M α := fun _ => .er
def M.lift {α : Type} : Option α → M α
  | some a => M.pure a
  | none => M.er
/-- no exception comes out -/
def M.calm {α : Type} (m : M α) : M α := fun S => match m S with
  | .ok a S' => .ok a S'
  | _ => .er

def line : Nat := 16777216

/-! ### equality, order -/
def eqI (i : Int) : D → Bool
  | .bl b => i == (if b then 1 else 0)
  | .int j => i == j
  | _ => false
def eqvS : List Int → List D → Bool
  | [], [] => true
  | i :: xs, y :: ys => eqI i y && eqvS xs ys
  | _, _ => false
mutual
def eqv : D → D → Bool
  | .non, .non => true
  | .bl a, .bl b => a == b
  | .bl a, .int j => (if a then 1 else 0) == j
  | .int i, .bl b => i == (if b then 1 else 0)
  | .int i, .int j => i == j
  | .str x, .str y => x == y
  | .lst xs, .lst ys => eqvL xs ys
  | .tup xs, .tup ys => eqvL xs ys
  | _, _ => false
def eqvL : List D → List D → Bool
  | [], [] => true
  | x :: xs, y :: ys => eqv x y && eqvL xs ys
  | _, _ => false
end
/-- may be compared: no object within, not too deep -/
def okD : Nat → D → Bool
  | 0, _ => false
  | _ + 1, .non => true
  | _ + 1, .bl _ => true
  | _ + 1, .int _ => true
  | _ + 1, .str x => x.cps.all (· < 0x110000)
  | n + 1, .lst l => l.all (okD n)
  | n + 1, .tup l => l.all (okD n)
  | _ + 1, .scr _ => false
  | _ + 1, .obj _ => false
  | _ + 1, .exc _ => false
  | _ + 1, .fn _ => false
def eqD : D → D → Option Bool
  | .scr l, .lst m => if m.all (okD 49) then some (eqvS l m) else none
  | a, b => if okD 50 a && okD 50 b then some (eqv a b) else none

/-- the order of texts, ints, and of tuples and lists of such, where it is known -/
def ltCps : List Nat → List Nat → Bool
  | [], [] => false
  | [], _ :: _ => true
  | _ :: _, [] => false
  | a :: s, b :: t => if a = b then ltCps s t else decide (a < b)
mutual
def ltv : D → D → Bool
  | .int i, .int j => decide (i < j)
  | .str x, .str y => ltCps x.cps.toList y.cps.toList
  | .lst xs, .lst ys => ltvL xs ys
  | .tup xs, .tup ys => ltvL xs ys
  | _, _ => false
def ltvL : List D → List D → Bool
  | [], [] => false
  | [], _ :: _ => true
  | _ :: _, [] => false
  | x :: xs, y :: ys => if eqv x y then ltvL xs ys else ltv x y
end

mutual
/-- may be put in order, one against the other -/
def alk : D → D → Bool
  | .int _, .int _ => true
  | .str _, .str _ => true
  | .lst xs, .lst ys => alkL xs ys
  | .tup xs, .tup ys => alkL xs ys
  | _, _ => false
def alkL : List D → List D → Bool
  | x :: xs, y :: ys => alk x y && alkL xs ys
  | [], _ => true
  | _ :: _, [] => true
end

/-! ### operators -/
inductive Bop where | add | sub | mul | fdiv | mod
  deriving DecidableEq
inductive Cop where | eq | ne | lt | le | gt | ge | isn | nis | inn | nin
  deriving DecidableEq

def smallI (i : Int) : Bool := decide (-18446744073709551616 < i) && decide (i < 18446744073709551616)
def bop : Bop → D → D → Option D
  | .add, .int i, .int j => some (.int (i + j))
  | .add, .str x, .str y => if x.length + y.length ≤ line then some (.str (x ++ y)) else none
  | .add, .lst x, .lst y => if x.length + y.length ≤ line then some (.lst (x ++ y)) else none
  | .add, .tup x, .tup y => if x.length + y.length ≤ line then some (.tup (x ++ y)) else none
  | .sub, .int i, .int j => some (.int (i - j))
  | .mul, .int i, .int j => if smallI i || smallI j then some (.int (i * j)) else none
  | .mul, .lst x, .int k => if -1000 ≤ k ∧ k ≤ 1000 ∧ x.length ≤ 1000 then some (.lst (List.replicate k.toNat x).flatten) else none
  | .mul, .tup x, .int k => if -1000 ≤ k ∧ k ≤ 1000 ∧ x.length ≤ 1000 then some (.tup (List.replicate k.toNat x).flatten) else none
  | .fdiv, .int i, .int j => if 0 < j ∧ j < 1073741824 then some (.int (i / j)) else none
  | .mod, .int i, .int j => if 0 < j then some (.int (i % j)) else none
  | _, _, _ => none
/-- x is y, y None, a truth -/
def isD : D → D → Option Bool
  | .non, .non => some true
  | _, .non => some false
  | .bl a, .bl b => some (a == b)
  | .lst _, .bl _ => none
  | .scr _, .bl _ => none
  | .obj _, .bl _ => none
  | .exc _, .bl _ => none
  | .fn _, .bl _ => none
  | _, .bl _ => some false
  | _, _ => none
def inD : D → D → Option Bool
  | x, .lst l => if okD 50 x && l.all (okD 50) then some (l.any fun y => eqv y x) else none
  | x, .tup l => if okD 50 x && l.all (okD 50) then some (l.any fun y => eqv y x) else none
  | .str x, .str y => match x.cps.toList with
    | [c] => some (decide (c ∈ y.cps.toList))
    | _ => none
  | _, _ => none
def cop : Cop → D → D → Option Bool
  | .eq, a, b => eqD a b
  | .ne, a, b => (eqD a b).map (!·)
  | .lt, .int i, .int j => some (decide (i < j))
  | .le, .int i, .int j => some (decide (i ≤ j))
  | .gt, .int i, .int j => some (decide (j < i))
  | .ge, .int i, .int j => some (decide (j ≤ i))
  | .lt, .str x, .str y => some (ltCps x.cps.toList y.cps.toList)
  | .le, .str x, .str y => some (!ltCps y.cps.toList x.cps.toList)
  | .isn, a, b => isD a b
  | .nis, a, b => (isD a b).map (!·)
  | .inn, a, b => inD a b
  | .nin, a, b => (inD a b).map (!·)
  | _, _, _ => none

/-! ### places -/
def ixN (n : Nat) (i : Int) : Option Nat := if 0 ≤ i then (if i < n then some i.toNat else none) else if -(n : Int) ≤ i then some (i + n).toNat else none
def ixD : D → D → Option D
  | .lst l, .int i => (ixN l.length i).bind fun j => l[j]?
  | .tup l, .int i => (ixN l.length i).bind fun j => l[j]?
  | .scr l, .int i => ((ixN l.length i).bind fun j => l[j]?).map .int
  | .str x, .int i => if x.length ≤ line then ((ixN x.cps.toList.length i).bind fun j => x.cps.toList[j]?).map fun c => .str ⟨#[c]⟩ else none
  | _, _ => none
/-- the place that a slice's part tells -/
def sIx (n d : Nat) : Option Int → Nat
  | none => d
  | some v => if v < 0 then (v + (n : Int)).toNat else min v.toNat n
def cut {α : Type} (l : List α) (lo hi : Option Int) : List α := (l.drop (sIx l.length 0 lo)).take (sIx l.length l.length hi - sIx l.length 0 lo)
def partD : List D → Option (Option Int)
  | [] => some none
  | [.int i] => some (some i)
  | _ => none
def slcD (d : D) (lo hi : Option Int) : Option D := match d with
  | .lst l => some (.lst (cut l lo hi))
  | .tup l => some (.tup (cut l lo hi))
  | .str x => if x.length ≤ line then some (.str ⟨(cut x.cps.toList lo hi).toArray⟩) else none
  | _ => none
def revD : D → Option D
  | .lst l => some (.lst l.reverse)
  | .tup l => some (.tup l.reverse)
  | _ => none

/-! ### what is walked -/
inductive Ik where | seq | rng1 | rng2 | rng3 | enum | zip
  deriving DecidableEq
def seqOf : D → Option (List D)
  | .lst l => some l
  | .tup l => some l
  | _ => none
def rng (a b : Int) : List D := (List.range (b - a).toNat).map fun k => .int (a + (k : Nat))
def itSeq : List D → Option (List D)
  | [.str x] => if x.length ≤ line then some (x.cps.toList.map fun c => .str ⟨#[c]⟩) else none
  | [d] => seqOf d
  | _ => none
def itRng1 : List D → Option (List D)
  | [.int n] => if n ≤ 16777216 ∧ -16777216 ≤ n then some (rng 0 n) else none
  | _ => none
def itRng2 : List D → Option (List D)
  | [.int a, .int b] => if b ≤ 8388608 ∧ -8388608 ≤ b ∧ a ≤ 8388608 ∧ -8388608 ≤ a then some (rng a b) else none
  | _ => none
def itEnum : List D → Option (List D)
  | [d] => (seqOf d).map fun l => l.zipIdx.map fun p => .tup [.int (p.2 : Nat), p.1]
  | _ => none
def itZip : List D → Option (List D)
  | [.lst l, .lst m] => some ((l.zip m).map fun p => .tup [p.1, p.2])
  | [.tup l, .tup m] => some ((l.zip m).map fun p => .tup [p.1, p.2])
  | _ => none
def itm : Ik → List D → Option (List D)
  | .seq => itSeq
  | .rng1 => itRng1
  | .rng2 => itRng2
  | .rng3 => fun _ => none
  | .enum => itEnum
  | .zip => itZip

/-! ### built-ins -/
inductive Blt where | len | sum | max | min | abs | all | any | sorted | tuple | list | int | str
  deriving DecidableEq
def intsOf : List D → Option (List Int)
  | [] => some []
  | .int i :: r => (intsOf r).map (i :: ·)
  | _ :: _ => none
def blsOf : List D → Option (List Bool)
  | [] => some []
  | .bl i :: r => (blsOf r).map (i :: ·)
  | _ :: _ => none
def prsOf : List D → Option (List (Int × Int))
  | [] => some []
  | .tup [.int i, .int j] :: r => (prsOf r).map ((i, j) :: ·)
  | _ :: _ => none
def insG {α : Type} (lt : α → α → Bool) (x : α) : List α → List α
  | [] => [x]
  | y :: r => if lt y x then y :: insG lt x r else x :: y :: r
def sortG {α : Type} (lt : α → α → Bool) : List α → List α
  | [] => []
  | x :: r => insG lt x (sortG lt r)
def ltI (a b : Int) : Bool := decide (a < b)
def ltP (a b : Int × Int) : Bool := decide (a.1 < b.1) || (decide (a.1 = b.1) && decide (a.2 < b.2))
def maxI : Int → List Int → Int
  | m, [] => m
  | m, x :: r => maxI (if m < x then x else m) r
def minI : Int → List Int → Int
  | m, [] => m
  | m, x :: r => minI (if x < m then x else m) r
def minV (x : D) (l : List D) : D := l.foldl (fun a y => if ltv y a then y else a) x
/-- all may be put in order; tuples with an item at least, or none is a tuple -/
def ordOk (l : List D) : Bool := l.all (fun a => l.all (alk a)) && l.all (okD 40) && decide (l.length ≤ line) &&
  (l.all (fun a => match a with | .tup (_ :: _) => true | _ => false) || l.all (fun a => match a with | .tup _ => false | _ => true))
def strOfInt (i : Int) : Str := Str.ofString (toString i)
def blt : Blt → List D → Option D
  | .len, [.lst l] => some (.int (l.length : Nat))
  | .len, [.tup l] => some (.int (l.length : Nat))
  | .len, [.scr l] => some (.int (l.length : Nat))
  | .len, [.str x] => if x.length ≤ line then some (.int (x.length : Nat)) else none
  | .sum, [.lst l] => (intsOf l).map fun ns => .int ns.sum
  | .sum, [.tup l] => (intsOf l).map fun ns => .int ns.sum
  | .max, [.int i, .int j] => some (.int (if j > i then j else i))
  | .min, [.int i, .int j] => some (.int (if j < i then j else i))
  | .max, [.lst l] => match intsOf l with
    | some (n :: r) => some (.int (maxI n r))
    | _ => none
  | .min, [.lst l] => match intsOf l with
    | some (n :: r) => some (.int (minI n r))
    | some [] => none
    | none => if ordOk l then (match l with
      | .tup t :: r => some (minV (.tup t) r)
      | _ => none) else none
  | .abs, [.int i] => some (.int (if i < 0 then -i else i))
  | .all, [.lst l] => (blsOf l).map fun bs => .bl (bs.all id)
  | .any, [.lst l] => (blsOf l).map fun bs => .bl (bs.any id)
  | .sorted, [.lst l] => match intsOf l with
    | some ns => some (.lst ((sortG ltI ns).map .int))
    | none => match prsOf l with
      | some ps => some (.lst ((sortG ltP ps).map fun p => .tup [.int p.1, .int p.2]))
      | none => if ordOk l then some (.lst (sortG ltv l)) else none
  | .tuple, [.lst l] => some (.tup l)
  | .tuple, [.tup l] => some (.tup l)
  | .list, [.lst l] => some (.lst l)
  | .list, [.tup l] => some (.lst l)
  | .int, [.int i] => some (.int i)
  | .int, [.bl b] => some (.int (if b then 1 else 0))
  | .str, [.int i] => if i.natAbs < 1000000 then some (.str (strOfInt i)) else none
  | _, _ => none
/-- isinstance(x, one of int bool str tuple list) -/
def isiD (x : D) (t : String) : Option Bool :=
  if t = "int" ∨ t = "bool" ∨ t = "str" ∨ t = "tuple" ∨ t = "list" then
    (match x with
    | .non => some false
    | .bl _ => some (t == "bool" || t == "int")
    | .int _ => some (t == "int")
    | .str _ => some (t == "str")
    | .lst _ => some (t == "list")
    | .tup _ => some (t == "tuple")
    | _ => none)
  else none

/-! ### methods of built-in types -/
inductive Mt where | count | index
  deriving DecidableEq
/-- of the type that has it -/
def mthT : Mt → D → Bool
  | .count, .lst _ => true
  | .index, .lst _ => true
  | _, _ => false
def mthD : Mt → D → List D → Option D
  | .count, .lst l, [x] => if okD 50 x && l.all (okD 50) then some (.int ((l.countP fun y => eqv y x : Nat) : Int)) else none
  | .index, .lst l, [x] => if okD 50 x && l.all (okD 50) then (l.findIdx? fun y => eqv y x).map (fun j => .int ((j : Nat) : Int)) else none
  | _, _, _ => none
/-- x in range(n) -/
def inRng : D → D → Option Bool
  | .int i, .int n => some (decide (0 ≤ i ∧ i < n))
  | _, _ => none
/-! ### what is refused -/
def subC (c d : Str) : Bool := decide (c = d) || decide (d = "LampError") || decide (d = "ValueError")
/-- what is done with what is caught -/
inductive Hd where
  | ref (f : Str) (rows : List (List Str)) | isi (c : Str) | isT (c s t : Str)
def refD (rows : List (List Str)) (c : Str) : D :=
  let fl := rows.flatten.map (subC c)
  .tup [.str "refused", .int (if fl.count true ≠ 1 ∨ subC c "ValueError" = false then -1 else ((fl.findIdx id : Nat) : Int))]
def hdD : Hd → Str → D
  | .ref _ rows, c => refD rows c
  | .isi d, c => .bl (subC c d)
  | .isT d s t, c => .str (if subC c d then s else t)

/-! ### the code -/
/-- a module's constant -/
inductive Cn where | int (i : Int) | str (s : Str) | strs (l : List Str)
  deriving DecidableEq
def Cn.d : Cn → D
  | .int i => .int i
  | .str s => .str s
  | .strs l => .tup (l.map .str)
inductive T where | nm (i : Nat) | tu (is : List Nat)
inductive E where
  | nil | cons (a r : E)
  | var (i : Nat) | pk (i : Nat) | cst (d : D) | glo (x : Str) (c : Cn)
  | bin (o : Bop) (a b : E) | neg (a : E) | not (a : E) | cmp (o : Cop) (a b : E) | chn (o p : Cop) (a b c : E)
  | boo (k : Bool) (l : E) | ite (c a b : E) | tup (l : E) | lst (l : E)
  | ix (a b : E) | slc (a lo hi : E) | rev (a : E)
  | call (f : Str) (l : E) | blt (b : Blt) (l : E) | isi (a : E) (t : String)
  | mth (m : Mt) (a l : E) | inr (k : Bool) (a b : E) | lrg (a : E)
  | comp (k : Ik) (src : E) (tg : T) (own : List (Str × Nat)) (cnd elt : E)
inductive S where
  | skip | seq (a b : S)
  | asg (t : T) (e : E) | own (i : Nat) (e : E) | frz (i : Nat)
  | set (i : Nat) (j e : E) | app (i : Nat) (e : E) | ext (i : Nat) (e : E)
  | expr (e : E) | ret (e : E) | ite (c : E) (a b : S)
  | loop (k : Ik) (src : E) (tg : T) (b : S)
  | whl (c : E) (b : S)
  | raise (c : Str)
  | tryR (b : S) (c : Str) (i : Nat) (es : List Str) (h : Hd)

inductive Sl where | emp | val (d : D) | own (l : List D)
abbrev Env := List Sl
def wipe (ρ : Env) : List Nat → Env
  | [] => ρ
  | v :: vs => (wipe ρ vs).set v .emp
def putAll : List Nat → List D → Env → Option Env
  | [], [], ρ => some ρ
  | i :: is, d :: ds, ρ => putAll is ds (ρ.set i (.val d))
  | _, _, _ => none
def put : T → D → Env → Option Env
  | .nm i, d, ρ => some (ρ.set i (.val d))
  | .tu is, .tup ds, ρ => putAll is ds ρ
  | _, _, _ => none
abbrev Fns := Str → List D → M D

def compL (one : D → M (Option D)) : List D → M (List D)
  | [] => M.pure []
  | x :: xs => (one x).bind fun r => (compL one xs).bind fun rest => M.pure (match r with | some y => y :: rest | none => rest)

def asBl : D → Option Bool
  | .bl b => some b
  | _ => none

mutual
def evE (Φ : Fns) : E → Env → M D
  | .nil, _ => M.er
  | .cons _ _, _ => M.er
  | .var i, ρ => M.lift (match ρ[i]? with | some (.val d) => some d | _ => none)
  | .pk i, ρ => M.lift (match ρ[i]? with | some (.own l) => some (.lst l) | _ => none)
  | .cst d, _ => M.pure d
  | .glo _ c, _ => M.pure c.d
  | .bin o a b, ρ => (evE Φ a ρ).bind fun x => (evE Φ b ρ).bind fun y => M.lift (bop o x y)
  | .neg a, ρ => (evE Φ a ρ).bind fun x => M.lift (match x with | .int i => some (.int (-i)) | _ => none)
  | .not a, ρ => (evE Φ a ρ).bind fun x => M.lift ((asBl x).map fun b => .bl (!b))
  | .cmp o a b, ρ => (evE Φ a ρ).bind fun x => (evE Φ b ρ).bind fun y => M.lift ((cop o x y).map .bl)
  | .chn o p a b c, ρ => (evE Φ a ρ).bind fun x => (evE Φ b ρ).bind fun y => (M.lift (cop o x y)).bind fun k =>
      if k then (evE Φ c ρ).bind fun z => M.lift ((cop p y z).map .bl) else M.pure (.bl false)
  | .boo k l, ρ => evB Φ k l ρ
  | .ite c a b, ρ => (evE Φ c ρ).bind fun x => (M.lift (asBl x)).bind fun k => if k then evE Φ a ρ else evE Φ b ρ
  | .tup l, ρ => (evA Φ l ρ).bind fun ds => M.pure (.tup ds)
  | .lst l, ρ => (evA Φ l ρ).bind fun ds => M.pure (.lst ds)
  | .ix a b, ρ => (evE Φ a ρ).bind fun x => (evE Φ b ρ).bind fun y => M.lift (ixD x y)
  | .slc a lo hi, ρ => (evE Φ a ρ).bind fun x => (evA Φ lo ρ).bind fun l => (M.lift (partD l)).bind fun l => (evA Φ hi ρ).bind fun h => (M.lift (partD h)).bind fun h => M.lift (slcD x l h)
  | .rev a, ρ => (evE Φ a ρ).bind fun x => M.lift (revD x)
  | .call f l, ρ => (evA Φ l ρ).bind fun ds => Φ f ds
  | .blt b l, ρ => (evA Φ l ρ).bind fun ds => M.lift (blt b ds)
  | .isi a t, ρ => (evE Φ a ρ).bind fun x => M.lift ((isiD x t).map .bl)
  | .mth m a l, ρ => (evE Φ a ρ).bind fun x => (M.lift (if mthT m x then some () else none)).bind fun _ => (evA Φ l ρ).bind fun ds => M.lift (mthD m x ds)
  | .inr k a b, ρ => (evE Φ a ρ).bind fun x => (evE Φ b ρ).bind fun y => M.lift ((inRng x y).map fun c => .bl (c == k))
  | .lrg a, ρ => (evE Φ a ρ).bind fun x => M.lift ((itRng1 [x]).map .lst)
  | .comp k src tg own cnd elt, ρ => (evA Φ src ρ).bind fun ds => (M.lift (itm k ds)).bind fun items =>
      (M.calm (compL (fun x => (M.lift (put tg x (wipe ρ (own.map (·.2))))).bind fun ρ' => (evT Φ cnd ρ').bind fun b =>
        if b then (evE Φ elt ρ').bind fun y => M.pure (some y) else M.pure none) items)).bind fun l => M.pure (.lst l)
/-- a list of expressions -/
def evA (Φ : Fns) : E → Env → M (List D)
  | .nil, _ => M.pure []
  | .cons a r, ρ => (evE Φ a ρ).bind fun x => (evA Φ r ρ).bind fun xs => M.pure (x :: xs)
  | _, _ => M.er
/-- and (k true), or -/
def evB (Φ : Fns) (k : Bool) : E → Env → M D
  | .cons a .nil, ρ => evE Φ a ρ
  | .cons a r, ρ => (evE Φ a ρ).bind fun x => (M.lift (asBl x)).bind fun b => if b = k then evB Φ k r ρ else M.pure (.bl (!k))
  | _, _ => M.er
/-- the tests of a comprehension: none or one -/
def evT (Φ : Fns) : E → Env → M Bool
  | .nil, _ => M.pure true
  | .cons c .nil, ρ => (evE Φ c ρ).bind fun x => M.lift (asBl x)
  | _, _ => M.er
end

inductive Fl where | nx | rt (d : D)
def forL (bind : D → Env → Option Env) (body : Env → M (Fl × Env)) : List D → Env → M (Fl × Env)
  | [], ρ => M.pure (.nx, ρ)
  | x :: xs, ρ => (M.lift (bind x ρ)).bind fun ρ1 => (body ρ1).bind fun r => match r.1 with
    | .nx => forL bind body xs r.2
    | .rt d => M.pure (.rt d, r.2)
def whlL (c : Env → M D) (body : Env → M (Fl × Env)) : Nat → Env → M (Fl × Env)
  | 0, _ => M.er
  | n + 1, ρ => (c ρ).bind fun x => (M.lift (asBl x)).bind fun b => if b then (body ρ).bind fun r => (match r.1 with
    | .nx => whlL c body n r.2
    | .rt d => M.pure (.rt d, r.2)) else M.pure (.nx, ρ)
def nx (ρ : Env) : M (Fl × Env) := M.pure (.nx, ρ)
def evS (Φ : Fns) : S → Env → M (Fl × Env)
  | .skip, ρ => nx ρ
  | .seq a b, ρ => (evS Φ a ρ).bind fun r => match r.1 with
    | .nx => evS Φ b r.2
    | .rt d => M.pure (.rt d, r.2)
  | .asg t e, ρ => (evE Φ e ρ).bind fun d => (M.lift (put t d ρ)).bind nx
  | .own i e, ρ => (evE Φ e ρ).bind fun d => match d with
    | .lst l => nx (ρ.set i (.own l))
    | _ => M.er
  | .frz i, ρ => match ρ[i]? with
    | some (.own l) => nx (ρ.set i (.val (.lst l)))
    | _ => M.er
  | .set i j e, ρ => (evE Φ e ρ).bind fun d => match ρ[i]? with
    | some (.own l) => (evE Φ j ρ).bind fun k => (M.lift (match k with | .int k => ixN l.length k | _ => none)).bind fun m => nx (ρ.set i (.own (l.set m d)))
    | _ => M.er
  | .app i e, ρ => match ρ[i]? with
    | some (.own l) => (evE Φ e ρ).bind fun d => if l.length < line then nx (ρ.set i (.own (l ++ [d]))) else M.er
    | _ => M.er
  | .ext i e, ρ => match ρ[i]? with
    | some (.own l) => (evE Φ e ρ).bind fun d => match d with
      | .lst m => if l.length + m.length ≤ line then nx (ρ.set i (.own (l ++ m))) else M.er
      | _ => M.er
    | _ => M.er
  | .expr e, ρ => (evE Φ e ρ).bind fun _ => nx ρ
  | .ret e, ρ => (evE Φ e ρ).bind fun d => M.pure (.rt d, ρ)
  | .ite c a b, ρ => (evE Φ c ρ).bind fun x => (M.lift (asBl x)).bind fun k => if k then evS Φ a ρ else evS Φ b ρ
  | .loop k src tg b, ρ => (evA Φ src ρ).bind fun ds => (M.lift (itm k ds)).bind fun items => forL (put tg) (evS Φ b) items ρ
  | .whl c b, ρ => whlL (evE Φ c) (evS Φ b) 1000 ρ
  | .raise c, _ => fun S => .ex c S
  | .tryR b c _ es h, ρ => fun S => match evS Φ b ρ S with
    | .ok r S' => .ok r S'
    | .ex c' S' => if es.contains c' then (if subC c' c then .ok (.rt (hdD h c'), ρ) S' else .ex c' S') else .er
    | .er => .er

/-- a def: its parameters, its slots, its body -/
structure Fn where
  ps : List Str
  N : List Str
  body : S
def startE (N : List Str) (ds : List D) : Env := ds.map .val ++ List.replicate (N.length - ds.length) .emp
def runFn (Φ : Fns) (F : Fn) (ds : List D) : M D := if ds.length = F.ps.length then (evS Φ F.body (startE F.N ds)).bind fun r => M.pure (match r.1 with | .rt d => d | .nx => .non) else M.er
def call (P : Str → Option Fn) : Nat → Fns
  | 0, _, _ => M.er
  | n + 1, f, ds => match P f with
    | some F => runFn (call P n) F ds
    | none => M.er
end Ev

end
section
set_option maxRecDepth 100000
namespace Ev
open PySem PySem.Spec PyProof.Rows L2

theorem line_eq : line = sizeLine := by rw [sizeLine_eq]; rfl

/-- a world: the lists that no one writes, the objects, the abstract heap -/
structure Wd where
  G : Addr → Prop
  φ : List Addr
  H : Hp
def isIns : HO → Bool
  | .ins _ _ _ => true
  | _ => false
/-- a list that was handed in -/
def ScrAt (K : PySem.W.Frag) (H : Hp) (p : Addr) (vs : List V) : Prop := (∃ o, H p = some (.frz o (.lst vs))) ∨
  ∃ (o : Obj) (its : Array Value) (n : Nat), K.lookup p = some o ∧ o.cls = .type "list" ∧ o.dict = none ∧ o.data = .seq its n ∧ its.size ≤ sizeLine ∧ Vals vs its.toList
theorem ScrAt.sq {K : PySem.W.Frag} {H : Hp} {p : Addr} {vs : List V} (h : ScrAt K H p vs) : SqL K H p vs := h.elim (fun ⟨o, h⟩ => .inl (.inr ⟨o, h⟩)) .inr
/-- a tuple: of ours, or a written one of texts -/
def TupAt (K : PySem.W.Frag) (H : Hp) (p : Addr) (vs : List V) : Prop := H p = some (.tup vs) ∨ (SqT K H p vs ∧ vs ≠ [] ∧ ∀ v ∈ vs, ∃ s, v = .str s)
theorem TupAt.sq {K : PySem.W.Frag} {H : Hp} {p : Addr} {vs : List V} (h : TupAt K H p vs) : SqT K H p vs := h.elim SqT.of (·.1)
mutual
def Rep (K : PySem.W.Frag) (w : Wd) : D → V → Prop
  | .non, v => v = .non
  | .bl b, v => v = .bl b
  | .int i, v => v = .int i
  | .str s, v => v = .str s
  | .lst l, v => ∃ p vs, v = .ref p ∧ w.G p ∧ w.H p = some (.lst vs) ∧ RepL K w l vs
  | .tup l, v => ∃ p vs, v = .ref p ∧ TupAt K w.H p vs ∧ RepL K w l vs
  | .scr l, v => ∃ p, v = .ref p ∧ ScrAt K w.H p (l.map V.int)
  | .obj n, v => ∃ p, w.φ[n]? = some p ∧ v = .ref p
  | .exc _, _ => False
  | .fn _, _ => False
def RepL (K : PySem.W.Frag) (w : Wd) : List D → List V → Prop
  | [], vs => vs = []
  | d :: ds, vs => ∃ v r, vs = v :: r ∧ Rep K w d v ∧ RepL K w ds r
end
def isLst : HO → Bool
  | .lst _ => true
  | _ => false
structure Wk (a b : Wd) : Prop where
  g : ∀ p, a.G p → b.G p
  f : ∃ m, b.φ = a.φ ++ m
  k : ∀ p o, a.H p = some o → isIns o = false → (isLst o = true → a.G p) → b.H p = some o
structure Ext (a b : Wd) : Prop where
  g : ∀ p, a.G p → b.G p
  gn : ∀ p, b.G p → a.G p ∨ a.H p = none
  f : ∃ m, b.φ = a.φ ++ m
  k : ∀ p o, a.H p = some o → isIns o = false → b.H p = some o
  i : ∀ p C dx fs, a.H p = some (.ins C dx fs) → ∃ fs', b.H p = some (.ins C dx fs')
  w : (∀ p, a.G p → a.H p ≠ none) → ∀ p, b.G p → b.H p ≠ none
theorem Ext.wk {a b : Wd} (e : Ext a b) : Wk a b := ⟨e.g, e.f, fun p o h i _ => e.k p o h i⟩
theorem Wk.refl (a : Wd) : Wk a a := ⟨fun _ h => h, ⟨[], by simp⟩, fun _ _ h _ _ => h⟩
theorem Wk.trans {a b c : Wd} (e : Wk a b) (f : Wk b c) : Wk a c := by
  refine ⟨fun p h => f.g p (e.g p h), ?_, fun p o h i l => f.k p o (e.k p o h i l) i fun z => e.g p (l z)⟩
  obtain ⟨m, hm⟩ := e.f
  obtain ⟨n, hn⟩ := f.f
  exact ⟨m ++ n, by rw [hn, hm, List.append_assoc]⟩
theorem Ext.refl (a : Wd) : Ext a a := ⟨fun _ h => h, fun _ h => .inl h, ⟨[], by simp⟩, fun _ _ h _ => h, fun _ _ _ fs h => ⟨fs, h⟩, fun h => h⟩
theorem Ext.some {a b : Wd} (e : Ext a b) {p : Addr} {o : HO} (h : a.H p = some o) : ∃ o', b.H p = some o' := by
  by_cases hi : isIns o = true
  · cases o with
    | ins C dx fs => obtain ⟨fs', h'⟩ := e.i _ _ _ _ h; exact ⟨_, h'⟩
    | _ => simp [isIns] at hi
  · exact ⟨o, e.k _ _ h (by simpa using hi)⟩
theorem Ext.none {a b : Wd} (e : Ext a b) {p : Addr} (h : b.H p = none) : a.H p = none := by
  cases q : a.H p with
  | none => rfl
  | some o => obtain ⟨o', h'⟩ := e.some q; rw [h] at h'; cases h'
theorem Ext.trans {a b c : Wd} (e : Ext a b) (f : Ext b c) : Ext a c := by
  refine ⟨fun p h => f.g p (e.g p h), fun p h => ?_, ?_, fun p o h hi => f.k p o (e.k p o h hi) hi, fun p C dx fs h => ?_, fun h => f.w (e.w h)⟩
  · rcases f.gn p h with h | h
    · exact e.gn p h
    · exact .inr (e.none h)
  · obtain ⟨m, hm⟩ := e.f
    obtain ⟨n, hn⟩ := f.f
    exact ⟨m ++ n, by rw [hn, hm, List.append_assoc]⟩
  · obtain ⟨fs', h'⟩ := e.i _ _ _ _ h
    exact f.i _ _ _ _ h'

theorem SqT.wk {K : PySem.W.Frag} {a b : Wd} (e : Wk a b) {p : Addr} {vs : List V} (h : SqT K a.H p vs) : SqT K b.H p vs := by
  rcases h with (h | ⟨o, h⟩) | h
  · exact .inl (.inl (e.k _ _ h rfl (by intro z; cases z)))
  · exact .inl (.inr ⟨o, e.k _ _ h rfl (by intro z; cases z)⟩)
  · exact .inr h
theorem ScrAt.wk {K : PySem.W.Frag} {a b : Wd} (e : Wk a b) {p : Addr} {vs : List V} (h : ScrAt K a.H p vs) : ScrAt K b.H p vs := by
  rcases h with ⟨o, h⟩ | h
  · exact .inl ⟨o, e.k _ _ h rfl (by intro z; cases z)⟩
  · exact .inr h
theorem TupAt.wk {K : PySem.W.Frag} {a b : Wd} (e : Wk a b) {p : Addr} {vs : List V} (h : TupAt K a.H p vs) : TupAt K b.H p vs :=
  h.elim (fun h => .inl (e.k _ _ h rfl (by intro z; cases z))) fun h => .inr ⟨SqT.wk e h.1, h.2⟩
mutual
theorem Rep.wk {K : PySem.W.Frag} {a b : Wd} (e : Wk a b) : ∀ (d : D) {v : V}, Rep K a d v → Rep K b d v
  | .non, v, h => by simpa [Rep] using h
  | .bl x, v, h => by simpa [Rep] using h
  | .int i, v, h => by simpa [Rep] using h
  | .str s, v, h => by simpa [Rep] using h
  | .lst l, v, h => by
    simp only [Rep] at h ⊢
    obtain ⟨p, vs, h1, h2, h3, h4⟩ := h
    exact ⟨p, vs, h1, e.g _ h2, e.k _ _ h3 rfl (fun _ => h2), RepL.wk e l h4⟩
  | .tup l, v, h => by
    simp only [Rep] at h ⊢
    obtain ⟨p, vs, h1, h3, h4⟩ := h
    exact ⟨p, vs, h1, TupAt.wk e h3, RepL.wk e l h4⟩
  | .scr l, v, h => by
    simp only [Rep] at h ⊢
    obtain ⟨p, h1, h2⟩ := h
    exact ⟨p, h1, ScrAt.wk e h2⟩
  | .obj n, v, h => by
    simp only [Rep] at h ⊢
    obtain ⟨p, h1, h2⟩ := h
    obtain ⟨m, hm⟩ := e.f
    refine ⟨p, ?_, h2⟩
    rw [hm, List.getElem?_append_left (List.getElem?_eq_some_iff.mp h1).1]; exact h1
  | .exc c, v, h => by simp [Rep] at h
  | .fn c, v, h => by simp [Rep] at h
theorem RepL.wk {K : PySem.W.Frag} {a b : Wd} (e : Wk a b) : ∀ (d : List D) {v : List V}, RepL K a d v → RepL K b d v
  | [], v, h => by simpa [RepL] using h
  | d :: ds, v, h => by
    simp only [RepL] at h ⊢
    obtain ⟨x, r, h1, h2, h3⟩ := h
    exact ⟨x, r, h1, Rep.wk e d h2, RepL.wk e ds h3⟩
end
theorem Rep.ext {K : PySem.W.Frag} {a b : Wd} (e : Ext a b) (d : D) {v : V} (h : Rep K a d v) : Rep K b d v := Rep.wk e.wk d h
theorem RepL.ext {K : PySem.W.Frag} {a b : Wd} (e : Ext a b) (d : List D) {v : List V} (h : RepL K a d v) : RepL K b d v := RepL.wk e.wk d h
section
variable {K : PySem.W.Frag} {w : Wd}
theorem RepL.length : ∀ {ds : List D} {vs : List V}, RepL K w ds vs → ds.length = vs.length
  | [], vs, h => by simp only [RepL] at h; subst h; rfl
  | d :: ds, vs, h => by
    simp only [RepL] at h
    obtain ⟨x, r, h1, h2, h3⟩ := h
    subst h1
    simp [RepL.length h3]
theorem RepL.get : ∀ {ds : List D} {vs : List V} {i : Nat} {d : D}, RepL K w ds vs → ds[i]? = some d → ∃ v, vs[i]? = some v ∧ Rep K w d v
  | [], vs, i, d, h, e => by simp at e
  | d :: ds, vs, 0, d', h, e => by
    simp only [RepL] at h
    obtain ⟨x, r, h1, h2, h3⟩ := h
    subst h1
    simp at e
    subst e
    exact ⟨x, rfl, h2⟩
  | d :: ds, vs, i + 1, d', h, e => by
    simp only [RepL] at h
    obtain ⟨x, r, h1, h2, h3⟩ := h
    subst h1
    obtain ⟨v, q1, q2⟩ := RepL.get (i := i) h3 (by simpa using e)
    exact ⟨v, by simpa using q1, q2⟩
theorem RepL.append : ∀ {ds es : List D} {vs us : List V}, RepL K w ds vs → RepL K w es us → RepL K w (ds ++ es) (vs ++ us)
  | [], es, vs, us, h, h' => by simp only [RepL] at h; subst h; simpa using h'
  | d :: ds, es, vs, us, h, h' => by
    simp only [RepL] at h
    obtain ⟨x, r, h1, h2, h3⟩ := h
    subst h1
    simp only [List.cons_append, RepL]
    exact ⟨x, r ++ us, rfl, h2, RepL.append h3 h'⟩
theorem RepL.drop : ∀ (n : Nat) {ds : List D} {vs : List V}, RepL K w ds vs → RepL K w (ds.drop n) (vs.drop n)
  | 0, ds, vs, h => by simpa using h
  | n + 1, [], vs, h => by simp only [RepL] at h; subst h; simp [RepL]
  | n + 1, d :: ds, vs, h => by
    simp only [RepL] at h
    obtain ⟨x, r, h1, h2, h3⟩ := h
    subst h1
    simpa using RepL.drop n h3
theorem RepL.take : ∀ (n : Nat) {ds : List D} {vs : List V}, RepL K w ds vs → RepL K w (ds.take n) (vs.take n)
  | 0, ds, vs, h => by simp [RepL]
  | n + 1, [], vs, h => by simp only [RepL] at h; subst h; simp [RepL]
  | n + 1, d :: ds, vs, h => by
    simp only [RepL] at h
    obtain ⟨x, r, h1, h2, h3⟩ := h
    subst h1
    simp only [List.take_succ_cons, RepL]
    exact ⟨x, _, rfl, h2, RepL.take n h3⟩
theorem RepL.set : ∀ (n : Nat) {ds : List D} {vs : List V} {d : D} {v : V}, RepL K w ds vs → Rep K w d v → RepL K w (ds.set n d) (vs.set n v)
  | _, [], vs, d, v, h, q => by simp only [RepL] at h; subst h; simp [RepL]
  | 0, d :: ds, vs, d', v, h, q => by
    simp only [RepL] at h
    obtain ⟨x, r, h1, h2, h3⟩ := h
    subst h1
    simp only [List.set_cons_zero, RepL]
    exact ⟨_, _, rfl, q, h3⟩
  | n + 1, d :: ds, vs, d', v, h, q => by
    simp only [RepL] at h
    obtain ⟨x, r, h1, h2, h3⟩ := h
    subst h1
    simp only [List.set_cons_succ, RepL]
    exact ⟨_, _, rfl, h2, RepL.set n h3 q⟩
theorem RepL.reverse : ∀ {ds : List D} {vs : List V}, RepL K w ds vs → RepL K w ds.reverse vs.reverse
  | [], vs, h => by simp only [RepL] at h; subst h; simp [RepL]
  | d :: ds, vs, h => by
    simp only [RepL] at h
    obtain ⟨x, r, h1, h2, h3⟩ := h
    subst h1
    simp only [List.reverse_cons]
    exact RepL.append (RepL.reverse h3) (by simp only [RepL]; exact ⟨x, [], rfl, h2, rfl⟩)
theorem RepL.rep {ds : List D} {vs : List V} (h : RepL K w ds vs) : ∀ k : Nat, RepL K w (List.replicate k ds).flatten (List.replicate k vs).flatten
  | 0 => by simp [RepL]
  | k + 1 => by
    rw [List.replicate_succ, List.replicate_succ, List.flatten_cons, List.flatten_cons]
    exact RepL.append h (RepL.rep h k)
theorem RepL.nil_iff {ds : List D} {vs : List V} (h : RepL K w ds vs) : vs = [] ↔ ds = [] := by
  have := h.length
  constructor
  · intro e; subst e; exact List.eq_nil_of_length_eq_zero (by simpa using this)
  · intro e; subst e; exact List.eq_nil_of_length_eq_zero (by simpa using this.symm)
theorem RepL.ints : ∀ {ds : List D} {vs : List V} {ns : List Int}, RepL K w ds vs → intsOf ds = some ns → vs = ns.map V.int ∧ ds = ns.map D.int
  | [], vs, ns, h, e => by simp only [RepL] at h; simp [intsOf] at e; subst h e; exact ⟨rfl, rfl⟩
  | d :: ds, vs, ns, h, e => by
    simp only [RepL] at h
    obtain ⟨x, r, h1, h2, h3⟩ := h
    cases d with
    | int i =>
      simp only [intsOf, Option.map_eq_some_iff] at e
      obtain ⟨ms, e1, e2⟩ := e
      obtain ⟨q1, q2⟩ := RepL.ints h3 e1
      simp only [Rep] at h2
      subst h1 e2 h2 q1
      exact ⟨rfl, by rw [q2]; rfl⟩
    | _ => simp [intsOf] at e
theorem RepL.bls : ∀ {ds : List D} {vs : List V} {ns : List Bool}, RepL K w ds vs → blsOf ds = some ns → vs = ns.map V.bl
  | [], vs, ns, h, e => by simp only [RepL] at h; simp [blsOf] at e; subst h e; rfl
  | d :: ds, vs, ns, h, e => by
    simp only [RepL] at h
    obtain ⟨x, r, h1, h2, h3⟩ := h
    cases d with
    | bl i =>
      simp only [blsOf, Option.map_eq_some_iff] at e
      obtain ⟨ms, e1, e2⟩ := e
      have q1 := RepL.bls h3 e1
      simp only [Rep] at h2
      subst h1 e2 h2 q1
      rfl
    | _ => simp [blsOf] at e
theorem RepL.of_get : ∀ {ds : List D} {vs : List V}, ds.length = vs.length → (∀ (i : Nat) (d : D) (v : V), ds[i]? = some d → vs[i]? = some v → Rep K w d v) → RepL K w ds vs
  | [], [], _, _ => by simp [RepL]
  | d :: ds, v :: vs, h, g => by
    simp only [RepL]
    exact ⟨v, vs, rfl, g 0 d v rfl rfl, RepL.of_get (by simpa using h) fun i a b e1 e2 => g (i + 1) a b (by simpa using e1) (by simpa using e2)⟩
end

/-! ### data for == -/
mutual
def toPy : D → PyData
  | .non => .none
  | .bl b => .bool b
  | .int i => .int i
  | .str s => .str s
  | .lst l => .list (toPyL l)
  | .tup l => .tuple (toPyL l)
  | .scr l => .list (l.map .int)
  | .obj _ => .none
  | .exc _ => .none
  | .fn _ => .none
def toPyL : List D → List PyData
  | [] => []
  | d :: ds => toPy d :: toPyL ds
end
theorem eqvS_py : ∀ (xs : List Int) (ys : List D) (n : Nat), ys.all (okD n) = true → PyData.eqvAll (xs.map .int) (toPyL ys) = eqvS xs ys
  | [], [], _, _ => by simp [toPyL, PyData.eqvAll, eqvS]
  | [], y :: ys, _, _ => by simp [toPyL, PyData.eqvAll, eqvS]
  | x :: xs, [], _, _ => by simp [toPyL, PyData.eqvAll, eqvS]
  | x :: xs, y :: ys, n, h => by
    simp only [List.all_cons, Bool.and_eq_true] at h
    simp only [toPyL, List.map_cons, PyData.eqvAll, eqvS, eqvS_py xs ys n h.2]
    congr 1
    cases y with
    | obj _ => cases n <;> simp [okD] at h
    | exc _ => cases n <;> simp [okD] at h
    | fn _ => cases n <;> simp [okD] at h
    | scr _ => cases n <;> simp [okD] at h
    | _ => simp [toPy, PyData.eqv, eqI]
theorem toPy_ok : ∀ (n : Nat) (d : D), okD n d = true → (toPy d).canLay0 = true ∧ (toPy d).depth ≤ n := by
  intro n
  induction n with
  | zero => intro d h; simp [okD] at h
  | succ n ih =>
    have L : ∀ l : List D, l.all (okD n) = true → PyData.canLayAll0 (toPyL l) = true ∧ PyData.depthAll (toPyL l) ≤ n := by
      intro l
      induction l with
      | nil => intro _; simp [toPyL, PyData.canLayAll0, PyData.depthAll]
      | cons d ds ihl =>
        intro h
        simp only [List.all_cons, Bool.and_eq_true] at h
        obtain ⟨a1, a2⟩ := ih d h.1
        obtain ⟨b1, b2⟩ := ihl h.2
        simp only [toPyL, PyData.canLayAll0, PyData.depthAll, a1, b1, Bool.and_self, true_and]
        omega
    intro d h
    cases d with
    | non => simp [toPy, PyData.canLay0, PyData.depth]
    | bl b => simp [toPy, PyData.canLay0, PyData.depth]
    | int i => simp [toPy, PyData.canLay0, PyData.depth]
    | str s =>
      simp only [okD] at h
      refine ⟨?_, by simp [toPy, PyData.depth]⟩
      simp only [toPy, PyData.canLay0, PyData.strOk]
      exact h
    | lst l =>
      obtain ⟨a, b⟩ := L l h
      simp only [toPy, PyData.canLay0, PyData.depth, a, true_and]
      omega
    | tup l =>
      obtain ⟨a, b⟩ := L l h
      simp only [toPy, PyData.canLay0, PyData.depth, a, true_and]
      omega
    | scr l => simp [okD] at h
    | obj _ => simp [okD] at h
    | exc _ => simp [okD] at h
    | fn _ => simp [okD] at h
theorem shaped_of {d : D} (h : okD 50 d = true) : SeqAt.shaped (toPy d) = true := by
  obtain ⟨a, b⟩ := toPy_ok 50 d h
  unfold SeqAt.shaped
  rw [a, Bool.true_and]
  exact decide_eq_true (by omega)
mutual
theorem eqv_py : ∀ (a b : D) (n : Nat), okD n a = true → okD n b = true → PyData.eqv (toPy a) (toPy b) = eqv a b
  | a, b, 0, h, _ => by simp [okD] at h
  | a, b, n + 1, h, h' => by
    cases a <;> first
      | (simp [okD] at h; done)
      | (cases b <;> first
          | (simp [okD] at h'; done)
          | (simp only [okD] at h h'
             simp only [toPy, PyData.eqv, eqv]
             first
              | done
              | (apply eqvL_py _ _ n h h')))
theorem eqvL_py : ∀ (a b : List D) (n : Nat), a.all (okD n) = true → b.all (okD n) = true → PyData.eqvAll (toPyL a) (toPyL b) = eqvL a b
  | [], [], _, _, _ => by simp [toPyL, PyData.eqvAll, eqvL]
  | [], _ :: _, _, _, _ => by simp [toPyL, PyData.eqvAll, eqvL]
  | _ :: _, [], _, _, _ => by simp [toPyL, PyData.eqvAll, eqvL]
  | x :: xs, y :: ys, n, h, h' => by
    simp only [List.all_cons, Bool.and_eq_true] at h h'
    simp only [toPyL, PyData.eqvAll, eqvL, eqv_py x y n h.1 h'.1, eqvL_py xs ys n h.2 h'.2]
end
/-- seen from above: a value of a list that may still be written, too -/
def RepP (K : PySem.W.Frag) (w : Wd) (d : D) (v : V) : Prop := Rep K w d v ∨ ∃ l q vs, d = .lst l ∧ v = .ref q ∧ w.H q = some (.lst vs) ∧ RepL K w l vs
theorem RepP.ext {K : PySem.W.Frag} {a b : Wd} (e : Ext a b) {d : D} {v : V} (h : RepP K a d v) : RepP K b d v := by
  rcases h with h | ⟨l, q, vs, h1, h2, h3, h4⟩
  · exact .inl (Rep.ext e d h)
  · exact .inr ⟨l, q, vs, h1, h2, e.k _ _ h3 rfl, RepL.ext e l h4⟩
section
variable {K : PySem.W.Frag} {w : Wd}
theorem RepP.lst {l : List D} {v : V} (h : RepP K w (.lst l) v) : ∃ q vs, v = .ref q ∧ w.H q = some (.lst vs) ∧ RepL K w l vs := by
  rcases h with h | ⟨l', q, vs, h1, h2, h3, h4⟩
  · simp only [Rep] at h
    obtain ⟨p, vs, h1, _, h3, h4⟩ := h
    exact ⟨p, vs, h1, h3, h4⟩
  · cases h1
    exact ⟨q, vs, h2, h3, h4⟩
theorem RepP.tup {l : List D} {v : V} (h : RepP K w (.tup l) v) : ∃ q vs, v = .ref q ∧ TupAt K w.H q vs ∧ RepL K w l vs := by
  rcases h with h | ⟨l', q, vs, h1, h2, h3, h4⟩
  · simpa only [Rep] using h
  · cases h1
theorem RepP.rep {d : D} {v : V} (h : RepP K w d v) (n : ∀ l, d ≠ .lst l) : Rep K w d v := by
  rcases h with h | ⟨l', q, vs, h1, h2, h3, h4⟩
  · exact h
  · exact absurd h1 (n _)
theorem RepP.int {i : Int} {v : V} (h : RepP K w (.int i) v) : v = .int i := by
  have := h.rep (by intro l e; cases e); simpa [Rep] using this
theorem RepP.str {i : Str} {v : V} (h : RepP K w (.str i) v) : v = .str i := by
  have := h.rep (by intro l e; cases e); simpa [Rep] using this
theorem RepP.bl {i : Bool} {v : V} (h : RepP K w (.bl i) v) : v = .bl i := by
  have := h.rep (by intro l e; cases e); simpa [Rep] using this
theorem RepP.non {v : V} (h : RepP K w .non v) : v = .non := by
  have := h.rep (by intro l e; cases e); simpa [Rep] using this
theorem RepP.scr {l : List Int} {v : V} (h : RepP K w (.scr l) v) : ∃ p, v = .ref p ∧ SqL K w.H p (l.map V.int) := by
  have := h.rep (by intro l e; cases e)
  simp only [Rep] at this
  obtain ⟨p, h1, h3⟩ := this
  exact ⟨p, h1, h3.sq⟩
mutual
theorem Rep.dp : ∀ (n : Nat) (d : D) (v : V), okD n d = true → Rep K w d v → Dp K w.H v (toPy d)
  | 0, d, v, h, _ => by simp [okD] at h
  | n + 1, d, v, h, r => by
    cases d with
    | non => simp only [Rep] at r; subst r; exact .non
    | bl b => simp only [Rep] at r; subst r; exact .bl b
    | int i => simp only [Rep] at r; subst r; exact .int i
    | str s => simp only [Rep] at r; subst r; exact .str s
    | lst l =>
      simp only [Rep] at r
      obtain ⟨p, vs, rfl, _, h3, h4⟩ := r
      exact .lst (SqL.of h3) (RepL.dp n l vs h h4)
    | tup l =>
      simp only [Rep] at r
      obtain ⟨p, vs, rfl, h3, h4⟩ := r
      exact .tup h3.sq (RepL.dp n l vs h h4)
    | scr l => simp [okD] at h
    | obj _ => simp [okD] at h
    | exc _ => simp [okD] at h
    | fn _ => simp [okD] at h
theorem RepL.dp : ∀ (n : Nat) (ds : List D) (vs : List V), ds.all (okD n) = true → RepL K w ds vs → DpAll K w.H vs (toPyL ds)
  | n, [], vs, _, r => by simp only [RepL] at r; subst r; exact .nil
  | n, d :: ds, vs, h, r => by
    simp only [List.all_cons, Bool.and_eq_true] at h
    simp only [RepL] at r
    obtain ⟨x, q, rfl, r1, r2⟩ := r
    exact .cons (Rep.dp n d x h.1 r1) (RepL.dp n ds q h.2 r2)
end
theorem RepP.dp {n : Nat} {d : D} {v : V} (h : okD n d = true) (r : RepP K w d v) : Dp K w.H v (toPy d) := by
  rcases r with r | ⟨l, q, vs, rfl, rfl, h3, h4⟩
  · exact Rep.dp n d v h r
  · cases n with
    | zero => simp [okD] at h
    | succ n => exact .lst (SqL.of h3) (RepL.dp n l vs h h4)
theorem dpInts : ∀ l : List Int, DpAll K w.H (l.map V.int) (l.map .int)
  | [] => .nil
  | i :: l => .cons (.int i) (dpInts l)
end
end Ev

end
section
set_option maxRecDepth 100000
namespace Ev
open PySem PySem.Spec PyProof.Rows L2

/-- everything stands -/
structure ExtA (a b : Wd) : Prop where
  g : ∀ p, a.G p → b.G p
  gn : ∀ p, b.G p → a.G p ∨ a.H p = none
  f : b.φ = a.φ
  k : ∀ p o, a.H p = some o → b.H p = some o
  w : (∀ p, a.G p → a.H p ≠ none) → ∀ p, b.G p → b.H p ≠ none
theorem ExtA.ext {a b : Wd} (e : ExtA a b) : Ext a b := ⟨e.g, e.gn, ⟨[], by simp [e.f]⟩, fun p o h _ => e.k p o h, fun p C dx fs h => ⟨fs, e.k _ _ h⟩, e.w⟩
theorem ExtA.refl (a : Wd) : ExtA a a := ⟨fun _ h => h, fun _ h => .inl h, rfl, fun _ _ h => h, fun h => h⟩
theorem ExtA.none {a b : Wd} (e : ExtA a b) {p : Addr} (h : b.H p = none) : a.H p = none := e.ext.none h
theorem ExtA.trans {a b c : Wd} (e : ExtA a b) (f : ExtA b c) : ExtA a c :=
  ⟨fun p h => f.g p (e.g p h), fun p h => (f.gn p h).elim (e.gn p) fun h => .inr (e.none h), f.f.trans e.f, fun p o h => f.k p o (e.k p o h), fun h => f.w (e.w h)⟩
/-- a new object -/
def nw (w : Wd) (p : Addr) (o : HO) : Wd := { w with H := upd w.H p o }
theorem nw_ext {w : Wd} {p : Addr} {o : HO} (h : w.H p = none) : ExtA w (nw w p o) :=
  ⟨fun _ h => h, fun _ h => .inl h, rfl, fun q u hq => by show upd w.H p o q = some u; rw [upd_ne (ne_of_none hq h)]; exact hq, fun g q hq => by
    show upd w.H p o q ≠ none
    by_cases e : q = p
    · subst e; rw [upd_same]; simp
    · rw [upd_ne e]; exact g q hq⟩
/-- a list that no one writes from here on -/
def fz (w : Wd) (p : Addr) : Wd := { w with G := fun q => w.G q ∨ q = p }
theorem fz_ext {a w : Wd} {p : Addr} (e : ExtA a w) (h : a.H p = none) (hp : w.H p ≠ none) : ExtA a (fz w p) :=
  ⟨fun q hq => .inl (e.g q hq), fun q hq => hq.elim (e.gn q) (fun hq => .inr (by rw [hq]; exact h)), e.f, e.k, fun g q hq => hq.elim (e.w g q) (fun hq => by rw [hq]; exact hp)⟩
theorem fz_extE {a w : Wd} {p : Addr} (e : Ext a w) (h : a.H p = none) (hp : w.H p ≠ none) : Ext a (fz w p) :=
  ⟨fun q hq => .inl (e.g q hq), fun q hq => hq.elim (e.gn q) (fun hq => .inr (by rw [hq]; exact h)), e.f, e.k, e.i, fun g q hq => hq.elim (e.w g q) (fun hq => by rw [hq]; exact hp)⟩
theorem fz_wk {w : Wd} {p : Addr} : Wk w (fz w p) := ⟨fun _ h => .inl h, ⟨[], by simp [fz]⟩, fun _ _ h _ _ => h⟩
inductive Md where | fr | fz | pk
  deriving DecidableEq
/-- how a value stands for data: a new list that no one else has; no one writes it; or it is but looked at -/
def Post (K : PySem.W.Frag) (m : Md) (w w' : Wd) (d : D) (v : V) : Prop := match m with
  | .pk => RepP K w' d v
  | .fz => Rep K w' d v
  | .fr => (∀ l, d = .lst l → ∃ q vs, v = .ref q ∧ w.H q = none ∧ ¬ w'.G q ∧ w'.H q = some (.lst vs) ∧ RepL K w' l vs) ∧ ((∀ l, d ≠ .lst l) → Rep K w' d v)
theorem post_fr {K : PySem.W.Frag} {w w' : Wd} {d : D} {v : V} (n : ∀ l, d ≠ .lst l) (h : Rep K w' d v) : Post K .fr w w' d v := ⟨fun l e => absurd e (n l), fun _ => h⟩
theorem post_pk {K : PySem.W.Frag} {m : Md} {w w' : Wd} {d : D} {v : V} (h : Post K m w w' d v) : RepP K w' d v := by
  cases m with
  | pk => exact h
  | fz => exact .inl h
  | fr =>
    by_cases q : ∃ l, d = .lst l
    · obtain ⟨l, e⟩ := q
      obtain ⟨q, vs, h1, _, _, h3, h4⟩ := h.1 l e
      exact .inr ⟨l, q, vs, e, h1, h3, h4⟩
    · exact .inl (h.2 fun l e => q ⟨l, e⟩)

/-! ### runs -/
def Run {α : Type} (r : R α) (P : α → Sto → Prop) (X : Str → Sto → Prop) : Prop := match r with
  | .ok a S => P a S
  | .ex c S => X c S
  | .er => False
theorem Run.mono {α : Type} {r : R α} {P P' : α → Sto → Prop} {X X' : Str → Sto → Prop} (h : Run r P X) (hp : ∀ a S, P a S → P' a S) (hx : ∀ c S, X c S → X' c S) : Run r P' X' := by
  cases r with
  | ok a S => exact hp _ _ h
  | ex c S => exact hx _ _ h
  | er => exact h
theorem Run.bind {α β : Type} {m : M α} {f : α → M β} {S : Sto} {P : β → Sto → Prop} {X : Str → Sto → Prop} (h : Run (m.bind f S) P X) : Run (m S) (fun a S' => Run (f a S') P X) X := by
  unfold M.bind at h
  cases q : m S with
  | ok a S' => rw [q] at h; exact h
  | ex c S' => rw [q] at h; exact h
  | er => rw [q] at h; exact h
theorem Run.lift {α : Type} {o : Option α} {S : Sto} {P : α → Sto → Prop} {X : Str → Sto → Prop} (h : Run (M.lift o S) P X) : ∃ a, o = some a ∧ P a S := by
  cases o with
  | none => exact h.elim
  | some a => exact ⟨a, rfl, h⟩
theorem Run.liftB {α β : Type} {o : Option α} {f : α → M β} {S : Sto} {P : β → Sto → Prop} {X : Str → Sto → Prop} (h : Run (((M.lift o).bind f) S) P X) : ∃ a, o = some a ∧ Run (f a S) P X := h.bind.lift
theorem Run.calm {α : Type} {m : M α} {S : Sto} {P : α → Sto → Prop} {X : Str → Sto → Prop} (h : Run (M.calm m S) P X) : Run (m S) P fun _ _ => False := by
  unfold M.calm at h
  cases q : m S with
  | ok a S' => rw [q] at h; exact h
  | ex c S' => rw [q] at h; exact h
  | er => rw [q] at h; exact h

/-! ### objects -/
/-- which class an object is of -/
abbrev CAt := Str → Addr → Prop
def FsRep (K : PySem.W.Frag) (w : Wd) : List (Str × D) → List (Str × V) → Prop
  | [], gs => gs = []
  | (f, d) :: r, gs => ∃ v s, gs = (f, v) :: s ∧ Rep K w d v ∧ FsRep K w r s
structure Sm (CA : CAt) (K : PySem.W.Frag) (w : Wd) (S : Sto) : Prop where
  ok : ∀ p, w.G p → w.H p ≠ none
  len : w.φ.length = S.length
  nd : w.φ.Nodup
  ob : ∀ (n : Nat) (o : Ob) (p : Addr), S[n]? = some o → w.φ[n]? = some p → ∃ C dx fs, CA o.cls C ∧ w.H p = some (.ins C dx fs) ∧ FsRep K w o.fs fs
theorem FsRep.ext {K : PySem.W.Frag} {a b : Wd} (e : Ext a b) : ∀ (fs : List (Str × D)) {gs : List (Str × V)}, FsRep K a fs gs → FsRep K b fs gs
  | [], gs, h => h
  | (f, d) :: r, gs, h => by
    obtain ⟨v, s, h1, h2, h3⟩ := h
    exact ⟨v, s, h1, Rep.ext e d h2, FsRep.ext e r h3⟩
theorem Sm.ext {CA : CAt} {K : PySem.W.Frag} {a b : Wd} {S : Sto} (e : ExtA a b) (h : Sm CA K a S) : Sm CA K b S :=
  ⟨e.w h.ok, by rw [e.f]; exact h.len, by rw [e.f]; exact h.nd, fun n o p h1 h2 => by
    rw [e.f] at h2
    obtain ⟨C, dx, fs, q1, q2, q3⟩ := h.ob n o p h1 h2
    exact ⟨C, dx, fs, q1, e.k _ _ q2, FsRep.ext e.ext _ q3⟩⟩
theorem fz_fs {K : PySem.W.Frag} {w : Wd} {p : Addr} : ∀ (fs : List (Str × D)) {gs : List (Str × V)}, FsRep K w fs gs → FsRep K (fz w p) fs gs
  | [], gs, h => h
  | (f, d) :: r, gs, h => by
    obtain ⟨v, s, h1, h2, h3⟩ := h
    exact ⟨v, s, h1, Rep.wk fz_wk d h2, fz_fs r h3⟩
theorem Sm.fz {CA : CAt} {K : PySem.W.Frag} {w : Wd} {S : Sto} {p : Addr} (h : Sm CA K w S) (hp : w.H p ≠ none) : Sm CA K (fz w p) S :=
  ⟨fun q hq => hq.elim (h.ok q) (fun hq => by rw [hq]; exact hp), h.len, h.nd, fun n o q h1 h2 => by
    obtain ⟨C, dx, fs, q1, q2, q3⟩ := h.ob n o q h1 h2
    exact ⟨C, dx, fs, q1, q2, fz_fs _ q3⟩⟩

/-! ### slots -/
def SlS (K : PySem.W.Frag) (w : Wd) (H0 : Hp) : Sl → Option V → Prop
  | .emp, _ => True
  | .val d, v => ∃ x, v = some x ∧ Rep K w d x
  | .own l, v => ∃ q vs, v = some (.ref q) ∧ H0 q = none ∧ ¬ w.G q ∧ w.H q = some (.lst vs) ∧ RepL K w l vs
structure EnvS (K : PySem.W.Frag) (w : Wd) (H0 : Hp) (ρ : Env) (σ : L2.St) : Prop where
  len : ρ.length = σ.length
  at_ : ∀ (i : Nat) (s : Sl) (v : Option V), ρ[i]? = some s → σ[i]? = some v → SlS K w H0 s v
  ap : ∀ (i j : Nat) (l m : List D) (q : Addr), ρ[i]? = some (.own l) → ρ[j]? = some (.own m) → σ[i]? = some (some (.ref q)) → σ[j]? = some (some (.ref q)) → i = j
theorem SlS.ext {K : PySem.W.Frag} {a b : Wd} {H0 : Hp} (e : Ext a b) : ∀ (s : Sl) {v : Option V}, SlS K a H0 s v → SlS K b H0 s v
  | .emp, v, h => trivial
  | .val d, v, ⟨x, h1, h2⟩ => ⟨x, h1, Rep.ext e d h2⟩
  | .own l, v, ⟨q, vs, h1, h2, h3, h4, h5⟩ => ⟨q, vs, h1, h2, (fun g => (e.gn q g).elim h3 (fun z => by rw [h4] at z; cases z)), e.k _ _ h4 rfl, RepL.ext e l h5⟩
theorem EnvS.ext {K : PySem.W.Frag} {a b : Wd} {H0 : Hp} {ρ : Env} {σ : L2.St} (e : Ext a b) (h : EnvS K a H0 ρ σ) : EnvS K b H0 ρ σ :=
  ⟨h.len, fun i s v h1 h2 => SlS.ext e s (h.at_ i s v h1 h2), h.ap⟩
theorem EnvS.get {K : PySem.W.Frag} {w : Wd} {H0 : Hp} {ρ : Env} {σ : L2.St} (h : EnvS K w H0 ρ σ) {i : Nat} {s : Sl} (e : ρ[i]? = some s) : ∃ v, σ[i]? = some v ∧ SlS K w H0 s v := by
  have hl := (List.getElem?_eq_some_iff.mp e).1
  have : i < σ.length := by rw [← h.len]; exact hl
  exact ⟨σ[i], List.getElem?_eq_getElem this, h.at_ i s _ e (List.getElem?_eq_getElem this)⟩
/-- a name is stored -/
theorem EnvS.put {K : PySem.W.Frag} {w : Wd} {H0 : Hp} {ρ : Env} {σ : L2.St} (h : EnvS K w H0 ρ σ) {i : Nat} {d : D} {v : V} (r : Rep K w d v) : EnvS K w H0 (ρ.set i (.val d)) (σ.set i (some v)) := by
  refine ⟨by simp [h.len], fun j s u h1 h2 => ?_, fun j k l m q h1 h2 h3 h4 => ?_⟩
  · by_cases e : i = j
    · subst e
      have hl : i < ρ.length := by simpa using (List.getElem?_eq_some_iff.mp h1).1
      rw [List.getElem?_set_self hl] at h1
      rw [List.getElem?_set_self (by rw [← h.len]; exact hl)] at h2
      cases h1
      cases h2
      exact ⟨v, rfl, r⟩
    · rw [List.getElem?_set_ne e] at h1 h2
      exact h.at_ j s u h1 h2
  · have ne : ∀ (j : Nat) (l : List D), (ρ.set i (.val d))[j]? = some (.own l) → i ≠ j := fun j l h1 e => by
      subst e
      have hl : i < ρ.length := by simpa using (List.getElem?_eq_some_iff.mp h1).1
      rw [List.getElem?_set_self hl] at h1
      cases h1
    have n1 := ne j l h1
    have n2 := ne k m h2
    rw [List.getElem?_set_ne n1] at h1 h3
    rw [List.getElem?_set_ne n2] at h2 h4
    exact h.ap j k l m q h1 h2 h3 h4
theorem EnvS.clear {K : PySem.W.Frag} {w : Wd} {H0 : Hp} {ρ : Env} {σ : L2.St} (h : EnvS K w H0 ρ σ) (i : Nat) (v : Option V) : EnvS K w H0 (ρ.set i .emp) (σ.set i v) := by
  refine ⟨by simp [h.len], fun j s u h1 h2 => ?_, fun j k l m q h1 h2 h3 h4 => ?_⟩
  · by_cases e : i = j
    · subst e
      have hl : i < ρ.length := by simpa using (List.getElem?_eq_some_iff.mp h1).1
      rw [List.getElem?_set_self hl] at h1
      cases h1
      trivial
    · rw [List.getElem?_set_ne e] at h1 h2
      exact h.at_ j s u h1 h2
  · have ne : ∀ (j : Nat) (l : List D), (ρ.set i .emp)[j]? = some (.own l) → i ≠ j := fun j l h1 e => by
      subst e
      have hl : i < ρ.length := by simpa using (List.getElem?_eq_some_iff.mp h1).1
      rw [List.getElem?_set_self hl] at h1
      cases h1
    have n1 := ne j l h1
    have n2 := ne k m h2
    rw [List.getElem?_set_ne n1] at h1 h3
    rw [List.getElem?_set_ne n2] at h2 h4
    exact h.ap j k l m q h1 h2 h3 h4
theorem EnvS.wipe {K : PySem.W.Frag} {w : Wd} {H0 : Hp} {ρ : Env} {σ : L2.St} (h : EnvS K w H0 ρ σ) : ∀ vs : List Nat, EnvS K w H0 (Ev.wipe ρ vs) (L2.wipe σ vs)
  | [] => h
  | v :: vs => (EnvS.wipe h vs).clear v none
/-- a slot of a new list -/
theorem EnvS.putOwn {K : PySem.W.Frag} {w : Wd} {H0 : Hp} {ρ : Env} {σ : L2.St} (h : EnvS K w H0 ρ σ) {i : Nat} {l : List D} {q : Addr} {vs : List V} (h0 : H0 q = none) (hg : ¬ w.G q) (hq : w.H q = some (.lst vs)) (r : RepL K w l vs)
    (hn : ∀ j m, j ≠ i → ρ[j]? = some (.own m) → σ[j]? ≠ some (some (.ref q))) : EnvS K w H0 (ρ.set i (.own l)) (σ.set i (some (.ref q))) := by
  refine ⟨by simp [h.len], fun j s u h1 h2 => ?_, fun j k l' m' p h1 h2 h3 h4 => ?_⟩
  · by_cases e : i = j
    · subst e
      have hl : i < ρ.length := by simpa using (List.getElem?_eq_some_iff.mp h1).1
      rw [List.getElem?_set_self hl] at h1
      rw [List.getElem?_set_self (by rw [← h.len]; exact hl)] at h2
      cases h1
      cases h2
      exact ⟨q, vs, rfl, h0, hg, hq, r⟩
    · rw [List.getElem?_set_ne e] at h1 h2
      exact h.at_ j s u h1 h2
  · by_cases e : i = j
    · by_cases e2 : i = k
      · exact e.symm.trans e2
      · subst e
        have hl : i < ρ.length := by simpa using (List.getElem?_eq_some_iff.mp h1).1
        rw [List.getElem?_set_self (by rw [← h.len]; exact hl)] at h3
        cases h3
        rw [List.getElem?_set_ne e2] at h2 h4
        exact absurd h4 (hn k m' (Ne.symm e2) h2)
    · by_cases e2 : i = k
      · subst e2
        have hl : i < ρ.length := by simpa using (List.getElem?_eq_some_iff.mp h2).1
        rw [List.getElem?_set_self (by rw [← h.len]; exact hl)] at h4
        cases h4
        rw [List.getElem?_set_ne e] at h1 h3
        exact absurd h3 (hn j l' (Ne.symm e) h1)
      · rw [List.getElem?_set_ne e] at h1 h3
        rw [List.getElem?_set_ne e2] at h2 h4
        exact h.ap j k l' m' p h1 h2 h3 h4
end Ev

end
section
set_option maxRecDepth 100000
set_option maxHeartbeats 2000000
namespace Ev
open PySem PySem.Spec PyProof.Rows L2

/-! ### t * k where it is t itself, or nothing -/
theorem tuple_mulS (l : Addr) (items : Array Value) (n : Nat) (dd : Option Addr) (sl : Array (Option Value)) (x : Int) (u : Tok) (c0 : (decide (x < -(2 ^ 63)) || decide (x ≥ 2 ^ 63)) = false) (c1 : (items.isEmpty || x == 1) = true) :
    Meets (Builtin.«tuple.__mul__» ⟨[.ref l, .int x u], []⟩) (fun _ R s => s.heap.get? l = some { cls := .type "tuple", dict := dd, data := .seq items n, slots := sl } ∧
      R (.ok (.ret (Value.ref l))) s) :=
  .of_wp fun prog w A R s h => by
    obtain ⟨hp, g, d, tk, os⟩ := s
    obtain ⟨hl, h⟩ := h
    have f1 := AutoSeq1.idx_int
    wp_walk using wpAny_loadPart' hl
    repeat (first
      | (refine wpAny_ite_false (decide_eq_false (by rw [c0]; exact Bool.false_ne_true)) ?_; wp_walk using wpAny_loadPart' hl)
      | (refine wpAny_ite_true (decide_eq_true (by rw [c1])) ?_; wp_walk using wpAny_loadPart' hl))
    exact ⟨_, rfl, h⟩
theorem tuple_mul0 (l : Addr) (items : Array Value) (n : Nat) (dd : Option Addr) (sl : Array (Option Value)) (x : Int) (u : Tok) (c0 : (decide (x < -(2 ^ 63)) || decide (x ≥ 2 ^ 63)) = false) (c1 : (items.isEmpty || x == 1) = false) (c2 : (decide (x ≤ 0) || items.isEmpty) = true) :
    Meets (Builtin.«tuple.__mul__» ⟨[.ref l, .int x u], []⟩) (fun _ R s => s.heap.get? l = some { cls := .type "tuple", dict := dd, data := .seq items n, slots := sl } ∧
      R (.ok (.ret (Value.ref s.heap.objs.size))) { s with heap := s.heap.push { cls := Value.type "tuple", data := Data.seq #[] }, toks := s.toks }) :=
  .of_wp fun prog w A R s h => by
    obtain ⟨hp, g, d, tk, os⟩ := s
    obtain ⟨hl, h⟩ := h
    have f1 := AutoSeq1.idx_int
    wp_walk using wpAny_loadPart' hl
    repeat (first
      | (refine wpAny_ite_false (decide_eq_false (by rw [c0]; exact Bool.false_ne_true)) ?_; wp_walk using wpAny_loadPart' hl)
      | (refine wpAny_ite_false (decide_eq_false (by rw [c1]; exact Bool.false_ne_true)) ?_; wp_walk using wpAny_loadPart' hl)
      | (refine wpAny_ite_true (decide_eq_true (by rw [c2])) ?_; wp_walk using wpAny_loadPart' hl))
    exact ⟨_, rfl, h⟩
section
variable {X : Cx}
theorem op_repTS : OpR X (binaryOp .Mult) (fun x y H Q => ∃ l k xs, x = V.ref l ∧ y = V.int k ∧ SqT X.K H l xs ∧ -1000 ≤ k ∧ k ≤ 1000 ∧ (xs = [] ∨ k = 1) ∧ Q (.ref l) H) := by
  intro pins s σ H x y v u Q I rx ry h
  obtain ⟨l, k, xs, rfl, rfl, hT, h1, h2, hz, q⟩ := h
  cases rx
  obtain ⟨t, rfl⟩ := ry
  obtain ⟨its, r, ⟨⟨cls, dd, data, sl⟩, ho, hc, n, hd⟩, hs⟩ := I.tuple hT
  simp only at hc hd
  subst hc hd
  have c0 : (decide (k < -(2 ^ 63)) || decide (k ≥ 2 ^ 63)) = false := by
    rw [decide_eq_false (by omega), decide_eq_false (by omega)] <;> rfl
  have c1 : (its.toArray.isEmpty || k == 1) = true := by
    rcases hz with e | e
    · subst e; cases r; rfl
    · subst e; simp
  exact wpAny_binaryOp_repeat_ref (T := "tuple") (U := "int") (by decide) ⟨_, ho, rfl⟩ (fun s' => typeIs_int s' k t) noFill_tuple_mul F.fills_int_mul F.slot_int_rmul repeat_tuple F.slot_int_index.lookup
    (call_meets F.slot_int_rmul (typeIs_int s k t) F.entry_int_rmul (F.args_int_rmul_2 _ _) (int_rmul_tuple k t l its.toArray n dd sl)
      ⟨ho, rfl, ⟨_, ho, rfl⟩, call_meets F.slot_tuple_mul ⟨_, ho, rfl⟩ F.entry_tuple_mul (F.args_tuple_mul_2 _ _) (tuple_mulS l its.toArray n dd sl k t c0 c1) ⟨ho, ⟨V.ref l, H, I, rfl, q⟩⟩⟩)
theorem op_repT0 : OpR X (binaryOp .Mult) (fun x y H Q => ∃ l k xs, x = V.ref l ∧ y = V.int k ∧ SqT X.K H l xs ∧ -1000 ≤ k ∧ k ≤ 0 ∧ xs ≠ [] ∧ ∀ p, H p = none → Q (.ref p) (upd H p (.tup []))) := by
  intro pins s σ H x y v u Q I rx ry h
  obtain ⟨l, k, xs, rfl, rfl, hT, h1, h2, hz, q⟩ := h
  cases rx
  obtain ⟨t, rfl⟩ := ry
  obtain ⟨its, r, ⟨⟨cls, dd, data, sl⟩, ho, hc, n, hd⟩, hs⟩ := I.tuple hT
  simp only at hc hd
  subst hc hd
  have hi : its.toArray.isEmpty = false := by
    cases r with
    | nil => exact absurd rfl hz
    | cons _ _ => rfl
  have c0 : (decide (k < -(2 ^ 63)) || decide (k ≥ 2 ^ 63)) = false := by
    rw [decide_eq_false (by omega), decide_eq_false (by omega)] <;> rfl
  have c1 : (its.toArray.isEmpty || k == 1) = false := by
    rw [hi, Bool.false_or]
    exact beq_eq_false_iff_ne.mpr (by omega)
  have c2 : (decide (k ≤ 0) || its.toArray.isEmpty) = true := by
    rw [decide_eq_true h2] <;> rfl
  refine wpAny_binaryOp_repeat_ref (T := "tuple") (U := "int") (by decide) ⟨_, ho, rfl⟩ (fun s' => typeIs_int s' k t) noFill_tuple_mul F.fills_int_mul F.slot_int_rmul repeat_tuple F.slot_int_index.lookup
    (call_meets F.slot_int_rmul (typeIs_int s k t) F.entry_int_rmul (F.args_int_rmul_2 _ _) (int_rmul_tuple k t l its.toArray n dd sl)
      ⟨ho, rfl, ⟨_, ho, rfl⟩, call_meets F.slot_tuple_mul ⟨_, ho, rfl⟩ F.entry_tuple_mul (F.args_tuple_mul_2 _ _) (tuple_mul0 l its.toArray n dd sl k t c0 c1 c2) ⟨ho, ?_⟩⟩)
  refine ⟨.ref s.heap.objs.size, _, I.laid (t' := s.toks) (o := .tup []) (fun b ob q => Heap.get?_push_of_some _ q) (Nat.le_refl _) ?_, rfl, q _ (I.hok.fresh (Nat.le_refl _))⟩
  exact ⟨Nat.zero_le _, [], .nil, IsTup.new _ _⟩
/-- x is y, y a truth -/
theorem isT {v : Value} {x : V} {b : Bool} (r : RelV x v) : plainIs v (.bool b) = true ∧ (v == Value.bool b) = decide (x = .bl b) := by
  cases x with
  | non => cases r; exact ⟨rfl, rfl⟩
  | bl a => cases r; refine ⟨rfl, ?_⟩; cases a <;> cases b <;> rfl
  | int _ => obtain ⟨t, rfl⟩ := r; exact ⟨rfl, rfl⟩
  | str _ => obtain ⟨t, rfl⟩ := r; exact ⟨rfl, rfl⟩
  | byt _ => obtain ⟨t, rfl⟩ := r; exact ⟨rfl, rfl⟩
  | flt _ => obtain ⟨t, rfl⟩ := r; exact ⟨rfl, rfl⟩
  | ref _ => cases r; exact ⟨rfl, rfl⟩
  | ty _ => cases r; exact ⟨rfl, rfl⟩
theorem op_isT : OpR X (compareOp .Is) (fun x y H Q => ∃ b, y = .bl b ∧ Q (.bl (decide (x = .bl b))) H) := by
  intro pins s σ H x y v u Q I rx ry h
  obtain ⟨b, rfl, q⟩ := h
  cases (show u = Value.bool b from ry)
  obtain ⟨h1, h2⟩ := isT (b := b) rx
  exact wpAny_is_plain h1 ⟨.bl _, H, I, by rw [h2]; rfl, q⟩
theorem op_isntT : OpR X (compareOp .IsNot) (fun x y H Q => ∃ b, y = .bl b ∧ Q (.bl (!decide (x = .bl b))) H) := by
  intro pins s σ H x y v u Q I rx ry h
  obtain ⟨b, rfl, q⟩ := h
  cases (show u = Value.bool b from ry)
  obtain ⟨h1, h2⟩ := isT (b := b) rx
  exact wpAny_isNot_plain h1 ⟨.bl _, H, I, by rw [h2]; rfl, q⟩
end

/-! ### results -/
section
variable {K : PySem.W.Frag} {w : Wd}
abbrev WOk (w : Wd) : Prop := ∀ p, w.G p → w.H p ≠ none
theorem res_tup {p : Addr} {vs : List V} {ds : List D} (h : w.H p = none) (r : RepL K w ds vs) : Post K .fr w (nw w p (.tup vs)) (.tup ds) (.ref p) :=
  post_fr (fun l e => by cases e) (by simp only [Rep]; exact ⟨p, vs, rfl, .inl upd_same, RepL.ext (nw_ext h).ext ds r⟩)
theorem res_lst {p : Addr} {vs : List V} {ds : List D} (g : WOk w) (h : w.H p = none) (r : RepL K w ds vs) : Post K .fr w (nw w p (.lst vs)) (.lst ds) (.ref p) :=
  ⟨fun l e => by cases e; exact ⟨p, vs, rfl, h, fun q => g p q h, upd_same, RepL.ext (nw_ext h).ext ds r⟩, fun n => absurd rfl (n _)⟩
theorem res_int {i : Int} : Post K .fr w w (.int i) (.int i) := post_fr (fun l e => by cases e) (by simp only [Rep])
theorem res_bl {i : Bool} : Post K .fr w w (.bl i) (.bl i) := post_fr (fun l e => by cases e) (by simp only [Rep])
theorem res_str {i : Str} : Post K .fr w w (.str i) (.str i) := post_fr (fun l e => by cases e) (by simp only [Rep])
end
/-- what a rule by values gives -/
abbrev Give (K : PySem.W.Frag) (w : Wd) (d : D) (Q : VK) : Prop := ∀ w' v, ExtA w w' → Post K .fr w w' d v → Q v w'.H
section
variable {K : PySem.W.Frag} {w : Wd} {Q : VK}
theorem Give.tup {ds : List D} {vs : List V} (k : Give K w (.tup ds) Q) (r : RepL K w ds vs) {p : Addr} (h : w.H p = none) : Q (.ref p) (upd w.H p (.tup vs)) := k (nw w p (.tup vs)) _ (nw_ext h) (res_tup h r)
theorem Give.lst {ds : List D} {vs : List V} (k : Give K w (.lst ds) Q) (g : WOk w) (r : RepL K w ds vs) {p : Addr} (h : w.H p = none) : Q (.ref p) (upd w.H p (.lst vs)) := k (nw w p (.lst vs)) _ (nw_ext h) (res_lst g h r)
theorem Give.int {i : Int} (k : Give K w (.int i) Q) : Q (.int i) w.H := k w _ (.refl w) res_int
theorem Give.bl {i : Bool} (k : Give K w (.bl i) Q) : Q (.bl i) w.H := k w _ (.refl w) res_bl
theorem Give.str {i : Str} (k : Give K w (.str i) Q) : Q (.str i) w.H := k w _ (.refl w) res_str
theorem Give.same {d : D} {v : V} (k : Give K w d Q) (n : ∀ l, d ≠ .lst l) (r : Rep K w d v) : Q v w.H := k w _ (.refl w) (post_fr n r)
end
def Bop.py : Bop → Operator
  | .add => .Add | .sub => .Sub | .mul => .Mult | .fdiv => .FloorDiv | .mod => .Mod
def oB (K : PySem.W.Frag) (o : Bop) : R2 := fun x y H Q => ∃ w dx dy d, w.H = H ∧ WOk w ∧ RepP K w dx x ∧ RepP K w dy y ∧ bop o dx dy = some d ∧ Give K w d Q
theorem op_bop {X : Cx} (o : Bop) : OpR X (binaryOp o.py) (oB X.K o) := by
  intro pins s σ H x y v u Q I rx ry h
  obtain ⟨w, dx, dy, d, rfl, g, hx, hy, hd, k⟩ := h
  have two : ∀ {l : Nat}, (if l ≤ line then some d else none) = some d → l ≤ sizeLine := fun {l} q => by
    by_cases e : l ≤ line
    · rw [← line_eq]; exact e
    · rw [if_neg e] at q; cases q
  cases o with
  | add =>
    cases dx <;> cases dy <;> first | (simp [bop] at hd; done) | skip
    · rename_i i j
      simp only [bop, Option.some.injEq] at hd
      subst hd
      rw [hx.int] at rx; rw [hy.int] at ry
      exact op_add pins s σ w.H _ _ v u Q I rx ry ⟨i, j, rfl, rfl, k.int⟩
    · rename_i i j
      simp only [bop] at hd
      split at hd <;> simp only [Option.some.injEq, reduceCtorEq] at hd
      rename_i hl
      subst hd
      rw [hx.str] at rx; rw [hy.str] at ry
      exact op_add_str pins s σ w.H _ _ v u Q I rx ry ⟨i, j, rfl, rfl, by rw [← line_eq]; exact hl, k.str⟩
    · rename_i i j
      simp only [bop] at hd
      split at hd <;> simp only [Option.some.injEq, reduceCtorEq] at hd
      rename_i hl
      subst hd
      obtain ⟨p, vs, rfl, h3, r3⟩ := hx.lst
      obtain ⟨q, us, rfl, h4, r4⟩ := hy.lst
      exact op_cat pins s σ w.H _ _ v u Q I rx ry ⟨p, q, vs, us, rfl, rfl, h3, h4, by rw [← r3.length, ← r4.length, ← line_eq]; exact hl, fun a ha => k.lst g (r3.append r4) ha⟩
    · rename_i i j
      simp only [bop] at hd
      split at hd <;> simp only [Option.some.injEq, reduceCtorEq] at hd
      rename_i hl
      subst hd
      obtain ⟨p, vs, rfl, h3, r3⟩ := hx.tup
      obtain ⟨q, us, rfl, h4, r4⟩ := hy.tup
      refine op_catA pins s σ w.H _ _ v u Q I rx ry ⟨p, q, vs, us, rfl, rfl, h3.sq, h4.sq, by rw [← r3.length, ← r4.length, ← line_eq]; exact hl, fun e => ?_, fun e e2 => ?_, fun e e2 a ha => k.tup (r3.append r4) ha⟩
      · have := r3.nil_iff.mp e
        subst this
        exact k.same (fun l z => by cases z) (by simp only [Rep]; exact ⟨q, us, rfl, h4, r4⟩)
      · have := r4.nil_iff.mp e2
        subst this
        exact k.same (fun l z => by cases z) (by simp only [Rep]; exact ⟨p, vs, rfl, h3, by rw [List.append_nil]; exact r3⟩)
  | sub =>
    cases dx <;> cases dy <;> first | (simp [bop] at hd; done) | skip
    rename_i i j
    simp only [bop, Option.some.injEq] at hd
    subst hd
    rw [hx.int] at rx; rw [hy.int] at ry
    exact op_sub pins s σ w.H _ _ v u Q I rx ry ⟨i, j, rfl, rfl, k.int⟩
  | mul =>
    cases dx <;> cases dy <;> first | (simp [bop] at hd; done) | skip
    · rename_i i j
      simp only [bop] at hd
      split at hd <;> simp only [Option.some.injEq, reduceCtorEq] at hd
      rename_i hl
      subst hd
      rw [hx.int] at rx; rw [hy.int] at ry
      refine op_mul pins s σ w.H _ _ v u Q I rx ry ⟨i, j, rfl, rfl, ?_, k.int⟩
      simp only [smallI, Bool.or_eq_true, Bool.and_eq_true, decide_eq_true_eq] at hl
      unfold CMul
      omega
    · rename_i l kk
      simp only [bop] at hd
      split at hd <;> simp only [Option.some.injEq, reduceCtorEq] at hd
      rename_i hl
      subst hd
      rw [hy.int] at ry
      obtain ⟨p, vs, rfl, h3, r3⟩ := hx.lst
      have h5 := r3.length
      refine op_rep pins s σ w.H _ _ v u Q I rx ry ⟨p, kk, vs, rfl, rfl, h3, by omega, by omega, ?_, fun a ha => k.lst g (r3.rep _) ha⟩
      rw [sizeLine_eq]
      have a1 : vs.length * kk.toNat ≤ 1000 * 1000 := Nat.mul_le_mul (by omega) (by omega)
      omega
    · rename_i l kk
      simp only [bop] at hd
      split at hd <;> simp only [Option.some.injEq, reduceCtorEq] at hd
      rename_i hl
      subst hd
      rw [hy.int] at ry
      obtain ⟨p, vs, rfl, h3, r3⟩ := hx.tup
      have h5 := r3.length
      by_cases e0 : vs = []
      · have := r3.nil_iff.mp e0
        subst this
        subst e0
        refine op_repTS pins s σ w.H _ _ v u Q I rx ry ⟨p, kk, [], rfl, rfl, h3.sq, hl.1, hl.2.1, .inl rfl, k.same (fun l z => by cases z) ?_⟩
        simp only [Rep]
        exact ⟨p, [], rfl, h3, by simp [RepL]⟩
      · by_cases e1 : kk = 1
        · subst e1
          refine op_repTS pins s σ w.H _ _ v u Q I rx ry ⟨p, 1, vs, rfl, rfl, h3.sq, hl.1, hl.2.1, .inr rfl, k.same (fun l z => by cases z) ?_⟩
          simp only [Rep]
          exact ⟨p, vs, rfl, h3, by simpa using r3⟩
        · by_cases e2 : kk ≤ 0
          · refine op_repT0 pins s σ w.H _ _ v u Q I rx ry ⟨p, kk, vs, rfl, rfl, h3.sq, hl.1, e2, e0, fun a ha => ?_⟩
            have e3 : kk.toNat = 0 := by omega
            rw [e3] at k
            exact k.tup (vs := []) (by simp [RepL]) ha
          · exact op_repT pins s σ w.H _ _ v u Q I rx ry ⟨p, kk, vs, rfl, rfl, h3.sq, e0, by omega, hl.2.1, by omega, fun a ha => k.tup (r3.rep _) ha⟩
  | fdiv =>
    cases dx <;> cases dy <;> first | (simp [bop] at hd; done) | skip
    rename_i i j
    simp only [bop] at hd
    split at hd <;> simp only [Option.some.injEq, reduceCtorEq] at hd
    rename_i hl
    subst hd
    rw [hx.int] at rx; rw [hy.int] at ry
    exact op_fdiv pins s σ w.H _ _ v u Q I rx ry ⟨i, j, rfl, rfl, hl, k.int⟩
  | mod =>
    cases dx <;> cases dy <;> first | (simp [bop] at hd; done) | skip
    rename_i i j
    simp only [bop] at hd
    split at hd <;> simp only [Option.some.injEq, reduceCtorEq] at hd
    rename_i hl
    subst hd
    rw [hx.int] at rx; rw [hy.int] at ry
    exact op_mod pins s σ w.H _ _ v u Q I rx ry ⟨i, j, rfl, rfl, hl, k.int⟩
end Ev

end
section
set_option maxRecDepth 100000
set_option maxHeartbeats 2000000
namespace Ev
open PySem PySem.Spec PyProof.Rows L2

theorem ltCps_iff : ∀ a b : List Nat, ltCps a b = decide (a < b)
  | [], [] => by simp [ltCps]
  | [], _ :: _ => by simp [ltCps]
  | _ :: _, [] => by simp [ltCps]
  | a :: s, b :: t => by
    unfold ltCps
    by_cases e : a = b
    · subst e
      rw [if_pos rfl, ltCps_iff s t]
      by_cases h : s < t
      · rw [decide_eq_true h, decide_eq_true (List.cons_lt_cons_iff.mpr (.inr ⟨rfl, h⟩))]
      · rw [decide_eq_false h, decide_eq_false (fun q => (List.cons_lt_cons_iff.mp q).elim (fun q => absurd q (Nat.lt_irrefl _)) fun q => h q.2)]
    · rw [if_neg e]
      by_cases h : a < b
      · rw [decide_eq_true h, decide_eq_true (List.cons_lt_cons_iff.mpr (.inl h))]
      · rw [decide_eq_false h, decide_eq_false (fun q => (List.cons_lt_cons_iff.mp q).elim h fun q => e q.1)]
theorem any_py : ∀ (l : List D) (x : D) (n : Nat), l.all (okD n) = true → okD n x = true → ((toPyL l).any fun z => PyData.eqv z (toPy x)) = l.any fun y => eqv y x
  | [], _, _, _, _ => rfl
  | d :: ds, x, n, h, h' => by
    simp only [List.all_cons, Bool.and_eq_true] at h
    simp only [toPyL, List.any_cons, eqv_py d x n h.1 h', any_py ds x n h.2 h']
theorem okL_lst {l : List D} (h : l.all (okD 50) = true) : SeqAt.shaped (.list (toPyL l)) = true ∧ SeqAt.shaped (.tuple (toPyL l)) = true := by
  obtain ⟨a, b⟩ := toPy_ok 51 (.lst l) h
  simp only [toPy, PyData.canLay0, PyData.depth] at a b
  unfold SeqAt.shaped
  simp only [PyData.canLay0, PyData.depth, a, Bool.true_and]
  constructor <;> exact decide_eq_true (by omega)
theorem rep_non {K : PySem.W.Frag} {w : Wd} {d : D} {x : V} (h : RepP K w d x) (b : Bool) (e : isD d .non = some b) : decide (x = .non) = b := by
  cases d with
  | non => rw [h.non]; simpa [isD] using e
  | bl _ => rw [h.bl]; simp [isD] at e; subst e; rfl
  | int _ => rw [h.int]; simp [isD] at e; subst e; rfl
  | str _ => rw [h.str]; simp [isD] at e; subst e; rfl
  | lst _ => obtain ⟨p, vs, rfl, _⟩ := h.lst; simp [isD] at e; subst e; rfl
  | tup _ => obtain ⟨p, vs, rfl, _⟩ := h.tup; simp [isD] at e; subst e; rfl
  | scr _ => obtain ⟨p, rfl, _⟩ := h.scr; simp [isD] at e; subst e; rfl
  | obj _ => have r := h.rep (by intro l z; cases z); simp only [Rep] at r; obtain ⟨p, _, rfl⟩ := r; simp [isD] at e; subst e; rfl
  | exc _ => have r := h.rep (by intro l z; cases z); simp only [Rep] at r
  | fn _ => have r := h.rep (by intro l z; cases z); simp only [Rep] at r
theorem rep_true {K : PySem.W.Frag} {w : Wd} {d : D} {x : V} {t : Bool} (h : RepP K w d x) (b : Bool) (e : isD d (.bl t) = some b) : decide (x = .bl t) = b := by
  cases d with
  | non => rw [h.non]; simp [isD] at e; subst e; rfl
  | bl _ => rw [h.bl]; simp [isD] at e; subst e; rename_i a; cases a <;> cases t <;> rfl
  | int _ => rw [h.int]; simp [isD] at e; subst e; rfl
  | str _ => rw [h.str]; simp [isD] at e; subst e; rfl
  | tup _ => obtain ⟨p, vs, rfl, _⟩ := h.tup; simp [isD] at e; subst e; rfl
  | _ => simp [isD] at e
section
variable {X : Cx}
theorem op_inDT (hu : X.A.units + 65 < cLine) : OpR X (compareOp .In) (fun x y H Q => ∃ d ds, Dp X.K H x d ∧ Dp X.K H y (.tuple ds) ∧ SeqAt.shaped d = true ∧ SeqAt.shaped (.tuple ds) = true ∧ Q (.bl (ds.any fun z => PyData.eqv z d)) H) := by
  intro pins s σ H x y v u Q I rx ry h
  obtain ⟨d, ds, hd, he, sd, se, q⟩ := h
  obtain ⟨as, r1⟩ := Dp.reads I d x v hd rx
  obtain ⟨bs, r2⟩ := Dp.reads I (.tuple ds) y u he ry
  exact SeqAt.in_tuple_reads r2 r1 (SeqAt.canLay_of_shaped se) (SeqAt.canLay_of_shaped sd) (room_in_shaped sd hu) ⟨.bl _, H, I, rfl, q⟩
theorem op_notInDT (hu : X.A.units + 65 < cLine) : OpR X (compareOp .NotIn) (fun x y H Q => ∃ d ds, Dp X.K H x d ∧ Dp X.K H y (.tuple ds) ∧ SeqAt.shaped d = true ∧ SeqAt.shaped (.tuple ds) = true ∧ Q (.bl (!ds.any fun z => PyData.eqv z d)) H) := by
  intro pins s σ H x y v u Q I rx ry h
  obtain ⟨d, ds, hd, he, sd, se, q⟩ := h
  obtain ⟨as, r1⟩ := Dp.reads I d x v hd rx
  obtain ⟨bs, r2⟩ := Dp.reads I (.tuple ds) y u he ry
  exact SeqAt.notIn_tuple_reads r2 r1 (SeqAt.canLay_of_shaped se) (SeqAt.canLay_of_shaped sd) (room_in_shaped sd hu) ⟨.bl _, H, I, rfl, q⟩
end
def Cop.py : Cop → CmpOp
  | .eq => .Eq | .ne => .NotEq | .lt => .Lt | .le => .LtE | .gt => .Gt | .ge => .GtE | .isn => .Is | .nis => .IsNot | .inn => .In | .nin => .NotIn
def oC (K : PySem.W.Frag) (o : Cop) : R2 := fun x y H Q => ∃ w dx dy b, w.H = H ∧ RepP K w dx x ∧ RepP K w dy y ∧ cop o dx dy = some b ∧ Q (.bl b) H
/-- two data that may be compared -/
theorem eq_dp {K : PySem.W.Frag} {w : Wd} {dx dy : D} {x y : V} {b : Bool} (hx : RepP K w dx x) (hy : RepP K w dy y) (e : eqD dx dy = some b) :
    ∃ d e, Dp K w.H x d ∧ Dp K w.H y e ∧ SeqAt.shaped d = true ∧ SeqAt.shaped e = true ∧ PyData.eqv d e = b := by
  have gen : (if okD 50 dx && okD 50 dy then some (eqv dx dy) else none) = some b → ∃ d e, Dp K w.H x d ∧ Dp K w.H y e ∧ SeqAt.shaped d = true ∧ SeqAt.shaped e = true ∧ PyData.eqv d e = b := fun e => by
    split at e
    · rename_i h
      simp only [Bool.and_eq_true] at h
      refine ⟨toPy dx, toPy dy, hx.dp h.1, hy.dp h.2, shaped_of h.1, shaped_of h.2, ?_⟩
      rw [eqv_py dx dy 50 h.1 h.2]
      exact Option.some.inj e
    · cases e
  unfold eqD at e
  split at e
  · rename_i l m
    split at e
    · rename_i h
      cases e
      obtain ⟨p, rfl, h1⟩ := hx.scr
      have hm : okD 50 (.lst m) = true := h
      refine ⟨.list (l.map .int), toPy (.lst m), .lst h1 (dpInts l), hy.dp hm, ?_, shaped_of hm, ?_⟩
      · have q : ∀ l : List Int, PyData.canLayAll0 (l.map .int) = true ∧ PyData.depthAll (l.map .int) ≤ 0 := by
          intro l
          induction l with
          | nil => simp [PyData.canLayAll0, PyData.depthAll]
          | cons i l ihl =>
            obtain ⟨a, b⟩ := ihl
            simp only [List.map_cons, PyData.canLayAll0, PyData.depthAll, PyData.canLay0, PyData.depth, a, Bool.and_self, true_and]
            omega
        obtain ⟨a, b⟩ := q l
        unfold SeqAt.shaped
        simp only [PyData.canLay0, PyData.depth, a, Bool.true_and]
        exact decide_eq_true (by omega)
      · simp only [toPy, PyData.eqv]
        exact eqvS_py l m 49 h
    · cases e
  · exact gen e
theorem op_cop {X : Cx} (hu : X.A.units + 70 < cLine) (o : Cop) : OpR X (compareOp o.py) (oC X.K o) := by
  intro pins s σ H x y v u Q I rx ry h
  obtain ⟨w, dx, dy, b, rfl, hx, hy, hb, k⟩ := h
  cases o with
  | eq =>
    obtain ⟨d, e, h1, h2, h3, h4, h5⟩ := eq_dp hx hy hb
    exact op_eqD (by omega) pins s σ w.H _ _ v u Q I rx ry ⟨d, e, h1, h2, h3, h4, by rw [h5]; exact k⟩
  | ne =>
    simp only [cop, Option.map_eq_some_iff] at hb
    obtain ⟨c, hb, rfl⟩ := hb
    obtain ⟨d, e, h1, h2, h3, h4, h5⟩ := eq_dp hx hy hb
    exact op_neD (by omega) pins s σ w.H _ _ v u Q I rx ry ⟨d, e, h1, h2, h3, h4, by rw [h5]; exact k⟩
  | lt =>
    cases dx <;> cases dy <;> first | (simp [cop] at hb; done) | skip
    · simp only [cop, Option.some.injEq] at hb
      subst hb
      rw [hx.int] at rx; rw [hy.int] at ry
      exact op_lt pins s σ w.H _ _ v u Q I rx ry ⟨_, _, rfl, rfl, k⟩
    · simp only [cop, Option.some.injEq] at hb
      subst hb
      rw [hx.str] at rx; rw [hy.str] at ry
      exact op_lt_str pins s σ w.H _ _ v u Q I rx ry ⟨_, _, rfl, rfl, by rw [← ltCps_iff]; exact k⟩
  | le =>
    cases dx <;> cases dy <;> first | (simp [cop] at hb; done) | skip
    · simp only [cop, Option.some.injEq] at hb
      subst hb
      rw [hx.int] at rx; rw [hy.int] at ry
      exact op_le pins s σ w.H _ _ v u Q I rx ry ⟨_, _, rfl, rfl, k⟩
    · simp only [cop, Option.some.injEq] at hb
      subst hb
      rw [hx.str] at rx; rw [hy.str] at ry
      exact op_le_str pins s σ w.H _ _ v u Q I rx ry ⟨_, _, rfl, rfl, by rw [← ltCps_iff]; exact k⟩
  | gt =>
    cases dx <;> cases dy <;> first | (simp [cop] at hb; done) | skip
    simp only [cop, Option.some.injEq] at hb
    subst hb
    rw [hx.int] at rx; rw [hy.int] at ry
    exact op_gt pins s σ w.H _ _ v u Q I rx ry ⟨_, _, rfl, rfl, k⟩
  | ge =>
    cases dx <;> cases dy <;> first | (simp [cop] at hb; done) | skip
    simp only [cop, Option.some.injEq] at hb
    subst hb
    rw [hx.int] at rx; rw [hy.int] at ry
    exact op_ge pins s σ w.H _ _ v u Q I rx ry ⟨_, _, rfl, rfl, k⟩
  | isn =>
    simp only [cop] at hb
    cases dy <;> first | (cases dx <;> simp [isD] at hb; done) | skip
    · rw [hy.non] at ry
      exact op_isN pins s σ w.H _ _ v u Q I rx ry ⟨rfl, by rw [rep_non hx b hb]; exact k⟩
    · rw [hy.bl] at ry
      exact op_isT pins s σ w.H _ _ v u Q I rx ry ⟨_, rfl, by rw [rep_true hx b hb]; exact k⟩
  | nis =>
    simp only [cop, Option.map_eq_some_iff] at hb
    obtain ⟨c, hb, rfl⟩ := hb
    cases dy <;> first | (cases dx <;> simp [isD] at hb; done) | skip
    · rw [hy.non] at ry
      exact op_notN pins s σ w.H _ _ v u Q I rx ry ⟨rfl, by rw [rep_non hx c hb]; exact k⟩
    · rw [hy.bl] at ry
      exact op_isntT pins s σ w.H _ _ v u Q I rx ry ⟨_, rfl, by rw [rep_true hx c hb]; exact k⟩
  | inn =>
    simp only [cop] at hb
    unfold inD at hb
    split at hb
    · rename_i l
      split at hb
      · rename_i h
        cases hb
        simp only [Bool.and_eq_true] at h
        exact op_inD (by omega) pins s σ w.H _ _ v u Q I rx ry ⟨toPy dx, toPyL l, hx.dp h.1, by have := hy.dp (n := 51) (show okD 51 (.lst l) = true from h.2); simpa only [toPy] using this, shaped_of h.1, (okL_lst h.2).1, by rw [any_py l dx 50 h.2 h.1]; exact k⟩
      · cases hb
    · rename_i l
      split at hb
      · rename_i h
        cases hb
        simp only [Bool.and_eq_true] at h
        exact op_inDT (by omega) pins s σ w.H _ _ v u Q I rx ry ⟨toPy dx, toPyL l, hx.dp h.1, by have := hy.dp (n := 51) (show okD 51 (.tup l) = true from h.2); simpa only [toPy] using this, shaped_of h.1, (okL_lst h.2).2, by rw [any_py l dx 50 h.2 h.1]; exact k⟩
      · cases hb
    · rename_i p q
      split at hb
      · rename_i c hc
        cases hb
        obtain ⟨⟨cp⟩⟩ := p
        simp only at hc
        subst hc
        rw [hx.str] at rx; rw [hy.str] at ry
        exact op_in_sign pins s σ w.H _ _ v u Q I rx ry ⟨c, q, rfl, rfl, k⟩
      · cases hb
    · cases hb
  | nin =>
    simp only [cop, Option.map_eq_some_iff] at hb
    obtain ⟨c, hb, rfl⟩ := hb
    unfold inD at hb
    split at hb
    · rename_i l
      split at hb
      · rename_i h
        cases hb
        simp only [Bool.and_eq_true] at h
        exact op_notInD (by omega) pins s σ w.H _ _ v u Q I rx ry ⟨toPy dx, toPyL l, hx.dp h.1, by have := hy.dp (n := 51) (show okD 51 (.lst l) = true from h.2); simpa only [toPy] using this, shaped_of h.1, (okL_lst h.2).1, by rw [any_py l dx 50 h.2 h.1]; exact k⟩
      · cases hb
    · rename_i l
      split at hb
      · rename_i h
        cases hb
        simp only [Bool.and_eq_true] at h
        exact op_notInDT (by omega) pins s σ w.H _ _ v u Q I rx ry ⟨toPy dx, toPyL l, hx.dp h.1, by have := hy.dp (n := 51) (show okD 51 (.tup l) = true from h.2); simpa only [toPy] using this, shaped_of h.1, (okL_lst h.2).2, by rw [any_py l dx 50 h.2 h.1]; exact k⟩
      · cases hb
    · rename_i p q
      split at hb
      · rename_i c hc
        cases hb
        obtain ⟨⟨cp⟩⟩ := p
        simp only at hc
        subst hc
        rw [hx.str] at rx; rw [hy.str] at ry
        exact op_notIn_sign pins s σ w.H _ _ v u Q I rx ry ⟨c, q, rfl, rfl, k⟩
      · cases hb
    · cases hb
end Ev

end
section
set_option maxRecDepth 100000
set_option maxHeartbeats 2000000
namespace Ev
open PySem PySem.Spec PyProof.Rows L2

/-! ### the order of data -/
theorem toPy_inj : ∀ (n : Nat) (a b : D), okD n a = true → okD n b = true → toPy a = toPy b → a = b
  | 0, a, b, h, _, _ => by simp [okD] at h
  | n + 1, a, b, h, h', e => by
    have L : ∀ l m : List D, l.all (okD n) = true → m.all (okD n) = true → toPyL l = toPyL m → l = m := by
      intro l
      induction l with
      | nil => intro m _ _ z; cases m with
        | nil => rfl
        | cons _ _ => simp [toPyL] at z
      | cons x l ih => intro m g g' z; cases m with
        | nil => simp [toPyL] at z
        | cons y m =>
          simp only [List.all_cons, Bool.and_eq_true] at g g'
          simp only [toPyL, List.cons.injEq] at z
          rw [toPy_inj n x y g.1 g'.1 z.1, ih m g.2 g'.2 z.2]
    cases a <;> first
      | (simp [okD] at h; done)
      | (cases b <;> first
          | (simp [okD] at h'; done)
          | (simp [toPy] at e; done)
          | (simp only [toPy, PyData.bool.injEq, PyData.int.injEq, PyData.str.injEq] at e; rw [e]; done)
          | rfl
          | (simp only [toPy, PyData.list.injEq, PyData.tuple.injEq] at e
             simp only [okD] at h h'
             rw [L _ _ h h' e]))
mutual
theorem alk_py : ∀ a b : D, alk a b = true → PySem.W.alike (toPy a) (toPy b) = true
  | .int i, b, h => by cases b <;> simp [alk] at h <;> simp [toPy, PySem.W.alike]
  | .str i, b, h => by cases b <;> simp [alk] at h <;> simp [toPy, PySem.W.alike]
  | .lst l, b, h => by
    cases b <;> simp [alk] at h
    simp only [toPy, PySem.W.alike]
    exact alkL_py _ _ h
  | .tup l, b, h => by
    cases b <;> simp [alk] at h
    simp only [toPy, PySem.W.alike]
    exact alkL_py _ _ h
  | .non, b, h => by simp [alk] at h
  | .bl _, b, h => by simp [alk] at h
  | .scr _, b, h => by simp [alk] at h
  | .obj _, b, h => by simp [alk] at h
  | .exc _, b, h => by simp [alk] at h
  | .fn _, b, h => by simp [alk] at h
theorem alkL_py : ∀ a b : List D, alkL a b = true → PySem.W.alikeAll (toPyL a) (toPyL b) = true
  | [], b, _ => by simp [toPyL, PySem.W.alikeAll]
  | x :: xs, [], _ => by simp [toPyL, PySem.W.alikeAll]
  | x :: xs, y :: ys, h => by
    simp only [alkL, Bool.and_eq_true] at h
    simp only [toPyL, PySem.W.alikeAll, Bool.and_eq_true]
    exact ⟨alk_py _ _ h.1, alkL_py _ _ h.2⟩
end
mutual
theorem alk_symm : ∀ a b : D, alk a b = true → alk b a = true
  | .int i, b, h => by cases b <;> simp [alk] at h <;> simp [alk]
  | .str i, b, h => by cases b <;> simp [alk] at h <;> simp [alk]
  | .lst l, b, h => by
    cases b <;> simp [alk] at h
    simp only [alk]
    exact alkL_symm _ _ h
  | .tup l, b, h => by
    cases b <;> simp [alk] at h
    simp only [alk]
    exact alkL_symm _ _ h
  | .non, b, h => by simp [alk] at h
  | .bl _, b, h => by simp [alk] at h
  | .scr _, b, h => by simp [alk] at h
  | .obj _, b, h => by simp [alk] at h
  | .exc _, b, h => by simp [alk] at h
  | .fn _, b, h => by simp [alk] at h
theorem alkL_symm : ∀ a b : List D, alkL a b = true → alkL b a = true
  | [], [], _ => by simp [alkL]
  | [], y :: ys, _ => by simp [alkL]
  | x :: xs, [], _ => by simp [alkL]
  | x :: xs, y :: ys, h => by
    simp only [alkL, Bool.and_eq_true] at h ⊢
    exact ⟨alk_symm _ _ h.1, alkL_symm _ _ h.2⟩
end
mutual
theorem alk_eqv : ∀ a b : D, alk a b = true → eqv a b = true → a = b
  | .int i, b, h, e => by cases b <;> simp [alk] at h; simp only [eqv, beq_iff_eq] at e; rw [e]
  | .str i, b, h, e => by cases b <;> simp [alk] at h; simp only [eqv, beq_iff_eq] at e; rw [e]
  | .lst l, b, h, e => by
    cases b <;> simp [alk] at h
    simp only [eqv] at e
    rw [alkL_eqv _ _ h e]
  | .tup l, b, h, e => by
    cases b <;> simp [alk] at h
    simp only [eqv] at e
    rw [alkL_eqv _ _ h e]
  | .non, b, h, _ => by simp [alk] at h
  | .bl _, b, h, _ => by simp [alk] at h
  | .scr _, b, h, _ => by simp [alk] at h
  | .obj _, b, h, _ => by simp [alk] at h
  | .exc _, b, h, _ => by simp [alk] at h
  | .fn _, b, h, _ => by simp [alk] at h
theorem alkL_eqv : ∀ a b : List D, alkL a b = true → eqvL a b = true → a = b
  | [], [], _, _ => rfl
  | [], y :: ys, _, e => by simp [eqvL] at e
  | x :: xs, [], _, e => by simp [eqvL] at e
  | x :: xs, y :: ys, h, e => by
    simp only [alkL, eqvL, Bool.and_eq_true] at h e
    rw [alk_eqv _ _ h.1 e.1, alkL_eqv _ _ h.2 e.2]
end
theorem eqv_rf : ∀ (n : Nat) (d : D), okD n d = true → eqv d d = true
  | 0, d, h => by simp [okD] at h
  | n + 1, d, h => by
    have L : ∀ l : List D, l.all (okD n) = true → eqvL l l = true := by
      intro l
      induction l with
      | nil => intro _; simp [eqvL]
      | cons x l ih =>
        intro g
        simp only [List.all_cons, Bool.and_eq_true] at g
        simp only [eqvL, Bool.and_eq_true]
        exact ⟨eqv_rf n x g.1, ih g.2⟩
    cases d <;> first
      | (simp [okD] at h; done)
      | (simp [eqv]; done)
      | (simp only [okD] at h
         simp only [eqv]
         exact L _ h)
theorem eqv_sym {n : Nat} {a b : D} (h : alk a b = true) (ha : okD n a = true) (hb : okD n b = true) : eqv a b = eqv b a := by
  have k := alk_symm _ _ h
  cases q : eqv a b with
  | true =>
    have := alk_eqv _ _ h q
    subst this
    exact q.symm
  | false =>
    cases q2 : eqv b a with
    | false => rfl
    | true =>
      have := alk_eqv _ _ k q2
      subst this
      rw [q2] at q
      cases q
theorem ltCps_lt : ∀ a b : List Nat, ltCps a b = decide (a < b)
  | [], [] => by simp [ltCps]
  | [], _ :: _ => by simp [ltCps]
  | _ :: _, [] => by simp [ltCps]
  | x :: s, y :: t => by
    unfold ltCps
    by_cases e : x = y
    · subst e
      rw [if_pos rfl, ltCps_lt s t]
      exact decide_eq_decide.mpr ⟨fun h => List.cons_lt_cons_iff.mpr (.inr ⟨rfl, h⟩), fun h => (List.cons_lt_cons_iff.mp h).elim (fun z => absurd z (Nat.lt_irrefl _)) (·.2)⟩
    · rw [if_neg e]
      exact decide_eq_decide.mpr ⟨fun h => List.cons_lt_cons_iff.mpr (.inl h), fun h => (List.cons_lt_cons_iff.mp h).elim id fun z => absurd z.1 e⟩
theorem lt_py : ∀ (n : Nat) (a b : D), okD n a = true → okD n b = true → alk a b = true → PySem.W.dataLt (toPy a) (toPy b) = ltv a b
  | 0, a, b, h, _, _ => by simp [okD] at h
  | n + 1, a, b, h, h', k => by
    have L : ∀ l m : List D, l.all (okD n) = true → m.all (okD n) = true → alkL l m = true → PyProof.Rows.lexLt PyProof.Rows.itemOrd (PySem.W.keyToksAll (toPyL l)) (PySem.W.keyToksAll (toPyL m)) = ltvL l m := by
      intro l
      induction l with
      | nil =>
        intro m _ _ _
        cases m with
        | nil => simp only [toPyL, ltvL]; exact PyProof.Rows.lex_irrefl _
        | cons y m =>
          simp only [toPyL, ltvL, PySem.W.keyToksAll]
          rw [PyProof.Rows.lex_diff (by simp)]
          rfl
      | cons x l ih =>
        intro m g g' q
        cases m with
        | nil =>
          simp only [toPyL, ltvL, PySem.W.keyToksAll]
          rw [PyProof.Rows.lex_diff (by simp)]
          rfl
        | cons y m =>
          simp only [List.all_cons, Bool.and_eq_true] at g g'
          simp only [alkL, Bool.and_eq_true] at q
          simp only [toPyL, ltvL]
          rw [PySem.W.dataLt_cons (alk_py _ _ q.1), eqv_py x y n g.1 g'.1, ih m g.2 g'.2 q.2, lt_py n x y g.1 g'.1 q.1]
    cases a <;> first
      | (simp [okD] at h; done)
      | (cases b <;> first
          | (simp [alk] at k; done)
          | (simp only [toPy, ltv, PySem.W.dataLt_int]; done)
          | (simp only [toPy, ltv, PySem.W.dataLt_str, ltCps_lt]; done)
          | (simp only [okD] at h h'
             simp only [alk] at k
             simp only [toPy, ltv]
             first
              | rw [PySem.W.dataLt_list]; exact L _ _ h h' k
              | rw [PySem.W.dataLt_tuple]; exact L _ _ h h' k))
theorem ltv_tot : ∀ (n : Nat) (a b : D), okD n a = true → okD n b = true → alk a b = true → ltv a b = false → ltv b a = false → a = b
  | 0, a, b, h, _, _, _, _ => by simp [okD] at h
  | n + 1, a, b, h, h', k, e, e' => by
    have C : ∀ l m : List Nat, ltCps l m = false → ltCps m l = false → l = m := by
      intro l
      induction l with
      | nil => intro m g g'; cases m with
        | nil => rfl
        | cons _ _ => simp [ltCps] at g
      | cons x l ih => intro m g g'; cases m with
        | nil => simp [ltCps] at g'
        | cons y m =>
          unfold ltCps at g g'
          by_cases q : x = y
          · subst q
            simp only [if_true] at g g'
            rw [ih m g g']
          · rw [if_neg q] at g
            rw [if_neg (Ne.symm q)] at g'
            simp only [decide_eq_false_iff_not] at g g'
            omega
    have L : ∀ l m : List D, l.all (okD n) = true → m.all (okD n) = true → alkL l m = true → ltvL l m = false → ltvL m l = false → l = m := by
      intro l
      induction l with
      | nil => intro m _ _ _ g _; cases m with
        | nil => rfl
        | cons _ _ => simp [ltvL] at g
      | cons x l ih => intro m g g' q z z'; cases m with
        | nil => simp [ltvL] at z'
        | cons y m =>
          simp only [List.all_cons, Bool.and_eq_true] at g g'
          simp only [alkL, Bool.and_eq_true] at q
          simp only [ltvL] at z z'
          rw [← eqv_sym q.1 g.1 g'.1] at z'
          cases r : eqv x y with
          | true =>
            have := alk_eqv _ _ q.1 r
            subst this
            rw [r] at z z'
            simp only [if_true] at z z'
            rw [ih m g.2 g'.2 q.2 z z']
          | false =>
            rw [r] at z z'
            simp only [Bool.false_eq_true, if_false] at z z'
            have := ltv_tot n x y g.1 g'.1 q.1 z z'
            subst this
            rw [eqv_rf n x g.1] at r
            cases r
    cases a <;> first
      | (simp [okD] at h; done)
      | (cases b <;> first
          | (simp [alk] at k; done)
          | (simp only [ltv, decide_eq_false_iff_not] at e e'
             congr 1
             omega)
          | (simp only [ltv] at e e'
             have := C _ _ e e'
             rename_i x y
             obtain ⟨⟨x⟩⟩ := x
             obtain ⟨⟨y⟩⟩ := y
             simp only at this
             subst this
             rfl)
          | (simp only [okD] at h h'
             simp only [alk] at k
             simp only [ltv] at e e'
             rw [L _ _ h h' k e e']))
theorem ordOk_of {l : List D} (h : ordOk l = true) : (∀ a ∈ l, ∀ b ∈ l, alk a b = true) ∧ (∀ a ∈ l, okD 40 a = true) ∧ l.length ≤ line ∧ PySem.W.AllAlike (l.map toPy) ∧ PySem.W.Sortable (l.map toPy) := by
  unfold ordOk at h
  simp only [Bool.and_eq_true, Bool.or_eq_true, List.all_eq_true, decide_eq_true_eq] at h
  obtain ⟨⟨⟨h1, h2⟩, h3⟩, h4⟩ := h
  refine ⟨h1, h2, h3, fun d hd d' hd' => ?_, ?_⟩
  · obtain ⟨b, hb, rfl⟩ := List.mem_map.mp hd
    obtain ⟨b', hb', rfl⟩ := List.mem_map.mp hd'
    exact alk_py _ _ (h1 _ hb _ hb')
  · rcases h4 with h4 | h4
    · refine .inl fun d hd => ?_
      obtain ⟨b, hb, rfl⟩ := List.mem_map.mp hd
      have := h4 b hb
      split at this
      · exact ⟨_, _, by simp only [toPy, toPyL]; rfl⟩
      · cases this
    · refine .inr fun d hd => ?_
      obtain ⟨b, hb, rfl⟩ := List.mem_map.mp hd
      have g := h4 b hb
      have g1 := h1 b hb b hb
      cases b with
      | non => simp [alk] at g1
      | tup _ => simp at g
      | bl _ => simp [alk] at g1
      | scr _ => simp [alk] at g1
      | obj _ => simp [alk] at g1
      | exc _ => simp [alk] at g1
      | fn _ => simp [alk] at g1
      | _ => simp [toPy]
/-- the order of the machine -/
def ltm (a b : D) : Bool := PySem.W.dataLt (toPy a) (toPy b)
theorem ltm_tr {a b c : D} (h : ltm b a = false) (h' : ltm c b = false) : ltm c a = false := by
  cases q : ltm c a with
  | false => rfl
  | true =>
    rcases PyProof.Rows.lex_negTrans _ (PySem.W.keyToks (toPy b)) _ q with z | z
    · rw [show ltm c b = true from z] at h'; cases h'
    · rw [show ltm b a = true from z] at h; cases h
theorem ltm_as {a b : D} (h : ltm a b = true) : ltm b a = false := by
  cases q : ltm b a with
  | false => rfl
  | true =>
    have := PyProof.Rows.lex_trans _ _ _ h q
    rw [PyProof.Rows.lex_irrefl] at this
    cases this
theorem insV_perm (lt : D → D → Bool) (x : D) : ∀ l, (insG lt x l).Perm (x :: l)
  | [] => .refl _
  | y :: r => by
    unfold insG
    split
    · exact ((insV_perm lt x r).cons y).trans (List.Perm.swap x y r)
    · exact .refl _
theorem sortV_perm (lt : D → D → Bool) : ∀ l : List D, (sortG lt l).Perm l
  | [] => .refl _
  | x :: r => (insV_perm lt x _).trans ((sortV_perm lt r).cons x)
theorem insG_congr {lt lt' : D → D → Bool} {P : D → Prop} (h : ∀ a b, P a → P b → lt a b = lt' a b) (x : D) (hx : P x) : ∀ l, (∀ a ∈ l, P a) → insG lt x l = insG lt' x l
  | [], _ => rfl
  | y :: r, hl => by
    unfold insG
    rw [h y x (hl y List.mem_cons_self) hx, insG_congr h x hx r fun a ha => hl a (List.mem_cons_of_mem _ ha)]
theorem sortG_congr {lt lt' : D → D → Bool} {P : D → Prop} (h : ∀ a b, P a → P b → lt a b = lt' a b) : ∀ l, (∀ a ∈ l, P a) → sortG lt l = sortG lt' l
  | [], _ => rfl
  | y :: r, hl => by
    have hr := fun a ha => hl a (List.mem_cons_of_mem y ha)
    unfold sortG
    rw [← sortG_congr h r hr]
    exact insG_congr h y (hl y List.mem_cons_self) _ fun a ha => hr a ((sortV_perm lt r).mem_iff.mp ha)
theorem insV_srt (x : D) : ∀ l, l.Pairwise (fun a b => ltm b a = false) → (insG ltm x l).Pairwise fun a b => ltm b a = false
  | [], _ => by simp [insG]
  | y :: r, h => by
    unfold insG
    have h' := List.pairwise_cons.mp h
    split
    · rename_i c
      refine List.pairwise_cons.mpr ⟨fun z hz => ?_, insV_srt x r h'.2⟩
      rcases List.mem_cons.mp ((insV_perm ltm x r).mem_iff.mp hz) with e | e
      · subst e; exact ltm_as c
      · exact h'.1 z e
    · rename_i c
      have c' : ltm y x = false := by simpa using c
      refine List.pairwise_cons.mpr ⟨fun z hz => ?_, h⟩
      rcases List.mem_cons.mp hz with e | e
      · subst e; exact c'
      · exact ltm_tr c' (h'.1 z e)
theorem sortV_srt : ∀ l : List D, (sortG ltm l).Pairwise fun a b => ltm b a = false
  | [] => by simp [sortG]
  | x :: r => insV_srt x _ (sortV_srt r)
theorem srtV_uniq : ∀ {l m : List D}, (∀ a ∈ l, ∀ b ∈ l, ltm a b = false → ltm b a = false → a = b) → l.Perm m → l.Pairwise (fun a b => ltm b a = false) → m.Pairwise (fun a b => ltm b a = false) → l = m
  | [], m, _, p, _, _ => by simpa using p.symm
  | x :: l, [], _, p, _, _ => absurd p.length_eq (by simp)
  | x :: l, y :: m, tot, p, h, h' => by
    have a := List.pairwise_cons.mp h
    have b := List.pairwise_cons.mp h'
    have e : x = y := by
      rcases List.mem_cons.mp (p.mem_iff.mp List.mem_cons_self) with e | e
      · exact e
      · have hy := p.mem_iff.mpr List.mem_cons_self
        rcases List.mem_cons.mp hy with e2 | e2
        · exact e2.symm
        · exact tot x List.mem_cons_self y hy (b.1 x e) (a.1 y e2)
    subst e
    rw [srtV_uniq (fun a ha b hb => tot a (List.mem_cons_of_mem _ ha) b (List.mem_cons_of_mem _ hb)) (p.cons_inv) a.2 b.2]
theorem sortV_eq {l : List D} (h : ordOk l = true) : l.mergeSort (PySem.W.dataLe false toPy) = sortG ltv l := by
  obtain ⟨h1, h2, _⟩ := ordOk_of h
  rw [sortG_congr (lt := ltv) (lt' := ltm) (P := fun a => a ∈ l) (fun a b ha hb => (lt_py 40 a b (h2 a ha) (h2 b hb) (h1 a ha b hb)).symm) l fun a ha => ha]
  have pm := List.mergeSort_perm l (PySem.W.dataLe false toPy)
  refine srtV_uniq (fun a ha b hb e e' => ?_) (pm.trans (sortV_perm ltm l).symm) ?_ (sortV_srt l)
  · have ma := pm.mem_iff.mp ha
    have mb := pm.mem_iff.mp hb
    rw [ltm, lt_py 40 a b (h2 a ma) (h2 b mb) (h1 a ma b mb)] at e
    rw [ltm, lt_py 40 b a (h2 b mb) (h2 a ma) (h1 b mb a ma)] at e'
    exact ltv_tot 40 a b (h2 a ma) (h2 b mb) (h1 a ma b mb) e e'
  · have le : ∀ a b : D, PySem.W.dataLe false toPy a b = !ltm b a := fun a b => by rw [PySem.W.dataLe_eq]; rfl
    refine (List.pairwise_mergeSort (le := PySem.W.dataLe false toPy) (fun a b c q q' => ?_) (fun a b => ?_) l).imp fun {a b} q => ?_
    · rw [le, Bool.not_eq_true'] at q q' ⊢
      exact ltm_tr q q'
    · rw [le, le]
      cases z : ltm b a with
      | false => rfl
      | true => rw [ltm_as z]; rfl
    · rw [le, Bool.not_eq_true'] at q
      exact q
theorem minD_eq {x : D} {l : List D} (h : ordOk (x :: l) = true) : PySem.W.minD (toPy x) (l.map toPy) = toPy (minV x l) ∧ minV x l ∈ x :: l := by
  obtain ⟨h1, h2, _⟩ := ordOk_of h
  have go : ∀ (m : List D) (a : D), a ∈ x :: l → (∀ y ∈ m, y ∈ x :: l) → PySem.W.minD (toPy a) (m.map toPy) = toPy (minV a m) ∧ minV a m ∈ x :: l := by
    intro m
    induction m with
    | nil => intro a ha _; exact ⟨rfl, ha⟩
    | cons y m ih =>
      intro a ha hm
      have hy := hm y List.mem_cons_self
      have e := lt_py 40 y a (h2 y hy) (h2 a ha) (h1 y hy a ha)
      have s1 : PySem.W.minD (toPy a) ((y :: m).map toPy) = PySem.W.minD (if PySem.W.dataLt (toPy y) (toPy a) then toPy y else toPy a) (m.map toPy) := rfl
      have s2 : minV a (y :: m) = minV (if ltv y a then y else a) m := rfl
      rw [s1, s2, e]
      cases ltv y a with
      | true => exact ih y hy fun z hz => hm z (List.mem_cons_of_mem _ hz)
      | false => exact ih a ha fun z hz => hm z (List.mem_cons_of_mem _ hz)
  exact go l x List.mem_cons_self fun y hy => List.mem_cons_of_mem _ hy
theorem toPyL_map : ∀ l : List D, toPyL l = l.map toPy
  | [] => rfl
  | x :: l => by simp only [toPyL, List.map_cons, toPyL_map l]
theorem depth_all : ∀ (l : List D), (∀ a ∈ l, okD 40 a = true) → PyData.depthAll (l.map toPy) ≤ 40
  | [], _ => by simp [PyData.depthAll]
  | x :: l, h => by
    simp only [List.map_cons, PyData.depthAll]
    have := (toPy_ok 40 x (h x List.mem_cons_self)).2
    have := depth_all l fun a ha => h a (List.mem_cons_of_mem _ ha)
    omega
end Ev

end
section
set_option maxRecDepth 100000
set_option maxHeartbeats 2000000
namespace Ev
open PySem PySem.Spec PyProof.Rows L2

/-! ### sorting -/
section
variable {α : Type} {lt : α → α → Bool}
theorem insG_perm (x : α) : ∀ l, (insG lt x l).Perm (x :: l)
  | [] => .refl _
  | y :: r => by
    unfold insG
    split
    · exact ((insG_perm x r).cons y).trans (List.Perm.swap x y r)
    · exact .refl _
theorem sortG_perm : ∀ l : List α, (sortG lt l).Perm l
  | [] => .refl _
  | x :: r => (insG_perm x _).trans ((sortG_perm r).cons x)
theorem insG_srt (tot : ∀ a b, lt a b = false → lt b a = false → a = b) (tr : ∀ a b c, lt b a = false → lt c b = false → lt c a = false) (as : ∀ a b, lt a b = true → lt b a = false) (x : α) :
    ∀ l, l.Pairwise (fun a b => lt b a = false) → (insG lt x l).Pairwise fun a b => lt b a = false
  | [], _ => by simp [insG]
  | y :: r, h => by
    unfold insG
    have h' := List.pairwise_cons.mp h
    split
    · rename_i c
      refine List.pairwise_cons.mpr ⟨fun z hz => ?_, insG_srt tot tr as x r h'.2⟩
      rcases List.mem_cons.mp ((insG_perm x r).mem_iff.mp hz) with e | e
      · subst e; exact as _ _ c
      · exact h'.1 z e
    · rename_i c
      have c' : lt y x = false := by simpa using c
      refine List.pairwise_cons.mpr ⟨fun z hz => ?_, h⟩
      rcases List.mem_cons.mp hz with e | e
      · subst e; exact c'
      · exact tr x y z c' (h'.1 z e)
theorem sortG_srt (tot : ∀ a b, lt a b = false → lt b a = false → a = b) (tr : ∀ a b c, lt b a = false → lt c b = false → lt c a = false) (as : ∀ a b, lt a b = true → lt b a = false) :
    ∀ l : List α, (sortG lt l).Pairwise fun a b => lt b a = false
  | [] => by simp [sortG]
  | x :: r => insG_srt tot tr as x _ (sortG_srt tot tr as r)
/-- two sorted lists of the same items are one -/
theorem srt_uniq (tot : ∀ a b, lt a b = false → lt b a = false → a = b) : ∀ {l m : List α}, l.Perm m → l.Pairwise (fun a b => lt b a = false) → m.Pairwise (fun a b => lt b a = false) → l = m
  | [], m, p, _, _ => by simpa using p.symm
  | x :: l, [], p, _, _ => absurd p.length_eq (by simp)
  | x :: l, y :: m, p, h, h' => by
    have a := List.pairwise_cons.mp h
    have b := List.pairwise_cons.mp h'
    have e : x = y := by
      rcases List.mem_cons.mp (p.mem_iff.mp List.mem_cons_self) with e | e
      · exact e
      · rcases List.mem_cons.mp (p.mem_iff.mpr List.mem_cons_self) with e2 | e2
        · exact e2.symm
        · exact tot x y (b.1 x e) (a.1 y e2)
    subst e
    rw [srt_uniq tot (p.cons_inv) a.2 b.2]
end
theorem ltI_tot (a b : Int) (h : ltI a b = false) (h' : ltI b a = false) : a = b := by
  simp only [ltI, decide_eq_false_iff_not] at h h'; omega
theorem ltI_tr (a b c : Int) (h : ltI b a = false) (h' : ltI c b = false) : ltI c a = false := by
  simp only [ltI, decide_eq_false_iff_not] at h h' ⊢; omega
theorem ltI_as (a b : Int) (h : ltI a b = true) : ltI b a = false := by
  simp only [ltI, decide_eq_false_iff_not, decide_eq_true_eq] at h ⊢; omega
theorem ltP_f (a b : Int × Int) : ltP a b = false ↔ ¬ (a.1 < b.1 ∨ (a.1 = b.1 ∧ a.2 < b.2)) := by
  unfold ltP
  rw [← Bool.not_eq_true, Bool.or_eq_true, Bool.and_eq_true, decide_eq_true_eq, decide_eq_true_eq, decide_eq_true_eq]
theorem ltP_t (a b : Int × Int) : ltP a b = true ↔ (a.1 < b.1 ∨ (a.1 = b.1 ∧ a.2 < b.2)) := by
  unfold ltP
  rw [Bool.or_eq_true, Bool.and_eq_true, decide_eq_true_eq, decide_eq_true_eq, decide_eq_true_eq]
theorem ltP_tot (a b : Int × Int) (h : ltP a b = false) (h' : ltP b a = false) : a = b := by
  rw [ltP_f] at h h'
  exact Prod.ext (by omega) (by omega)
theorem ltP_tr (a b c : Int × Int) (h : ltP b a = false) (h' : ltP c b = false) : ltP c a = false := by
  rw [ltP_f] at h h' ⊢; omega
theorem ltP_as (a b : Int × Int) (h : ltP a b = true) : ltP b a = false := by
  rw [ltP_f]; rw [ltP_t] at h; omega
theorem maxI_mem : ∀ (l : List Int) (m : Int), maxI m l ∈ m :: l
  | [], m => by simp [maxI]
  | x :: r, m => by
    unfold maxI
    have := maxI_mem r (if m < x then x else m)
    rcases List.mem_cons.mp this with e | e
    · rw [e]; split <;> simp
    · exact List.mem_cons_of_mem _ (List.mem_cons_of_mem _ e)
theorem maxI_ge : ∀ (l : List Int) (m : Int), ∀ y ∈ m :: l, y ≤ maxI m l
  | [], m, y, h => by simp at h; subst h; simp [maxI]
  | x :: r, m, y, h => by
    unfold maxI
    have g := maxI_ge r (if m < x then x else m)
    have g0 := g _ List.mem_cons_self
    rcases List.mem_cons.mp h with e | e
    · subst e; split at g0 <;> rename_i c <;> simp only [c, if_true, if_false] <;> omega
    · rcases List.mem_cons.mp e with e | e
      · subst e; split at g0 <;> rename_i c <;> simp only [c, if_true, if_false] <;> omega
      · exact g y (List.mem_cons_of_mem _ e)
theorem minI_mem : ∀ (l : List Int) (m : Int), minI m l ∈ m :: l
  | [], m => by simp [minI]
  | x :: r, m => by
    unfold minI
    have := minI_mem r (if x < m then x else m)
    rcases List.mem_cons.mp this with e | e
    · rw [e]; split <;> simp
    · exact List.mem_cons_of_mem _ (List.mem_cons_of_mem _ e)
theorem minI_le : ∀ (l : List Int) (m : Int), ∀ y ∈ m :: l, minI m l ≤ y
  | [], m, y, h => by simp at h; subst h; simp [minI]
  | x :: r, m, y, h => by
    unfold minI
    have g := minI_le r (if x < m then x else m)
    have g0 := g _ List.mem_cons_self
    rcases List.mem_cons.mp h with e | e
    · subst e; split at g0 <;> rename_i c <;> simp only [c, if_true, if_false] <;> omega
    · rcases List.mem_cons.mp e with e | e
      · subst e; split at g0 <;> rename_i c <;> simp only [c, if_true, if_false] <;> omega
      · exact g y (List.mem_cons_of_mem _ e)

/-! ### sum of a tuple -/
section
variable {X : Cx}
theorem cr_sumT (hc : X.calm = true) : CallR X (.builtin "sum") (fun vs H Q => ∃ (a : Addr) (ns : List Int), vs = [V.ref a] ∧ SqT X.K H a (ns.map V.int) ∧ Q (.int ns.sum) H) := by
  intro pins s σ H vs us Q I r h
  obtain ⟨a, ns, rfl, hs, q⟩ := h
  obtain ⟨its, rv, ht, _⟩ := I.tuple hs
  rw [Vals.ref1 r]
  have hi : IntsAre its ns := rv.ints
  have hl : s.heap.IsTuple a its.toArray := ht
  obtain ⟨xs, hx⟩ := hi.allInts.items
  have hn : numsOf its.toArray.toList = ns := by rw [show its.toArray.toList = its from rfl, hi.numsOf]
  rw [hx] at hl hn
  rw [PySem.nums_intItems] at hn
  refine PySem.W.ktm_sumG (I.ok.hd hc) hl fun h' tk t' hk => ?_
  refine ⟨.int ns.sum, H, I.kept hk, ⟨t', ?_⟩, q⟩
  rw [PySem.preSum_eq, List.take_of_length_le (by simp), hn]
end
def RepPL (K : PySem.W.Frag) (w : Wd) : List D → List V → Prop
  | [], vs => vs = []
  | d :: ds, vs => ∃ v r, vs = v :: r ∧ RepP K w d v ∧ RepPL K w ds r
theorem RepPL.ext {K : PySem.W.Frag} {a b : Wd} (e : Ext a b) : ∀ (ds : List D) {vs : List V}, RepPL K a ds vs → RepPL K b ds vs
  | [], vs, h => h
  | d :: ds, vs, ⟨v, r, h1, h2, h3⟩ => ⟨v, r, h1, h2.ext e, RepPL.ext e ds h3⟩
def keyP (w : Wd) : V → Int × Int
  | .ref t => match w.H t with
    | some (.tup [.int i, .int j]) => (i, j)
    | _ => (0, 0)
  | _ => (0, 0)
theorem prs_rep {K : PySem.W.Frag} {w : Wd} : ∀ {ds : List D} {vs : List V} {ps : List (Int × Int)}, RepL K w ds vs → prsOf ds = some ps → ds = ps.map (fun p => .tup [.int p.1, .int p.2]) ∧
    vs.map (keyP w) = ps ∧ ∀ v ∈ vs, ∃ q, v = .ref q ∧ w.H q = some (.tup [.int (keyP w v).1, .int (keyP w v).2])
  | [], vs, ps, h, e => by simp only [RepL] at h; simp [prsOf] at e; subst h e; exact ⟨rfl, rfl, fun v q => by simp at q⟩
  | d :: ds, vs, ps, h, e => by
    simp only [RepL] at h
    obtain ⟨x, r, rfl, h2, h3⟩ := h
    unfold prsOf at e
    split at e
    · rename_i he; cases he
    rotate_left
    · cases e
    rename_i i j r' e'
    obtain ⟨rfl, rfl⟩ := List.cons.inj e'
    simp only [Option.map_eq_some_iff] at e
    obtain ⟨ms, e1, rfl⟩ := e
    obtain ⟨q1, q2, q3⟩ := prs_rep h3 e1
    simp only [Rep] at h2
    obtain ⟨p, us, rfl, g2, g3⟩ := h2
    simp only [RepL, Rep] at g3
    obtain ⟨_, _, rfl, rfl, _, _, rfl, rfl, rfl⟩ := g3
    have g4 : w.H p = some (.tup [.int i, .int j]) := by
      rcases g2 with g2 | ⟨_, _, g2⟩
      · exact g2
      · obtain ⟨s, z⟩ := g2 _ List.mem_cons_self
        cases z
    have g5 : keyP w (.ref p) = (i, j) := by unfold keyP; simp only; rw [g4]
    refine ⟨by rw [q1]; rfl, by rw [List.map_cons, g5, q2], fun v hv => ?_⟩
    rcases List.mem_cons.mp hv with e | e
    · subst e; exact ⟨p, rfl, by rw [g5]; exact g4⟩
    · exact q3 v e
def Blt.name : Blt → String
  | .len => "len" | .sum => "sum" | .max => "max" | .min => "min" | .abs => "abs" | .all => "all" | .any => "any" | .sorted => "sorted" | .tuple => "tuple" | .list => "list" | .int => "int" | .str => "str"
def Blt.isTy : Blt → Bool
  | .tuple => true | .list => true | .int => true | .str => true | _ => false
def Blt.val (b : Blt) : Value := if b.isTy then .type b.name else .builtin b.name
section
variable {X : Cx}
theorem each_rep {K : PySem.W.Frag} {w : Wd} : ∀ {ds : List D} {vs : List V} {us : List Value}, RepL K w ds vs → Vals vs us → PySem.W.EachIs (fun (u : Value) (d : D) => ∃ v, RelV v u ∧ Rep K w d v) us ds
  | [], _, _, h, r => by
    simp only [RepL] at h
    subst h
    cases r
    exact .nil
  | d :: ds, _, _, h, r => by
    simp only [RepL] at h
    obtain ⟨x, q, rfl, h2, h3⟩ := h
    cases r with
    | cons a b => exact .cons ⟨x, a, h2⟩ (each_rep h3 b)
theorem rep_each {K : PySem.W.Frag} {w : Wd} : ∀ {us : List Value} {ds : List D}, PySem.W.EachIs (fun (u : Value) (d : D) => ∃ v, RelV v u ∧ Rep K w d v) us ds → ∃ vs, Vals vs us ∧ RepL K w ds vs
  | _, _, .nil => ⟨[], .nil, by simp only [RepL]⟩
  | _, _, .cons ⟨v, h1, h2⟩ t => by
    obtain ⟨vs, g1, g2⟩ := rep_each t
    exact ⟨v :: vs, .cons h1 g1, by simp only [RepL]; exact ⟨v, vs, rfl, h2, g2⟩⟩
theorem cr_minV (hc : X.calm = true) (hu : X.A.units + 70 < cLine) : CallR X (.builtin "min") (fun vs H Q => ∃ w x r p xs, w.H = H ∧ vs = [V.ref p] ∧ SqL X.K H p xs ∧ RepL X.K w (x :: r) xs ∧ ordOk (x :: r) = true ∧ ∀ v, Rep X.K w (minV x r) v → Q v H) := by
  intro pins s σ H vs us Q I rr h
  obtain ⟨w, x, r, p, xs, rfl, rfl, hs, hr, ho, k⟩ := h
  obtain ⟨h1, h2, h3, _⟩ := ordOk_of ho
  obtain ⟨its, rv, hl, hz⟩ := I.list hs
  rw [Vals.ref1 rr]
  have hall : (x :: r).all (okD 40) = true := List.all_eq_true.mpr h2
  obtain ⟨as, ra⟩ := Dp.readsAll I (toPyL (x :: r)) xs its (RepL.dp 40 _ _ hall hr) rv
  rw [toPyL_map] at ra
  obtain ⟨e1, e2⟩ := minD_eq ho
  have alk' : ∀ y ∈ (x :: r).map toPy, ∀ z ∈ (x :: r).map toPy, PySem.W.alike y z = true := fun y hy z hz => by
    obtain ⟨a, ha, rfl⟩ := List.mem_map.mp hy
    obtain ⟨b, hb, rfl⟩ := List.mem_map.mp hz
    exact alk_py _ _ (h1 a ha b hb)
  have nn : ∀ y ∈ (x :: r).map toPy, y ≠ .none := fun y hy => by
    obtain ⟨a, ha, rfl⟩ := List.mem_map.mp hy
    have := h1 a ha a ha
    cases a <;> simp [alk] at this <;> simp [toPy]
  refine PySem.W.min_list_data (s := s) (I.ok.hd hc) hl.isList (x := toPy x) (xs := r.map toPy) ra ⟨alk', nn⟩ (by have := depth_all (x :: r) h2; show X.A.units + 1 + PyData.depthAll ((x :: r).map toPy) < cLine; omega) fun i v h' tk bs hv r' hk => ?_
  have hi : i < its.length := by simpa using (Array.getElem?_eq_some_iff.mp hv).1
  have hix : i < (x :: r).length := by rw [hr.length, rv.length]; exact hi
  obtain ⟨y, g1, g2⟩ := hr.get (List.getElem?_eq_getElem hix)
  obtain ⟨u, g3, g4⟩ := rv.get g1
  have eu : u = v := by
    have : its[i]? = some v := by simpa using hv
    rw [g3] at this
    exact Option.some.inj this
  subst eu
  have hm := List.getElem_mem hix
  obtain ⟨as2, rd⟩ := Dp.reads I _ _ _ (Rep.dp 40 _ _ (h2 _ hm) g2) g4
  rw [e1] at r'
  have ed := PySem.W.alike_unique _ _ _ _ _ (alk_py _ _ (h1 _ hm _ e2)) (PySem.W.reads_keeps hk rd) r'
  have ed := toPy_inj 40 _ _ (h2 _ hm) (h2 _ e2) ed
  exact ⟨y, w.H, I.kept (t' := tk) hk, g4, k y (by rw [← ed]; exact g2)⟩
theorem cr_sortV (hu : X.A.units + 70 < cLine) : CallR X (.builtin "sorted") (fun vs H Q => ∃ w ds p xs, w.H = H ∧ vs = [V.ref p] ∧ SqL X.K H p xs ∧ RepL X.K w ds xs ∧ ordOk ds = true ∧ ∀ ys q, RepL X.K w (sortG ltv ds) ys → H q = none → Q (.ref q) (upd H q (.lst ys))) := by
  intro pins s σ H vs us Q I rr h
  obtain ⟨w, ds, p, xs, rfl, rfl, hs, hr, ho, k⟩ := h
  obtain ⟨h1, h2, h3, h4, h5⟩ := ordOk_of ho
  obtain ⟨its, rv, hl, hz⟩ := I.list hs
  rw [Vals.ref1 rr]
  have hall : ds.all (okD 40) = true := List.all_eq_true.mpr h2
  obtain ⟨as, ra⟩ := Dp.readsAll I (toPyL ds) xs its (RepL.dp 40 _ _ hall hr) rv
  rw [toPyL_map] at ra
  refine PySem.W.sorted_data (s := s) (vs := its) (bs := ds) (enc := toPy) hl.isList (each_rep hr rv) (PySem.W.readsAll_each toPy ra) h4 h5 (by rw [← line_eq]; exact h3) (fun b hb => by have := (toPy_ok 40 b (h2 b hb)).2; omega) fun out h1' h2' => ?_
  rw [sortV_eq ho] at h2'
  obtain ⟨ys, g1, g2⟩ := rep_each h2'
  obtain ⟨ep, he'⟩ := PyProof.Rows.sortedAll_at s.heap its out.toArray
  have hlen : ys.length ≤ sizeLine := by rw [← g2.length, (sortV_perm ltv ds).length_eq, ← line_eq]; exact h3
  exact ⟨.ref _, upd w.H (s.heap.objs.size + 1) (.lst ys), I.laid (t' := s.toks) (fun _ _ => PyProof.Rows.sortedAll_old) (Nat.le_succ _) ⟨hlen, out, ep, g1, he'⟩, rfl, k ys _ g2 (I.hok.fresh (Nat.le_succ _))⟩
end
/-- built-ins by data -/
def oF (K : PySem.W.Frag) (b : Blt) : List V → Hp → VK → Prop := fun vs H Q => ∃ w ds d, w.H = H ∧ WOk w ∧ RepPL K w ds vs ∧ blt b ds = some d ∧ Give K w d Q
theorem one {K : PySem.W.Frag} {w : Wd} {d : D} {vs : List V} (h : RepPL K w [d] vs) : ∃ v, vs = [v] ∧ RepP K w d v := by
  obtain ⟨v, r, rfl, h2, h3⟩ := h
  simp only [RepPL] at h3
  subst h3
  exact ⟨v, rfl, h2⟩
theorem two {K : PySem.W.Frag} {w : Wd} {d e : D} {vs : List V} (h : RepPL K w [d, e] vs) : ∃ v u, vs = [v, u] ∧ RepP K w d v ∧ RepP K w e u := by
  obtain ⟨v, r, rfl, h2, h3⟩ := h
  obtain ⟨u, rfl, h4⟩ := one h3
  exact ⟨v, u, rfl, h2, h4⟩
theorem small_log {i : Int} (h : i.natAbs < 1000000) : i.natAbs.log2 < 1920 := by
  by_cases h0 : i.natAbs = 0
  · rw [h0]; decide
  · have := (Nat.log2_lt h0 (k := 20)).mpr (by omega)
    omega
theorem op_blt {X : Cx} (hc : X.calm = true) (hu : X.A.units + 70 < cLine) (b : Blt) : CallR X b.val (oF X.K b) := by
  intro pins s σ H vs us Q I r h
  obtain ⟨w, ds, d, rfl, g, hv, hd, k⟩ := h
  cases b with
  | len =>
    show wpAny _ _ (PySem.call (.builtin "len") us) _ _ _
    unfold blt at hd
    split at hd <;> try (simp at *; done)
    all_goals (rename_i hb hds; first | (cases hb; done) | skip)
    · cases hd
      obtain ⟨v, rfl, h1⟩ := one hv
      obtain ⟨p, xs, rfl, h2, h3⟩ := h1.lst
      exact call_len_seq pins s σ w.H _ us Q I r ⟨p, xs, rfl, .inl (SqL.of h2), by rw [← h3.length]; exact k.int⟩
    · cases hd
      obtain ⟨v, rfl, h1⟩ := one hv
      obtain ⟨p, xs, rfl, h2, h3⟩ := h1.tup
      exact call_len_seq pins s σ w.H _ us Q I r ⟨p, xs, rfl, .inr h2.sq, by rw [← h3.length]; exact k.int⟩
    · cases hd
      obtain ⟨v, rfl, h1⟩ := one hv
      obtain ⟨p, rfl, h2⟩ := h1.scr
      exact call_len_seq pins s σ w.H _ us Q I r ⟨p, _, rfl, .inl h2, by rw [List.length_map]; exact k.int⟩
    · split at hd <;> simp only [Option.some.injEq, reduceCtorEq] at hd
      rename_i hz
      subst hd
      obtain ⟨v, rfl, h1⟩ := one hv
      rw [h1.str] at r
      exact call_len_str pins s σ w.H _ us Q I r ⟨_, rfl, by rw [← line_eq]; exact hz, k.int⟩
  | sum =>
    show wpAny _ _ (PySem.call (.builtin "sum") us) _ _ _
    unfold blt at hd
    split at hd <;> try (simp at *; done)
    all_goals (rename_i hb hds; first | (cases hb; done) | skip)
    · simp only [Option.map_eq_some_iff] at hd
      obtain ⟨ns, e, rfl⟩ := hd
      obtain ⟨v, rfl, h1⟩ := one hv
      obtain ⟨p, xs, rfl, h2, h3⟩ := h1.lst
      obtain ⟨e1, _⟩ := h3.ints e
      subst e1
      exact cr_sum hc pins s σ w.H _ us Q I r ⟨p, ns, rfl, SqL.of h2, k.int⟩
    · simp only [Option.map_eq_some_iff] at hd
      obtain ⟨ns, e, rfl⟩ := hd
      obtain ⟨v, rfl, h1⟩ := one hv
      obtain ⟨p, xs, rfl, h2, h3⟩ := h1.tup
      obtain ⟨e1, _⟩ := h3.ints e
      subst e1
      exact cr_sumT hc pins s σ w.H _ us Q I r ⟨p, ns, rfl, h2.sq, k.int⟩
  | max =>
    show wpAny _ _ (PySem.call (.builtin "max") us) _ _ _
    unfold blt at hd
    split at hd <;> try (simp at *; done)
    all_goals (rename_i hb hds; first | (cases hb; done) | skip)
    · cases hd
      obtain ⟨v, u, rfl, h1, h2⟩ := two hv
      rw [h1.int, h2.int] at r
      exact call_max2 hc pins s σ w.H _ us Q I r ⟨_, _, rfl, k.int⟩
    · split at hd <;> simp only [Option.some.injEq, reduceCtorEq] at hd
      rename_i n r' e
      subst hd
      obtain ⟨v, rfl, h1⟩ := one hv
      obtain ⟨p, xs, rfl, h2, h3⟩ := h1.lst
      obtain ⟨e1, _⟩ := h3.ints e
      subst e1
      refine cr_max hc pins s σ w.H _ us Q I r ⟨p, n :: r', rfl, SqL.of h2, by simp, fun m hm hy => ?_⟩
      have : m = maxI n r' := Int.le_antisymm (maxI_ge r' n m hm) (hy _ (maxI_mem r' n))
      rw [this]; exact k.int
  | min =>
    show wpAny _ _ (PySem.call (.builtin "min") us) _ _ _
    unfold blt at hd
    split at hd <;> try (simp at *; done)
    all_goals (rename_i hb hds; first | (cases hb; done) | skip)
    · cases hd
      obtain ⟨v, u, rfl, h1, h2⟩ := two hv
      rw [h1.int, h2.int] at r
      exact call_min2 hc pins s σ w.H _ us Q I r ⟨_, _, rfl, k.int⟩
    · obtain ⟨v, rfl, h1⟩ := one hv
      obtain ⟨p, xs, rfl, h2, h3⟩ := h1.lst
      split at hd
      · rename_i n r' e
        simp only [Option.some.injEq] at hd
        subst hd
        obtain ⟨e1, _⟩ := h3.ints e
        subst e1
        refine cr_min hc pins s σ w.H _ us Q I r ⟨p, n :: r', rfl, SqL.of h2, by simp, fun m hm hy => ?_⟩
        have : m = minI n r' := Int.le_antisymm (hy _ (minI_mem r' n)) (minI_le r' n m hm)
        rw [this]; exact k.int
      · cases hd
      · split at hd
        · rename_i ho
          split at hd
          · simp only [Option.some.injEq] at hd
            subst hd
            rename_i _ t l' _
            refine cr_minV hc hu pins s σ w.H _ us Q I r ⟨w, .tup t, l', p, xs, rfl, rfl, SqL.of h2, h3, ho, fun v hv => k.same (fun l z => ?_) hv⟩
            have g1 := (ordOk_of ho).1 _ List.mem_cons_self _ (minD_eq ho).2
            rw [z] at g1
            simp [alk] at g1
          · cases hd
        · cases hd
  | abs =>
    show wpAny _ _ (PySem.call (.builtin "abs") us) _ _ _
    unfold blt at hd
    split at hd <;> try (simp at *; done)
    all_goals (rename_i hb hds; first | (cases hb; done) | skip)
    cases hd
    obtain ⟨v, rfl, h1⟩ := one hv
    rw [h1.int] at r
    exact call_abs pins s σ w.H _ us Q I r ⟨_, rfl, k.int⟩
  | all =>
    show wpAny _ _ (PySem.call (.builtin "all") us) _ _ _
    unfold blt at hd
    split at hd <;> try (simp at *; done)
    all_goals (rename_i hb hds; first | (cases hb; done) | skip)
    simp only [Option.map_eq_some_iff] at hd
    obtain ⟨ns, e, rfl⟩ := hd
    obtain ⟨v, rfl, h1⟩ := one hv
    obtain ⟨p, xs, rfl, h2, h3⟩ := h1.lst
    have e1 := h3.bls e
    subst e1
    exact cr_all hc pins s σ w.H _ us Q I r ⟨p, ns, rfl, SqL.of h2, k.bl⟩
  | any =>
    show wpAny _ _ (PySem.call (.builtin "any") us) _ _ _
    unfold blt at hd
    split at hd <;> try (simp at *; done)
    all_goals (rename_i hb hds; first | (cases hb; done) | skip)
    simp only [Option.map_eq_some_iff] at hd
    obtain ⟨ns, e, rfl⟩ := hd
    obtain ⟨v, rfl, h1⟩ := one hv
    obtain ⟨p, xs, rfl, h2, h3⟩ := h1.lst
    have e1 := h3.bls e
    subst e1
    exact cr_any hc pins s σ w.H _ us Q I r ⟨p, ns, rfl, SqL.of h2, k.bl⟩
  | sorted =>
    show wpAny _ _ (PySem.call (.builtin "sorted") us) _ _ _
    unfold blt at hd
    split at hd <;> try (simp at *; done)
    all_goals (rename_i hb hds; first | (cases hb; done) | skip)
    obtain ⟨v, rfl, h1⟩ := one hv
    obtain ⟨p, xs, rfl, h2, h3⟩ := h1.lst
    split at hd
    · rename_i ns e
      cases hd
      obtain ⟨e1, _⟩ := h3.ints e
      subst e1
      refine cr_sortedI pins s σ w.H _ us Q I r ⟨p, ns, rfl, SqL.of h2, fun ns' q h4 h5 h6 => ?_⟩
      have e2 : ns' = sortG ltI ns := srt_uniq ltI_tot (h4.trans (sortG_perm ns).symm) (h5.imp fun {a b} z => by simp only [ltI, decide_eq_false_iff_not]; omega) (sortG_srt ltI_tot ltI_tr ltI_as ns)
      subst e2
      refine k.lst g ?_ h6
      clear h4 h5 k e h3 h2 hv r
      generalize sortG ltI ns = l
      induction l with
      | nil => simp [RepL]
      | cons a l ih => simp only [List.map_cons, RepL, Rep]; exact ⟨_, _, rfl, rfl, ih⟩
    · split at hd
      rotate_left
      · split at hd
        · rename_i ho
          cases hd
          exact cr_sortV hu pins s σ w.H _ us Q I r ⟨w, _, p, xs, rfl, rfl, SqL.of h2, h3, ho, fun ys q g1 g2 => k.lst g g1 g2⟩
        · cases hd
      simp only [Option.some.injEq] at hd
      rename_i ps e
      subst hd
      obtain ⟨e1, e2, e3⟩ := prs_rep h3 e
      refine cr_sortedPO pins s σ w.H _ us Q I r ⟨p, xs, keyP w, rfl, SqL.of h2, e3, fun ys q h4 h5 h6 => ?_⟩
      have e4 : ys.map (keyP w) = sortG ltP ps := by
        refine srt_uniq ltP_tot (((h5.perm.map (keyP w)).trans (by rw [e2])).trans (sortG_perm ps).symm) ?_ (sortG_srt ltP_tot ltP_tr ltP_as ps)
        exact List.pairwise_map.mpr (h4.imp fun {a b} z => by
          rw [ltP_f]
          intro q
          have z2 : SrtO.lexB (keyP w b) (keyP w a) = false := z
          rw [SrtO.lexB_iff.mpr q] at z2
          cases z2)
      have e5 : ∀ v ∈ ys, ∃ q, v = .ref q ∧ w.H q = some (.tup [.int (keyP w v).1, .int (keyP w v).2]) := fun v hv => e3 v (h5.perm.mem_iff.mp hv)
      refine k.lst g ?_ h6
      rw [← e4]
      clear h4 h5 k e h3 h2 hv r e4 h6 h1 e1 e2 e3
      induction ys with
      | nil => simp [RepL]
      | cons a l ih =>
        obtain ⟨q, rfl, z⟩ := e5 a List.mem_cons_self
        simp only [List.map_cons, RepL]
        refine ⟨_, _, rfl, ?_, ih fun v hv => e5 v (List.mem_cons_of_mem _ hv)⟩
        simp only [Rep, RepL]
        exact ⟨q, _, rfl, .inl z, _, _, rfl, rfl, _, _, rfl, rfl, rfl⟩
  | tuple =>
    show wpAny _ _ (PySem.call (.type "tuple") us) _ _ _
    unfold blt at hd
    split at hd <;> try (simp at *; done)
    all_goals (rename_i hb hds; first | (cases hb; done) | skip)
    · cases hd
      obtain ⟨v, rfl, h1⟩ := one hv
      obtain ⟨p, xs, rfl, h2, h3⟩ := h1.lst
      exact call_tuple_of pins s σ w.H _ us Q I r ⟨p, xs, rfl, .inl ⟨SqL.of h2, fun q hq => k.tup h3 hq⟩⟩
    · cases hd
      obtain ⟨v, rfl, h1⟩ := one hv
      obtain ⟨p, xs, rfl, h2, h3⟩ := h1.tup
      exact call_tuple_of pins s σ w.H _ us Q I r ⟨p, xs, rfl, .inr ⟨h2.sq, k.same (fun l z => by cases z) (by simp only [Rep]; exact ⟨p, xs, rfl, h2, h3⟩)⟩⟩
  | list =>
    show wpAny _ _ (PySem.call (.type "list") us) _ _ _
    unfold blt at hd
    split at hd <;> try (simp at *; done)
    all_goals (rename_i hb hds; first | (cases hb; done) | skip)
    · cases hd
      obtain ⟨v, rfl, h1⟩ := one hv
      obtain ⟨p, xs, rfl, h2, h3⟩ := h1.lst
      exact call_list_of pins s σ w.H _ us Q I r ⟨p, xs, rfl, .inl (SqL.of h2), fun q hq => k.lst g h3 hq⟩
    · cases hd
      obtain ⟨v, rfl, h1⟩ := one hv
      obtain ⟨p, xs, rfl, h2, h3⟩ := h1.tup
      exact call_list_of pins s σ w.H _ us Q I r ⟨p, xs, rfl, .inr h2.sq, fun q hq => k.lst g h3 hq⟩
  | int =>
    show wpAny _ _ (PySem.call (.type "int") us) _ _ _
    unfold blt at hd
    split at hd <;> try (simp at *; done)
    all_goals (rename_i hb hds; first | (cases hb; done) | skip)
    · cases hd
      obtain ⟨v, rfl, h1⟩ := one hv
      rw [h1.int] at r
      exact call_int1 pins s σ w.H _ us Q I r (.inl ⟨_, rfl, k.int⟩)
    · cases hd
      obtain ⟨v, rfl, h1⟩ := one hv
      rw [h1.bl] at r
      exact call_int1 pins s σ w.H _ us Q I r (.inr ⟨_, rfl, k.int⟩)
  | str =>
    show wpAny _ _ (PySem.call (.type "str") us) _ _ _
    unfold blt at hd
    split at hd <;> try (simp at *; done)
    all_goals (rename_i hb hds; first | (cases hb; done) | skip)
    split at hd <;> simp only [Option.some.injEq, reduceCtorEq] at hd
    rename_i hz
    subst hd
    obtain ⟨v, rfl, h1⟩ := one hv
    rw [h1.int] at r
    exact call_str_int pins s σ w.H _ us Q I r ⟨_, rfl, small_log hz, k.str⟩
end Ev

end
section
set_option maxRecDepth 100000
set_option maxHeartbeats 2000000
namespace Ev
open PySem PySem.Spec PyProof.Rows L2
section
variable {prog : Program} {w : World} {A : Around} {E : Value → Shared → Prop} {s : Shared}
theorem sliceApplied_back {sl : Addr} {n : Nat} {tk : Tok} {Q : Int × Int × Nat → Shared → Prop} (hs : s.heap.IsSliceOf sl .none .none (.int (-1) tk))
    (h : Q ((n : Int) - 1, -1, n) s) : wpAny (model prog w) A (Builtin.Slice.sliceApplied (.ref sl) (pure (n : Int))) Q E s := by
  obtain ⟨os, hos, hcs, hds⟩ := id hs
  unfold Builtin.Slice.sliceApplied Builtin.Slice.sliceFields
  refine wpAny_bind (wpAny_bind (wpAny_field hos hds (x := .none) rfl (wpAny_bind (wpAny_field hos hds (x := .none) rfl (wpAny_bind (wpAny_field hos hds (x := .int (-1) tk) rfl (wpAny_pure ?_)))))))
  refine wpAny_bind (slicePart_int ?_)
  show wpAny _ _ (if ((-1 : Int) == 0) = true then _ else _) _ _ s
  rw [if_neg (by decide)]
  refine wpAny_bind (slicePart_none (wpAny_bind (slicePart_none (wpAny_bind (wpAny_pure ?_)))))
  show wpAny _ _ (pure ((n : Int) - 1, (-1 : Int), Builtin.Slice.slicePlaces ((n : Int) - 1) (-1) (-1))) _ _ s
  have e : Builtin.Slice.slicePlaces ((n : Int) - 1) (-1) (-1) = n := by
    unfold Builtin.Slice.slicePlaces
    rw [if_neg (show ¬ ((-1 : Int) > 0) by decide)]
    by_cases h0 : (n : Int) - 1 > -1
    · rw [if_pos h0]
      have : ((n : Int) - 1 - -1 - 1) / (- -1) + 1 = n := by
        rw [show (- -1 : Int) = 1 by decide, Int.ediv_one]; omega
      rw [this]; omega
    · rw [if_neg h0]; omega
  rw [e]
  exact wpAny_pure h
theorem pick_back (xs : Array Value) : ((List.range xs.size).filterMap fun (m : Nat) => xs[(((xs.size : Int) - 1) + (m : Int) * (-1)).toNat]?).toArray = xs.toList.reverse.toArray := by
  congr 1
  have e : ∀ k, k ≤ xs.size → (List.range k).filterMap (fun (m : Nat) => xs[(((xs.size : Int) - 1) + (m : Int) * (-1)).toNat]?) = xs.toList.reverse.take k := by
    intro k
    induction k with
    | zero => intro _; simp
    | succ k ih =>
      intro hk
      have h1 : (((xs.size : Int) - 1) + (k : Int) * (-1)).toNat = xs.size - 1 - k := by omega
      have h2 : xs.size - 1 - k < xs.size := by omega
      rw [List.range_succ, List.filterMap_append, ih (by omega), List.take_add_one, List.getElem?_reverse (by rw [Array.length_toList]; omega)]
      simp only [List.filterMap_cons, List.filterMap_nil, h1, Array.length_toList, Array.getElem?_toList]
      rw [Array.getElem?_eq_getElem h2]
      rfl
  rw [e _ (Nat.le_refl _), List.take_of_length_le (by simp)]
theorem getItem_tuple_back {t sl : Addr} {items : Array Value} {tk : Tok} {Q : Value → Shared → Prop} (ht : IsTup s.heap t items) (hs : s.heap.IsSliceOf sl .none .none (.int (-1) tk))
    (h : Q (.ref s.heap.objs.size) { s with heap := s.heap.push { cls := .type "tuple", data := .seq items.toList.reverse.toArray } })
    (hsz : items.size ≤ sizeLine) : wpAny (model prog w) A (getItem (.ref t) (.ref sl)) Q E s := by
  have htake : sizeOk (.seq items.toList.reverse.toArray) := by
    show items.toList.reverse.toArray.size ≤ sizeLine
    simpa using hsz
  obtain ⟨os, hos, hcs, hds⟩ := id hs
  have hTs : s.TypeIs (.ref sl) "slice" := ⟨os, hos, hcs⟩
  unfold getItem
  try with_reducible refine wpAny_holding ?_
  first | refine wpAny_bind (wpAny_pure ?_) | skip
  refine wpAny_bind (wpAny_sequenceKey ht.typeIs (by decide) ?_)
  refine wpAny_bind (wpAny_callSpecial?_slot (name := Str.ofString "__getitem__") ht.typeIs PyProof.Rows.slot_tuple_getitem
    (wpAny_call_entry PyProof.Rows.slot_tuple_getitem ht.typeIs entry_tuple_getitem ?_ (args_tuple_getitem _ _)))
  show wpAny _ _ (Builtin.Tuple.tupleItemsOf (.ref t) >>= _) _ _ s
  refine wpAny_bind (tupleItemsOf_ ht ?_)
  refine wpAny_bind (wpAny_typeOf hTs ?_)
  rw [if_pos (by decide)]
  refine wpAny_bind (sliceApplied_back hs ?_)
  show wpAny _ _ (if ((((items.size : Nat) : Int) - 1) == 0 && (-1 : Int) == 1 && items.size == items.size) = true then _ else _) _ _ s
  rw [if_neg (by
    intro q
    rw [Bool.and_eq_true, Bool.and_eq_true] at q
    exact absurd (eq_of_beq q.1.2) (by decide)), pick_back]
  first
    | exact wpAny_bind (m := Builtin.Tuple.tupleExact _) (wpAny_newObj_type (wpAny_pure ⟨_, rfl, wpAny_pure h⟩) htake)
    | exact wpAny_bind (m := Builtin.Tuple.tupleExact _) (wpAny_newObj_type (wpAny_bind (wpAny_pure (wpAny_pure ⟨_, rfl, wpAny_pure h⟩))) htake)
    | exact wpAny_bind (wpAny_bind (m := Builtin.Tuple.tupleExact _) (wpAny_newObj_type (wpAny_pure (wpAny_pure ⟨_, rfl, wpAny_pure h⟩)) htake))
    | exact wpAny_bind (wpAny_bind (m := Builtin.Tuple.tupleExact _) (wpAny_newObj_type (wpAny_pure ⟨_, rfl, wpAny_pure h⟩) htake))
end
section
variable {X : Cx}
/-- x[::-1] -/
def tRev (K : PySem.W.Frag) (te : TE) : TE := fun σ H Q => te σ H fun x H1 => ∃ a xs, x = .ref a ∧ ((SqL K H1 a xs ∧ ∀ p, H1 p = none → Q (.ref p) (upd H1 p (.lst xs.reverse))) ∨ (SqT K H1 a xs ∧ ∀ p, H1 p = none → Q (.ref p) (upd H1 p (.tup xs.reverse))))
theorem pe_rev {e : Expr} {te : TE} {k : Nat} {p1 p2 p3 pos : Pos} (he : PE X e te) : PE X (.Subscript e (.Slice none none (some (.UnaryOp .USub (.Constant (.int 1) k p1) p2)) p3) pos) (tRev X.K te) := by
  refine ⟨fun pins s σ H Q I h => ?_⟩
  refine Subscript_ (thn (he.run pins s σ H _ I h) fun v s1 ⟨x, H1, I1, r1, q1⟩ => ?_)
  obtain ⟨a, xs, ex, q⟩ := q1
  subst ex
  cases r1
  have hst : PE X (.UnaryOp .USub (.Constant (.int 1) k p1) p2) (tUn (rU fun i => .int (-i)) (tC (.int 1))) := pe_un un_neg pe_int
  refine wpAny_Slice (thn (po_none.run pins s1 σ H1 (fun o H2 => o = none ∧ H2 = H1) I1 ⟨rfl, rfl⟩) fun vl s2 ⟨l, H2, I2, pl, el, e2⟩ => ?_)
  subst el e2
  refine thn (po_none.run pins s2 σ H2 (fun o H3 => o = none ∧ H3 = H2) I2 ⟨rfl, rfl⟩) fun vu s3 ⟨u, H3, I3, pu, eu, e3⟩ => ?_
  subst eu e3
  refine thn ((po_some hst).run pins s3 σ H3 (fun o H4 => o = some (-1) ∧ H4 = H3) I3 ⟨1, rfl, -1, rfl, rfl, rfl⟩) fun vs s4 ⟨o, H4, I4, ps, eo, e4⟩ => ?_
  subst eo e4
  have I5 : Inv X pins σ H4 { s4 with heap := s4.heap.push { cls := .type "slice", data := .fields #[vl, vu, vs] } } := I4.kept (t' := s4.toks) fun b ob q => Heap.get?_push_of_some _ q
  show wpAny (model X.prog X.w) X.A (subscriptTail e (.Slice none none (some (.UnaryOp .USub (.Constant (.int 1) k p1) p2)) p3) (.ref a) (.ref s4.heap.objs.size)) (EP X pins σ Q) X.xe { s4 with heap := s4.heap.push { cls := .type "slice", data := .fields #[vl, vu, vs] } }
  rcases q with ⟨hx, q⟩ | ⟨hx, q⟩
  · obtain ⟨its, r, ht, hz⟩ := I5.list hx
    have hlen := r.length
    refine tail_any (ops := [.ref a, .ref s4.heap.objs.size]) ht.isList.typeIs (PySem.slot_list_getitem.lookup) ?_ (by with_unfolding_all rfl)
    refine wpAny_getItem_list_slice ht.isList (Heap.IsSliceOf.new _ vl vu vs) pl pu ps (by decide) ?_ (by rw [List.size_toArray]; omega)
    rw [PySem.W.krv_pick]
    refine ⟨.ref _, _, I5.laid (t' := s4.toks) (o := .lst xs.reverse) (fun b ob q => Heap.get?_push_of_some _ q) (Nat.le_refl _) ?_, rfl, q _ (I5.hok.fresh (Nat.le_refl _))⟩
    exact ⟨by rw [List.length_reverse]; exact hz, _, 0, r.reverse, Heap.get?_push_size _ rfl⟩
  · obtain ⟨its, r, ht, hz⟩ := I5.tuple hx
    have hlen := r.length
    cases pl
    cases pu
    cases ps
    refine tail_any (ops := [.ref a, .ref s4.heap.objs.size]) ht.typeIs PyProof.Rows.slot_tuple_getitem.lookup ?_ (by with_unfolding_all rfl)
    refine getItem_tuple_back ht (Heap.IsSliceOf.new _ _ _ _) ?_ (by rw [List.size_toArray]; omega)
    refine ⟨.ref _, _, I5.laid (t' := s4.toks) (o := .tup xs.reverse) (fun b ob q => Heap.get?_push_of_some _ q) (Nat.le_refl _) ?_, rfl, q _ (I5.hok.fresh (Nat.le_refl _))⟩
    exact ⟨by rw [List.length_reverse]; exact hz, _, r.reverse, IsTup.new _ _⟩
end
/-! ### places, slices by data -/
theorem ixN_eq (n : Nat) (i : Int) : Ev.ixN n i = L2.ixN n i := rfl
def oI (K : PySem.W.Frag) : R2 := fun x y H Q => ∃ w dx dy d, w.H = H ∧ RepP K w dx x ∧ RepP K w dy y ∧ ixD dx dy = some d ∧ ∀ v, Rep K w d v → Q v H
theorem at_some {α : Type} {l : List α} {i : Int} {d : α} (h : ((Ev.ixN l.length i).bind fun j => l[j]?) = some d) : ∃ j, Ev.ixN l.length i = some j ∧ l[j]? = some d := by
  cases e : Ev.ixN l.length i with
  | none => rw [e] at h; cases h
  | some j => rw [e] at h; exact ⟨j, rfl, h⟩
theorem op_ix {X : Cx} : IxR X (oI X.K) := by
  intro value slice pins s σ H x y v u Q I rx ry h hs
  obtain ⟨w, dx, dy, d, rfl, hx, hy, hd, k⟩ := h
  have at2 : ∀ {l : List D} {vs : List V} {i : Int}, RepL X.K w l vs → ((Ev.ixN l.length i).bind fun j => l[j]?) = some d → ∃ z, L2.atI vs i = some z ∧ Rep X.K w d z := fun {l vs i} r h => by
    obtain ⟨j, h1, h2⟩ := at_some h
    obtain ⟨z, h3, h4⟩ := r.get h2
    refine ⟨z, ?_, h4⟩
    unfold L2.atI
    rw [← r.length, ← ixN_eq, h1]
    exact h3
  unfold ixD at hd
  split at hd
  · rename_i l i
    obtain ⟨p, vs, rfl, h1, r⟩ := hx.lst
    rw [hy.int] at ry
    obtain ⟨z, h3, h4⟩ := at2 r hd
    exact ix_list value slice pins s σ w.H _ _ v u Q I rx ry ⟨p, vs, i, z, rfl, rfl, SqL.of h1, h3, k z h4⟩ hs
  · rename_i l i
    obtain ⟨p, vs, rfl, h1, r⟩ := hx.tup
    rw [hy.int] at ry
    obtain ⟨z, h3, h4⟩ := at2 r hd
    exact ix_tup value slice pins s σ w.H _ _ v u Q I rx ry ⟨p, vs, i, z, rfl, rfl, h1.sq, h3, k z h4⟩ hs
  · rename_i l i
    obtain ⟨p, rfl, h1⟩ := hx.scr
    rw [hy.int] at ry
    simp only [Option.map_eq_some_iff] at hd
    obtain ⟨m, hd, rfl⟩ := hd
    obtain ⟨j, h2, h3⟩ := at_some hd
    refine ix_list value slice pins s σ w.H _ _ v u Q I rx ry ⟨p, _, i, .int m, rfl, rfl, h1, ?_, k _ (by simp only [Rep])⟩ hs
    unfold L2.atI
    rw [List.length_map, ← ixN_eq, h2]
    show (l.map V.int)[j]? = _
    rw [List.getElem?_map, h3]
    rfl
  · rename_i z i
    split at hd
    · rename_i hz
      rw [hx.str] at rx
      rw [hy.int] at ry
      simp only [Option.map_eq_some_iff] at hd
      obtain ⟨m, hd, rfl⟩ := hd
      obtain ⟨j, h2, h3⟩ := at_some hd
      refine ix_str value slice pins s σ w.H _ _ v u Q I rx ry ⟨z, i, m, rfl, rfl, by rw [← line_eq]; exact hz, ?_, k _ (by simp only [Rep])⟩ hs
      unfold L2.atI
      rw [← ixN_eq, h2]
      exact h3
    · cases hd
  · cases hd
def oS (K : PySem.W.Frag) : V → Option Int → Option Int → Hp → VK → Prop := fun x lo hi H Q => ∃ w dx d, w.H = H ∧ WOk w ∧ RepP K w dx x ∧ slcD dx lo hi = some d ∧ Give K w d Q
theorem RepL.cut {K : PySem.W.Frag} {w : Wd} {l : List D} {vs : List V} (r : RepL K w l vs) (lo hi : Option Int) : RepL K w (cut l lo hi) (cutV vs lo hi) := by
  unfold Ev.cut cutV
  rw [← r.length]
  exact (r.drop _).take _
theorem op_slc {X : Cx} : SlR X (oS X.K) := by
  intro pins s σ H x v vl vu lo hi sl Q I rx hs pl pu h
  obtain ⟨w, dx, d, rfl, g, hx, hd, k⟩ := h
  unfold slcD at hd
  split at hd
  · rename_i l
    cases hd
    obtain ⟨p, vs, rfl, h1, r⟩ := hx.lst
    exact sl_list pins s σ w.H _ v vl vu lo hi sl Q I rx hs pl pu ⟨p, vs, rfl, SqL.of h1, fun q hq => k.lst g (r.cut lo hi) hq⟩
  · rename_i l
    cases hd
    obtain ⟨p, vs, rfl, h1, r⟩ := hx.tup
    refine sl_tupA pins s σ w.H _ v vl vu lo hi sl Q I rx hs pl pu ⟨p, vs, rfl, h1.sq, fun e => ?_, fun e q hq => k.tup (r.cut lo hi) hq⟩
    have e2 : Ev.cut l lo hi = l := by
      unfold Ev.cut
      rw [r.length, show sIx vs.length 0 lo = 0 from e.1, show sIx vs.length vs.length hi = vs.length from e.2, ← r.length]
      simp
    rw [e2] at k
    exact k.same (fun l z => by cases z) (by simp only [Rep]; exact ⟨p, vs, rfl, h1, r⟩)
  · split at hd
    · rename_i z hz
      cases hd
      rw [hx.str] at rx
      exact sl_str pins s σ w.H _ v vl vu lo hi sl Q I rx hs pl pu ⟨z, rfl, by rw [← line_eq]; exact hz, k.str⟩
    · cases hd
  · cases hd
end Ev

end
section
set_option maxRecDepth 100000
set_option maxHeartbeats 2000000
namespace Ev
open PySem PySem.Spec PyProof.Rows L2

/-! ### enumerate of a tuple -/
theorem meets_enumerate_new1B {v : Value} {o : Obj} {H : Heap → Prop} (B : Begins v o H) :
    Meets (Builtin.«enumerate.__new__» ⟨[.type "enumerate", v], []⟩) (fun _ R s => H s.heap ∧
      R (.ok (.ret (.ref (s.heap.push o).objs.size))) { s with heap := (s.heap.push o).push { cls := .type "enumerate", data := .fields #[.none, .bool false, .ref s.heap.objs.size, rawInt 0, .none, .none] } }) :=
  .of_wp fun prog w A R s h => by
    obtain ⟨hp, g, d, tk, os⟩ := s; obtain ⟨h1, h⟩ := h
    have hsub := sub_enumerate
    have q1 : ∀ {A' : Around} {E : Value → Shared → Prop} {Q : Value → Shared → Prop}, Q (.ref hp.objs.size) ⟨hp.push o, g, d, tk, os⟩ → wpAny (model prog w) A' (pyIter v) Q E ⟨hp, g, d, tk, os⟩ :=
      fun q => B.iter prog w _ _ ⟨hp, g, d, tk, os⟩ _ h1 q
    wp_walk using q1
    refine wpAny_stack_any fun st => wpAny_pure ?_
    split
    · rename_i c _ _ _ _ _
      cases (c == Value.type "enumerate")
      · wp_walk using q1
        exact ⟨_, rfl, h⟩
      · wp_walk using q1
        exact ⟨_, rfl, h⟩
    · wp_walk using q1
      exact ⟨_, rfl, h⟩
theorem enum_begins1 {prog : Program} {w : World} {A : Around} {E : Value → Shared → Prop} {s : Shared} {v : Value} {o : Obj} {H : Heap → Prop} {Q : Value → Shared → Prop} (B : Begins v o H) (h1 : H s.heap)
    (h : ∀ h', IsEnum h' (s.heap.objs.size + 1) s.heap.objs.size 0 .none → h'.get? s.heap.objs.size = some o → h'.objs.size = s.heap.objs.size + 2 →
      (∀ b o, s.heap.get? b = some o → h'.get? b = some o) → Q (.ref (s.heap.objs.size + 1)) { s with heap := h' }) :
    wpAny (model prog w) A (PySem.call (.type "enumerate") [v]) Q E s := by
  refine callType_new F.called_enumerate (by decide) (F.typeCall_enumerate_1 _) (F.newCall_enumerate_1 _) (fun obj => F.args_object_init_2 obj _) F.entry_enumerate_new
    (meets_enumerate_new1B B) ⟨h1, ?_⟩
  have hz : (s.heap.push o).objs.size = s.heap.objs.size + 1 := Heap.size_push ..
  show _ ∧ _
  rw [hz]
  have he : IsEnum ((s.heap.push o).push { cls := .type "enumerate", data := .fields #[.none, .bool false, .ref s.heap.objs.size, rawInt 0, .none, .none] }) (s.heap.objs.size + 1) s.heap.objs.size 0 .none := by
    have := Heap.get?_push_size (s.heap.push o) (o := { cls := .type "enumerate", data := .fields #[.none, .bool false, .ref s.heap.objs.size, rawInt 0, .none, .none] }) rfl
    rw [hz] at this; exact this
  refine ⟨⟨_, he, rfl⟩, h _ he (Heap.get?_push_of_some _ (Heap.get?_push_size _ B.free)) (by rw [Heap.size_push, hz]) fun b o x => Heap.get?_push_of_some _ (Heap.get?_push_of_some _ x)⟩
/-- the tuple at a, each item in a new pair -/
def IteT (K : PySem.W.Frag) (a : Addr) : It :=
  ⟨fun i H => ∃ (xs : List V) (x : V), SqT K H a xs ∧ xs[i]? = some x, fun i H v H' => ∃ T x, v = .ref T ∧ H T = none ∧ H' = upd H T (.tup [.int (i : Nat), x]) ∧ ∀ xs, SqT K H a xs → xs[i]? = some x, fun i H => ∃ xs : List V, SqT K H a xs ∧ xs.length = i⟩
theorem turn_enumT {P : Program} {w : World} {K : PySem.W.Frag} {elts : List Expr} {kk : Nat} {tpos : Pos} (a e it : Addr) :
    Turn P w K (.Tuple elts kk tpos) (IteT K a) [e, it] e (fun i h => (∃ old, IsEnum h e it ((i : Nat) : Int) old) ∧ h.IsTupleIter it a i ∧ e ≠ it) where
  mem := by simp
  obj := fun i h st b hb => by
    obtain ⟨⟨old, he⟩, ⟨o, ho, hc, hd⟩, _⟩ := st
    have e' : b = e ∨ b = it := by simpa using hb
    rcases e' with z | z
    · rw [z]; exact ⟨_, he, fun v q => nomatch q⟩
    · rw [z]; exact ⟨o, ho, fun v q => by rw [hd] at q; cases q⟩
  keep := fun i h h' st k => let ⟨⟨old, he⟩, hi, hne⟩ := st; ⟨⟨old, k e (by simp) _ he⟩, hi.at fun o q => k it (by simp) o q, hne⟩
  item := by
    intro X hP hw hK hc i pins s σ H E I hf st hg
    subst hP hw hK
    obtain ⟨⟨old, he⟩, hit, hne⟩ := st
    obtain ⟨xs, x, hq, hx⟩ := hg
    obtain ⟨its, rv, p, hz⟩ := I.tuple hq
    obtain ⟨u, hu, ru⟩ := rv.get hx
    have hel : e < s.heap.objs.size := Heap.lt_size he
    have hil : it < s.heap.objs.size := by obtain ⟨_, q, _⟩ := hit; exact Heap.lt_size q
    have hT : s.heap.IsTuple a its.toArray := p
    have nai : a ≠ it := fun z => by
      obtain ⟨o, h1, h2, _⟩ := hit
      obtain ⟨o', h3, h4, _⟩ := p
      rw [z, h1] at h3; cases h3; rw [h2] at h4; injection h4 with h5; exact absurd h5 (by decide)
    have nae : e ≠ a := fun z => by
      obtain ⟨o', h3, h4, _⟩ := p
      rw [← z, he] at h3; cases h3; injection h4 with h5; exact absurd h5 (by decide)
    have D := Draws.tuple (prog := X.prog) (w := X.w) (A := X.A.in1) (I.ok.hd hc) it a nai its.toArray
    refine wpAny_pyNext_enum_itemD D he ⟨hit, hT⟩ (show i < its.toArray.size by rw [List.size_toArray]; exact (List.getElem?_eq_some_iff.mp hu).1) hne (by simp [hne, nae]) fun u' h' tk hu' ho hit' hT' hsz hk => ?_
    have e1 : u' = u := by
      have h5 : its.toArray[i]? = some u' := hu'
      have h6 : its.toArray[i]? = some u := by simpa using hu
      rw [h6] at h5; cases h5; rfl
    subst e1
    refine ⟨_, rfl, wpAny_letOwnedTupleGo_enum (s := { s with heap := h', toks := tk + 1 }) ho fun h'' he' sb => ?_⟩
    have hT2 : h''.get? s.heap.objs.size = some { cls := .type "tuple", data := .seq #[.int i tk, u'] } := (sb.2 _ (Nat.ne_of_gt hel)).trans hT'
    have new : ObjOk X.prog X.w (upd H s.heap.objs.size (.tup [.int (i : Nat), x])) h'' s.heap.objs.size (.tup [.int (i : Nat), x]) :=
      ⟨by show 2 ≤ sizeLine; decide, [.int i tk, u'], .cons ⟨_, rfl⟩ (.cons ru .nil), ⟨_, hT2, rfl, _, rfl⟩⟩
    have I1 : Inv X pins σ (upd H s.heap.objs.size (.tup [.int (i : Nat), x])) { s with heap := h'', toks := tk + 1 } :=
      I.turnedNew (ch := [e, it]) (fun b ob hb q => (sb.2 b (fun z => hb (by simp [z]))).trans (hk b ob (fun z => hb (by simp [z])) (fun z => hb (by simp [z])) q)) hf (Nat.le_refl _) new
    refine ⟨.ref s.heap.objs.size, _, I1, rfl, ⟨_, x, rfl, I.hok.fresh (Nat.le_refl _), rfl, fun ys hy => by rw [I.tuple_inj hy hq]; exact hx⟩, ⟨⟨u', ?_⟩, hit'.1.at fun o q => (sb.2 it (Ne.symm hne)).trans q, hne⟩, fun b hb => ?_⟩
    · have e1 : ((i + 1 : Nat) : Int) = (i : Int) + 1 := by omega
      rw [e1]; exact he'
    · have hb' : b < s.heap.objs.size := by
        have e' : b = e ∨ b = it := by simpa using hb
        rcases e' with z | z
        · rw [z]; exact hel
        · rw [z]; exact hil
      rw [upd_ne (Nat.ne_of_lt hb')]
      exact (hf b hb).1
  done := by
    intro X hP hw hK hc i pins s σ H E I hf st hg
    subst hP hw hK
    obtain ⟨⟨old, he⟩, hit, hne⟩ := st
    obtain ⟨xs, hq, hx⟩ := hg
    obtain ⟨its, rv, p, hz⟩ := I.tuple hq
    have hl := rv.length
    have hT : s.heap.IsTuple a its.toArray := p
    have nai : a ≠ it := fun z => by
      obtain ⟨o, h1, h2, _⟩ := hit
      obtain ⟨o', h3, h4, _⟩ := p
      rw [z, h1] at h3; cases h3; rw [h2] at h4; injection h4 with h5; exact absurd h5 (by decide)
    have D := Draws.tuple (prog := X.prog) (w := X.w) (A := X.A.in1) (I.ok.hd hc) it a nai its.toArray
    obtain ⟨f0, f1, f2, f3, f4, f5⟩ := hf it (by simp)
    exact wpAny_pyNext_enum_endD D he (by show s.heap.IsTupleIter it a its.toArray.size ∧ _; rw [List.size_toArray, ← hl, hx]; exact ⟨hit, hT⟩) fun h' eb => ⟨rfl, I.turned (t' := s.toks) (fun b o hb q => eb b o hb q) f0 f1 f3 f4 f5⟩
  self := fun A i s Q E st h => let ⟨⟨_, he⟩, _⟩ := st; wpAny_pyIter_enum he h
/-! ### what is walked, by data -/
/-- what the walk leans on stands -/
def Kept (ps : List Addr) (a b : Wd) : Prop := ∀ p ∈ ps, ∀ us, a.H p = some (.lst us) → b.H p = some (.lst us)
def Lsts (ds : List D) (vs : List V) (ps : List Addr) : Prop := ∀ p ∈ ps, ∃ (i : Nat) (l : List D), ds[i]? = some (.lst l) ∧ vs[i]? = some (.ref p)
theorem lsts0 {ds : List D} {vs : List V} : Lsts ds vs [] := fun _ h => nomatch h
theorem lsts1 {l : List D} {ds : List D} {vs : List V} {p : Addr} : Lsts (.lst l :: ds) (.ref p :: vs) [p] := fun q h => by
  have e : q = p := by simpa using h
  subst e
  exact ⟨0, l, rfl, rfl⟩
theorem lsts2 {l m : List D} {ds : List D} {vs : List V} {p q : Addr} : Lsts (.lst l :: .lst m :: ds) (.ref p :: .ref q :: vs) [p, q] := fun r h => by
  have e : r = p ∨ r = q := by simpa using h
  rcases e with e | e
  · subst e; exact ⟨0, l, rfl, rfl⟩
  · subst e; exact ⟨1, m, rfl, rfl⟩
structure JOk (K : PySem.W.Frag) (J : It) (vs : List Addr) (a : Wd) (items : List D) : Prop where
  stop : ∀ w, Wk a w → Kept vs a w → J.stop items.length w.H
  go : ∀ w, Wk a w → Kept vs a w → ∀ i, i < items.length → J.go i w.H
  yld : ∀ w, Wk a w → Kept vs a w → ∀ (i : Nat) (d : D), items[i]? = some d → ∀ x H', J.yld i w.H x H' → ∃ w', w'.H = H' ∧ ExtA w w' ∧ Rep K w' d x
def itR (K : PySem.W.Frag) (k : Ik) (vs : List V) (H1 : Hp) (R : It → Hp → Prop) : Prop := ∃ w ds items, w.H = H1 ∧ RepPL K w ds vs ∧ itm k ds = some items ∧ ∀ J ps, Lsts ds vs ps → JOk K J ps w items → items.length ≤ sizeLine → R J w.H
section
variable {K : PySem.W.Frag} {a : Wd}
theorem kept_lst {p : Addr} {ps : List Addr} {us : List V} {w : Wd} (h : Kept ps a w) (m : p ∈ ps) (e : a.H p = some (.lst us)) : SqL K w.H p us := SqL.of (h p m _ e)
theorem rep_now {w : Wd} (e : Wk a w) {l : List D} {us : List V} (r : RepL K a l us) {i : Nat} {d : D} {x : V} (h : l[i]? = some d) (h' : us[i]? = some x) : Rep K w d x := by
  obtain ⟨z, h1, h2⟩ := (RepL.wk e l r).get h
  rw [h'] at h1; cases h1; exact h2
theorem jok_list {p : Addr} {us : List V} {l : List D} (e : a.H p = some (.lst us)) (r : RepL K a l us) : JOk K (Itl K p) [p] a l where
  stop := fun w _ kp => ⟨us, kept_lst kp (by simp) e, by rw [r.length]; exact Nat.le_refl _⟩
  go := fun w _ kp i hi => by
    obtain ⟨z, h1, _⟩ := r.get (List.getElem?_eq_getElem hi)
    exact ⟨us, z, kept_lst kp (by simp) e, h1⟩
  yld := fun w wk kp i d hd x H' ⟨h1, h2⟩ => ⟨w, h1.symm, .refl w, rep_now wk r hd (h2 us (kept_lst kp (by simp) e))⟩
theorem jok_tup {p : Addr} {us : List V} {l : List D} (e : TupAt K a.H p us) (r : RepL K a l us) : JOk K (Itt K p) [] a l where
  stop := fun w wk _ => ⟨us, (e.wk wk).sq, by rw [r.length]; exact Nat.le_refl _⟩
  go := fun w wk _ i hi => by
    obtain ⟨z, h1, _⟩ := r.get (List.getElem?_eq_getElem hi)
    exact ⟨us, z, (e.wk wk).sq, h1⟩
  yld := fun w wk kp i d hd x H' ⟨h1, h2⟩ => ⟨w, h1.symm, .refl w, rep_now wk r hd (h2 us (e.wk wk).sq)⟩
theorem pi_seq {X : Cx} {tg l : Expr} {tl : TE} (hl : PE X l tl) : PI X tg l (fun σ H R => tl σ H fun x H1 => itR X.K .seq [x] H1 R) := by
  refine ⟨fun pins s σ H R I h => ?_⟩
  refine thn (hl.run pins s σ H _ I h) fun v s1 ⟨x, H1, I1, r1, w, ds, items, e, hr, hi, k⟩ => ?_
  subst e
  have triv : PE X (.Constant .none 0 ⟨0, 0, 0, 0⟩) (fun _ _ _ => False) := ⟨fun _ _ _ _ _ _ h => h.elim⟩
  have fin : ∀ {b : Addr}, s1.heap.objs.size ≤ b → FpOk X pins w.H b := fun hb => I1.fpOk hb (I1.hok.fresh hb)
  cases ds with
  | nil => simp [itm, itSeq, itRng1] at hi
  | cons d ds =>
    obtain ⟨v', r', e1, h2, h3⟩ := hr
    cases ds with
    | cons _ _ => cases d <;> simp [itm, itSeq, itRng1] at hi
    | nil =>
      obtain ⟨rfl, rfl⟩ := List.cons.inj e1
      cases d with
      | lst l =>
        simp only [itm, itSeq, seqOf, Option.some.injEq] at hi
        subst hi
        obtain ⟨p, us, rfl, h4, r4⟩ := h2.lst
        cases r1
        obtain ⟨its, rv, pl, hz⟩ := I1.list (SqL.of (K := X.K) h4)
        refine wpAny_pyIter_list pl.isList ?_
        refine ⟨s1.heap.objs.size, [s1.heap.objs.size], _, _, w.H, rfl, I1.kept (t' := s1.toks) fun b o e => Heap.get?_push_of_some _ e, turn_list p _, ⟨_, Heap.get?_push_size _ rfl, rfl, rfl⟩, fun b hb => ?_, k _ _ lsts1 (jok_list h4 r4) (by rw [r4.length]; exact hz)⟩
        have e : b = s1.heap.objs.size := by simpa using hb
        subst e
        exact fin (Nat.le_refl _)
      | tup l =>
        simp only [itm, itSeq, seqOf, Option.some.injEq] at hi
        subst hi
        obtain ⟨p, us, rfl, h4, r4⟩ := h2.tup
        cases r1
        obtain ⟨its, rv, pl, hz⟩ := I1.tuple h4.sq
        refine wpAny_pyIter_tuple (show s1.heap.IsTuple p its.toArray from pl) ?_
        refine ⟨s1.heap.objs.size, [s1.heap.objs.size], _, _, w.H, rfl, I1.kept (t' := s1.toks) fun b o e => Heap.get?_push_of_some _ e, turn_tuple p _, ⟨_, Heap.get?_push_size _ rfl, rfl, rfl⟩, fun b hb => ?_, k _ _ lsts0 (jok_tup h4 r4) (by rw [r4.length]; exact hz)⟩
        have e : b = s1.heap.objs.size := by simpa using hb
        subst e
        exact fin (Nat.le_refl _)
      | str z =>
        simp only [itm, itSeq, itRng1] at hi
        split at hi <;> simp only [Option.some.injEq, reduceCtorEq] at hi
        rename_i hz
        subst hi
        have e := h2.str
        subst e
        obtain ⟨t, rfl⟩ := r1
        have J : JOk X.K (Its z) [] w (z.cps.toList.map fun c => .str ⟨#[c]⟩) :=
          { stop := fun w _ _ => by show z.cps.size ≤ _; simp
            go := fun w _ _ i hi => by show i < z.cps.size; simpa using hi
            yld := fun w _ _ i d hd x H' y => by
              obtain ⟨e1, c, h1, rfl⟩ := y
              refine ⟨w, e1.symm, .refl w, ?_⟩
              have h1' : z.cps.toList[i]? = some c := by simpa using h1
              rw [List.getElem?_map, h1'] at hd
              cases hd
              simp only [Rep] }
        cases ha : z.cps.all (· < 128)
        · exact wpAny_pyIter_wide ha (pi_one (tk := s1.toks) I1 _ (turn_str _ z t "str_iterator" (.inr rfl)) ⟨_, Heap.get?_push_size _ rfl, rfl, rfl⟩ (k _ _ lsts0 J (by rw [List.length_map, ← line_eq]; exact hz)))
        · exact wpAny_pyIter_ascii ha (pi_one (tk := s1.toks) I1 _ (turn_str _ z t "str_ascii_iterator" (.inl rfl)) ⟨_, Heap.get?_push_size _ rfl, rfl, rfl⟩ (k _ _ lsts0 J (by rw [List.length_map, ← line_eq]; exact hz)))
      | _ => simp [itm, itSeq, seqOf] at hi
theorem jok_rng {lo : Int} {n : Nat} {vs : List Addr} : JOk K (Itr lo n) vs a ((List.range n).map fun k => .int (lo + (k : Nat))) where
  stop := fun w _ _ => by show n ≤ _; simp
  go := fun w _ _ i hi => by show i < n; simpa using hi
  yld := fun w _ _ i d hd x H' ⟨h1, h2⟩ => by
    refine ⟨w, h1.symm, .refl w, ?_⟩
    rw [List.getElem?_map] at hd
    cases e : (List.range n)[i]? with
    | none => rw [e] at hd; cases hd
    | some j =>
      rw [e] at hd
      have : j = i := by
        have := (List.getElem?_eq_some_iff.mp e).2
        simpa using this.symm
      subst this
      cases hd
      simp only [Rep]
      exact h2
def tItr (K : PySem.W.Frag) (k : Ik) (ta : TA) : TI := fun σ H R => ta σ H fun vs H1 => itR K k vs H1 R
section
variable {X : Cx} {tg e e2 : Expr} {ta : TA} {p pos : Pos}
theorem pi_r1 (hg : Gl X "range") (hm : X.mg "range" = none) (ha : PA X [e] ta) (hs : starEach [e] X.env = [(false, eval e X.env)]) :
    PI X tg (.Call (.Name "range" p) [e] [] pos) (tItr X.K .rng1 ta) := by
  refine ⟨fun pins s σ H R I h => ?_⟩
  refine Call_ (ld_blt I hg hm boot_range (PyProof.Rows.callWith_type1 (thn (ha.run pos pins s σ H _ I h) fun us s1 ⟨vs, H1, I1, r1, w, ds, items, e1, hr, hi, k⟩ => ?_) hs rfl))
  subst e1
  cases ds with
  | nil => simp [itm, itSeq, itRng1] at hi
  | cons d ds =>
    cases ds with
    | cons _ _ => cases d <;> simp [itm, itSeq, itRng1] at hi
    | nil =>
      cases d with
      | int n =>
        simp only [itm, itSeq, itRng1] at hi
        split at hi <;> simp only [Option.some.injEq, reduceCtorEq] at hi
        rename_i hz
        subst hi
        obtain ⟨v, rfl, h2⟩ := one hr
        have e2 := h2.int
        subst e2
        cases r1 with
        | cons r rr =>
          cases rr
          obtain ⟨t, rfl⟩ := r
          have q : R (Itr 0 (n - 0).toNat) w.H := k _ [] lsts0 (by unfold rng; exact jok_rng) (by rw [sizeLine_eq]; simp [rng]; omega)
          exact call_range_1 (range_it I1 (by omega) (by omega) (by omega) (by omega) q)
      | _ => simp [itm, itSeq, itRng1] at hi
theorem pi_r2 (hg : Gl X "range") (hm : X.mg "range" = none) (ha : PA X [e, e2] ta) (hs : starEach [e, e2] X.env = [(false, eval e X.env), (false, eval e2 X.env)]) (hs2 : starEach [e2] X.env = [(false, eval e2 X.env)]) :
    PI X tg (.Call (.Name "range" p) [e, e2] [] pos) (tItr X.K .rng2 ta) := by
  refine ⟨fun pins s σ H R I h => ?_⟩
  refine Call_ (ld_blt I hg hm boot_range (PyProof.Rows.callWith_type1 (thn (ha.run pos pins s σ H _ I h) fun us s1 ⟨vs, H1, I1, r1, w, ds, items, e1, hr, hi, k⟩ => ?_) (by rw [hs, hs2]) (by rw [hs2]; rfl)))
  subst e1
  simp only [itm] at hi
  unfold itRng2 at hi
  split at hi <;> try (cases hi; done)
  rename_i i j
  split at hi <;> simp only [Option.some.injEq, reduceCtorEq] at hi
  rename_i hz
  subst hi
  obtain ⟨v, u, rfl, h2, h3⟩ := two hr
  have e3 := h2.int
  have e4 := h3.int
  subst e3 e4
  cases r1 with
  | cons r rr =>
    cases rr with
    | cons r' rr =>
      cases rr
      obtain ⟨t, rfl⟩ := r
      obtain ⟨t', rfl⟩ := r'
      have q : R (Itr i (j - i).toNat) w.H := k _ [] lsts0 (by unfold rng; exact jok_rng) (by rw [sizeLine_eq]; simp [rng]; omega)
      exact call_range_2 (range_it I1 (by omega) (by omega) (by omega) (by omega) q)
theorem fresh_tup {K : PySem.W.Frag} {w : Wd} {T : Addr} {vs : List V} {ds : List D} (h : w.H T = none) (r : RepL K w ds vs) : ExtA w (nw w T (.tup vs)) ∧ Rep K (nw w T (.tup vs)) (.tup ds) (.ref T) := by
  refine ⟨nw_ext h, ?_⟩
  simp only [Rep]
  exact ⟨T, vs, rfl, .inl upd_same, RepL.ext (nw_ext h).ext ds r⟩
theorem zipIdx_at {α : Type} : ∀ (l : List α) (n i : Nat) (q : α × Nat), (l.zipIdx n)[i]? = some q → l[i]? = some q.1 ∧ q.2 = n + i
  | [], n, i, q, h => by simp at h
  | a :: l, n, 0, q, h => by simp at h; subst h; simp
  | a :: l, n, i + 1, q, h => by
    simp only [List.zipIdx_cons, List.getElem?_cons_succ] at h ⊢
    obtain ⟨h1, h2⟩ := zipIdx_at l (n + 1) i q h
    exact ⟨h1, by omega⟩
theorem jok_enumL {K : PySem.W.Frag} {a : Wd} {p : Addr} {us : List V} {l : List D} (e : a.H p = some (.lst us)) (r : RepL K a l us) : JOk K (Ite K p) [p] a (l.zipIdx.map fun q => .tup [.int (q.2 : Nat), q.1]) where
  stop := fun w _ kp => ⟨us, kept_lst kp (by simp) e, by simp [r.length]⟩
  go := fun w _ kp i hi => by
    obtain ⟨z, h1, _⟩ := r.get (List.getElem?_eq_getElem (show i < l.length by simpa using hi))
    exact ⟨us, z, kept_lst kp (by simp) e, h1⟩
  yld := fun w wk kp i d hd x H' ⟨T, z, h0, h1, h2, h3⟩ => by
    rw [List.getElem?_map, Option.map_eq_some_iff] at hd
    obtain ⟨q, hq, rfl⟩ := hd
    obtain ⟨hq1, hq2⟩ := zipIdx_at l 0 i q hq
    have rz := rep_now wk r hq1 (h3 us (kept_lst kp (by simp) e))
    obtain ⟨g1, g2⟩ := fresh_tup (K := K) (vs := [.int (i : Nat), z]) (ds := [.int (q.2 : Nat), q.1]) h1 (by simp only [RepL, Rep]; exact ⟨_, _, rfl, by rw [hq2, Nat.zero_add], _, _, rfl, rz, rfl⟩)
    exact ⟨_, h2.symm, g1, by rw [h0]; exact g2⟩
theorem jok_enumT {K : PySem.W.Frag} {a : Wd} {p : Addr} {us : List V} {l : List D} (e : TupAt K a.H p us) (r : RepL K a l us) : JOk K (IteT K p) [] a (l.zipIdx.map fun q => .tup [.int (q.2 : Nat), q.1]) where
  stop := fun w wk _ => ⟨us, (e.wk wk).sq, by simp [r.length]⟩
  go := fun w wk _ i hi => by
    obtain ⟨z, h1, _⟩ := r.get (List.getElem?_eq_getElem (show i < l.length by simpa using hi))
    exact ⟨us, z, (e.wk wk).sq, h1⟩
  yld := fun w wk kp i d hd x H' ⟨T, z, h0, h1, h2, h3⟩ => by
    rw [List.getElem?_map, Option.map_eq_some_iff] at hd
    obtain ⟨q, hq, rfl⟩ := hd
    obtain ⟨hq1, hq2⟩ := zipIdx_at l 0 i q hq
    have rz := rep_now wk r hq1 (h3 us (e.wk wk).sq)
    obtain ⟨g1, g2⟩ := fresh_tup (K := K) (vs := [.int (i : Nat), z]) (ds := [.int (q.2 : Nat), q.1]) h1 (by simp only [RepL, Rep]; exact ⟨_, _, rfl, by rw [hq2, Nat.zero_add], _, _, rfl, rz, rfl⟩)
    exact ⟨_, h2.symm, g1, by rw [h0]; exact g2⟩
theorem zip_at {α β : Type} {l : List α} {m : List β} {i : Nat} {q : α × β} (h : (l.zip m)[i]? = some q) : l[i]? = some q.1 ∧ m[i]? = some q.2 := by
  rw [List.zip, List.getElem?_zipWith] at h
  cases h1 : l[i]? <;> cases h2 : m[i]? <;> rw [h1, h2] at h <;> simp at h
  subst h
  exact ⟨rfl, rfl⟩
theorem jok_zipL {K : PySem.W.Frag} {a : Wd} {p p2 : Addr} {us us2 : List V} {l m : List D} (e : a.H p = some (.lst us)) (r : RepL K a l us) (e2 : a.H p2 = some (.lst us2)) (r2 : RepL K a m us2) :
    JOk K (Itz K p p2) [p, p2] a ((l.zip m).map fun q => .tup [q.1, q.2]) where
  stop := fun w _ kp => ⟨us, us2, kept_lst kp (by simp) e, kept_lst kp (by simp) e2, by rw [← r.length, ← r2.length]; simp; omega⟩
  go := fun w _ kp i hi => by
    have hi' : i < l.length ∧ i < m.length := by simpa [Nat.lt_min] using hi
    obtain ⟨z, h1, _⟩ := r.get (List.getElem?_eq_getElem hi'.1)
    obtain ⟨y, h2, _⟩ := r2.get (List.getElem?_eq_getElem hi'.2)
    exact ⟨us, us2, z, y, kept_lst kp (by simp) e, kept_lst kp (by simp) e2, h1, h2⟩
  yld := fun w wk kp i d hd x H' ⟨T, z, y, h0, h1, h2, h3, h4⟩ => by
    rw [List.getElem?_map, Option.map_eq_some_iff] at hd
    obtain ⟨q, hq, rfl⟩ := hd
    obtain ⟨hq1, hq2⟩ := zip_at hq
    have rz := rep_now wk r hq1 (h3 us (kept_lst kp (by simp) e))
    have ry := rep_now wk r2 hq2 (h4 us2 (kept_lst kp (by simp) e2))
    obtain ⟨g1, g2⟩ := fresh_tup (K := K) (vs := [z, y]) (ds := [q.1, q.2]) h1 (by simp only [RepL]; exact ⟨_, _, rfl, rz, _, _, rfl, ry, rfl⟩)
    exact ⟨_, h2.symm, g1, by rw [h0]; exact g2⟩
theorem jok_zipT {K : PySem.W.Frag} {a : Wd} {p p2 : Addr} {us us2 : List V} {l m : List D} (e : TupAt K a.H p us) (r : RepL K a l us) (e2 : TupAt K a.H p2 us2) (r2 : RepL K a m us2) :
    JOk K (RZ.ItzT K p p2) [] a ((l.zip m).map fun q => .tup [q.1, q.2]) where
  stop := fun w wk kp => ⟨us, us2, (e.wk wk).sq, (e2.wk wk).sq, by rw [← r.length, ← r2.length]; simp; omega⟩
  go := fun w wk kp i hi => by
    have hi' : i < l.length ∧ i < m.length := by simpa [Nat.lt_min] using hi
    obtain ⟨z, h1, _⟩ := r.get (List.getElem?_eq_getElem hi'.1)
    obtain ⟨y, h2, _⟩ := r2.get (List.getElem?_eq_getElem hi'.2)
    exact ⟨us, us2, z, y, (e.wk wk).sq, (e2.wk wk).sq, h1, h2⟩
  yld := fun w wk kp i d hd x H' ⟨T, z, y, h0, h1, h2, h3, h4⟩ => by
    rw [List.getElem?_map, Option.map_eq_some_iff] at hd
    obtain ⟨q, hq, rfl⟩ := hd
    obtain ⟨hq1, hq2⟩ := zip_at hq
    have rz := rep_now wk r hq1 (h3 us (e.wk wk).sq)
    have ry := rep_now wk r2 hq2 (h4 us2 (e2.wk wk).sq)
    obtain ⟨g1, g2⟩ := fresh_tup (K := K) (vs := [z, y]) (ds := [q.1, q.2]) h1 (by simp only [RepL]; exact ⟨_, _, rfl, rz, _, _, rfl, ry, rfl⟩)
    exact ⟨_, h2.symm, g1, by rw [h0]; exact g2⟩
theorem pi_en {elts : List Expr} {kk : Nat} {tpos : Pos} (hg : Gl X "enumerate") (hm : X.mg "enumerate" = none) (ha : PA X [e] ta) (hs : starEach [e] X.env = [(false, eval e X.env)]) :
    PI X (.Tuple elts kk tpos) (.Call (.Name "enumerate" p) [e] [] pos) (tItr X.K .enum ta) := by
  refine ⟨fun pins s σ H R I h => ?_⟩
  refine Call_ (ld_blt I hg hm boot_enumerate (PyProof.Rows.callWith_type1 (thn (ha.run pos pins s σ H _ I h) fun us s1 ⟨vs, H1, I1, r1, w, ds, items, e1, hr, hi, k⟩ => ?_) hs rfl))
  subst e1
  simp only [itm] at hi
  unfold itEnum at hi
  split at hi <;> try (cases hi; done)
  rename_i d
  obtain ⟨v, rfl, h2⟩ := one hr
  have two2 : ∀ b, b ∈ [s1.heap.objs.size + 1, s1.heap.objs.size] → FpOk X pins w.H b := fun b hb => by
    have e' : b = s1.heap.objs.size + 1 ∨ b = s1.heap.objs.size := by simpa using hb
    have hle : s1.heap.objs.size ≤ b := by
      rcases e' with z | z
      · rw [z]; exact Nat.le_add_right _ _
      · rw [z]; exact Nat.le_refl _
    exact I1.fpOk hle (I1.hok.fresh hle)
  cases r1 with
  | cons r rr =>
    cases rr
    cases d with
    | lst l =>
      simp only [seqOf, Option.map_some, Option.some.injEq] at hi
      subst hi
      obtain ⟨q, us, rfl, h4, r4⟩ := h2.lst
      cases r
      obtain ⟨its, rv, p', hz⟩ := I1.list (SqL.of (K := X.K) h4)
      refine call_enumerate_list p'.isList fun h' he hit hsz hk => wpAny_pyIter_enum he ?_
      exact ⟨s1.heap.objs.size + 1, [s1.heap.objs.size + 1, s1.heap.objs.size], _, _, w.H, rfl, I1.kept (t' := s1.toks) hk, turn_enum q (s1.heap.objs.size + 1) s1.heap.objs.size, ⟨⟨.none, he⟩, hit, Nat.succ_ne_self _⟩, two2, k _ _ lsts1 (jok_enumL h4 r4) (by simp; rw [r4.length]; exact hz)⟩
    | tup l =>
      simp only [seqOf, Option.map_some, Option.some.injEq] at hi
      subst hi
      obtain ⟨q, us, rfl, h4, r4⟩ := h2.tup
      cases r
      obtain ⟨its, rv, p', hz⟩ := I1.tuple h4.sq
      have hT : s1.heap.IsTuple q its.toArray := p'
      refine enum_begins1 (begins_tuple q its.toArray) hT fun h' he hit hsz hk => wpAny_pyIter_enum he ?_
      exact ⟨s1.heap.objs.size + 1, [s1.heap.objs.size + 1, s1.heap.objs.size], _, _, w.H, rfl, I1.kept (t' := s1.toks) hk, turn_enumT q (s1.heap.objs.size + 1) s1.heap.objs.size, ⟨⟨.none, he⟩, ⟨_, hit, rfl, rfl⟩, Nat.succ_ne_self _⟩, two2, k _ _ lsts0 (jok_enumT h4 r4) (by simp; rw [r4.length]; exact hz)⟩
    | _ => simp [seqOf] at hi
theorem pi_zp {elts : List Expr} {kk : Nat} {tpos : Pos} (hg : Gl X "zip") (hm : X.mg "zip" = none) (ha : PA X [e, e2] ta)
    (hs : starEach [e, e2] X.env = (false, eval e X.env) :: starEach [e2] X.env) (hpl : (backTo pos (starEach [e2] X.env)).any (·.1) = false) :
    PI X (.Tuple elts kk tpos) (.Call (.Name "zip" p) [e, e2] [] pos) (tItr X.K .zip ta) := by
  refine ⟨fun pins s σ H R I h => ?_⟩
  refine Call_ (ld_blt I hg hm PyProof.Rows.boot_zip (PyProof.Rows.callWith_type1 (thn (ha.run pos pins s σ H _ I h) fun us s1 ⟨vs, H1, I1, r1, w, ds, items, e1, hr, hi, k⟩ => ?_) hs hpl))
  subst e1
  have fresh5 : ∀ c, c ∈ [s1.heap.objs.size + 4, s1.heap.objs.size + 2, s1.heap.objs.size + 3, s1.heap.objs.size, s1.heap.objs.size + 1] → FpOk X pins w.H c := fun c hcm => by
    have e' : c = s1.heap.objs.size + 4 ∨ c = s1.heap.objs.size + 2 ∨ c = s1.heap.objs.size + 3 ∨ c = s1.heap.objs.size ∨ c = s1.heap.objs.size + 1 := by simpa using hcm
    have hle : s1.heap.objs.size ≤ c := by
      rcases e' with z | z | z | z | z
      · rw [z]; exact Nat.le_add_right _ _
      · rw [z]; exact Nat.le_add_right _ _
      · rw [z]; exact Nat.le_add_right _ _
      · rw [z]; exact Nat.le_refl _
      · rw [z]; exact Nat.le_add_right _ _
    exact I1.fpOk hle (I1.hok.fresh hle)
  simp only [itm] at hi
  unfold itZip at hi
  split at hi <;> try (cases hi; done)
  · cases hi
    obtain ⟨v, u, rfl, h2, h3⟩ := two hr
    obtain ⟨q, us2, rfl, h4, r4⟩ := h2.lst
    obtain ⟨q2, us3, rfl, h5, r5⟩ := h3.lst
    cases r1 with
    | cons r rr =>
      cases rr with
      | cons r' rr =>
        cases rr
        cases r
        cases r'
        obtain ⟨its, rv, p1, hz4⟩ := I1.list (SqL.of (K := X.K) h4)
        obtain ⟨its2, rv2, p2, _⟩ := I1.list (SqL.of (K := X.K) h5)
        refine call_zip_2 p1.isList p2.isList fun h' hz hTI hTO h1 h2 hsz hk => wpAny_pyIter_zip hz ?_
        exact ⟨s1.heap.objs.size + 4, [s1.heap.objs.size + 4, s1.heap.objs.size + 2, s1.heap.objs.size + 3, s1.heap.objs.size, s1.heap.objs.size + 1], _, _, w.H, rfl, I1.kept (t' := s1.toks) hk, turn_zip (PySem.W.ktu_apart s1.heap.objs.size q q2 p1.lt p2.lt), ⟨hz, hTI, ⟨_, _, hTO⟩, h1, h2⟩, fresh5, k _ _ lsts2 (jok_zipL h4 r4 h5 r5) (by simp; rw [r4.length]; omega)⟩
  · cases hi
    obtain ⟨v, u, rfl, h2, h3⟩ := two hr
    obtain ⟨q, us2, rfl, h4, r4⟩ := h2.tup
    obtain ⟨q2, us3, rfl, h5, r5⟩ := h3.tup
    cases r1 with
    | cons r rr =>
      cases rr with
      | cons r' rr =>
        cases rr
        cases r
        cases r'
        obtain ⟨its, rv, p1, hz4⟩ := I1.tuple h4.sq
        obtain ⟨its2, rv2, p2, _⟩ := I1.tuple h5.sq
        obtain ⟨o1, ho1, _⟩ := id p1
        obtain ⟨o2, ho2, _⟩ := id p2
        refine RZ.call_zipT (show s1.heap.IsTuple q its.toArray from p1) (show s1.heap.IsTuple q2 its2.toArray from p2) fun h' hz hTI hTO h1 h2 hsz hk => wpAny_pyIter_zip hz ?_
        exact ⟨s1.heap.objs.size + 4, [s1.heap.objs.size + 4, s1.heap.objs.size + 2, s1.heap.objs.size + 3, s1.heap.objs.size, s1.heap.objs.size + 1], _, _, w.H, rfl, I1.kept (t' := s1.toks) hk, RZ.turn_zipT (PySem.W.ktu_apart s1.heap.objs.size q q2 (Heap.lt_size ho1) (Heap.lt_size ho2)), ⟨hz, hTI, ⟨_, _, hTO⟩, h1, h2⟩, fresh5, k _ _ lsts0 (jok_zipT h4 r4 h5 r5) (by simp; rw [r4.length]; omega)⟩
end
end
end Ev

end
section
set_option maxRecDepth 100000
set_option maxHeartbeats 2000000
namespace Ev
open PySem PySem.Spec PyProof.Rows L2

/-! ### readings by data -/
structure Pm where
  K : PySem.W.Frag
  mg : Str → Option Value
  Φ : Fns
  H0 : Hp
  W : WX
abbrev CAm (mg : Str → Option Value) : CAt := fun c C => mg c = some (.ref C)
def XP (P : Pm) (w : Wd) (σ : L2.St) (c : Str) (S : Sto) : Prop := ∀ w', Ext w w' → Sm (CAm P.mg) P.K w' S → ∀ C, P.mg c = some (.ref C) → P.W (.ref C) none σ w'.H
theorem XP.ext {P : Pm} {a b : Wd} (e : Ext a b) {σ : L2.St} {c : Str} {S : Sto} (h : XP P a σ c S) : XP P b σ c S := fun w' e' => h w' (e.trans e')
def tG {α β : Type} (P : Pm) (f : Env → M α) (rel : Wd → Wd → α → β → Prop) : L2.St → Hp → (β → Hp → Prop) → Prop := fun σ H Q => ∃ w ρ S, w.H = H ∧ Sm (CAm P.mg) P.K w S ∧ EnvS P.K w P.H0 ρ σ ∧
  Run (f ρ S) (fun a S' => ∀ w' b, Ext w w' → Sm (CAm P.mg) P.K w' S' → rel w w' a b → Q b w'.H) (XP P w σ)
def tM (P : Pm) (m : Md) (e : E) : TE := tG P (evE P.Φ e) (Post P.K m)
def tT (P : Pm) (e : E) : TT := tG P (fun ρ => (evE P.Φ e ρ).bind fun d => M.lift (asBl d)) (fun _ _ a b => a = b)
def tAp (P : Pm) (e : E) : TA := tG P (evA P.Φ e) (fun _ w' ds vs => RepPL P.K w' ds vs)
def tAf (P : Pm) (e : E) : TA := tG P (evA P.Φ e) (fun _ w' ds vs => RepL P.K w' ds vs)
def tC (P : Pm) (e : E) : TT := tG P (evT P.Φ e) (fun _ _ a b => a = b)
theorem tG_mk {α β : Type} {P : Pm} {f : Env → M α} {rel : Wd → Wd → α → β → Prop} {w : Wd} {ρ : Env} {S : Sto} {σ : L2.St} {Q : β → Hp → Prop} (sm : Sm (CAm P.mg) P.K w S) (en : EnvS P.K w P.H0 ρ σ)
    (h : Run (f ρ S) (fun a S' => ∀ w' b, Ext w w' → Sm (CAm P.mg) P.K w' S' → rel w w' a b → Q b w'.H) (XP P w σ)) : tG P f rel σ w.H Q := ⟨w, ρ, S, rfl, sm, en, h⟩
theorem PE.imp {X : Cx} {e : Expr} {t t' : TE} (h : PE X e t) (q : ∀ σ H Q, t' σ H Q → t σ H Q) : PE X e t' := ⟨fun pins s σ H Q I z => h.run pins s σ H Q I (q σ H Q z)⟩
theorem PT.imp {X : Cx} {e : Expr} {t t' : TT} (h : PT X e t) (q : ∀ σ H Q, t' σ H Q → t σ H Q) : PT X e t' := ⟨fun pins s σ H Q I z => h.run pins s σ H Q I (q σ H Q z)⟩
theorem PW.imp {X : Cx} {e : Expr} {t t' : TT} (h : PW X e t) (q : ∀ σ H Q, t' σ H Q → t σ H Q) : PW X e t' := ⟨fun wh pins s σ H Q I z => h.run wh pins s σ H Q I (q σ H Q z)⟩
theorem PA.imp {X : Cx} {e : List Expr} {t t' : TA} (h : PA X e t) (q : ∀ σ H Q, t' σ H Q → t σ H Q) : PA X e t' := ⟨fun pos pins s σ H Q I z => h.run pos pins s σ H Q I (q σ H Q z)⟩
/-- a value seen otherwise -/
theorem post_down {K : PySem.W.Frag} {w w' : Wd} {d : D} {v : V} (h : Post K .fr w w' d v) (ok : WOk w') (sm : ∀ {CA S}, Sm CA K w' S → True) : ∃ w2, w2.H = w'.H ∧ (∀ {a}, Ext a w' → a.H = w.H → Ext a w2) ∧ (∀ CA S, Sm CA K w' S → Sm CA K w2 S) ∧ Rep K w2 d v := by
  by_cases q : ∃ l, d = .lst l
  · obtain ⟨l, rfl⟩ := q
    obtain ⟨q, vs, rfl, h1, h2, h3, h4⟩ := h.1 l rfl
    refine ⟨fz w' q, rfl, fun {a} e he => fz_extE e (by rw [he]; exact h1) (by rw [h3]; simp), fun CA S s => s.fz (by rw [h3]; simp), ?_⟩
    simp only [Rep]
    exact ⟨q, vs, rfl, .inr rfl, h3, RepL.wk fz_wk l h4⟩
  · exact ⟨w', rfl, fun {a} e _ => e, fun _ _ s => s, h.2 fun l e => q ⟨l, e⟩⟩
theorem tM_fr {P : Pm} {m : Md} {e : E} (hm : m ≠ .fr) {σ : L2.St} {H : Hp} {Q : VK} (h : tM P m e σ H Q) : tM P .fr e σ H Q := by
  obtain ⟨w, ρ, S, rfl, sm, en, h⟩ := h
  refine tG_mk sm en (h.mono (fun d S' k w' v ex sm' po => ?_) fun _ _ x => x)
  cases m with
  | fr => exact absurd rfl hm
  | pk => exact k w' v ex sm' (post_pk po)
  | fz =>
    obtain ⟨w2, e1, e2, e3, e4⟩ := post_down po sm'.ok (fun _ => trivial)
    rw [← e1]
    exact k w2 v (e2 ex rfl) (e3 _ _ sm') e4
theorem tM_pk {P : Pm} {m : Md} {e : E} {σ : L2.St} {H : Hp} {Q : VK} (h : tM P .pk e σ H Q) : tM P m e σ H Q := by
  obtain ⟨w, ρ, S, rfl, sm, en, h⟩ := h
  exact tG_mk sm en (h.mono (fun d S' k w' v ex sm' po => k w' v ex sm' (post_pk po)) fun _ _ x => x)
/-- how new the value of an expression is -/
def nat : E → Md
  | .pk _ => .pk
  | .bin _ _ _ => .fr
  | .lst _ => .fr
  | .slc _ _ _ => .fr
  | .rev _ => .fr
  | .blt _ _ => .fr
  | .mth _ _ _ => .fr
  | .lrg _ => .fr
  | .comp _ _ _ _ _ _ => .fr
  | _ => .fz
def fzE (e : E) : Bool := match nat e with
  | .pk => false
  | _ => true
def frE (e : E) : Bool := match nat e with
  | .fr => true
  | _ => false
def fzA : E → Bool
  | .nil => true
  | .cons a r => fzE a && fzA r
  | _ => false
theorem pe_pk {X : Cx} {P : Pm} {e : E} {ast : Expr} (h : PE X ast (tM P (nat e) e)) : PE X ast (tM P .pk e) := PE.imp h fun _ _ _ z => tM_pk z
theorem pe_fz {X : Cx} {P : Pm} {e : E} {ast : Expr} (h : PE X ast (tM P (nat e) e)) (q : fzE e = true) : PE X ast (tM P .fz e) := by
  unfold fzE at q
  cases hn : nat e with
  | pk => rw [hn] at q; cases q
  | fz => rw [hn] at h; exact h
  | fr => rw [hn] at h; exact PE.imp h fun _ _ _ z => tM_fr (by decide) z

/-- may stand as a test -/
def tst : E → Bool
  | .ite _ _ _ => false
  | .not a => tst a
  | .boo _ l => tst l
  | .cons a r => tst a && tst r
  | _ => true
/-! ### the check of code against its text -/
structure Tab where
  fns : List (Str × Fn)
  cst : List (Str × Cn)
  blt : List Str
structure Gm where
  N : List Str
  sc : Scope
  st : Option (List (Str × NameKind))
def relS (scope : Scope) (sc : Scope) : Scope :=
  { scope with names := scope.names.map fun (n, k) => if (k == .free && sc.kind == .function && sc.names.lookup n == some .cell) then (n, .cell) else (n, k) }
def Gm.blk (Γ : Gm) (scope : Scope) : Gm := ⟨Γ.N, relS scope Γ.sc, some scope.names⟩
def plainName (x : Str) : Bool := x != ("__debug__" : Str) && x != ("__classdict__" : Str)
def Gm.vis (Γ : Gm) (i : Nat) (x : Str) : Bool := decide (Γ.N[i]? = some x) && plainName x && (match Γ.sc.names.lookup x with
  | some .local => true
  | some .cell => true
  | some .free => true
  | _ => false)
def Gm.glb (Γ : Gm) (x : Str) : Bool := plainName x && decide (Γ.sc.names.lookup x = some .globalImplicit)
def Gm.sto (Γ : Gm) (i : Nat) (x : Str) : Bool := decide (Γ.N[i]? = some x) && (match Γ.sc.names.lookup x with
  | some .local => true
  | some .cell => (match Γ.st with
    | none => true
    | some names => decide (names.lookup x = some .cell))
  | _ => false)
def Gm.bl (T : Tab) (Γ : Gm) (x : Str) : Bool := Γ.glb x && T.blt.contains x && x != ("__name__" : Str)
def noStar : Expr → Bool
  | .Starred _ _ => false
  | _ => true
def noSlc : Expr → Bool
  | .Slice _ _ _ _ => false
  | _ => true
def noSet : Expr → Bool
  | .Set _ _ _ => false
  | _ => true
def isTupE : Expr → Bool
  | .Tuple _ _ _ => true
  | _ => false
def chkC : D → Const → Bool
  | .int i, .int j => decide (i = j)
  | .bl i, .bool j => i == j
  | .str i, .str j => decide (i = j)
  | .non, .none => true
  | _, _ => false
def optE : Option Expr → List Expr
  | none => []
  | some e => [e]
def Mt.nm : Mt → Str
  | .count => "count" | .index => "index"
/-- a call of a method: of what forms -/
def plainBase : Expr → Bool
  | .Name _ _ => true
  | .Constant _ _ _ => true
  | .Subscript _ _ _ => true
  | .List _ _ => true
  | _ => false
def chkTs (Γ : Gm) : List Nat → List Expr → Bool
  | [], [] => true
  | i :: is, .Name x _ :: es => Γ.sto i x && chkTs Γ is es
  | _, _ => false
def chkT (Γ : Gm) : T → Expr → Bool
  | .nm i, .Name x _ => Γ.sto i x
  | .tu is, .Tuple es _ _ => chkTs Γ is es
  | _, _ => false
def tgs : T → List Nat
  | .nm i => [i]
  | .tu is => is
def isTyN (t : String) : Bool := decide (t = "int" ∨ t = "bool" ∨ t = "str" ∨ t = "tuple" ∨ t = "list")
def chkI (cA : List Expr → Bool) (Tb : Tab) (Γ : Gm) : Ik → Expr → Expr → Bool
  | .seq, _, it => cA [it] && noStar it
  | .rng1, _, it => (match it with | .Call (.Name x _) [e] [] _ => decide (x = ("range" : Str)) && Γ.bl Tb x && cA [e] && noStar e | _ => false)
  | .rng2, _, it => (match it with | .Call (.Name x _) [e, e2] [] _ => decide (x = ("range" : Str)) && Γ.bl Tb x && cA [e, e2] && noStar e && noStar e2 | _ => false)
  | .rng3, _, _ => false
  | .enum, tt, it => (match it with | .Call (.Name x _) [e] [] _ => decide (x = ("enumerate" : Str)) && Γ.bl Tb x && cA [e] && isTupE tt && noStar e | _ => false)
  | .zip, tt, it => (match it with | .Call (.Name x _) [e, e2] [] _ => decide (x = ("zip" : Str)) && Γ.bl Tb x && cA [e, e2] && isTupE tt && noStar e && noStar e2 | _ => false)
mutual
def chkE (Tb : Tab) (Γ : Gm) : E → Expr → Bool
  | .var i, ast => match ast with | .Name x _ => Γ.vis i x | _ => false
  | .pk i, ast => match ast with | .Name x _ => Γ.vis i x | _ => false
  | .cst d, ast => match ast with | .Constant c _ _ => chkC d c | _ => false
  | .glo y c, ast => match ast with | .Name x _ => decide (x = y) && Γ.glb x && decide ((x, c) ∈ Tb.cst) | _ => false
  | .bin o a b, ast => match ast with | .BinOp l op r _ => decide (op = o.py) && chkE Tb Γ a l && chkE Tb Γ b r | _ => false
  | .neg a, ast => match ast with | .UnaryOp op x _ => decide (op = .USub) && chkE Tb Γ a x | _ => false
  | .not a, ast => match ast with | .UnaryOp op x _ => decide (op = .Not) && chkE Tb Γ a x | _ => false
  | .cmp o a b, ast => match ast with | .Compare l [op] [r] _ => decide (op = o.py) && chkE Tb Γ a l && chkE Tb Γ b r && !behindInMarks op r | _ => false
  | .chn o p a b c, ast => match ast with | .Compare l [op, op'] [m, r] _ => decide (op = o.py) && decide (op' = p.py) && chkE Tb Γ a l && chkE Tb Γ b m && chkE Tb Γ c r && !lastMarks [op, op'] [m, r] | _ => false
  | .boo k l, ast => match ast with | .BoolOp op vs _ => decide (op = (if k then .And else .Or)) && chkA Tb Γ l vs && !vs.isEmpty && fzA l | _ => false
  | .ite c a b, ast => match ast with | .IfExp t x y _ => tst c && chkE Tb Γ c t && chkE Tb Γ a x && chkE Tb Γ b y && fzE a && fzE b | _ => false
  | .tup l, ast => match ast with | .Tuple es _ _ => chkA Tb Γ l es && fzA l && decide (es.length ≤ 1000) | _ => false
  | .lst l, ast => match ast with | .List es _ => chkA Tb Γ l es && fzA l && decide (es.length ≤ 1000) | _ => false
  | .ix a b, ast => match ast with | .Subscript x y _ => chkE Tb Γ a x && chkE Tb Γ b y && noSlc y | _ => false
  | .slc a lo hi, ast => match ast with | .Subscript x (.Slice l h none _) _ => chkE Tb Γ a x && chkA Tb Γ lo (optE l) && chkA Tb Γ hi (optE h) | _ => false
  | .rev a, ast => match ast with | .Subscript x (.Slice none none (some (.UnaryOp op (.Constant (.int i) _ _) _)) _) _ => chkE Tb Γ a x && decide (op = .USub) && decide (i = 1) | _ => false
  | .call f l, ast => match ast with | .Call (.Name x _) (e :: es) [] _ => decide (x = f) && Γ.glb f && (match Tb.fns.lookup f with | some F => decide (F.ps.length = (e :: es).length) | none => false) && es.all noStar && chkA Tb Γ l (e :: es) && noStar e && fzA l | _ => false
  | .blt b l, ast => match ast with | .Call (.Name x _) (e :: es) [] _ => decide (x = PySem.Str.ofString b.name) && Γ.bl Tb x && es.all noStar && noStar e && chkA Tb Γ l (e :: es) | _ => false
  | .isi a t, ast => match ast with | .Call (.Name x _) [e, .Name y _] [] _ => decide (x = ("isinstance" : Str)) && Γ.bl Tb x && decide (y = PySem.Str.ofString t) && Γ.bl Tb y && chkE Tb Γ a e && noStar e && isTyN t | _ => false
  | .mth m a l, ast => match ast with | .Call (.Attribute x n p1) (e :: es) [] p2 => decide (n = m.nm) && chkE Tb Γ a x && chkA Tb Γ l (e :: es) && plainBase x && (e :: es).all noStar && decide ((e :: es).length < 20) && (p1.endLine == p2.line) | _ => false
  | .inr k a b, ast => match ast with | .Compare x [op] [.Call (.Name f _) [y] [] _] _ => k && decide (op = .In) && decide (f = ("range" : Str)) && Γ.bl Tb f && chkE Tb Γ a x && chkE Tb Γ b y && noStar y | _ => false
  | .lrg a, ast => match ast with | .Call (.Name g _) [.Call (.Name f _) [y] [] _] [] _ => decide (g = ("list" : Str)) && Γ.bl Tb g && decide (f = ("range" : Str)) && Γ.bl Tb f && chkE Tb Γ a y && noStar y | _ => false
  | .comp k src tg own cnd elt, ast => match ast with
    | .ListComp el [⟨tt, it, ifs, a⟩] scope _ => decide (a = 0) && blkC Γ.N Γ.sc scope own && chkT (Γ.blk scope) tg tt && (tgs tg).all (fun i => (own.map (·.2)).contains i) && noSet it &&
        chkI (fun es => chkA Tb Γ src es) Tb Γ k tt it &&
        chkA Tb (Γ.blk scope) cnd ifs && tst cnd && decide (ifs.length ≤ 1) && chkE Tb (Γ.blk scope) elt el && fzE elt
    | _ => false
  | _, _ => false
def chkA (Tb : Tab) (Γ : Gm) : E → List Expr → Bool
  | .nil, es => es.isEmpty
  | .cons a r, es => match es with | x :: xs => chkE Tb Γ a x && noStar x && chkA Tb Γ r xs | [] => false
  | _, _ => false
end
/-- a def's promise: it does what its code tells -/
def spF (K : PySem.W.Frag) (mg : Str → Option Value) (Φ : Fns) (f : Str) (n : Nat) : Sp := fun vs H Q E => ∃ w ds S, w.H = H ∧ Sm (CAm mg) K w S ∧ RepL K w ds vs ∧ ds.length = n ∧
  Run (Φ f ds S) (fun d S' => ∀ w' v, Ext w w' → Sm (CAm mg) K w' S' → Rep K w' d v → Q v w'.H) (fun c S' => ∀ w', Ext w w' → Sm (CAm mg) K w' S' → ∀ C, mg c = some (.ref C) → E (.ref C) none w'.H)
def phi (Tb : Tab) (n : Nat) : Fns := call (fun f => Tb.fns.lookup f) n
def lv (n : Nat) : Nat := 2 * n + 1
/-- where the text stands -/
structure Cok (Tb : Tab) (n : Nat) (Γ : Gm) (X : Cx) (W : WX) : Prop where
  N : X.N = Γ.N
  nd : X.N.Nodup
  sc : X.env.scope = Γ.sc
  fn : ∀ x, (∀ names, Γ.st = some names → names.lookup x = some .cell) → X.fn x = true
  calm : X.calm = true
  room : Room (lv n) X.A
  cst : ∀ x c, (x, c) ∈ Tb.cst → ∃ u v, X.mg x = some u ∧ RelV v u ∧ ∀ w, Rep X.K w c.d v
  blt : ∀ x ∈ Tb.blt, X.mg x = none
  fns : ∀ f F, Tb.fns.lookup f = some F → ∃ fa fd, X.mg f = some (.ref fa) ∧ PySem.W.keepIn X.K (.ref fa) = true ∧ Binds X.K fd F.ps [] ∧
    FnOk X.prog X.w X.K X.mg X.base (L2.CX X.prog X.w) (lv n) fa fd F.ps (spF X.K X.mg (phi Tb n) f F.ps.length)
  tk : Takes X W
abbrev pm (Tb : Tab) (n : Nat) (X : Cx) (H0 : Hp) (W : WX) : Pm := ⟨X.K, X.mg, phi Tb n, H0, W⟩
end Ev

end
section
set_option maxRecDepth 100000
set_option maxHeartbeats 2000000
namespace Ev
open PySem PySem.Spec PyProof.Rows L2

theorem post_from {K : PySem.W.Frag} {a b c : Wd} {d : D} {v : V} (e : Ext a b) (h : Post K .fr b c d v) : Post K .fr a c d v :=
  ⟨fun l z => let ⟨q, vs, h1, h2, h3⟩ := h.1 l z; ⟨q, vs, h1, e.none h2, h3⟩, h.2⟩
theorem post_fz {K : PySem.W.Frag} {a b : Wd} {d : D} {v : V} (h : Rep K b d v) : Post K .fz a b d v := h
section
variable {X : Cx} {P : Pm} {a b c : E} {x y z : Expr} {pos : Pos}
theorem ne_dbg {x : Str} (h : plainName x = true) : (x == ("__debug__" : Str)) = false ∧ (x == ("__classdict__" : Str)) = false := by
  unfold plainName at h
  simp only [Bool.and_eq_true, bne_iff_ne, ne_eq] at h
  exact ⟨beq_eq_false_iff_ne.mpr h.1, beq_eq_false_iff_ne.mpr h.2⟩
/-- a give behind two steps -/
theorem give_of {w w2 : Wd} {S2 : Sto} {d : D} {Q : VK} (e : Ext w w2) (sm : Sm (CAm P.mg) P.K w2 S2) (k : ∀ w' v, Ext w w' → Sm (CAm P.mg) P.K w' S2 → Post P.K .fr w w' d v → Q v w'.H) : Give P.K w2 d Q :=
  fun w3 v e3 p3 => k w3 v (e.trans e3.ext) (sm.ext e3) (post_from e p3)
theorem s_bin {o : Bop} (hK : X.K = P.K) (ha : PE X x (tM P .pk a)) (hb : PE X y (tM P .pk b)) : PE X (.BinOp x o.py y pos) (tM P .fr (.bin o a b)) := by
  refine PE.imp (pe_op (op_bop o) ha hb) ?_
  rintro σ H Q ⟨w, ρ, S, rfl, sm, en, h⟩
  simp only [evE] at h
  show tM P .pk a σ w.H _
  refine tG_mk sm en (h.bind.mono (fun x S1 h1 w1 v1 e1 sm1 p1 => ?_) fun _ _ z => z)
  show tM P .pk b σ w1.H _
  refine tG_mk sm1 (en.ext e1) (h1.bind.mono (fun y S2 h2 w2 v2 e2 sm2 p2 => ?_) fun _ _ z => z.ext e1)
  obtain ⟨d, hd, k⟩ := h2.lift
  rw [hK]
  exact ⟨w2, x, y, d, rfl, sm2.ok, (post_pk p1).ext e2, post_pk p2, hd, give_of (e1.trans e2) sm2 k⟩
theorem s_cmp {o : Cop} (hK : X.K = P.K) (hu : X.A.units + 70 < cLine) (ha : PE X x (tM P .pk a)) (hb : PE X y (tM P .pk b)) (hm : behindInMarks o.py y = false) : PE X (.Compare x [o.py] [y] pos) (tM P .fz (.cmp o a b)) := by
  refine PE.imp (pe_cmpR (op_cop hu o) ha hb hm) ?_
  rintro σ H Q ⟨w, ρ, S, rfl, sm, en, h⟩
  simp only [evE] at h
  show tM P .pk a σ w.H _
  refine tG_mk sm en (h.bind.mono (fun x S1 h1 w1 v1 e1 sm1 p1 => ?_) fun _ _ z => z)
  show tM P .pk b σ w1.H _
  refine tG_mk sm1 (en.ext e1) (h1.bind.mono (fun y S2 h2 w2 v2 e2 sm2 p2 => ?_) fun _ _ z => z.ext e1)
  obtain ⟨d, hd, k⟩ := h2.lift
  simp only [Option.map_eq_some_iff] at hd
  obtain ⟨b, hd, rfl⟩ := hd
  rw [hK]
  exact ⟨w2, x, y, b, rfl, (post_pk p1).ext e2, post_pk p2, hd, k w2 _ (e1.trans e2) sm2 (by simp only [Post, Rep])⟩
theorem s_cmpT {o : Cop} (hK : X.K = P.K) (hu : X.A.units + 70 < cLine) (ha : PE X x (tM P .pk a)) (hb : PE X y (tM P .pk b)) (hm : behindInMarks o.py y = false) : PT X (.Compare x [o.py] [y] pos) (tT P (.cmp o a b)) := by
  refine PT.imp (pt_cmpR (op_cop hu o) ha hb hm) ?_
  rintro σ H Q ⟨w, ρ, S, rfl, sm, en, h⟩
  simp only [evE] at h
  have h := h.bind
  show tOp (oC X.K o) (tM P .pk a) (tM P .pk b) σ w.H _
  show tM P .pk a σ w.H _
  refine tG_mk sm en (h.bind.mono (fun x S1 h1 w1 v1 e1 sm1 p1 => ?_) fun _ _ z => z)
  show tM P .pk b σ w1.H _
  refine tG_mk sm1 (en.ext e1) (h1.bind.mono (fun y S2 h2 w2 v2 e2 sm2 p2 => ?_) fun _ _ z => z.ext e1)
  obtain ⟨d, hd, k⟩ := h2.lift
  simp only [Option.map_eq_some_iff] at hd
  obtain ⟨b, hd, rfl⟩ := hd
  obtain ⟨b', hb', k⟩ := k.lift
  cases hb'
  rw [hK]
  exact ⟨w2, x, y, _, rfl, (post_pk p1).ext e2, post_pk p2, hd, _, rfl, k w2 _ (e1.trans e2) sm2 rfl⟩
theorem chain_core {o p : Cop} {w : Wd} {S : Sto} {ρ : Env} {σ : L2.St} {Q : VK} (hK : X.K = P.K) (sm : Sm (CAm P.mg) P.K w S) (en : EnvS P.K w P.H0 ρ σ)
    (h : Run (evE P.Φ (.chn o p a b c) ρ S) (fun d S' => ∀ w' v, Ext w w' → Sm (CAm P.mg) P.K w' S' → Post P.K .fz w w' d v → Q v w'.H) (XP P w σ)) :
    tChain (oC X.K o) (oC X.K p) (tM P .pk a) (tM P .pk b) (tM P .pk c) σ w.H Q := by
  simp only [evE] at h
  show tM P .pk a σ w.H _
  refine tG_mk sm en (h.bind.mono (fun x S1 h1 w1 v1 e1 sm1 p1 => ?_) fun _ _ z => z)
  show tM P .pk b σ w1.H _
  refine tG_mk sm1 (en.ext e1) (h1.bind.mono (fun y S2 h2 w2 v2 e2 sm2 p2 => ?_) fun _ _ z => z.ext e1)
  obtain ⟨k, hd, h3⟩ := h2.liftB
  rw [hK]
  refine ⟨w2, x, y, k, rfl, (post_pk p1).ext e2, post_pk p2, hd, k, rfl, ?_⟩
  cases k with
  | false =>
    rw [if_neg Bool.false_ne_true]
    simp only [Bool.false_eq_true, if_false] at h3
    exact h3 w2 _ (e1.trans e2) sm2 (by simp only [Post, Rep])
  | true =>
    rw [if_pos rfl]
    simp only [if_true] at h3
    show tM P .pk c σ w2.H _
    refine tG_mk sm2 ((en.ext e1).ext e2) (h3.bind.mono (fun z S3 h4 w3 v3 e3 sm3 p3 => ?_) fun _ _ z => (z.ext e1).ext e2)
    obtain ⟨d, hd2, k⟩ := h4.lift
    simp only [Option.map_eq_some_iff] at hd2
    obtain ⟨b, hd2, rfl⟩ := hd2
    exact ⟨w3, y, z, b, rfl, (post_pk p2).ext e3, post_pk p3, hd2, k w3 _ ((e1.trans e2).trans e3) sm3 (by simp only [Post, Rep])⟩
theorem s_chn {o p : Cop} (hK : X.K = P.K) (hu : X.A.units + 70 < cLine) (ha : PE X x (tM P .pk a)) (hb : PE X y (tM P .pk b)) (hc : PE X z (tM P .pk c)) (hm : lastMarks [o.py, p.py] [y, z] = false) :
    PE X (.Compare x [o.py, p.py] [y, z] pos) (tM P .fz (.chn o p a b c)) := by
  refine PE.imp (pe_chain (op_cop hu o) (op_cop hu p) ha hb hc hm) ?_
  rintro σ H Q ⟨w, ρ, S, rfl, sm, en, h⟩
  exact chain_core hK sm en h
theorem s_chnT {o p : Cop} (hK : X.K = P.K) (hu : X.A.units + 70 < cLine) (ha : PE X x (tM P .pk a)) (hb : PE X y (tM P .pk b)) (hc : PE X z (tM P .pk c)) (hm : lastMarks [o.py, p.py] [y, z] = false) :
    PT X (.Compare x [o.py, p.py] [y, z] pos) (tT P (.chn o p a b c)) := by
  refine PT.imp (pt_chain (op_cop hu o) (op_cop hu p) ha hb hc hm) ?_
  rintro σ H Q ⟨w, ρ, S, rfl, sm, en, h⟩
  refine chain_core (Q := fun v H' => ∃ k, v = .bl k ∧ Q k H') hK sm en (h.bind.mono (fun d S' k w' v e1 sm1 p1 => ?_) fun _ _ z => z)
  obtain ⟨b', hb', k⟩ := k.lift
  cases d with
  | bl t =>
    cases hb'
    exact ⟨b', (post_pk p1).bl, k w' _ e1 sm1 rfl⟩
  | _ => simp [asBl] at hb'
/-- an expression's value as a test -/
theorem s_val {m : Md} {e : E} {ast : Expr} (h : PE X ast (tM P m e)) (he : ∀ whole, isTrue ast X.env whole = (do let v ← whole; standAt ast.pos; holding [v] (truthy v))) : PT X ast (tT P e) := by
  refine PT.imp (pt_val h he) ?_
  rintro σ H Q ⟨w, ρ, S, rfl, sm, en, h⟩
  show tM P m e σ w.H _
  refine tG_mk sm en (h.bind.mono (fun d S' k w' v e1 sm1 p1 => ?_) fun _ _ z => z)
  obtain ⟨b', hb', k⟩ := k.lift
  cases d with
  | bl t =>
    cases hb'
    exact ⟨b', (post_pk p1).bl, k w' _ e1 sm1 rfl⟩
  | _ => simp [asBl] at hb'
theorem s_not (ha : PE X x (tM P .pk a)) : PE X (.UnaryOp .Not x pos) (tM P .fz (.not a)) := by
  refine PE.imp (pe_not ha) ?_
  rintro σ H Q ⟨w, ρ, S, rfl, sm, en, h⟩
  simp only [evE] at h
  show tM P .pk a σ w.H _
  refine tG_mk sm en (h.bind.mono (fun d S' k w' v e1 sm1 p1 => ?_) fun _ _ z => z)
  obtain ⟨d', hd, k⟩ := k.lift
  simp only [Option.map_eq_some_iff] at hd
  obtain ⟨b, hb, rfl⟩ := hd
  cases d with
  | bl t =>
    cases hb
    exact ⟨b, (post_pk p1).bl, k w' _ e1 sm1 (by simp only [Post, Rep])⟩
  | _ => simp [asBl] at hb
theorem s_notT (ha : PT X x (tT P a)) : PT X (.UnaryOp .Not x pos) (tT P (.not a)) := by
  refine PT.imp (pt_not ha) ?_
  rintro σ H Q ⟨w, ρ, S, rfl, sm, en, h⟩
  simp only [evE] at h
  refine tG_mk sm en ?_
  have h := h.bind
  have h := h.bind
  cases q : evE P.Φ a ρ S with
  | er => rw [q] at h; exact h.elim
  | ex c S1 =>
    rw [q] at h
    unfold M.bind
    rw [q]
    exact h
  | ok d S1 =>
    rw [q] at h
    unfold M.bind
    rw [q]
    obtain ⟨d', hd, k⟩ := Run.lift h
    simp only [Option.map_eq_some_iff] at hd
    obtain ⟨b, hb, rfl⟩ := hd
    obtain ⟨b', hb', k⟩ := k.lift
    cases hb'
    show Run (M.lift (asBl d) S1) _ _
    rw [hb]
    intro w' b2 e1 sm1 e2
    cases e2
    exact k w' _ e1 sm1 rfl
theorem s_neg (ha : PE X x (tM P .pk a)) : PE X (.UnaryOp .USub x pos) (tM P .fz (.neg a)) := by
  refine PE.imp (pe_un un_neg ha) ?_
  rintro σ H Q ⟨w, ρ, S, rfl, sm, en, h⟩
  simp only [evE] at h
  show tM P .pk a σ w.H _
  refine tG_mk sm en (h.bind.mono (fun d S' k w' v e1 sm1 p1 => ?_) fun _ _ z => z)
  obtain ⟨d', hd, k⟩ := k.lift
  cases d with
  | int i =>
    cases hd
    exact ⟨i, (post_pk p1).int, k w' _ e1 sm1 (by simp only [Post, Rep])⟩
  | _ => simp at hd
theorem s_ite (hc : PT X x (tT P c)) (ha : PE X y (tM P .fz a)) (hb : PE X z (tM P .fz b)) : PE X (.IfExp x y z pos) (tM P .fz (.ite c a b)) := by
  refine PE.imp (pe_ifExp hc ha hb) ?_
  rintro σ H Q ⟨w, ρ, S, rfl, sm, en, h⟩
  simp only [evE] at h
  show tT P c σ w.H _
  refine tG_mk sm en ?_
  have h := h.bind
  cases q : evE P.Φ c ρ S with
  | er => rw [q] at h; exact h.elim
  | ex c S1 => rw [q] at h; unfold M.bind; rw [q]; exact h
  | ok d S1 =>
    rw [q] at h
    obtain ⟨b, hb, h⟩ := Run.liftB h
    unfold M.bind; rw [q]
    show Run (M.lift (asBl d) S1) _ _
    rw [hb]
    intro w' b2 e1 sm1 e2
    cases e2
    have fin : ∀ e, Run (evE P.Φ e ρ S1) (fun d S' => ∀ w' v, Ext w w' → Sm (CAm P.mg) P.K w' S' → Post P.K .fz w w' d v → Q v w'.H) (XP P w σ) → tM P .fz e σ w'.H Q := fun e h =>
      tG_mk sm1 (en.ext e1) (h.mono (fun d S' k w2 v e2 sm2 p2 => k w2 v (e1.trans e2) sm2 p2) fun _ _ z => z.ext e1)
    cases b with
    | true => rw [if_pos rfl]; exact fin a h
    | false => rw [if_neg Bool.false_ne_true]; exact fin b h
def lenE : E → Nat
  | .cons _ r => lenE r + 1
  | _ => 0
theorem evA_len {Φ : Fns} {ρ : Env} : ∀ {l : E} {S : Sto} {Q : List D → Sto → Prop} {R : Str → Sto → Prop}, Run (evA Φ l ρ S) Q R → Run (evA Φ l ρ S) (fun ds S' => Q ds S' ∧ ds.length = lenE l) R := by
  intro l
  induction l with
  | nil => intro S Q R h; simp only [evA] at h ⊢; exact ⟨h, rfl⟩
  | cons a r _ ih =>
    intro S Q R h
    simp only [evA] at h ⊢
    have h := h.bind
    cases q : evE Φ a ρ S with
    | er => rw [q] at h; exact h.elim
    | ex c S1 => rw [q] at h; unfold M.bind; rw [q]; exact h
    | ok d S1 =>
      rw [q] at h
      have h := ih (Run.bind h)
      unfold M.bind
      rw [q]
      show Run (M.bind (evA Φ r ρ) _ S1) _ _
      cases q2 : evA Φ r ρ S1 with
      | er => rw [q2] at h; exact h.elim
      | ex c S2 => rw [q2] at h; unfold M.bind; rw [q2]; exact h
      | ok ds S2 =>
        rw [q2] at h
        unfold M.bind
        rw [q2]
        exact ⟨h.1, by simp [lenE, h.2]⟩
  | _ => intro S Q R h; simp only [evA] at h; exact h.elim
theorem small1000' {n : Nat} (h : n ≤ 1000) : n ≤ sizeLine := Nat.le_of_lt (small1000 h)
theorem s_tup {l : E} {es : List Expr} {k : Nat} (ha : PA X es (tAf P l)) (hl : lenE l ≤ 1000) : PE X (.Tuple es k pos) (tM P .fz (.tup l)) := by
  refine PE.imp (pe_tup ha) ?_
  rintro σ H Q ⟨w, ρ, S, rfl, sm, en, h⟩
  simp only [evE] at h
  show tAf P l σ w.H _
  refine tG_mk sm en ((evA_len h.bind).mono (fun ds S' k w' vs e1 sm1 p1 => ⟨by rw [← p1.length, k.2]; exact small1000' hl, fun p hp => ?_⟩) fun _ _ z => z)
  obtain ⟨g1, g2⟩ := fresh_tup (K := P.K) hp p1
  exact k.1 _ _ (e1.trans g1.ext) (sm1.ext g1) g2
theorem s_lst {l : E} {es : List Expr} (ha : PA X es (tAf P l)) (hl : lenE l ≤ 1000) : PE X (.List es pos) (tM P .fr (.lst l)) := by
  refine PE.imp (pe_lst ha) ?_
  rintro σ H Q ⟨w, ρ, S, rfl, sm, en, h⟩
  simp only [evE] at h
  show tAf P l σ w.H _
  refine tG_mk sm en ((evA_len h.bind).mono (fun ds S' k w' vs e1 sm1 p1 => ⟨by rw [← p1.length, k.2]; exact small1000' hl, fun p hp => ?_⟩) fun _ _ z => z)
  exact k.1 _ _ (e1.trans (nw_ext hp).ext) (sm1.ext (nw_ext hp)) (post_from e1 (res_lst sm1.ok hp p1))
theorem s_ix (hK : X.K = P.K) (ha : PE X x (tM P .pk a)) (hb : PE X y (tM P .pk b)) (hs : noSlc y = true) : PE X (.Subscript x y pos) (tM P .fz (.ix a b)) := by
  have hp : PlainIx y := by
    intro o i
    cases y <;> first | rfl | (simp [noSlc] at hs; done)
  refine PE.imp (pe_ix op_ix ha hb hp) ?_
  rintro σ H Q ⟨w, ρ, S, rfl, sm, en, h⟩
  simp only [evE] at h
  show tM P .pk a σ w.H _
  refine tG_mk sm en (h.bind.mono (fun x S1 h1 w1 v1 e1 sm1 p1 => ?_) fun _ _ z => z)
  show tM P .pk b σ w1.H _
  refine tG_mk sm1 (en.ext e1) (h1.bind.mono (fun y S2 h2 w2 v2 e2 sm2 p2 => ?_) fun _ _ z => z.ext e1)
  obtain ⟨d, hd, k⟩ := h2.lift
  rw [hK]
  exact ⟨w2, x, y, d, rfl, (post_pk p1).ext e2, post_pk p2, hd, fun v hv => k w2 v (e1.trans e2) sm2 hv⟩
theorem s_rev (hK : X.K = P.K) {k : Nat} {p1 p2 p3 : Pos} (ha : PE X x (tM P .pk a)) : PE X (.Subscript x (.Slice none none (some (.UnaryOp .USub (.Constant (.int 1) k p1) p2)) p3) pos) (tM P .fr (.rev a)) := by
  refine PE.imp (pe_rev ha) ?_
  rintro σ H Q ⟨w, ρ, S, rfl, sm, en, h⟩
  simp only [evE] at h
  show tM P .pk a σ w.H _
  refine tG_mk sm en (h.bind.mono (fun d S1 h1 w1 v1 e1 sm1 p1 => ?_) fun _ _ z => z)
  obtain ⟨d', hd, k⟩ := h1.lift
  rw [hK]
  unfold revD at hd
  split at hd
  · cases hd
    obtain ⟨q, us, rfl, h2, r⟩ := (post_pk p1).lst
    exact ⟨q, us, rfl, .inl ⟨SqL.of h2, fun p hp => k _ _ (e1.trans (nw_ext hp).ext) (sm1.ext (nw_ext hp)) (post_from e1 (res_lst sm1.ok hp r.reverse))⟩⟩
  · cases hd
    obtain ⟨q, us, rfl, h2, r⟩ := (post_pk p1).tup
    exact ⟨q, us, rfl, .inr ⟨h2.sq, fun p hp => k _ _ (e1.trans (nw_ext hp).ext) (sm1.ext (nw_ext hp)) (res_tup hp r.reverse |> fun z => post_from e1 z)⟩⟩
  · cases hd
/-- a slice's part -/
def tPa (P : Pm) (l : E) : TO := tG P (fun ρ => (evA P.Φ l ρ).bind fun ds => M.lift (partD ds)) (fun _ _ a b => a = b)
theorem s_slc (hK : X.K = P.K) {lo hi : E} {l h : Option Expr} {p2 : Pos} (ha : PE X x (tM P .pk a)) (hl : PO X l (tPa P lo)) (hh : PO X h (tPa P hi)) : PE X (.Subscript x (.Slice l h none p2) pos) (tM P .fr (.slc a lo hi)) := by
  refine PE.imp (pe_slice op_slc ha hl hh) ?_
  rintro σ H Q ⟨w, ρ, S, rfl, sm, en, h⟩
  simp only [evE] at h
  show tM P .pk a σ w.H _
  refine tG_mk sm en (h.bind.mono (fun d S1 h1 w1 v1 e1 sm1 p1 => ?_) fun _ _ z => z)
  show tPa P lo σ w1.H _
  have assoc : ∀ {α β γ : Type} (m : M α) (f : α → M β) (g : β → M γ), m.bind (fun a => (f a).bind g) = (m.bind f).bind g := fun m f g => by
    funext S
    unfold M.bind
    cases m S <;> rfl
  rw [assoc] at h1
  refine tG_mk sm1 (en.ext e1) (h1.bind.mono (fun lo' S2 h2 w2 lo2 e2 sm2 p2 => ?_) fun _ _ z => z.ext e1)
  subst p2
  show tPa P hi σ w2.H _
  rw [assoc] at h2
  refine tG_mk sm2 ((en.ext e1).ext e2) (h2.bind.mono (fun hi' S3 h3 w3 hi2 e3 sm3 p3 => ?_) fun _ _ z => (z.ext e1).ext e2)
  subst p3
  obtain ⟨d', hd, k⟩ := h3.lift
  rw [hK]
  exact ⟨w3, d, d', rfl, sm3.ok, ((post_pk p1).ext e2).ext e3, hd, give_of ((e1.trans e2).trans e3) sm3 k⟩
theorem boot_blt (b : Blt) : bootBuiltins (PySem.Str.ofString b.name) = some b.val := by cases b <;> decide +kernel
theorem s_blt {bl : Blt} (hK : X.K = P.K) (hc : X.calm = true) (hu : X.A.units + 70 < cLine) {f : Str} {p : Pos} {e : Expr} {es : List Expr} {l : E} (hf : f = PySem.Str.ofString bl.name) (hg : Gl X f) (hm : X.mg f = none) (hn : f ≠ "__name__") (hd : plainName f = true) (ha : PA X (e :: es) (tAp P l))
    (he : starEach (e :: es) X.env = (false, eval e X.env) :: starEach es X.env) (hpl : (backTo pos (starEach es X.env)).any (·.1) = false) : PE X (.Call (.Name f p) (e :: es) [] pos) (tM P .fr (.blt bl l)) := by
  have hv : bootBuiltins f = some bl.val := by rw [hf]; exact boot_blt bl
  have hcr := op_blt (X := X) hc hu bl
  have main : PE X (.Call (.Name f p) (e :: es) [] pos) (tCB (oF X.K bl) (tAp P l)) := by
    unfold Blt.val at hv hcr
    by_cases q : bl.isTy = true
    · rw [if_pos q] at hv hcr
      exact pe_callTy hcr hg hm hv ha hn (ne_dbg hd).1 he hpl
    · rw [if_neg q] at hv hcr
      exact pe_callB hcr hg hm hv ha hn (ne_dbg hd).1 he hpl
  refine PE.imp main ?_
  rintro σ H Q ⟨w, ρ, S, rfl, sm, en, h⟩
  simp only [evE] at h
  show tAp P l σ w.H _
  refine tG_mk sm en (h.bind.mono (fun ds S1 h1 w1 vs e1 sm1 p1 => ?_) fun _ _ z => z)
  obtain ⟨d', hd, k⟩ := h1.lift
  rw [hK]
  exact ⟨w1, ds, d', rfl, sm1.ok, p1, hd, give_of e1 sm1 k⟩
/-! ### isinstance -/
theorem isi_ty {K : PySem.W.Frag} {w : Wd} {d : D} {v : V} {t : String} {b : Bool} (r : RepP K w d v) (h : isiD d t = some b) : ∃ ty : Value, TyX K w.H v ty ∧ PySem.W.kitOne K ty (.type t) = some b := by
  unfold isiD at h
  split at h
  · rename_i ht
    have lst : ∀ {p : Addr} {us : List V}, w.H p = some (.lst us) → TyX K w.H (.ref p) (.type "list") := fun h => .base (.lst h)
    cases d with
    | non =>
      rw [r.non]
      refine ⟨_, .base .non, ?_⟩
      simp only [Option.some.injEq] at h
      subst h
      rcases ht with rfl | rfl | rfl | rfl | rfl <;> rfl
    | bl x =>
      rw [r.bl]
      refine ⟨_, .base (.bl x), ?_⟩
      simp only [Option.some.injEq] at h
      subst h
      rcases ht with rfl | rfl | rfl | rfl | rfl <;> rfl
    | int x =>
      rw [r.int]
      refine ⟨_, .base (.int x), ?_⟩
      simp only [Option.some.injEq] at h
      subst h
      rcases ht with rfl | rfl | rfl | rfl | rfl <;> rfl
    | str x =>
      rw [r.str]
      refine ⟨_, .base (.str x), ?_⟩
      simp only [Option.some.injEq] at h
      subst h
      rcases ht with rfl | rfl | rfl | rfl | rfl <;> rfl
    | lst l =>
      obtain ⟨p, us, rfl, h1, _⟩ := r.lst
      refine ⟨_, .base (.lst h1), ?_⟩
      simp only [Option.some.injEq] at h
      subst h
      rcases ht with rfl | rfl | rfl | rfl | rfl <;> rfl
    | tup l =>
      obtain ⟨p, us, rfl, h1, _⟩ := r.tup
      have ty : TyX K w.H (.ref p) (.type "tuple") := by
        rcases h1.sq with (h2 | ⟨o, h2⟩) | ⟨o, its, n, h2, h3, _⟩
        · exact .base (.tup h2)
        · exact .fTuple h2
        · exact .kTuple h2 h3
      refine ⟨_, ty, ?_⟩
      simp only [Option.some.injEq] at h
      subst h
      rcases ht with rfl | rfl | rfl | rfl | rfl <;> rfl
    | _ => simp at h
  · cases h
theorem boot_ty {t : String} (ht : t = "int" ∨ t = "bool" ∨ t = "str" ∨ t = "tuple" ∨ t = "list") : bootBuiltins (PySem.Str.ofString t) = some (.type t) := by
  rcases ht with rfl | rfl | rfl | rfl | rfl <;> decide +kernel
theorem s_isi {t : String} (hK : X.K = P.K) {p q : Pos} (ht : t = "int" ∨ t = "bool" ∨ t = "str" ∨ t = "tuple" ∨ t = "list") (hg : Gl X "isinstance") (hm : X.mg "isinstance" = none) (hg2 : Gl X (PySem.Str.ofString t)) (hm2 : X.mg (PySem.Str.ofString t) = none)
    (ha : PE X x (tM P .pk a)) (hst : noStar x = true) : PE X (.Call (.Name "isinstance" p) [x, .Name (PySem.Str.ofString t) q] [] pos) (tM P .fz (.isi a t)) := by
  have hs : starEach [x, .Name (PySem.Str.ofString t) q] X.env = (false, eval x X.env) :: starEach [.Name (PySem.Str.ofString t) q] X.env := by
    cases x <;> first | rfl | (simp [noStar] at hst; done)
  have hn : (PySem.Str.ofString t) ≠ ("__name__" : Str) := by rcases ht with rfl | rfl | rfl | rfl | rfl <;> decide
  have hdb : ((PySem.Str.ofString t) == ("__debug__" : Str)) = false := by rcases ht with rfl | rfl | rfl | rfl | rfl <;> decide
  have hty : PE X (.Name (PySem.Str.ofString t) q) (L2.tC (.ty t)) := pe_bltn hg2 hm2 (boot_ty ht) rfl hn hdb
  have main := pe_callB (x := "isinstance") (p := p) (pos := pos) (call_isi (X := X)) hg hm (by decide +kernel) (pa_cons ha (pa_cons hty pa_nil) hs) (by decide) (by decide) hs rfl
  refine PE.imp main ?_
  rintro σ H Q ⟨w, ρ, S, rfl, sm, en, h⟩
  simp only [evE] at h
  show tM P .pk a σ w.H _
  refine tG_mk sm en (h.bind.mono (fun d S1 h1 w1 v1 e1 sm1 p1 => ?_) fun _ _ z => z)
  obtain ⟨d', hd, k⟩ := h1.lift
  simp only [Option.map_eq_some_iff] at hd
  obtain ⟨b, hd, rfl⟩ := hd
  rw [hK]
  obtain ⟨ty, h2, h3⟩ := isi_ty (post_pk p1) hd
  exact ⟨v1, .ty t, ty, .type t, b, rfl, .ty t, h2, h3, k w1 _ e1 sm1 (by simp only [Post, Rep])⟩
/-! ### calls -/
theorem s_call {f : Str} {l : E} {n k fa : Nat} {fd : FuncData} {ps : List Str} {p : Pos} {e : Expr} {es : List Expr} (hK : X.K = P.K) (hmg : X.mg = P.mg)
    (F : FnOk X.prog X.w X.K X.mg X.base (L2.CX X.prog X.w) k fa fd ps (spF X.K X.mg P.Φ f n)) (hr : Room k X.A) (hg : Gl X f) (hm : X.mg f = some (.ref fa)) (hk : PySem.W.keepIn X.K (.ref fa) = true) (hb : Binds X.K fd ps [])
    (tk : Takes X P.W) (hn : lenE l = n) (hd : plainName f = true) (ha : PA X (e :: es) (tAf P l)) (he : starEach (e :: es) X.env = (false, eval e X.env) :: starEach es X.env) (hpl : (backTo pos (starEach es X.env)).any (·.1) = false) :
    PE X (.Call (.Name f p) (e :: es) [] pos) (tM P .fz (.call f l)) := by
  have main := pe_callS (E := WE P.W) (p := p) (pos := pos) F hr hg hm hk hb (fun σ => passAt tk σ) ha (ne_dbg hd).1 he hpl
  refine PE.imp main ?_
  rintro σ H Q ⟨w, ρ, S, rfl, sm, en, h⟩
  simp only [evE] at h
  show tAf P l σ w.H _
  refine tG_mk sm en ((evA_len h.bind).mono (fun ds S1 h1 w1 vs e1 sm1 p1 => ?_) fun _ _ z => z)
  rw [hK, hmg]
  refine ⟨w1, ds, S1, rfl, sm1, p1, by rw [h1.2, hn], h1.1.mono (fun d S2 k w2 v e2 sm2 p2 => k w2 v (e1.trans e2) sm2 p2) fun c S2 z w2 e2 sm2 C hC => z w2 (e1.trans e2) sm2 C hC⟩
end
end Ev

end
section
set_option maxRecDepth 100000
set_option maxHeartbeats 2000000
namespace Ev
open PySem PySem.Spec PyProof.Rows L2

/-! ### a list that only we have, written -/
def wr (w : Wd) (p : Addr) (vs : List V) : Wd := { w with H := upd w.H p (.lst vs) }
theorem wr_wk {w : Wd} {p : Addr} {us vs : List V} (h : w.H p = some (.lst us)) (g : ¬ w.G p) : Wk w (wr w p vs) :=
  ⟨fun _ h => h, ⟨[], by simp [wr]⟩, fun q o e _ l => by
    show upd w.H p _ q = some o
    by_cases z : q = p
    · subst z; rw [h] at e; cases e; exact absurd (l rfl) g
    · rw [upd_ne z]; exact e⟩
theorem FsRep.wk {K : PySem.W.Frag} {a b : Wd} (e : Wk a b) : ∀ (fs : List (Str × D)) {gs : List (Str × V)}, FsRep K a fs gs → FsRep K b fs gs
  | [], gs, h => h
  | (f, d) :: r, gs, ⟨v, s, h1, h2, h3⟩ => ⟨v, s, h1, Rep.wk e d h2, FsRep.wk e r h3⟩
theorem Sm.wr {CA : CAt} {K : PySem.W.Frag} {w : Wd} {S : Sto} {p : Addr} {us vs : List V} (s : Sm CA K w S) (h : w.H p = some (.lst us)) (g : ¬ w.G p) : Sm CA K (wr w p vs) S :=
  ⟨fun q hq => by
    show upd w.H p _ q ≠ none
    by_cases z : q = p
    · subst z; rw [upd_same]; simp
    · rw [upd_ne z]; exact s.ok q hq, s.len, s.nd, fun n o q h1 h2 => by
    obtain ⟨C, dx, fs, q1, q2, q3⟩ := s.ob n o q h1 h2
    refine ⟨C, dx, fs, q1, ?_, FsRep.wk (wr_wk h g) _ q3⟩
    show upd w.H p _ q = _
    rw [upd_ne (fun z => by subst z; rw [h] at q2; cases q2)]
    exact q2⟩
theorem ext_wr {a w : Wd} {p : Addr} {vs : List V} (e : Ext a w) (h : a.H p = none) : Ext a (wr w p vs) :=
  ⟨e.g, e.gn, e.f, fun q o k i => by
    show upd w.H p _ q = some o
    rw [upd_ne (ne_of_none k h)]; exact e.k q o k i, fun q C dx fs k => by
    obtain ⟨fs', z⟩ := e.i q C dx fs k
    refine ⟨fs', ?_⟩
    show upd w.H p _ q = _
    rw [upd_ne (ne_of_none k h)]; exact z, fun k q hq => by
    show upd w.H p _ q ≠ none
    by_cases z : q = p
    · subst z; rw [upd_same]; simp
    · rw [upd_ne z]; exact e.w k q hq⟩
section
variable {X : Cx} {P : Pm} {Tb : Tab} {n : Nat} {Γ : Gm} {W : WX} {H0 : Hp} {x y : Str} {i : Nat} {pos : Pos}
theorem vis_of (sc : X.env.scope = Γ.sc) (nd : X.N = Γ.N) (h : Γ.vis i x = true) : X.N[i]? = some x ∧ Vis X.env.scope x ∧ plainName x = true := by
  unfold Gm.vis at h
  simp only [Bool.and_eq_true, decide_eq_true_eq] at h
  obtain ⟨⟨h1, h2⟩, h3⟩ := h
  refine ⟨by rw [nd]; exact h1, ?_, h2⟩
  unfold Vis
  rw [sc]
  revert h3
  split <;> intro h3 <;> simp_all
theorem s_var (sc : X.env.scope = Γ.sc) (nd : X.N = Γ.N) (h : Γ.vis i x = true) : PE X (.Name x pos) (tM P .fz (.var i)) := by
  obtain ⟨h1, h2, h3⟩ := vis_of sc nd h
  refine PE.imp (pe_var h1 h2 (ne_dbg h3).1 (ne_dbg h3).2) ?_
  rintro σ H Q ⟨w, ρ, S, rfl, sm, en, h⟩
  simp only [evE] at h
  obtain ⟨d, hd, k⟩ := h.lift
  cases q : ρ[i]? with
  | none => rw [q] at hd; cases hd
  | some s =>
    cases s with
    | val d' =>
      rw [q] at hd
      cases hd
      obtain ⟨v, e1, u, rfl, r⟩ := en.get q
      exact ⟨u, e1, k w u (.refl w) sm r⟩
    | _ => rw [q] at hd; cases hd
theorem s_pk (sc : X.env.scope = Γ.sc) (nd : X.N = Γ.N) (h : Γ.vis i x = true) : PE X (.Name x pos) (tM P .pk (.pk i)) := by
  obtain ⟨h1, h2, h3⟩ := vis_of sc nd h
  refine PE.imp (pe_var h1 h2 (ne_dbg h3).1 (ne_dbg h3).2) ?_
  rintro σ H Q ⟨w, ρ, S, rfl, sm, en, h⟩
  simp only [evE] at h
  obtain ⟨d, hd, k⟩ := h.lift
  cases q : ρ[i]? with
  | none => rw [q] at hd; cases hd
  | some s =>
    cases s with
    | own l =>
      rw [q] at hd
      cases hd
      obtain ⟨v, e1, p, vs, rfl, _, _, h4, h5⟩ := en.get q
      exact ⟨.ref p, e1, k w _ (.refl w) sm (.inr ⟨l, p, vs, rfl, rfl, h4, h5⟩)⟩
    | _ => rw [q] at hd; cases hd
theorem s_cst {d : D} {c : Const} {k : Nat} (h : chkC d c = true) : PE X (.Constant c k pos) (tM P .fz (.cst d)) := by
  have go : ∀ {v : V} {σ : L2.St} {H : Hp} {Q : VK}, (∀ w : Wd, Rep P.K w d v) → tM P .fz (.cst d) σ H Q → L2.tC v σ H Q := by
    rintro v σ H Q hr ⟨w, ρ, S, rfl, sm, en, h⟩
    simp only [evE] at h
    exact Run.mono h (fun a S' k => k) (fun _ _ z => z) |> fun z => z w _ (.refl w) sm (hr w)
  unfold chkC at h
  split at h
  · simp only [decide_eq_true_eq] at h; subst h; exact PE.imp pe_int fun σ H Q z => go (fun w => by simp only [Rep]) z
  · simp only [beq_iff_eq] at h; subst h; exact PE.imp pe_bl fun σ H Q z => go (fun w => by simp only [Rep]) z
  · simp only [decide_eq_true_eq] at h; subst h; exact PE.imp pe_str fun σ H Q z => go (fun w => by simp only [Rep]) z
  · exact PE.imp pe_non fun σ H Q z => go (fun w => by simp only [Rep]) z
  · cases h
theorem glb_of (sc : X.env.scope = Γ.sc) (h : Γ.glb x = true) : Gl X x ∧ plainName x = true := by
  unfold Gm.glb at h
  simp only [Bool.and_eq_true, decide_eq_true_eq] at h
  refine ⟨?_, h.1⟩
  show X.env.scope.names.lookup x = _
  rw [sc]
  exact h.2
theorem bl_of (sc : X.env.scope = Γ.sc) (hb : ∀ x ∈ Tb.blt, X.mg x = none) (h : Γ.bl Tb x = true) : Gl X x ∧ X.mg x = none ∧ plainName x = true ∧ x ≠ "__name__" := by
  unfold Gm.bl at h
  simp only [Bool.and_eq_true, bne_iff_ne, ne_eq, List.contains_iff_mem] at h
  obtain ⟨⟨h1, h2⟩, h3⟩ := h
  obtain ⟨g1, g2⟩ := glb_of sc h1
  exact ⟨g1, hb x h2, g2, h3⟩
theorem s_glo {c : Cn} {u : Value} {v : V} (sc : X.env.scope = Γ.sc) (h : Γ.glb x = true) (hm : X.mg x = some u) (hv : RelV v u) (hr : ∀ w, Rep P.K w c.d v) : PE X (.Name x pos) (tM P .fz (.glo y c)) := by
  obtain ⟨g1, g2⟩ := glb_of sc h
  refine PE.imp (pe_glob g1 hm hv (ne_dbg g2).1) ?_
  rintro σ H Q ⟨w, ρ, S, rfl, sm, en, h⟩
  simp only [evE] at h
  exact Run.mono h (fun a S' k => k) (fun _ _ z => z) |> fun z => z w _ (.refl w) sm (hr w)
/-! ### lists of expressions -/
end
end Ev

end
section
set_option maxRecDepth 100000
set_option maxHeartbeats 2000000
namespace Ev
open PySem PySem.Spec PyProof.Rows L2
section
variable {X : Cx} {P : Pm} {a r : E} {x : Expr} {es : List Expr} {pos : Pos}
theorem star_of {env : PySem.Env} (h : noStar x = true) : starEach (x :: es) env = (false, eval x env) :: starEach es env := by
  cases x <;> first | rfl | (simp [noStar] at h; done)
theorem s_nilP : PA X [] (tAp P .nil) := by
  refine PA.imp pa_nil ?_
  rintro σ H Q ⟨w, ρ, S, rfl, sm, en, h⟩
  simp only [evA] at h
  exact (show ∀ w' b, Ext w w' → Sm (CAm P.mg) P.K w' S → RepPL P.K w' [] b → Q b w'.H from h) w [] (.refl w) sm rfl
theorem s_nilF : PA X [] (tAf P .nil) := by
  refine PA.imp pa_nil ?_
  rintro σ H Q ⟨w, ρ, S, rfl, sm, en, h⟩
  simp only [evA] at h
  exact (show ∀ w' b, Ext w w' → Sm (CAm P.mg) P.K w' S → RepL P.K w' [] b → Q b w'.H from h) w [] (.refl w) sm (by simp only [RepL])
theorem s_consP (ha : PE X x (tM P .pk a)) (hr : PA X es (tAp P r)) (hs : noStar x = true) : PA X (x :: es) (tAp P (.cons a r)) := by
  refine PA.imp (pa_cons ha hr (star_of hs)) ?_
  rintro σ H Q ⟨w, ρ, S, rfl, sm, en, h⟩
  simp only [evA] at h
  show tM P .pk a σ w.H _
  refine tG_mk sm en (h.bind.mono (fun x S1 h1 w1 v1 e1 sm1 p1 => ?_) fun _ _ z => z)
  show tAp P r σ w1.H _
  refine tG_mk sm1 (en.ext e1) (h1.bind.mono (fun y S2 h2 w2 v2 e2 sm2 p2 => ?_) fun _ _ z => z.ext e1)
  exact (show ∀ w' b, Ext w w' → Sm (CAm P.mg) P.K w' S2 → RepPL P.K w' (x :: y) b → Q b w'.H from h2) w2 _ (e1.trans e2) sm2 ⟨_, _, rfl, (post_pk p1).ext e2, p2⟩
theorem s_consF (ha : PE X x (tM P .fz a)) (hr : PA X es (tAf P r)) (hs : noStar x = true) : PA X (x :: es) (tAf P (.cons a r)) := by
  refine PA.imp (pa_cons ha hr (star_of hs)) ?_
  rintro σ H Q ⟨w, ρ, S, rfl, sm, en, h⟩
  simp only [evA] at h
  show tM P .fz a σ w.H _
  refine tG_mk sm en (h.bind.mono (fun x S1 h1 w1 v1 e1 sm1 p1 => ?_) fun _ _ z => z)
  show tAf P r σ w1.H _
  refine tG_mk sm1 (en.ext e1) (h1.bind.mono (fun y S2 h2 w2 v2 e2 sm2 p2 => ?_) fun _ _ z => z.ext e1)
  exact (show ∀ w' b, Ext w w' → Sm (CAm P.mg) P.K w' S2 → RepL P.K w' (x :: y) b → Q b w'.H from h2) w2 _ (e1.trans e2) sm2 (by simp only [RepL]; exact ⟨_, _, rfl, Rep.ext e2 _ (show Rep P.K w1 x v1 from p1), p2⟩)
theorem s_po0 : PO X none (tPa P .nil) := by
  have : PO X none tNoPart := po_none
  refine ⟨fun pins s σ H Q I h => this.run pins s σ H Q I ?_⟩
  obtain ⟨w, ρ, S, rfl, sm, en, h⟩ := h
  simp only [evA] at h
  exact (show ∀ w' b, Ext w w' → Sm (CAm P.mg) P.K w' S → none = b → Q b w'.H from h) w none (.refl w) sm rfl
theorem s_po1 (ha : PE X x (tM P .pk a)) : PO X (some x) (tPa P (.cons a .nil)) := by
  have q : PO X (some x) (tPart (tM P .pk a)) := po_some ha
  refine ⟨fun pins s σ H Q I h => q.run pins s σ H Q I ?_⟩
  obtain ⟨w, ρ, S, rfl, sm, en, h⟩ := h
  simp only [evA] at h
  show tM P .pk a σ w.H _
  refine tG_mk sm en (h.bind.bind.mono (fun x S1 h1 w1 v1 e1 sm1 p1 => ?_) fun _ _ z => z)
  have h2 : Run (M.lift (partD [x]) S1) _ _ := h1
  obtain ⟨d, hd, k⟩ := h2.lift
  cases x with
  | int i =>
    cases hd
    exact ⟨i, (post_pk p1).int, k w1 _ e1 sm1 rfl⟩
  | _ => simp [partD] at hd
def bop_ (k : Bool) : BoolOp := if k then .And else .Or
theorem s_boo1 {k : Bool} (ha : PE X x (tM P .fz a)) : PE X (.BoolOp (bop_ k) [x] pos) (tM P .fz (.boo k (.cons a .nil))) := by
  refine PE.imp (pe_one ha) ?_
  rintro σ H Q ⟨w, ρ, S, rfl, sm, en, h⟩
  simp only [evE, evB] at h
  exact ⟨w, ρ, S, rfl, sm, en, h⟩
theorem evB_cons {Φ : Fns} {k : Bool} {ρ : Env} (hr : r ≠ .nil) : evB Φ k (.cons a r) ρ = (evE Φ a ρ).bind fun x => (M.lift (asBl x)).bind fun b => if b = k then evB Φ k r ρ else M.pure (.bl (!k)) := by
  cases r <;> first | (exact absurd rfl hr) | (simp only [evB]; done)
theorem s_boo2 {k : Bool} {y : Expr} (hn : r ≠ .nil) (ha : PE X x (tM P .fz a)) (hr : PE X (.BoolOp (bop_ k) (y :: es) pos) (tM P .fz (.boo k r))) : PE X (.BoolOp (bop_ k) (x :: y :: es) pos) (tM P .fz (.boo k (.cons a r))) := by
  cases k with
  | true =>
    refine PE.imp (pe_and ha hr) ?_
    rintro σ H Q ⟨w, ρ, S, rfl, sm, en, h⟩
    simp only [evE] at h
    rw [evB_cons hn] at h
    show tM P .fz a σ w.H _
    refine tG_mk sm en (h.bind.mono (fun x S1 h1 w1 v1 e1 sm1 p1 => ?_) fun _ _ z => z)
    obtain ⟨c, hc, h2⟩ := h1.liftB
    cases x with
    | bl t =>
      cases hc
      refine ⟨c, (post_pk p1).bl, ?_⟩
      cases c with
      | true =>
        rw [if_pos rfl]
        simp only [if_true] at h2
        exact tG_mk sm1 (en.ext e1) (show Run (evE P.Φ (.boo true r) ρ S1) _ _ by simp only [evE]; exact h2.mono (fun d S' k w2 v e2 sm2 p2 => k w2 v (e1.trans e2) sm2 p2) fun _ _ z => z.ext e1)
      | false =>
        rw [if_neg Bool.false_ne_true]
        simp only [Bool.false_eq_true, if_false] at h2
        exact (show ∀ w' b, Ext w w' → Sm (CAm P.mg) P.K w' S1 → Post P.K .fz w w' (.bl false) b → Q b w'.H from h2) w1 _ e1 sm1 (by simp only [Post, Rep])
    | _ => simp [asBl] at hc
  | false =>
    refine PE.imp (pe_or ha hr) ?_
    rintro σ H Q ⟨w, ρ, S, rfl, sm, en, h⟩
    simp only [evE] at h
    rw [evB_cons hn] at h
    show tM P .fz a σ w.H _
    refine tG_mk sm en (h.bind.mono (fun x S1 h1 w1 v1 e1 sm1 p1 => ?_) fun _ _ z => z)
    obtain ⟨c, hc, h2⟩ := h1.liftB
    cases x with
    | bl t =>
      cases hc
      refine ⟨c, (post_pk p1).bl, ?_⟩
      cases c with
      | false =>
        rw [if_neg Bool.false_ne_true]
        simp only [if_true] at h2
        exact tG_mk sm1 (en.ext e1) (show Run (evE P.Φ (.boo false r) ρ S1) _ _ by simp only [evE]; exact h2.mono (fun d S' k w2 v e2 sm2 p2 => k w2 v (e1.trans e2) sm2 p2) fun _ _ z => z.ext e1)
      | true =>
        rw [if_pos rfl]
        simp only [Bool.true_eq_false, if_false] at h2
        exact (show ∀ w' b, Ext w w' → Sm (CAm P.mg) P.K w' S1 → Post P.K .fz w w' (.bl true) b → Q b w'.H from h2) w1 _ e1 sm1 (by simp only [Post, Rep])
    | _ => simp [asBl] at hc
theorem s_booT1 {k : Bool} (ha : PT X x (tT P a)) : PW X (.BoolOp (bop_ k) [x] pos) (tT P (.boo k (.cons a .nil))) := by
  have : PW X (.BoolOp (bop_ k) [x] pos) (tT P a) := by
    cases k with
    | true => exact pw_and1 ha
    | false => exact pw_or1 ha
  refine PW.imp this ?_
  rintro σ H Q ⟨w, ρ, S, rfl, sm, en, h⟩
  simp only [evE, evB] at h
  exact ⟨w, ρ, S, rfl, sm, en, h⟩
theorem M.assoc {α β γ : Type} (m : M α) (f : α → M β) (g : β → M γ) : (m.bind f).bind g = m.bind fun a => (f a).bind g := by
  funext S
  unfold M.bind
  cases m S <;> rfl
theorem s_booT2 {k : Bool} {y : Expr} (hn : r ≠ .nil) (ha : PT X x (tT P a)) (hr : PW X (.BoolOp (bop_ k) (y :: es) pos) (tT P (.boo k r))) : PW X (.BoolOp (bop_ k) (x :: y :: es) pos) (tT P (.boo k (.cons a r))) := by
  have pre : ∀ {w ρ S} {σ : L2.St} {Q : Bool → Hp → Prop} {Q2 : Bool → Hp → Prop}, Sm (CAm P.mg) P.K w S → EnvS P.K w P.H0 ρ σ → Run (((evE P.Φ (.boo k (.cons a r)) ρ).bind fun d => M.lift (asBl d)) S) (fun c S' => ∀ w' b, Ext w w' → Sm (CAm P.mg) P.K w' S' → c = b → Q b w'.H) (XP P w σ) →
      (∀ c S1 w1, Ext w w1 → Sm (CAm P.mg) P.K w1 S1 → EnvS P.K w1 P.H0 ρ σ → (if c = k then tT P (.boo k r) σ w1.H Q else Q (!k) w1.H) → Q2 c w1.H) → tT P a σ w.H Q2 := by
    intro w ρ S σ Q Q2 sm en h k2
    simp only [evE] at h
    rw [evB_cons hn, M.assoc] at h
    refine tG_mk sm en ?_
    rw [show ((evE P.Φ a ρ).bind fun x => M.bind ((M.lift (asBl x)).bind fun b => if b = k then evB P.Φ k r ρ else M.pure (.bl (!k))) fun d => M.lift (asBl d)) = (((evE P.Φ a ρ).bind fun x => M.lift (asBl x)).bind fun b => (if b = k then evB P.Φ k r ρ else M.pure (.bl (!k))).bind fun d => M.lift (asBl d)) by
      rw [M.assoc]; congr 1; funext x; rw [M.assoc]] at h
    refine h.bind.mono (fun c S1 h1 w1 b e1 sm1 eb => ?_) fun _ _ z => z
    subst eb
    refine k2 c S1 w1 e1 sm1 (en.ext e1) ?_
    by_cases q : c = k
    · rw [if_pos q] at h1 ⊢
      exact tG_mk sm1 (en.ext e1) (show Run (((evE P.Φ (.boo k r) ρ).bind fun d => M.lift (asBl d)) S1) _ _ by simp only [evE]; exact h1.mono (fun d S' k w2 v e2 sm2 p2 => k w2 v (e1.trans e2) sm2 p2) fun _ _ z => z.ext e1)
    · rw [if_neg q] at h1 ⊢
      exact (show ∀ w' b, Ext w w' → Sm (CAm P.mg) P.K w' S1 → (!k) = b → Q b w'.H from h1) w1 _ e1 sm1 rfl
  cases k with
  | true =>
    refine PW.imp (pw_and ha hr) ?_
    rintro σ H Q ⟨w, ρ, S, rfl, sm, en, h⟩
    refine pre sm en h fun c S1 w1 _ _ _ z => ?_
    cases c with
    | true => exact z
    | false => exact z
  | false =>
    refine PW.imp (pw_or ha hr) ?_
    rintro σ H Q ⟨w, ρ, S, rfl, sm, en, h⟩
    refine pre sm en h fun c S1 w1 _ _ _ z => ?_
    cases c with
    | true => exact z
    | false => exact z
/-- the tests of a clause -/
theorem s_pts0 : PTs X [] (tC P .nil) := by
  have := pts_nil (X := X)
  refine ⟨fun pins s σ H Q I h => this.run pins s σ H Q I ?_⟩
  obtain ⟨w, ρ, S, rfl, sm, en, h⟩ := h
  simp only [evT] at h
  exact (show ∀ w' b, Ext w w' → Sm (CAm P.mg) P.K w' S → true = b → Q b w'.H from h) w true (.refl w) sm rfl
theorem s_pts1 (ha : PT X x (tT P a)) : PTs X [x] (tC P (.cons a .nil)) := by
  have := pts_one ha
  refine ⟨fun pins s σ H Q I h => this.run pins s σ H Q I ?_⟩
  obtain ⟨w, ρ, S, rfl, sm, en, h⟩ := h
  simp only [evT] at h
  exact ⟨w, ρ, S, rfl, sm, en, h⟩
/-! ### targets -/
def gNs : List Nat → TGs
  | [] => gNil
  | i :: is => gCons (gName i) (gNs is)
def gT (K : PySem.W.Frag) : T → TG
  | .nm i => gName i
  | .tu is => gTup K is.length (gNs is)
theorem wipe_set {σ : L2.St} {i : Nat} {v : Option V} : ∀ {vs : List Nat}, i ∈ vs → L2.wipe (σ.set i v) vs = L2.wipe σ vs
  | j :: vs, h => by
    unfold L2.wipe
    by_cases q : i ∈ vs
    · rw [wipe_set q]
    · obtain rfl : i = j := by
        rcases List.mem_cons.mp h with e | e
        · exact e
        · exact absurd e q
      have : ∀ vs : List Nat, i ∉ vs → L2.wipe (σ.set i v) vs = (L2.wipe σ vs).set i v := by
        intro vs
        induction vs with
        | nil => intro _; rfl
        | cons k vs ih =>
          intro hn
          have h1 : k ≠ i := fun e => hn (by rw [e]; exact List.mem_cons_self)
          have h2 : i ∉ vs := fun m => hn (List.mem_cons_of_mem _ m)
          unfold L2.wipe
          rw [ih h2, List.set_comm _ _ (Ne.symm h1)]
      rw [this vs q, List.set_set]
theorem gNs_put {K : PySem.W.Frag} {w : Wd} {H0 : Hp} : ∀ {is : List Nat} {ds : List D} {vs : List V} {ρ ρ' : Env} {σ : L2.St}, EnvS K w H0 ρ σ → putAll is ds ρ = some ρ' → RepL K w ds vs →
    vs.length = is.length ∧ ∃ σ', EnvS K w H0 ρ' σ' ∧ (∀ us, (∀ i ∈ is, i ∈ us) → L2.wipe σ' us = L2.wipe σ us) ∧ ∀ Q : L2.St → Hp → Prop, Q σ' w.H → gNs is vs σ w.H Q
  | [], [], vs, ρ, ρ', σ, en, hp, hr => by
    simp only [RepL] at hr
    subst hr
    simp only [putAll, Option.some.injEq] at hp
    subst hp
    exact ⟨rfl, σ, en, fun _ _ => rfl, fun Q q => ⟨rfl, q⟩⟩
  | i :: is, d :: ds, vs, ρ, ρ', σ, en, hp, hr => by
    simp only [RepL] at hr
    obtain ⟨v, r, rfl, h1, h2⟩ := hr
    simp only [putAll] at hp
    obtain ⟨g1, σ', g2, g3, g4⟩ := gNs_put (en.put h1) hp h2
    exact ⟨by simp [g1], σ', g2, fun us hu => by rw [g3 us fun i hi => hu i (List.mem_cons_of_mem _ hi), wipe_set (hu i List.mem_cons_self)], fun Q q => ⟨v, r, rfl, g4 Q q⟩⟩
  | [], _ :: _, _, _, _, _, _, hp, _ => by simp [putAll] at hp
  | _ :: _, [], _, _, _, _, _, hp, _ => by simp [putAll] at hp
theorem g_put {K : PySem.W.Frag} {w : Wd} {H0 : Hp} {tg : T} {d : D} {v : V} {ρ ρ' : Env} {σ : L2.St} (en : EnvS K w H0 ρ σ) (hp : put tg d ρ = some ρ') (hr : Rep K w d v) :
    ∃ σ', EnvS K w H0 ρ' σ' ∧ (∀ us, (∀ i ∈ tgs tg, i ∈ us) → L2.wipe σ' us = L2.wipe σ us) ∧ ∀ Q : L2.St → Hp → Prop, Q σ' w.H → gT K tg v σ w.H Q := by
  cases tg with
  | nm i =>
    simp only [put, Option.some.injEq] at hp
    subst hp
    exact ⟨_, en.put hr, fun us hu => wipe_set (hu i (by simp [tgs])), fun Q q => q⟩
  | tu is =>
    cases d with
    | tup ds =>
      simp only [put] at hp
      simp only [Rep] at hr
      obtain ⟨p, vs, rfl, h1, h2⟩ := hr
      obtain ⟨g1, σ', g2, g3, g4⟩ := gNs_put en hp h2
      exact ⟨σ', g2, g3, fun Q q => ⟨p, vs, rfl, h1.sq, g1, g4 Q q⟩⟩
    | _ => simp [put] at hp
variable {Γ : Gm}
theorem sto_of {i : Nat} {x : Str} (sc : X.env.scope = Γ.sc) (nd : X.N = Γ.N) (fn : ∀ x, (∀ names, Γ.st = some names → names.lookup x = some .cell) → X.fn x = true) (h : Γ.sto i x = true) : X.N[i]? = some x ∧ L2.Loc X.env.scope x ∧ (X.fn x = true ∨ X.env.scope.names.lookup x = some .local) := by
  unfold Gm.sto at h
  simp only [Bool.and_eq_true, decide_eq_true_eq] at h
  obtain ⟨h1, h2⟩ := h
  refine ⟨by rw [nd]; exact h1, ?_⟩
  unfold L2.Loc
  rw [sc]
  cases q : Γ.sc.names.lookup x with
  | none => rw [q] at h2; cases h2
  | some k =>
    rw [q] at h2
    cases k with
    | «local» => exact ⟨.inl rfl, .inr rfl⟩
    | cell =>
      refine ⟨.inr rfl, .inl (fn x fun names hn => ?_)⟩
      rw [hn] at h2
      simpa using h2
    | _ => cases h2
theorem pg_ns (hN : X.N.Nodup) (sc : X.env.scope = Γ.sc) (nd : X.N = Γ.N) (fn : ∀ x, (∀ names, Γ.st = some names → names.lookup x = some .cell) → X.fn x = true) : ∀ {is : List Nat} {es : List Expr}, chkTs Γ is es = true → PGs X es (gNs is) ∧ (assignEach es X.env).length = is.length ∧ (assignEach es X.env).findIdx? (·.1) = none
  | [], [], _ => ⟨pgs_nil, rfl, rfl⟩
  | i :: is, e :: es, h => by
    cases e with
    | Name y p =>
      simp only [chkTs, Bool.and_eq_true] at h
      obtain ⟨g1, g2, g3⟩ := pg_ns hN sc nd fn h.2
      obtain ⟨k1, k2, k3⟩ := sto_of sc nd fn h.1
      refine ⟨pgs_cons (pg_name hN k1 k2 k3) g1 rfl, by simp [assignEach, g2], by
        show List.findIdx? _ ((false, assign (.Name y p) X.env) :: assignEach es X.env) = none
        rw [List.findIdx?_cons, g3]; rfl⟩
    | _ => simp [chkTs] at h
  | [], _ :: _, h => by simp [chkTs] at h
  | _ :: _, [], h => by simp [chkTs] at h
theorem pg_t (hc : X.calm = true) (hN : X.N.Nodup) (sc : X.env.scope = Γ.sc) (nd : X.N = Γ.N) (fn : ∀ x, (∀ names, Γ.st = some names → names.lookup x = some .cell) → X.fn x = true) {tg : T} {e : Expr} (h : chkT Γ tg e = true) : PG X e (gT X.K tg) := by
  cases tg with
  | nm i =>
    cases e with
    | Name y p =>
      simp only [chkT] at h
      obtain ⟨k1, k2, k3⟩ := sto_of sc nd fn h
      exact pg_name hN k1 k2 k3
    | _ => simp [chkT] at h
  | tu is =>
    cases e with
    | Tuple es k p =>
      simp only [chkT] at h
      obtain ⟨g1, g2, g3⟩ := pg_ns hN sc nd fn h
      exact pg_tup hc g1 g2 g3
    | _ => simp [chkT] at h
end
end Ev

end
section
set_option maxRecDepth 100000
set_option maxHeartbeats 2000000
namespace Ev
open PySem PySem.Spec PyProof.Rows L2
/-! ### methods of built-in types -/
def Mt.ty : Mt → String
  | .count => "list" | .index => "list"
def Mt.id : Mt → String
  | .count => "list.count" | .index => "list.index"
def oM (K : PySem.W.Frag) (m : Mt) : V → List V → Hp → VK → Prop := fun x vs H Q => ∃ w dx ds d, w.H = H ∧ WOk w ∧ RepP K w dx x ∧ RepPL K w ds vs ∧ mthD m dx ds = some d ∧ Give K w d Q
section
variable {X : Cx}
theorem mt_countD (hu : X.A.units + 70 < cLine) : MtR X "list.count" (fun x vs H Q => ∃ (a : Addr) (y : V) (d : PyData) (ds : List PyData), x = V.ref a ∧ vs = [y] ∧ Dp X.K H (V.ref a) (.list ds) ∧ Dp X.K H y d ∧
    SeqAt.shaped (.list ds) = true ∧ SeqAt.shaped d = true ∧ Q (.int ((ds.countP fun z => PyData.eqv z d : Nat) : Int)) H) := by
  intro pins s σ H x xs v us Q I rx rxs h
  obtain ⟨a, y, d, ds, rfl, rfl, hl, hy, sl, sd, q⟩ := h
  cases rx
  cases rxs with
  | cons ry rt =>
    cases rt
    obtain ⟨bs, r1⟩ := Dp.reads I d y _ hy ry
    have hxs : PyData.canLayAll0 ds = true := SeqAt.canLay_of_shaped sl
    have hd := SeqAt.canLay_of_shaped sd
    have hroom : X.A.units + 1 + min (PyData.depthAll ds) d.depth < cLine := room_in_shaped sd (by omega)
    cases hl with
    | lst hs ha =>
      obtain ⟨its, rv, hl2, hlen⟩ := I.list hs
      obtain ⟨as, h4⟩ := Dp.readsAll I ds _ its ha rv
      exact SeqAt.count_list_data (s := s) hl2.isList (show ReadsAll s.heap its.toArray.toList ds as from h4) r1 (PyData.plainAll_of_canLay0 ds hxs) (PyData.plain_of_canLay0 d hd) hroom ⟨.int _, H, I.tok _, ⟨s.toks, rfl⟩, q⟩
theorem okL_py {l : List D} (h : l.all (okD 50) = true) : SeqAt.shaped (.list (toPyL l)) = true := (okL_lst h).1
theorem findIdx_some {l : List D} {x : D} {j : Nat} (h : l.findIdx? (fun y => eqv y x) = some j) : ∃ y, l[j]? = some y ∧ eqv y x = true ∧ ∀ m z, m < j → l[m]? = some z → eqv z x = false := by
  obtain ⟨h1, h2, h3⟩ := List.findIdx?_eq_some_iff_getElem.mp h
  refine ⟨l[j], List.getElem?_eq_getElem h1, h2, fun m z hm hz => ?_⟩
  obtain ⟨g1, g2⟩ := List.getElem?_eq_some_iff.mp hz
  have := h3 m hm
  rw [g2] at this
  simpa using this
theorem op_mth (hu : X.A.units + 70 < cLine) (m : Mt) : MtR X m.id (oM X.K m) := by
  intro pins s σ H x vs v us Q I rx rvs h
  obtain ⟨w, dx, ds, d, rfl, g, hx, hv, hd, k⟩ := h
  cases m with
  | count =>
    obtain ⟨l, x', rfl, rfl, hd⟩ : ∃ l x', dx = .lst l ∧ ds = [x'] ∧ mthD .count (.lst l) [x'] = some d := by
      cases dx <;> first
        | (simp [mthD] at hd; done)
        | (match ds, hd with
          | [x'], hd => exact ⟨_, x', rfl, rfl, hd⟩
          | [], hd => simp [mthD] at hd
          | _ :: _ :: _, hd => simp [mthD] at hd)
    simp only [mthD] at hd
    split at hd
    rotate_left
    · cases hd
    rename_i hk
    simp only [Bool.and_eq_true] at hk
    cases hd
    obtain ⟨y, rfl, hy⟩ := one hv
    obtain ⟨a, xs, rfl, _, _⟩ := hx.lst
    have e : ((toPyL l).countP fun z => PyData.eqv z (toPy x')) = l.countP fun y => eqv y x' := by
      rw [toPyL_map, List.countP_map]
      refine List.countP_congr fun y hy => ?_
      have := eqv_py y x' 50 (List.all_eq_true.mp hk.2 y hy) hk.1
      simp only [Function.comp_apply, this]
    exact mt_countD hu pins s σ w.H _ _ v us Q I rx rvs ⟨a, y, toPy x', toPyL l, rfl, rfl, by have := hx.dp (n := 51) (show okD 51 (.lst l) = true from hk.2); simpa only [toPy] using this, hy.dp hk.1, okL_py hk.2, shaped_of hk.1, by rw [e]; exact k.int⟩
  | index =>
    obtain ⟨l, x', rfl, rfl, hd⟩ : ∃ l x', dx = .lst l ∧ ds = [x'] ∧ mthD .index (.lst l) [x'] = some d := by
      cases dx <;> first
        | (simp [mthD] at hd; done)
        | (match ds, hd with
          | [x'], hd => exact ⟨_, x', rfl, rfl, hd⟩
          | [], hd => simp [mthD] at hd
          | _ :: _ :: _, hd => simp [mthD] at hd)
    simp only [mthD] at hd
    split at hd
    rotate_left
    · cases hd
    rename_i hk
    simp only [Bool.and_eq_true] at hk
    simp only [Option.map_eq_some_iff] at hd
    obtain ⟨j, hj, rfl⟩ := hd
    obtain ⟨z, z1, z2, z3⟩ := findIdx_some hj
    obtain ⟨y, rfl, hy⟩ := one hv
    obtain ⟨a, xs, rfl, _, _⟩ := hx.lst
    have ev : ∀ {i : Nat} {u : D}, l[i]? = some u → PyData.eqv (toPy u) (toPy x') = eqv u x' := fun {i u} hu => eqv_py u x' 50 (List.all_eq_true.mp hk.2 u (List.mem_of_getElem? hu)) hk.1
    refine mt_indexD (by omega) pins s σ w.H _ _ v us Q I rx rvs ⟨a, y, toPy x', toPyL l, j, toPy z, rfl, rfl, by have := hx.dp (n := 51) (show okD 51 (.lst l) = true from hk.2); simpa only [toPy] using this, hy.dp hk.1, okL_py hk.2, shaped_of hk.1, ?_, ?_, fun m z' hm hz' => ?_, k.int⟩
    · rw [toPyL_map, List.getElem?_map, z1]; rfl
    · rw [ev z1]; exact z2
    · rw [toPyL_map, List.getElem?_map, Option.map_eq_some_iff] at hz'
      obtain ⟨u, hu, rfl⟩ := hz'
      rw [ev hu]
      exact z3 m u hm hu
variable {P : Pm} {a l : E} {x e : Expr} {es : List Expr} {p1 p2 : Pos}
theorem base_of {n : Str} {env : PySem.Env} (h : plainBase x = true) : attributeBase x n env (eval x env) = eval x env := by
  cases x <;> first | rfl | (simp [plainBase] at h; done)
theorem few_of : ∀ {es : List Expr} {env : PySem.Env} {pos : Pos}, es.all noStar = true → es.length < 20 → ((backTo pos (starEach es env)).all (fun x => !x.1) && (backToKw pos (keywordEach [] env)).all (fun x => x.1.isSome)
      && decide (es.length + ([] : List Keyword).length + (if ([] : List Keyword).isEmpty then 0 else 1) < 30)) = true := by
  intro es env pos h hl
  have key : ∀ es : List Expr, es.all noStar = true → (starEach es env).all (fun x => !x.1) = true := by
    intro es
    induction es with
    | nil => intro _; rfl
    | cons e es ih =>
      intro h
      simp only [List.all_cons, Bool.and_eq_true] at h
      rw [star_of h.1]
      simp only [List.all_cons, Bool.not_false, Bool.true_and]
      exact ih h.2
  have h2 : (backTo pos (starEach es env)).all (fun x => !x.1) = true := by
    rw [← key es h]
    cases es with
    | nil => rfl
    | cons e es =>
      simp only [List.all_cons, Bool.and_eq_true] at h
      rw [star_of h.1]
      simp [backTo]
      rfl
  rw [h2]
  have h3 : (backToKw pos (keywordEach [] env)).all (fun x => x.1.isSome) = true := by rfl
  rw [h3]
  simp only [Bool.true_and, List.length_nil, Nat.add_zero, List.isEmpty_nil, if_true, decide_eq_true_eq]
  omega
theorem s_mth {m : Mt} {n : Str} (hK : X.K = P.K) (hu : X.A.units + 70 < cLine) (hn : n = m.nm) (ha : PE X x (tM P .pk a)) (hl : PA X (e :: es) (tAp P l)) (hb : plainBase x = true) (hs : (e :: es).all noStar = true) (hz : (e :: es).length < 20) (hline : (p1.endLine == p2.line) = true)
    (hpl : (backTo p2 (starEach es X.env)).any (·.1) = false) :
    PE X (.Call (.Attribute x n p1) (e :: es) [] p2) (tM P .fr (.mth m a l)) := by
  subst hn
  have hst : starEach (e :: es) X.env = (false, eval e X.env) :: starEach es X.env := by
    simp only [List.all_cons, Bool.and_eq_true] at hs
    exact star_of hs.1
  have main : PE X (.Call (.Attribute x m.nm p1) (e :: es) [] p2) (tBM X.K m.ty (oM X.K m) (tM P .pk a) (tAp P l)) := by
    cases m with
    | count => exact pe_bm PySem.F.plainAttrs_list PySem.F.slot_list_count PySem.F.type_list_count (op_mth hu .count) ha hl (base_of hb) (few_of hs hz) hline hst hpl
    | index => exact pe_bm PySem.F.plainAttrs_list PySem.F.slot_list_index PySem.F.type_list_index (op_mth hu .index) ha hl (base_of hb) (few_of hs hz) hline hst hpl
  refine PE.imp main ?_
  rintro σ H Q ⟨w, ρ, S, rfl, sm, en, h⟩
  simp only [evE] at h
  show tM P .pk a σ w.H _
  refine tG_mk sm en (h.bind.mono (fun dx S1 h1 w1 v1 e1 sm1 p1 => ?_) fun _ _ z => z)
  obtain ⟨_, hd, h1⟩ := h1.liftB
  have ht : mthT m dx = true := by
    cases q : mthT m dx with
    | true => rfl
    | false => rw [q] at hd; simp at hd
  rw [hK]
  refine ⟨?_, ?_⟩
  · cases m <;> (cases dx <;> simp [mthT] at ht)
    all_goals
      obtain ⟨q, us, rfl, h2, _⟩ := (post_pk p1).lst
      exact .inl ⟨rfl, us, SqL.of h2⟩
  show tAp P l σ w1.H _
  refine tG_mk sm1 (en.ext e1) (h1.bind.mono (fun ds S2 h2 w2 vs e2 sm2 p2 => ?_) fun _ _ z => z.ext e1)
  obtain ⟨d, hd, k⟩ := h2.lift
  exact ⟨w2, dx, ds, d, rfl, sm2.ok, (post_pk p1).ext e2, p2, hd, give_of (e1.trans e2) sm2 k⟩
/-! ### ranges -/
theorem cr_range1 : CallR X (.type "range") (fun vs H Q => ∃ j, vs = [V.int j] ∧ ∀ p, H p = none → Q (.ref p) (upd H p (.rng 0 j))) := by
  intro pins s σ H vs us Q I r h
  obtain ⟨j, rfl, q⟩ := h
  obtain ⟨u, rfl, rj⟩ := r.one
  obtain ⟨t, rfl⟩ := rj
  refine call_range_1 ⟨.ref s.heap.objs.size, upd H s.heap.objs.size (.rng 0 j), I.laid (t' := _) (fun b o e => Heap.get?_push_of_some _ e) (Nat.le_refl _) ?_, rfl, q _ (I.hok.fresh (Nat.le_refl _))⟩
  exact ⟨_, t, _, Heap.get?_push_size _ rfl⟩
theorem rng_pe {p p2 : Pos} {y : Expr} {b : E} (hg : Gl X "range") (hm : X.mg "range" = none) (hb : PE X y (tM P .pk b)) (hs : noStar y = true) :
    PE X (.Call (.Name "range" p) [y] [] p2) (tCB (fun vs H Q => ∃ j, vs = [V.int j] ∧ ∀ p, H p = none → Q (.ref p) (upd H p (.rng 0 j))) (tCons (tM P .pk b) tNil)) := by
  have hst : starEach [y] X.env = (false, eval y X.env) :: starEach [] X.env := star_of hs
  exact pe_callTy cr_range1 hg hm boot_range (pa_cons hb pa_nil hst) (by decide) (by decide) hst rfl
def oR : R2 := fun x y H Q => ∃ i a lo hi, x = V.int i ∧ y = V.ref a ∧ H a = some (.rng lo hi) ∧ Q (.bl (decide (lo ≤ i ∧ i < hi))) H
theorem inr_read {k : Bool} {a b : E} {w : Wd} {ρ : Env} {S : Sto} {σ : L2.St} {Q Q2 : VK} (sm : Sm (CAm P.mg) P.K w S) (en : EnvS P.K w P.H0 ρ σ)
    (h : Run (((evE P.Φ a ρ).bind fun x => (evE P.Φ b ρ).bind fun y => M.lift ((inRng x y).map fun c => D.bl (c == k))) S) (fun d S' => ∀ w' v, Ext w w' → Sm (CAm P.mg) P.K w' S' → Post P.K .fz w w' d v → Q v w'.H) (XP P w σ))
    (hq : ∀ c w' S', Ext w w' → Sm (CAm P.mg) P.K w' S' → Q (.bl (c == k)) w'.H → Q2 (.bl c) w'.H) :
    tOp oR (tM P .pk a) (tCB (fun vs H Q => ∃ j, vs = [V.int j] ∧ ∀ p, H p = none → Q (.ref p) (upd H p (.rng 0 j))) (tCons (tM P .pk b) tNil)) σ w.H Q2 := by
  show tM P .pk a σ w.H _
  refine tG_mk sm en (h.bind.mono (fun x S1 h1 w1 v1 e1 sm1 p1 => ?_) fun _ _ z => z)
  show tM P .pk b σ w1.H _
  refine tG_mk sm1 (en.ext e1) (h1.bind.mono (fun y S2 h2 w2 v2 e2 sm2 p2 => ?_) fun _ _ z => z.ext e1)
  obtain ⟨d, hd, k'⟩ := h2.lift
  simp only [Option.map_eq_some_iff] at hd
  obtain ⟨c, hd, rfl⟩ := hd
  obtain ⟨i, n, rfl, rfl, ec⟩ : ∃ i n, x = .int i ∧ y = .int n ∧ decide (0 ≤ i ∧ i < n) = c := by
    unfold inRng at hd
    split at hd
    · exact ⟨_, _, rfl, rfl, by simpa using hd⟩
    · cases hd
  have ei := ((post_pk p1).ext e2).int
  have en2 := (post_pk p2).int
  subst ei en2
  refine ⟨n, rfl, fun p hp => ?_⟩
  have e3 : ExtA w2 (nw w2 p (.rng 0 n)) := nw_ext hp
  refine ⟨i, p, 0, n, rfl, rfl, upd_same, ?_⟩
  rw [ec]
  exact hq c (nw w2 p (.rng 0 n)) S2 ((e1.trans e2).trans e3.ext) (sm2.ext e3) (k' _ _ ((e1.trans e2).trans e3.ext) (sm2.ext e3) (by simp only [Post, Rep]))
theorem s_inr {a b : E} {p p2 pos : Pos} {y : Expr} (hg : Gl X "range") (hm : X.mg "range" = none) (ha : PE X x (tM P .pk a)) (hb : PE X y (tM P .pk b)) (hs : noStar y = true) :
    PE X (.Compare x [.In] [.Call (.Name "range" p) [y] [] p2] pos) (tM P .fz (.inr true a b)) := by
  refine PE.imp (pe_cmpR op_in_rng ha (rng_pe hg hm hb hs) rfl) ?_
  rintro σ H Q ⟨w, ρ, S, rfl, sm, en, h⟩
  simp only [evE] at h
  exact inr_read sm en h fun c w' S' _ _ q => by cases c <;> exact q
theorem s_inrT {a b : E} {p p2 pos : Pos} {y : Expr} (hg : Gl X "range") (hm : X.mg "range" = none) (ha : PE X x (tM P .pk a)) (hb : PE X y (tM P .pk b)) (hs : noStar y = true) :
    PT X (.Compare x [.In] [.Call (.Name "range" p) [y] [] p2] pos) (tT P (.inr true a b)) := by
  refine PT.imp (pt_cmpR op_in_rng ha (rng_pe hg hm hb hs) rfl) ?_
  rintro σ H Q ⟨w, ρ, S, rfl, sm, en, h⟩
  simp only [evE] at h
  refine inr_read (Q := fun v H => ∃ c, v = .bl c ∧ Q c H) sm en (h.bind.mono (fun d S' k w' v ex sm' po => ?_) fun _ _ z => z) fun c w' S' _ _ q => ?_
  · obtain ⟨c, hc, k⟩ := k.lift
    cases d with
    | bl t =>
      cases hc
      exact ⟨_, (post_pk po).bl, k w' _ ex sm' rfl⟩
    | _ => simp [asBl] at hc
  · obtain ⟨c', e, q⟩ := q
    cases e
    exact ⟨c, rfl, by cases c <;> exact q⟩
theorem s_lrg {a : E} {p p2 p3 pos : Pos} {y : Expr} (hK : X.K = P.K) (hc : X.calm = true) (hg0 : Gl X "list") (hm0 : X.mg "list" = none) (hg : Gl X "range") (hm : X.mg "range" = none) (ha : PE X y (tM P .pk a)) (hs : noStar y = true) :
    PE X (.Call (.Name "list" p) [.Call (.Name "range" p2) [y] [] p3] [] pos) (tM P .fr (.lrg a)) := by
  have hst : starEach [y] X.env = (false, eval y X.env) :: starEach [] X.env := star_of hs
  refine PE.imp (pe_listRg hc hg0 hm0 (prg_1 hg hm ha hst) rfl) ?_
  rintro σ H Q ⟨w, ρ, S, rfl, sm, en, h⟩
  simp only [evE] at h
  unfold tLstRg tRg1
  refine tG_mk sm en (h.bind.mono (fun x S1 h1 w1 v1 e1 sm1 p1 => ?_) fun _ _ z => z)
  obtain ⟨d, hd, k⟩ := h1.lift
  simp only [Option.map_eq_some_iff] at hd
  obtain ⟨l, hd, rfl⟩ := hd
  obtain ⟨n, rfl, hn, rfl⟩ : ∃ n, x = .int n ∧ (n ≤ 16777216 ∧ -16777216 ≤ n) ∧ l = rng 0 n := by
    unfold itRng1 at hd
    split at hd
    · rename_i n e
      cases e
      split at hd
      · rename_i hn
        cases hd
        exact ⟨n, rfl, hn, rfl⟩
      · cases hd
    · cases hd
  refine ⟨n, (post_pk p1).int, ⟨by omega, by omega, by omega, by omega, by omega⟩, fun q hq => ?_⟩
  have e3 : ExtA w1 (nw w1 q (.lst (rgV 0 n))) := nw_ext hq
  refine k _ _ (e1.trans e3.ext) (sm1.ext e3) (post_from e1 (res_lst sm1.ok hq ?_))
  unfold rng rgV
  generalize List.range (n - 0).toNat = r
  induction r with
  | nil => simp [RepL]
  | cons z r ih => simp only [List.map_cons, RepL, Rep]; exact ⟨_, _, rfl, rfl, ih⟩
end
end Ev

end
section
set_option maxRecDepth 100000
set_option maxHeartbeats 2000000
namespace Ev
open PySem PySem.Spec PyProof.Rows L2
section
variable {X : Cx} {P : Pm} {Tb : Tab} {Γ : Gm} {src cnd elt a : E} {pos : Pos}
theorem PI.imp {tg it : Expr} {t t' : TI} (h : PI X tg it t) (q : ∀ σ H R, t' σ H R → t σ H R) : PI X tg it t' := ⟨fun pins s σ H R I z => h.run pins s σ H R I (q σ H R z)⟩
theorem pi_of {k : Ik} {tt it : Expr} {ta : TA} (sc : X.env.scope = Γ.sc) (hb : ∀ x ∈ Tb.blt, X.mg x = none) (hA : ∀ es, chkA Tb Γ src es = true → PA X es ta) (hS : k = .seq → chkA Tb Γ src [it] = true → PI X tt it (tItr X.K .seq ta))
    (h : chkI (fun es => chkA Tb Γ src es) Tb Γ k tt it = true) : PI X tt it (tItr X.K k ta) := by
  have tupE : ∀ {e : Expr}, isTupE e = true → ∃ es k p, e = .Tuple es k p := fun {e} h => by
    cases e <;> first | exact ⟨_, _, _, rfl⟩ | (simp [isTupE] at h; done)
  unfold chkI at h
  split at h
  · simp only [Bool.and_eq_true] at h
    exact hS rfl h.1
  · split at h
    · simp only [Bool.and_eq_true, decide_eq_true_eq] at h
      obtain ⟨⟨⟨h1, h2⟩, h3⟩, h4⟩ := h
      subst h1
      obtain ⟨g1, g2, g3, g4⟩ := bl_of sc hb h2
      exact pi_r1 g1 g2 (hA _ h3) (star_of h4)
    · cases h
  · split at h
    · simp only [Bool.and_eq_true, decide_eq_true_eq] at h
      obtain ⟨⟨⟨⟨h1, h2⟩, h3⟩, h4⟩, h5⟩ := h
      subst h1
      obtain ⟨g1, g2, g3, g4⟩ := bl_of sc hb h2
      exact pi_r2 g1 g2 (hA _ h3) (by rw [star_of h4, star_of h5]; rfl) (star_of h5)
    · cases h
  · cases h
  · split at h
    · simp only [Bool.and_eq_true, decide_eq_true_eq] at h
      obtain ⟨⟨⟨⟨h1, h2⟩, h3⟩, h4⟩, h5⟩ := h
      subst h1
      obtain ⟨g1, g2, g3, g4⟩ := bl_of sc hb h2
      obtain ⟨es, kk, p, rfl⟩ := tupE h4
      exact pi_en g1 g2 (hA _ h3) (star_of h5)
    · cases h
  · split at h
    · simp only [Bool.and_eq_true, decide_eq_true_eq] at h
      obtain ⟨⟨⟨⟨⟨h1, h2⟩, h3⟩, h4⟩, h5⟩, h6⟩ := h
      subst h1
      obtain ⟨g1, g2, g3, g4⟩ := bl_of sc hb h2
      obtain ⟨es, kk, p, rfl⟩ := tupE h4
      exact pi_zp g1 g2 (hA _ h3) (star_of h5) (by rw [star_of h6]; rfl)
    · cases h
theorem pi_seqP {tt it : Expr} (ha : PE X it (tM P .pk a)) : PI X tt it (tItr X.K .seq (tAp P (.cons a .nil))) := by
  refine PI.imp (pi_seq ha) ?_
  rintro σ H R ⟨w, ρ, S, rfl, sm, en, h⟩
  simp only [evA] at h
  show tM P .pk a σ w.H _
  refine tG_mk sm en (h.bind.mono (fun x S1 h1 w1 v1 e1 sm1 p1 => ?_) fun _ _ z => z)
  exact (show ∀ w' b, Ext w w' → Sm (CAm P.mg) P.K w' S1 → RepPL P.K w' [x] b → _ from h1) w1 _ e1 sm1 ⟨_, _, rfl, post_pk p1, rfl⟩
theorem pi_seqF {tt it : Expr} (ha : PE X it (tM P .fz a)) : PI X tt it (tItr X.K .seq (tAf P (.cons a .nil))) := by
  refine PI.imp (pi_seq ha) ?_
  rintro σ H R ⟨w, ρ, S, rfl, sm, en, h⟩
  simp only [evA] at h
  show tM P .fz a σ w.H _
  refine tG_mk sm en (h.bind.mono (fun x S1 h1 w1 v1 e1 sm1 p1 => ?_) fun _ _ z => z)
  exact (show ∀ w' b, Ext w w' → Sm (CAm P.mg) P.K w' S1 → RepL P.K w' [x] b → _ from h1) w1 _ e1 sm1 (by simp only [RepL]; exact ⟨_, _, rfl, p1, rfl⟩)
theorem kept_ext {ps : List Addr} {a b : Wd} (e : Ext a b) : Kept ps a b := fun p _ us h => e.k p _ h rfl
theorem kept_wk {K : PySem.W.Frag} {ds : List D} {vs : List V} {ps : List Addr} {a b : Wd} (e : Wk a b) (r : RepL K a ds vs) (l : Lsts ds vs ps) : Kept ps a b := fun p hp us h => by
  obtain ⟨i, l, h1, h2⟩ := l p hp
  obtain ⟨v, h3, h4⟩ := r.get h1
  rw [h2] at h3
  cases h3
  simp only [Rep] at h4
  obtain ⟨q, us', e1, g, h5, _⟩ := h4
  cases e1
  exact e.k p _ h rfl fun _ => g
theorem wipe_wipe {σ : L2.St} {us : List Nat} : ∀ {vs : List Nat}, (∀ i ∈ vs, i ∈ us) → L2.wipe (L2.wipe σ vs) us = L2.wipe σ us
  | [], _ => rfl
  | v :: vs, h => by
    show L2.wipe ((L2.wipe σ vs).set v none) us = _
    rw [wipe_set (h v List.mem_cons_self)]
    exact wipe_wipe fun i hi => h i (List.mem_cons_of_mem _ hi)
/-- without exceptions -/
abbrev Pm.still (P : Pm) : Pm := { P with W := fun _ _ _ _ => False }
theorem lc_read {k : Ik} {tg : T} {own : List (Str × Nat)} (hK : X.K = P.K) (hv : ∀ i ∈ tgs tg, i ∈ own.map (·.2)) {σ : L2.St} {H : Hp} {Q : VK} (h : tM P .fr (.comp k src tg own cnd elt) σ H Q) :
    tLc (tItr X.K k (tAp P src)) (gT X.K tg) (tC P.still cnd) (tM P.still .fz elt) (own.map (·.2)) σ H Q := by
  obtain ⟨w, ρ, S, rfl, sm, en, h⟩ := h
  simp only [evE] at h
  generalize own.map (·.2) = us at *
  unfold tLc tItr
  show tAp P src σ w.H _
  refine tG_mk sm en (h.bind.mono (fun ds S1 h1 w1 vs e1 sm1 p1 => ?_) fun _ _ z => z)
  obtain ⟨items, hit, h2⟩ := h1.liftB
  have h3 := Run.calm h2.bind
  clear h h1 h2
  rw [hK]
  refine ⟨w1, ds, items, rfl, p1, hit, fun J ps _ jk hz D hD => ?_⟩
  refine ⟨fun i m H => ∃ w2 S2 acc us2, H = w2.H ∧ m = items.length - i ∧ i ≤ items.length ∧ Ext w1 w2 ∧ ¬ w2.G D ∧ w2.H D = some (.lst us2) ∧ us2.length ≤ i ∧ RepL P.K w2 acc us2 ∧ Sm (CAm P.mg) P.K w2 S2 ∧
    Run (compL (fun x => (M.lift (put tg x (wipe ρ us))).bind fun ρ' => (evT P.Φ cnd ρ').bind fun b => if b then (evE P.Φ elt ρ').bind fun y => M.pure (some y) else M.pure none) (items.drop i) S2)
      (fun l S' => Run (M.pure (Ev.D.lst (acc ++ l)) S') (fun d S' => ∀ w' v, Ext w w' → Sm (CAm P.mg) P.K w' S' → Post P.K .fr w w' d v → Q v w'.H) (XP P w σ)) (fun _ _ => False),
    ⟨items.length, nw w1 D (.lst []), S1, [], [], rfl, by simp, Nat.zero_le _, (nw_ext hD).ext, fun g => sm1.ok _ g hD, upd_same, by simp, by simp only [RepL], sm1.ext (nw_ext hD), by simpa using h3⟩, ?_⟩
  rintro i m H ⟨w2, S2, acc, us2, rfl, rfl, hi, ex, ng, hd, hl, rl, sm2, r⟩
  by_cases hlt : i < items.length
  · refine .inr ⟨jk.go w2 ex.wk (kept_ext ex) i hlt, fun H => ∃ w2 S2 acc us2, H = w2.H ∧ Ext w1 w2 ∧ ¬ w2.G D ∧ w2.H D = some (.lst us2) ∧ us2.length ≤ i + 1 ∧ RepL P.K w2 acc us2 ∧ Sm (CAm P.mg) P.K w2 S2 ∧
      Run (compL (fun x => (M.lift (put tg x (wipe ρ us))).bind fun ρ' => (evT P.Φ cnd ρ').bind fun b => if b then (evE P.Φ elt ρ').bind fun y => M.pure (some y) else M.pure none) (items.drop (i + 1)) S2)
        (fun l S' => Run (M.pure (Ev.D.lst (acc ++ l)) S') (fun d S' => ∀ w' v, Ext w w' → Sm (CAm P.mg) P.K w' S' → Post P.K .fr w w' d v → Q v w'.H) (XP P w σ)) (fun _ _ => False), ?_, fun x H' hy => ?_⟩
    · rintro H' ⟨w', S', acc', us', q1, q2, q3, q4, q5, q6, q7, q8⟩
      exact ⟨items.length - (i + 1), by omega, w', S', acc', us', q1, rfl, hlt, q2, q3, q4, q5, q6, q7, q8⟩
    · have hdi : items[i]? = some items[i] := List.getElem?_eq_getElem hlt
      obtain ⟨w3, rfl, e3, rd⟩ := jk.yld w2 ex.wk (kept_ext ex) i _ hdi x H' hy
      rw [List.drop_eq_getElem_cons hlt] at r
      simp only [compL] at r
      obtain ⟨ρ', hp, r2⟩ := r.bind.liftB
      obtain ⟨σ', en', wp, gk⟩ := g_put ((((en.ext e1).ext ex).ext e3.ext).wipe us) hp rd
      refine gk _ ⟨by rw [wp us hv]; exact wipe_wipe fun _ h => h, ?_⟩
      show tC P.still cnd σ' w3.H _
      refine tG_mk (P := P.still) (sm2.ext e3) en' (r2.bind.mono (fun b S4 r4 w4 b' e4 sm4 eb => ?_) fun _ _ z => z.elim)
      subst eb
      have ng4 : ∀ {w'}, Ext w2 w' → ¬ w'.G D := fun e g => (e.gn D g).elim ng (fun z => by rw [hd] at z; cases z)
      cases b with
      | false =>
        rw [if_neg Bool.false_ne_true]
        simp only [Bool.false_eq_true, if_false] at r4
        have r5 := Run.bind (show Run (M.bind (compL _ (items.drop (i + 1))) _ S4) _ _ from r4)
        have e24 := e3.ext.trans e4
        exact ⟨w4, S4, acc, us2, rfl, ex.trans e24, ng4 e24, e24.k _ _ hd rfl, by omega, RepL.ext e24 acc rl, sm4, r5⟩
      | true =>
        rw [if_pos rfl]
        simp only [if_true] at r4
        show tM P.still .fz elt σ' w4.H _
        refine tG_mk (P := P.still) sm4 (en'.ext e4) (r4.bind.mono (fun y S5 r5 w5 v e5 sm5 p5 => ?_) fun _ _ z => z.elim)
        have r6 := Run.bind (show Run (M.bind (compL _ (items.drop (i + 1))) _ S5) _ _ from r5)
        have e25 := (e3.ext.trans e4).trans e5
        have hd5 := e25.k _ _ hd rfl
        have g5 := ng4 e25
        refine ⟨us2, hd5, by omega, wr w5 D (us2 ++ [v]), S5, acc ++ [y], us2 ++ [v], rfl, ext_wr (ex.trans e25) hD, g5, upd_same, by simp; omega, ?_, sm5.wr hd5 g5, ?_⟩
        · refine RepL.wk (wr_wk hd5 g5) _ (RepL.append (RepL.ext e25 acc rl) ?_)
          simp only [RepL]
          exact ⟨v, [], rfl, p5, rfl⟩
        · refine r6.mono (fun l S' z => ?_) fun _ _ z => z
          rw [List.append_assoc]
          exact z
  · have ei : i = items.length := by omega
    subst ei
    refine .inl ⟨jk.stop w2 ex.wk (kept_ext ex), ?_⟩
    simp only [List.drop_length, compL] at r
    have r := (show ∀ w' v, Ext w w' → Sm (CAm P.mg) P.K w' S2 → Post P.K .fr w w' (Ev.D.lst (acc ++ [])) v → Q v w'.H from r)
    exact r w2 _ (e1.trans ex) sm2 ⟨fun l e => by cases e; exact ⟨D, us2, rfl, e1.none hD, ng, hd, by simpa using rl⟩, fun z => absurd rfl (z _)⟩
theorem s_comp {k : Ik} {tg : T} {own : List (Str × Nat)} {tt it el : Expr} {ifs : List Expr} {scope : Scope} (hc : X.calm = true) (hN : X.N.Nodup) (hK : X.K = P.K) (hv : ∀ i ∈ tgs tg, i ∈ own.map (·.2)) (ok : BlkOk X.N X.env.scope scope own) (hi : PI X tt it (tItr X.K k (tAp P src)))
    (hg : ∀ (s : Shared) (H : Hp) (C : Addr) (cl : List (Str × Addr)) (fp : List Addr), PG (X.blk s H scope (compEnvC scope cl C X.env) fp) tt (gT X.K tg)) (ht : ∀ (s : Shared) (H : Hp) (C : Addr) (cl : List (Str × Addr)) (fp : List Addr), PTs (X.blk s H scope (compEnvC scope cl C X.env) fp) ifs (tC P.still cnd))
    (he : ∀ (s : Shared) (H : Hp) (C : Addr) (cl : List (Str × Addr)) (fp : List Addr), PE (X.blk s H scope (compEnvC scope cl C X.env) fp) el (tM P.still .fz elt)) (hs : noSet it = true) :
    PE X (.ListComp el [⟨tt, it, ifs, 0⟩] scope pos) (tM P .fr (.comp k src tg own cnd elt)) := by
  have h2 : ∀ x, foldedSetIterable it X.env x = pure x := fun x => by
    cases it <;> first | rfl | (simp [noSet] at hs; done)
  exact PE.imp (pe_lc hc hN hi ok hg ht he h2) fun σ H Q z => lc_read hK hv z
end
end Ev

end
section
set_option maxRecDepth 100000
set_option maxHeartbeats 4000000
namespace Ev
open PySem PySem.Spec PyProof.Rows L2
variable {Tb : Tab} {n : Nat}
theorem Cok.blk {Γ : Gm} {X : Cx} {W : WX} (ok : Cok Tb n Γ X W) (s : Shared) (H : Hp) (scope : Scope) (cl : List (Str × Addr)) (C : Addr) (fp : List Addr) :
    Cok Tb n (Γ.blk scope) (X.blk s H scope (compEnvC scope cl C X.env) fp) (fun _ _ _ _ => False) where
  N := ok.N
  nd := ok.nd
  sc := by
    show L2.relS scope X.env.scope = Ev.relS scope Γ.sc
    rw [ok.sc]; rfl
  fn := fun x h => by
    have := h scope.names rfl
    show (scope.names.lookup x == some .cell) = true
    rw [this]; rfl
  calm := ok.calm
  room := ok.room
  cst := ok.cst
  blt := ok.blt
  fns := ok.fns
  tk := fun u s' ⟨_, _, _, _, _, _, _, _, _, _, _, _, _, _, _, _, z⟩ => z.elim
theorem Cok.units {Γ : Gm} {X : Cx} {W : WX} (ok : Cok Tb n Γ X W) : X.A.units + 70 < cLine := by
  have h := ok.room
  obtain ⟨h1, h2⟩ := h
  omega
theorem noStars {es : List Expr} {env : PySem.Env} {pos : Pos} (h : es.all noStar = true) : (backTo pos (starEach es env)).any (·.1) = false := by
  have : ∀ es : List Expr, es.all noStar = true → (starEach es env).any (·.1) = false := by
    intro es
    induction es with
    | nil => intro _; rfl
    | cons e es ih =>
      intro h
      simp only [List.all_cons, Bool.and_eq_true] at h
      rw [star_of h.1]
      simp only [List.any_cons, Bool.false_or]
      exact ih h.2
  have h2 := this es h
  rw [← h2]
  cases es with
  | nil => rfl
  | cons e es =>
    simp only [List.all_cons, Bool.and_eq_true] at h
    rw [star_of h.1]
    simp [backTo]
    rfl
def SE (Tb : Tab) (n : Nat) (e : E) : Prop := ∀ (Γ : Gm) (X : Cx) (W : WX) (H0 : Hp) (ast : Expr), Cok Tb n Γ X W → chkE Tb Γ e ast = true → PE X ast (tM (pm Tb n X H0 W) (nat e) e) ∧ (tst e = true → PT X ast (tT (pm Tb n X H0 W) e))
def SA (Tb : Tab) (n : Nat) (e : E) : Prop := ∀ (Γ : Gm) (X : Cx) (W : WX) (H0 : Hp) (es : List Expr), Cok Tb n Γ X W → chkA Tb Γ e es = true →
  PA X es (tAp (pm Tb n X H0 W) e) ∧ (fzA e = true → PA X es (tAf (pm Tb n X H0 W) e)) ∧ lenE e = es.length ∧
  (∀ k pos, es ≠ [] → fzA e = true → PE X (.BoolOp (bop_ k) es pos) (tM (pm Tb n X H0 W) .fz (.boo k e)) ∧ (tst e = true → PW X (.BoolOp (bop_ k) es pos) (tT (pm Tb n X H0 W) (.boo k e)))) ∧
  (es.length ≤ 1 → tst e = true → PTs X es (tC (pm Tb n X H0 W) e)) ∧
  (∀ o, es = optE o → PO X o (tPa (pm Tb n X H0 W) e)) ∧
  (∀ x, es = [x] → ∀ tt, PI X tt x (tItr X.K .seq (tAp (pm Tb n X H0 W) e)) ∧ (fzA e = true → PI X tt x (tItr X.K .seq (tAf (pm Tb n X H0 W) e))))
theorem SE.none {e : E} (h : ∀ Γ ast, chkE Tb Γ e ast = false) : SE Tb n e := fun Γ X W H0 ast ok q => by rw [h] at q; cases q
theorem SA.none {e : E} (h : ∀ Γ es, chkA Tb Γ e es = false) : SA Tb n e := fun Γ X W H0 ast ok q => by rw [h] at q; cases q
theorem SE.of {e : E} (h : ∀ (Γ : Gm) (X : Cx) (W : WX) (H0 : Hp) (ast : Expr), Cok Tb n Γ X W → chkE Tb Γ e ast = true → PE X ast (tM (pm Tb n X H0 W) (nat e) e) ∧ (tst e = true → ∀ whole, isTrue ast X.env whole = (do let v ← whole; standAt ast.pos; holding [v] (truthy v)))) : SE Tb n e := fun Γ X W H0 ast ok q =>
  let ⟨h1, h2⟩ := h Γ X W H0 ast ok q
  ⟨h1, fun z => s_val h1 (h2 z)⟩
theorem sa_nil : SA Tb n .nil := fun Γ X W H0 es ok h => by
  simp only [chkA, List.isEmpty_iff] at h
  subst h
  exact ⟨s_nilP, fun _ => s_nilF, rfl, fun k pos q => absurd rfl q, fun _ _ => s_pts0, fun o ho => (by cases o <;> first | exact s_po0 | cases ho), fun x hx => by cases hx⟩
theorem sa_cons {a r : E} (ha : SE Tb n a) (hr : SA Tb n r) : SA Tb n (.cons a r) := fun Γ X W H0 es ok h => by
  cases es with
  | nil => simp [chkA] at h
  | cons x xs =>
    simp only [chkA, Bool.and_eq_true] at h
    obtain ⟨⟨h1, h2⟩, h3⟩ := h
    obtain ⟨a1, a2⟩ := ha Γ X W H0 x ok h1
    obtain ⟨r1, r2, r3, r4, r5, r6, r7⟩ := hr Γ X W H0 xs ok h3
    have nilr : xs = [] → r = .nil := fun e => by
      subst e
      cases r <;> first | rfl | (simp [chkA] at h3; done)
    have nilx : r = .nil → xs = [] := fun e => by
      subst e
      simpa [chkA] using h3
    refine ⟨s_consP (pe_pk a1) r1 h2, fun q => ?_, by simp [lenE, r3], fun k pos _ q => ?_, fun q1 q2 => ?_, fun o ho => ?_, fun y hy tt => ?_⟩
    · simp only [fzA, Bool.and_eq_true] at q
      exact s_consF (pe_fz a1 q.1) (r2 q.2) h2
    · simp only [fzA, Bool.and_eq_true] at q
      cases xs with
      | nil =>
        obtain rfl := nilr rfl
        refine ⟨s_boo1 (pe_fz a1 q.1), fun t => s_booT1 (a2 ?_)⟩
        simp only [tst, Bool.and_eq_true] at t
        exact t.1
      | cons y ys =>
        have hn : r ≠ .nil := fun e => by cases nilx e
        obtain ⟨b1, b2⟩ := r4 k pos (by simp) q.2
        refine ⟨s_boo2 hn (pe_fz a1 q.1) b1, fun t => ?_⟩
        simp only [tst, Bool.and_eq_true] at t
        exact s_booT2 hn (a2 t.1) (b2 t.2)
    · cases xs with
      | nil =>
        obtain rfl := nilr rfl
        simp only [tst, Bool.and_eq_true] at q2
        exact s_pts1 (a2 q2.1)
      | cons y ys => simp at q1
    · cases o with
      | none => cases ho
      | some o =>
        cases ho
        obtain rfl := nilr rfl
        exact s_po1 (pe_pk a1)
    · cases hy
      obtain rfl := nilr rfl
      refine ⟨pi_seqP (pe_pk a1), fun q => ?_⟩
      simp only [fzA, Bool.and_eq_true] at q
      exact pi_seqF (pe_fz a1 q.1)
theorem isTyN_of {t : String} (h : isTyN t = true) : t = "int" ∨ t = "bool" ∨ t = "str" ∨ t = "tuple" ∨ t = "list" := by
  unfold isTyN at h
  simpa using h
end Ev

end
section
set_option maxRecDepth 100000
set_option maxHeartbeats 4000000
namespace Ev
open PySem PySem.Spec PyProof.Rows L2
variable {Tb : Tab} {n : Nat}
theorem sound (e : E) : SE Tb n e ∧ SA Tb n e := by
  induction e with
  | nil => exact ⟨SE.none fun Γ ast => by simp only [chkE], sa_nil⟩
  | cons a r iha ihr => exact ⟨SE.none fun Γ ast => by simp only [chkE], sa_cons iha.1 ihr.2⟩
  | var i =>
    refine ⟨SE.of fun Γ X W H0 ast ok q => ?_, SA.none fun Γ es => by simp only [chkA]⟩
    simp only [chkE] at q
    split at q
    · exact ⟨s_var ok.sc ok.N q, fun _ whole => rfl⟩
    · cases q
  | pk i =>
    refine ⟨SE.of fun Γ X W H0 ast ok q => ?_, SA.none fun Γ es => by simp only [chkA]⟩
    simp only [chkE] at q
    split at q
    · exact ⟨s_pk ok.sc ok.N q, fun _ whole => rfl⟩
    · cases q
  | cst d =>
    refine ⟨SE.of fun Γ X W H0 ast ok q => ?_, SA.none fun Γ es => by simp only [chkA]⟩
    simp only [chkE] at q
    split at q
    · exact ⟨s_cst q, fun _ whole => rfl⟩
    · cases q
  | glo y c =>
    refine ⟨SE.of fun Γ X W H0 ast ok q => ?_, SA.none fun Γ es => by simp only [chkA]⟩
    simp only [chkE] at q
    split at q
    · simp only [Bool.and_eq_true, decide_eq_true_eq] at q
      obtain ⟨⟨rfl, h1⟩, h2⟩ := q
      obtain ⟨u, v, g1, g2, g3⟩ := ok.cst _ _ h2
      exact ⟨s_glo ok.sc h1 g1 g2 g3, fun _ whole => rfl⟩
    · cases q
  | bin o a b iha ihb =>
    refine ⟨SE.of fun Γ X W H0 ast ok q => ?_, SA.none fun Γ es => by simp only [chkA]⟩
    simp only [chkE] at q
    split at q
    · simp only [Bool.and_eq_true, decide_eq_true_eq] at q
      obtain ⟨⟨rfl, h1⟩, h2⟩ := q
      exact ⟨s_bin rfl (pe_pk (iha.1 _ _ _ _ _ ok h1).1) (pe_pk (ihb.1 _ _ _ _ _ ok h2).1), fun _ whole => rfl⟩
    · cases q
  | neg a iha =>
    refine ⟨SE.of fun Γ X W H0 ast ok q => ?_, SA.none fun Γ es => by simp only [chkA]⟩
    simp only [chkE] at q
    split at q
    · simp only [Bool.and_eq_true, decide_eq_true_eq] at q
      obtain ⟨rfl, h1⟩ := q
      exact ⟨s_neg (pe_pk (iha.1 _ _ _ _ _ ok h1).1), fun _ whole => rfl⟩
    · cases q
  | not a iha =>
    refine ⟨fun Γ X W H0 ast ok q => ?_, SA.none fun Γ es => by simp only [chkA]⟩
    simp only [chkE] at q
    split at q
    · simp only [Bool.and_eq_true, decide_eq_true_eq] at q
      obtain ⟨rfl, h1⟩ := q
      exact ⟨s_not (pe_pk (iha.1 _ _ _ _ _ ok h1).1), fun t => s_notT ((iha.1 _ _ _ _ _ ok h1).2 (by simpa [tst] using t))⟩
    · cases q
  | cmp o a b iha ihb =>
    refine ⟨fun Γ X W H0 ast ok q => ?_, SA.none fun Γ es => by simp only [chkA]⟩
    simp only [chkE] at q
    split at q
    · simp only [Bool.and_eq_true, decide_eq_true_eq, Bool.not_eq_true'] at q
      obtain ⟨⟨⟨rfl, h1⟩, h2⟩, h3⟩ := q
      exact ⟨s_cmp rfl ok.units (pe_pk (iha.1 _ _ _ _ _ ok h1).1) (pe_pk (ihb.1 _ _ _ _ _ ok h2).1) h3, fun _ => s_cmpT rfl ok.units (pe_pk (iha.1 _ _ _ _ _ ok h1).1) (pe_pk (ihb.1 _ _ _ _ _ ok h2).1) h3⟩
    · cases q
  | chn o p a b c iha ihb ihc =>
    refine ⟨fun Γ X W H0 ast ok q => ?_, SA.none fun Γ es => by simp only [chkA]⟩
    simp only [chkE] at q
    split at q
    · simp only [Bool.and_eq_true, decide_eq_true_eq, Bool.not_eq_true'] at q
      obtain ⟨⟨⟨⟨⟨rfl, rfl⟩, h1⟩, h2⟩, h4⟩, h3⟩ := q
      exact ⟨s_chn rfl ok.units (pe_pk (iha.1 _ _ _ _ _ ok h1).1) (pe_pk (ihb.1 _ _ _ _ _ ok h2).1) (pe_pk (ihc.1 _ _ _ _ _ ok h4).1) h3, fun _ => s_chnT rfl ok.units (pe_pk (iha.1 _ _ _ _ _ ok h1).1) (pe_pk (ihb.1 _ _ _ _ _ ok h2).1) (pe_pk (ihc.1 _ _ _ _ _ ok h4).1) h3⟩
    · cases q
  | boo k l ihl =>
    refine ⟨fun Γ X W H0 ast ok q => ?_, SA.none fun Γ es => by simp only [chkA]⟩
    simp only [chkE] at q
    split at q
    · simp only [Bool.and_eq_true, decide_eq_true_eq, Bool.not_eq_true'] at q
      obtain ⟨⟨⟨h0, h1⟩, h2⟩, h3⟩ := q
      subst h0
      obtain ⟨g1, g2⟩ := (ihl.2 _ _ _ H0 _ ok h1).2.2.2.1 k _ (by intro e; subst e; simp at h2) h3
      exact ⟨g1, fun t => (g2 (by simpa [tst] using t)).pt⟩
    · cases q
  | ite c a b ihc iha ihb =>
    refine ⟨fun Γ X W H0 ast ok q => ?_, SA.none fun Γ es => by simp only [chkA]⟩
    simp only [chkE] at q
    split at q
    · simp only [Bool.and_eq_true, decide_eq_true_eq, Bool.not_eq_true'] at q
      obtain ⟨⟨⟨⟨⟨h0, h1⟩, h2⟩, h3⟩, h4⟩, h5⟩ := q
      exact ⟨s_ite ((ihc.1 _ _ _ _ _ ok h1).2 h0) (pe_fz (iha.1 _ _ _ _ _ ok h2).1 h4) (pe_fz (ihb.1 _ _ _ _ _ ok h3).1 h5), fun t => by simp [tst] at t⟩
    · cases q
  | tup l ihl =>
    refine ⟨SE.of fun Γ X W H0 ast ok q => ?_, SA.none fun Γ es => by simp only [chkA]⟩
    simp only [chkE] at q
    split at q
    · simp only [Bool.and_eq_true, decide_eq_true_eq] at q
      obtain ⟨⟨h1, h2⟩, h3⟩ := q
      obtain ⟨g1, g2, g3, _⟩ := ihl.2 _ _ _ H0 _ ok h1
      exact ⟨s_tup (g2 h2) (by rw [g3]; exact h3), fun _ whole => rfl⟩
    · cases q
  | lst l ihl =>
    refine ⟨SE.of fun Γ X W H0 ast ok q => ?_, SA.none fun Γ es => by simp only [chkA]⟩
    simp only [chkE] at q
    split at q
    · simp only [Bool.and_eq_true, decide_eq_true_eq] at q
      obtain ⟨⟨h1, h2⟩, h3⟩ := q
      obtain ⟨g1, g2, g3, _⟩ := ihl.2 _ _ _ H0 _ ok h1
      exact ⟨s_lst (g2 h2) (by rw [g3]; exact h3), fun _ whole => rfl⟩
    · cases q
  | ix a b iha ihb =>
    refine ⟨SE.of fun Γ X W H0 ast ok q => ?_, SA.none fun Γ es => by simp only [chkA]⟩
    simp only [chkE] at q
    split at q
    · simp only [Bool.and_eq_true] at q
      obtain ⟨⟨h1, h2⟩, h3⟩ := q
      exact ⟨s_ix rfl (pe_pk (iha.1 _ _ _ _ _ ok h1).1) (pe_pk (ihb.1 _ _ _ _ _ ok h2).1) h3, fun _ whole => rfl⟩
    · cases q
  | slc a lo hi iha ihl ihh =>
    refine ⟨SE.of fun Γ X W H0 ast ok q => ?_, SA.none fun Γ es => by simp only [chkA]⟩
    simp only [chkE] at q
    split at q
    · simp only [Bool.and_eq_true] at q
      obtain ⟨⟨h1, h2⟩, h3⟩ := q
      exact ⟨s_slc rfl (pe_pk (iha.1 _ _ _ _ _ ok h1).1) ((ihl.2 _ _ _ _ _ ok h2).2.2.2.2.2.1 _ rfl) ((ihh.2 _ _ _ _ _ ok h3).2.2.2.2.2.1 _ rfl), fun _ whole => rfl⟩
    · cases q
  | rev a iha =>
    refine ⟨SE.of fun Γ X W H0 ast ok q => ?_, SA.none fun Γ es => by simp only [chkA]⟩
    simp only [chkE] at q
    split at q
    · simp only [Bool.and_eq_true, decide_eq_true_eq] at q
      obtain ⟨⟨h1, rfl⟩, rfl⟩ := q
      exact ⟨s_rev rfl (pe_pk (iha.1 _ _ _ _ _ ok h1).1), fun _ whole => rfl⟩
    · cases q
  | call f l ihl =>
    refine ⟨SE.of fun Γ X W H0 ast ok q => ?_, SA.none fun Γ es => by simp only [chkA]⟩
    simp only [chkE] at q
    split at q
    · simp only [Bool.and_eq_true, decide_eq_true_eq] at q
      obtain ⟨⟨⟨⟨⟨⟨rfl, h1⟩, h2⟩, h3⟩, h4⟩, h5⟩, h6⟩ := q
      obtain ⟨g1, g2, g3, _⟩ := ihl.2 _ _ _ H0 _ ok h4
      obtain ⟨k1, k2⟩ := glb_of ok.sc h1
      split at h2
      · rename_i F hF
        simp only [decide_eq_true_eq] at h2
        obtain ⟨fa, fd, f1, f2, f3, f4⟩ := ok.fns _ _ hF
        exact ⟨s_call rfl rfl f4 ok.room k1 f1 f2 f3 ok.tk (by rw [g3, h2]) k2 (g2 h6) (star_of h5) (noStars h3), fun _ whole => rfl⟩
      · cases h2
    · cases q
  | blt b l ihl =>
    refine ⟨SE.of fun Γ X W H0 ast ok q => ?_, SA.none fun Γ es => by simp only [chkA]⟩
    simp only [chkE] at q
    split at q
    · simp only [Bool.and_eq_true, decide_eq_true_eq] at q
      obtain ⟨⟨⟨⟨h0, h1⟩, h3⟩, h5⟩, h4⟩ := q
      obtain ⟨g1, g2, g3, _⟩ := ihl.2 _ _ _ H0 _ ok h4
      obtain ⟨k1, k2, k3, k4⟩ := bl_of ok.sc ok.blt h1
      exact ⟨s_blt rfl ok.calm ok.units h0 k1 k2 k4 k3 g1 (star_of h5) (noStars h3), fun _ whole => rfl⟩
    · cases q
  | isi a t iha =>
    refine ⟨SE.of fun Γ X W H0 ast ok q => ?_, SA.none fun Γ es => by simp only [chkA]⟩
    simp only [chkE] at q
    split at q
    · simp only [Bool.and_eq_true, decide_eq_true_eq] at q
      obtain ⟨⟨⟨⟨⟨⟨rfl, h1⟩, rfl⟩, h2⟩, h3⟩, h4⟩, h5⟩ := q
      obtain ⟨k1, k2, k3, k4⟩ := bl_of ok.sc ok.blt h1
      obtain ⟨j1, j2, j3, j4⟩ := bl_of ok.sc ok.blt h2
      exact ⟨s_isi rfl (isTyN_of h5) k1 k2 j1 j2 (pe_pk (iha.1 _ _ _ _ _ ok h3).1) h4, fun _ whole => rfl⟩
    · cases q
  | mth m a l iha ihl =>
    refine ⟨SE.of fun Γ X W H0 ast ok q => ?_, SA.none fun Γ es => by simp only [chkA]⟩
    simp only [chkE] at q
    split at q
    · simp only [Bool.and_eq_true, decide_eq_true_eq] at q
      obtain ⟨⟨⟨⟨⟨⟨h0, h1⟩, h2⟩, h3⟩, h4⟩, h5⟩, h6⟩ := q
      obtain ⟨g1, _⟩ := ihl.2 _ _ _ H0 _ ok h2
      exact ⟨s_mth rfl ok.units h0 (pe_pk (iha.1 _ _ _ _ _ ok h1).1) g1 h3 h4 h5 h6 (noStars (List.all_eq_true.mpr fun e he => List.all_eq_true.mp h4 e (List.mem_cons_of_mem _ he))), fun _ whole => rfl⟩
    · cases q
  | inr k a b iha ihb =>
    refine ⟨fun Γ X W H0 ast ok q => ?_, SA.none fun Γ es => by simp only [chkA]⟩
    simp only [chkE] at q
    split at q
    · simp only [Bool.and_eq_true, decide_eq_true_eq] at q
      obtain ⟨⟨⟨⟨⟨⟨rfl, rfl⟩, rfl⟩, h1⟩, h2⟩, h3⟩, h4⟩ := q
      obtain ⟨k1, k2, k3, k4⟩ := bl_of ok.sc ok.blt h1
      exact ⟨s_inr k1 k2 (pe_pk (iha.1 _ _ _ _ _ ok h2).1) (pe_pk (ihb.1 _ _ _ _ _ ok h3).1) h4, fun _ => s_inrT k1 k2 (pe_pk (iha.1 _ _ _ _ _ ok h2).1) (pe_pk (ihb.1 _ _ _ _ _ ok h3).1) h4⟩
    · cases q
  | lrg a iha =>
    refine ⟨SE.of fun Γ X W H0 ast ok q => ?_, SA.none fun Γ es => by simp only [chkA]⟩
    simp only [chkE] at q
    split at q
    · simp only [Bool.and_eq_true, decide_eq_true_eq] at q
      obtain ⟨⟨⟨⟨⟨rfl, h0⟩, rfl⟩, h1⟩, h2⟩, h3⟩ := q
      obtain ⟨j1, j2, j3, j4⟩ := bl_of ok.sc ok.blt h0
      obtain ⟨k1, k2, k3, k4⟩ := bl_of ok.sc ok.blt h1
      exact ⟨s_lrg rfl ok.calm j1 j2 k1 k2 (pe_pk (iha.1 _ _ _ _ _ ok h2).1) h3, fun _ whole => rfl⟩
    · cases q
  | comp k src tg own cnd elt ihs ihc ihe =>
    refine ⟨SE.of fun Γ X W H0 ast ok q => ?_, SA.none fun Γ es => by simp only [chkA]⟩
    simp only [chkE] at q
    split at q
    · simp only [Bool.and_eq_true, decide_eq_true_eq] at q
      obtain ⟨⟨⟨⟨⟨⟨⟨⟨⟨⟨rfl, h1⟩, h2⟩, h3⟩, h4⟩, h5⟩, h6⟩, h7⟩, h8⟩, h9⟩, h10⟩ := q
      have hv : ∀ i ∈ tgs tg, i ∈ own.map (·.2) := fun i hi => by
        have := List.all_eq_true.mp h3 i hi
        simpa using this
      refine ⟨s_comp ok.calm ok.nd rfl hv (blkOk_by (by rw [ok.N, ok.sc]; exact h1)) (pi_of ok.sc ok.blt (fun es h => (ihs.2 _ _ _ H0 _ ok h).1) (fun _ h => ((ihs.2 _ _ _ H0 _ ok h).2.2.2.2.2.2 _ rfl _).1) h5)
        (fun s H C cl fp => pg_t (X := X.blk s H _ (compEnvC _ cl C X.env) fp) ok.calm ok.nd (ok.blk s H _ cl C fp).sc ok.N (ok.blk s H _ cl C fp).fn h2)
        (fun s H C cl fp => (ihc.2 _ _ _ H0 _ (ok.blk s H _ cl C fp) h6).2.2.2.2.1 h8 h7) (fun s H C cl fp => pe_fz (ihe.1 _ _ _ H0 _ (ok.blk s H _ cl C fp) h9).1 h10) h4, fun _ whole => rfl⟩
    · cases q
end Ev

end
section
set_option maxRecDepth 100000
set_option maxHeartbeats 4000000
namespace Ev
open PySem PySem.Spec PyProof.Rows L2

/-! ### readings of statements by data -/
def XS (P : Pm) (w0 : Wd) (c : Str) (S : Sto) : Prop := ∀ σ w', Ext w0 w' → Sm (CAm P.mg) P.K w' S → ∀ C, P.mg c = some (.ref C) → P.W (.ref C) none σ w'.H
theorem XS.xp {P : Pm} {w0 w : Wd} {σ : L2.St} {c : Str} {S : Sto} (e : Ext w0 w) (h : XS P w0 c S) : XP P w σ c S := fun w' e' => h σ w' (e.trans e')
def EndS (P : Pm) (w0 w : Wd) (D : Ends) (r : Fl × Env) (S' : Sto) : Prop := match r.1 with
  | .nx => ∀ w' σ', Ext w0 w' → Wk w w' → Sm (CAm P.mg) P.K w' S' → EnvS P.K w' P.H0 r.2 σ' → D.nx σ' w'.H
  | .rt d => ∀ w' v, Ext w0 w' → Sm (CAm P.mg) P.K w' S' → Rep P.K w' d v → D.rt v w'.H
def tS (P : Pm) (w0 : Wd) (s : Ev.S) : TS := fun D σ H => ∃ w ρ S, w.H = H ∧ Ext w0 w ∧ Sm (CAm P.mg) P.K w S ∧ EnvS P.K w P.H0 ρ σ ∧ Run (evS P.Φ s ρ S) (EndS P w0 w D) (XS P w0)
theorem tS_mk {P : Pm} {w0 w : Wd} {s : Ev.S} {D : Ends} {σ : L2.St} {ρ : Env} {S : Sto} (e : Ext w0 w) (sm : Sm (CAm P.mg) P.K w S) (en : EnvS P.K w P.H0 ρ σ) (h : Run (evS P.Φ s ρ S) (EndS P w0 w D) (XS P w0)) : tS P w0 s D σ w.H := ⟨w, ρ, S, rfl, e, sm, en, h⟩
theorem PS.imp {X : Cx} {st : Stmt} {t t' : TS} (h : PS X st t) (q : ∀ D σ H, t' D σ H → t D σ H) : PS X st t' := ⟨fun pins s σ H D I z => h.run pins s σ H D I (q D σ H z)⟩
theorem PSs.imp {X : Cx} {st : List Stmt} {t t' : TS} (h : PSs X st t) (q : ∀ D σ H, t' D σ H → t D σ H) : PSs X st t' := ⟨fun pins s σ H D I z => h.run pins s σ H D I (q D σ H z)⟩
theorem Ext.wk' {a b : Wd} (e : Ext a b) : Wk a b := e.wk
section
variable {X : Cx} {P : Pm} {w0 : Wd} {e : E} {a b : Ev.S} {x : Expr} {st : Stmt} {sts : List Stmt} {pos : Pos} {i : Nat}
theorem EndS.from {w w1 : Wd} {D : Ends} {r : Fl × Env} {S' : Sto} (e : Wk w w1) (h : EndS P w0 w D r S') : EndS P w0 w1 D r S' := by
  obtain ⟨f, ρ⟩ := r
  cases f with
  | nx => exact fun w' σ' e1 e2 => (show ∀ w' σ', Ext w0 w' → Wk w w' → _ from h) w' σ' e1 (e.trans e2)
  | rt d => exact h
theorem q_nx {w : Wd} {D : Ends} {ρ : Env} {S' : Sto} (h : Run (nx ρ S') (EndS P w0 w D) (XS P w0)) : ∀ w' σ', Ext w0 w' → Wk w w' → Sm (CAm P.mg) P.K w' S' → EnvS P.K w' P.H0 ρ σ' → D.nx σ' w'.H := h
theorem q_skip : PSs X [] (tS P w0 .skip) := PSs.imp pss_nil fun D σ H ⟨w, ρ, S, e1, ex, sm, en, h⟩ => by
  subst e1
  simp only [evS] at h
  exact q_nx h w σ ex (.refl w) sm en
theorem q_skip1 (h : PS X st tNext) : PS X st (tS P w0 .skip) := PS.imp h fun D σ H ⟨w, ρ, S, e1, ex, sm, en, h⟩ => by
  subst e1
  simp only [evS] at h
  exact q_nx h w σ ex (.refl w) sm en
theorem q_seq (h1 : PS X st (tS P w0 a)) (h2 : PSs X sts (tS P w0 b)) : PSs X (st :: sts) (tS P w0 (.seq a b)) := by
  refine PSs.imp (pss_cons h1 h2) ?_
  rintro D σ H ⟨w, ρ, S, rfl, ex, sm, en, h⟩
  simp only [evS] at h
  refine tS_mk (D := { D with nx := tS P w0 b D }) ex sm en (h.bind.mono (fun r S1 k => ?_) fun _ _ z => z)
  obtain ⟨f, ρ1⟩ := r
  cases f with
  | nx => exact fun w' σ' e1 e2 sm1 en1 => tS_mk e1 sm1 en1 ((show Run (evS P.Φ b ρ1 S1) _ _ from k).mono (fun r S2 k2 => EndS.from e2 k2) fun _ _ z => z)
  | rt d => exact (show EndS P w0 w D (.rt d, ρ1) S1 from k)
theorem q_frz (h2 : PSs X sts (tS P w0 b)) (hH : P.H0 = w0.H) : PSs X sts (tS P w0 (.seq (.frz i) b)) := by
  refine PSs.imp h2 ?_
  rintro D σ H ⟨w, ρ, S, rfl, ex, sm, en, h⟩
  simp only [evS] at h
  have h := h.bind
  cases q : ρ[i]? with
  | none => rw [q] at h; exact h.elim
  | some s =>
    cases s with
    | own l =>
      rw [q] at h
      have h : Run (evS P.Φ b (ρ.set i (.val (.lst l))) S) (EndS P w0 w D) (XS P w0) := h
      obtain ⟨v, e1, p, vs, rfl, h0, hg, hp, hr⟩ := en.get q
      have hne : w.H p ≠ none := by rw [hp]; simp
      have e2 : Ext w0 (fz w p) := fz_extE ex (by rw [← hH]; exact h0) hne
      have en2 : EnvS P.K (fz w p) P.H0 (ρ.set i (.val (.lst l))) σ := by
        refine ⟨by simp [en.len], fun j s v h1 h2 => ?_, fun j k l' m' q' h1 h2 h3 h4 => ?_⟩
        · by_cases z : i = j
          · subst z
            rw [List.getElem?_set_self (List.getElem?_eq_some_iff.mp q).1] at h1
            cases h1
            rw [e1] at h2
            cases h2
            refine ⟨.ref p, rfl, ?_⟩
            simp only [Rep]
            exact ⟨p, vs, rfl, .inr rfl, hp, RepL.wk fz_wk l hr⟩
          · rw [List.getElem?_set_ne z] at h1
            have := en.at_ j s v h1 h2
            cases s with
            | emp => trivial
            | val d => obtain ⟨x, g1, g2⟩ := this; exact ⟨x, g1, Rep.wk fz_wk d g2⟩
            | own m =>
              obtain ⟨q', us, rfl, g2, g3, g4, g5⟩ := this
              refine ⟨q', us, rfl, g2, fun g => g.elim g3 fun z2 => ?_, g4, RepL.wk fz_wk m g5⟩
              subst z2
              exact z (en.ap i j l m q' q h1 e1 h2)
        · have n1 : i ≠ j := fun z => by
            subst z
            rw [List.getElem?_set_self (List.getElem?_eq_some_iff.mp q).1] at h1
            cases h1
          have n2 : i ≠ k := fun z => by
            subst z
            rw [List.getElem?_set_self (List.getElem?_eq_some_iff.mp q).1] at h2
            cases h2
          rw [List.getElem?_set_ne n1] at h1
          rw [List.getElem?_set_ne n2] at h2
          exact en.ap j k l' m' q' h1 h2 h3 h4
      exact ⟨fz w p, _, S, rfl, e2, sm.fz hne, en2, h.mono (fun r S2 k2 => EndS.from fz_wk k2) fun _ _ z => z⟩
    | _ => rw [q] at h; exact h.elim
/-! ### stores -/
theorem q_asg {t : T} (h : PS X st (tAsg (tM P .fz e) (gT P.K t))) : PS X st (tS P w0 (.asg t e)) := by
  refine PS.imp h ?_
  rintro D σ H ⟨w, ρ, S, rfl, ex, sm, en, h⟩
  simp only [evS] at h
  show tM P .fz e σ w.H _
  refine tG_mk sm en (h.bind.mono (fun d S1 h1 w1 v1 e1 sm1 p1 => ?_) fun _ _ z => z.xp ex)
  obtain ⟨ρ', hp, h2⟩ := h1.liftB
  obtain ⟨σ', en', _, k⟩ := g_put (en.ext e1) hp (show Rep P.K w1 d v1 from p1)
  exact k _ (q_nx h2 w1 σ' (ex.trans e1) e1.wk sm1 en')
theorem q_own (hH : P.H0 = w0.H) (h : PS X st (tAsg (tM P .fr e) (gName i))) : PS X st (tS P w0 (.own i e)) := by
  refine PS.imp h ?_
  rintro D σ H ⟨w, ρ, S, rfl, ex, sm, en, h⟩
  simp only [evS] at h
  show tM P .fr e σ w.H _
  refine tG_mk sm en (h.bind.mono (fun d S1 h1 w1 v1 e1 sm1 p1 => ?_) fun _ _ z => z.xp ex)
  cases d with
  | lst l =>
    obtain ⟨q, vs, rfl, g1, g2, g3, g4⟩ := p1.1 l rfl
    refine q_nx (show Run (nx (ρ.set i (.own l)) S1) _ _ from h1) w1 _ (ex.trans e1) e1.wk sm1 ((en.ext e1).putOwn (by rw [hH]; exact ex.none g1) g2 g3 g4 fun j m _ hj hs => ?_)
    obtain ⟨p, us, e2, _, _, k3, _⟩ := en.at_ j _ _ hj hs
    cases e2
    rw [g1] at k3
    cases k3
  | _ => exact (show False from h1).elim
theorem EnvS.wr {K : PySem.W.Frag} {w : Wd} {H0 : Hp} {ρ : Env} {σ : L2.St} (en : EnvS K w H0 ρ σ) {q : Addr} {us vs : List V} {l l' : List D} (h : ρ[i]? = some (.own l)) (hs : σ[i]? = some (some (.ref q))) (h0 : H0 q = none) (hg : ¬ w.G q) (hq : w.H q = some (.lst us)) (hr : RepL K w l' vs) :
    EnvS K (wr w q vs) H0 (ρ.set i (.own l')) σ := by
  have wk : Wk w (Ev.wr w q vs) := wr_wk hq hg
  have hlt := (List.getElem?_eq_some_iff.mp h).1
  refine ⟨by simp [en.len], fun j s v h1 h2 => ?_, fun j k l1 m1 q' h1 h2 h3 h4 => ?_⟩
  · by_cases z : i = j
    · subst z
      rw [List.getElem?_set_self hlt] at h1
      cases h1
      rw [hs] at h2
      cases h2
      exact ⟨q, vs, rfl, h0, hg, upd_same, RepL.wk wk _ hr⟩
    · rw [List.getElem?_set_ne z] at h1
      have := en.at_ j s v h1 h2
      cases s with
      | emp => trivial
      | val d => obtain ⟨x, g1, g2⟩ := this; exact ⟨x, g1, Rep.wk wk d g2⟩
      | own m =>
        obtain ⟨q', us', rfl, g2, g3, g4, g5⟩ := this
        have hne : q' ≠ q := fun z2 => by
          subst z2
          exact z (en.ap i j l m q' h h1 hs h2)
        refine ⟨q', us', rfl, g2, g3, ?_, RepL.wk wk m g5⟩
        show upd w.H q _ q' = _
        rw [upd_ne hne]
        exact g4
  · have back : ∀ {j : Nat} {l1 : List D}, (ρ.set i (.own l'))[j]? = some (.own l1) → ∃ l2, ρ[j]? = some (.own l2) := fun {j l1} h1 => by
      by_cases z : i = j
      · subst z; exact ⟨l, h⟩
      · rw [List.getElem?_set_ne z] at h1; exact ⟨l1, h1⟩
    obtain ⟨l2, h1⟩ := back h1
    obtain ⟨l3, h2⟩ := back h2
    exact en.ap j k l2 l3 q' h1 h2 h3 h4
/-- o[j] = e -/
theorem q_set {j : E} {y : Expr} {xe : Expr} {pos' : Pos} (hH : P.H0 = w0.H) (hx : PE X xe (tVar i)) (hj : PE X y (tM P .pk j)) (h : ∀ g, PG X (.Subscript xe y pos') g → PS X st (tAsg (tM P .fz e) g)) 
    (ha : ∀ v, assign (.Subscript xe y pos') X.env v = (do
      let ov ← holding [v] (eval xe X.env)
      let iv ← holding [v, ov] (eval y X.env)
      standAt pos'
      holding [v, ov, iv] (setItem ov iv v)
      release [v, ov, iv] [])) : PS X st (tS P w0 (.set i j e)) := by
  refine PS.imp (h _ (pg_sub hx hj set_list ha)) ?_
  rintro D σ H ⟨w, ρ, S, rfl, ex, sm, en, h⟩
  simp only [evS] at h
  show tM P .fz e σ w.H _
  refine tG_mk sm en (h.bind.mono (fun d S1 h1 w1 v1 e1 sm1 p1 => ?_) fun _ _ z => z.xp ex)
  cases q : ρ[i]? with
  | none => rw [q] at h1; exact (show False from h1).elim
  | some s =>
    rw [q] at h1
    cases s with
    | own l =>
      have h1 : Run ((M.bind (evE P.Φ j ρ) _) S1) _ _ := h1
      obtain ⟨v, e2, p, vs, rfl, h0, hg, hp, hr⟩ := (en.ext e1).get q
      refine ⟨.ref p, e2, ?_⟩
      show tM P .pk j σ w1.H _
      refine tG_mk sm1 (en.ext e1) (h1.bind.mono (fun k S2 h2 w2 v2 e3 sm2 p2 => ?_) fun _ _ z => z.xp (ex.trans e1))
      obtain ⟨m, hm, h3⟩ := h2.liftB
      cases k with
      | int k =>
        have hr2 := RepL.ext e3 l hr
        have hp2 := e3.k _ _ hp rfl
        have hg2 : ¬ w2.G p := fun g => (e3.gn p g).elim hg fun z => by rw [hp] at z; cases z
        refine ⟨p, vs, k, m, rfl, (post_pk p2).int, hp2, by rw [← hr2.length]; exact hm, ?_⟩
        have hd : Rep P.K w2 d v1 := Rep.ext e3 d (show Rep P.K w1 d v1 from p1)
        have e123 := (ex.trans e1).trans e3
        have en2 := ((en.ext e1).ext e3).wr (vs := vs.set m v1) (l' := l.set m d) q e2 h0 hg2 hp2 (RepL.set m hr2 hd)
        exact q_nx h3 (wr w2 p (vs.set m v1)) σ (ext_wr e123 (by rw [← hH]; exact h0)) ((e1.trans e3).wk.trans (wr_wk hp2 hg2)) (sm2.wr hp2 hg2) en2
      | _ => simp at hm
    | _ => exact (show False from h1).elim
/-- o.append(e) -/
theorem q_app {xe : Expr} {p1 p2 : Pos} (hH : P.H0 = w0.H) (hK : X.K = P.K) (hx : PE X xe (tVar i)) (he : PE X x (tM P .fz e)) (hs : noStar x = true) (hbase : attributeBase xe "append" X.env (eval xe X.env) = eval xe X.env) (hline : (p1.endLine == p2.line) = true) :
    PS X (.Expr (.Call (.Attribute xe "append" p1) [x] [] p2) pos) (tS P w0 (.app i e)) := by
  have hst : starEach [x] X.env = [(false, eval x X.env)] := star_of hs
  have hst' : starEach [x] X.env = (false, eval x X.env) :: starEach [] X.env := star_of hs
  have main := pe_bm PySem.F.plainAttrs_list PySem.F.slot_list_append PySem.F.type_list_append mt_append hx (pa_cons he pa_nil hst') hbase (by rw [hst]; rfl) hline hst' rfl
  refine PS.imp (ps_expr main) ?_
  rintro D σ H ⟨w, ρ, S, rfl, ex, sm, en, h⟩
  simp only [evS] at h
  cases q : ρ[i]? with
  | none => rw [q] at h; exact (show False from h).elim
  | some s =>
    rw [q] at h
    cases s with
    | own l =>
      obtain ⟨v, e2, p, vs, rfl, h0, hg, hp, hr⟩ := en.get q
      refine ⟨.ref p, e2, .inl ⟨rfl, vs, SqL.of hp⟩, ?_⟩
      have h : Run ((M.bind (evE P.Φ e ρ) _) S) _ _ := h
      show tM P .fz e σ w.H _
      refine tG_mk sm en (h.bind.mono (fun d S2 h2 w2 v2 e3 sm2 p2 => ?_) fun _ _ z => z.xp ex)
      have hr2 := RepL.ext e3 l hr
      have hp2 := e3.k _ _ hp rfl
      have hg2 : ¬ w2.G p := fun g => (e3.gn p g).elim hg fun z => by rw [hp] at z; cases z
      have hd : Rep P.K w2 d v2 := p2
      by_cases hz : l.length < line
      · rw [if_pos hz] at h2
        refine ⟨p, vs, v2, rfl, rfl, hp2, by rw [← hr2.length, ← line_eq]; exact hz, ?_⟩
        have en2 := (en.ext e3).wr (vs := vs ++ [v2]) (l' := l ++ [d]) q e2 h0 hg2 hp2 (hr2.append (by simp only [RepL]; exact ⟨_, _, rfl, hd, rfl⟩))
        exact q_nx h2 (wr w2 p (vs ++ [v2])) σ (ext_wr (ex.trans e3) (by rw [← hH]; exact h0)) (e3.wk.trans (wr_wk hp2 hg2)) (sm2.wr hp2 hg2) en2
      · rw [if_neg hz] at h2; exact (show False from h2).elim
    | _ => exact (show False from h).elim
/-- o.extend(e) -/
theorem q_ext {xe : Expr} {p1 p2 : Pos} (hH : P.H0 = w0.H) (hK : X.K = P.K) (hx : PE X xe (tVar i)) (he : PE X x (tM P .pk e)) (hs : noStar x = true) (hbase : attributeBase xe "extend" X.env (eval xe X.env) = eval xe X.env) (hline : (p1.endLine == p2.line) = true) :
    PS X (.Expr (.Call (.Attribute xe "extend" p1) [x] [] p2) pos) (tS P w0 (.ext i e)) := by
  have hst : starEach [x] X.env = [(false, eval x X.env)] := star_of hs
  have hst' : starEach [x] X.env = (false, eval x X.env) :: starEach [] X.env := star_of hs
  have main := pe_bm PySem.F.plainAttrs_list PySem.F.slot_list_extend PySem.F.type_list_extend mt_extend hx (pa_cons he pa_nil hst') hbase (by rw [hst]; rfl) hline hst' rfl
  refine PS.imp (ps_expr main) ?_
  rintro D σ H ⟨w, ρ, S, rfl, ex, sm, en, h⟩
  simp only [evS] at h
  cases q : ρ[i]? with
  | none => rw [q] at h; exact (show False from h).elim
  | some s =>
    rw [q] at h
    cases s with
    | own l =>
      obtain ⟨v, e2, p, vs, rfl, h0, hg, hp, hr⟩ := en.get q
      refine ⟨.ref p, e2, .inl ⟨rfl, vs, SqL.of hp⟩, ?_⟩
      have h : Run ((M.bind (evE P.Φ e ρ) _) S) _ _ := h
      show tM P .pk e σ w.H _
      refine tG_mk sm en (h.bind.mono (fun d S2 h2 w2 v2 e3 sm2 p2 => ?_) fun _ _ z => z.xp ex)
      have hr2 := RepL.ext e3 l hr
      have hp2 := e3.k _ _ hp rfl
      have hg2 : ¬ w2.G p := fun g => (e3.gn p g).elim hg fun z => by rw [hp] at z; cases z
      cases d with
      | lst m =>
        obtain ⟨b, us, rfl, k4, k5⟩ := (post_pk p2).lst
        have h2 : Run ((if l.length + m.length ≤ line then nx (ρ.set i (.own (l ++ m))) else M.er) S2) _ _ := h2
        by_cases hz : l.length + m.length ≤ line
        · rw [if_pos hz] at h2
          refine ⟨p, b, vs, us, rfl, rfl, hp2, k4, by rw [← hr2.length, ← k5.length, ← line_eq]; exact hz, ?_⟩
          have en2 := (en.ext e3).wr (vs := vs ++ us) (l' := l ++ m) q e2 h0 hg2 hp2 (hr2.append k5)
          exact q_nx h2 (wr w2 p (vs ++ us)) σ (ext_wr (ex.trans e3) (by rw [← hH]; exact h0)) (e3.wk.trans (wr_wk hp2 hg2)) (sm2.wr hp2 hg2) en2
        · rw [if_neg hz] at h2; exact (show False from h2).elim
      | _ => exact (show False from h2).elim
    | _ => exact (show False from h).elim
/-! ### the others -/
theorem q_expr {m : Md} (he : PE X x (tM P m e)) (hs : swapsWith x none pos.line X.env = pure false) : PS X (.Expr x pos) (tS P w0 (.expr e)) := by
  refine PS.imp (ps_expr he hs) ?_
  rintro D σ H ⟨w, ρ, S, rfl, ex, sm, en, h⟩
  simp only [evS] at h
  exact tG_mk sm en (h.bind.mono (fun d S1 h1 w1 v1 e1 sm1 p1 => q_nx h1 w1 σ (ex.trans e1) e1.wk sm1 (en.ext e1)) fun _ _ z => z.xp ex)
theorem q_ret (he : PE X x (tM P .fz e)) : PS X (.Return (some x) pos) (tS P w0 (.ret e)) := by
  refine PS.imp (ps_ret he) ?_
  rintro D σ H ⟨w, ρ, S, rfl, ex, sm, en, h⟩
  simp only [evS] at h
  exact tG_mk sm en (h.bind.mono (fun d S1 h1 w1 v1 e1 sm1 p1 => (show ∀ w' v, Ext w0 w' → Sm (CAm P.mg) P.K w' S1 → Rep P.K w' d v → D.rt v w'.H from h1) w1 v1 (ex.trans e1) sm1 p1) fun _ _ z => z.xp ex)
theorem q_retN : PS X (.Return none pos) (tS P w0 (.ret (.cst .non))) := by
  refine PS.imp ps_retN ?_
  rintro D σ H ⟨w, ρ, S, rfl, ex, sm, en, h⟩
  simp only [evS, evE] at h
  exact (show ∀ w' v, Ext w0 w' → Sm (CAm P.mg) P.K w' S → Rep P.K w' .non v → D.rt v w'.H from h) w .non ex sm (by simp only [Rep])
theorem q_ite {A B : List Stmt} (hc : PT X x (tT P e)) (ha : PSs X A (tS P w0 a)) (hb : PSs X B (tS P w0 b)) : PS X (.If x A B pos) (tS P w0 (.ite e a b)) := by
  refine PS.imp (ps_if hc ha hb) ?_
  rintro D σ H ⟨w, ρ, S, rfl, ex, sm, en, h⟩
  simp only [evS] at h
  rw [← M.assoc] at h
  show tT P e σ w.H _
  refine tG_mk sm en (h.bind.mono (fun c S1 h1 w1 b1 e1 sm1 eb => ?_) fun _ _ z => z.xp ex)
  subst eb
  cases c with
  | true => rw [if_pos rfl] at h1 ⊢; exact tS_mk (ex.trans e1) sm1 (en.ext e1) (h1.mono (fun r S2 k2 => EndS.from e1.wk k2) fun _ _ z => z)
  | false => rw [if_neg Bool.false_ne_true] at h1 ⊢; exact tS_mk (ex.trans e1) sm1 (en.ext e1) (h1.mono (fun r S2 k2 => EndS.from e1.wk k2) fun _ _ z => z)
end
end Ev

end
section
set_option maxRecDepth 100000
set_option maxHeartbeats 4000000
namespace Ev
open PySem PySem.Spec PyProof.Rows L2

/-! ### a def that is called while an exception is handled -/
/-- the object of the exception, with its class -/
def ExO (C : Addr) (p : Addr × Obj) : Prop := Zc (.ref C) none p.2 ∧ ∃ us, p.2.data = .fields us
abbrev mkHot (B : Program) (w : World) (K : PySem.W.Frag) (mg : Str → Option Value) (g0 : Heap) (N : List Str) (q : Str) (sc : Scope) (fa : Addr) (cd : Value) (A : Around) (o : List PySem.Env) (s : Shared) (H : Hp) (p : Addr × Obj) : Cx := L2H.cxH (L2.CX B w) B w K mg g0 N q sc fa cd A o s H (fun _ _ _ => False) p
/-- its promise, of the exception p -/
structure FnP (B : Program) (w : World) (K : PySem.W.Frag) (mg : Str → Option Value) (g0 : Heap) (k : Nat) (fa : Addr) (fd : FuncData) (ps : List Str) (R : Addr × Obj → List V → Hp → VK → Prop) : Prop where
  len : ∀ p vs H Q, R p vs H Q → vs.length = ps.length
  run : ∀ (A : Around) (o : List PySem.Env) (s : Shared) (H : Hp) (zs : Args) (us : List Value) (vs : List V) (Q : VK) (p : Addr × Obj), L2H.RoomH k A → L2H.PinOk o H s p → Env0 B w K mg g0 A o s H → BindsTo s fd zs (ps.zip us) → Vals vs us → R p vs H Q →
    codeAny (model B w) A (.call (.ref fa) zs) (CR (L2.CX B w) o B w H s Q fun _ _ _ => False) s
theorem fnP_of {B : Program} {w : World} {K : PySem.W.Frag} {mg : Str → Option Value} {g0 : Heap} {k : Nat} {f q : Str} {st : Stmt} {fa : Addr} {fd : FuncData} {N ps : List Str} {R : Addr × Obj → List V → Hp → VK → Prop} (F : Fun K f q st fa fd) (S : FnScope N ps (defScope st))
    (len : ∀ p vs H Q, R p vs H Q → vs.length = ps.length)
    (body : ∀ (cd : Value) (A : Around) (o : List PySem.Env) (s : Shared) (H : Hp) (vs : List V) (Q : VK) (p : Addr × Obj), L2H.RoomH k (A.deeper (envOfC q (defScope st) s.heap.objs.size fa cd)) → R p vs H Q →
      ∃ t, PSs (mkHot B w K mg g0 N q (defScope st) fa cd A o s H p) (defBody st) t ∧ t { nx := fun _ H' => Q .non H', rt := Q } (L2.start N vs) H) :
    FnP B w K mg g0 (k + 1) fa fd ps R := by
  obtain ⟨oc, od, kV, dc, pm, an, cd, ct, sl, hfd, lk, hcd⟩ := F.ex
  subst hfd
  refine ⟨len, fun A o s H zs us vs Q p room pin e0 bd rv hR => ?_⟩
  have hn := len _ _ _ _ hR
  have kin : K.In s.heap := e0.mod.kin.keeps fun b u e => (e0.bs b u e).1
  have nol : s.heap.NoLimit := e0.mod.nolimit.keeps fun b u e => (e0.bs b u e).1
  have kinds : ∀ y ∈ ps.zip us, (defScope st).names.lookup y.1 = some .local ∨ ((defScope st).names.lookup y.1 = some .cell ∧ ((cellsFrom (s.heap.objs.size + 1) (defScope st).names []).lookup y.1).isSome = true) := by
    rintro ⟨n, v⟩ hy
    rcases S.par n (List.of_mem_zip hy).1 with z | z
    · exact .inl z
    · exact .inr ⟨z, PySem.W.cellsFrom_some _ _ _ (.inl z)⟩
  refine codeAny_call_function room.depth (kin _ _ lk) rfl S.co S.gen rfl (PySem.W.codeRec_of kin hcd) (bd _ _ _ _ ?_)
  refine wpAny_newFunctionEnv_cells S.kind kinds fun env he s1 x => ?_
  subst he
  refine ⟨nol.keeps x.toInCall.keep, codeAny_func ?_⟩
  obtain ⟨t, ht, hq⟩ := body cd A o s H vs Q p (room.deeper _) hR
  have I0 : Inv (mkHot B w K mg g0 N q (defScope st) fa cd A o s H p) [] (L2.start N vs) H s1 := L2H.inv_startH S pin e0 hn rv x
  refine wpAny_mono (ht.run [] s1 (L2.start N vs) H _ I0 hq) (fun fl s2 hs => ?_) fun _ _ z => z
  have done : ∀ {σ2 : L2.St} {H2 : Hp} {v : V} {u : Value}, Inv (mkHot B w K mg g0 N q (defScope st) fa cd A o s H p) [] σ2 H2 s2 → RelV v u → Q v H2 → CE o B w H s Q u s2 :=
    fun {σ2 H2 v u} J r1 q1 => ⟨v, H2, J.os, J.bare, J.base, J.hok, r1, q1⟩
  cases fl with
  | brk => obtain ⟨_, _, _, z⟩ := hs; exact z.elim
  | cont => obtain ⟨_, _, _, z⟩ := hs; exact z.elim
  | ret u => obtain ⟨v, σ2, H2, J, r1, q1⟩ := hs; exact done J r1 q1
  | next => obtain ⟨σ2, H2, J, q1⟩ := hs; exact done (v := V.non) (u := Value.none) J rfl q1
section
variable {X : Cx} {k : Nat} {fa C : Addr} {fd : FuncData} {ps : List Str} {R : Addr × Obj → List V → Hp → VK → Prop} {p : Addr × Obj}
theorem pe_callP {f : Str} {q pos : Pos} {e : Expr} {es : List Expr} {t : TA} (F : FnP X.prog X.w X.K X.mg X.base k fa fd ps R) (room : L2H.RoomH k X.A) (hp : p ∈ X.pn) (hg : Gl X f) (hm : X.mg f = some (.ref fa)) (hk : PySem.W.keepIn X.K (.ref fa) = true) (hb : Binds X.K fd ps [])
    (ha : PA X (e :: es) t) (hdb : (f == ("__debug__" : Str)) = false) (he : starEach (e :: es) X.env = (false, eval e X.env) :: starEach es X.env) (hpl : (backTo pos (starEach es X.env)).any (·.1) = false) :
    PE X (.Call (.Name f q) (e :: es) [] pos) (fun σ H Q => t σ H fun vs H1 => R p vs H1 Q) := by
  refine ⟨fun pins s σ H Q I h => ?_⟩
  refine wpAny_Call_Name_kw (ld_glob I hg hm ?_ hdb)
  refine PySem.W.callWith_K (h₀ := X.base) I.ok.mod.kin hk (thn (ha.run pos pins s σ H _ I h) fun us s1 ⟨vs, H1, J, rv, z⟩ => ⟨J.kIn, ?_⟩) he hpl
  have hn : us.length = ps.length := rv.length.symm.trans (F.len _ _ _ _ z)
  have bd := hb s1 us J.kIn (by rw [List.append_nil]; exact hn)
  rw [List.append_nil] at bd
  have at1 := J.pin p (List.mem_append_left _ hp)
  have pin : L2H.PinOk X.stack H1 s1 p := ⟨at1.1, at1.2.1, fun hs => (List.mem_cons.mp (J.stkSub p.1 hs)).elim at1.2.2.1 at1.2.2.2.1, at1.2.2.2.2⟩
  refine wpAny_call (codeAny_mono (F.run X.A X.stack s1 H1 ⟨us, []⟩ us vs Q p room pin J.env0 bd rv z) fun r s2 hr => ?_)
  cases r with
  | error u =>
    obtain ⟨_, _, _, _, _, _, _, _, _, _, _, _, no⟩ := hr
    exact no.elim
  | ok fl =>
    cases fl with
    | ret u => exact J.after hr
    | brk => exact hr.elim
    | next => exact hr.elim
    | cont => exact hr.elim
theorem call_isP (xc : ExcC X.K C) (hp : p ∈ X.pn) (ho : ExO C p) : CallR X (.builtin "isinstance") (fun xs H Q => ∃ (c : V) (cv : Value) (b : Bool), xs = [.ref p.1, c] ∧ (∀ u, RelV c u → u = cv) ∧ PySem.W.kitOne X.K (.ref C) cv = some b ∧ Q (.bl b) H) := by
  intro pins s σ H xs us Q I rr h
  obtain ⟨c, cv, b, rfl, hcv, e, q⟩ := h
  obtain ⟨⟨z1, z2⟩, vs, z3⟩ := ho
  obtain ⟨a, oe⟩ := p
  cases rr with
  | cons r1 rr =>
    cases rr with
    | cons r2 rr =>
      cases rr
      cases r1
      obtain rfl := hcv _ r2
      obtain ⟨g1, _⟩ := I.pin (a, oe) (List.mem_append_left _ hp)
      have at_ : PySem.W.InstAt s.heap a oe C none := by
        cases oe
        simp only at z1 z2 z3
        subst z1 z2 z3
        exact ⟨g1, rfl, rfl, trivial⟩
      exact PySem.W.kia_one (PySem.W.handS_kitx_exc xc.hg xc.hk xc.hs xc.hd xc.ha xc.hn xc.ht xc.hm) I.kIn at_ e (fun z => nomatch z) fun tk => ⟨.bl b, H, I.kept (t' := tk) fun _ _ z => z, rfl, q⟩
/-- isinstance(e, d) of the exception at a, in slot i -/
def tIs (i : Nat) (a : Addr) (b : Bool) : TE := fun σ H Q => σ[i]? = some (some (.ref a)) ∧ Q (.bl b) H
theorem pe_isP {i : Nat} {x d : Str} {D : Value} {v : V} {b : Bool} {q1 q2 q3 q4 : Pos} (xc : ExcC X.K C) (hp : p ∈ X.pn) (ho : ExO C p) (hi : X.N[i]? = some x) (hv : Vis X.env.scope x) (hx : plainName x = true) (hg : Gl X "isinstance") (hm : X.mg "isinstance" = none)
    (hd : PE X (.Name d q2) (L2.tC v)) (hcv : ∀ u, RelV v u → u = D) (e : PySem.W.kitOne X.K (.ref C) D = some b) : PE X (.Call (.Name "isinstance" q3) [.Name x q1, .Name d q2] [] q4) (tIs i p.1 b) := by
  have main := pe_callB (x := "isinstance") (p := q3) (pos := q4) (call_isP xc hp ho) hg hm (by decide +kernel) (pa_cons (pe_var (pos := q1) hi hv (ne_dbg hx).1 (ne_dbg hx).2) (pa_cons hd pa_nil rfl) rfl) (by decide) (by decide) rfl rfl
  refine PE.imp main ?_
  rintro σ H Q ⟨h1, h2⟩
  exact ⟨_, h1, _, _, b, rfl, hcv, e, h2⟩
end
/-! ### what a refusal is told by -/
structure ExF (K : PySem.W.Frag) (mg : Str → Option Value) (cls : List Str) (c : Str) (C : Addr) : Prop where
  at_ : mg c = some (.ref C)
  xc : ExcC K C
  kit : ∀ d ∈ cls, ∃ D, mg d = some (.ref D) ∧ PySem.W.kitOne K (.ref C) (.ref D) = some (subC c d)
  ve : PySem.W.kitOne K (.ref C) (.type "ValueError") = some true
def isEx (cls : List Str) (Γ : Gm) (i : Nat) (d : Str) : Expr → Bool
  | .Call (.Name f _) [.Name x _, .Name y _] [] _ => decide (f = ("isinstance" : Str)) && Γ.glb f && Γ.vis i x && decide (y = d) && Γ.glb y && cls.contains d
  | _ => false
def isVe (Γ : Gm) (i : Nat) : Expr → Bool
  | .Call (.Name f _) [.Name x _, .Name y _] [] _ => decide (f = ("isinstance" : Str)) && Γ.glb f && Γ.vis i x && decide (y = ("ValueError" : Str)) && Γ.glb y
  | _ => false
def rowEx (cls : List Str) (Γ : Gm) (i : Nat) : List Str → List Expr → Bool
  | [], [] => true
  | d :: ds, e :: es => isEx cls Γ i d e && noStar e && rowEx cls Γ i ds es
  | _, _ => false
section
variable {X : Cx} {C : Addr} {p : Addr × Obj} {Γ : Gm} {cls : List Str} {c : Str}
theorem pe_isEx {i : Nat} {d : Str} {e : Expr} (xf : ExF X.K X.mg cls c C) (hp : p ∈ X.pn) (ho : ExO C p) (sc : X.env.scope = Γ.sc) (nd : X.N = Γ.N) (hm : X.mg "isinstance" = none) (h : isEx cls Γ i d e = true) : PE X e (tIs i p.1 (subC c d)) := by
  unfold isEx at h
  split at h
  · simp only [Bool.and_eq_true, decide_eq_true_eq] at h
    obtain ⟨⟨⟨⟨⟨rfl, h1⟩, h2⟩, rfl⟩, h4⟩, h5⟩ := h
    obtain ⟨g1, g2⟩ := glb_of sc h1
    obtain ⟨k1, k2, k3⟩ := vis_of sc nd h2
    obtain ⟨j1, j2⟩ := glb_of sc h4
    obtain ⟨D, z1, z2⟩ := xf.kit _ (by simpa using h5)
    exact pe_isP xf.xc hp ho k1 k2 k3 g1 hm (pe_glob (v := .ref D) j1 z1 rfl (ne_dbg j2).1) (fun u hu => hu) z2
  · cases h
theorem pe_isVe {i : Nat} {e : Expr} (xf : ExF X.K X.mg cls c C) (hp : p ∈ X.pn) (ho : ExO C p) (sc : X.env.scope = Γ.sc) (nd : X.N = Γ.N) (hm : X.mg "isinstance" = none) (hv : X.mg "ValueError" = none) (h : isVe Γ i e = true) : PE X e (tIs i p.1 true) := by
  unfold isVe at h
  split at h
  · simp only [Bool.and_eq_true, decide_eq_true_eq] at h
    obtain ⟨⟨⟨⟨rfl, h1⟩, h2⟩, rfl⟩, h4⟩ := h
    obtain ⟨g1, g2⟩ := glb_of sc h1
    obtain ⟨k1, k2, k3⟩ := vis_of sc nd h2
    obtain ⟨j1, j2⟩ := glb_of sc h4
    exact pe_isP xf.xc hp ho k1 k2 k3 g1 hm (pe_bltn (v := .ty "ValueError") j1 hv (by decide +kernel) rfl (by decide) (by decide)) (fun u hu => hu) xf.ve
  · cases h
theorem pa_isEx {i : Nat} (xf : ExF X.K X.mg cls c C) (hp : p ∈ X.pn) (ho : ExO C p) (sc : X.env.scope = Γ.sc) (nd : X.N = Γ.N) (hm : X.mg "isinstance" = none) : ∀ {ds : List Str} {es : List Expr}, rowEx cls Γ i ds es = true →
    PA X es (fun σ H Q => σ[i]? = some (some (.ref p.1)) ∧ Q ((ds.map (subC c)).map V.bl) H)
  | [], [], _ => PA.imp pa_nil fun σ H Q h => h.2
  | d :: ds, e :: es, h => by
    simp only [rowEx, Bool.and_eq_true] at h
    refine PA.imp (pa_cons (pe_isEx xf hp ho sc nd hm h.1.1) (pa_isEx xf hp ho sc nd hm h.2) (star_of h.1.2)) fun σ H Q z => ?_
    exact ⟨z.1, z.1, z.2⟩
  | [], _ :: _, h => by simp [rowEx] at h
  | _ :: _, [], h => by simp [rowEx] at h
end
end Ev

end
section
set_option maxRecDepth 100000
set_option maxHeartbeats 4000000
namespace Ev
open PySem PySem.Spec PyProof.Rows L2

/-! ### the def that tells which refusal it is -/
def chkEnd (Γ : Gm) : List Stmt → Bool
  | [.If (.BoolOp bo [.Compare (.Call (.Attribute (.Name y1 _) n1 a1) [.Constant (.bool b1) _ _] [] p1) [o1] [.Constant (.int i1) _ _] _, .UnaryOp o2 ve _] _) [.Return (some (.Tuple [.Constant (.str r1) _ _, .UnaryOp o3 (.Constant (.int i2) _ _) _] _ _)) _] [] _,
      .Return (some (.Tuple [.Constant (.str r2) _ _, .Call (.Attribute (.Name y2 _) n2 a2) [.Constant (.bool b2) _ _] [] p2] _ _)) _] =>
    decide (bo = .Or) && decide (o1 = .NotEq) && decide (o2 = .Not) && decide (o3 = .USub) && b1 && b2 && decide (i1 = 1) && decide (i2 = 1) && decide (n1 = ("count" : Str)) && decide (n2 = ("index" : Str)) && decide (r1 = ("refused" : Str)) && decide (r2 = ("refused" : Str)) &&
      Γ.vis 1 y1 && Γ.vis 1 y2 && isVe Γ 0 ve && (a1.endLine == p1.line) && (a2.endLine == p2.line)
  | _ => false
def chkMore (cls : List Str) (Γ : Gm) : List (List Str) → List Stmt → Bool
  | [], sts => chkEnd Γ sts
  | r :: rs, .Assign [.Name x _] (.BinOp (.Name y _) op (.List es _) _) _ :: sts => Γ.sto 1 x && Γ.vis 1 y && decide (op = .Add) && rowEx cls Γ 0 r es && decide (es.length ≤ 100) && chkMore cls Γ rs sts
  | _, _ => false
def chkRf (cls : List Str) (Γ : Gm) : List (List Str) → List Stmt → Bool
  | r :: rs, .Assign [.Name x _] (.List es _) _ :: sts => Γ.sto 1 x && rowEx cls Γ 0 r es && decide (es.length ≤ 100) && decide (rs.length ≤ 9) && chkMore cls Γ rs sts
  | _, _ => false
def codeF (fl : List Bool) : Int := if fl.count true ≠ 1 then -1 else ((fl.findIdx id : Nat) : Int)
def tRest (a : Addr) (more : List Bool) (m : Nat) : TS := fun D σ H => ∃ q fl, σ.length = 2 ∧ σ[0]? = some (some (.ref a)) ∧ σ[1]? = some (some (.ref q)) ∧ H q = some (.lst (fl.map V.bl)) ∧ fl.length + more.length ≤ m ∧
  ∀ H' r, (∀ b o, H b = some o → H' b = some o) → H r = none → H' r = some (.tup [.str "refused", .int (codeF (fl ++ more))]) → D.rt (.ref r) H'
theorem dp_bls {K : PySem.W.Frag} {H : Hp} : ∀ l : List Bool, DpAll K H (l.map V.bl) (l.map .bool)
  | [] => .nil
  | b :: l => .cons (.bl b) (dp_bls l)
theorem shaped_bls (l : List Bool) : SeqAt.shaped (.list (l.map .bool)) = true := by
  have h : (l.map D.bl).all (okD 50) = true := by simp [okD]
  have := okL_py h
  rw [toPyL_map, List.map_map] at this
  exact this
theorem shaped_bl (b : Bool) : SeqAt.shaped (.bool b) = true := shaped_of (d := .bl b) (by simp [okD])
theorem cnt_bls (l : List Bool) : (l.map PyData.bool).countP (fun z => PyData.eqv z (.bool true)) = l.count true := by
  rw [List.countP_map, List.count_eq_countP]
  refine List.countP_congr fun b _ => ?_
  cases b <;> simp [PyData.eqv]
theorem one_idx : ∀ {l : List Bool}, l.count true = 1 → ∃ j, j = l.findIdx id ∧ (l.map PyData.bool)[j]? = some (.bool true) ∧ ∀ m z, m < j → (l.map PyData.bool)[m]? = some z → PyData.eqv z (.bool true) = false := by
  intro l h
  have hm : ∃ x ∈ l, id x = true := ⟨true, List.count_pos_iff.mp (by omega), rfl⟩
  have hlt := List.findIdx_lt_length_of_exists (p := id) hm
  refine ⟨_, rfl, ?_, fun m z hmj hz => ?_⟩
  · rw [List.getElem?_map, List.getElem?_eq_getElem hlt]
    have := List.findIdx_getElem (p := id) (w := hlt)
    rw [show l[l.findIdx id] = true from this]
    rfl
  · rw [List.getElem?_map, Option.map_eq_some_iff] at hz
    obtain ⟨b, hb, rfl⟩ := hz
    obtain ⟨g1, g2⟩ := List.getElem?_eq_some_iff.mp hb
    have := List.not_of_lt_findIdx (p := id) hmj
    rw [g2] at this
    cases b with
    | true => simp at this
    | false => simp [PyData.eqv]
theorem ite_yes {b : Bool} {A B : Prop} (e : b = true) (h : A) : if b = true then A else B := by rw [if_pos e]; exact h
def noComp : Expr → Bool
  | .ListComp _ _ _ _ => false
  | .SetComp _ _ _ _ => false
  | .DictComp _ _ _ _ _ => false
  | _ => true
theorem swap_no' {ex : Expr} {tg : Option Expr} {l : Nat} {env : PySem.Env} (h : noComp ex = true) : swapsWith ex tg l env = pure false := by
  cases ex <;> first | rfl | (simp [noComp] at h; done)
section
variable {X : Cx} {C : Addr} {p : Addr × Obj} {Γ : Gm} {cls : List Str} {c : Str}
theorem pss_end (hu : X.A.units + 70 < cLine) (xf : ExF X.K X.mg cls c C) (hp : p ∈ X.pn) (ho : ExO C p) (sc : X.env.scope = Γ.sc) (nd : X.N = Γ.N) (hm : X.mg "isinstance" = none) (hv : X.mg "ValueError" = none) {sts : List Stmt} (h : chkEnd Γ sts = true) {m : Nat} (hz : m ≤ 1000) :
    PSs X sts (tRest p.1 [] m) := by
  unfold chkEnd at h
  split at h
  rotate_left
  · cases h
  simp only [Bool.and_eq_true, decide_eq_true_eq] at h
  obtain ⟨⟨⟨⟨⟨⟨⟨⟨⟨⟨⟨⟨⟨⟨⟨⟨rfl, rfl⟩, rfl⟩, rfl⟩, rfl⟩, rfl⟩, rfl⟩, rfl⟩, rfl⟩, rfl⟩, rfl⟩, rfl⟩, h1⟩, h2⟩, h3⟩, h4⟩, h5⟩ := h
  obtain ⟨k1, k2, k3⟩ := vis_of sc nd h1
  obtain ⟨j1, j2, j3⟩ := vis_of sc nd h2
  have isv : ∀ whole, isTrue ‹Expr› X.env whole = (do let v ← whole; standAt (‹Expr› : Expr).pos; holding [v] (truthy v)) := by
    intro whole
    unfold isVe at h3
    split at h3
    · rfl
    · cases h3
  refine PSs.imp (pss_cons (ps_if (PW.pt (pw_or (pt_cmpR op_ne (pe_bm PySem.F.plainAttrs_list PySem.F.slot_list_count PySem.F.type_list_count (mt_countD hu) (pe_var k1 k2 (ne_dbg k3).1 (ne_dbg k3).2) (pa_cons (pe_bl (b := true)) pa_nil rfl) rfl rfl h4 rfl rfl) pe_int rfl)
      (pw_or1 (pt_not (pt_val (pe_isVe xf hp ho sc nd hm hv h3) isv))))) (pss_one (ps_ret (pe_tup (pa_cons pe_str (pa_cons (pe_un un_neg pe_int) pa_nil rfl) rfl)))) pss_nil)
    (pss_one (ps_ret (pe_tup (pa_cons pe_str (pa_cons (pe_bm PySem.F.plainAttrs_list PySem.F.slot_list_index PySem.F.type_list_index (mt_indexD (by omega : X.A.units + 65 < cLine)) (pe_var j1 j2 (ne_dbg j3).1 (ne_dbg j3).2) (pa_cons (pe_bl (b := true)) pa_nil rfl) rfl rfl h5 rfl rfl) pa_nil rfl) rfl))))) ?_
  rintro D σ H ⟨q, fl, s2, s0, s1, hq, hl, k⟩
  refine ⟨.ref q, s1, .inl ⟨rfl, _, SqL.of hq⟩, ⟨q, .bl true, .bool true, fl.map .bool, rfl, rfl, .lst (SqL.of hq) (dp_bls fl), .bl true, shaped_bls fl, shaped_bl true, rfl, _, rfl, ?_⟩⟩
  rw [cnt_bls]
  simp only [List.append_nil] at k
  have small2 : (2 : Nat) ≤ sizeLine := by rw [sizeLine_eq]; omega
  by_cases hc : fl.count true = 1
  · rw [hc]
    obtain ⟨j, ej, z1, z2⟩ := one_idx hc
    refine ⟨s0, true, rfl, ?_⟩
    refine ⟨.ref q, s1, .inl ⟨rfl, _, SqL.of hq⟩, ⟨q, .bl true, .bool true, fl.map .bool, j, .bool true, rfl, rfl, .lst (SqL.of hq) (dp_bls fl), .bl true, shaped_bls fl, shaped_bl true, z1, by simp [PyData.eqv], z2, small2, fun r hr => k _ r (fun b o e => by rw [upd_ne (ne_of_none e hr)]; exact e) hr ?_⟩⟩
    rw [upd_same]
    unfold codeF
    rw [if_neg (by simp [hc]), ej]
  · have e : (!decide (V.int ((fl.count true : Nat) : Int) = V.int 1)) = true := by
      rw [Bool.not_eq_true', decide_eq_false_iff_not]
      intro z
      have := V.int.inj z
      omega
    refine ite_yes e ?_
    refine ⟨1, rfl, small2, fun r hr => k _ r (fun b o e => by rw [upd_ne (ne_of_none e hr)]; exact e) hr ?_⟩
    rw [upd_same]
    unfold codeF
    rw [if_pos hc]
theorem pss_more (hu : X.A.units + 70 < cLine) (xf : ExF X.K X.mg cls c C) (hp : p ∈ X.pn) (ho : ExO C p) (sc : X.env.scope = Γ.sc) (nd : X.N = Γ.N) (hN : X.N.Nodup) (fn : ∀ x, (∀ names, Γ.st = some names → names.lookup x = some .cell) → X.fn x = true) (hm : X.mg "isinstance" = none) (hv : X.mg "ValueError" = none) :
    ∀ {rs : List (List Str)} {sts : List Stmt}, chkMore cls Γ rs sts = true → PSs X sts (tRest p.1 (rs.flatten.map (subC c)) 1000)
  | [], sts, h => by
    unfold chkMore at h
    exact pss_end hu xf hp ho sc nd hm hv h (Nat.le_refl _)
  | r :: rs, sts, h => by
    unfold chkMore at h
    split at h
    · rename_i e; cases e
    · rename_i r0 rs0 x _ y _ op es _ _ _ sts' e1
      obtain ⟨rfl, rfl⟩ := List.cons.inj e1
      simp only [Bool.and_eq_true, decide_eq_true_eq] at h
      obtain ⟨⟨⟨⟨⟨h1, h2⟩, rfl⟩, h4⟩, h5⟩, h6⟩ := h
      obtain ⟨k1, k2, k3⟩ := sto_of sc nd fn h1
      obtain ⟨j1, j2, j3⟩ := vis_of sc nd h2
      refine PSs.imp (pss_cons (ps_set hN k1 k2 (pe_op op_cat (pe_var j1 j2 (ne_dbg j3).1 (ne_dbg j3).2) (pe_lst (pa_isEx xf hp ho sc nd hm h4))) (swap_no' rfl) k3) (pss_more hu xf hp ho sc nd hN fn hm hv h6)) ?_
      rintro D σ H ⟨q, fl, s2, s0, s1, hq, hl, k⟩
      simp only [List.flatten_cons, List.map_append, List.length_append] at hl k
      have hlen : (r.map (subC c)).length ≤ 1000 := by omega
      have hz : sizeLine = 16777216 := sizeLine_eq
      refine ⟨.ref q, s1, s0, by rw [List.length_map]; omega, fun l1 n1 => ?_⟩
      have q1 : upd H l1 (.lst ((r.map (subC c)).map V.bl)) q = some (.lst (fl.map V.bl)) := by rw [upd_ne (ne_of_none hq n1)]; exact hq
      refine ⟨q, l1, fl.map V.bl, (r.map (subC c)).map V.bl, rfl, rfl, q1, upd_same, by rw [List.length_map, List.length_map]; omega, fun l2 n2 => ?_⟩
      refine ⟨l2, fl ++ r.map (subC c), by simpa using s2, ?_, ?_, ?_, by simp only [List.length_append]; omega, fun H' z zk zn zt => ?_⟩
      · rw [List.getElem?_set_ne (by decide)]; exact s0
      · rw [List.getElem?_set_self (by omega)]
      · rw [upd_same, List.map_append]
      · refine k H' z (fun b o e => zk b o ?_) ?_ ?_
        · have e1 : upd H l1 (.lst ((r.map (subC c)).map V.bl)) b = some o := by rw [upd_ne (ne_of_none e n1)]; exact e
          rw [upd_ne (ne_of_none e1 n2)]
          exact e1
        · cases e : H z with
          | none => rfl
          | some o =>
            have e1 : upd H l1 (.lst ((r.map (subC c)).map V.bl)) z = some o := by rw [upd_ne (ne_of_none e n1)]; exact e
            have e2 : upd (upd H l1 (.lst ((r.map (subC c)).map V.bl))) l2 (.lst (fl.map V.bl ++ (r.map (subC c)).map V.bl)) z = some o := by rw [upd_ne (ne_of_none e1 n2)]; exact e1
            rw [zn] at e2
            cases e2
        · rw [zt, List.append_assoc]
    · cases h
end
end Ev

end
section
set_option maxRecDepth 100000
set_option maxHeartbeats 4000000
namespace Ev
open PySem PySem.Spec PyProof.Rows L2

def RfR (K : PySem.W.Frag) (mg : Str → Option Value) (cls : List Str) (rows : List (List Str)) : Addr × Obj → List V → Hp → VK → Prop := fun p vs H Q => ∃ c C, ExF K mg cls c C ∧ ExO C p ∧ vs = [.ref p.1] ∧
  ∀ H' r, (∀ b o, H b = some o → H' b = some o) → H r = none → H' r = some (.tup [.str "refused", .int (codeF (rows.flatten.map (subC c)))]) → Q (.ref r) H'
theorem rowEx_len {cls : List Str} {Γ : Gm} {i : Nat} : ∀ {ds : List Str} {es : List Expr}, rowEx cls Γ i ds es = true → ds.length = es.length
  | [], [], _ => rfl
  | d :: ds, e :: es, h => by
    simp only [rowEx, Bool.and_eq_true] at h
    simp [rowEx_len h.2]
  | [], _ :: _, h => by simp [rowEx] at h
  | _ :: _, [], h => by simp [rowEx] at h
theorem chkMore_len {cls : List Str} {Γ : Gm} : ∀ {rs : List (List Str)} {sts : List Stmt}, chkMore cls Γ rs sts = true → rs.flatten.length ≤ 100 * rs.length
  | [], sts, h => by simp
  | r :: rs, sts, h => by
    unfold chkMore at h
    split at h
    · rename_i e; cases e
    · rename_i r0 rs0 x _ y _ op es _ _ _ sts' e1
      obtain ⟨rfl, rfl⟩ := List.cons.inj e1
      simp only [Bool.and_eq_true, decide_eq_true_eq] at h
      obtain ⟨⟨⟨⟨⟨h1, h2⟩, rfl⟩, h4⟩, h5⟩, h6⟩ := h
      have := chkMore_len h6
      have := rowEx_len h4
      simp only [List.flatten_cons, List.length_append, List.length_cons]
      omega
    · cases h
theorem refP {B : Program} {w : World} {K : PySem.W.Frag} {mg : Str → Option Value} {g0 : Heap} {f q x y : Str} {st : Stmt} {fa : Addr} {fd : FuncData} {cls : List Str} {rows : List (List Str)} (F : Fun K f q st fa fd) (S : FnScope [x, y] [x] (defScope st))
    (h : chkRf cls ⟨[x, y], defScope st, none⟩ rows (defBody st) = true) (hm : mg "isinstance" = none) (hv : mg "ValueError" = none) : FnP B w K mg g0 1 fa fd [x] (RfR K mg cls rows) := by
  refine fnP_of F S (fun p vs H Q ⟨c, C, _, _, e, _⟩ => by rw [e]; rfl) fun cd A o s H vs Q p room hR => ?_
  obtain ⟨c, C, xf, ho, rfl, k⟩ := hR
  revert h
  generalize hX : mkHot B w K mg g0 [x, y] q (defScope st) fa cd A o s H p = X
  intro h
  have hu : X.A.units + 70 < cLine := by
    have := room.un
    rw [← hX]
    show (A.deeper (envOfC q (defScope st) s.heap.objs.size fa cd)).units + 70 < cLine
    omega
  have xf' : ExF X.K X.mg cls c C := by rw [← hX]; exact xf
  have hp : p ∈ X.pn := by rw [← hX]; exact List.mem_singleton.mpr rfl
  have sc : X.env.scope = defScope st := by rw [← hX]; rfl
  have nd : X.N = [x, y] := by rw [← hX]; rfl
  have hN : X.N.Nodup := by rw [nd]; exact S.nd
  have fn : ∀ z : Str, X.fn z = true := fun z => by rw [← hX]; rfl
  have hm' : X.mg "isinstance" = none := by rw [← hX]; exact hm
  have hv' : X.mg "ValueError" = none := by rw [← hX]; exact hv
  generalize defBody st = bd at h ⊢
  unfold chkRf at h
  split at h
  rotate_left
  · cases h
  rename_i r rs z _ es _ _ sts
  simp only [Bool.and_eq_true, decide_eq_true_eq] at h
  obtain ⟨⟨⟨⟨h1, h2⟩, h3⟩, h4⟩, h5⟩ := h
  obtain ⟨k1, k2, k3⟩ := sto_of (Γ := ⟨[x, y], defScope st, none⟩) sc nd (fun z _ => fn z) h1
  have more := pss_more (Γ := ⟨[x, y], defScope st, none⟩) hu xf' hp ho sc nd hN (fun z _ => fn z) hm' hv' h5
  refine ⟨_, pss_cons (ps_set hN k1 k2 (pe_lst (pa_isEx (Γ := ⟨[x, y], defScope st, none⟩) xf' hp ho sc nd hm' h2)) (swap_no' rfl) k3) more, ?_⟩
  have hl : rs.flatten.length ≤ 1000 → True := fun _ => trivial
  refine ⟨rfl, by have : sizeLine = 16777216 := sizeLine_eq; rw [List.length_map, List.length_map]; rw [← rowEx_len h2] at h3; omega, fun l nl => ?_⟩
  refine ⟨l, r.map (subC c), rfl, rfl, rfl, upd_same, ?_, fun H' z zk zn zt => ?_⟩
  · rw [List.length_map, List.length_map]
    have g1 := rowEx_len h2
    have g2 := chkMore_len h5
    omega
  · refine k H' z (fun b o e => zk b o ?_) ?_ ?_
    · rw [upd_ne (ne_of_none e nl)]
      exact e
    · cases e : H z with
      | none => rfl
      | some o =>
        have e1 : upd H l (.lst ((r.map (subC c)).map V.bl)) z = some o := by rw [upd_ne (ne_of_none e nl)]; exact e
        rw [zn] at e1
        cases e1
    · rw [zt, List.flatten_cons, List.map_append]
end Ev

end
section
set_option maxRecDepth 100000
set_option maxHeartbeats 4000000
namespace Ev
open PySem PySem.Spec PyProof.Rows L2
section
variable {X : Cx} {P : Pm} {w0 : Wd} {e src : E} {a b : Ev.S} {x : Expr} {st : Stmt} {sts : List Stmt} {pos : Pos} {i : Nat}
theorem q_for {k : Ik} {tg : T} {tt it : Expr} {body : List Stmt} (hp : PassesOwn (model X.prog X.w) X.A X.env X.xe) (hc : X.calm = true) (hK : X.K = P.K) (hi : PI X tt it (tItr X.K k (tAf P src))) (hg : PG X tt (gT X.K tg)) (hb : PSs X body (tS P w0 b)) (hs : noSet it = true) :
    PS X (.For tt it body [] pos) (tS P w0 (.loop k src tg b)) := by
  have h2 : ∀ x, foldedSetIterable it X.env x = pure x := fun x => by
    cases it <;> first | rfl | (simp [noSet] at hs; done)
  refine PS.imp (ps_for hp hc hi hg hb h2) ?_
  rintro D σ H ⟨w, ρ, S, rfl, ex, sm, en, h⟩
  simp only [evS] at h
  unfold tFor tItr
  show tAf P src σ w.H _
  refine tG_mk sm en (h.bind.mono (fun ds S1 h1 w1 vs e1 sm1 p1 => ?_) fun _ _ z => z.xp ex)
  obtain ⟨items, hit, h2⟩ := h1.liftB
  rw [hK]
  have pk : ∀ {ds : List Ev.D} {vs : List V}, RepL P.K w1 ds vs → RepPL P.K w1 ds vs := by
    intro ds
    induction ds with
    | nil => intro vs h; simp only [RepL] at h; exact h
    | cons d ds ih =>
      intro vs h
      simp only [RepL] at h
      obtain ⟨v, r, h1, h2, h3⟩ := h
      exact ⟨v, r, h1, .inl h2, ih h3⟩
  refine ⟨w1, ds, items, rfl, pk p1, hit, fun J ps hl jk hz => ?_⟩
  refine ⟨fun i m σ H => ∃ w2 S2 ρ2, H = w2.H ∧ m = items.length - i ∧ i ≤ items.length ∧ Ext w0 w2 ∧ Wk w1 w2 ∧ Sm (CAm P.mg) P.K w2 S2 ∧ EnvS P.K w2 P.H0 ρ2 σ ∧ Run (forL (put tg) (evS P.Φ b) (items.drop i) ρ2 S2) (EndS P w0 w D) (XS P w0),
    ⟨items.length, w1, S1, ρ, rfl, by simp, Nat.zero_le _, ex.trans e1, .refl w1, sm1, en.ext e1, by simpa using h2⟩, ?_⟩
  rintro i m σ2 H ⟨w2, S2, ρ2, rfl, rfl, hi, ex2, wk2, sm2, en2, r⟩
  have kp := kept_wk wk2 p1 hl
  by_cases hlt : i < items.length
  · refine .inr ⟨jk.go w2 wk2 kp i hlt, fun σ' H' => ∃ w2 S2 ρ2, H' = w2.H ∧ Ext w0 w2 ∧ Wk w1 w2 ∧ Sm (CAm P.mg) P.K w2 S2 ∧ EnvS P.K w2 P.H0 ρ2 σ' ∧ Run (forL (put tg) (evS P.Φ b) (items.drop (i + 1)) ρ2 S2) (EndS P w0 w D) (XS P w0), ?_, fun x H' hy => ?_⟩
    · rintro σ' H' ⟨w', S', ρ', q1, q2, q3, q4, q5, q6⟩
      exact ⟨items.length - (i + 1), by omega, w', S', ρ', q1, rfl, hlt, q2, q3, q4, q5, q6⟩
    · obtain ⟨w3, rfl, e3, rd⟩ := jk.yld w2 wk2 kp i _ (List.getElem?_eq_getElem hlt) x H' hy
      rw [List.drop_eq_getElem_cons hlt] at r
      simp only [forL] at r
      obtain ⟨ρ', hp, r2⟩ := r.liftB
      obtain ⟨σ', en', _, gk⟩ := g_put (en2.ext e3.ext) hp rd
      refine gk _ ?_
      refine tS_mk (D := { D with nx := _, ct := _, bk := _ }) (ex2.trans e3.ext) (sm2.ext e3) en' (r2.bind.mono (fun r S4 k => ?_) fun _ _ z => z)
      obtain ⟨f, ρ4⟩ := r
      cases f with
      | nx => exact fun w' σ' q1 q2 q3 q4 => ⟨w', S4, ρ4, rfl, q1, (wk2.trans e3.ext.wk).trans q2, q3, q4, k⟩
      | rt d => exact (show EndS P w0 w D (.rt d, ρ4) S4 from k)
  · have ei : i = items.length := by omega
    subst ei
    refine .inl ⟨jk.stop w2 wk2 kp, ?_⟩
    simp only [List.drop_length, forL] at r
    exact (show ∀ w' σ', Ext w0 w' → Wk w w' → Sm (CAm P.mg) P.K w' S2 → EnvS P.K w' P.H0 ρ2 σ' → D.nx σ' w'.H from r) w2 σ2 ex2 (e1.wk.trans wk2) sm2 en2
theorem q_whl {c : Expr} {body : List Stmt} (hp : PassesOwn (model X.prog X.w) X.A X.env X.xe) (hcc : PT X c (tT P e)) (hb : PSs X body (tS P w0 b)) : PS X (.While c body [] pos) (tS P w0 (.whl e b)) := by
  refine PS.imp (ps_while hp hcc hb) ?_
  rintro D σ H ⟨w, ρ, S, rfl, ex, sm, en, h⟩
  simp only [evS] at h
  refine ⟨fun m σ H => ∃ w2 S2 ρ2, H = w2.H ∧ Ext w0 w2 ∧ Wk w w2 ∧ Sm (CAm P.mg) P.K w2 S2 ∧ EnvS P.K w2 P.H0 ρ2 σ ∧ Run (whlL (evE P.Φ e) (evS P.Φ b) m ρ2 S2) (EndS P w0 w D) (XS P w0), ⟨1000, w, S, ρ, rfl, ex, .refl w, sm, en, h⟩, ?_⟩
  rintro m σ2 H ⟨w2, S2, ρ2, rfl, ex2, wk2, sm2, en2, r⟩
  cases m with
  | zero => exact (show False from r).elim
  | succ m =>
    simp only [whlL] at r
    rw [← M.assoc] at r
    show tT P e σ2 w2.H _
    refine tG_mk sm2 en2 (r.bind.mono (fun c S3 h1 w3 b1 e3 sm3 eb => ?_) fun _ _ z => z.xp ex2)
    subst eb
    cases c with
    | true =>
      rw [if_pos rfl] at h1 ⊢
      refine ⟨fun σ' H' => ∃ w2 S2 ρ2, H' = w2.H ∧ Ext w0 w2 ∧ Wk w w2 ∧ Sm (CAm P.mg) P.K w2 S2 ∧ EnvS P.K w2 P.H0 ρ2 σ' ∧ Run (whlL (evE P.Φ e) (evS P.Φ b) m ρ2 S2) (EndS P w0 w D) (XS P w0), fun σ' H' z => ⟨m, by omega, z⟩, ?_⟩
      refine tS_mk (D := { D with nx := _, ct := _, bk := _ }) (ex2.trans e3) sm3 (en2.ext e3) (h1.bind.mono (fun r S4 k => ?_) fun _ _ z => z)
      obtain ⟨f, ρ4⟩ := r
      cases f with
      | nx => exact fun w' σ' q1 q2 q3 q4 => ⟨w', S4, ρ4, rfl, q1, (wk2.trans e3.wk).trans q2, q3, q4, k⟩
      | rt d => exact (show EndS P w0 w D (.rt d, ρ4) S4 from k)
    | false =>
      rw [if_neg Bool.false_ne_true] at h1 ⊢
      exact (show ∀ w' σ', Ext w0 w' → Wk w w' → Sm (CAm P.mg) P.K w' S3 → EnvS P.K w' P.H0 ρ2 σ' → D.nx σ' w'.H from h1) w3 σ2 (ex2.trans e3) (wk2.trans e3.wk) sm3 (en2.ext e3)
theorem q_raise {C : Addr} {bmB : List Value} {B newId initId : String} {c m : Str} {j : Nat} {p p2 pos' : Pos} (hc : X.calm = true) (hmg : X.mg = P.mg) (tk : Takes X P.W) (F : ExcBaseFacts B newId initId bmB) (q : PySem.W.excIn X.K C bmB newId = true) (gC : X.mg c = some (.ref C)) (kC : PySem.W.keepIn X.K (.ref C) = true)
    (r1 : PySem.W.subIn X.K (.ref C) (.type "BaseException") = some true) (r2 : PySem.W.typeIn X.K (.ref C) = some (.type "type")) (hg : Gl X c) (hdb : plainName c = true) :
    PS X (.Raise (some (.Call (.Name c p) [.Constant (.str m) j p2] [] pos')) none pos) (tS P w0 (.raise c)) := by
  refine PS.imp (ps_raise hc tk (pmk_own F q gC kC (raises_own r1 r2) hg (ne_dbg hdb).1)) ?_
  rintro D σ H ⟨w, ρ, S, rfl, ex, sm, en, h⟩
  simp only [evS] at h
  exact (show XS P w0 c S from h) σ w ex sm C (by rw [← hmg]; exact gC)
end
/-! ### the check of statements -/
def asgOk (Γ : Gm) : Expr → Expr → Bool
  | .Name x p, .ListComp _ _ scope cp => (match Γ.sc.names.lookup x with
    | some .local => (p.line == cp.line) && !(scope.names.any fun (n, k) => n == x && (k == .local || k == .cell))
    | _ => true)
  | .Name _ _, ex => noComp ex
  | .Tuple _ _ _, ex => noComp ex && !isTupE ex
  | _, _ => false
structure TabS extends Tab where
  exs : List Str
  hot : List Str := []
  cls : List Str := []
  hcl : List Str := []
  rfs : List (Str × List (List Str)) := []
def chkHd (cls : List Str) (rfs : List (Str × List (List Str))) (Γ : Gm) (i : Nat) : Hd → Expr → Bool
  | .ref f rows, ex => match ex with | .Call (.Name g _) [.Name x _] [] _ => decide (g = f) && Γ.glb g && Γ.vis i x && decide ((f, rows) ∈ rfs) && rows.flatten.all cls.contains | _ => false
  | .isi d, ex => (decide (d = ("ValueError" : Str)) && isVe Γ i ex) || isEx cls Γ i d ex
  | .isT d s t, ex => match ex with | .IfExp te (.Constant (.str s') _ _) (.Constant (.str t') _ _) _ => isEx cls Γ i d te && decide (s' = s) && decide (t' = t) | _ => false
mutual
def chk1 (Tb : TabS) (Γ : Gm) : S → Stmt → Bool
  | .skip, st => match st with | .Pass _ => true | .Expr (.Constant (.str _) _ _) _ => true | _ => false
  | .asg t e, st => match st with | .Assign [tg] ex _ => chkT Γ t tg && chkE Tb.toTab Γ e ex && fzE e && asgOk Γ tg ex | _ => false
  | .own i e, st => match st with | .Assign [.Name x p] ex _ => Γ.sto i x && chkE Tb.toTab Γ e ex && frE e && asgOk Γ (.Name x p) ex | _ => false
  | .set i j e, st => match st with | .Assign [.Subscript (.Name x _) y _] ex _ => Γ.vis i x && chkE Tb.toTab Γ j y && chkE Tb.toTab Γ e ex && fzE e && noSlc y | _ => false
  | .app i e, st => match st with | .Expr (.Call (.Attribute (.Name x _) m p1) [y] [] p2) _ => Γ.vis i x && decide (m = ("append" : Str)) && chkE Tb.toTab Γ e y && fzE e && noStar y && (p1.endLine == p2.line) | _ => false
  | .ext i e, st => match st with | .Expr (.Call (.Attribute (.Name x _) m p1) [y] [] p2) _ => Γ.vis i x && decide (m = ("extend" : Str)) && chkE Tb.toTab Γ e y && noStar y && (p1.endLine == p2.line) | _ => false
  | .expr e, st => match st with | .Expr ex _ => chkE Tb.toTab Γ e ex && noComp ex | _ => false
  | .ret e, st => match st with | .Return (some ex) _ => chkE Tb.toTab Γ e ex && fzE e | .Return none _ => (match e with | .cst .non => true | _ => false) | _ => false
  | .ite c a b, st => match st with | .If t A B _ => tst c && chkE Tb.toTab Γ c t && chkB Tb Γ a A && chkB Tb Γ b B | _ => false
  | .loop k src tg b, st => match st with | .For tt it body [] _ => chkI (fun es => chkA Tb.toTab Γ src es) Tb.toTab Γ k tt it && chkT Γ tg tt && fzA src && noSet it && chkB Tb Γ b body | _ => false
  | .whl c b, st => match st with | .While t body [] _ => tst c && chkE Tb.toTab Γ c t && chkB Tb Γ b body | _ => false
  | .raise c, st => match st with | .Raise (some (.Call (.Name x _) [.Constant (.str _) _ _] [] _)) none _ => decide (x = c) && Γ.glb x && Tb.exs.contains c | _ => false
  | .tryR b c i es h, st => match st with
    | .Try body [.ExceptHandler (some (.Name x _)) (some n) [.Return (some ex) _] _] [] [] _ => decide (x = c) && Γ.glb x && Tb.hcl.contains c && !es.isEmpty && es.all Tb.hot.contains && decide (Γ.N[i]? = some n) && decide (Γ.sc.names.lookup n = some .local) && Tb.blt.contains "isinstance" && Tb.blt.contains "ValueError" && chkHd Tb.cls Tb.rfs Γ i h ex && chkB Tb Γ b body
    | _ => false
  | _, _ => false
def chkB (Tb : TabS) (Γ : Gm) : S → List Stmt → Bool
  | .skip, sts => sts.isEmpty
  | .seq a b, sts => match a with
    | .frz _ => chkB Tb Γ b sts
    | _ => match sts with
      | st :: r => chk1 Tb Γ a st && chkB Tb Γ b r
      | [] => false
  | _, _ => false
end
structure CokS (Tb : TabS) (n : Nat) (Γ : Gm) (X : Cx) (W : WX) : Prop extends Cok Tb.toTab n Γ X W where
  pas : PassesOwn (model X.prog X.w) X.A X.env X.xe
  exs : ∀ c ∈ Tb.exs, ∃ (C : Addr) (B newId initId : String) (bmB : List Value), X.mg c = some (.ref C) ∧ ExcBaseFacts B newId initId bmB ∧ PySem.W.excIn X.K C bmB newId = true ∧ PySem.W.keepIn X.K (.ref C) = true ∧
    PySem.W.subIn X.K (.ref C) (.type "BaseException") = some true ∧ PySem.W.typeIn X.K (.ref C) = some (.type "type")
  hot : ∀ c ∈ Tb.hot, ∃ C, ExF X.K X.mg Tb.cls c C ∧ ∀ d ∈ Tb.hcl, ∃ D, X.mg d = some (.ref D) ∧ PySem.W.exmOne X.K (.ref C) (.ref D) = some (subC c d)
  rfs : ∀ f rows, (f, rows) ∈ Tb.rfs → ∃ fa fd x, X.mg f = some (.ref fa) ∧ PySem.W.keepIn X.K (.ref fa) = true ∧ Binds X.K fd [x] [] ∧ FnP X.prog X.w X.K X.mg X.base 1 fa fd [x] (RfR X.K X.mg Tb.cls rows)
  stk : X.stack = X.env :: X.outer
  frm : X.env.frame = some X.env.locals
  top : Γ.st = none
  kind : X.env.scope.kind = .function
end Ev

end
section
set_option maxRecDepth 100000
set_option maxHeartbeats 4000000
namespace Ev
open PySem PySem.Spec PyProof.Rows L2
variable {Tb : TabS} {n : Nat} {Γ : Gm} {X : Cx} {W : WX}
theorem ExF.same {K : PySem.W.Frag} {mg : Str → Option Value} {cls : List Str} {c c' : Str} {C : Addr} (h : ExF K mg cls c C) (h' : ExF K mg cls c' C) {d : Str} (hd : d ∈ cls) : subC c d = subC c' d := by
  obtain ⟨D, g1, g2⟩ := h.kit d hd
  obtain ⟨D', g3, g4⟩ := h'.kit d hd
  rw [g1] at g3
  cases g3
  rw [g2] at g4
  exact Option.some.inj g4
theorem chkHd_same {K : PySem.W.Frag} {mg : Str → Option Value} {cls : List Str} {rfs : List (Str × List (List Str))} {i : Nat} {h : Hd} {ex : Expr} {c c' : Str} {C : Addr} (a : ExF K mg cls c C) (b : ExF K mg cls c' C) (k : chkHd cls rfs Γ i h ex = true) : hdD h c = hdD h c' := by
  cases h with
  | ref f rows =>
    simp only [chkHd] at k
    split at k
    · simp only [Bool.and_eq_true, List.all_eq_true] at k
      have e : rows.flatten.map (subC c) = rows.flatten.map (subC c') := List.map_congr_left fun d hd => a.same b (by simpa using k.2 d hd)
      simp only [hdD, refD, e]
      have e2 : ∀ c : Str, subC c "ValueError" = true := fun c => by simp [subC]
      simp only [e2]
    · cases k
  | isi d =>
    simp only [hdD, D.bl.injEq]
    simp only [chkHd] at k
    simp only [Bool.or_eq_true, Bool.and_eq_true, decide_eq_true_eq] at k
    rcases k with ⟨rfl, _⟩ | k
    · simp [subC]
    · unfold isEx at k
      split at k
      · simp only [Bool.and_eq_true] at k
        exact a.same b (by simpa using k.2)
      · cases k
  | isT d s t =>
    simp only [chkHd] at k
    split at k
    · simp only [Bool.and_eq_true] at k
      have k := k.1.1
      unfold isEx at k
      split at k
      · simp only [Bool.and_eq_true] at k
        simp only [hdD]
        rw [a.same b (by simpa using k.2)]
      · cases k
    · cases k
/-- the suite's reading -/
def tHd (K : PySem.W.Frag) (mg : Str → Option Value) (cls : List Str) (i : Nat) (h : Hd) (a : Addr) (v : Value) (d : Option Addr) : TS := fun D σ H => ∃ c C w, v = .ref C ∧ d = none ∧ ExF K mg cls c C ∧ σ[i]? = some (some (.ref a)) ∧ w.H = H ∧ ∀ w' u, ExtA w w' → Rep K w' (hdD h c) u → D.rt u w'.H
theorem pss_no {X : Cx} {sts : List Stmt} {t : TS} (h : ∀ D σ H, ¬ t D σ H) : PSs X sts t := ⟨fun _ _ σ H D _ z => (h D σ H z).elim⟩
theorem q_hd (ok : CokS Tb n Γ X W) {i : Nat} {h : Hd} {ex : Expr} {pos : Pos} (hb1 : ("isinstance" : Str) ∈ Tb.blt) (hb2 : ("ValueError" : Str) ∈ Tb.blt) (k : chkHd Tb.cls Tb.rfs Γ i h ex = true) (a : Addr) (oe : Obj) (v : Value) (d : Option Addr) (pn : List (Addr × Obj)) (hz : Zc v d oe) (hd : ∃ vs, oe.data = .fields vs) :
    PSs (X.suite a ((a, oe) :: pn)) [.Return (some ex) pos] (tHd X.K X.mg Tb.cls i h a v d) := by
  by_cases hx : ∃ c C, v = .ref C ∧ d = none ∧ ExF X.K X.mg Tb.cls c C
  rotate_left
  · exact pss_no fun D σ H ⟨c, C, w, e1, e2, e3, _⟩ => hx ⟨c, C, e1, e2, e3⟩
  obtain ⟨c0, C, rfl, rfl, xf⟩ := hx
  have sc : (X.suite a ((a, oe) :: pn)).env.scope = Γ.sc := ok.sc
  have nd : (X.suite a ((a, oe) :: pn)).N = Γ.N := ok.N
  have hm : (X.suite a ((a, oe) :: pn)).mg "isinstance" = none := ok.blt _ hb1
  have hv : (X.suite a ((a, oe) :: pn)).mg "ValueError" = none := ok.blt _ hb2
  have hp : (a, oe) ∈ (X.suite a ((a, oe) :: pn)).pn := List.mem_cons_self
  have ho : ExO C (a, oe) := ⟨hz, hd⟩
  have key : ∀ {t : TE}, PE (X.suite a ((a, oe) :: pn)) ex t → (∀ σ H Q, (∃ w, σ[i]? = some (some (.ref a)) ∧ w.H = H ∧ ∀ w' u, ExtA w w' → Rep X.K w' (hdD h c0) u → Q u w'.H) → t σ H Q) → PSs (X.suite a ((a, oe) :: pn)) [.Return (some ex) pos] (tHd X.K X.mg Tb.cls i h a (.ref C) none) := fun he q =>
    PSs.imp (pss_one (ps_ret he)) fun D σ H ⟨c, C', w, e1, _, xf', s1, e2, z⟩ => by
      cases e1
      exact q σ H D.rt ⟨w, s1, e2, fun w' u x r => z w' u x (by rw [chkHd_same xf' xf k]; exact r)⟩
  have k0 := k
  cases h with
  | ref f rows =>
    simp only [chkHd] at k
    split at k
    · rename_i g q1 x q2 q3
      simp only [Bool.and_eq_true, decide_eq_true_eq] at k
      obtain ⟨⟨⟨⟨rfl, h1⟩, h2⟩, h3⟩, h4⟩ := k
      obtain ⟨g1, g2⟩ := glb_of sc h1
      obtain ⟨k1, k2, k3⟩ := vis_of sc nd h2
      obtain ⟨fa, fd, x', f1, f2, f3, f4⟩ := ok.rfs _ _ h3
      have room : L2H.RoomH 1 (X.suite a ((a, oe) :: pn)).A := (L2H.roomH_of ok.room).mono (show 1 ≤ lv n by unfold lv; omega) |> fun r => ⟨r.dp, r.un⟩
      refine key (pe_callP (X := X.suite a ((a, oe) :: pn)) (p := (a, oe)) f4 room hp g1 f1 f2 f3 (pa_cons (pe_var k1 k2 (ne_dbg k3).1 (ne_dbg k3).2) pa_nil rfl) (ne_dbg g2).1 rfl rfl) ?_
      rintro σ H Q ⟨w, s1, rfl, z⟩
      refine ⟨_, s1, c0, C, xf, ho, rfl, fun H' r hk hn ht => ?_⟩
      refine z { w with H := H' } (.ref r) ⟨fun _ h => h, fun _ h => .inl h, rfl, hk, fun g p hp => ?_⟩ ?_
      · cases e : w.H p with
        | none => exact absurd e (g p hp)
        | some o =>
          show H' p ≠ none
          rw [hk p o e]
          simp
      · have e2 : subC c0 "ValueError" = true := by simp [subC]
        have e3 : hdD (.ref g rows) c0 = .tup [.str "refused", .int (codeF (rows.flatten.map (subC c0)))] := by
          simp only [hdD, refD, e2, Bool.true_eq_false, or_false]
          rfl
        rw [e3]
        simp only [Rep, RepL]
        exact ⟨r, _, rfl, .inl ht, _, _, rfl, rfl, _, _, rfl, rfl, rfl⟩
    · cases k
  | isi d =>
    simp only [chkHd] at k
    simp only [Bool.or_eq_true, Bool.and_eq_true, decide_eq_true_eq] at k
    rcases k with ⟨rfl, k⟩ | k
    · refine key (pe_isVe (p := (a, oe)) xf hp ho sc nd hm hv k) ?_
      rintro σ H Q ⟨w, s1, rfl, z⟩
      exact ⟨s1, z w _ (.refl w) (by simp [hdD, Rep, subC])⟩
    · refine key (pe_isEx (p := (a, oe)) xf hp ho sc nd hm k) ?_
      rintro σ H Q ⟨w, s1, rfl, z⟩
      exact ⟨s1, z w _ (.refl w) (by simp only [hdD, Rep])⟩
  | isT d s t =>
    simp only [chkHd] at k
    split at k
    · simp only [Bool.and_eq_true, decide_eq_true_eq] at k
      obtain ⟨⟨k1, rfl⟩, rfl⟩ := k
      rename_i te s' _ _ t' _ _ _
      have ist : ∀ whole, isTrue te (X.suite a ((a, oe) :: pn)).env whole = (do let v ← whole; standAt te.pos; holding [v] (truthy v)) := by
        intro whole
        unfold isEx at k1
        split at k1
        · rfl
        · cases k1
      refine key (pe_ifExp (pt_val (pe_isEx (p := (a, oe)) xf hp ho sc nd hm k1) ist) pe_str pe_str) ?_
      rintro σ H Q ⟨w, s1, rfl, z⟩
      refine ⟨s1, _, rfl, ?_⟩
      have z := fun u r => z w u (.refl w) r
      simp only [hdD, Rep] at z
      cases q : subC c0 d with
      | true => rw [q] at z; exact iteT (z _ rfl)
      | false => rw [q] at z; exact iteF (z _ rfl)
    · cases k
theorem q_try (ok : CokS Tb n Γ X W) {w0 : Wd} {b : S} {c m : Str} {i : Nat} {es : List Str} {h : Hd} {ex : Expr} {body : List Stmt} {np pos pos' pos2 : Pos} (hg : Γ.glb c = true) (hc : c ∈ Tb.hcl) (hne : es ≠ []) (he : ∀ d ∈ es, d ∈ Tb.hot) (hi : Γ.N[i]? = some m) (hl : Γ.sc.names.lookup m = some .local)
    (hb1 : ("isinstance" : Str) ∈ Tb.blt) (hb2 : ("ValueError" : Str) ∈ Tb.blt) (k : chkHd Tb.cls Tb.rfs Γ i h ex = true)
    (hb : ∀ (Y : Cx) (W : WX), CokS Tb n Γ Y W → Y.K = X.K → Y.mg = X.mg → PSs Y body (tS (pm Tb.toTab n X w0.H W) w0 b)) :
    PS X (.Try body [.ExceptHandler (some (.Name c np)) (some m) [.Return (some ex) pos2] pos'] [] [] pos) (tS (pm Tb.toTab n X w0.H W) w0 (.tryR b c i es h)) := by
  obtain ⟨g1, g2⟩ := glb_of ok.sc hg
  have hot : ∀ d ∈ es, ∃ C, ExF X.K X.mg Tb.cls d C ∧ ∃ D, X.mg c = some (.ref D) ∧ PySem.W.exmOne X.K (.ref C) (.ref D) = some (subC d c) := fun d hd => by
    obtain ⟨C, xf, z⟩ := ok.hot d (he d hd)
    obtain ⟨D, z1, z2⟩ := z c hc
    exact ⟨C, xf, D, z1, z2⟩
  obtain ⟨d0, hd0⟩ := List.exists_mem_of_ne_nil es hne
  obtain ⟨_, _, D, gD, _⟩ := hot d0 hd0
  have main := ps_try_as (X := X) (x := c) (n := m) (c := .ref D) (i := i) (np := np) (pos := pos) (pos' := pos') (body := body) (b₀ := .Return (some ex) pos2) (suite := []) (tb := fun W' => tS (pm Tb.toTab n X w0.H fun cls d σ H => σ.length = X.N.length → W' cls d σ H) w0 b)
    (ts := tHd X.K X.mg Tb.cls i h) (Wout := W) ok.stk ok.frm ok.nd (by rw [ok.N]; exact hi) (by show X.env.scope.names.lookup m = _; rw [ok.sc]; exact hl) ⟨g1, (ne_dbg g2).1, .inl gD⟩ ok.tk
    (fun W' pn xe tk pas => hb (X.tr pn xe) _ { ok with tk := ?tk, pas := pas } rfl rfl)
    (fun a oe v d pn hz hd => q_hd ok hb1 hb2 k a oe v d pn hz hd)
  case tk =>
    intro u s' hu
    obtain ⟨a, B, sI, pins, σ, H, cls, d, e, I, r⟩ := hu
    obtain ⟨nb, up, sky, na, os, ag, w⟩ := r
    exact tk u s' ⟨a, B, sI, pins, σ, H, cls, d, e, I, nb, up, sky, na, os, ag, w I.len⟩
  refine PS.imp main ?_
  rintro DD σ H ⟨w, ρ, S, rfl, ex1, sm, en, run⟩
  refine ⟨w, ρ, S, rfl, ex1, sm, en, ?_⟩
  simp only [evS] at run
  cases q : evS (phi Tb.toTab n) b ρ S with
  | er =>
    rw [q] at run
    exact run.elim
  | ok r S' =>
    rw [q] at run
    exact run
  | ex c' S' =>
    rw [q] at run
    simp only at run
    split at run
    rotate_left
    · exact run.elim
    rename_i hin
    obtain ⟨C, xf, D', gD', hex⟩ := hot c' (by simpa using hin)
    rw [gD] at gD'
    cases gD'
    intro σ2 w2 e2 sm2 C2 hC2 len
    have hC2 : X.mg c' = some (.ref C2) := hC2
    rw [xf.at_] at hC2
    cases hC2
    refine ⟨_, hex, fun hb3 a ha => ?_, fun hb3 => ?_⟩
    · rw [if_pos hb3] at run
      have k2 : ∀ w' v, Ext w0 w' → Sm (CAm X.mg) X.K w' S' → Rep X.K w' (hdD h c') v → DD.rt v w'.H := run
      refine ⟨c', C, w2, rfl, rfl, xf, ?_, rfl, fun w' u x r => k2 w' u (e2.trans x.ext) (sm2.ext x) r⟩
      rw [List.getElem?_set_self (by rw [len, ok.N]; exact (List.getElem?_eq_some_iff.mp hi).1)]
    · rw [if_neg (by rw [hb3]; exact Bool.false_ne_true)] at run
      exact (show XS (pm Tb.toTab n X w0.H W) w0 c' S' from run) σ2 w2 e2 sm2 C xf.at_
end Ev

end
section
set_option maxRecDepth 100000
set_option maxHeartbeats 4000000
namespace Ev
open PySem PySem.Spec PyProof.Rows L2
variable {Tb : TabS} {n : Nat}
theorem swap_no {ex : Expr} {tg : Option Expr} {l : Nat} {env : PySem.Env} (h : noComp ex = true) : swapsWith ex tg l env = pure false := by
  cases ex <;> first | rfl | (simp [noComp] at h; done)
theorem swap_sub {ex o i : Expr} {p : Pos} {l : Nat} {env : PySem.Env} : swapsWith ex (some (.Subscript o i p)) l env = pure false := by
  cases ex <;> rfl
/-- a target's store, whichever way the value comes -/
theorem ps_store {Γ : Gm} {X : Cx} {W : WX} {w0 : Wd} (ok : CokS Tb n Γ X W) {t : T} {e : E} {tg ex : Expr} {pos : Pos} (h1 : chkT Γ t tg = true) (h2 : chkE Tb.toTab Γ e ex = true) (h3 : asgOk Γ tg ex = true) :
    PS X (.Assign [tg] ex pos) (tAsg (tM (pm Tb.toTab n X w0.H W) (nat e) e) (gT X.K t)) := by
  have he := (sound (Tb := Tb.toTab) (n := n) e).1 Γ X W w0.H ex ok.toCok h2
  unfold asgOk at h3
  split at h3
  · rename_i x p el gs scope cp
    cases t with
    | tu is => simp [chkT] at h1
    | nm i =>
      simp only [chkT] at h1
      obtain ⟨k1, k2, k3⟩ := sto_of ok.sc ok.N ok.fn h1
      cases q : Γ.sc.names.lookup x with
      | none =>
        unfold Gm.sto at h1
        rw [q] at h1
        simp at h1
      | some kk =>
        rw [q] at h3
        have notl : kk ≠ .local → swapsWith (.ListComp el gs scope cp) (some (.Name x p)) pos.line X.env = pure false := fun hk => by
          have hkk : X.env.kindOf x = some kk := by
            show X.env.scope.names.lookup x = _
            rw [ok.sc]; exact q
          unfold swapsWith
          simp only [hkk]
          have : (some kk == some NameKind.local) = false := by
            cases kk <;> first | rfl | exact absurd rfl hk
          simp [this]
        by_cases hk : kk = .local
        · subst hk
          simp only [Bool.and_eq_true, Bool.not_eq_true'] at h3
          have yl : X.env.scope.names.lookup x = some .local := by rw [ok.sc]; exact q
          -- a comprehension on the target's line
          cases e with
          | comp k src tgt own cnd elt =>
            have hcc := h2
            simp only [chkE] at h2
            split at h2
            · rename_i el2 tt it ifs a scope2 cp2 heq
              cases heq
              simp only [Bool.and_eq_true, decide_eq_true_eq] at h2
              obtain ⟨⟨⟨⟨⟨⟨⟨⟨⟨⟨rfl, h1'⟩, h2'⟩, h3'⟩, h4'⟩, h5'⟩, h6'⟩, h7'⟩, h8'⟩, h9'⟩, h10'⟩ := h2
              have hv : ∀ i ∈ tgs tgt, i ∈ own.map (·.2) := fun i hi => by
                have := List.all_eq_true.mp h3' i hi
                simpa using this
              have ihs := (sound (Tb := Tb.toTab) (n := n) src).2
              have ihc := (sound (Tb := Tb.toTab) (n := n) cnd).2
              have ihe := (sound (Tb := Tb.toTab) (n := n) elt).1
              have hs2 : ∀ x, foldedSetIterable it X.env x = pure x := fun x => by
                cases it <;> first | rfl | (simp [noSet] at h4'; done)
              have main := ps_setLc (wi := tItr X.K k (tAp (pm Tb.toTab n X w0.H W) src)) (g := gT X.K tgt) (tt := tC (pm Tb.toTab n X w0.H W).still cnd) (te := tM (pm Tb.toTab n X w0.H W).still .fz elt) (i := i) (y := x) (py := p) (pos := cp) (spos := pos) ok.calm ok.nd k1 yl (sw_true ok.kind yl h3.1 h3.2) (pi_of ok.sc ok.blt (fun es h => (ihs _ _ _ w0.H _ ok.toCok h).1) (fun _ h => ((ihs _ _ _ w0.H _ ok.toCok h).2.2.2.2.2.2 _ rfl _).1) h5')
                (blkOk_by (by rw [ok.N, ok.sc]; exact h1'))
                (fun s H C cl fp => pg_t (X := X.blk s H _ (compEnvC _ cl C X.env) fp) ok.calm ok.nd (ok.blk s H _ cl C fp).sc ok.N (ok.blk s H _ cl C fp).fn h2')
                (fun s H C cl fp => (ihc _ _ _ w0.H _ (ok.blk s H _ cl C fp) h6').2.2.2.2.1 h8' h7') (fun s H C cl fp => pe_fz (ihe _ _ _ w0.H _ (ok.blk s H _ cl C fp) h9').1 h10') hs2
              exact PS.imp main fun D σ H z => lc_read (P := pm Tb.toTab n X w0.H W) rfl hv z
            · cases h2
          | _ => simp [chkE] at h2
        · exact ps_set ok.nd k1 k2 he.1 (notl hk) k3
  · rename_i x p hnc
    cases t with
    | tu is => simp [chkT] at h1
    | nm i =>
      simp only [chkT] at h1
      obtain ⟨k1, k2, k3⟩ := sto_of ok.sc ok.N ok.fn h1
      exact ps_set ok.nd k1 k2 he.1 (swap_no h3) k3
  · rename_i es kk p
    simp only [Bool.and_eq_true, Bool.not_eq_true'] at h3
    refine ps_asg he.1 (pg_t ok.calm ok.nd ok.sc ok.N ok.fn h1) (by unfold swapsWithSole; exact swap_no h3.1) ?_ rfl
    cases ex <;> first | rfl | (simp [isTupE] at h3; done)
  · cases h3
theorem tAsg_imp {X : Cx} {st : Stmt} {te te' : TE} {g : TG} (h : PS X st (tAsg te g)) (q : ∀ σ H Q, te' σ H Q → te σ H Q) : PS X st (tAsg te' g) := PS.imp h fun D σ H z => q σ H _ z
theorem nat_fz {P : Pm} {e : E} (h : fzE e = true) {σ : L2.St} {H : Hp} {Q : VK} (z : tM P .fz e σ H Q) : tM P (nat e) e σ H Q := by
  unfold fzE at h
  cases q : nat e with
  | pk => rw [q] at h; cases h
  | fz => exact z
  | fr => exact tM_fr (by decide) z
theorem soundS (s : Ev.S) : (∀ (Γ : Gm) (X : Cx) (W : WX) (w0 : Wd) (st : Stmt), CokS Tb n Γ X W → chk1 Tb Γ s st = true → PS X st (tS (pm Tb.toTab n X w0.H W) w0 s)) ∧
    (∀ (Γ : Gm) (X : Cx) (W : WX) (w0 : Wd) (sts : List Stmt), CokS Tb n Γ X W → chkB Tb Γ s sts = true → PSs X sts (tS (pm Tb.toTab n X w0.H W) w0 s)) := by
  have none1 : ∀ {s : Ev.S}, (∀ Γ sts, chkB Tb Γ s sts = false) → ∀ (Γ : Gm) (X : Cx) (W : WX) (w0 : Wd) (sts : List Stmt), CokS Tb n Γ X W → chkB Tb Γ s sts = true → PSs X sts (tS (pm Tb.toTab n X w0.H W) w0 s) := fun h Γ X W w0 sts ok q => by rw [h] at q; cases q
  induction s with
  | skip =>
    refine ⟨fun Γ X W w0 st ok h => ?_, fun Γ X W w0 sts ok h => ?_⟩
    · simp only [chk1] at h
      split at h
      · exact q_skip1 ps_pass
      · exact q_skip1 ps_doc
      · cases h
    · simp only [chkB, List.isEmpty_iff] at h
      subst h
      exact q_skip
  | seq a b iha ihb =>
    refine ⟨fun Γ X W w0 st ok h => by simp [chk1] at h, fun Γ X W w0 sts ok h => ?_⟩
    simp only [chkB] at h
    split at h
    · exact q_frz (ihb.2 Γ X W w0 sts ok h) rfl
    · split at h
      · simp only [Bool.and_eq_true] at h
        exact q_seq (iha.1 Γ X W w0 _ ok h.1) (ihb.2 Γ X W w0 _ ok h.2)
      · cases h
  | asg t e =>
    refine ⟨fun Γ X W w0 st ok h => ?_, none1 fun Γ sts => by simp only [chkB]⟩
    simp only [chk1] at h
    split at h
    · simp only [Bool.and_eq_true] at h
      obtain ⟨⟨⟨h1, h2⟩, h3⟩, h4⟩ := h
      exact q_asg (tAsg_imp (ps_store ok h1 h2 h4) fun σ H Q z => nat_fz h3 z)
    · cases h
  | own i e =>
    refine ⟨fun Γ X W w0 st ok h => ?_, none1 fun Γ sts => by simp only [chkB]⟩
    simp only [chk1] at h
    split at h
    · simp only [Bool.and_eq_true] at h
      obtain ⟨⟨⟨h1, h2⟩, h3⟩, h4⟩ := h
      have hn : nat e = .fr := by
        unfold frE at h3
        split at h3
        · assumption
        · cases h3
      refine q_own (P := pm Tb.toTab n X w0.H W) rfl ?_
      rw [← hn]
      exact ps_store ok (t := .nm i) (by simp only [chkT]; exact h1) h2 h4 (w0 := w0)
    · cases h
  | frz i => exact ⟨fun Γ X W w0 st ok h => by simp [chk1] at h, none1 fun Γ sts => by simp only [chkB]⟩
  | set i j e =>
    refine ⟨fun Γ X W w0 st ok h => ?_, none1 fun Γ sts => by simp only [chkB]⟩
    simp only [chk1] at h
    split at h
    · rename_i x px y psub ex pos
      simp only [Bool.and_eq_true] at h
      obtain ⟨⟨⟨⟨h1, h2⟩, h3⟩, h4⟩, h6⟩ := h
      obtain ⟨k1, k2, k3⟩ := vis_of ok.sc ok.N h1
      refine q_set (xe := .Name x px) (pos' := psub) (P := pm Tb.toTab n X w0.H W) rfl (pe_var k1 k2 (ne_dbg k3).1 (ne_dbg k3).2) (pe_pk ((sound (Tb := Tb.toTab) (n := n) j).1 Γ X W w0.H _ ok.toCok h2).1) (fun g pg => ?_) ?_
      · exact ps_asg (pe_fz ((sound (Tb := Tb.toTab) (n := n) e).1 Γ X W w0.H _ ok.toCok h3).1 h4) pg (by unfold swapsWithSole; exact swap_sub) rfl rfl
      · intro v
        cases y <;> first | rfl | (simp [noSlc] at h6; done)
    · cases h
  | app i e =>
    refine ⟨fun Γ X W w0 st ok h => ?_, none1 fun Γ sts => by simp only [chkB]⟩
    simp only [chk1] at h
    split at h
    · simp only [Bool.and_eq_true, decide_eq_true_eq] at h
      obtain ⟨⟨⟨⟨⟨h1, rfl⟩, h3⟩, h4⟩, h5⟩, h6⟩ := h
      obtain ⟨k1, k2, k3⟩ := vis_of ok.sc ok.N h1
      exact q_app (P := pm Tb.toTab n X w0.H W) rfl rfl (pe_var k1 k2 (ne_dbg k3).1 (ne_dbg k3).2) (pe_fz ((sound (Tb := Tb.toTab) (n := n) e).1 Γ X W w0.H _ ok.toCok h3).1 h4) h5 rfl h6
    · cases h
  | ext i e =>
    refine ⟨fun Γ X W w0 st ok h => ?_, none1 fun Γ sts => by simp only [chkB]⟩
    simp only [chk1] at h
    split at h
    · simp only [Bool.and_eq_true, decide_eq_true_eq] at h
      obtain ⟨⟨⟨⟨h1, rfl⟩, h3⟩, h5⟩, h6⟩ := h
      obtain ⟨k1, k2, k3⟩ := vis_of ok.sc ok.N h1
      exact q_ext (P := pm Tb.toTab n X w0.H W) rfl rfl (pe_var k1 k2 (ne_dbg k3).1 (ne_dbg k3).2) (pe_pk ((sound (Tb := Tb.toTab) (n := n) e).1 Γ X W w0.H _ ok.toCok h3).1) h5 rfl h6
    · cases h
  | expr e =>
    refine ⟨fun Γ X W w0 st ok h => ?_, none1 fun Γ sts => by simp only [chkB]⟩
    simp only [chk1] at h
    split at h
    · simp only [Bool.and_eq_true] at h
      exact q_expr ((sound (Tb := Tb.toTab) (n := n) e).1 Γ X W w0.H _ ok.toCok h.1).1 (swap_no h.2)
    · cases h
  | ret e =>
    refine ⟨fun Γ X W w0 st ok h => ?_, none1 fun Γ sts => by simp only [chkB]⟩
    simp only [chk1] at h
    split at h
    · simp only [Bool.and_eq_true] at h
      exact q_ret (pe_fz ((sound (Tb := Tb.toTab) (n := n) e).1 Γ X W w0.H _ ok.toCok h.1).1 h.2)
    · split at h
      · exact q_retN
      · cases h
    · cases h
  | ite c a b iha ihb =>
    refine ⟨fun Γ X W w0 st ok h => ?_, none1 fun Γ sts => by simp only [chkB]⟩
    simp only [chk1] at h
    split at h
    · simp only [Bool.and_eq_true] at h
      obtain ⟨⟨⟨h1, h2⟩, h3⟩, h4⟩ := h
      exact q_ite (((sound (Tb := Tb.toTab) (n := n) c).1 Γ X W w0.H _ ok.toCok h2).2 h1) (iha.2 Γ X W w0 _ ok h3) (ihb.2 Γ X W w0 _ ok h4)
    · cases h
  | loop k src tg b ihb =>
    refine ⟨fun Γ X W w0 st ok h => ?_, none1 fun Γ sts => by simp only [chkB]⟩
    simp only [chk1] at h
    split at h
    · simp only [Bool.and_eq_true] at h
      obtain ⟨⟨⟨⟨h1, h2⟩, h3⟩, h4⟩, h5⟩ := h
      have ihs := (sound (Tb := Tb.toTab) (n := n) src).2
      exact q_for (P := pm Tb.toTab n X w0.H W) ok.pas ok.calm rfl (pi_of ok.sc ok.blt (fun es h => (ihs _ _ _ w0.H _ ok.toCok h).2.1 h3) (fun _ h => ((ihs _ _ _ w0.H _ ok.toCok h).2.2.2.2.2.2 _ rfl _).2 h3) h1)
        (pg_t ok.calm ok.nd ok.sc ok.N ok.fn h2) (ihb.2 Γ X W w0 _ ok h5) h4
    · cases h
  | whl c b ihb =>
    refine ⟨fun Γ X W w0 st ok h => ?_, none1 fun Γ sts => by simp only [chkB]⟩
    simp only [chk1] at h
    split at h
    · simp only [Bool.and_eq_true] at h
      obtain ⟨⟨h1, h2⟩, h3⟩ := h
      exact q_whl ok.pas (((sound (Tb := Tb.toTab) (n := n) c).1 Γ X W w0.H _ ok.toCok h2).2 h1) (ihb.2 Γ X W w0 _ ok h3)
    · cases h
  | raise c =>
    refine ⟨fun Γ X W w0 st ok h => ?_, none1 fun Γ sts => by simp only [chkB]⟩
    simp only [chk1] at h
    split at h
    · simp only [Bool.and_eq_true, decide_eq_true_eq] at h
      obtain ⟨⟨rfl, h1⟩, h2⟩ := h
      obtain ⟨C, B, nI, iI, bm, g1, g2, g3, g4, g5, g6⟩ := ok.exs _ (by simpa using h2)
      obtain ⟨k1, k2⟩ := glb_of ok.sc h1
      exact q_raise (P := pm Tb.toTab n X w0.H W) ok.calm rfl ok.tk g2 g3 g1 g4 g5 g6 k1 k2
    · cases h
  | tryR b c i es hd ihb =>
    refine ⟨fun Γ X W w0 st ok h => ?_, none1 fun Γ sts => by simp only [chkB]⟩
    simp only [chk1] at h
    split at h
    · simp only [Bool.and_eq_true, decide_eq_true_eq, List.all_eq_true, List.contains_iff_mem, Bool.not_eq_true', List.isEmpty_eq_false_iff] at h
      obtain ⟨⟨⟨⟨⟨⟨⟨⟨⟨⟨rfl, h1⟩, h2⟩, h3⟩, h4⟩, h5⟩, h6⟩, h7⟩, h8⟩, h9⟩, h10⟩ := h
      exact q_try ok h1 h2 h3 h4 h5 h6 h7 h8 h9 fun Y W' okY eK eM => by
        have := ihb.2 Γ Y W' w0 _ okY h10
        have e : pm Tb.toTab n Y w0.H W' = pm Tb.toTab n X w0.H W' := by unfold pm; rw [eK, eM]
        rw [← e]
        exact this
    · cases h
end Ev

end
section
set_option maxRecDepth 100000
set_option maxHeartbeats 4000000
namespace Ev
open PySem PySem.Spec PyProof.Rows L2

theorem env_start {K : PySem.W.Frag} {w : Wd} {H0 : Hp} {N : List Str} {ds : List D} {vs : List V} (r : RepL K w ds vs) : EnvS K w H0 (startE N ds) (L2.start N vs) := by
  have hl := r.length
  have no : ∀ {i : Nat} {l : List D}, (startE N ds)[i]? ≠ some (.own l) := fun {i l} h => by
    have := List.mem_of_getElem? h
    unfold startE at this
    rcases List.mem_append.mp this with z | z
    · obtain ⟨_, _, z⟩ := List.mem_map.mp z; cases z
    · have := (List.mem_replicate.mp z).2; cases this
  refine ⟨by unfold startE L2.start; simp [hl], fun i s v h1 h2 => ?_, fun i j l m q h1 => absurd h1 no⟩
  unfold startE at h1
  unfold L2.start at h2
  by_cases hi : i < ds.length
  · rw [List.getElem?_append_left (by simpa using hi), List.getElem?_map, List.getElem?_eq_getElem hi] at h1
    rw [List.getElem?_append_left (by simpa using (by omega)), List.getElem?_map] at h2
    obtain ⟨x, g1, g2⟩ := r.get (List.getElem?_eq_getElem hi)
    rw [g1] at h2
    cases h1
    cases h2
    exact ⟨x, rfl, g2⟩
  · rw [List.getElem?_append_right (by simpa using (by omega))] at h1
    have := List.mem_of_getElem? h1
    rw [(List.mem_replicate.mp this).2]
    trivial
structure FnTxt (K : PySem.W.Frag) (mg : Str → Option Value) (Tb : TabS) (f : Str) (F : Fn) : Prop where
  ex : ∃ (fa : Addr) (fd : FuncData) (st : Stmt), mg f = some (.ref fa) ∧ Fun K f f st fa fd ∧ (∀ us : List Value, us.length = F.ps.length → bindArgs fd ⟨us, []⟩ = pure (F.ps.zip us)) ∧ FnScope F.N F.ps (defScope st) ∧ chkB Tb ⟨F.N, defScope st, none⟩ F.body (defBody st) = true
structure Facts (K : PySem.W.Frag) (mg : Str → Option Value) (Tb : TabS) : Prop where
  fns : ∀ f F, Tb.fns.lookup f = some F → FnTxt K mg Tb f F
  cst : ∀ x c, (x, c) ∈ Tb.cst → ∃ u v, mg x = some u ∧ RelV v u ∧ ∀ w, Rep K w c.d v
  blt : ∀ x ∈ Tb.blt, mg x = none
  exs : ∀ c ∈ Tb.exs, ∃ (C : Addr) (B newId initId : String) (bmB : List Value), mg c = some (.ref C) ∧ ExcBaseFacts B newId initId bmB ∧ PySem.W.excIn K C bmB newId = true ∧ PySem.W.keepIn K (.ref C) = true ∧
    PySem.W.subIn K (.ref C) (.type "BaseException") = some true ∧ PySem.W.typeIn K (.ref C) = some (.type "type")
  hot : ∀ c ∈ Tb.hot, ∃ C, ExF K mg Tb.cls c C ∧ ∀ d ∈ Tb.hcl, ∃ D, mg d = some (.ref D) ∧ PySem.W.exmOne K (.ref C) (.ref D) = some (subC c d)
  rfs : ∀ f rows, (f, rows) ∈ Tb.rfs → ∃ (fa : Addr) (fd : FuncData) (st : Stmt) (x y : Str), mg f = some (.ref fa) ∧ Fun K f f st fa fd ∧ (∀ us : List Value, us.length = 1 → bindArgs fd ⟨us, []⟩ = pure ([x].zip us)) ∧ FnScope [x, y] [x] (defScope st) ∧
    chkRf Tb.cls ⟨[x, y], defScope st, none⟩ rows (defBody st) = true ∧ ("isinstance" : Str) ∈ Tb.blt ∧ ("ValueError" : Str) ∈ Tb.blt
theorem phi_succ {Tb : Tab} {n : Nat} {f : Str} {F : Fn} (h : Tb.fns.lookup f = some F) (ds : List D) : phi Tb (n + 1) f ds = runFn (phi Tb n) F ds := by
  show call _ (n + 1) f ds = _
  unfold call
  rw [h]
  rfl
theorem fns_ok {P : Program} {w : World} {K : PySem.W.Frag} {mg : Str → Option Value} {base : Heap} {Tb : TabS} (T : Facts K mg Tb) : ∀ (n : Nat) (f : Str) (F : Fn), Tb.fns.lookup f = some F →
    ∃ fa fd, mg f = some (.ref fa) ∧ PySem.W.keepIn K (.ref fa) = true ∧ (∀ us : List Value, us.length = F.ps.length → bindArgs fd ⟨us, []⟩ = pure (F.ps.zip us)) ∧ (∃ oc od osl, K.lookup fa = some ⟨oc, od, .func fd, osl⟩) ∧ FnOk P w K mg base (L2.CX P w) (lv n) fa fd F.ps (spF K mg (phi Tb.toTab n) f F.ps.length)
  | 0, f, F, hF => by
    obtain ⟨fa, fd, st, h1, h2, h3, h4, h5⟩ := (T.fns f F hF).ex
    have lk : ∃ oc od osl, K.lookup fa = some ⟨oc, od, .func fd, osl⟩ := let ⟨oc, od, _, _, _, _, _, _, osl, _, l, _⟩ := h2.ex; ⟨oc, od, osl, l⟩
    refine ⟨fa, fd, h1, h2.kp, h3, lk, fun vs H Q E ⟨w, ds, S, _, _, r, hl, _⟩ => by rw [← r.length]; exact hl, fun A outer s H args us vs Q E _ _ _ _ h => ?_⟩
    obtain ⟨w, ds, S, _, _, r, hl, run⟩ := h
    exact (show False from run).elim
  | n + 1, f, F, hF => by
    have ih := fns_ok (P := P) (w := w) (base := base) T n
    obtain ⟨fa, fd, st, h1, h2, h3, h4, h5⟩ := (T.fns f F hF).ex
    have lk : ∃ oc od osl, K.lookup fa = some ⟨oc, od, .func fd, osl⟩ := let ⟨oc, od, _, _, _, _, _, _, osl, _, l, _⟩ := h2.ex; ⟨oc, od, osl, l⟩
    refine ⟨fa, fd, h1, h2.kp, h3, lk, h2.okX (k := 2 * n + 2) h4 (fun vs H Q E ⟨w, ds, S, _, _, r, hl, _⟩ => by rw [← r.length]; exact hl) fun cdv A outer s H vs Q E hr h => ?_⟩
    obtain ⟨w0, ds, S, rfl, sm, r, hl, run⟩ := h
    refine ⟨_, (soundS (Tb := Tb) (n := n) F.body).2 ⟨F.N, defScope st, none⟩ (cxOf (L2.CX P w) P w K mg base F.N f (defScope st) fa cdv A outer s w0.H E) (fun cls d _ H => E cls d H) w0 _
      { N := rfl, nd := h4.nd, sc := rfl, fn := fun _ _ => rfl, calm := rfl, room := hr.mono (by unfold lv; omega), cst := T.cst, blt := T.blt, fns := fun g G hG => ?_, tk := takes_of rfl rfl rfl rfl, pas := passes_of rfl, exs := T.exs, hot := T.hot, rfs := fun f rows hf => (by
        obtain ⟨fa, fd, st, x, y, e1, e2, e3, e4, e5, e6, e7⟩ := T.rfs f rows hf
        exact ⟨fa, fd, x, e1, e2.kp, .all e3, refP e2 e4 e5 (T.blt _ e6) (T.blt _ e7)⟩), stk := rfl, frm := rfl, top := rfl, kind := h4.kind } h5, ?_⟩
    · obtain ⟨ga, gd, k1, k2, k3, _, k4⟩ := ih g G hG
      exact ⟨ga, gd, k1, k2, .all k3, k4⟩
    · rw [phi_succ hF] at run
      unfold runFn at run
      rw [if_pos hl] at run
      refine ⟨w0, startE F.N ds, S, rfl, .refl w0, sm, env_start r, run.bind.mono (fun r S' k => ?_) fun c S' k => ?_⟩
      · obtain ⟨fl, ρ⟩ := r
        have k : ∀ w' v, Ext w0 w' → Sm (CAm mg) K w' S' → Rep K w' (match fl with | .rt d => d | .nx => .non) v → Q v w'.H := k
        cases fl with
        | nx => exact fun w' σ' e1 _ sm' _ => k w' .non e1 sm' (by simp only [Rep])
        | rt d => exact fun w' v e1 sm' rp => k w' v e1 sm' rp
      · exact fun σ w' e1 sm' C hC => k w' e1 sm' C hC
/-- the law's end -/
theorem law_walk {l : PySem.W.OpenLaw} {q : Program} {loose : List Str} {XP : (Str → Option Value) → Heap → Prop} {YP : World → Heap → Prop} {d : DefRec} {K : Params → PySem.W.Frag} {Tb : TabS} {m n : Nat} {F : Fn} {x : Str}
    (hn : l.most = some m) (hm : m ≤ sizeLine) (hdf : d.params.defaults = []) (hr : Room (lv n) callerA) (hY : ∀ (w : World) (h : Heap), YP w h → (K w.params).In h) (hF : Tb.fns.lookup d.name = some F) (hx : F.ps = [x])
    (T : ∀ (w : World) (mg : Str → Option Value) (h : Heap), (K w.params).In h → h.Ns mainGlobals mg → Facts (K w.params) mg Tb)
    (law : ∀ ns : List Int, ns.length ≤ m → phi Tb.toTab n d.name [.scr ns] [] = .ok (.bl true) []) :
    PySem.W.WalkO q loose XP YP l.row.toRowW d [] (fun f vs => PySem.call f vs) := by
  refine L2.walk_of (n := m) (k := lv n) (x := x) (CX := fun w => L2.CX l.prog w) (sp := fun w vs H Q E => ∃ (a : Addr) (ns : List Int), vs = [V.ref a] ∧ ns.length ≤ m ∧ ScrAt (K w.params) H a (ns.map V.int) ∧ ∀ H', Q (.bl true) H') hn hm hdf hr hY ?_ ?_ ?_
  · intro w mg fa h KX G hmg
    obtain ⟨fa', fd, st, k1, k2, k3, k4, k5⟩ := ((T w mg h KX G).fns _ _ hF).ex
    rw [hmg] at k1
    cases k1
    refine ⟨fd, fun s u => .of_eq ?_, fun base kb gb => ?_⟩
    · have := k3 [u] (by rw [hx]; rfl)
      rw [hx] at this
      exact this
    · obtain ⟨fa', fd', e1, _, _, ⟨oc, od, osl, lk⟩, G⟩ := fns_ok (P := l.prog) (w := w) (base := base) (T w mg h KX G) n _ _ hF
      rw [hmg] at e1
      cases e1
      have e2 : fd' = fd := by
        obtain ⟨oc', od', _, _, _, _, _, _, osl', _, lk', _⟩ := k2.ex
        rw [lk] at lk'
        cases lk'
        rfl
      subst e2
      rw [hx] at G
      refine G.imp fun vs H Q E ⟨a, ns, e, hl, hs, k⟩ => ?_
      subst e
      refine ⟨⟨fun _ => False, [], H⟩, [.scr ns], [], rfl, ⟨fun _ z => z.elim, rfl, List.nodup_nil, fun n o p z => by simp at z⟩, ?_, rfl, ?_⟩
      · simp only [RepL, Rep]
        exact ⟨_, _, rfl, ⟨a, rfl, hs⟩, rfl⟩
      · rw [law ns hl]
        intro w' v _ _ r
        simp only [Rep] at r
        subst r
        exact k _
  · intro w H a ns hl ho hs
    refine ⟨a, ns, rfl, hl, ?_, fun _ => rfl⟩
    rcases hs with (h | h) | h
    · rcases ho a with z | ⟨o, xs, z⟩ <;> rw [z] at h <;> cases h
    · exact .inl h
    · exact .inr h
  · intro w H s e s' h
    obtain ⟨_, _, _, _, _, _, _, _, _, _, _, _, z⟩ := h
    exact z
end Ev

end
section
set_option maxRecDepth 100000
set_option maxHeartbeats 4000000
namespace Ev
open PySem PySem.Spec PyProof.Rows L2
theorem all_fns {R : Str → Fn → Prop} : ∀ {l : List (Str × Fn)}, (∀ p ∈ l, R p.1 p.2) → ∀ f F, l.lookup f = some F → R f F
  | [], _, f, F, h => by simp at h
  | (g, G) :: r, hl, f, F, h => by
    rw [List.lookup_cons] at h
    cases q : f == g with
    | true =>
      rw [q] at h
      cases h
      have : f = g := by simpa using q
      subst this
      exact hl _ List.mem_cons_self
    | false =>
      rw [q] at h
      exact all_fns (fun p hp => hl p (List.mem_cons_of_mem _ hp)) f F h
theorem all_cst {R : Str → Cn → Prop} {l : List (Str × Cn)} (h : ∀ p ∈ l, R p.1 p.2) (x : Str) (c : Cn) (hx : (x, c) ∈ l) : R x c := h _ hx
theorem all_rfs {R : Str → List (List Str) → Prop} {l : List (Str × List (List Str))} (h : ∀ p ∈ l, R p.1 p.2) (x : Str) (c : List (List Str)) (hx : (x, c) ∈ l) : R x c := h _ hx
/-- a written tuple of texts -/
def strsV : List Value → List Str → Bool
  | [], [] => true
  | .str x _ :: vs, y :: ys => decide (x = y) && strsV vs ys
  | _, _ => false
def strsObj (o : Obj) (l : List Str) : Bool := (match o.cls with | .type t => t == "tuple" | _ => false) && (match o.data with | .seq its _ => strsV its.toList l && decide (its.size ≤ 1000) | _ => false)
theorem strsV_vals : ∀ {vs : List Value} {l : List Str}, strsV vs l = true → Vals (l.map V.str) vs
  | [], [], _ => .nil
  | v :: vs, y :: ys, h => by
    cases v with
    | str x t =>
      simp only [strsV, Bool.and_eq_true, decide_eq_true_eq] at h
      obtain ⟨rfl, h⟩ := h
      exact .cons ⟨_, rfl⟩ (strsV_vals h)
    | _ => simp [strsV] at h
  | [], _ :: _, h => by simp [strsV] at h
  | v :: _, [], h => by cases v <;> simp [strsV] at h
theorem reps_str {K : PySem.W.Frag} {w : Wd} : ∀ l : List Str, RepL K w (l.map D.str) (l.map V.str)
  | [] => by simp [RepL]
  | a :: l => by
    simp only [List.map_cons, RepL, Rep]
    exact ⟨_, _, rfl, rfl, reps_str l⟩
theorem strs_rep {K : PySem.W.Frag} {w : Wd} {a : Addr} {o : Obj} {l : List Str} (h : K.lookup a = some o) (q : strsObj o l = true) (ne : l ≠ []) : Rep K w (Cn.strs l).d (.ref a) := by
  unfold strsObj at q
  simp only [Bool.and_eq_true] at q
  obtain ⟨q1, q2⟩ := q
  split at q1
  · rename_i t ht
    have ht2 : t = "tuple" := by simpa using q1
    subst ht2
    split at q2
    · rename_i its n hd
      simp only [Bool.and_eq_true, decide_eq_true_eq] at q2
      simp only [Cn.d, Rep]
      exact ⟨a, l.map V.str, rfl, .inr ⟨.inr ⟨o, its, n, h, ht, hd, Nat.le_of_lt (small1000 q2.2), strsV_vals q2.1⟩, by simpa using ne, fun v hv => by obtain ⟨s, _, rfl⟩ := List.mem_map.mp hv; exact ⟨s, rfl⟩⟩, reps_str l⟩
    · cases q2
  · cases q1
/-- classes asked of an exception -/
theorem kit_ref {K : PySem.W.Frag} {C D : Addr} {b : Bool} (hd : PySem.W.hasDictIn K D = true) (ht : PySem.W.typeIn K (.ref D) = some (.type "type")) (hs : PySem.W.subIn K (.ref C) (.ref C) = some true) (h : PySem.W.subIn K (.ref C) (.ref D) = some b) : PySem.W.kitOne K (.ref C) (.ref D) = some b := by
  unfold PySem.W.kitOne
  by_cases e : (Value.ref C == Value.ref D) = true
  · rw [if_pos e]
    have : C = D := Value.ref.inj (beq_iff_eq.mp e)
    subst this
    rw [hs] at h
    exact h
  · rw [if_neg e]
    obtain ⟨cd, hc, _⟩ := PySem.W.any_some hd
    unfold PySem.W.kitCls
    have e2 : ((PySem.W.clsIn K D).isSome && PySem.W.typeIn K (.ref D) == some (.type "type")) = true := by rw [hc, ht] <;> rfl
    simp only [e2, if_true]
    exact h
theorem kit_ve {K : PySem.W.Frag} {C : Addr} (h : PySem.W.subIn K (.ref C) (.type "ValueError") = some true) : PySem.W.kitOne K (.ref C) (.type "ValueError") = some true := by
  unfold PySem.W.kitOne PySem.W.kitCls
  rw [if_neg (by intro z; cases beq_iff_eq.mp z)]
  simp only
  rw [if_pos (by decide +kernel)]
  exact h
end Ev

end
section
set_option maxRecDepth 100000
set_option maxHeartbeats 4000000
namespace Ev
open PySem

/-! ### runs without exceptions: equations -/
theorem M.pure_bind {α β : Type} (a : α) (f : α → M β) : (M.pure a).bind f = f a := (rfl)
theorem M.lift_some {α : Type} (a : α) : M.lift (some a) = M.pure a := (rfl)
theorem M.calm_pure {α : Type} (a : α) : M.calm (M.pure a) = M.pure a := (rfl)
theorem M.bind_assoc {α β γ : Type} (m : M α) (f : α → M β) (g : β → M γ) : (m.bind f).bind g = m.bind fun a => (f a).bind g := by
  funext S
  unfold M.bind
  cases m S <;> rfl
theorem M.pure_app {α : Type} (a : α) (S : Sto) : M.pure a S = .ok a S := (rfl)
theorem M.ite_bind {α β : Type} (c : Prop) [Decidable c] (a b : M α) (f : α → M β) : (if c then a else b).bind f = if c then a.bind f else b.bind f := by split <;> rfl
theorem lev {Tb : Tab} {n : Nat} {f : Str} {F : Fn} (h : Tb.fns.lookup f = some F) : phi Tb (n + 1) f = runFn (phi Tb n) F := by
  funext ds
  exact phi_succ h ds
theorem run_mk {Φ : Fns} {F : Fn} {ds : List D} {d : D} {ρ : Env} (hl : ds.length = F.ps.length) (h : evS Φ F.body (startE F.N ds) = M.pure (.rt d, ρ)) : runFn Φ F ds = M.pure d := by
  unfold runFn
  rw [if_pos hl, h]
  rfl
theorem run_nx {Φ : Fns} {F : Fn} {ds : List D} {ρ : Env} (hl : ds.length = F.ps.length) (h : evS Φ F.body (startE F.N ds) = M.pure (.nx, ρ)) : runFn Φ F ds = M.pure .non := by
  unfold runFn
  rw [if_pos hl, h]
  rfl
/-! ### comprehensions -/
theorem compL_map {α : Type} {one : D → M (Option D)} {emb : α → D} {g : α → D} : ∀ {l : List α}, (∀ a ∈ l, one (emb a) = M.pure (some (g a))) → compL one (l.map emb) = M.pure (l.map g)
  | [], _ => rfl
  | a :: l, h => by
    simp only [List.map_cons, compL]
    rw [h a List.mem_cons_self, M.pure_bind, compL_map fun b hb => h b (List.mem_cons_of_mem _ hb)]
    rfl
theorem compL_flt {α : Type} {one : D → M (Option D)} {emb : α → D} {p : α → Bool} {g : α → D} : ∀ {l : List α}, (∀ a ∈ l, one (emb a) = M.pure (if p a then some (g a) else none)) → compL one (l.map emb) = M.pure ((l.filter p).map g)
  | [], _ => rfl
  | a :: l, h => by
    simp only [List.map_cons, compL]
    rw [h a List.mem_cons_self, M.pure_bind, compL_flt fun b hb => h b (List.mem_cons_of_mem _ hb), M.pure_bind]
    cases q : p a <;> simp [List.filter, q]
/-! ### loops -/
theorem forL_inv {bind : D → Env → Option Env} {body : Env → M (Fl × Env)} {items : List D} (I : Nat → Env → Prop)
    (step : ∀ i x ρ, items[i]? = some x → I i ρ → ∃ ρ1 ρ2, bind x ρ = some ρ1 ∧ body ρ1 = M.pure (.nx, ρ2) ∧ I (i + 1) ρ2) {ρ : Env} (h0 : I 0 ρ) :
    ∃ ρ', I items.length ρ' ∧ forL bind body items ρ = M.pure (.nx, ρ') := by
  have go : ∀ (k i : Nat) (ρ : Env), i + k = items.length → I i ρ → ∃ ρ', I items.length ρ' ∧ forL bind body (items.drop i) ρ = M.pure (.nx, ρ') := by
    intro k
    induction k with
    | zero =>
      intro i ρ e h
      have : i = items.length := by omega
      subst this
      exact ⟨ρ, h, by rw [List.drop_length]; rfl⟩
    | succ k ih =>
      intro i ρ e h
      have hi : i < items.length := by omega
      obtain ⟨ρ1, ρ2, h1, h2, h3⟩ := step i _ ρ (List.getElem?_eq_getElem hi) h
      obtain ⟨ρ', h4, h5⟩ := ih (i + 1) ρ2 (by omega) h3
      refine ⟨ρ', h4, ?_⟩
      rw [List.drop_eq_getElem_cons hi]
      simp only [forL]
      rw [h1, M.lift_some, M.pure_bind, h2, M.pure_bind]
      exact h5
  have := go items.length 0 ρ (by omega) h0
  simpa using this
theorem evS_loop {Φ : Fns} {k : Ik} {src : E} {tg : T} {b : S} {ρ : Env} {ds items : List D} (h1 : evA Φ src ρ = M.pure ds) (h2 : itm k ds = some items) : evS Φ (.loop k src tg b) ρ = forL (put tg) (evS Φ b) items ρ := by
  simp only [evS]
  rw [h1, M.pure_bind, h2, M.lift_some, M.pure_bind]
/-! ### pictures as tables -/
def ln (n : Nat) (f : Nat → D) : List D := (List.range n).map f
def rowD (C : Nat) (f : Nat → Int) : D := .tup ((List.range C).map fun c => .int (f c))
def pic (R C : Nat) (f : Nat → Nat → Int) : D := .tup ((List.range R).map fun r => rowD C (f r))
theorem range_map_congr {α : Type} {n : Nat} {f g : Nat → α} (h : ∀ i, i < n → f i = g i) : (List.range n).map f = (List.range n).map g := List.map_congr_left fun i hi => h i (List.mem_range.mp hi)
theorem rowD_congr {C : Nat} {f g : Nat → Int} (h : ∀ c, c < C → f c = g c) : rowD C f = rowD C g := by
  unfold rowD
  rw [range_map_congr fun i hi => by rw [h i hi]]
theorem pic_congr {R C : Nat} {f g : Nat → Nat → Int} (h : ∀ r c, r < R → c < C → f r c = g r c) : pic R C f = pic R C g := by
  unfold pic
  rw [range_map_congr fun r hr => rowD_congr fun c hc => h r c hr hc]
theorem rng_map (n : Nat) : rng 0 (n : Int) = (List.range n).map fun k => .int (k : Nat) := by
  unfold rng
  simp
theorem rng_map' (a : Int) (n : Nat) : rng a (a + (n : Nat)) = (List.range n).map fun k => .int (a + (k : Nat)) := by
  unfold rng
  congr 2
  omega
theorem itRng1_nat {n : Nat} (h : n ≤ 16777216) : itRng1 [.int (n : Nat)] = some ((List.range n).map fun k => .int (k : Nat)) := by
  show (if (n : Int) ≤ 16777216 ∧ -16777216 ≤ (n : Int) then some (rng 0 (n : Int)) else none) = _
  rw [if_pos (by omega), rng_map]
theorem getElem?_rangeMap {α : Type} {n i : Nat} {f : Nat → α} (h : i < n) : ((List.range n).map f)[i]? = some (f i) := by
  rw [List.getElem?_map, List.getElem?_range h]
  rfl
theorem ixN_nat {n : Nat} {i : Nat} (h : i < n) : ixN n (i : Nat) = some i := by
  unfold ixN
  rw [if_pos (by omega), if_pos (by omega)]
  simp
theorem ix_pic {R C : Nat} {f : Nat → Nat → Int} {r : Nat} (h : r < R) : ixD (pic R C f) (.int (r : Nat)) = some (rowD C (f r)) := by
  simp only [ixD, pic, List.length_map, List.length_range, ixN_nat h, Option.bind_some, getElem?_rangeMap h]
theorem ix_row {C : Nat} {f : Nat → Int} {c : Nat} (h : c < C) : ixD (rowD C f) (.int (c : Nat)) = some (.int (f c)) := by
  simp only [ixD, rowD, List.length_map, List.length_range, ixN_nat h, Option.bind_some, getElem?_rangeMap h]
theorem len_pic {R C : Nat} {f : Nat → Nat → Int} : blt .len [pic R C f] = some (.int (R : Nat)) := by simp [blt, pic]
theorem len_row {C : Nat} {f : Nat → Int} : blt .len [rowD C f] = some (.int (C : Nat)) := by simp [blt, rowD]
/-! ### what may be compared -/
theorem okD_row {n C : Nat} {f : Nat → Int} : okD (n + 2) (rowD C f) = true := by simp [okD, rowD]
theorem okD_pic {n R C : Nat} {f : Nat → Nat → Int} : okD (n + 3) (pic R C f) = true := by simp [okD, pic, okD_row]
mutual
theorem eqv_refl : ∀ d : D, (∃ n, okD n d = true) → eqv d d = true
  | .non, _ => rfl
  | .bl b, _ => by simp [eqv]
  | .int i, _ => by simp [eqv]
  | .str s, _ => by simp [eqv]
  | .lst l, ⟨n, h⟩ => by
    simp only [eqv]
    cases n with
    | zero => simp [okD] at h
    | succ n => exact eqvL_refl l fun d hd => ⟨n, by simp only [okD, List.all_eq_true] at h; exact h d hd⟩
  | .tup l, ⟨n, h⟩ => by
    simp only [eqv]
    cases n with
    | zero => simp [okD] at h
    | succ n => exact eqvL_refl l fun d hd => ⟨n, by simp only [okD, List.all_eq_true] at h; exact h d hd⟩
  | .scr l, ⟨n, h⟩ => by cases n <;> simp [okD] at h
  | .obj _, ⟨n, h⟩ => by cases n <;> simp [okD] at h
  | .exc _, ⟨n, h⟩ => by cases n <;> simp [okD] at h
  | .fn _, ⟨n, h⟩ => by cases n <;> simp [okD] at h
theorem eqvL_refl : ∀ l : List D, (∀ d ∈ l, ∃ n, okD n d = true) → eqvL l l = true
  | [], _ => rfl
  | d :: l, h => by
    simp only [eqvL, Bool.and_eq_true]
    exact ⟨eqv_refl d (h d List.mem_cons_self), eqvL_refl l fun e he => h e (List.mem_cons_of_mem _ he)⟩
end
theorem eqD_refl {d : D} (h : okD 50 d = true) : eqD d d = some true := by
  have e := eqv_refl d ⟨50, h⟩
  cases d with
  | scr l => simp [okD] at h
  | _ => simp only [eqD, h, e, Bool.and_self, if_true]
theorem eq_refl {d : D} (h : okD 50 d = true) : cop .eq d d = some true := eqD_refl h
theorem ne_refl {d : D} (h : okD 50 d = true) : cop .ne d d = some false := by
  show (eqD d d).map (!·) = _
  rw [eqD_refl h]
  rfl
theorem eq_of {a b : D} (e : a = b) (h : okD 50 a = true) : cop .eq a b = some true := by subst e; exact eq_refl h
theorem ne_of {a b : D} (e : a = b) (h : okD 50 a = true) : cop .ne a b = some false := by subst e; exact ne_refl h
theorem eq_int (i j : Int) : cop .eq (.int i) (.int j) = some (decide (i = j)) := by
  simp only [cop, eqD, okD, Bool.and_self, if_true, eqv]
  congr 1
theorem ne_int (i j : Int) : cop .ne (.int i) (.int j) = some (!decide (i = j)) := by
  have := eq_int i j
  simp only [cop] at this ⊢
  rw [this]
  rfl
end Ev

end
section
set_option maxRecDepth 100000
namespace Ev
open PySem
def fn__law_any : Fn := ⟨["_law_script", "_law_at"], ["_law_script", "_law_at"], (.seq (.ret (.call "_law_picture" (.cons (.var 0) (.cons (.bin .add (.var 1) (.cst (.int 2))) (.cons (.bin .add (.cst (.int 1)) (.call "_law_drawn" (.cons (.var 0) (.cons (.var 1) (.cons (.cst (.int 4)) .nil))))) (.cons (.bin .add (.cst (.int 1)) (.call "_law_drawn" (.cons (.var 0) (.cons (.bin .add (.var 1) (.cst (.int 1))) (.cons (.cst (.int 6)) .nil))))) .nil)))))) .skip)⟩
def fn__law_book : Fn := ⟨["_law_script", "_law_at"], ["_law_script", "_law_at", "_law_rows", "_law_found", "_law_k", "_law_here", "_law_picture_here"], (.seq (.asg (.nm 2) (.bin .add (.cst (.int 1)) (.call "_law_drawn" (.cons (.var 0) (.cons (.var 1) (.cons (.cst (.int 4)) .nil)))))) (.seq (.asg (.nm 3) (.tup .nil)) (.seq (.loop .rng1 (.cons (.bin .add (.cst (.int 1)) (.call "_law_drawn" (.cons (.var 0) (.cons (.bin .add (.var 1) (.cst (.int 1))) (.cons (.cst (.int 3)) .nil))))) .nil) (.nm 4) (.seq (.asg (.nm 5) (.bin .add (.bin .add (.var 1) (.cst (.int 2))) (.bin .mul (.cst (.int 40)) (.var 4)))) (.seq (.asg (.nm 6) (.call "_law_picture" (.cons (.var 0) (.cons (.var 5) (.cons (.var 2) (.cons (.bin .add (.cst (.int 1)) (.call "_law_drawn" (.cons (.var 0) (.cons (.bin .add (.var 5) (.cst (.int 39))) (.cons (.cst (.int 4)) .nil))))) .nil)))))) (.seq (.asg (.nm 3) (.bin .add (.var 3) (.tup (.cons (.tup (.cons (.ix (.cst (.str "aby")) (.var 4)) (.cons (.var 6) .nil))) .nil)))) .skip)))) (.seq (.ret (.var 3)) .skip))))⟩
def fn__law_cell : Fn := ⟨["_law_script", "_law_k"], ["_law_script", "_law_k"], (.seq (.ite (.cmp .eq (.var 0) (.lst .nil)) (.seq (.ret (.bin .mul (.cst (.int 7)) (.var 1))) .skip) .skip) (.seq (.ret (.bin .add (.ix (.var 0) (.bin .mod (.var 1) (.blt .len (.cons (.var 0) .nil)))) (.bin .mul (.cst (.int 6553)) (.bin .fdiv (.var 1) (.blt .len (.cons (.var 0) .nil)))))) .skip))⟩
def fn__law_cut : Fn := ⟨["_law_picture_here", "_law_top", "_law_left", "_law_high", "_law_wide"], ["_law_picture_here", "_law_top", "_law_left", "_law_high", "_law_wide", "_law_row"], (.seq (.ret (.blt .tuple (.cons (.comp .seq (.cons (.slc (.var 0) (.cons (.var 1) .nil) (.cons (.bin .add (.var 1) (.var 3)) .nil)) .nil) (.nm 5) [("_law_row", 5)] .nil (.slc (.var 5) (.cons (.var 2) .nil) (.cons (.bin .add (.var 2) (.var 4)) .nil))) .nil))) .skip)⟩
def fn__law_drawn : Fn := ⟨["_law_script", "_law_k", "_law_many"], ["_law_script", "_law_k", "_law_many", "_law_cell_here"], (.seq (.asg (.nm 3) (.bin .mod (.bin .add (.bin .mul (.bin .mod (.call "_law_cell" (.cons (.var 0) (.cons (.var 1) .nil))) (.cst (.int 2147483563))) (.cst (.int 69069))) (.bin .mul (.cst (.int 104723)) (.bin .add (.var 1) (.cst (.int 1))))) (.cst (.int 2147483563)))) (.seq (.asg (.nm 3) (.bin .mod (.bin .add (.bin .mul (.var 3) (.var 3)) (.bin .fdiv (.var 3) (.cst (.int 3)))) (.cst (.int 2147483399)))) (.seq (.ret (.bin .mod (.bin .fdiv (.bin .mod (.bin .add (.bin .mul (.var 3) (.var 3)) (.bin .fdiv (.var 3) (.cst (.int 7)))) (.cst (.int 2147483647))) (.cst (.int 11))) (.var 2))) .skip)))⟩
def fn__law_each : Fn := ⟨["_law_thing"], ["_law_thing", "_law_found", "_law_place", "_law_part"], (.seq (.ite (.isi (.var 0) "int") (.seq (.ret (.lst (.cons (.cst .non) (.cons (.cst (.bl true)) (.cons (.bin .sub (.var 0) (.cst (.int 1))) (.cons (.bin .add (.var 0) (.cst (.int 1))) (.cons (.cst (.int 1000)) .nil))))))) .skip) .skip) (.seq (.ite (.not (.isi (.var 0) "tuple")) (.seq (.ret (.lst (.cons (.cst .non) (.cons (.cst (.str "")) (.cons (.cst (.str "A")) .nil))))) .skip) .skip) (.seq (.asg (.nm 1) (.lst (.cons (.cst .non) (.cons (.blt .list (.cons (.var 0) .nil)) (.cons (.bin .add (.var 0) (.slc (.var 0) (.cons (.neg (.cst (.int 1))) .nil) .nil)) (.cons (.slc (.var 0) (.cons (.cst (.int 1)) .nil) .nil) .nil)))))) (.seq (.loop .rng1 (.cons (.blt .len (.cons (.var 0) .nil)) .nil) (.nm 2) (.seq (.asg (.nm 1) (.bin .add (.var 1) (.comp .seq (.cons (.call "_law_each" (.cons (.ix (.var 0) (.var 2)) .nil)) .nil) (.nm 3) [("_law_part", 3)] .nil (.bin .add (.bin .add (.slc (.var 0) .nil (.cons (.var 2) .nil)) (.tup (.cons (.var 3) .nil))) (.slc (.var 0) (.cons (.bin .add (.var 2) (.cst (.int 1))) .nil) .nil))))) .skip)) (.seq (.ret (.var 1)) .skip)))))⟩
def fn__law_far : Fn := ⟨["_law_one", "_law_other"], ["_law_one", "_law_other", "_law_found", "_law_mine", "_law_yours", "_law_shade", "_law_more"], (.seq (.asg (.nm 2) (.cst (.int 0))) (.seq (.loop .zip (.cons (.var 0) (.cons (.var 1) .nil)) (.tu [3, 4]) (.seq (.asg (.nm 2) (.bin .add (.var 2) (.blt .sum (.cons (.comp .zip (.cons (.var 3) (.cons (.var 4) .nil)) (.tu [5, 6]) [("_law_shade", 5), ("_law_more", 6)] .nil (.blt .abs (.cons (.bin .sub (.var 5) (.var 6)) .nil))) .nil)))) .skip)) (.seq (.ret (.var 2)) .skip)))⟩
def fn__law_film : Fn := ⟨["_law_script", "_law_at", "_law_most"], ["_law_script", "_law_at", "_law_most", "_law_rows", "_law_columns", "_law_found", "_law_k", "_law_here", "_law_many"], (.seq (.asg (.nm 3) (.bin .add (.cst (.int 1)) (.call "_law_drawn" (.cons (.var 0) (.cons (.var 1) (.cons (.cst (.int 3)) .nil)))))) (.seq (.asg (.nm 4) (.bin .add (.cst (.int 1)) (.call "_law_drawn" (.cons (.var 0) (.cons (.bin .add (.var 1) (.cst (.int 1))) (.cons (.cst (.int 4)) .nil)))))) (.seq (.asg (.nm 5) (.tup .nil)) (.seq (.loop .rng1 (.cons (.bin .add (.cst (.int 1)) (.call "_law_drawn" (.cons (.var 0) (.cons (.bin .add (.var 1) (.cst (.int 2))) (.cons (.var 2) .nil))))) .nil) (.nm 6) (.seq (.asg (.nm 7) (.bin .add (.bin .add (.var 1) (.cst (.int 3))) (.bin .mul (.cst (.int 40)) (.var 6)))) (.seq (.asg (.nm 8) (.bin .add (.cst (.int 1)) (.call "_law_drawn" (.cons (.var 0) (.cons (.bin .add (.var 7) (.cst (.int 39))) (.cons (.cst (.int 3)) .nil)))))) (.seq (.asg (.nm 5) (.bin .add (.var 5) (.tup (.cons (.tup (.cons (.call "_law_picture" (.cons (.var 0) (.cons (.var 7) (.cons (.var 3) (.cons (.var 4) .nil))))) (.cons (.var 8) .nil))) .nil)))) .skip)))) (.seq (.ret (.var 5)) .skip)))))⟩
def fn__law_frames : Fn := ⟨["_law_film_here"], ["_law_film_here", "_law_found", "_law_picture_here", "_law_many"], (.seq (.asg (.nm 1) (.lst .nil)) (.seq (.loop .seq (.cons (.var 0) .nil) (.tu [2, 3]) (.seq (.asg (.nm 1) (.bin .add (.var 1) (.bin .mul (.lst (.cons (.var 2) .nil)) (.var 3)))) .skip)) (.seq (.ret (.var 1)) .skip)))⟩
def fn__law_is_picture : Fn := ⟨["_law_thing"], ["_law_thing", "_law_row", "_law_one"], (.seq (.ite (.boo false (.cons (.not (.isi (.var 0) "tuple")) (.cons (.not (.chn .le .le (.cst (.int 1)) (.blt .len (.cons (.var 0) .nil)) (.cst (.int 4)))) .nil))) (.seq (.ret (.cst (.bl false))) .skip) .skip) (.seq (.loop .seq (.cons (.var 0) .nil) (.nm 1) (.seq (.ite (.boo false (.cons (.not (.isi (.var 1) "tuple")) (.cons (.not (.chn .le .le (.cst (.int 1)) (.blt .len (.cons (.var 1) .nil)) (.cst (.int 6)))) (.cons (.cmp .ne (.blt .len (.cons (.var 1) .nil)) (.blt .len (.cons (.ix (.var 0) (.cst (.int 0))) .nil))) .nil)))) (.seq (.ret (.cst (.bl false))) .skip) .skip) (.seq (.ite (.cmp .ne (.comp .seq (.cons (.var 1) .nil) (.nm 2) [("_law_one", 2)] (.cons (.boo false (.cons (.isi (.var 2) "bool") (.cons (.not (.isi (.var 2) "int")) (.cons (.not (.chn .le .le (.cst (.int 0)) (.var 2) (.cst (.int 4)))) .nil)))) .nil) (.var 2)) (.lst .nil)) (.seq (.ret (.cst (.bl false))) .skip) .skip) .skip))) (.seq (.ret (.cst (.bl true))) .skip)))⟩
def fn__law_layers : Fn := ⟨["_law_script", "_law_at", "_law_most"], ["_law_script", "_law_at", "_law_most", "_law_found", "_law_k", "_law_here", "_law_left", "_law_top", "_law_way"], (.seq (.asg (.nm 3) (.tup .nil)) (.seq (.loop .rng1 (.cons (.call "_law_drawn" (.cons (.var 0) (.cons (.var 1) (.cons (.bin .add (.var 2) (.cst (.int 1))) .nil)))) .nil) (.nm 4) (.seq (.asg (.nm 5) (.bin .add (.bin .add (.var 1) (.cst (.int 1))) (.bin .mul (.cst (.int 40)) (.var 4)))) (.seq (.asg (.nm 6) (.bin .sub (.call "_law_drawn" (.cons (.var 0) (.cons (.bin .add (.var 5) (.cst (.int 32))) (.cons (.cst (.int 8)) .nil)))) (.cst (.int 3)))) (.seq (.asg (.nm 7) (.bin .sub (.call "_law_drawn" (.cons (.var 0) (.cons (.bin .add (.var 5) (.cst (.int 33))) (.cons (.cst (.int 6)) .nil)))) (.cst (.int 2)))) (.seq (.asg (.nm 8) (.ix (.lst (.cons (.cst (.str "over")) (.cons (.cst (.str "under")) (.cons (.cst (.str "add")) (.cons (.cst (.str "less")) .nil))))) (.call "_law_drawn" (.cons (.var 0) (.cons (.bin .add (.var 5) (.cst (.int 34))) (.cons (.cst (.int 4)) .nil)))))) (.seq (.asg (.nm 3) (.bin .add (.var 3) (.tup (.cons (.tup (.cons (.call "_law_any" (.cons (.var 0) (.cons (.var 5) .nil))) (.cons (.var 6) (.cons (.var 7) (.cons (.var 8) .nil))))) .nil)))) .skip)))))) (.seq (.ret (.var 3)) .skip)))⟩
def fn__law_lit : Fn := ⟨["_law_manner", "_law_picture_here", "_law_tick"], ["_law_manner", "_law_picture_here", "_law_tick", "_law_row", "_law_turn", "_law_k"], (.seq (.asg (.nm 3) (.bin .mod (.var 2) (.blt .len (.cons (.var 1) .nil)))) (.seq (.asg (.nm 4) (.bin .mod (.bin .fdiv (.var 2) (.blt .len (.cons (.var 1) .nil))) (.cst (.int 4)))) (.seq (.ret (.tup (.cons (.var 3) (.cons (.comp .rng1 (.cons (.blt .len (.cons (.ix (.var 1) (.cst (.int 0))) .nil)) .nil) (.nm 5) [("_law_k", 5)] (.cons (.cmp .inn (.var 4) (.call "_law_turns" (.cons (.var 0) (.cons (.ix (.ix (.var 1) (.var 3)) (.var 5)) .nil)))) .nil) (.var 5)) .nil)))) .skip)))⟩
def fn__law_picture : Fn := ⟨["_law_script", "_law_at", "_law_rows", "_law_columns"], ["_law_script", "_law_at", "_law_rows", "_law_columns", "_law_found", "_law_row", "_law_here", "_law_shades", "_law_k"], (.seq (.asg (.nm 4) (.tup .nil)) (.seq (.loop .rng1 (.cons (.var 2) .nil) (.nm 5) (.seq (.asg (.nm 6) (.bin .add (.var 1) (.bin .mul (.cst (.int 7)) (.var 5)))) (.seq (.asg (.nm 7) (.comp .rng1 (.cons (.var 3) .nil) (.nm 8) [("_law_k", 8)] .nil (.blt .max (.cons (.cst (.int 0)) (.cons (.bin .sub (.call "_law_drawn" (.cons (.var 0) (.cons (.bin .add (.var 6) (.var 8)) (.cons (.cst (.int 6)) .nil)))) (.cst (.int 1))) .nil))))) (.seq (.asg (.nm 4) (.bin .add (.var 4) (.tup (.cons (.blt .tuple (.cons (.var 7) .nil)) .nil)))) .skip)))) (.seq (.ret (.var 4)) .skip)))⟩
def fn__law_places : Fn := ⟨["_law_picture_here"], ["_law_picture_here", "_law_found", "_law_row", "_law_column"], (.seq (.own 1 (.lst .nil)) (.seq (.loop .rng1 (.cons (.blt .len (.cons (.var 0) .nil)) .nil) (.nm 2) (.seq (.ext 1 (.comp .rng1 (.cons (.blt .len (.cons (.ix (.var 0) (.cst (.int 0))) .nil)) .nil) (.nm 3) [("_law_column", 3)] .nil (.tup (.cons (.var 2) (.cons (.var 3) .nil))))) .skip)) (.seq (.frz 1) (.seq (.ret (.var 1)) .skip))))⟩
def fn__law_shade : Fn := ⟨["_law_picture_here", "_law_row", "_law_column"], ["_law_picture_here", "_law_row", "_law_column"], (.seq (.ite (.boo true (.cons (.inr true (.var 1) (.blt .len (.cons (.var 0) .nil))) (.cons (.inr true (.var 2) (.blt .len (.cons (.ix (.var 0) (.cst (.int 0))) .nil))) .nil))) (.seq (.ret (.ix (.ix (.var 0) (.var 1)) (.var 2))) .skip) .skip) (.seq (.ret (.cst (.int 0))) .skip))⟩
def fn__law_shifted : Fn := ⟨["_law_picture_here", "_law_right", "_law_down"], ["_law_picture_here", "_law_right", "_law_down", "_law_found", "_law_row", "_law_k"], (.seq (.own 3 (.lst .nil)) (.seq (.loop .rng1 (.cons (.blt .len (.cons (.var 0) .nil)) .nil) (.nm 4) (.seq (.app 3 (.blt .tuple (.cons (.comp .rng1 (.cons (.blt .len (.cons (.ix (.var 0) (.cst (.int 0))) .nil)) .nil) (.nm 5) [("_law_k", 5)] .nil (.call "_law_shade" (.cons (.var 0) (.cons (.bin .sub (.var 4) (.var 2)) (.cons (.bin .sub (.var 5) (.var 1)) .nil))))) .nil))) .skip)) (.seq (.ret (.blt .tuple (.cons (.pk 3) .nil))) .skip)))⟩
def fn__law_turns : Fn := ⟨["_law_manner", "_law_shade"], ["_law_manner", "_law_shade", "_law_turns_here", "_law_turn"], (.seq (.ite (.cmp .eq (.var 0) (.cst (.str "spread"))) (.seq (.ret (.comp .rng1 (.cons (.cst (.int 4)) .nil) (.nm 3) [("_law_turn", 3)] (.cons (.cmp .ne (.bin .fdiv (.bin .mul (.bin .add (.var 3) (.cst (.int 1))) (.var 1)) (.cst (.int 4))) (.bin .fdiv (.bin .mul (.var 3) (.var 1)) (.cst (.int 4)))) .nil) (.var 3))) .skip) .skip) (.seq (.asg (.nm 2) (.ite (.cmp .eq (.var 0) (.cst (.str "first"))) (.slc (.lst (.cons (.cst (.int 0)) (.cons (.cst (.int 1)) (.cons (.cst (.int 2)) (.cons (.cst (.int 3)) .nil))))) .nil (.cons (.var 1) .nil)) (.slc (.lst (.cons (.cst (.int 3)) (.cons (.cst (.int 2)) (.cons (.cst (.int 1)) (.cons (.cst (.int 0)) .nil))))) .nil (.cons (.var 1) .nil)))) (.seq (.ret (.blt .sorted (.cons (.var 2) .nil))) .skip)))⟩
def fn_all_apart : Fn := ⟨["picture", "part"], ["picture", "part", "rows", "columns", "high", "wide", "found", "row", "column"], (.seq (.expr (.call "need_picture" (.cons (.var 0) .nil))) (.seq (.expr (.call "need_picture" (.cons (.var 1) .nil))) (.seq (.asg (.tu [2, 3]) (.call "size_of" (.cons (.var 0) .nil))) (.seq (.asg (.tu [4, 5]) (.call "size_of" (.cons (.var 1) .nil))) (.seq (.own 6 (.lst .nil)) (.seq (.loop .rng1 (.cons (.bin .add (.bin .sub (.var 2) (.var 4)) (.cst (.int 1))) .nil) (.nm 7) (.seq (.loop .rng1 (.cons (.bin .add (.bin .sub (.var 3) (.var 5)) (.cst (.int 1))) .nil) (.nm 8) (.seq (.app 6 (.tup (.cons (.tup (.cons (.var 7) (.cons (.var 8) .nil))) (.cons (.call "shades_apart" (.cons (.call "window" (.cons (.var 0) (.cons (.var 4) (.cons (.var 5) (.cons (.var 8) (.cons (.var 7) .nil)))))) (.cons (.var 1) .nil))) .nil)))) .skip)) .skip)) (.seq (.frz 6) (.seq (.ret (.var 6)) .skip))))))))⟩
def fn_all_places : Fn := ⟨["picture"], ["picture", "rows", "columns", "found", "row", "column"], (.seq (.asg (.tu [1, 2]) (.call "size_of" (.cons (.var 0) .nil))) (.seq (.own 3 (.lst .nil)) (.seq (.loop .rng1 (.cons (.var 1) .nil) (.nm 4) (.seq (.ext 3 (.comp .rng1 (.cons (.var 2) .nil) (.nm 5) [("column", 5)] .nil (.tup (.cons (.var 4) (.cons (.var 5) .nil))))) .skip)) (.seq (.frz 3) (.seq (.ret (.var 3)) .skip)))))⟩
def fn_all_spots : Fn := ⟨["picture"], ["picture", "places", "found", "done", "place", "mine"], (.seq (.asg (.nm 1) (.call "lit_places" (.cons (.var 0) .nil))) (.seq (.own 2 (.lst .nil)) (.seq (.own 3 (.lst .nil)) (.seq (.loop .seq (.cons (.var 1) .nil) (.nm 4) (.seq (.ite (.cmp .nin (.var 4) (.pk 3)) (.seq (.asg (.nm 5) (.call "joined_to" (.cons (.var 1) (.cons (.var 4) .nil)))) (.seq (.ext 3 (.var 5)) (.seq (.app 2 (.var 5)) .skip))) .skip) .skip)) (.seq (.ret (.blt .sorted (.cons (.pk 2) .nil))) .skip)))))⟩
def fn_apart : Fn := ⟨["one", "other"], ["one", "other"], (.seq (.expr (.call "need_picture" (.cons (.var 0) .nil))) (.seq (.expr (.call "need_picture" (.cons (.var 1) .nil))) (.seq (.ite (.cmp .ne (.call "size_of" (.cons (.var 0) .nil)) (.call "size_of" (.cons (.var 1) .nil))) (.seq (.raise "NoSize") .skip) .skip) (.seq (.ret (.call "shades_apart" (.cons (.var 0) (.cons (.var 1) .nil)))) .skip))))⟩
def fn_are_layers : Fn := ⟨["thing"], ["thing", "one"], (.seq (.ret (.boo true (.cons (.isi (.var 0) "tuple") (.cons (.cmp .le (.blt .len (.cons (.var 0) .nil)) (.glo "MOST_LAYERS" (.int 5))) (.cons (.blt .all (.cons (.comp .seq (.cons (.var 0) .nil) (.nm 1) [("one", 1)] .nil (.call "is_layer" (.cons (.var 1) .nil))) .nil)) .nil))))) .skip)⟩
def fn_are_rows : Fn := ⟨["thing", "wide"], ["thing", "wide", "row", "shade"], (.seq (.ite (.boo false (.cons (.not (.isi (.var 0) "tuple")) (.cons (.not (.chn .le .le (.cst (.int 1)) (.blt .len (.cons (.var 0) .nil)) (.glo "MOST_ROWS" (.int 4)))) .nil))) (.seq (.ret (.cst (.bl false))) .skip) .skip) (.seq (.ite (.not (.blt .all (.cons (.comp .seq (.cons (.var 0) .nil) (.nm 2) [("row", 2)] .nil (.isi (.var 2) "tuple")) .nil))) (.seq (.ret (.cst (.bl false))) .skip) .skip) (.seq (.ite (.boo false (.cons (.not (.chn .le .le (.cst (.int 1)) (.blt .len (.cons (.ix (.var 0) (.cst (.int 0))) .nil)) (.var 1))) (.cons (.not (.blt .all (.cons (.comp .seq (.cons (.var 0) .nil) (.nm 2) [("row", 2)] .nil (.cmp .eq (.blt .len (.cons (.var 2) .nil)) (.blt .len (.cons (.ix (.var 0) (.cst (.int 0))) .nil)))) .nil))) .nil))) (.seq (.ret (.cst (.bl false))) .skip) .skip) (.seq (.ret (.blt .all (.cons (.comp .seq (.cons (.var 0) .nil) (.nm 2) [("row", 2)] .nil (.blt .all (.cons (.comp .seq (.cons (.var 2) .nil) (.nm 3) [("shade", 3)] .nil (.call "is_number" (.cons (.var 3) (.cons (.cst (.int 0)) (.cons (.glo "MOST_SHADE" (.int 4)) .nil))))) .nil))) .nil))) .skip))))⟩
def fn_backwards : Fn := ⟨["film"], ["film"], (.seq (.expr (.call "need_film" (.cons (.var 0) .nil))) (.seq (.ret (.rev (.var 0))) .skip))⟩
def fn_bounds : Fn := ⟨["picture"], ["picture"], (.seq (.expr (.call "need_picture" (.cons (.var 0) .nil))) (.seq (.ret (.call "bounds_of" (.cons (.var 0) .nil))) .skip))⟩
def fn_bounds_of : Fn := ⟨["picture"], ["picture", "rows", "columns", "number", "row"], (.seq (.asg (.nm 1) (.comp .enum (.cons (.var 0) .nil) (.tu [3, 4]) [("number", 3), ("row", 4)] (.cons (.cmp .gt (.blt .sum (.cons (.var 4) .nil)) (.cst (.int 0))) .nil) (.var 3))) (.seq (.asg (.nm 2) (.comp .rng1 (.cons (.blt .len (.cons (.ix (.var 0) (.cst (.int 0))) .nil)) .nil) (.nm 3) [("number", 3)] (.cons (.cmp .gt (.blt .sum (.cons (.comp .seq (.cons (.var 0) .nil) (.nm 4) [("row", 4)] .nil (.ix (.var 4) (.var 3))) .nil)) (.cst (.int 0))) .nil) (.var 3))) (.seq (.ret (.ite (.cmp .ne (.var 1) (.lst .nil)) (.tup (.cons (.ix (.var 1) (.cst (.int 0))) (.cons (.ix (.var 2) (.cst (.int 0))) (.cons (.ix (.var 1) (.neg (.cst (.int 1)))) (.cons (.ix (.var 2) (.neg (.cst (.int 1)))) .nil))))) (.cst .non))) .skip)))⟩
def fn_cropped : Fn := ⟨["picture"], ["picture", "found", "top", "left", "low", "right"], (.seq (.expr (.call "need_picture" (.cons (.var 0) .nil))) (.seq (.asg (.nm 1) (.call "bounds_of" (.cons (.var 0) .nil))) (.seq (.ite (.cmp .isn (.var 1) (.cst .non)) (.seq (.raise "NoSize") .skip) .skip) (.seq (.asg (.tu [2, 3, 4, 5]) (.var 1)) (.seq (.ret (.call "window" (.cons (.var 0) (.cons (.bin .add (.bin .sub (.var 4) (.var 2)) (.cst (.int 1))) (.cons (.bin .add (.bin .sub (.var 5) (.var 3)) (.cst (.int 1))) (.cons (.var 3) (.cons (.var 2) .nil))))))) .skip)))))⟩
def fn_crossed : Fn := ⟨["picture"], ["picture", "rows", "columns", "column", "row"], (.seq (.expr (.call "need_picture" (.cons (.var 0) .nil))) (.seq (.asg (.tu [1, 2]) (.call "size_of" (.cons (.var 0) .nil))) (.seq (.ite (.cmp .gt (.var 2) (.glo "MOST_ROWS" (.int 4))) (.seq (.raise "NoSize") .skip) .skip) (.seq (.ret (.blt .tuple (.cons (.comp .rng1 (.cons (.var 2) .nil) (.nm 3) [("column", 3)] .nil (.blt .tuple (.cons (.comp .rng1 (.cons (.var 1) .nil) (.nm 4) [("row", 4)] .nil (.ix (.ix (.var 0) (.var 4)) (.var 3))) .nil))) .nil))) .skip))))⟩
def fn_currents : Fn := ⟨["manner", "picture"], ["manner", "picture", "tick"], (.seq (.expr (.call "need_manner" (.cons (.var 0) .nil))) (.seq (.expr (.call "need_picture" (.cons (.var 1) .nil))) (.seq (.ret (.comp .rng1 (.cons (.bin .mul (.glo "MOST_SHADE" (.int 4)) (.blt .len (.cons (.var 1) .nil))) .nil) (.nm 2) [("tick", 2)] .nil (.blt .len (.cons (.ix (.call "lit_in" (.cons (.var 0) (.cons (.var 1) (.cons (.var 2) .nil)))) (.cst (.int 1))) .nil)))) .skip)))⟩
def fn_dark : Fn := ⟨["rows", "columns"], ["rows", "columns"], (.seq (.expr (.call "need_size" (.cons (.var 0) (.cons (.var 1) .nil)))) (.seq (.ret (.bin .mul (.tup (.cons (.bin .mul (.tup (.cons (.cst (.int 0)) .nil)) (.var 1)) .nil)) (.var 0))) .skip))⟩
def fn_dimmed : Fn := ⟨["picture", "most"], ["picture", "most", "found", "row", "order", "on", "shade", "column"], (.seq (.expr (.call "need_picture" (.cons (.var 0) .nil))) (.seq (.ite (.not (.call "is_number" (.cons (.var 1) (.cons (.cst (.int 0)) (.cons (.glo "MOST_COLUMNS" (.int 6)) .nil))))) (.seq (.raise "NoNumber") .skip) .skip) (.seq (.own 2 (.lst .nil)) (.seq (.loop .seq (.cons (.var 0) .nil) (.nm 3) (.seq (.asg (.nm 4) (.slc (.blt .sorted (.cons (.comp .enum (.cons (.var 3) .nil) (.tu [7, 6]) [("column", 7), ("shade", 6)] .nil (.tup (.cons (.bin .sub (.cst (.int 0)) (.var 6)) (.cons (.var 7) .nil)))) .nil)) .nil (.cons (.var 1) .nil))) (.seq (.asg (.nm 5) (.comp .seq (.cons (.var 4) .nil) (.tu [6, 7]) [("shade", 6), ("column", 7)] .nil (.var 7))) (.seq (.app 2 (.blt .tuple (.cons (.comp .enum (.cons (.var 3) .nil) (.tu [7, 6]) [("column", 7), ("shade", 6)] .nil (.ite (.cmp .inn (.var 7) (.var 5)) (.var 6) (.cst (.int 0)))) .nil))) .skip)))) (.seq (.ret (.blt .tuple (.cons (.pk 2) .nil))) .skip)))))⟩
def fn_filled : Fn := ⟨["picture", "place", "shade"], ["picture", "place", "shade", "old", "same", "gone", "found", "number", "row", "one", "column"], (.seq (.expr (.call "need_picture" (.cons (.var 0) .nil))) (.seq (.expr (.call "need_place" (.cons (.var 0) (.cons (.var 1) .nil)))) (.seq (.ite (.not (.call "is_number" (.cons (.var 2) (.cons (.cst (.int 0)) (.cons (.glo "MOST_SHADE" (.int 4)) .nil))))) (.seq (.raise "NoNumber") .skip) .skip) (.seq (.asg (.nm 3) (.ix (.ix (.var 0) (.ix (.var 1) (.cst (.int 0)))) (.ix (.var 1) (.cst (.int 1))))) (.seq (.asg (.nm 4) (.comp .seq (.cons (.call "all_places" (.cons (.var 0) .nil)) .nil) (.nm 9) [("one", 9)] (.cons (.cmp .eq (.ix (.ix (.var 0) (.ix (.var 9) (.cst (.int 0)))) (.ix (.var 9) (.cst (.int 1)))) (.var 3)) .nil) (.var 9))) (.seq (.asg (.nm 5) (.call "joined_to" (.cons (.var 4) (.cons (.var 1) .nil)))) (.seq (.own 6 (.lst .nil)) (.seq (.loop .enum (.cons (.var 0) .nil) (.tu [7, 8]) (.seq (.app 6 (.blt .tuple (.cons (.comp .enum (.cons (.var 8) .nil) (.tu [10, 9]) [("column", 10), ("one", 9)] .nil (.ite (.cmp .inn (.tup (.cons (.var 7) (.cons (.var 10) .nil))) (.var 5)) (.var 2) (.var 9))) .nil))) .skip)) (.seq (.ret (.blt .tuple (.cons (.pk 6) .nil))) .skip)))))))))⟩
def fn_first_whole : Fn := ⟨["book", "text", "columns"], ["book", "text", "columns", "long"], (.seq (.asg (.nm 3) (.bin .sub (.call "steps_of" (.cons (.var 0) (.cons (.var 1) (.cons (.var 2) .nil)))) (.var 2))) (.seq (.ret (.ite (.cmp .le (.var 3) (.var 2)) (.var 3) (.cst .non))) .skip))⟩
def fn_flipped : Fn := ⟨["picture"], ["picture"], (.seq (.expr (.call "need_picture" (.cons (.var 0) .nil))) (.seq (.ret (.rev (.var 0))) .skip))⟩
def fn_frame : Fn := ⟨["film", "number"], ["film", "number"], (.seq (.expr (.call "need_film" (.cons (.var 0) .nil))) (.seq (.ite (.not (.call "is_number" (.cons (.var 1) (.cons (.cst (.int 0)) (.cons (.bin .sub (.blt .len (.cons (.call "shown" (.cons (.var 0) .nil)) .nil)) (.cst (.int 1))) .nil))))) (.seq (.raise "NoNumber") .skip) .skip) (.seq (.ret (.ix (.call "shown" (.cons (.var 0) .nil)) (.var 1))) .skip)))⟩
def fn_frames_in : Fn := ⟨["film"], ["film"], (.seq (.expr (.call "need_film" (.cons (.var 0) .nil))) (.seq (.ret (.blt .len (.cons (.call "shown" (.cons (.var 0) .nil)) .nil))) .skip))⟩
def fn_inverted : Fn := ⟨["picture"], ["picture", "row", "shade"], (.seq (.expr (.call "need_picture" (.cons (.var 0) .nil))) (.seq (.ret (.blt .tuple (.cons (.comp .seq (.cons (.var 0) .nil) (.nm 1) [("row", 1)] .nil (.blt .tuple (.cons (.comp .seq (.cons (.var 1) .nil) (.nm 2) [("shade", 2)] .nil (.bin .sub (.glo "MOST_SHADE" (.int 4)) (.var 2))) .nil))) .nil))) .skip))⟩
def fn_is_book : Fn := ⟨["thing"], ["thing", "one", "other"], (.seq (.ite (.boo false (.cons (.not (.isi (.var 0) "tuple")) (.cons (.not (.chn .le .le (.cst (.int 1)) (.blt .len (.cons (.var 0) .nil)) (.glo "MOST_LETTERS" (.int 6)))) .nil))) (.seq (.ret (.cst (.bl false))) .skip) .skip) (.seq (.ite (.not (.blt .all (.cons (.comp .seq (.cons (.var 0) .nil) (.nm 1) [("one", 1)] .nil (.call "is_letter" (.cons (.var 1) .nil))) .nil))) (.seq (.ret (.cst (.bl false))) .skip) .skip) (.seq (.ite (.not (.blt .all (.cons (.comp .zip (.cons (.var 0) (.cons (.slc (.var 0) (.cons (.cst (.int 1)) .nil) .nil) .nil)) (.tu [1, 2]) [("one", 1), ("other", 2)] .nil (.cmp .lt (.ix (.var 1) (.cst (.int 0))) (.ix (.var 2) (.cst (.int 0))))) .nil))) (.seq (.ret (.cst (.bl false))) .skip) .skip) (.seq (.ret (.blt .all (.cons (.comp .seq (.cons (.var 0) .nil) (.nm 1) [("one", 1)] .nil (.cmp .eq (.blt .len (.cons (.ix (.var 1) (.cst (.int 1))) .nil)) (.blt .len (.cons (.ix (.ix (.var 0) (.cst (.int 0))) (.cst (.int 1))) .nil)))) .nil))) .skip))))⟩
def fn_is_film : Fn := ⟨["thing"], ["thing", "one"], (.seq (.ite (.boo false (.cons (.not (.isi (.var 0) "tuple")) (.cons (.not (.chn .le .le (.cst (.int 1)) (.blt .len (.cons (.var 0) .nil)) (.glo "MOST_PICTURES" (.int 4)))) (.cons (.not (.blt .all (.cons (.comp .seq (.cons (.var 0) .nil) (.nm 1) [("one", 1)] .nil (.call "is_shot" (.cons (.var 1) .nil))) .nil))) .nil)))) (.seq (.ret (.cst (.bl false))) .skip) .skip) (.seq (.ret (.blt .all (.cons (.comp .seq (.cons (.var 0) .nil) (.nm 1) [("one", 1)] .nil (.cmp .eq (.call "size_of" (.cons (.ix (.var 1) (.cst (.int 0))) .nil)) (.call "size_of" (.cons (.ix (.ix (.var 0) (.cst (.int 0))) (.cst (.int 0))) .nil)))) .nil))) .skip))⟩
def fn_is_layer : Fn := ⟨["thing"], ["thing"], (.seq (.ite (.boo false (.cons (.not (.isi (.var 0) "tuple")) (.cons (.cmp .ne (.blt .len (.cons (.var 0) .nil)) (.cst (.int 4))) (.cons (.not (.call "is_picture" (.cons (.ix (.var 0) (.cst (.int 0))) .nil))) .nil)))) (.seq (.ret (.cst (.bl false))) .skip) .skip) (.seq (.ite (.boo false (.cons (.not (.call "is_number" (.cons (.ix (.var 0) (.cst (.int 1))) (.cons (.bin .sub (.cst (.int 0)) (.glo "FAR" (.int 99))) (.cons (.glo "FAR" (.int 99)) .nil))))) (.cons (.not (.call "is_number" (.cons (.ix (.var 0) (.cst (.int 2))) (.cons (.bin .sub (.cst (.int 0)) (.glo "FAR" (.int 99))) (.cons (.glo "FAR" (.int 99)) .nil))))) .nil))) (.seq (.ret (.cst (.bl false))) .skip) .skip) (.seq (.ret (.boo true (.cons (.isi (.ix (.var 0) (.cst (.int 3))) "str") (.cons (.cmp .inn (.ix (.var 0) (.cst (.int 3))) (.glo "WAYS" (.strs ["over", "add", "less", "under"]))) .nil)))) .skip)))⟩
def fn_is_letter : Fn := ⟨["thing"], ["thing"], (.seq (.ite (.boo false (.cons (.not (.isi (.var 0) "tuple")) (.cons (.cmp .ne (.blt .len (.cons (.var 0) .nil)) (.cst (.int 2))) (.cons (.not (.isi (.ix (.var 0) (.cst (.int 0))) "str")) (.cons (.cmp .ne (.blt .len (.cons (.ix (.var 0) (.cst (.int 0))) .nil)) (.cst (.int 1))) .nil))))) (.seq (.ret (.cst (.bl false))) .skip) .skip) (.seq (.ret (.boo true (.cons (.chn .le .le (.cst (.str " ")) (.ix (.var 0) (.cst (.int 0))) (.cst (.str "~"))) (.cons (.call "is_picture" (.cons (.ix (.var 0) (.cst (.int 1))) .nil)) .nil)))) .skip))⟩
def fn_is_lit : Fn := ⟨["manner", "shade", "turn"], ["manner", "shade", "turn"], (.seq (.ite (.cmp .eq (.var 0) (.cst (.str "first"))) (.seq (.ret (.cmp .lt (.var 2) (.var 1))) .skip) .skip) (.seq (.ite (.cmp .eq (.var 0) (.cst (.str "last"))) (.seq (.ret (.cmp .ge (.var 2) (.bin .sub (.glo "MOST_SHADE" (.int 4)) (.var 1)))) .skip) .skip) (.seq (.ret (.cmp .gt (.bin .fdiv (.bin .mul (.bin .add (.var 2) (.cst (.int 1))) (.var 1)) (.glo "MOST_SHADE" (.int 4))) (.bin .fdiv (.bin .mul (.var 2) (.var 1)) (.glo "MOST_SHADE" (.int 4))))) .skip)))⟩
def fn_is_number : Fn := ⟨["thing", "low", "high"], ["thing", "low", "high"], (.seq (.ret (.boo true (.cons (.isi (.var 0) "int") (.cons (.not (.isi (.var 0) "bool")) (.cons (.chn .le .le (.var 1) (.var 0) (.var 2)) .nil))))) .skip)⟩
def fn_is_picture : Fn := ⟨["thing"], ["thing"], (.seq (.ret (.call "are_rows" (.cons (.var 0) (.cons (.glo "MOST_COLUMNS" (.int 6)) .nil)))) .skip)⟩
def fn_is_shot : Fn := ⟨["thing"], ["thing"], (.seq (.ite (.boo false (.cons (.not (.isi (.var 0) "tuple")) (.cons (.cmp .ne (.blt .len (.cons (.var 0) .nil)) (.cst (.int 2))) .nil))) (.seq (.ret (.cst (.bl false))) .skip) .skip) (.seq (.ret (.boo true (.cons (.call "is_picture" (.cons (.ix (.var 0) (.cst (.int 0))) .nil)) (.cons (.call "is_number" (.cons (.ix (.var 0) (.cst (.int 1))) (.cons (.cst (.int 1)) (.cons (.glo "MOST_FRAMES" (.int 3)) .nil)))) .nil)))) .skip))⟩
def fn_is_size : Fn := ⟨["rows", "columns"], ["rows", "columns"], (.seq (.ret (.boo true (.cons (.call "is_number" (.cons (.var 0) (.cons (.cst (.int 1)) (.cons (.glo "MOST_ROWS" (.int 4)) .nil)))) (.cons (.call "is_number" (.cons (.var 1) (.cons (.cst (.int 1)) (.cons (.glo "MOST_COLUMNS" (.int 6)) .nil)))) .nil)))) .skip)⟩
def fn_joined : Fn := ⟨["one", "other"], ["one", "other"], (.seq (.expr (.call "need_film" (.cons (.var 0) .nil))) (.seq (.expr (.call "need_film" (.cons (.var 1) .nil))) (.seq (.ite (.not (.call "is_film" (.cons (.bin .add (.var 0) (.var 1)) .nil))) (.seq (.raise "NoFilm") .skip) .skip) (.seq (.ret (.bin .add (.var 0) (.var 1))) .skip))))⟩
def fn_joined_to : Fn := ⟨["places", "start"], ["places", "start", "found", "at", "row", "column", "near", "place"], (.seq (.asg (.nm 2) (.lst (.cons (.var 1) .nil))) (.seq (.asg (.nm 3) (.cst (.int 0))) (.seq (.whl (.cmp .lt (.var 3) (.blt .len (.cons (.var 2) .nil))) (.seq (.asg (.tu [4, 5]) (.ix (.var 2) (.var 3))) (.seq (.asg (.nm 6) (.lst (.cons (.tup (.cons (.bin .sub (.var 4) (.cst (.int 1))) (.cons (.var 5) .nil))) (.cons (.tup (.cons (.var 4) (.cons (.bin .sub (.var 5) (.cst (.int 1))) .nil))) (.cons (.tup (.cons (.var 4) (.cons (.bin .add (.var 5) (.cst (.int 1))) .nil))) (.cons (.tup (.cons (.bin .add (.var 4) (.cst (.int 1))) (.cons (.var 5) .nil))) .nil)))))) (.seq (.asg (.nm 2) (.bin .add (.var 2) (.comp .seq (.cons (.var 6) .nil) (.nm 7) [("place", 7)] (.cons (.boo true (.cons (.cmp .inn (.var 7) (.var 0)) (.cons (.cmp .nin (.var 7) (.var 2)) .nil))) .nil) (.var 7)))) (.seq (.asg (.nm 3) (.bin .add (.var 3) (.cst (.int 1)))) .skip))))) (.seq (.ret (.blt .sorted (.cons (.var 2) .nil))) .skip))))⟩
def fn_laid : Fn := ⟨["rows", "columns", "layers"], ["rows", "columns", "layers", "row", "column"], (.seq (.expr (.call "need_size" (.cons (.var 0) (.cons (.var 1) .nil)))) (.seq (.ite (.not (.call "are_layers" (.cons (.var 2) .nil))) (.seq (.raise "NoLayers") .skip) .skip) (.seq (.ret (.blt .tuple (.cons (.comp .rng1 (.cons (.var 0) .nil) (.nm 3) [("row", 3)] .nil (.blt .tuple (.cons (.comp .rng1 (.cons (.var 1) .nil) (.nm 4) [("column", 4)] .nil (.call "laid_at" (.cons (.var 2) (.cons (.var 3) (.cons (.var 4) .nil))))) .nil))) .nil))) .skip)))⟩
def fn_laid_at : Fn := ⟨["layers", "row", "column"], ["layers", "row", "column", "found", "picture", "left", "top", "way"], (.seq (.asg (.nm 3) (.cst (.int 0))) (.seq (.loop .seq (.cons (.var 0) .nil) (.tu [4, 5, 6, 7]) (.seq (.asg (.nm 3) (.call "together" (.cons (.var 3) (.cons (.call "shade_at" (.cons (.var 4) (.cons (.bin .sub (.var 1) (.var 6)) (.cons (.bin .sub (.var 2) (.var 5)) .nil)))) (.cons (.var 7) .nil))))) .skip)) (.seq (.ret (.var 3)) .skip)))⟩
def fn_largest : Fn := ⟨["picture"], ["picture", "some", "one"], (.seq (.asg (.nm 1) (.comp .seq (.cons (.call "spots" (.cons (.var 0) .nil)) .nil) (.nm 2) [("one", 2)] .nil (.tup (.cons (.bin .sub (.cst (.int 0)) (.blt .len (.cons (.var 2) .nil))) (.cons (.var 2) .nil))))) (.seq (.ret (.ite (.cmp .ne (.var 1) (.lst .nil)) (.ix (.blt .min (.cons (.var 1) .nil)) (.cst (.int 1))) (.cst .non))) .skip))⟩
def fn_lit : Fn := ⟨["manner", "picture", "tick"], ["manner", "picture", "tick"], (.seq (.expr (.call "need_manner" (.cons (.var 0) .nil))) (.seq (.expr (.call "need_picture" (.cons (.var 1) .nil))) (.seq (.ite (.not (.call "is_number" (.cons (.var 2) (.cons (.cst (.int 0)) (.cons (.bin .sub (.bin .mul (.glo "MOST_SHADE" (.int 4)) (.blt .len (.cons (.var 1) .nil))) (.cst (.int 1))) .nil))))) (.seq (.raise "NoNumber") .skip) .skip) (.seq (.ret (.call "lit_in" (.cons (.var 0) (.cons (.var 1) (.cons (.var 2) .nil))))) .skip))))⟩
def fn_lit_at : Fn := ⟨["manner", "film", "tick"], ["manner", "film", "tick", "picture"], (.seq (.expr (.call "need_manner" (.cons (.var 0) .nil))) (.seq (.expr (.call "need_film" (.cons (.var 1) .nil))) (.seq (.expr (.call "need_tick" (.cons (.var 2) .nil))) (.seq (.asg (.nm 3) (.call "picture_in" (.cons (.var 1) (.cons (.var 2) .nil)))) (.seq (.ret (.call "lit_in" (.cons (.var 0) (.cons (.var 3) (.cons (.bin .mod (.var 2) (.bin .mul (.glo "MOST_SHADE" (.int 4)) (.blt .len (.cons (.var 3) .nil)))) .nil))))) .skip)))))⟩
def fn_lit_in : Fn := ⟨["manner", "picture", "tick"], ["manner", "picture", "tick", "row", "turn", "column", "shade"], (.seq (.asg (.nm 3) (.bin .mod (.var 2) (.blt .len (.cons (.var 1) .nil)))) (.seq (.asg (.nm 4) (.bin .fdiv (.var 2) (.blt .len (.cons (.var 1) .nil)))) (.seq (.ret (.tup (.cons (.var 3) (.cons (.comp .enum (.cons (.ix (.var 1) (.var 3)) .nil) (.tu [5, 6]) [("column", 5), ("shade", 6)] (.cons (.call "is_lit" (.cons (.var 0) (.cons (.var 6) (.cons (.var 4) .nil)))) .nil) (.var 5)) .nil)))) .skip)))⟩
def fn_lit_places : Fn := ⟨["picture"], ["picture", "place"], (.seq (.ret (.comp .seq (.cons (.call "all_places" (.cons (.var 0) .nil)) .nil) (.nm 1) [("place", 1)] (.cons (.cmp .gt (.ix (.ix (.var 0) (.ix (.var 1) (.cst (.int 0)))) (.ix (.var 1) (.cst (.int 1)))) (.cst (.int 0))) .nil) (.var 1))) .skip)⟩
def fn_long_of : Fn := ⟨["book", "text"], ["book", "text"], (.seq (.ret (.blt .len (.cons (.ix (.call "strip" (.cons (.var 0) (.cons (.var 1) .nil))) (.cst (.int 0))) .nil))) .skip)⟩
def fn_longest_dark : Fn := ⟨["manner", "shade"], ["manner", "shade", "turns", "gaps", "one", "other"], (.seq (.asg (.nm 2) (.call "turns_of" (.cons (.var 0) (.cons (.var 1) .nil)))) (.seq (.ite (.cmp .eq (.var 2) (.lst .nil)) (.seq (.ret (.cst .non)) .skip) .skip) (.seq (.asg (.nm 3) (.comp .zip (.cons (.var 2) (.cons (.bin .add (.slc (.var 2) (.cons (.cst (.int 1)) .nil) .nil) (.lst (.cons (.bin .add (.ix (.var 2) (.cst (.int 0))) (.glo "MOST_SHADE" (.int 4))) .nil))) .nil)) (.tu [4, 5]) [("one", 4), ("other", 5)] .nil (.bin .sub (.bin .sub (.var 5) (.var 4)) (.cst (.int 1))))) (.seq (.ret (.blt .max (.cons (.var 3) .nil))) .skip))))⟩
def fn_mirrored : Fn := ⟨["picture"], ["picture", "row"], (.seq (.expr (.call "need_picture" (.cons (.var 0) .nil))) (.seq (.ret (.blt .tuple (.cons (.comp .seq (.cons (.var 0) .nil) (.nm 1) [("row", 1)] .nil (.rev (.var 1))) .nil))) .skip))⟩
def fn_most_lit : Fn := ⟨["manner", "picture"], ["manner", "picture", "found"], (.seq (.asg (.nm 2) (.call "currents" (.cons (.var 0) (.cons (.var 1) .nil)))) (.seq (.ret (.tup (.cons (.blt .max (.cons (.var 2) .nil)) (.cons (.mth .index (.var 2) (.cons (.blt .max (.cons (.var 2) .nil)) .nil)) .nil)))) .skip))⟩
def fn_nearest : Fn := ⟨["picture", "part"], ["picture", "part", "some", "place", "by"], (.seq (.asg (.nm 2) (.comp .seq (.cons (.call "all_apart" (.cons (.var 0) (.cons (.var 1) .nil))) .nil) (.tu [3, 4]) [("place", 3), ("by", 4)] .nil (.tup (.cons (.var 4) (.cons (.var 3) .nil))))) (.seq (.ret (.ite (.cmp .ne (.var 2) (.lst .nil)) (.tup (.cons (.ix (.blt .min (.cons (.var 2) .nil)) (.cst (.int 1))) (.cons (.ix (.blt .min (.cons (.var 2) .nil)) (.cst (.int 0))) .nil))) (.cst .non))) .skip))⟩
def fn_need_book : Fn := ⟨["book"], ["book"], (.seq (.ite (.not (.call "is_book" (.cons (.var 0) .nil))) (.seq (.raise "NoBook") .skip) .skip) .skip)⟩
def fn_need_film : Fn := ⟨["film"], ["film"], (.seq (.ite (.not (.call "is_film" (.cons (.var 0) .nil))) (.seq (.raise "NoFilm") .skip) .skip) .skip)⟩
def fn_need_manner : Fn := ⟨["manner"], ["manner"], (.seq (.ite (.boo false (.cons (.not (.isi (.var 0) "str")) (.cons (.cmp .nin (.var 0) (.glo "MANNERS" (.strs ["first", "last", "spread"]))) .nil))) (.seq (.raise "NoManner") .skip) .skip) .skip)⟩
def fn_need_picture : Fn := ⟨["picture"], ["picture"], (.seq (.ite (.not (.call "is_picture" (.cons (.var 0) .nil))) (.seq (.raise "NoPicture") .skip) .skip) .skip)⟩
def fn_need_place : Fn := ⟨["picture", "place"], ["picture", "place", "rows", "columns"], (.seq (.asg (.tu [2, 3]) (.call "size_of" (.cons (.var 0) .nil))) (.seq (.ite (.boo false (.cons (.not (.isi (.var 1) "tuple")) (.cons (.cmp .ne (.blt .len (.cons (.var 1) .nil)) (.cst (.int 2))) .nil))) (.seq (.raise "NoNumber") .skip) .skip) (.seq (.ite (.boo false (.cons (.not (.call "is_number" (.cons (.ix (.var 1) (.cst (.int 0))) (.cons (.cst (.int 0)) (.cons (.bin .sub (.var 2) (.cst (.int 1))) .nil))))) (.cons (.not (.call "is_number" (.cons (.ix (.var 1) (.cst (.int 1))) (.cons (.cst (.int 0)) (.cons (.bin .sub (.var 3) (.cst (.int 1))) .nil))))) .nil))) (.seq (.raise "NoNumber") .skip) .skip) .skip)))⟩
def fn_need_size : Fn := ⟨["rows", "columns"], ["rows", "columns"], (.seq (.ite (.not (.call "is_size" (.cons (.var 0) (.cons (.var 1) .nil)))) (.seq (.raise "NoSize") .skip) .skip) .skip)⟩
def fn_need_tick : Fn := ⟨["tick"], ["tick"], (.seq (.ite (.not (.call "is_number" (.cons (.var 0) (.cons (.cst (.int 0)) (.cons (.glo "MOST_TICK" (.int 9999)) .nil))))) (.seq (.raise "NoNumber") .skip) .skip) .skip)⟩
def fn_needless : Fn := ⟨["rows", "columns", "layers"], ["rows", "columns", "layers", "whole", "some", "number"], (.seq (.asg (.nm 3) (.call "laid" (.cons (.var 0) (.cons (.var 1) (.cons (.var 2) .nil))))) (.seq (.asg (.nm 4) (.lrg (.blt .len (.cons (.var 2) .nil)))) (.seq (.ret (.comp .seq (.cons (.var 4) .nil) (.nm 5) [("number", 5)] (.cons (.cmp .eq (.call "laid" (.cons (.var 0) (.cons (.var 1) (.cons (.bin .add (.slc (.var 2) .nil (.cons (.var 5) .nil)) (.slc (.var 2) (.cons (.bin .add (.var 5) (.cst (.int 1))) .nil) .nil)) .nil)))) (.var 3)) .nil) (.var 5))) .skip)))⟩
def fn_picture_at : Fn := ⟨["film", "tick"], ["film", "tick"], (.seq (.expr (.call "need_film" (.cons (.var 0) .nil))) (.seq (.expr (.call "need_tick" (.cons (.var 1) .nil))) (.seq (.ret (.call "picture_in" (.cons (.var 0) (.cons (.var 1) .nil)))) .skip)))⟩
def fn_picture_in : Fn := ⟨["film", "tick"], ["film", "tick", "frames"], (.seq (.asg (.nm 2) (.call "shown" (.cons (.var 0) .nil))) (.seq (.ret (.ix (.var 2) (.bin .mod (.bin .fdiv (.var 1) (.bin .mul (.glo "MOST_SHADE" (.int 4)) (.blt .len (.cons (.ix (.ix (.var 0) (.cst (.int 0))) (.cst (.int 0))) .nil)))) (.blt .len (.cons (.var 2) .nil))))) .skip))⟩
def fn_round_of : Fn := ⟨["film"], ["film"], (.seq (.expr (.call "need_film" (.cons (.var 0) .nil))) (.seq (.ret (.bin .mul (.bin .mul (.blt .len (.cons (.call "shown" (.cons (.var 0) .nil)) .nil)) (.glo "MOST_SHADE" (.int 4))) (.blt .len (.cons (.ix (.ix (.var 0) (.cst (.int 0))) (.cst (.int 0))) .nil)))) .skip))⟩
def fn_running : Fn := ⟨["book", "text", "columns", "step"], ["book", "text", "columns", "step", "rows"], (.seq (.asg (.nm 4) (.call "strip" (.cons (.var 0) (.cons (.var 1) .nil)))) (.seq (.expr (.call "need_size" (.cons (.blt .len (.cons (.var 4) .nil)) (.cons (.var 2) .nil)))) (.seq (.ite (.not (.call "is_number" (.cons (.var 3) (.cons (.cst (.int 0)) (.cons (.bin .add (.blt .len (.cons (.ix (.var 4) (.cst (.int 0))) .nil)) (.var 2)) .nil))))) (.seq (.raise "NoNumber") .skip) .skip) (.seq (.ret (.call "window" (.cons (.var 4) (.cons (.blt .len (.cons (.var 4) .nil)) (.cons (.var 2) (.cons (.bin .sub (.var 3) (.var 2)) (.cons (.cst (.int 0)) .nil))))))) .skip))))⟩
def fn_same_to_eye : Fn := ⟨["one", "other"], ["one", "other", "mine", "yours", "many"], (.seq (.expr (.call "need_film" (.cons (.var 0) .nil))) (.seq (.expr (.call "need_film" (.cons (.var 1) .nil))) (.seq (.ite (.cmp .ne (.call "size_of" (.cons (.ix (.ix (.var 0) (.cst (.int 0))) (.cst (.int 0))) .nil)) (.call "size_of" (.cons (.ix (.ix (.var 1) (.cst (.int 0))) (.cst (.int 0))) .nil))) (.seq (.ret (.cst (.bl false))) .skip) .skip) (.seq (.asg (.nm 2) (.call "sums_of" (.cons (.var 0) .nil))) (.seq (.asg (.nm 3) (.call "sums_of" (.cons (.var 1) .nil))) (.seq (.ret (.cmp .eq (.comp .seq (.cons (.var 2) .nil) (.nm 4) [("many", 4)] .nil (.bin .mul (.var 4) (.blt .len (.cons (.call "shown" (.cons (.var 1) .nil)) .nil)))) (.comp .seq (.cons (.var 3) .nil) (.nm 4) [("many", 4)] .nil (.bin .mul (.var 4) (.blt .len (.cons (.call "shown" (.cons (.var 0) .nil)) .nil)))))) .skip))))))⟩
def fn_seen : Fn := ⟨["manner", "film", "first", "last"], ["manner", "film", "first", "last", "rows", "columns", "found", "tick", "row", "on", "column", "many"], (.seq (.expr (.call "need_manner" (.cons (.var 0) .nil))) (.seq (.expr (.call "need_film" (.cons (.var 1) .nil))) (.seq (.expr (.call "need_tick" (.cons (.var 2) .nil))) (.seq (.expr (.call "need_tick" (.cons (.var 3) .nil))) (.seq (.ite (.cmp .lt (.var 3) (.var 2)) (.seq (.raise "NoNumber") .skip) .skip) (.seq (.asg (.tu [4, 5]) (.call "size_of" (.cons (.ix (.ix (.var 1) (.cst (.int 0))) (.cst (.int 0))) .nil))) (.seq (.own 6 (.comp .rng1 (.cons (.var 4) .nil) (.nm 8) [("row", 8)] .nil (.bin .mul (.lst (.cons (.cst (.int 0)) .nil)) (.var 5)))) (.seq (.loop .rng2 (.cons (.var 2) (.cons (.bin .add (.var 3) (.cst (.int 1))) .nil)) (.nm 7) (.seq (.asg (.tu [8, 9]) (.call "lit_at" (.cons (.var 0) (.cons (.var 1) (.cons (.var 7) .nil))))) (.seq (.set 6 (.var 8) (.comp .enum (.cons (.ix (.pk 6) (.var 8)) .nil) (.tu [10, 11]) [("column", 10), ("many", 11)] .nil (.bin .add (.var 11) (.blt .int (.cons (.cmp .inn (.var 10) (.var 9)) .nil))))) .skip))) (.seq (.frz 6) (.seq (.ret (.var 6)) .skip))))))))))⟩
def fn_shade_at : Fn := ⟨["picture", "row", "column"], ["picture", "row", "column"], (.seq (.ite (.boo false (.cons (.not (.chn .le .lt (.cst (.int 0)) (.var 1) (.blt .len (.cons (.var 0) .nil)))) (.cons (.not (.chn .le .lt (.cst (.int 0)) (.var 2) (.blt .len (.cons (.ix (.var 0) (.cst (.int 0))) .nil)))) .nil))) (.seq (.ret (.cst (.int 0))) .skip) .skip) (.seq (.ret (.ix (.ix (.var 0) (.var 1)) (.var 2))) .skip))⟩
def fn_shades_apart : Fn := ⟨["one", "other"], ["one", "other", "found", "mine", "yours", "shade", "more"], (.seq (.asg (.nm 2) (.cst (.int 0))) (.seq (.loop .zip (.cons (.var 0) (.cons (.var 1) .nil)) (.tu [3, 4]) (.seq (.asg (.nm 2) (.bin .add (.var 2) (.blt .sum (.cons (.comp .zip (.cons (.var 3) (.cons (.var 4) .nil)) (.tu [5, 6]) [("shade", 5), ("more", 6)] .nil (.blt .abs (.cons (.bin .sub (.var 5) (.var 6)) .nil))) .nil)))) .skip)) (.seq (.ret (.var 2)) .skip)))⟩
def fn_shifted : Fn := ⟨["picture", "right", "down"], ["picture", "right", "down", "rows", "columns"], (.seq (.expr (.call "need_picture" (.cons (.var 0) .nil))) (.seq (.ite (.boo false (.cons (.not (.call "is_number" (.cons (.var 1) (.cons (.bin .sub (.cst (.int 0)) (.glo "FAR" (.int 99))) (.cons (.glo "FAR" (.int 99)) .nil))))) (.cons (.not (.call "is_number" (.cons (.var 2) (.cons (.bin .sub (.cst (.int 0)) (.glo "FAR" (.int 99))) (.cons (.glo "FAR" (.int 99)) .nil))))) .nil))) (.seq (.raise "NoNumber") .skip) .skip) (.seq (.asg (.tu [3, 4]) (.call "size_of" (.cons (.var 0) .nil))) (.seq (.ret (.call "window" (.cons (.var 0) (.cons (.var 3) (.cons (.var 4) (.cons (.bin .sub (.cst (.int 0)) (.var 1)) (.cons (.bin .sub (.cst (.int 0)) (.var 2)) .nil))))))) .skip))))⟩
def fn_shown : Fn := ⟨["film"], ["film", "found", "picture", "frames"], (.seq (.own 1 (.lst .nil)) (.seq (.loop .seq (.cons (.var 0) .nil) (.tu [2, 3]) (.seq (.ext 1 (.bin .mul (.lst (.cons (.var 2) .nil)) (.var 3))) .skip)) (.seq (.frz 1) (.seq (.ret (.var 1)) .skip))))⟩
def fn_size_of : Fn := ⟨["picture"], ["picture"], (.seq (.ret (.tup (.cons (.blt .len (.cons (.var 0) .nil)) (.cons (.blt .len (.cons (.ix (.var 0) (.cst (.int 0))) .nil)) .nil)))) .skip)⟩
def fn_spot_at : Fn := ⟨["picture", "place"], ["picture", "place", "places"], (.seq (.expr (.call "need_picture" (.cons (.var 0) .nil))) (.seq (.expr (.call "need_place" (.cons (.var 0) (.cons (.var 1) .nil)))) (.seq (.asg (.nm 2) (.call "lit_places" (.cons (.var 0) .nil))) (.seq (.ret (.ite (.cmp .inn (.var 1) (.var 2)) (.call "joined_to" (.cons (.var 2) (.cons (.var 1) .nil))) (.lst .nil))) .skip))))⟩
def fn_spots : Fn := ⟨["picture"], ["picture"], (.seq (.expr (.call "need_picture" (.cons (.var 0) .nil))) (.seq (.ret (.call "all_spots" (.cons (.var 0) .nil))) .skip))⟩
def fn_steps_of : Fn := ⟨["book", "text", "columns"], ["book", "text", "columns", "rows"], (.seq (.asg (.nm 3) (.call "strip" (.cons (.var 0) (.cons (.var 1) .nil)))) (.seq (.expr (.call "need_size" (.cons (.blt .len (.cons (.var 3) .nil)) (.cons (.var 2) .nil)))) (.seq (.ret (.bin .add (.blt .len (.cons (.ix (.var 3) (.cst (.int 0))) .nil)) (.var 2))) .skip)))⟩
def fn_sums_of : Fn := ⟨["film"], ["film", "rows", "columns", "found", "row", "column", "picture"], (.seq (.asg (.tu [1, 2]) (.call "size_of" (.cons (.ix (.ix (.var 0) (.cst (.int 0))) (.cst (.int 0))) .nil))) (.seq (.own 3 (.lst .nil)) (.seq (.loop .rng1 (.cons (.var 1) .nil) (.nm 4) (.seq (.ext 3 (.comp .rng1 (.cons (.var 2) .nil) (.nm 5) [("column", 5)] .nil (.blt .sum (.cons (.comp .seq (.cons (.call "shown" (.cons (.var 0) .nil)) .nil) (.nm 6) [("picture", 6)] .nil (.ix (.ix (.var 6) (.var 4)) (.var 5))) .nil)))) .skip)) (.seq (.frz 3) (.seq (.ret (.var 3)) .skip)))))⟩
def fn_ticks_of : Fn := ⟨["picture"], ["picture"], (.seq (.expr (.call "need_picture" (.cons (.var 0) .nil))) (.seq (.ret (.bin .mul (.glo "MOST_SHADE" (.int 4)) (.blt .len (.cons (.var 0) .nil)))) .skip))⟩
def fn_tight : Fn := ⟨["film"], ["film", "found", "picture"], (.seq (.expr (.call "need_film" (.cons (.var 0) .nil))) (.seq (.own 1 (.lst .nil)) (.seq (.loop .seq (.cons (.call "shown" (.cons (.var 0) .nil)) .nil) (.nm 2) (.seq (.ite (.boo true (.cons (.cmp .ne (.pk 1) (.lst .nil)) (.cons (.cmp .eq (.ix (.ix (.pk 1) (.neg (.cst (.int 1)))) (.cst (.int 0))) (.var 2)) (.cons (.cmp .lt (.ix (.ix (.pk 1) (.neg (.cst (.int 1)))) (.cst (.int 1))) (.glo "MOST_FRAMES" (.int 3))) .nil)))) (.seq (.set 1 (.neg (.cst (.int 1))) (.tup (.cons (.var 2) (.cons (.bin .add (.ix (.ix (.pk 1) (.neg (.cst (.int 1)))) (.cst (.int 1))) (.cst (.int 1))) .nil)))) .skip) (.seq (.app 1 (.tup (.cons (.var 2) (.cons (.cst (.int 1)) .nil)))) .skip)) .skip)) (.seq (.ret (.blt .tuple (.cons (.pk 1) .nil))) .skip))))⟩
def fn_together : Fn := ⟨["below", "above", "way"], ["below", "above", "way"], (.seq (.ite (.cmp .eq (.var 2) (.cst (.str "over"))) (.seq (.ret (.ite (.cmp .gt (.var 1) (.cst (.int 0))) (.var 1) (.var 0))) .skip) .skip) (.seq (.ite (.cmp .eq (.var 2) (.cst (.str "under"))) (.seq (.ret (.ite (.cmp .gt (.var 0) (.cst (.int 0))) (.var 0) (.var 1))) .skip) .skip) (.seq (.ret (.ite (.cmp .eq (.var 2) (.cst (.str "add"))) (.blt .min (.cons (.glo "MOST_SHADE" (.int 4)) (.cons (.bin .add (.var 0) (.var 1)) .nil))) (.blt .max (.cons (.cst (.int 0)) (.cons (.bin .sub (.var 0) (.var 1)) .nil))))) .skip)))⟩
def fn_total : Fn := ⟨["picture"], ["picture", "row"], (.seq (.expr (.call "need_picture" (.cons (.var 0) .nil))) (.seq (.ret (.blt .sum (.cons (.comp .seq (.cons (.var 0) .nil) (.nm 1) [("row", 1)] .nil (.blt .sum (.cons (.var 1) .nil))) .nil))) .skip))⟩
def fn_turns_of : Fn := ⟨["manner", "shade"], ["manner", "shade", "turn"], (.seq (.expr (.call "need_manner" (.cons (.var 0) .nil))) (.seq (.ite (.not (.call "is_number" (.cons (.var 1) (.cons (.cst (.int 0)) (.cons (.glo "MOST_SHADE" (.int 4)) .nil))))) (.seq (.raise "NoNumber") .skip) .skip) (.seq (.ret (.comp .rng1 (.cons (.glo "MOST_SHADE" (.int 4)) .nil) (.nm 2) [("turn", 2)] (.cons (.call "is_lit" (.cons (.var 0) (.cons (.var 1) (.cons (.var 2) .nil)))) .nil) (.var 2))) .skip)))⟩
def fn_where : Fn := ⟨["picture", "part"], ["picture", "part", "place", "by"], (.seq (.ret (.comp .seq (.cons (.call "all_apart" (.cons (.var 0) (.cons (.var 1) .nil))) .nil) (.tu [2, 3]) [("place", 2), ("by", 3)] (.cons (.cmp .eq (.var 3) (.cst (.int 0))) .nil) (.var 2))) .skip)⟩
def fn_window : Fn := ⟨["picture", "rows", "columns", "left", "top"], ["picture", "rows", "columns", "left", "top", "found", "row", "column"], (.seq (.own 5 (.lst .nil)) (.seq (.loop .rng1 (.cons (.var 1) .nil) (.nm 6) (.seq (.app 5 (.blt .tuple (.cons (.comp .rng1 (.cons (.var 2) .nil) (.nm 7) [("column", 7)] .nil (.call "shade_at" (.cons (.var 0) (.cons (.bin .add (.var 4) (.var 6)) (.cons (.bin .add (.var 3) (.var 7)) .nil))))) .nil))) .skip)) (.seq (.ret (.blt .tuple (.cons (.pk 5) .nil))) .skip)))⟩
end Ev

end
section
set_option maxRecDepth 100000
set_option maxHeartbeats 4000000
namespace Ev.Vw
open PySem Ev
/-! ### equations, one a form -/
section
variable {Φ : Fns} {ρ : Env} {a b c : E} {s t : S}
theorem e_var {i : Nat} : evE Φ (.var i) ρ = M.lift (match ρ[i]? with | some (.val d) => some d | _ => none) := by simp only [evE] <;> rfl
theorem e_pk {i : Nat} : evE Φ (.pk i) ρ = M.lift (match ρ[i]? with | some (.own l) => some (.lst l) | _ => none) := by simp only [evE] <;> rfl
theorem e_cst {d : D} : evE Φ (.cst d) ρ = M.pure d := by simp only [evE]
theorem e_glo {x : Str} {c : Cn} : evE Φ (.glo x c) ρ = M.pure c.d := by simp only [evE]
theorem e_bin {o : Bop} : evE Φ (.bin o a b) ρ = (evE Φ a ρ).bind fun x => (evE Φ b ρ).bind fun y => M.lift (bop o x y) := by simp only [evE]
theorem e_neg : evE Φ (.neg a) ρ = (evE Φ a ρ).bind fun x => M.lift (match x with | .int i => some (.int (-i)) | _ => none) := by simp only [evE] <;> rfl
theorem e_not : evE Φ (.not a) ρ = (evE Φ a ρ).bind fun x => M.lift ((asBl x).map fun b => .bl (!b)) := by simp only [evE]
theorem e_cmp {o : Cop} : evE Φ (.cmp o a b) ρ = (evE Φ a ρ).bind fun x => (evE Φ b ρ).bind fun y => M.lift ((cop o x y).map .bl) := by simp only [evE]
theorem e_chn {o p : Cop} : evE Φ (.chn o p a b c) ρ = (evE Φ a ρ).bind fun x => (evE Φ b ρ).bind fun y => (M.lift (cop o x y)).bind fun k => if k then (evE Φ c ρ).bind fun z => M.lift ((cop p y z).map .bl) else M.pure (.bl false) := by simp only [evE]
theorem e_boo {k : Bool} : evE Φ (.boo k a) ρ = evB Φ k a ρ := by simp only [evE]
theorem e_ite : evE Φ (.ite c a b) ρ = (evE Φ c ρ).bind fun x => (M.lift (asBl x)).bind fun k => if k then evE Φ a ρ else evE Φ b ρ := by simp only [evE]
theorem e_tup : evE Φ (.tup a) ρ = (evA Φ a ρ).bind fun ds => M.pure (.tup ds) := by simp only [evE]
theorem e_lst : evE Φ (.lst a) ρ = (evA Φ a ρ).bind fun ds => M.pure (.lst ds) := by simp only [evE]
theorem e_ix : evE Φ (.ix a b) ρ = (evE Φ a ρ).bind fun x => (evE Φ b ρ).bind fun y => M.lift (ixD x y) := by simp only [evE]
theorem e_slc : evE Φ (.slc a b c) ρ = (evE Φ a ρ).bind fun x => (evA Φ b ρ).bind fun l => (M.lift (partD l)).bind fun l => (evA Φ c ρ).bind fun h => (M.lift (partD h)).bind fun h => M.lift (slcD x l h) := by simp only [evE]
theorem e_rev : evE Φ (.rev a) ρ = (evE Φ a ρ).bind fun x => M.lift (revD x) := by simp only [evE]
theorem e_call {f : Str} : evE Φ (.call f a) ρ = (evA Φ a ρ).bind fun ds => Φ f ds := by simp only [evE]
theorem e_blt {o : Blt} : evE Φ (.blt o a) ρ = (evA Φ a ρ).bind fun ds => M.lift (blt o ds) := by simp only [evE]
theorem e_isi {t : String} : evE Φ (.isi a t) ρ = (evE Φ a ρ).bind fun x => M.lift ((isiD x t).map .bl) := by simp only [evE]
/-- a comprehension's turn -/
def oneC (Φ : Fns) (tg : T) (us : List Nat) (cnd elt : E) (ρ : Env) (x : D) : M (Option D) :=
  (M.lift (put tg x (wipe ρ us))).bind fun ρ' => (evT Φ cnd ρ').bind fun b => if b then (evE Φ elt ρ').bind fun y => M.pure (some y) else M.pure none
theorem e_comp {k : Ik} {src cnd elt : E} {tg : T} {own : List (Str × Nat)} : evE Φ (.comp k src tg own cnd elt) ρ = (evA Φ src ρ).bind fun ds => (M.lift (itm k ds)).bind fun items => (M.calm (compL (oneC Φ tg (own.map (·.2)) cnd elt ρ) items)).bind fun l => M.pure (.lst l) := by simp only [evE] <;> rfl
theorem a_nil : evA Φ .nil ρ = M.pure [] := by simp only [evA]
theorem a_cons : evA Φ (.cons a b) ρ = (evE Φ a ρ).bind fun x => (evA Φ b ρ).bind fun xs => M.pure (x :: xs) := by simp only [evA]
theorem b_one {k : Bool} : evB Φ k (.cons a .nil) ρ = evE Φ a ρ := by simp only [evB]
theorem b_cons {k : Bool} {d : E} : evB Φ k (.cons a (.cons b d)) ρ = (evE Φ a ρ).bind fun x => (M.lift (asBl x)).bind fun c => if c = k then evB Φ k (.cons b d) ρ else M.pure (.bl (!k)) := by simp only [evB]
theorem t_nil : evT Φ .nil ρ = M.pure true := by simp only [evT]
theorem t_one : evT Φ (.cons c .nil) ρ = (evE Φ c ρ).bind fun x => M.lift (asBl x) := by simp only [evT]
theorem s_skip : evS Φ .skip ρ = M.pure (.nx, ρ) := by simp only [evS] <;> rfl
theorem s_seq : evS Φ (.seq s t) ρ = (evS Φ s ρ).bind fun r => match r.1 with | .nx => evS Φ t r.2 | .rt d => M.pure (.rt d, r.2) := by simp only [evS] <;> rfl
theorem s_asg {t : T} {e : E} : evS Φ (.asg t e) ρ = (evE Φ e ρ).bind fun d => (M.lift (put t d ρ)).bind fun ρ => M.pure (.nx, ρ) := by simp only [evS] <;> rfl
theorem s_own {i : Nat} {e : E} : evS Φ (.own i e) ρ = (evE Φ e ρ).bind fun d => match d with | .lst l => M.pure (.nx, ρ.set i (.own l)) | _ => M.er := by simp only [evS] <;> rfl
theorem s_frz {i : Nat} : evS Φ (.frz i) ρ = match ρ[i]? with | some (.own l) => M.pure (.nx, ρ.set i (.val (.lst l))) | _ => M.er := by simp only [evS] <;> rfl
theorem s_set {i : Nat} {j e : E} : evS Φ (.set i j e) ρ = (evE Φ e ρ).bind fun d => match ρ[i]? with
    | some (.own l) => (evE Φ j ρ).bind fun k => (M.lift (match k with | .int k => ixN l.length k | _ => none)).bind fun m => M.pure (.nx, ρ.set i (.own (l.set m d)))
    | _ => M.er := by simp only [evS] <;> rfl
theorem s_app {i : Nat} {e : E} : evS Φ (.app i e) ρ = match ρ[i]? with
    | some (.own l) => (evE Φ e ρ).bind fun d => if l.length < line then M.pure (.nx, ρ.set i (.own (l ++ [d]))) else M.er
    | _ => M.er := by simp only [evS] <;> rfl
theorem s_ext {i : Nat} {e : E} : evS Φ (.ext i e) ρ = match ρ[i]? with
    | some (.own l) => (evE Φ e ρ).bind fun d => match d with
      | .lst m => if l.length + m.length ≤ line then M.pure (.nx, ρ.set i (.own (l ++ m))) else M.er
      | _ => M.er
    | _ => M.er := by simp only [evS] <;> rfl
theorem s_expr {e : E} : evS Φ (.expr e) ρ = (evE Φ e ρ).bind fun _ => M.pure (.nx, ρ) := by simp only [evS] <;> rfl
theorem s_ret {e : E} : evS Φ (.ret e) ρ = (evE Φ e ρ).bind fun d => M.pure (.rt d, ρ) := by simp only [evS]
theorem s_ite : evS Φ (.ite c s t) ρ = (evE Φ c ρ).bind fun x => (M.lift (asBl x)).bind fun k => if k then evS Φ s ρ else evS Φ t ρ := by simp only [evS]
theorem s_loop {k : Ik} {src : E} {tg : T} {b : S} : evS Φ (.loop k src tg b) ρ = (evA Φ src ρ).bind fun ds => (M.lift (itm k ds)).bind fun items => forL (put tg) (evS Φ b) items ρ := by simp only [evS]
end
/-! ### operators on ints, and the like -/
theorem o_add {i j : Int} : bop .add (.int i) (.int j) = some (.int (i + j)) := (rfl)
theorem o_sub {i j : Int} : bop .sub (.int i) (.int j) = some (.int (i - j)) := (rfl)
theorem o_mull {i j : Int} (h : smallI i = true) : bop .mul (.int i) (.int j) = some (.int (i * j)) := by simp [bop, h]
theorem o_mulr {i j : Int} (h : smallI j = true) : bop .mul (.int i) (.int j) = some (.int (i * j)) := by simp [bop, h]
theorem o_mod {i j : Int} (h : 0 < j) : bop .mod (.int i) (.int j) = some (.int (i % j)) := by simp [bop, h]
theorem o_div {i j : Int} (h : 0 < j) (h2 : j < 1073741824) : bop .fdiv (.int i) (.int j) = some (.int (i / j)) := by simp [bop, h, h2]
theorem o_addt {x y : List D} (h : x.length + y.length ≤ 16777216) : bop .add (.tup x) (.tup y) = some (.tup (x ++ y)) := by simp [bop, line, h]
theorem o_addl {x y : List D} (h : x.length + y.length ≤ 16777216) : bop .add (.lst x) (.lst y) = some (.lst (x ++ y)) := by simp [bop, line, h]
theorem o_lt {i j : Int} : cop .lt (.int i) (.int j) = some (decide (i < j)) := (rfl)
theorem o_le {i j : Int} : cop .le (.int i) (.int j) = some (decide (i ≤ j)) := (rfl)
theorem o_gt {i j : Int} : cop .gt (.int i) (.int j) = some (decide (j < i)) := (rfl)
theorem o_ge {i j : Int} : cop .ge (.int i) (.int j) = some (decide (j ≤ i)) := (rfl)
theorem u_lenl {l : List D} : blt .len [.lst l] = some (.int (l.length : Nat)) := (rfl)
theorem u_lent {l : List D} : blt .len [.tup l] = some (.int (l.length : Nat)) := (rfl)
theorem u_lens {l : List Int} : blt .len [.scr l] = some (.int (l.length : Nat)) := (rfl)
theorem u_max {i j : Int} : blt .max [.int i, .int j] = some (.int (if j > i then j else i)) := (rfl)
theorem u_min {i j : Int} : blt .min [.int i, .int j] = some (.int (if j < i then j else i)) := (rfl)
theorem u_abs {i : Int} : blt .abs [.int i] = some (.int (if i < 0 then -i else i)) := (rfl)
theorem u_tupl {l : List D} : blt .tuple [.lst l] = some (.tup l) := (rfl)
theorem u_tupt {l : List D} : blt .tuple [.tup l] = some (.tup l) := (rfl)
theorem u_all {l : List D} {bs : List Bool} (h : blsOf l = some bs) : blt .all [.lst l] = some (.bl (bs.all id)) := by simp [blt, h]
theorem u_suml {l : List D} {ns : List Int} (h : intsOf l = some ns) : blt .sum [.lst l] = some (.int ns.sum) := by simp [blt, h]
theorem u_sumt {l : List D} {ns : List Int} (h : intsOf l = some ns) : blt .sum [.tup l] = some (.int ns.sum) := by simp [blt, h]
theorem blsOf_map {α : Type} {f : α → Bool} : ∀ l : List α, blsOf (l.map fun a => .bl (f a)) = some (l.map f)
  | [] => rfl
  | a :: l => by simp [blsOf, blsOf_map l]
theorem intsOf_map {α : Type} {f : α → Int} : ∀ l : List α, intsOf (l.map fun a => .int (f a)) = some (l.map f)
  | [] => rfl
  | a :: l => by simp [intsOf, intsOf_map l]
theorem i_int {i : Int} : isiD (.int i) "int" = some true := (rfl)
theorem i_bool {i : Int} : isiD (.int i) "bool" = some false := (rfl)
theorem i_tup {l : List D} : isiD (.tup l) "tuple" = some true := (rfl)
theorem i_rng1 {n : Nat} (h : n ≤ 16777216) : itm .rng1 [.int (n : Nat)] = some ((List.range n).map fun k => .int (k : Nat)) := itRng1_nat h
theorem i_lst {l : List D} : itm .seq [.lst l] = some l := (rfl)
theorem i_tupl {l : List D} : itm .seq [.tup l] = some l := (rfl)
/-! ### runs -/
def Go {α : Type} (m : M α) (P : α → Prop) : Prop := ∃ a, m = M.pure a ∧ P a
theorem Go.pure {α : Type} {a : α} {P : α → Prop} (h : P a) : Go (M.pure a) P := ⟨a, rfl, h⟩
theorem Go.call {α β : Type} {m : M α} {a : α} {k : α → M β} {P : β → Prop} (h : m = M.pure a) (h2 : Go (k a) P) : Go (m.bind k) P := by subst h; exact h2
theorem Go.bind {α β : Type} {m : M α} {k : α → M β} {P : β → Prop} {Q : α → Prop} (h : Go m Q) (h2 : ∀ a, Q a → Go (k a) P) : Go (m.bind k) P := by
  obtain ⟨a, rfl, q⟩ := h
  exact h2 a q
theorem Go.eq {α : Type} {m : M α} {a : α} (h : Go m fun b => b = a) : m = M.pure a := by
  obtain ⟨b, rfl, rfl⟩ := h
  rfl
theorem Go.imp {α : Type} {m : M α} {P Q : α → Prop} (h : Go m P) (k : ∀ a, P a → Q a) : Go m Q := let ⟨a, e, p⟩ := h; ⟨a, e, k a p⟩
theorem Go.ite {α : Type} {c : Prop} [Decidable c] {m n : M α} {P : α → Prop} (h1 : c → Go m P) (h2 : ¬ c → Go n P) : Go (if c then m else n) P := by
  split
  · exact h1 ‹_›
  · exact h2 ‹_›
theorem Go.loop {α : Type} {bind : D → Env → Option Env} {body : Env → M (Fl × Env)} {items : List D} {ρ : Env} {k : Fl × Env → M α} {P : α → Prop} (I : Nat → Env → Prop) (h0 : I 0 ρ)
    (step : ∀ i x ρ, items[i]? = some x → I i ρ → ∃ ρ1, bind x ρ = some ρ1 ∧ Go (body ρ1) fun r => r.1 = .nx ∧ I (i + 1) r.2) (fin : ∀ ρ', I items.length ρ' → Go (k (.nx, ρ')) P) : Go ((forL bind body items ρ).bind k) P := by
  obtain ⟨ρ', h1, h2⟩ := forL_inv (bind := bind) (body := body) (items := items) I (fun i x ρ hx hI => by
    obtain ⟨ρ1, g1, ⟨f, ρ2⟩, g2, g3, g4⟩ := step i x ρ hx hI
    cases g3
    exact ⟨ρ1, ρ2, g1, g2, g4⟩) h0
  rw [h2]
  exact fin ρ' h1
/-- a loop over a mapped list -/
theorem Go.loopM {α β : Type} {bind : D → Env → Option Env} {body : Env → M (Fl × Env)} {l : List β} {emb : β → D} {ρ : Env} {k : Fl × Env → M α} {P : α → Prop} (I : Nat → Env → Prop) (h0 : I 0 ρ)
    (step : ∀ i b ρ, l[i]? = some b → I i ρ → ∃ ρ1, bind (emb b) ρ = some ρ1 ∧ Go (body ρ1) fun r => r.1 = .nx ∧ I (i + 1) r.2) (fin : ∀ ρ', I l.length ρ' → Go (k (.nx, ρ')) P) : Go ((forL bind body (l.map emb) ρ).bind k) P :=
  Go.loop I h0 (fun i x ρ hx hI => by
    rw [List.getElem?_map, Option.map_eq_some_iff] at hx
    obtain ⟨b, hb, rfl⟩ := hx
    exact step i b ρ hb hI) (by rw [List.length_map]; exact fin)
theorem Go.loopR {α : Type} {bind : D → Env → Option Env} {body : Env → M (Fl × Env)} {n : Nat} {emb : Nat → D} {ρ : Env} {k : Fl × Env → M α} {P : α → Prop} (I : Nat → Env → Prop) (h0 : I 0 ρ)
    (step : ∀ i ρ, i < n → I i ρ → ∃ ρ1, bind (emb i) ρ = some ρ1 ∧ Go (body ρ1) fun r => r.1 = .nx ∧ I (i + 1) r.2) (fin : ∀ ρ', I n ρ' → Go (k (.nx, ρ')) P) : Go ((forL bind body ((List.range n).map emb) ρ).bind k) P :=
  Go.loopM I h0 (fun i b ρ hb hI => by
    have hi : i < n := by simpa using (List.getElem?_eq_some_iff.mp hb).1
    rw [List.getElem?_range hi] at hb
    cases hb
    exact step i ρ hi hI) (by rw [List.length_range]; exact fin)
theorem Go.comp {α β : Type} {one : D → M (Option D)} {l : List β} {emb : β → D} {k : List D → M α} {P : α → Prop} (g : β → D) (h : ∀ a ∈ l, Go (one (emb a)) fun o => o = some (g a)) (fin : Go (k (l.map g)) P) : Go ((M.calm (compL one (l.map emb))).bind k) P := by
  rw [compL_map fun a ha => (h a ha).eq]
  exact fin
theorem Go.compR {α : Type} {one : D → M (Option D)} {n : Nat} {emb : Nat → D} {k : List D → M α} {P : α → Prop} (g : Nat → D) (h : ∀ a, a < n → Go (one (emb a)) fun o => o = some (g a)) (fin : Go (k ((List.range n).map g)) P) : Go ((M.calm (compL one ((List.range n).map emb))).bind k) P :=
  Go.comp g (fun a ha => h a (List.mem_range.mp ha)) fin
theorem Go.compF {α β : Type} {one : D → M (Option D)} {l : List β} {emb : β → D} {k : List D → M α} {P : α → Prop} (p : β → Bool) (g : β → D) (h : ∀ a ∈ l, Go (one (emb a)) fun o => o = if p a then some (g a) else none) (fin : Go (k ((l.filter p).map g)) P) : Go ((M.calm (compL one (l.map emb))).bind k) P := by
  rw [compL_flt fun a ha => (h a ha).eq]
  exact fin
section
variable {Φ : Fns} {ρ : Env} {P : Fl × Env → Prop} {e c : E} {a b rest : S} {t : T} {i : Nat}
theorem Go.skipS (h : P (.nx, ρ)) : Go (evS Φ .skip ρ) P := by rw [s_skip]; exact .pure h
theorem Go.if0 (h : evE Φ c ρ = M.pure (.bl false)) (k : Go (evS Φ rest ρ) P) : Go (evS Φ (.seq (.ite c a .skip) rest) ρ) P := by
  rw [s_seq, s_ite, h]
  simp only [M.pure_bind, asBl, M.lift_some, Bool.false_eq_true, if_false, s_skip]
  exact k
theorem Go.if1 (h : evE Φ c ρ = M.pure (.bl true)) (k : Go (evS Φ (.seq a rest) ρ) P) : Go (evS Φ (.seq (.ite c a b) rest) ρ) P := by
  rw [s_seq] at k ⊢
  rw [s_ite, h]
  simp only [M.pure_bind, asBl, M.lift_some, if_true]
  exact k
theorem Go.if2 (h : evE Φ c ρ = M.pure (.bl false)) (k : Go (evS Φ (.seq b rest) ρ) P) : Go (evS Φ (.seq (.ite c a b) rest) ρ) P := by
  rw [s_seq] at k ⊢
  rw [s_ite, h]
  simp only [M.pure_bind, asBl, M.lift_some, Bool.false_eq_true, if_false]
  exact k
theorem Go.skip1 (k : Go (evS Φ rest ρ) P) : Go (evS Φ (.seq .skip rest) ρ) P := by
  rw [s_seq, s_skip]
  exact k
theorem Go.assoc (k : Go (evS Φ (.seq a (.seq b rest)) ρ) P) : Go (evS Φ (.seq (.seq a b) rest) ρ) P := by
  rw [s_seq, s_seq, M.bind_assoc]
  rw [s_seq] at k
  have : (fun r : Fl × Env => (match r.1 with | .nx => evS Φ b r.2 | .rt d => M.pure (.rt d, r.2)).bind fun r => match r.1 with | .nx => evS Φ rest r.2 | .rt d => M.pure (.rt d, r.2)) = fun r : Fl × Env => match r.1 with | .nx => evS Φ (.seq b rest) r.2 | .rt d => M.pure (.rt d, r.2) := by
    funext r
    obtain ⟨f, ρ'⟩ := r
    cases f with
    | nx => simp only [s_seq]
    | rt d => rfl
  rw [this]
  exact k
theorem Go.asgS {ρ' : Env} (d : D) (h : evE Φ e ρ = M.pure d) (hp : put t d ρ = some ρ') (k : Go (evS Φ rest ρ') P) : Go (evS Φ (.seq (.asg t e) rest) ρ) P := by
  rw [s_seq, s_asg, h, M.pure_bind, hp, M.lift_some, M.pure_bind, M.pure_bind]
  exact k
theorem Go.ownS (l : List D) (h : evE Φ e ρ = M.pure (.lst l)) (k : Go (evS Φ rest (ρ.set i (.own l))) P) : Go (evS Φ (.seq (.own i e) rest) ρ) P := by
  rw [s_seq, s_own, h]
  exact k
theorem Go.appS {l : List D} (d : D) (h0 : ρ[i]? = some (.own l)) (h : evE Φ e ρ = M.pure d) (hz : l.length < 16777216) (k : Go (evS Φ rest (ρ.set i (.own (l ++ [d])))) P) : Go (evS Φ (.seq (.app i e) rest) ρ) P := by
  rw [s_seq, s_app, h0]
  simp only []
  rw [h, M.pure_bind, if_pos (show l.length < line from hz)]
  exact k
theorem Go.extS {l : List D} (m : List D) (h0 : ρ[i]? = some (.own l)) (h : evE Φ e ρ = M.pure (.lst m)) (hz : l.length + m.length ≤ 16777216) (k : Go (evS Φ rest (ρ.set i (.own (l ++ m)))) P) : Go (evS Φ (.seq (.ext i e) rest) ρ) P := by
  rw [s_seq, s_ext, h0]
  simp only []
  rw [h, M.pure_bind]
  simp only []
  rw [if_pos (show l.length + m.length ≤ line from hz)]
  exact k
theorem Go.setS {l : List D} {j : E} (d : D) (n m : Nat) (h0 : ρ[i]? = some (.own l)) (h : evE Φ e ρ = M.pure d) (h2 : evE Φ j ρ = M.pure (.int n)) (hz : ixN l.length (n : Nat) = some m) (k : Go (evS Φ rest (ρ.set i (.own (l.set m d)))) P) : Go (evS Φ (.seq (.set i j e) rest) ρ) P := by
  rw [s_seq, s_set, h, M.pure_bind, h0]
  simp only []
  rw [h2, M.pure_bind]
  simp only []
  rw [hz]
  exact k
theorem Go.retS (d : D) (h : evE Φ e ρ = M.pure d) (k : P (.rt d, ρ)) : Go (evS Φ (.seq (.ret e) rest) ρ) P := by
  rw [s_seq, s_ret, h]
  exact .pure k
theorem Go.exprS (d : D) (h : evE Φ e ρ = M.pure d) (k : Go (evS Φ rest ρ) P) : Go (evS Φ (.seq (.expr e) rest) ρ) P := by
  rw [s_seq, s_expr, h]
  exact k
theorem Go.frzS {l : List D} (h0 : ρ[i]? = some (.own l)) (k : Go (evS Φ rest (ρ.set i (.val (.lst l)))) P) : Go (evS Φ (.seq (.frz i) rest) ρ) P := by
  rw [s_seq, s_frz, h0]
  exact k
/-- a loop, its items told -/
theorem Go.forS {k : Ik} {src : E} {tg : T} {ds items : List D} (h1 : evA Φ src ρ = M.pure ds) (h2 : itm k ds = some items) (I : Nat → Env → Prop) (h0 : I 0 ρ)
    (step : ∀ i x ρ, items[i]? = some x → I i ρ → ∃ ρ1, put tg x ρ = some ρ1 ∧ Go (evS Φ b ρ1) fun r => r.1 = .nx ∧ I (i + 1) r.2) (fin : ∀ ρ', I items.length ρ' → Go (evS Φ rest ρ') P) : Go (evS Φ (.seq (.loop k src tg b) rest) ρ) P := by
  rw [s_seq, s_loop, h1, M.pure_bind, h2, M.lift_some, M.pure_bind]
  exact Go.loop I h0 step fin
theorem Go.forR {k : Ik} {src : E} {tg : T} {ds : List D} {n : Nat} {emb : Nat → D} (h1 : evA Φ src ρ = M.pure ds) (h2 : itm k ds = some ((List.range n).map emb)) (I : Nat → Env → Prop) (h0 : I 0 ρ)
    (step : ∀ i ρ, i < n → I i ρ → ∃ ρ1, put tg (emb i) ρ = some ρ1 ∧ Go (evS Φ b ρ1) fun r => r.1 = .nx ∧ I (i + 1) r.2) (fin : ∀ ρ', I n ρ' → Go (evS Φ rest ρ') P) : Go (evS Φ (.seq (.loop k src tg b) rest) ρ) P := by
  rw [s_seq, s_loop, h1, M.pure_bind, h2, M.lift_some, M.pure_bind]
  exact Go.loopR I h0 step fin
end
/-! comprehensions as equations -/
theorem comp_eq {Φ : Fns} {ρ : Env} {α : Type} {k : Ik} {src cnd elt : E} {tg : T} {own : List (Str × Nat)} {ds : List D} {l : List α} {emb : α → D} (g : α → D) (h1 : evA Φ src ρ = M.pure ds) (h2 : itm k ds = some (l.map emb))
    (h : ∀ a ∈ l, Go (oneC Φ tg (own.map (·.2)) cnd elt ρ (emb a)) fun o => o = some (g a)) : evE Φ (.comp k src tg own cnd elt) ρ = M.pure (.lst (l.map g)) := by
  rw [e_comp, h1, M.pure_bind, h2, M.lift_some, M.pure_bind, compL_map fun a ha => (h a ha).eq]
  rfl
theorem comp_eqR {Φ : Fns} {ρ : Env} {k : Ik} {src cnd elt : E} {tg : T} {own : List (Str × Nat)} {ds : List D} {n : Nat} {emb : Nat → D} (g : Nat → D) (h1 : evA Φ src ρ = M.pure ds) (h2 : itm k ds = some ((List.range n).map emb))
    (h : ∀ a, a < n → Go (oneC Φ tg (own.map (·.2)) cnd elt ρ (emb a)) fun o => o = some (g a)) : evE Φ (.comp k src tg own cnd elt) ρ = M.pure (.lst ((List.range n).map g)) :=
  comp_eq g h1 h2 fun a ha => h a (List.mem_range.mp ha)
theorem comp_eqF {Φ : Fns} {ρ : Env} {α : Type} {k : Ik} {src cnd elt : E} {tg : T} {own : List (Str × Nat)} {ds : List D} {l : List α} {emb : α → D} (p : α → Bool) (g : α → D) (h1 : evA Φ src ρ = M.pure ds) (h2 : itm k ds = some (l.map emb))
    (h : ∀ a ∈ l, Go (oneC Φ tg (own.map (·.2)) cnd elt ρ (emb a)) fun o => o = if p a then some (g a) else none) : evE Φ (.comp k src tg own cnd elt) ρ = M.pure (.lst ((l.filter p).map g)) := by
  rw [e_comp, h1, M.pure_bind, h2, M.lift_some, M.pure_bind, compL_flt fun a ha => (h a ha).eq]
  rfl
theorem run_go {Φ : Fns} {F : Fn} {ds : List D} {d : D} (ρ0 : Env) (h : Go (evS Φ F.body ρ0) fun r => r.1 = .rt d) (h0 : startE F.N ds = ρ0 := by rfl) (hl : ds.length = F.ps.length := by rfl) : runFn Φ F ds = M.pure d := by
  obtain ⟨⟨f, ρ⟩, h, e⟩ := h
  cases e
  exact run_mk hl (by rw [h0]; exact h)
theorem run_go_nx {Φ : Fns} {F : Fn} {ds : List D} (ρ0 : Env) (h : Go (evS Φ F.body ρ0) fun r => r.1 = .nx) (h0 : startE F.N ds = ρ0 := by rfl) (hl : ds.length = F.ps.length := by rfl) : runFn Φ F ds = M.pure .non := by
  obtain ⟨⟨f, ρ⟩, h, e⟩ := h
  cases e
  exact run_nx hl (by rw [h0]; exact h)
end Ev.Vw

end
section
set_option maxRecDepth 100000
set_option maxHeartbeats 4000000
namespace Ev.Vw
open PySem Ev
theorem sm7 : smallI 7 = true := by decide
theorem sm4 : smallI 4 = true := by decide
theorem sm5 : smallI 5 = true := by decide
theorem sm40 : smallI 40 = true := by decide
theorem sm50 : smallI 50 = true := by decide
theorem sm6553 : smallI 6553 = true := by decide
theorem sm69069 : smallI 69069 = true := by decide
theorem sm104723 : smallI 104723 = true := by decide
theorem small_of {i : Int} (h1 : -1000000000000 ≤ i) (h2 : i < 18446744073709551616) : smallI i = true := by
  unfold smallI
  simp only [Bool.and_eq_true, decide_eq_true_eq]
  omega
/-! ### numbers -/
def S_is_number (Φ : Fns) : Prop := ∀ i lo hi : Int, Φ "is_number" [.int i, .int lo, .int hi] = M.pure (.bl (decide (lo ≤ i) && decide (i ≤ hi)))
theorem sp_is_number (Φ : Fns) (i lo hi : Int) : runFn Φ fn_is_number [.int i, .int lo, .int hi] = M.pure (.bl (decide (lo ≤ i) && decide (i ≤ hi))) := by
  refine run_go [.val (.int i), .val (.int lo), .val (.int hi)] ?_
  try simp only [e_var, e_pk, e_cst, e_glo, e_bin, e_neg, e_not, e_cmp, e_chn, e_boo, e_ite, e_tup, e_lst, e_ix, e_slc, e_rev, e_call, e_blt, e_isi, e_comp, a_nil, a_cons, b_one, b_cons, t_nil, t_one, s_skip, s_seq, s_asg, s_own, s_frz, s_set, s_app, s_ext, s_expr, s_ret, s_ite, s_loop, M.pure_bind, M.lift_some, M.calm_pure, M.bind_assoc, asBl, List.getElem?_cons_zero, List.getElem?_cons_succ, List.set_cons_zero, List.set_cons_succ, Option.map_some, put, putAll, if_true, if_false, Bool.false_eq_true, Bool.true_eq_false, Bool.not_true, Bool.not_false, Cn.d, partD, List.map_cons, List.map_nil, Ev.wipe, o_add, o_sub, o_mull, o_mulr, o_mod, o_div, o_addt, o_addl, o_lt, o_le, o_gt, o_ge, eq_int, ne_int, u_lenl, u_lent, u_lens, u_max, u_min, u_abs, u_tupl, u_tupt, i_int, i_bool, i_tup, i_rng1, i_lst, i_tupl, len_pic, len_row, fn_is_number]
  cases decide (lo ≤ i)
  · exact .pure rfl
  · exact .pure rfl
/-! ### the draws -/
def cellV (ns : List Int) (k : Nat) : Int := if ns = [] then 7 * (k : Int) else (ns[k % ns.length]?.getD 0) + 6553 * ((k / ns.length : Nat) : Int)
def S_cell (Φ : Fns) : Prop := ∀ (ns : List Int) (k : Nat), ns.length ≤ 63 → Φ "_law_cell" [.scr ns, .int k] = M.pure (.int (cellV ns k))
theorem sp_cell (Φ : Fns) (ns : List Int) (k : Nat) (h : ns.length ≤ 63) : runFn Φ fn__law_cell [.scr ns, .int k] = M.pure (.int (cellV ns k)) := by
  have q : cop .eq (.scr ns) (.lst []) = some (decide (ns = [])) := by
    simp only [cop, eqD, List.all_nil, if_true]
    cases ns <;> simp [eqvS]
  by_cases e : ns = []
  · refine run_go [.val (.scr ns), .val (.int k)] ?_
    try simp only [e_var, e_pk, e_cst, e_glo, e_bin, e_neg, e_not, e_cmp, e_chn, e_boo, e_ite, e_tup, e_lst, e_ix, e_slc, e_rev, e_call, e_blt, e_isi, e_comp, a_nil, a_cons, b_one, b_cons, t_nil, t_one, s_skip, s_seq, s_asg, s_own, s_frz, s_set, s_app, s_ext, s_expr, s_ret, s_ite, s_loop, M.pure_bind, M.lift_some, M.calm_pure, M.bind_assoc, asBl, List.getElem?_cons_zero, List.getElem?_cons_succ, List.set_cons_zero, List.set_cons_succ, Option.map_some, put, putAll, if_true, if_false, Bool.false_eq_true, Bool.true_eq_false, Bool.not_true, Bool.not_false, Cn.d, partD, List.map_cons, List.map_nil, Ev.wipe, o_add, o_sub, o_mull, o_mulr, o_mod, o_div, o_addt, o_addl, o_lt, o_le, o_gt, o_ge, eq_int, ne_int, u_lenl, u_lent, u_lens, u_max, u_min, u_abs, u_tupl, u_tupt, i_int, i_bool, i_tup, i_rng1, i_lst, i_tupl, len_pic, len_row, fn__law_cell, q, e, decide_true, sm7]
    exact .pure rfl
  · have hl : 0 < ns.length := List.length_pos_iff.mpr e
    refine run_go [.val (.scr ns), .val (.int k)] ?_
    have m : ixD (.scr ns) (.int ((k : Int) % (ns.length : Nat))) = some (.int (ns[k % ns.length]?.getD 0)) := by
      have hlt : k % ns.length < ns.length := Nat.mod_lt _ hl
      have e1 : ((k : Int) % (ns.length : Nat)) = ((k % ns.length : Nat) : Int) := by omega
      simp only [ixD, e1, ixN_nat hlt, Option.bind_some, List.getElem?_eq_getElem hlt, Option.map_some, Option.getD_some]
    have c1 : (0 : Int) < (ns.length : Nat) := by omega
    have c2 : ((ns.length : Nat) : Int) < 1073741824 := by omega
    try simp only [e_var, e_pk, e_cst, e_glo, e_bin, e_neg, e_not, e_cmp, e_chn, e_boo, e_ite, e_tup, e_lst, e_ix, e_slc, e_rev, e_call, e_blt, e_isi, e_comp, a_nil, a_cons, b_one, b_cons, t_nil, t_one, s_skip, s_seq, s_asg, s_own, s_frz, s_set, s_app, s_ext, s_expr, s_ret, s_ite, s_loop, M.pure_bind, M.lift_some, M.calm_pure, M.bind_assoc, asBl, List.getElem?_cons_zero, List.getElem?_cons_succ, List.set_cons_zero, List.set_cons_succ, Option.map_some, put, putAll, if_true, if_false, Bool.false_eq_true, Bool.true_eq_false, Bool.not_true, Bool.not_false, Cn.d, partD, List.map_cons, List.map_nil, Ev.wipe, o_add, o_sub, o_mull, o_mulr, o_mod, o_div, o_addt, o_addl, o_lt, o_le, o_gt, o_ge, eq_int, ne_int, u_lenl, u_lent, u_lens, u_max, u_min, u_abs, u_tupl, u_tupt, i_int, i_bool, i_tup, i_rng1, i_lst, i_tupl, len_pic, len_row, fn__law_cell, q, e, decide_false, m, c1, c2, sm6553]
    refine .pure ?_
    unfold cellV
    rw [if_neg e, Int.natCast_ediv]
/-- a draw -/
def drawI (c : Int) (k : Nat) : Int := (c % 2147483563 * 69069 + 104723 * ((k : Int) + 1)) % 2147483563
def drawJ (c : Int) : Int := (c * c + c / 3) % 2147483399
def drawK (d : Int) : Int := (d * d + d / 7) % 2147483647 / 11
def drawV (ns : List Int) (k many : Nat) : Nat := (drawK (drawJ (drawI (cellV ns k) k)) % (many : Int)).toNat
theorem drawV_lt {ns : List Int} {k many : Nat} (h : 0 < many) : drawV ns k many < many := by
  unfold drawV
  have := Int.emod_lt_of_pos (drawK (drawJ (drawI (cellV ns k) k))) (show (0 : Int) < (many : Int) by omega)
  have h2 := Int.emod_nonneg (drawK (drawJ (drawI (cellV ns k) k))) (show ((many : Nat) : Int) ≠ 0 by omega)
  omega
def S_drawn (Φ : Fns) : Prop := ∀ (ns : List Int) (k many : Nat), ns.length ≤ 63 → 0 < many → Φ "_law_drawn" [.scr ns, .int k, .int many] = M.pure (.int (drawV ns k many))
theorem sp_drawn {Φ : Fns} (hc : S_cell Φ) (ns : List Int) (k many : Nat) (h : ns.length ≤ 63) (hm : 0 < many) : runFn Φ fn__law_drawn [.scr ns, .int k, .int many] = M.pure (.int (drawV ns k many)) := by
  refine run_go [.val (.scr ns), .val (.int k), .val (.int many), .emp] ?_
  have b1 : ∀ i : Int, 0 ≤ i % 2147483563 ∧ i % 2147483563 < 2147483563 := fun i => ⟨Int.emod_nonneg _ (by decide), Int.emod_lt_of_pos i (by decide)⟩
  have b2 : ∀ i : Int, 0 ≤ i % 2147483399 ∧ i % 2147483399 < 2147483399 := fun i => ⟨Int.emod_nonneg _ (by decide), Int.emod_lt_of_pos i (by decide)⟩
  have s1 : ∀ i : Int, smallI (i % 2147483563) = true := fun i => small_of (by have := b1 i; omega) (by have := b1 i; omega)
  have s2 : ∀ i : Int, smallI (i % 2147483399) = true := fun i => small_of (by have := b2 i; omega) (by have := b2 i; omega)
  have c1 : (0 : Int) < 2147483563 := by decide
  have c2 : (0 : Int) < 2147483399 := by decide
  have c3 : (0 : Int) < 2147483647 := by decide
  have c4 : (0 : Int) < 3 := by decide
  have c5 : (0 : Int) < 7 := by decide
  have c6 : (0 : Int) < 11 := by decide
  have d4 : (3 : Int) < 1073741824 := by decide
  have d5 : (7 : Int) < 1073741824 := by decide
  have d6 : (11 : Int) < 1073741824 := by decide
  have c7 : (0 : Int) < (many : Int) := by omega
  try simp only [e_var, e_pk, e_cst, e_glo, e_bin, e_neg, e_not, e_cmp, e_chn, e_boo, e_ite, e_tup, e_lst, e_ix, e_slc, e_rev, e_call, e_blt, e_isi, e_comp, a_nil, a_cons, b_one, b_cons, t_nil, t_one, s_skip, s_seq, s_asg, s_own, s_frz, s_set, s_app, s_ext, s_expr, s_ret, s_ite, s_loop, M.pure_bind, M.lift_some, M.calm_pure, M.bind_assoc, asBl, List.getElem?_cons_zero, List.getElem?_cons_succ, List.set_cons_zero, List.set_cons_succ, Option.map_some, put, putAll, if_true, if_false, Bool.false_eq_true, Bool.true_eq_false, Bool.not_true, Bool.not_false, Cn.d, partD, List.map_cons, List.map_nil, Ev.wipe, o_add, o_sub, o_mull, o_mulr, o_mod, o_div, o_addt, o_addl, o_lt, o_le, o_gt, o_ge, eq_int, ne_int, u_lenl, u_lent, u_lens, u_max, u_min, u_abs, u_tupl, u_tupt, i_int, i_bool, i_tup, i_rng1, i_lst, i_tupl, len_pic, len_row, fn__law_drawn, hc ns k h, s1, s2, c1, c2, c3, c4, c5, c6, d4, d5, d6, c7, sm104723, sm69069]
  refine .pure ?_
  have := Int.emod_nonneg (drawK (drawJ (drawI (cellV ns k) k))) (show ((many : Nat) : Int) ≠ 0 by omega)
  show Fl.rt (.int (drawK (drawJ (drawI (cellV ns k) k)) % (many : Int))) = _
  unfold drawV
  rw [Int.toNat_of_nonneg this]
/-! ### pictures -/
def shV (ns : List Int) (k : Nat) : Int := if (drawV ns k 6 : Int) - 1 > 0 then (drawV ns k 6 : Int) - 1 else 0
theorem shV_le {ns : List Int} {k : Nat} : 0 ≤ shV ns k ∧ shV ns k ≤ 4 := by
  have := drawV_lt (ns := ns) (k := k) (many := 6) (by decide)
  unfold shV
  split <;> omega
def drawn (ns : List Int) (at_ : Nat) (r c : Nat) : Int := shV ns (at_ + 7 * r + c)
theorem pic_snoc {C : Nat} {f : Nat → Nat → Int} {i : Nat} : ((List.range i).map fun r => rowD C (f r)) ++ [rowD C (f i)] = (List.range (i + 1)).map fun r => rowD C (f r) := by
  rw [List.range_succ, List.map_append]
  rfl
def S_law_picture (Φ : Fns) : Prop := ∀ (ns : List Int) (k R C : Nat), ns.length ≤ 63 → R ≤ 100 → C ≤ 100 → Φ "_law_picture" [.scr ns, .int k, .int R, .int C] = M.pure (pic R C (drawn ns k))
theorem sp_law_picture {Φ : Fns} (hd : S_drawn Φ) (ns : List Int) (k R C : Nat) (h : ns.length ≤ 63) (hR : R ≤ 100) (hC : C ≤ 100) : runFn Φ fn__law_picture [.scr ns, .int k, .int R, .int C] = M.pure (pic R C (drawn ns k)) := by
  refine run_go [.val (.scr ns), .val (.int k), .val (.int R), .val (.int C), .emp, .emp, .emp, .emp, .emp] ?_
  have rR : R ≤ 16777216 := by omega
  have rC : C ≤ 16777216 := by omega
  try simp only [e_var, e_pk, e_cst, e_glo, e_bin, e_neg, e_not, e_cmp, e_chn, e_boo, e_ite, e_tup, e_lst, e_ix, e_slc, e_rev, e_call, e_blt, e_isi, e_comp, a_nil, a_cons, b_one, b_cons, t_nil, t_one, s_skip, s_seq, s_asg, s_own, s_frz, s_set, s_app, s_ext, s_expr, s_ret, s_ite, s_loop, M.pure_bind, M.lift_some, M.calm_pure, M.bind_assoc, asBl, List.getElem?_cons_zero, List.getElem?_cons_succ, List.set_cons_zero, List.set_cons_succ, Option.map_some, put, putAll, if_true, if_false, Bool.false_eq_true, Bool.true_eq_false, Bool.not_true, Bool.not_false, Cn.d, partD, List.map_cons, List.map_nil, Ev.wipe, o_add, o_sub, o_mull, o_mulr, o_mod, o_div, o_addt, o_addl, o_lt, o_le, o_gt, o_ge, eq_int, ne_int, u_lenl, u_lent, u_lens, u_max, u_min, u_abs, u_tupl, u_tupt, i_int, i_bool, i_tup, i_rng1, i_lst, i_tupl, len_pic, len_row, fn__law_picture, rR]
  refine Go.loopR (fun i ρ => ∃ v5 v6 v7 v8, ρ = [.val (.scr ns), .val (.int k), .val (.int R), .val (.int C), .val (.tup ((List.range i).map fun r => rowD C (drawn ns k r))), v5, v6, v7, v8]) ⟨_, _, _, _, rfl⟩ ?_ ?_
  · rintro i ρ hi ⟨v5, v6, v7, v8, rfl⟩
    refine ⟨_, rfl, ?_⟩
    try simp only [e_var, e_pk, e_cst, e_glo, e_bin, e_neg, e_not, e_cmp, e_chn, e_boo, e_ite, e_tup, e_lst, e_ix, e_slc, e_rev, e_call, e_blt, e_isi, e_comp, a_nil, a_cons, b_one, b_cons, t_nil, t_one, s_skip, s_seq, s_asg, s_own, s_frz, s_set, s_app, s_ext, s_expr, s_ret, s_ite, s_loop, M.pure_bind, M.lift_some, M.calm_pure, M.bind_assoc, asBl, List.getElem?_cons_zero, List.getElem?_cons_succ, List.set_cons_zero, List.set_cons_succ, Option.map_some, put, putAll, if_true, if_false, Bool.false_eq_true, Bool.true_eq_false, Bool.not_true, Bool.not_false, Cn.d, partD, List.map_cons, List.map_nil, Ev.wipe, o_add, o_sub, o_mull, o_mulr, o_mod, o_div, o_addt, o_addl, o_lt, o_le, o_gt, o_ge, eq_int, ne_int, u_lenl, u_lent, u_lens, u_max, u_min, u_abs, u_tupl, u_tupt, i_int, i_bool, i_tup, i_rng1, i_lst, i_tupl, len_pic, len_row, rC, sm7]
    refine Go.compR (fun a => .int (drawn ns k i a)) (fun a ha => ?_) ?_
    · have e := hd ns (k + 7 * i + a) 6 h (by decide)
      have e2 : ((k + 7 * i + a : Nat) : Int) = (k : Int) + 7 * (i : Int) + (a : Int) := by omega
      rw [e2] at e
      have e3 : (6 : Int) = ((6 : Nat) : Int) := (rfl)
      unfold oneC
      try simp only [e_var, e_pk, e_cst, e_glo, e_bin, e_neg, e_not, e_cmp, e_chn, e_boo, e_ite, e_tup, e_lst, e_ix, e_slc, e_rev, e_call, e_blt, e_isi, e_comp, a_nil, a_cons, b_one, b_cons, t_nil, t_one, s_skip, s_seq, s_asg, s_own, s_frz, s_set, s_app, s_ext, s_expr, s_ret, s_ite, s_loop, M.pure_bind, M.lift_some, M.calm_pure, M.bind_assoc, asBl, List.getElem?_cons_zero, List.getElem?_cons_succ, List.set_cons_zero, List.set_cons_succ, Option.map_some, put, putAll, if_true, if_false, Bool.false_eq_true, Bool.true_eq_false, Bool.not_true, Bool.not_false, Cn.d, partD, List.map_cons, List.map_nil, Ev.wipe, o_add, o_sub, o_mull, o_mulr, o_mod, o_div, o_addt, o_addl, o_lt, o_le, o_gt, o_ge, eq_int, ne_int, u_lenl, u_lent, u_lens, u_max, u_min, u_abs, u_tupl, u_tupt, i_int, i_bool, i_tup, i_rng1, i_lst, i_tupl, len_pic, len_row, e3, e]
      exact .pure rfl
    · have hz : ((List.range i).map fun r => rowD C (drawn ns k r)).length + [D.tup ((List.range C).map fun a => D.int (drawn ns k i a))].length ≤ 16777216 := by simp; omega
      try simp only [e_var, e_pk, e_cst, e_glo, e_bin, e_neg, e_not, e_cmp, e_chn, e_boo, e_ite, e_tup, e_lst, e_ix, e_slc, e_rev, e_call, e_blt, e_isi, e_comp, a_nil, a_cons, b_one, b_cons, t_nil, t_one, s_skip, s_seq, s_asg, s_own, s_frz, s_set, s_app, s_ext, s_expr, s_ret, s_ite, s_loop, M.pure_bind, M.lift_some, M.calm_pure, M.bind_assoc, asBl, List.getElem?_cons_zero, List.getElem?_cons_succ, List.set_cons_zero, List.set_cons_succ, Option.map_some, put, putAll, if_true, if_false, Bool.false_eq_true, Bool.true_eq_false, Bool.not_true, Bool.not_false, Cn.d, partD, List.map_cons, List.map_nil, Ev.wipe, o_add, o_sub, o_mull, o_mulr, o_mod, o_div, o_addt, o_addl, o_lt, o_le, o_gt, o_ge, eq_int, ne_int, u_lenl, u_lent, u_lens, u_max, u_min, u_abs, u_tupl, u_tupt, i_int, i_bool, i_tup, i_rng1, i_lst, i_tupl, len_pic, len_row, hz]
      exact .pure ⟨rfl, by rw [← pic_snoc]; exact ⟨_, _, _, _, rfl⟩⟩
  · rintro ρ ⟨v5, v6, v7, v8, rfl⟩
    try simp only [e_var, e_pk, e_cst, e_glo, e_bin, e_neg, e_not, e_cmp, e_chn, e_boo, e_ite, e_tup, e_lst, e_ix, e_slc, e_rev, e_call, e_blt, e_isi, e_comp, a_nil, a_cons, b_one, b_cons, t_nil, t_one, s_skip, s_seq, s_asg, s_own, s_frz, s_set, s_app, s_ext, s_expr, s_ret, s_ite, s_loop, M.pure_bind, M.lift_some, M.calm_pure, M.bind_assoc, asBl, List.getElem?_cons_zero, List.getElem?_cons_succ, List.set_cons_zero, List.set_cons_succ, Option.map_some, put, putAll, if_true, if_false, Bool.false_eq_true, Bool.true_eq_false, Bool.not_true, Bool.not_false, Cn.d, partD, List.map_cons, List.map_nil, Ev.wipe, o_add, o_sub, o_mull, o_mulr, o_mod, o_div, o_addt, o_addl, o_lt, o_le, o_gt, o_ge, eq_int, ne_int, u_lenl, u_lent, u_lens, u_max, u_min, u_abs, u_tupl, u_tupt, i_int, i_bool, i_tup, i_rng1, i_lst, i_tupl, len_pic, len_row]
    exact .pure rfl
end Ev.Vw

end
section
set_option maxRecDepth 100000
set_option maxHeartbeats 4000000
namespace Ev.Vw
open PySem Ev
/-! ### more about tables -/
def Shd (R C : Nat) (f : Nat → Nat → Int) : Prop := ∀ r c, r < R → c < C → 0 ≤ f r c ∧ f r c ≤ 4
structure Pc (R C : Nat) (f : Nat → Nat → Int) : Prop where
  r1 : 1 ≤ R
  r4 : R ≤ 4
  c1 : 1 ≤ C
  c6 : C ≤ 6
  sh : Shd R C f
theorem i_picT {R C : Nat} {f : Nat → Nat → Int} : isiD (pic R C f) "tuple" = some true := (rfl)
theorem i_rowT {C : Nat} {f : Nat → Int} : isiD (rowD C f) "tuple" = some true := (rfl)
theorem i_pic {R C : Nat} {f : Nat → Nat → Int} : itm .seq [pic R C f] = some ((List.range R).map fun r => rowD C (f r)) := (rfl)
theorem i_row {C : Nat} {f : Nat → Int} : itm .seq [rowD C f] = some ((List.range C).map fun c => .int (f c)) := (rfl)
theorem u_allT {α : Type} {l : List α} : blt .all [.lst (l.map fun _ => .bl true)] = some (.bl true) := by
  rw [u_all (blsOf_map (f := fun _ => true) l)]
  congr 2
  simp
theorem ix_pic0 {R C : Nat} {f : Nat → Nat → Int} (h : 0 < R) : ixD (pic R C f) (.int 0) = some (rowD C (f 0)) := ix_pic (r := 0) h
theorem i_zip {l m : List D} : itm .zip [.tup l, .tup m] = some ((l.zip m).map fun p => .tup [p.1, p.2]) := (rfl)
theorem i_zipP {R C C' : Nat} {f g : Nat → Nat → Int} : itm .zip [pic R C f, pic R C' g] = some ((List.range R).map fun r => .tup [rowD C (f r), rowD C' (g r)]) := by
  unfold pic
  rw [i_zip, List.zip_map', List.map_map]
  rfl
theorem i_zipR {C : Nat} {f g : Nat → Int} : itm .zip [rowD C f, rowD C g] = some ((List.range C).map fun c => .tup [.int (f c), .int (g c)]) := by
  unfold rowD
  rw [i_zip, List.zip_map', List.map_map]
  rfl
theorem zipIdx_range {α : Type} {n : Nat} {f : Nat → α} : ((List.range n).map f).zipIdx = (List.range n).map fun i => (f i, i) := by
  apply List.ext_getElem?
  intro i
  rw [List.getElem?_zipIdx, List.getElem?_map, List.getElem?_map]
  cases h : (List.range n)[i]? with
  | none => rfl
  | some k =>
    have : k = i := by
      obtain ⟨h1, h2⟩ := List.getElem?_eq_some_iff.mp h
      simpa using h2.symm
    subst this
    simp
theorem i_enumR {C : Nat} {f : Nat → Int} : itm .enum [rowD C f] = some ((List.range C).map fun c => .tup [.int (c : Nat), .int (f c)]) := by
  show (some (List.map _ ((List.range C).map _).zipIdx) : Option (List D)) = _
  rw [zipIdx_range, List.map_map]
  rfl
theorem i_enumP {R C : Nat} {f : Nat → Nat → Int} : itm .enum [pic R C f] = some ((List.range R).map fun r => .tup [.int (r : Nat), rowD C (f r)]) := by
  show (some (List.map _ ((List.range R).map _).zipIdx) : Option (List D)) = _
  rw [zipIdx_range, List.map_map]
  rfl
theorem rev_range {α : Type} {n : Nat} {f : Nat → α} : ((List.range n).map f).reverse = (List.range n).map fun i => f (n - 1 - i) := by
  rw [← List.map_reverse]
  apply List.ext_getElem?
  intro i
  rw [List.getElem?_map, List.getElem?_map]
  by_cases h : i < n
  · rw [List.getElem?_reverse (by simpa using h), List.length_range, List.getElem?_range (by omega), List.getElem?_range h]
    rfl
  · rw [List.getElem?_eq_none (by simp; omega), List.getElem?_eq_none (by simp; omega)]
    rfl
theorem rev_row {C : Nat} {f : Nat → Int} : revD (rowD C f) = some (rowD C fun c => f (C - 1 - c)) := by
  unfold rowD revD
  simp only []
  rw [rev_range]
theorem rev_pic {R C : Nat} {f : Nat → Nat → Int} : revD (pic R C f) = some (pic R C fun r => f (R - 1 - r)) := by
  unfold pic revD
  simp only []
  rw [rev_range]
def shade (R C : Nat) (f : Nat → Nat → Int) (r c : Int) : Int := if 0 ≤ r ∧ r < R ∧ 0 ≤ c ∧ c < C then f r.toNat c.toNat else 0
/-! ### the defs of pictures -/
def S_are_rows (Φ : Fns) : Prop := ∀ (R C : Nat) (f : Nat → Nat → Int) (wide : Nat), 1 ≤ R → R ≤ 4 → 1 ≤ C → C ≤ wide → Shd R C f → Φ "are_rows" [pic R C f, .int wide] = M.pure (.bl true)
theorem sp_are_rows {Φ : Fns} (hn : S_is_number Φ) (R C : Nat) (f : Nat → Nat → Int) (wide : Nat) (h1 : 1 ≤ R) (h4 : R ≤ 4) (hc : 1 ≤ C) (hw : C ≤ wide) (sh : Shd R C f) : runFn Φ fn_are_rows [pic R C f, .int wide] = M.pure (.bl true) := by
  refine run_go [.val (pic R C f), .val (.int wide), .emp, .emp] ?_
  have k1 : (1 : Int) ≤ (R : Nat) := by omega
  have k2 : ((R : Nat) : Int) ≤ 4 := by omega
  have k3 : (1 : Int) ≤ (C : Nat) := by omega
  have k4 : ((C : Nat) : Int) ≤ (wide : Nat) := by omega
  have k5 : 0 < R := by omega
  try simp only [e_var, e_pk, e_cst, e_glo, e_bin, e_neg, e_not, e_cmp, e_chn, e_boo, e_ite, e_tup, e_lst, e_ix, e_slc, e_rev, e_call, e_blt, e_isi, e_comp, a_nil, a_cons, b_one, b_cons, t_nil, t_one, s_skip, s_seq, s_asg, s_own, s_frz, s_set, s_app, s_ext, s_expr, s_ret, s_ite, s_loop, M.pure_bind, M.lift_some, M.calm_pure, M.bind_assoc, asBl, List.getElem?_cons_zero, List.getElem?_cons_succ, List.set_cons_zero, List.set_cons_succ, Option.map_some, put, putAll, if_true, if_false, Bool.false_eq_true, Bool.true_eq_false, Bool.not_true, Bool.not_false, Cn.d, partD, List.map_cons, List.map_nil, Ev.wipe, o_add, o_sub, o_mull, o_mulr, o_mod, o_div, o_addt, o_addl, o_lt, o_le, o_gt, o_ge, eq_int, ne_int, u_lenl, u_lent, u_lens, u_max, u_min, u_abs, u_tupl, u_tupt, i_int, i_bool, i_tup, i_rng1, i_lst, i_tupl, len_pic, len_row, fn_are_rows, i_picT, k1, k2, decide_true, i_pic]
  refine Go.compR (fun _ => .bl true) (fun a ha => ?_) ?_
  · unfold oneC
    try simp only [e_var, e_pk, e_cst, e_glo, e_bin, e_neg, e_not, e_cmp, e_chn, e_boo, e_ite, e_tup, e_lst, e_ix, e_slc, e_rev, e_call, e_blt, e_isi, e_comp, a_nil, a_cons, b_one, b_cons, t_nil, t_one, s_skip, s_seq, s_asg, s_own, s_frz, s_set, s_app, s_ext, s_expr, s_ret, s_ite, s_loop, M.pure_bind, M.lift_some, M.calm_pure, M.bind_assoc, asBl, List.getElem?_cons_zero, List.getElem?_cons_succ, List.set_cons_zero, List.set_cons_succ, Option.map_some, put, putAll, if_true, if_false, Bool.false_eq_true, Bool.true_eq_false, Bool.not_true, Bool.not_false, Cn.d, partD, List.map_cons, List.map_nil, Ev.wipe, o_add, o_sub, o_mull, o_mulr, o_mod, o_div, o_addt, o_addl, o_lt, o_le, o_gt, o_ge, eq_int, ne_int, u_lenl, u_lent, u_lens, u_max, u_min, u_abs, u_tupl, u_tupt, i_int, i_bool, i_tup, i_rng1, i_lst, i_tupl, len_pic, len_row, i_rowT]
    exact .pure rfl
  · try simp only [e_var, e_pk, e_cst, e_glo, e_bin, e_neg, e_not, e_cmp, e_chn, e_boo, e_ite, e_tup, e_lst, e_ix, e_slc, e_rev, e_call, e_blt, e_isi, e_comp, a_nil, a_cons, b_one, b_cons, t_nil, t_one, s_skip, s_seq, s_asg, s_own, s_frz, s_set, s_app, s_ext, s_expr, s_ret, s_ite, s_loop, M.pure_bind, M.lift_some, M.calm_pure, M.bind_assoc, asBl, List.getElem?_cons_zero, List.getElem?_cons_succ, List.set_cons_zero, List.set_cons_succ, Option.map_some, put, putAll, if_true, if_false, Bool.false_eq_true, Bool.true_eq_false, Bool.not_true, Bool.not_false, Cn.d, partD, List.map_cons, List.map_nil, Ev.wipe, o_add, o_sub, o_mull, o_mulr, o_mod, o_div, o_addt, o_addl, o_lt, o_le, o_gt, o_ge, eq_int, ne_int, u_lenl, u_lent, u_lens, u_max, u_min, u_abs, u_tupl, u_tupt, i_int, i_bool, i_tup, i_rng1, i_lst, i_tupl, len_pic, len_row, u_allT, i_picT, k3, k4, decide_true, i_pic, ix_pic0 k5]
    refine Go.compR (fun _ => .bl true) (fun a ha => ?_) ?_
    · unfold oneC
      try simp only [e_var, e_pk, e_cst, e_glo, e_bin, e_neg, e_not, e_cmp, e_chn, e_boo, e_ite, e_tup, e_lst, e_ix, e_slc, e_rev, e_call, e_blt, e_isi, e_comp, a_nil, a_cons, b_one, b_cons, t_nil, t_one, s_skip, s_seq, s_asg, s_own, s_frz, s_set, s_app, s_ext, s_expr, s_ret, s_ite, s_loop, M.pure_bind, M.lift_some, M.calm_pure, M.bind_assoc, asBl, List.getElem?_cons_zero, List.getElem?_cons_succ, List.set_cons_zero, List.set_cons_succ, Option.map_some, put, putAll, if_true, if_false, Bool.false_eq_true, Bool.true_eq_false, Bool.not_true, Bool.not_false, Cn.d, partD, List.map_cons, List.map_nil, Ev.wipe, o_add, o_sub, o_mull, o_mulr, o_mod, o_div, o_addt, o_addl, o_lt, o_le, o_gt, o_ge, eq_int, ne_int, u_lenl, u_lent, u_lens, u_max, u_min, u_abs, u_tupl, u_tupt, i_int, i_bool, i_tup, i_rng1, i_lst, i_tupl, len_pic, len_row, ix_pic0 k5, decide_true]
      exact .pure rfl
    · try simp only [e_var, e_pk, e_cst, e_glo, e_bin, e_neg, e_not, e_cmp, e_chn, e_boo, e_ite, e_tup, e_lst, e_ix, e_slc, e_rev, e_call, e_blt, e_isi, e_comp, a_nil, a_cons, b_one, b_cons, t_nil, t_one, s_skip, s_seq, s_asg, s_own, s_frz, s_set, s_app, s_ext, s_expr, s_ret, s_ite, s_loop, M.pure_bind, M.lift_some, M.calm_pure, M.bind_assoc, asBl, List.getElem?_cons_zero, List.getElem?_cons_succ, List.set_cons_zero, List.set_cons_succ, Option.map_some, put, putAll, if_true, if_false, Bool.false_eq_true, Bool.true_eq_false, Bool.not_true, Bool.not_false, Cn.d, partD, List.map_cons, List.map_nil, Ev.wipe, o_add, o_sub, o_mull, o_mulr, o_mod, o_div, o_addt, o_addl, o_lt, o_le, o_gt, o_ge, eq_int, ne_int, u_lenl, u_lent, u_lens, u_max, u_min, u_abs, u_tupl, u_tupt, i_int, i_bool, i_tup, i_rng1, i_lst, i_tupl, len_pic, len_row, u_allT, i_pic]
      refine Go.compR (fun _ => .bl true) (fun a ha => ?_) ?_
      · unfold oneC
        try simp only [e_var, e_pk, e_cst, e_glo, e_bin, e_neg, e_not, e_cmp, e_chn, e_boo, e_ite, e_tup, e_lst, e_ix, e_slc, e_rev, e_call, e_blt, e_isi, e_comp, a_nil, a_cons, b_one, b_cons, t_nil, t_one, s_skip, s_seq, s_asg, s_own, s_frz, s_set, s_app, s_ext, s_expr, s_ret, s_ite, s_loop, M.pure_bind, M.lift_some, M.calm_pure, M.bind_assoc, asBl, List.getElem?_cons_zero, List.getElem?_cons_succ, List.set_cons_zero, List.set_cons_succ, Option.map_some, put, putAll, if_true, if_false, Bool.false_eq_true, Bool.true_eq_false, Bool.not_true, Bool.not_false, Cn.d, partD, List.map_cons, List.map_nil, Ev.wipe, o_add, o_sub, o_mull, o_mulr, o_mod, o_div, o_addt, o_addl, o_lt, o_le, o_gt, o_ge, eq_int, ne_int, u_lenl, u_lent, u_lens, u_max, u_min, u_abs, u_tupl, u_tupt, i_int, i_bool, i_tup, i_rng1, i_lst, i_tupl, len_pic, len_row, i_row]
        refine Go.compR (fun _ => .bl true) (fun c hc => ?_) ?_
        · have e := hn (f a c) 0 4
          have s := sh a c ha hc
          unfold oneC
          try simp only [e_var, e_pk, e_cst, e_glo, e_bin, e_neg, e_not, e_cmp, e_chn, e_boo, e_ite, e_tup, e_lst, e_ix, e_slc, e_rev, e_call, e_blt, e_isi, e_comp, a_nil, a_cons, b_one, b_cons, t_nil, t_one, s_skip, s_seq, s_asg, s_own, s_frz, s_set, s_app, s_ext, s_expr, s_ret, s_ite, s_loop, M.pure_bind, M.lift_some, M.calm_pure, M.bind_assoc, asBl, List.getElem?_cons_zero, List.getElem?_cons_succ, List.set_cons_zero, List.set_cons_succ, Option.map_some, put, putAll, if_true, if_false, Bool.false_eq_true, Bool.true_eq_false, Bool.not_true, Bool.not_false, Cn.d, partD, List.map_cons, List.map_nil, Ev.wipe, o_add, o_sub, o_mull, o_mulr, o_mod, o_div, o_addt, o_addl, o_lt, o_le, o_gt, o_ge, eq_int, ne_int, u_lenl, u_lent, u_lens, u_max, u_min, u_abs, u_tupl, u_tupt, i_int, i_bool, i_tup, i_rng1, i_lst, i_tupl, len_pic, len_row, e, s.1, s.2, decide_true, Bool.and_self]
          exact .pure rfl
        · try simp only [e_var, e_pk, e_cst, e_glo, e_bin, e_neg, e_not, e_cmp, e_chn, e_boo, e_ite, e_tup, e_lst, e_ix, e_slc, e_rev, e_call, e_blt, e_isi, e_comp, a_nil, a_cons, b_one, b_cons, t_nil, t_one, s_skip, s_seq, s_asg, s_own, s_frz, s_set, s_app, s_ext, s_expr, s_ret, s_ite, s_loop, M.pure_bind, M.lift_some, M.calm_pure, M.bind_assoc, asBl, List.getElem?_cons_zero, List.getElem?_cons_succ, List.set_cons_zero, List.set_cons_succ, Option.map_some, put, putAll, if_true, if_false, Bool.false_eq_true, Bool.true_eq_false, Bool.not_true, Bool.not_false, Cn.d, partD, List.map_cons, List.map_nil, Ev.wipe, o_add, o_sub, o_mull, o_mulr, o_mod, o_div, o_addt, o_addl, o_lt, o_le, o_gt, o_ge, eq_int, ne_int, u_lenl, u_lent, u_lens, u_max, u_min, u_abs, u_tupl, u_tupt, i_int, i_bool, i_tup, i_rng1, i_lst, i_tupl, len_pic, len_row, u_allT]
          exact .pure rfl
      · try simp only [e_var, e_pk, e_cst, e_glo, e_bin, e_neg, e_not, e_cmp, e_chn, e_boo, e_ite, e_tup, e_lst, e_ix, e_slc, e_rev, e_call, e_blt, e_isi, e_comp, a_nil, a_cons, b_one, b_cons, t_nil, t_one, s_skip, s_seq, s_asg, s_own, s_frz, s_set, s_app, s_ext, s_expr, s_ret, s_ite, s_loop, M.pure_bind, M.lift_some, M.calm_pure, M.bind_assoc, asBl, List.getElem?_cons_zero, List.getElem?_cons_succ, List.set_cons_zero, List.set_cons_succ, Option.map_some, put, putAll, if_true, if_false, Bool.false_eq_true, Bool.true_eq_false, Bool.not_true, Bool.not_false, Cn.d, partD, List.map_cons, List.map_nil, Ev.wipe, o_add, o_sub, o_mull, o_mulr, o_mod, o_div, o_addt, o_addl, o_lt, o_le, o_gt, o_ge, eq_int, ne_int, u_lenl, u_lent, u_lens, u_max, u_min, u_abs, u_tupl, u_tupt, i_int, i_bool, i_tup, i_rng1, i_lst, i_tupl, len_pic, len_row, u_allT]
        exact .pure rfl
def S_is_picture (Φ : Fns) : Prop := ∀ (R C : Nat) (f : Nat → Nat → Int), Pc R C f → Φ "is_picture" [pic R C f] = M.pure (.bl true)
theorem sp_is_picture {Φ : Fns} (hn : S_are_rows Φ) (R C : Nat) (f : Nat → Nat → Int) (p : Pc R C f) : runFn Φ fn_is_picture [pic R C f] = M.pure (.bl true) := by
  refine run_go [.val (pic R C f)] ?_
  have e := hn R C f 6 p.r1 p.r4 p.c1 p.c6 p.sh
  have e6 : ((6 : Nat) : Int) = 6 := (rfl)
  rw [e6] at e
  try simp only [e_var, e_pk, e_cst, e_glo, e_bin, e_neg, e_not, e_cmp, e_chn, e_boo, e_ite, e_tup, e_lst, e_ix, e_slc, e_rev, e_call, e_blt, e_isi, e_comp, a_nil, a_cons, b_one, b_cons, t_nil, t_one, s_skip, s_seq, s_asg, s_own, s_frz, s_set, s_app, s_ext, s_expr, s_ret, s_ite, s_loop, M.pure_bind, M.lift_some, M.calm_pure, M.bind_assoc, asBl, List.getElem?_cons_zero, List.getElem?_cons_succ, List.set_cons_zero, List.set_cons_succ, Option.map_some, put, putAll, if_true, if_false, Bool.false_eq_true, Bool.true_eq_false, Bool.not_true, Bool.not_false, Cn.d, partD, List.map_cons, List.map_nil, Ev.wipe, o_add, o_sub, o_mull, o_mulr, o_mod, o_div, o_addt, o_addl, o_lt, o_le, o_gt, o_ge, eq_int, ne_int, u_lenl, u_lent, u_lens, u_max, u_min, u_abs, u_tupl, u_tupt, i_int, i_bool, i_tup, i_rng1, i_lst, i_tupl, len_pic, len_row, fn_is_picture, e]
  exact .pure rfl
def S_need_picture (Φ : Fns) : Prop := ∀ (R C : Nat) (f : Nat → Nat → Int), Pc R C f → Φ "need_picture" [pic R C f] = M.pure .non
theorem sp_need_picture {Φ : Fns} (hn : S_is_picture Φ) (R C : Nat) (f : Nat → Nat → Int) (p : Pc R C f) : runFn Φ fn_need_picture [pic R C f] = M.pure .non := by
  refine run_go_nx [.val (pic R C f)] ?_
  try simp only [e_var, e_pk, e_cst, e_glo, e_bin, e_neg, e_not, e_cmp, e_chn, e_boo, e_ite, e_tup, e_lst, e_ix, e_slc, e_rev, e_call, e_blt, e_isi, e_comp, a_nil, a_cons, b_one, b_cons, t_nil, t_one, s_skip, s_seq, s_asg, s_own, s_frz, s_set, s_app, s_ext, s_expr, s_ret, s_ite, s_loop, M.pure_bind, M.lift_some, M.calm_pure, M.bind_assoc, asBl, List.getElem?_cons_zero, List.getElem?_cons_succ, List.set_cons_zero, List.set_cons_succ, Option.map_some, put, putAll, if_true, if_false, Bool.false_eq_true, Bool.true_eq_false, Bool.not_true, Bool.not_false, Cn.d, partD, List.map_cons, List.map_nil, Ev.wipe, o_add, o_sub, o_mull, o_mulr, o_mod, o_div, o_addt, o_addl, o_lt, o_le, o_gt, o_ge, eq_int, ne_int, u_lenl, u_lent, u_lens, u_max, u_min, u_abs, u_tupl, u_tupt, i_int, i_bool, i_tup, i_rng1, i_lst, i_tupl, len_pic, len_row, fn_need_picture, hn R C f p]
  exact .pure rfl
def S_size_of (Φ : Fns) : Prop := ∀ (R C : Nat) (f : Nat → Nat → Int), 0 < R → Φ "size_of" [pic R C f] = M.pure (.tup [.int R, .int C])
theorem sp_size_of {Φ : Fns} (R C : Nat) (f : Nat → Nat → Int) (h : 0 < R) : runFn Φ fn_size_of [pic R C f] = M.pure (.tup [.int R, .int C]) := by
  refine run_go [.val (pic R C f)] ?_
  try simp only [e_var, e_pk, e_cst, e_glo, e_bin, e_neg, e_not, e_cmp, e_chn, e_boo, e_ite, e_tup, e_lst, e_ix, e_slc, e_rev, e_call, e_blt, e_isi, e_comp, a_nil, a_cons, b_one, b_cons, t_nil, t_one, s_skip, s_seq, s_asg, s_own, s_frz, s_set, s_app, s_ext, s_expr, s_ret, s_ite, s_loop, M.pure_bind, M.lift_some, M.calm_pure, M.bind_assoc, asBl, List.getElem?_cons_zero, List.getElem?_cons_succ, List.set_cons_zero, List.set_cons_succ, Option.map_some, put, putAll, if_true, if_false, Bool.false_eq_true, Bool.true_eq_false, Bool.not_true, Bool.not_false, Cn.d, partD, List.map_cons, List.map_nil, Ev.wipe, o_add, o_sub, o_mull, o_mulr, o_mod, o_div, o_addt, o_addl, o_lt, o_le, o_gt, o_ge, eq_int, ne_int, u_lenl, u_lent, u_lens, u_max, u_min, u_abs, u_tupl, u_tupt, i_int, i_bool, i_tup, i_rng1, i_lst, i_tupl, len_pic, len_row, fn_size_of, ix_pic0 h]
  exact .pure rfl
def S_shade_at (Φ : Fns) : Prop := ∀ (R C : Nat) (f : Nat → Nat → Int) (r c : Int), 0 < R → Φ "shade_at" [pic R C f, .int r, .int c] = M.pure (.int (shade R C f r c))
theorem sp_shade_at {Φ : Fns} (R C : Nat) (f : Nat → Nat → Int) (r c : Int) (h : 0 < R) : runFn Φ fn_shade_at [pic R C f, .int r, .int c] = M.pure (.int (shade R C f r c)) := by
  refine run_go [.val (pic R C f), .val (.int r), .val (.int c)] ?_
  by_cases q1 : 0 ≤ r
  · by_cases q2 : r < (R : Nat)
    · by_cases q3 : 0 ≤ c
      · by_cases q4 : c < (C : Nat)
        · obtain ⟨r', rfl⟩ := Int.eq_ofNat_of_zero_le q1
          obtain ⟨c', rfl⟩ := Int.eq_ofNat_of_zero_le q3
          have l1 : r' < R := by omega
          have l2 : c' < C := by omega
          try simp only [e_var, e_pk, e_cst, e_glo, e_bin, e_neg, e_not, e_cmp, e_chn, e_boo, e_ite, e_tup, e_lst, e_ix, e_slc, e_rev, e_call, e_blt, e_isi, e_comp, a_nil, a_cons, b_one, b_cons, t_nil, t_one, s_skip, s_seq, s_asg, s_own, s_frz, s_set, s_app, s_ext, s_expr, s_ret, s_ite, s_loop, M.pure_bind, M.lift_some, M.calm_pure, M.bind_assoc, asBl, List.getElem?_cons_zero, List.getElem?_cons_succ, List.set_cons_zero, List.set_cons_succ, Option.map_some, put, putAll, if_true, if_false, Bool.false_eq_true, Bool.true_eq_false, Bool.not_true, Bool.not_false, Cn.d, partD, List.map_cons, List.map_nil, Ev.wipe, o_add, o_sub, o_mull, o_mulr, o_mod, o_div, o_addt, o_addl, o_lt, o_le, o_gt, o_ge, eq_int, ne_int, u_lenl, u_lent, u_lens, u_max, u_min, u_abs, u_tupl, u_tupt, i_int, i_bool, i_tup, i_rng1, i_lst, i_tupl, len_pic, len_row, fn_shade_at, q1, q2, q3, q4, decide_true, ix_pic0 h, ix_pic l1, ix_row l2]
          refine .pure ?_
          unfold shade
          rw [if_pos ⟨q1, q2, q3, q4⟩]
          rfl
        · try simp only [e_var, e_pk, e_cst, e_glo, e_bin, e_neg, e_not, e_cmp, e_chn, e_boo, e_ite, e_tup, e_lst, e_ix, e_slc, e_rev, e_call, e_blt, e_isi, e_comp, a_nil, a_cons, b_one, b_cons, t_nil, t_one, s_skip, s_seq, s_asg, s_own, s_frz, s_set, s_app, s_ext, s_expr, s_ret, s_ite, s_loop, M.pure_bind, M.lift_some, M.calm_pure, M.bind_assoc, asBl, List.getElem?_cons_zero, List.getElem?_cons_succ, List.set_cons_zero, List.set_cons_succ, Option.map_some, put, putAll, if_true, if_false, Bool.false_eq_true, Bool.true_eq_false, Bool.not_true, Bool.not_false, Cn.d, partD, List.map_cons, List.map_nil, Ev.wipe, o_add, o_sub, o_mull, o_mulr, o_mod, o_div, o_addt, o_addl, o_lt, o_le, o_gt, o_ge, eq_int, ne_int, u_lenl, u_lent, u_lens, u_max, u_min, u_abs, u_tupl, u_tupt, i_int, i_bool, i_tup, i_rng1, i_lst, i_tupl, len_pic, len_row, fn_shade_at, q1, q2, q3, q4, decide_true, decide_false, ix_pic0 h]
          refine .pure ?_
          unfold shade
          rw [if_neg (by omega)]
      · try simp only [e_var, e_pk, e_cst, e_glo, e_bin, e_neg, e_not, e_cmp, e_chn, e_boo, e_ite, e_tup, e_lst, e_ix, e_slc, e_rev, e_call, e_blt, e_isi, e_comp, a_nil, a_cons, b_one, b_cons, t_nil, t_one, s_skip, s_seq, s_asg, s_own, s_frz, s_set, s_app, s_ext, s_expr, s_ret, s_ite, s_loop, M.pure_bind, M.lift_some, M.calm_pure, M.bind_assoc, asBl, List.getElem?_cons_zero, List.getElem?_cons_succ, List.set_cons_zero, List.set_cons_succ, Option.map_some, put, putAll, if_true, if_false, Bool.false_eq_true, Bool.true_eq_false, Bool.not_true, Bool.not_false, Cn.d, partD, List.map_cons, List.map_nil, Ev.wipe, o_add, o_sub, o_mull, o_mulr, o_mod, o_div, o_addt, o_addl, o_lt, o_le, o_gt, o_ge, eq_int, ne_int, u_lenl, u_lent, u_lens, u_max, u_min, u_abs, u_tupl, u_tupt, i_int, i_bool, i_tup, i_rng1, i_lst, i_tupl, len_pic, len_row, fn_shade_at, q1, q2, q3, decide_true, decide_false, ix_pic0 h]
        refine .pure ?_
        unfold shade
        rw [if_neg (by omega)]
    · try simp only [e_var, e_pk, e_cst, e_glo, e_bin, e_neg, e_not, e_cmp, e_chn, e_boo, e_ite, e_tup, e_lst, e_ix, e_slc, e_rev, e_call, e_blt, e_isi, e_comp, a_nil, a_cons, b_one, b_cons, t_nil, t_one, s_skip, s_seq, s_asg, s_own, s_frz, s_set, s_app, s_ext, s_expr, s_ret, s_ite, s_loop, M.pure_bind, M.lift_some, M.calm_pure, M.bind_assoc, asBl, List.getElem?_cons_zero, List.getElem?_cons_succ, List.set_cons_zero, List.set_cons_succ, Option.map_some, put, putAll, if_true, if_false, Bool.false_eq_true, Bool.true_eq_false, Bool.not_true, Bool.not_false, Cn.d, partD, List.map_cons, List.map_nil, Ev.wipe, o_add, o_sub, o_mull, o_mulr, o_mod, o_div, o_addt, o_addl, o_lt, o_le, o_gt, o_ge, eq_int, ne_int, u_lenl, u_lent, u_lens, u_max, u_min, u_abs, u_tupl, u_tupt, i_int, i_bool, i_tup, i_rng1, i_lst, i_tupl, len_pic, len_row, fn_shade_at, q1, q2, decide_true, decide_false]
      refine .pure ?_
      unfold shade
      rw [if_neg (by omega)]
  · try simp only [e_var, e_pk, e_cst, e_glo, e_bin, e_neg, e_not, e_cmp, e_chn, e_boo, e_ite, e_tup, e_lst, e_ix, e_slc, e_rev, e_call, e_blt, e_isi, e_comp, a_nil, a_cons, b_one, b_cons, t_nil, t_one, s_skip, s_seq, s_asg, s_own, s_frz, s_set, s_app, s_ext, s_expr, s_ret, s_ite, s_loop, M.pure_bind, M.lift_some, M.calm_pure, M.bind_assoc, asBl, List.getElem?_cons_zero, List.getElem?_cons_succ, List.set_cons_zero, List.set_cons_succ, Option.map_some, put, putAll, if_true, if_false, Bool.false_eq_true, Bool.true_eq_false, Bool.not_true, Bool.not_false, Cn.d, partD, List.map_cons, List.map_nil, Ev.wipe, o_add, o_sub, o_mull, o_mulr, o_mod, o_div, o_addt, o_addl, o_lt, o_le, o_gt, o_ge, eq_int, ne_int, u_lenl, u_lent, u_lens, u_max, u_min, u_abs, u_tupl, u_tupt, i_int, i_bool, i_tup, i_rng1, i_lst, i_tupl, len_pic, len_row, fn_shade_at, q1, decide_false]
    refine .pure ?_
    unfold shade
    rw [if_neg (by omega)]
def S_window (Φ : Fns) : Prop := ∀ (R C : Nat) (f : Nat → Nat → Int) (R' C' : Nat) (left top : Int), 0 < R → R' ≤ 1000 → C' ≤ 1000 → Φ "window" [pic R C f, .int R', .int C', .int left, .int top] = M.pure (pic R' C' fun r c => shade R C f (top + r) (left + c))
theorem sp_window {Φ : Fns} (hs : S_shade_at Φ) (R C : Nat) (f : Nat → Nat → Int) (R' C' : Nat) (left top : Int) (h : 0 < R) (hR : R' ≤ 1000) (hC : C' ≤ 1000) : runFn Φ fn_window [pic R C f, .int R', .int C', .int left, .int top] = M.pure (pic R' C' fun r c => shade R C f (top + r) (left + c)) := by
  refine run_go [.val (pic R C f), .val (.int R'), .val (.int C'), .val (.int left), .val (.int top), .emp, .emp, .emp] ?_
  have rR : R' ≤ 16777216 := by omega
  have rC : C' ≤ 16777216 := by omega
  try simp only [e_var, e_pk, e_cst, e_glo, e_bin, e_neg, e_not, e_cmp, e_chn, e_boo, e_ite, e_tup, e_lst, e_ix, e_slc, e_rev, e_call, e_blt, e_isi, e_comp, a_nil, a_cons, b_one, b_cons, t_nil, t_one, s_skip, s_seq, s_asg, s_own, s_frz, s_set, s_app, s_ext, s_expr, s_ret, s_ite, s_loop, M.pure_bind, M.lift_some, M.calm_pure, M.bind_assoc, asBl, List.getElem?_cons_zero, List.getElem?_cons_succ, List.set_cons_zero, List.set_cons_succ, Option.map_some, put, putAll, if_true, if_false, Bool.false_eq_true, Bool.true_eq_false, Bool.not_true, Bool.not_false, Cn.d, partD, List.map_cons, List.map_nil, Ev.wipe, o_add, o_sub, o_mull, o_mulr, o_mod, o_div, o_addt, o_addl, o_lt, o_le, o_gt, o_ge, eq_int, ne_int, u_lenl, u_lent, u_lens, u_max, u_min, u_abs, u_tupl, u_tupt, i_int, i_bool, i_tup, i_rng1, i_lst, i_tupl, len_pic, len_row, fn_window, rR]
  refine Go.loopR (fun i ρ => ∃ v6 v7, ρ = [.val (pic R C f), .val (.int R'), .val (.int C'), .val (.int left), .val (.int top), .own ((List.range i).map fun (r : Nat) => rowD C' fun (c : Nat) => shade R C f (top + r) (left + c)), v6, v7]) ⟨_, _, rfl⟩ ?_ ?_
  · rintro i ρ hi ⟨v6, v7, rfl⟩
    refine ⟨_, rfl, ?_⟩
    try simp only [e_var, e_pk, e_cst, e_glo, e_bin, e_neg, e_not, e_cmp, e_chn, e_boo, e_ite, e_tup, e_lst, e_ix, e_slc, e_rev, e_call, e_blt, e_isi, e_comp, a_nil, a_cons, b_one, b_cons, t_nil, t_one, s_skip, s_seq, s_asg, s_own, s_frz, s_set, s_app, s_ext, s_expr, s_ret, s_ite, s_loop, M.pure_bind, M.lift_some, M.calm_pure, M.bind_assoc, asBl, List.getElem?_cons_zero, List.getElem?_cons_succ, List.set_cons_zero, List.set_cons_succ, Option.map_some, put, putAll, if_true, if_false, Bool.false_eq_true, Bool.true_eq_false, Bool.not_true, Bool.not_false, Cn.d, partD, List.map_cons, List.map_nil, Ev.wipe, o_add, o_sub, o_mull, o_mulr, o_mod, o_div, o_addt, o_addl, o_lt, o_le, o_gt, o_ge, eq_int, ne_int, u_lenl, u_lent, u_lens, u_max, u_min, u_abs, u_tupl, u_tupt, i_int, i_bool, i_tup, i_rng1, i_lst, i_tupl, len_pic, len_row, rC]
    refine Go.compR (fun (a : Nat) => .int (shade R C f (top + i) (left + a))) (fun a ha => ?_) ?_
    · unfold oneC
      try simp only [e_var, e_pk, e_cst, e_glo, e_bin, e_neg, e_not, e_cmp, e_chn, e_boo, e_ite, e_tup, e_lst, e_ix, e_slc, e_rev, e_call, e_blt, e_isi, e_comp, a_nil, a_cons, b_one, b_cons, t_nil, t_one, s_skip, s_seq, s_asg, s_own, s_frz, s_set, s_app, s_ext, s_expr, s_ret, s_ite, s_loop, M.pure_bind, M.lift_some, M.calm_pure, M.bind_assoc, asBl, List.getElem?_cons_zero, List.getElem?_cons_succ, List.set_cons_zero, List.set_cons_succ, Option.map_some, put, putAll, if_true, if_false, Bool.false_eq_true, Bool.true_eq_false, Bool.not_true, Bool.not_false, Cn.d, partD, List.map_cons, List.map_nil, Ev.wipe, o_add, o_sub, o_mull, o_mulr, o_mod, o_div, o_addt, o_addl, o_lt, o_le, o_gt, o_ge, eq_int, ne_int, u_lenl, u_lent, u_lens, u_max, u_min, u_abs, u_tupl, u_tupt, i_int, i_bool, i_tup, i_rng1, i_lst, i_tupl, len_pic, len_row, hs R C f _ _ h]
      exact .pure rfl
    · have hz : ((List.range i).map fun (r : Nat) => rowD C' fun (c : Nat) => shade R C f (top + r) (left + c)).length < line := by simp [line]; omega
      try simp only [e_var, e_pk, e_cst, e_glo, e_bin, e_neg, e_not, e_cmp, e_chn, e_boo, e_ite, e_tup, e_lst, e_ix, e_slc, e_rev, e_call, e_blt, e_isi, e_comp, a_nil, a_cons, b_one, b_cons, t_nil, t_one, s_skip, s_seq, s_asg, s_own, s_frz, s_set, s_app, s_ext, s_expr, s_ret, s_ite, s_loop, M.pure_bind, M.lift_some, M.calm_pure, M.bind_assoc, asBl, List.getElem?_cons_zero, List.getElem?_cons_succ, List.set_cons_zero, List.set_cons_succ, Option.map_some, put, putAll, if_true, if_false, Bool.false_eq_true, Bool.true_eq_false, Bool.not_true, Bool.not_false, Cn.d, partD, List.map_cons, List.map_nil, Ev.wipe, o_add, o_sub, o_mull, o_mulr, o_mod, o_div, o_addt, o_addl, o_lt, o_le, o_gt, o_ge, eq_int, ne_int, u_lenl, u_lent, u_lens, u_max, u_min, u_abs, u_tupl, u_tupt, i_int, i_bool, i_tup, i_rng1, i_lst, i_tupl, len_pic, len_row, hz]
      exact .pure ⟨rfl, by rw [← pic_snoc]; exact ⟨_, _, rfl⟩⟩
  · rintro ρ ⟨v6, v7, rfl⟩
    try try simp only [e_var, e_pk, e_cst, e_glo, e_bin, e_neg, e_not, e_cmp, e_chn, e_boo, e_ite, e_tup, e_lst, e_ix, e_slc, e_rev, e_call, e_blt, e_isi, e_comp, a_nil, a_cons, b_one, b_cons, t_nil, t_one, s_skip, s_seq, s_asg, s_own, s_frz, s_set, s_app, s_ext, s_expr, s_ret, s_ite, s_loop, M.pure_bind, M.lift_some, M.calm_pure, M.bind_assoc, asBl, List.getElem?_cons_zero, List.getElem?_cons_succ, List.set_cons_zero, List.set_cons_succ, Option.map_some, put, putAll, if_true, if_false, Bool.false_eq_true, Bool.true_eq_false, Bool.not_true, Bool.not_false, Cn.d, partD, List.map_cons, List.map_nil, Ev.wipe, o_add, o_sub, o_mull, o_mulr, o_mod, o_div, o_addt, o_addl, o_lt, o_le, o_gt, o_ge, eq_int, ne_int, u_lenl, u_lent, u_lens, u_max, u_min, u_abs, u_tupl, u_tupt, i_int, i_bool, i_tup, i_rng1, i_lst, i_tupl, len_pic, len_row]
    exact .pure rfl
def S_shifted (Φ : Fns) : Prop := ∀ (R C : Nat) (f : Nat → Nat → Int) (right down : Int), Pc R C f → -99 ≤ right → right ≤ 99 → -99 ≤ down → down ≤ 99 → Φ "shifted" [pic R C f, .int right, .int down] = M.pure (pic R C fun r c => shade R C f (r - down) (c - right))
theorem sp_shifted {Φ : Fns} (h1 : S_need_picture Φ) (h2 : S_is_number Φ) (h3 : S_size_of Φ) (h4 : S_window Φ) (R C : Nat) (f : Nat → Nat → Int) (right down : Int) (p : Pc R C f) (a1 : -99 ≤ right) (a2 : right ≤ 99) (a3 : -99 ≤ down) (a4 : down ≤ 99) :
    runFn Φ fn_shifted [pic R C f, .int right, .int down] = M.pure (pic R C fun r c => shade R C f (r - down) (c - right)) := by
  refine run_go [.val (pic R C f), .val (.int right), .val (.int down), .emp, .emp] ?_
  have := p.r1
  have := p.r4
  have := p.c6
  have e : ∀ i : Int, -99 ≤ i → i ≤ 99 → Φ "is_number" [.int i, .int (0 - 99), .int 99] = M.pure (.bl true) := fun i j1 j2 => by
    have e := h2 i (0 - 99) 99
    rw [decide_eq_true (show (0 - 99 : Int) ≤ i by omega), decide_eq_true j2] at e
    exact e
  try simp only [e_var, e_pk, e_cst, e_glo, e_bin, e_neg, e_not, e_cmp, e_chn, e_boo, e_ite, e_tup, e_lst, e_ix, e_slc, e_rev, e_call, e_blt, e_isi, e_comp, a_nil, a_cons, b_one, b_cons, t_nil, t_one, s_skip, s_seq, s_asg, s_own, s_frz, s_set, s_app, s_ext, s_expr, s_ret, s_ite, s_loop, M.pure_bind, M.lift_some, M.calm_pure, M.bind_assoc, asBl, List.getElem?_cons_zero, List.getElem?_cons_succ, List.set_cons_zero, List.set_cons_succ, Option.map_some, put, putAll, if_true, if_false, Bool.false_eq_true, Bool.true_eq_false, Bool.not_true, Bool.not_false, Cn.d, partD, List.map_cons, List.map_nil, Ev.wipe, o_add, o_sub, o_mull, o_mulr, o_mod, o_div, o_addt, o_addl, o_lt, o_le, o_gt, o_ge, eq_int, ne_int, u_lenl, u_lent, u_lens, u_max, u_min, u_abs, u_tupl, u_tupt, i_int, i_bool, i_tup, i_rng1, i_lst, i_tupl, len_pic, len_row, fn_shifted, h1 R C f p, e _ a1 a2, e _ a3 a4, h3 R C f (by omega), h4 R C f R C _ _ (by omega) (by omega) (by omega)]
  refine .pure (congrArg Fl.rt (pic_congr fun r c _ _ => ?_))
  congr 1 <;> omega
def tot (R C : Nat) (f : Nat → Nat → Int) : Int := ((List.range R).map fun r => ((List.range C).map (f r)).sum).sum
theorem u_sumR {C : Nat} {f : Nat → Int} : blt .sum [rowD C f] = some (.int ((List.range C).map f).sum) := u_sumt (intsOf_map _)
theorem u_sumL {α : Type} {l : List α} {f : α → Int} : blt .sum [.lst (l.map fun a => .int (f a))] = some (.int (l.map f).sum) := u_suml (intsOf_map l)
def S_total (Φ : Fns) : Prop := ∀ (R C : Nat) (f : Nat → Nat → Int), Pc R C f → Φ "total" [pic R C f] = M.pure (.int (tot R C f))
theorem sp_total {Φ : Fns} (h1 : S_need_picture Φ) (R C : Nat) (f : Nat → Nat → Int) (p : Pc R C f) : runFn Φ fn_total [pic R C f] = M.pure (.int (tot R C f)) := by
  refine run_go [.val (pic R C f), .emp] ?_
  try simp only [e_var, e_pk, e_cst, e_glo, e_bin, e_neg, e_not, e_cmp, e_chn, e_boo, e_ite, e_tup, e_lst, e_ix, e_slc, e_rev, e_call, e_blt, e_isi, e_comp, a_nil, a_cons, b_one, b_cons, t_nil, t_one, s_skip, s_seq, s_asg, s_own, s_frz, s_set, s_app, s_ext, s_expr, s_ret, s_ite, s_loop, M.pure_bind, M.lift_some, M.calm_pure, M.bind_assoc, asBl, List.getElem?_cons_zero, List.getElem?_cons_succ, List.set_cons_zero, List.set_cons_succ, Option.map_some, put, putAll, if_true, if_false, Bool.false_eq_true, Bool.true_eq_false, Bool.not_true, Bool.not_false, Cn.d, partD, List.map_cons, List.map_nil, Ev.wipe, o_add, o_sub, o_mull, o_mulr, o_mod, o_div, o_addt, o_addl, o_lt, o_le, o_gt, o_ge, eq_int, ne_int, u_lenl, u_lent, u_lens, u_max, u_min, u_abs, u_tupl, u_tupt, i_int, i_bool, i_tup, i_rng1, i_lst, i_tupl, len_pic, len_row, fn_total, h1 R C f p, i_pic]
  refine Go.compR (fun r => .int ((List.range C).map (f r)).sum) (fun a ha => ?_) ?_
  · unfold oneC
    try simp only [e_var, e_pk, e_cst, e_glo, e_bin, e_neg, e_not, e_cmp, e_chn, e_boo, e_ite, e_tup, e_lst, e_ix, e_slc, e_rev, e_call, e_blt, e_isi, e_comp, a_nil, a_cons, b_one, b_cons, t_nil, t_one, s_skip, s_seq, s_asg, s_own, s_frz, s_set, s_app, s_ext, s_expr, s_ret, s_ite, s_loop, M.pure_bind, M.lift_some, M.calm_pure, M.bind_assoc, asBl, List.getElem?_cons_zero, List.getElem?_cons_succ, List.set_cons_zero, List.set_cons_succ, Option.map_some, put, putAll, if_true, if_false, Bool.false_eq_true, Bool.true_eq_false, Bool.not_true, Bool.not_false, Cn.d, partD, List.map_cons, List.map_nil, Ev.wipe, o_add, o_sub, o_mull, o_mulr, o_mod, o_div, o_addt, o_addl, o_lt, o_le, o_gt, o_ge, eq_int, ne_int, u_lenl, u_lent, u_lens, u_max, u_min, u_abs, u_tupl, u_tupt, i_int, i_bool, i_tup, i_rng1, i_lst, i_tupl, len_pic, len_row, u_sumR]
    exact .pure rfl
  · try simp only [e_var, e_pk, e_cst, e_glo, e_bin, e_neg, e_not, e_cmp, e_chn, e_boo, e_ite, e_tup, e_lst, e_ix, e_slc, e_rev, e_call, e_blt, e_isi, e_comp, a_nil, a_cons, b_one, b_cons, t_nil, t_one, s_skip, s_seq, s_asg, s_own, s_frz, s_set, s_app, s_ext, s_expr, s_ret, s_ite, s_loop, M.pure_bind, M.lift_some, M.calm_pure, M.bind_assoc, asBl, List.getElem?_cons_zero, List.getElem?_cons_succ, List.set_cons_zero, List.set_cons_succ, Option.map_some, put, putAll, if_true, if_false, Bool.false_eq_true, Bool.true_eq_false, Bool.not_true, Bool.not_false, Cn.d, partD, List.map_cons, List.map_nil, Ev.wipe, o_add, o_sub, o_mull, o_mulr, o_mod, o_div, o_addt, o_addl, o_lt, o_le, o_gt, o_ge, eq_int, ne_int, u_lenl, u_lent, u_lens, u_max, u_min, u_abs, u_tupl, u_tupt, i_int, i_bool, i_tup, i_rng1, i_lst, i_tupl, len_pic, len_row, u_sumL]
    exact .pure rfl
def S_mirrored (Φ : Fns) : Prop := ∀ (R C : Nat) (f : Nat → Nat → Int), Pc R C f → Φ "mirrored" [pic R C f] = M.pure (pic R C fun r c => f r (C - 1 - c))
theorem sp_mirrored {Φ : Fns} (h1 : S_need_picture Φ) (R C : Nat) (f : Nat → Nat → Int) (p : Pc R C f) : runFn Φ fn_mirrored [pic R C f] = M.pure (pic R C fun r c => f r (C - 1 - c)) := by
  refine run_go [.val (pic R C f), .emp] ?_
  try simp only [e_var, e_pk, e_cst, e_glo, e_bin, e_neg, e_not, e_cmp, e_chn, e_boo, e_ite, e_tup, e_lst, e_ix, e_slc, e_rev, e_call, e_blt, e_isi, e_comp, a_nil, a_cons, b_one, b_cons, t_nil, t_one, s_skip, s_seq, s_asg, s_own, s_frz, s_set, s_app, s_ext, s_expr, s_ret, s_ite, s_loop, M.pure_bind, M.lift_some, M.calm_pure, M.bind_assoc, asBl, List.getElem?_cons_zero, List.getElem?_cons_succ, List.set_cons_zero, List.set_cons_succ, Option.map_some, put, putAll, if_true, if_false, Bool.false_eq_true, Bool.true_eq_false, Bool.not_true, Bool.not_false, Cn.d, partD, List.map_cons, List.map_nil, Ev.wipe, o_add, o_sub, o_mull, o_mulr, o_mod, o_div, o_addt, o_addl, o_lt, o_le, o_gt, o_ge, eq_int, ne_int, u_lenl, u_lent, u_lens, u_max, u_min, u_abs, u_tupl, u_tupt, i_int, i_bool, i_tup, i_rng1, i_lst, i_tupl, len_pic, len_row, fn_mirrored, h1 R C f p, i_pic]
  refine Go.compR (fun r => rowD C fun c => f r (C - 1 - c)) (fun a ha => ?_) ?_
  · unfold oneC
    try simp only [e_var, e_pk, e_cst, e_glo, e_bin, e_neg, e_not, e_cmp, e_chn, e_boo, e_ite, e_tup, e_lst, e_ix, e_slc, e_rev, e_call, e_blt, e_isi, e_comp, a_nil, a_cons, b_one, b_cons, t_nil, t_one, s_skip, s_seq, s_asg, s_own, s_frz, s_set, s_app, s_ext, s_expr, s_ret, s_ite, s_loop, M.pure_bind, M.lift_some, M.calm_pure, M.bind_assoc, asBl, List.getElem?_cons_zero, List.getElem?_cons_succ, List.set_cons_zero, List.set_cons_succ, Option.map_some, put, putAll, if_true, if_false, Bool.false_eq_true, Bool.true_eq_false, Bool.not_true, Bool.not_false, Cn.d, partD, List.map_cons, List.map_nil, Ev.wipe, o_add, o_sub, o_mull, o_mulr, o_mod, o_div, o_addt, o_addl, o_lt, o_le, o_gt, o_ge, eq_int, ne_int, u_lenl, u_lent, u_lens, u_max, u_min, u_abs, u_tupl, u_tupt, i_int, i_bool, i_tup, i_rng1, i_lst, i_tupl, len_pic, len_row, rev_row]
    exact .pure rfl
  · try try simp only [e_var, e_pk, e_cst, e_glo, e_bin, e_neg, e_not, e_cmp, e_chn, e_boo, e_ite, e_tup, e_lst, e_ix, e_slc, e_rev, e_call, e_blt, e_isi, e_comp, a_nil, a_cons, b_one, b_cons, t_nil, t_one, s_skip, s_seq, s_asg, s_own, s_frz, s_set, s_app, s_ext, s_expr, s_ret, s_ite, s_loop, M.pure_bind, M.lift_some, M.calm_pure, M.bind_assoc, asBl, List.getElem?_cons_zero, List.getElem?_cons_succ, List.set_cons_zero, List.set_cons_succ, Option.map_some, put, putAll, if_true, if_false, Bool.false_eq_true, Bool.true_eq_false, Bool.not_true, Bool.not_false, Cn.d, partD, List.map_cons, List.map_nil, Ev.wipe, o_add, o_sub, o_mull, o_mulr, o_mod, o_div, o_addt, o_addl, o_lt, o_le, o_gt, o_ge, eq_int, ne_int, u_lenl, u_lent, u_lens, u_max, u_min, u_abs, u_tupl, u_tupt, i_int, i_bool, i_tup, i_rng1, i_lst, i_tupl, len_pic, len_row]
    exact .pure rfl
def S_flipped (Φ : Fns) : Prop := ∀ (R C : Nat) (f : Nat → Nat → Int), Pc R C f → Φ "flipped" [pic R C f] = M.pure (pic R C fun r => f (R - 1 - r))
theorem sp_flipped {Φ : Fns} (h1 : S_need_picture Φ) (R C : Nat) (f : Nat → Nat → Int) (p : Pc R C f) : runFn Φ fn_flipped [pic R C f] = M.pure (pic R C fun r => f (R - 1 - r)) := by
  refine run_go [.val (pic R C f)] ?_
  try simp only [e_var, e_pk, e_cst, e_glo, e_bin, e_neg, e_not, e_cmp, e_chn, e_boo, e_ite, e_tup, e_lst, e_ix, e_slc, e_rev, e_call, e_blt, e_isi, e_comp, a_nil, a_cons, b_one, b_cons, t_nil, t_one, s_skip, s_seq, s_asg, s_own, s_frz, s_set, s_app, s_ext, s_expr, s_ret, s_ite, s_loop, M.pure_bind, M.lift_some, M.calm_pure, M.bind_assoc, asBl, List.getElem?_cons_zero, List.getElem?_cons_succ, List.set_cons_zero, List.set_cons_succ, Option.map_some, put, putAll, if_true, if_false, Bool.false_eq_true, Bool.true_eq_false, Bool.not_true, Bool.not_false, Cn.d, partD, List.map_cons, List.map_nil, Ev.wipe, o_add, o_sub, o_mull, o_mulr, o_mod, o_div, o_addt, o_addl, o_lt, o_le, o_gt, o_ge, eq_int, ne_int, u_lenl, u_lent, u_lens, u_max, u_min, u_abs, u_tupl, u_tupt, i_int, i_bool, i_tup, i_rng1, i_lst, i_tupl, len_pic, len_row, fn_flipped, h1 R C f p, rev_pic]
  exact .pure rfl
def S_inverted (Φ : Fns) : Prop := ∀ (R C : Nat) (f : Nat → Nat → Int), Pc R C f → Φ "inverted" [pic R C f] = M.pure (pic R C fun r c => 4 - f r c)
theorem sp_inverted {Φ : Fns} (h1 : S_need_picture Φ) (R C : Nat) (f : Nat → Nat → Int) (p : Pc R C f) : runFn Φ fn_inverted [pic R C f] = M.pure (pic R C fun r c => 4 - f r c) := by
  refine run_go [.val (pic R C f), .emp, .emp] ?_
  try simp only [e_var, e_pk, e_cst, e_glo, e_bin, e_neg, e_not, e_cmp, e_chn, e_boo, e_ite, e_tup, e_lst, e_ix, e_slc, e_rev, e_call, e_blt, e_isi, e_comp, a_nil, a_cons, b_one, b_cons, t_nil, t_one, s_skip, s_seq, s_asg, s_own, s_frz, s_set, s_app, s_ext, s_expr, s_ret, s_ite, s_loop, M.pure_bind, M.lift_some, M.calm_pure, M.bind_assoc, asBl, List.getElem?_cons_zero, List.getElem?_cons_succ, List.set_cons_zero, List.set_cons_succ, Option.map_some, put, putAll, if_true, if_false, Bool.false_eq_true, Bool.true_eq_false, Bool.not_true, Bool.not_false, Cn.d, partD, List.map_cons, List.map_nil, Ev.wipe, o_add, o_sub, o_mull, o_mulr, o_mod, o_div, o_addt, o_addl, o_lt, o_le, o_gt, o_ge, eq_int, ne_int, u_lenl, u_lent, u_lens, u_max, u_min, u_abs, u_tupl, u_tupt, i_int, i_bool, i_tup, i_rng1, i_lst, i_tupl, len_pic, len_row, fn_inverted, h1 R C f p, i_pic]
  refine Go.compR (fun r => rowD C fun c => 4 - f r c) (fun a ha => ?_) ?_
  · unfold oneC
    try simp only [e_var, e_pk, e_cst, e_glo, e_bin, e_neg, e_not, e_cmp, e_chn, e_boo, e_ite, e_tup, e_lst, e_ix, e_slc, e_rev, e_call, e_blt, e_isi, e_comp, a_nil, a_cons, b_one, b_cons, t_nil, t_one, s_skip, s_seq, s_asg, s_own, s_frz, s_set, s_app, s_ext, s_expr, s_ret, s_ite, s_loop, M.pure_bind, M.lift_some, M.calm_pure, M.bind_assoc, asBl, List.getElem?_cons_zero, List.getElem?_cons_succ, List.set_cons_zero, List.set_cons_succ, Option.map_some, put, putAll, if_true, if_false, Bool.false_eq_true, Bool.true_eq_false, Bool.not_true, Bool.not_false, Cn.d, partD, List.map_cons, List.map_nil, Ev.wipe, o_add, o_sub, o_mull, o_mulr, o_mod, o_div, o_addt, o_addl, o_lt, o_le, o_gt, o_ge, eq_int, ne_int, u_lenl, u_lent, u_lens, u_max, u_min, u_abs, u_tupl, u_tupt, i_int, i_bool, i_tup, i_rng1, i_lst, i_tupl, len_pic, len_row, i_row]
    refine Go.compR (fun c => .int (4 - f a c)) (fun c hc => ?_) ?_
    · unfold oneC
      try try simp only [e_var, e_pk, e_cst, e_glo, e_bin, e_neg, e_not, e_cmp, e_chn, e_boo, e_ite, e_tup, e_lst, e_ix, e_slc, e_rev, e_call, e_blt, e_isi, e_comp, a_nil, a_cons, b_one, b_cons, t_nil, t_one, s_skip, s_seq, s_asg, s_own, s_frz, s_set, s_app, s_ext, s_expr, s_ret, s_ite, s_loop, M.pure_bind, M.lift_some, M.calm_pure, M.bind_assoc, asBl, List.getElem?_cons_zero, List.getElem?_cons_succ, List.set_cons_zero, List.set_cons_succ, Option.map_some, put, putAll, if_true, if_false, Bool.false_eq_true, Bool.true_eq_false, Bool.not_true, Bool.not_false, Cn.d, partD, List.map_cons, List.map_nil, Ev.wipe, o_add, o_sub, o_mull, o_mulr, o_mod, o_div, o_addt, o_addl, o_lt, o_le, o_gt, o_ge, eq_int, ne_int, u_lenl, u_lent, u_lens, u_max, u_min, u_abs, u_tupl, u_tupt, i_int, i_bool, i_tup, i_rng1, i_lst, i_tupl, len_pic, len_row]
      exact .pure rfl
    · try try simp only [e_var, e_pk, e_cst, e_glo, e_bin, e_neg, e_not, e_cmp, e_chn, e_boo, e_ite, e_tup, e_lst, e_ix, e_slc, e_rev, e_call, e_blt, e_isi, e_comp, a_nil, a_cons, b_one, b_cons, t_nil, t_one, s_skip, s_seq, s_asg, s_own, s_frz, s_set, s_app, s_ext, s_expr, s_ret, s_ite, s_loop, M.pure_bind, M.lift_some, M.calm_pure, M.bind_assoc, asBl, List.getElem?_cons_zero, List.getElem?_cons_succ, List.set_cons_zero, List.set_cons_succ, Option.map_some, put, putAll, if_true, if_false, Bool.false_eq_true, Bool.true_eq_false, Bool.not_true, Bool.not_false, Cn.d, partD, List.map_cons, List.map_nil, Ev.wipe, o_add, o_sub, o_mull, o_mulr, o_mod, o_div, o_addt, o_addl, o_lt, o_le, o_gt, o_ge, eq_int, ne_int, u_lenl, u_lent, u_lens, u_max, u_min, u_abs, u_tupl, u_tupt, i_int, i_bool, i_tup, i_rng1, i_lst, i_tupl, len_pic, len_row]
      exact .pure rfl
  · try try simp only [e_var, e_pk, e_cst, e_glo, e_bin, e_neg, e_not, e_cmp, e_chn, e_boo, e_ite, e_tup, e_lst, e_ix, e_slc, e_rev, e_call, e_blt, e_isi, e_comp, a_nil, a_cons, b_one, b_cons, t_nil, t_one, s_skip, s_seq, s_asg, s_own, s_frz, s_set, s_app, s_ext, s_expr, s_ret, s_ite, s_loop, M.pure_bind, M.lift_some, M.calm_pure, M.bind_assoc, asBl, List.getElem?_cons_zero, List.getElem?_cons_succ, List.set_cons_zero, List.set_cons_succ, Option.map_some, put, putAll, if_true, if_false, Bool.false_eq_true, Bool.true_eq_false, Bool.not_true, Bool.not_false, Cn.d, partD, List.map_cons, List.map_nil, Ev.wipe, o_add, o_sub, o_mull, o_mulr, o_mod, o_div, o_addt, o_addl, o_lt, o_le, o_gt, o_ge, eq_int, ne_int, u_lenl, u_lent, u_lens, u_max, u_min, u_abs, u_tupl, u_tupt, i_int, i_bool, i_tup, i_rng1, i_lst, i_tupl, len_pic, len_row]
    exact .pure rfl
def S_crossed (Φ : Fns) : Prop := ∀ (R C : Nat) (f : Nat → Nat → Int), Pc R C f → C ≤ 4 → Φ "crossed" [pic R C f] = M.pure (pic C R fun r c => f c r)
theorem sp_crossed {Φ : Fns} (h1 : S_need_picture Φ) (h3 : S_size_of Φ) (R C : Nat) (f : Nat → Nat → Int) (p : Pc R C f) (hc : C ≤ 4) : runFn Φ fn_crossed [pic R C f] = M.pure (pic C R fun r c => f c r) := by
  have := p.r1
  have := p.r4
  have k1 : ¬ ((4 : Int) < (C : Nat)) := by omega
  have k2 : C ≤ 16777216 := by omega
  have k3 : R ≤ 16777216 := by omega
  refine run_go [.val (pic R C f), .emp, .emp, .emp, .emp] ?_
  try simp only [e_var, e_pk, e_cst, e_glo, e_bin, e_neg, e_not, e_cmp, e_chn, e_boo, e_ite, e_tup, e_lst, e_ix, e_slc, e_rev, e_call, e_blt, e_isi, e_comp, a_nil, a_cons, b_one, b_cons, t_nil, t_one, s_skip, s_seq, s_asg, s_own, s_frz, s_set, s_app, s_ext, s_expr, s_ret, s_ite, s_loop, M.pure_bind, M.lift_some, M.calm_pure, M.bind_assoc, asBl, List.getElem?_cons_zero, List.getElem?_cons_succ, List.set_cons_zero, List.set_cons_succ, Option.map_some, put, putAll, if_true, if_false, Bool.false_eq_true, Bool.true_eq_false, Bool.not_true, Bool.not_false, Cn.d, partD, List.map_cons, List.map_nil, Ev.wipe, o_add, o_sub, o_mull, o_mulr, o_mod, o_div, o_addt, o_addl, o_lt, o_le, o_gt, o_ge, eq_int, ne_int, u_lenl, u_lent, u_lens, u_max, u_min, u_abs, u_tupl, u_tupt, i_int, i_bool, i_tup, i_rng1, i_lst, i_tupl, len_pic, len_row, fn_crossed, h1 R C f p, h3 R C f (by omega), k1, decide_false, k2]
  refine Go.compR (fun c => rowD R fun r => f r c) (fun a ha => ?_) ?_
  · unfold oneC
    try simp only [e_var, e_pk, e_cst, e_glo, e_bin, e_neg, e_not, e_cmp, e_chn, e_boo, e_ite, e_tup, e_lst, e_ix, e_slc, e_rev, e_call, e_blt, e_isi, e_comp, a_nil, a_cons, b_one, b_cons, t_nil, t_one, s_skip, s_seq, s_asg, s_own, s_frz, s_set, s_app, s_ext, s_expr, s_ret, s_ite, s_loop, M.pure_bind, M.lift_some, M.calm_pure, M.bind_assoc, asBl, List.getElem?_cons_zero, List.getElem?_cons_succ, List.set_cons_zero, List.set_cons_succ, Option.map_some, put, putAll, if_true, if_false, Bool.false_eq_true, Bool.true_eq_false, Bool.not_true, Bool.not_false, Cn.d, partD, List.map_cons, List.map_nil, Ev.wipe, o_add, o_sub, o_mull, o_mulr, o_mod, o_div, o_addt, o_addl, o_lt, o_le, o_gt, o_ge, eq_int, ne_int, u_lenl, u_lent, u_lens, u_max, u_min, u_abs, u_tupl, u_tupt, i_int, i_bool, i_tup, i_rng1, i_lst, i_tupl, len_pic, len_row, k3]
    refine Go.compR (fun r => .int (f r a)) (fun r hr => ?_) ?_
    · unfold oneC
      try simp only [e_var, e_pk, e_cst, e_glo, e_bin, e_neg, e_not, e_cmp, e_chn, e_boo, e_ite, e_tup, e_lst, e_ix, e_slc, e_rev, e_call, e_blt, e_isi, e_comp, a_nil, a_cons, b_one, b_cons, t_nil, t_one, s_skip, s_seq, s_asg, s_own, s_frz, s_set, s_app, s_ext, s_expr, s_ret, s_ite, s_loop, M.pure_bind, M.lift_some, M.calm_pure, M.bind_assoc, asBl, List.getElem?_cons_zero, List.getElem?_cons_succ, List.set_cons_zero, List.set_cons_succ, Option.map_some, put, putAll, if_true, if_false, Bool.false_eq_true, Bool.true_eq_false, Bool.not_true, Bool.not_false, Cn.d, partD, List.map_cons, List.map_nil, Ev.wipe, o_add, o_sub, o_mull, o_mulr, o_mod, o_div, o_addt, o_addl, o_lt, o_le, o_gt, o_ge, eq_int, ne_int, u_lenl, u_lent, u_lens, u_max, u_min, u_abs, u_tupl, u_tupt, i_int, i_bool, i_tup, i_rng1, i_lst, i_tupl, len_pic, len_row, ix_pic hr, ix_row ha]
      exact .pure rfl
    · try try simp only [e_var, e_pk, e_cst, e_glo, e_bin, e_neg, e_not, e_cmp, e_chn, e_boo, e_ite, e_tup, e_lst, e_ix, e_slc, e_rev, e_call, e_blt, e_isi, e_comp, a_nil, a_cons, b_one, b_cons, t_nil, t_one, s_skip, s_seq, s_asg, s_own, s_frz, s_set, s_app, s_ext, s_expr, s_ret, s_ite, s_loop, M.pure_bind, M.lift_some, M.calm_pure, M.bind_assoc, asBl, List.getElem?_cons_zero, List.getElem?_cons_succ, List.set_cons_zero, List.set_cons_succ, Option.map_some, put, putAll, if_true, if_false, Bool.false_eq_true, Bool.true_eq_false, Bool.not_true, Bool.not_false, Cn.d, partD, List.map_cons, List.map_nil, Ev.wipe, o_add, o_sub, o_mull, o_mulr, o_mod, o_div, o_addt, o_addl, o_lt, o_le, o_gt, o_ge, eq_int, ne_int, u_lenl, u_lent, u_lens, u_max, u_min, u_abs, u_tupl, u_tupt, i_int, i_bool, i_tup, i_rng1, i_lst, i_tupl, len_pic, len_row]
      exact .pure rfl
  · try try simp only [e_var, e_pk, e_cst, e_glo, e_bin, e_neg, e_not, e_cmp, e_chn, e_boo, e_ite, e_tup, e_lst, e_ix, e_slc, e_rev, e_call, e_blt, e_isi, e_comp, a_nil, a_cons, b_one, b_cons, t_nil, t_one, s_skip, s_seq, s_asg, s_own, s_frz, s_set, s_app, s_ext, s_expr, s_ret, s_ite, s_loop, M.pure_bind, M.lift_some, M.calm_pure, M.bind_assoc, asBl, List.getElem?_cons_zero, List.getElem?_cons_succ, List.set_cons_zero, List.set_cons_succ, Option.map_some, put, putAll, if_true, if_false, Bool.false_eq_true, Bool.true_eq_false, Bool.not_true, Bool.not_false, Cn.d, partD, List.map_cons, List.map_nil, Ev.wipe, o_add, o_sub, o_mull, o_mulr, o_mod, o_div, o_addt, o_addl, o_lt, o_le, o_gt, o_ge, eq_int, ne_int, u_lenl, u_lent, u_lens, u_max, u_min, u_abs, u_tupl, u_tupt, i_int, i_bool, i_tup, i_rng1, i_lst, i_tupl, len_pic, len_row]
    exact .pure rfl
end Ev.Vw

end
section
set_option maxRecDepth 100000
set_option maxHeartbeats 4000000
namespace Ev.Vw
open PySem Ev
/-! ### sums of differences -/
def ab (i : Int) : Int := if i < 0 then -i else i
def rowApt (C : Nat) (f g : Nat → Int) : Int := ((List.range C).map fun c => ab (f c - g c)).sum
def apt (R C : Nat) (f g : Nat → Nat → Int) : Int := ((List.range R).map fun r => rowApt C (f r) (g r)).sum
theorem sum_snoc {n : Nat} {f : Nat → Int} : ((List.range n).map f).sum + f n = ((List.range (n + 1)).map f).sum := by
  rw [List.range_succ, List.map_append, List.sum_append]
  simp
def S_shades_apart (Φ : Fns) : Prop := ∀ (R C : Nat) (f g : Nat → Nat → Int), Φ "shades_apart" [pic R C f, pic R C g] = M.pure (.int (apt R C f g))
theorem sp_shades_apart {Φ : Fns} (R C : Nat) (f g : Nat → Nat → Int) : runFn Φ fn_shades_apart [pic R C f, pic R C g] = M.pure (.int (apt R C f g)) := by
  refine run_go [.val (pic R C f), .val (pic R C g), .emp, .emp, .emp, .emp, .emp] ?_
  try simp only [e_var, e_pk, e_cst, e_glo, e_bin, e_neg, e_not, e_cmp, e_chn, e_boo, e_ite, e_tup, e_lst, e_ix, e_slc, e_rev, e_call, e_blt, e_isi, e_comp, a_nil, a_cons, b_one, b_cons, t_nil, t_one, s_skip, s_seq, s_asg, s_own, s_frz, s_set, s_app, s_ext, s_expr, s_ret, s_ite, s_loop, M.pure_bind, M.lift_some, M.calm_pure, M.bind_assoc, asBl, List.getElem?_cons_zero, List.getElem?_cons_succ, List.set_cons_zero, List.set_cons_succ, Option.map_some, put, putAll, if_true, if_false, Bool.false_eq_true, Bool.true_eq_false, Bool.not_true, Bool.not_false, Cn.d, partD, List.map_cons, List.map_nil, Ev.wipe, o_add, o_sub, o_mull, o_mulr, o_mod, o_div, o_addt, o_addl, o_lt, o_le, o_gt, o_ge, eq_int, ne_int, u_lenl, u_lent, u_lens, u_max, u_min, u_abs, u_tupl, u_tupt, i_int, i_bool, i_tup, i_rng1, i_lst, i_tupl, len_pic, len_row, fn_shades_apart, i_zipP]
  refine Go.loopR (fun i ρ => ∃ v3 v4 v5 v6, ρ = [.val (pic R C f), .val (pic R C g), .val (.int ((List.range i).map fun r => rowApt C (f r) (g r)).sum), v3, v4, v5, v6]) ⟨_, _, _, _, rfl⟩ ?_ ?_
  · rintro i ρ hi ⟨v3, v4, v5, v6, rfl⟩
    refine ⟨_, rfl, ?_⟩
    try simp only [e_var, e_pk, e_cst, e_glo, e_bin, e_neg, e_not, e_cmp, e_chn, e_boo, e_ite, e_tup, e_lst, e_ix, e_slc, e_rev, e_call, e_blt, e_isi, e_comp, a_nil, a_cons, b_one, b_cons, t_nil, t_one, s_skip, s_seq, s_asg, s_own, s_frz, s_set, s_app, s_ext, s_expr, s_ret, s_ite, s_loop, M.pure_bind, M.lift_some, M.calm_pure, M.bind_assoc, asBl, List.getElem?_cons_zero, List.getElem?_cons_succ, List.set_cons_zero, List.set_cons_succ, Option.map_some, put, putAll, if_true, if_false, Bool.false_eq_true, Bool.true_eq_false, Bool.not_true, Bool.not_false, Cn.d, partD, List.map_cons, List.map_nil, Ev.wipe, o_add, o_sub, o_mull, o_mulr, o_mod, o_div, o_addt, o_addl, o_lt, o_le, o_gt, o_ge, eq_int, ne_int, u_lenl, u_lent, u_lens, u_max, u_min, u_abs, u_tupl, u_tupt, i_int, i_bool, i_tup, i_rng1, i_lst, i_tupl, len_pic, len_row, i_zipR]
    refine Go.compR (fun c => .int (ab (f i c - g i c))) (fun a ha => ?_) ?_
    · unfold oneC
      try try simp only [e_var, e_pk, e_cst, e_glo, e_bin, e_neg, e_not, e_cmp, e_chn, e_boo, e_ite, e_tup, e_lst, e_ix, e_slc, e_rev, e_call, e_blt, e_isi, e_comp, a_nil, a_cons, b_one, b_cons, t_nil, t_one, s_skip, s_seq, s_asg, s_own, s_frz, s_set, s_app, s_ext, s_expr, s_ret, s_ite, s_loop, M.pure_bind, M.lift_some, M.calm_pure, M.bind_assoc, asBl, List.getElem?_cons_zero, List.getElem?_cons_succ, List.set_cons_zero, List.set_cons_succ, Option.map_some, put, putAll, if_true, if_false, Bool.false_eq_true, Bool.true_eq_false, Bool.not_true, Bool.not_false, Cn.d, partD, List.map_cons, List.map_nil, Ev.wipe, o_add, o_sub, o_mull, o_mulr, o_mod, o_div, o_addt, o_addl, o_lt, o_le, o_gt, o_ge, eq_int, ne_int, u_lenl, u_lent, u_lens, u_max, u_min, u_abs, u_tupl, u_tupt, i_int, i_bool, i_tup, i_rng1, i_lst, i_tupl, len_pic, len_row]
      exact .pure rfl
    · try simp only [e_var, e_pk, e_cst, e_glo, e_bin, e_neg, e_not, e_cmp, e_chn, e_boo, e_ite, e_tup, e_lst, e_ix, e_slc, e_rev, e_call, e_blt, e_isi, e_comp, a_nil, a_cons, b_one, b_cons, t_nil, t_one, s_skip, s_seq, s_asg, s_own, s_frz, s_set, s_app, s_ext, s_expr, s_ret, s_ite, s_loop, M.pure_bind, M.lift_some, M.calm_pure, M.bind_assoc, asBl, List.getElem?_cons_zero, List.getElem?_cons_succ, List.set_cons_zero, List.set_cons_succ, Option.map_some, put, putAll, if_true, if_false, Bool.false_eq_true, Bool.true_eq_false, Bool.not_true, Bool.not_false, Cn.d, partD, List.map_cons, List.map_nil, Ev.wipe, o_add, o_sub, o_mull, o_mulr, o_mod, o_div, o_addt, o_addl, o_lt, o_le, o_gt, o_ge, eq_int, ne_int, u_lenl, u_lent, u_lens, u_max, u_min, u_abs, u_tupl, u_tupt, i_int, i_bool, i_tup, i_rng1, i_lst, i_tupl, len_pic, len_row, u_sumL]
      exact .pure ⟨rfl, by rw [← sum_snoc]; exact ⟨_, _, _, _, rfl⟩⟩
  · rintro ρ ⟨v3, v4, v5, v6, rfl⟩
    try try simp only [e_var, e_pk, e_cst, e_glo, e_bin, e_neg, e_not, e_cmp, e_chn, e_boo, e_ite, e_tup, e_lst, e_ix, e_slc, e_rev, e_call, e_blt, e_isi, e_comp, a_nil, a_cons, b_one, b_cons, t_nil, t_one, s_skip, s_seq, s_asg, s_own, s_frz, s_set, s_app, s_ext, s_expr, s_ret, s_ite, s_loop, M.pure_bind, M.lift_some, M.calm_pure, M.bind_assoc, asBl, List.getElem?_cons_zero, List.getElem?_cons_succ, List.set_cons_zero, List.set_cons_succ, Option.map_some, put, putAll, if_true, if_false, Bool.false_eq_true, Bool.true_eq_false, Bool.not_true, Bool.not_false, Cn.d, partD, List.map_cons, List.map_nil, Ev.wipe, o_add, o_sub, o_mull, o_mulr, o_mod, o_div, o_addt, o_addl, o_lt, o_le, o_gt, o_ge, eq_int, ne_int, u_lenl, u_lent, u_lens, u_max, u_min, u_abs, u_tupl, u_tupt, i_int, i_bool, i_tup, i_rng1, i_lst, i_tupl, len_pic, len_row]
    exact .pure rfl
theorem ne_pair {R C : Nat} : cop .ne (.tup [.int (R : Nat), .int (C : Nat)]) (.tup [.int (R : Nat), .int (C : Nat)]) = some false := ne_refl rfl
def S_apart (Φ : Fns) : Prop := ∀ (R C : Nat) (f g : Nat → Nat → Int), Pc R C f → Pc R C g → Φ "apart" [pic R C f, pic R C g] = M.pure (.int (apt R C f g))
theorem sp_apart {Φ : Fns} (h1 : S_need_picture Φ) (h2 : S_size_of Φ) (h3 : S_shades_apart Φ) (R C : Nat) (f g : Nat → Nat → Int) (p : Pc R C f) (q : Pc R C g) : runFn Φ fn_apart [pic R C f, pic R C g] = M.pure (.int (apt R C f g)) := by
  have := p.r1
  refine run_go [.val (pic R C f), .val (pic R C g)] ?_
  try simp only [e_var, e_pk, e_cst, e_glo, e_bin, e_neg, e_not, e_cmp, e_chn, e_boo, e_ite, e_tup, e_lst, e_ix, e_slc, e_rev, e_call, e_blt, e_isi, e_comp, a_nil, a_cons, b_one, b_cons, t_nil, t_one, s_skip, s_seq, s_asg, s_own, s_frz, s_set, s_app, s_ext, s_expr, s_ret, s_ite, s_loop, M.pure_bind, M.lift_some, M.calm_pure, M.bind_assoc, asBl, List.getElem?_cons_zero, List.getElem?_cons_succ, List.set_cons_zero, List.set_cons_succ, Option.map_some, put, putAll, if_true, if_false, Bool.false_eq_true, Bool.true_eq_false, Bool.not_true, Bool.not_false, Cn.d, partD, List.map_cons, List.map_nil, Ev.wipe, o_add, o_sub, o_mull, o_mulr, o_mod, o_div, o_addt, o_addl, o_lt, o_le, o_gt, o_ge, eq_int, ne_int, u_lenl, u_lent, u_lens, u_max, u_min, u_abs, u_tupl, u_tupt, i_int, i_bool, i_tup, i_rng1, i_lst, i_tupl, len_pic, len_row, fn_apart, h1 R C f p, h1 R C g q, h2 R C f (by omega), h2 R C g (by omega), ne_pair, h3 R C f g]
  exact .pure rfl
/-! ### dimmed -/
def prs (C : Nat) (g : Nat → Int) : List (Int × Int) := (List.range C).map fun c => (0 - g c, (c : Int))
def onL (C : Nat) (g : Nat → Int) (m : Nat) : List Int := ((sortG ltP (prs C g)).take m).map fun p => p.2
def dimR (C : Nat) (g : Nat → Int) (m : Nat) (c : Nat) : Int := if (c : Int) ∈ onL C g m then g c else 0
theorem prsOf_map {α : Type} {a b : α → Int} : ∀ l : List α, prsOf (l.map fun x => .tup [.int (a x), .int (b x)]) = some (l.map fun x => (a x, b x))
  | [] => rfl
  | x :: l => by simp [prsOf, prsOf_map l]
theorem u_sortP {C : Nat} {a b : Nat → Int} (h : 0 < C) : blt .sorted [.lst ((List.range C).map fun c => .tup [.int (a c), .int (b c)])] = some (.lst ((sortG ltP ((List.range C).map fun c => (a c, b c))).map fun p => .tup [.int p.1, .int p.2])) := by
  have n : intsOf ((List.range C).map fun c => D.tup [.int (a c), .int (b c)]) = none := by
    cases C with
    | zero => omega
    | succ n =>
      rw [List.range_succ_eq_map, List.map_cons]
      rfl
  simp only [blt, n, prsOf_map]
theorem slc_take {l : List D} {m : Nat} : slcD (.lst l) none (some ((m : Nat) : Int)) = some (.lst (l.take m)) := by
  simp only [slcD, cut, sIx]
  rw [if_neg (by omega)]
  simp
theorem mem_insG {α : Type} {lt : α → α → Bool} {x y : α} : ∀ {l : List α}, y ∈ insG lt x l ↔ y = x ∨ y ∈ l
  | [] => by simp [insG]
  | z :: r => by
    unfold insG
    split
    · rw [List.mem_cons, mem_insG, List.mem_cons]
      constructor
      · rintro (h | h | h)
        · exact .inr (.inl h)
        · exact .inl h
        · exact .inr (.inr h)
      · rintro (h | h | h)
        · exact .inr (.inl h)
        · exact .inl h
        · exact .inr (.inr h)
    · rw [List.mem_cons]
theorem mem_sortG {α : Type} {lt : α → α → Bool} {y : α} : ∀ {l : List α}, y ∈ sortG lt l ↔ y ∈ l
  | [] => by simp [sortG]
  | x :: l => by
    unfold sortG
    rw [mem_insG, mem_sortG, List.mem_cons]
theorem len_insG {α : Type} {lt : α → α → Bool} {x : α} : ∀ {l : List α}, (insG lt x l).length = l.length + 1
  | [] => rfl
  | z :: r => by
    unfold insG
    split
    · simp [len_insG]
    · rfl
theorem len_sortG {α : Type} {lt : α → α → Bool} : ∀ {l : List α}, (sortG lt l).length = l.length
  | [] => rfl
  | x :: l => by
    unfold sortG
    rw [len_insG, len_sortG]
    rfl
theorem in_ints {α : Type} {i : Int} {l : List α} {f : α → Int} : cop .inn (.int i) (.lst (l.map fun p => .int (f p))) = some (decide (i ∈ l.map f)) := by
  have h1 : (l.map fun p => D.int (f p)).all (okD 50) = true := by simp [okD]
  simp only [cop, inD, h1, okD, Bool.and_self, if_true]
  congr 1
  induction l with
  | nil => simp
  | cons a l ih =>
    have ih := ih (by simp [okD])
    simp only [List.map_cons, List.any_cons, ih, eqv, List.mem_cons]
    by_cases h : f a = i
    · subst h; simp
    · have h' : ¬ i = f a := fun e => h e.symm
      simp [h, h']
def S_dimmed (Φ : Fns) : Prop := ∀ (R C : Nat) (f : Nat → Nat → Int) (m : Nat), Pc R C f → m ≤ 6 → Φ "dimmed" [pic R C f, .int m] = M.pure (pic R C fun r => dimR C (f r) m)
theorem sp_dimmed {Φ : Fns} (h1 : S_need_picture Φ) (h2 : S_is_number Φ) (R C : Nat) (f : Nat → Nat → Int) (m : Nat) (p : Pc R C f) (hm : m ≤ 6) : runFn Φ fn_dimmed [pic R C f, .int m] = M.pure (pic R C fun r => dimR C (f r) m) := by
  have e := h2 m 0 6
  rw [decide_eq_true (show (0 : Int) ≤ (m : Nat) by omega), decide_eq_true (show ((m : Nat) : Int) ≤ 6 by omega)] at e
  have e : Φ "is_number" [.int (m : Nat), .int 0, .int 6] = M.pure (.bl true) := e
  have c0 : 0 < C := by have := p.c1; omega
  have r4 := p.r4
  refine run_go [.val (pic R C f), .val (.int m), .emp, .emp, .emp, .emp, .emp, .emp] ?_
  try simp only [e_var, e_pk, e_cst, e_glo, e_bin, e_neg, e_not, e_cmp, e_chn, e_boo, e_ite, e_tup, e_lst, e_ix, e_slc, e_rev, e_call, e_blt, e_isi, e_comp, a_nil, a_cons, b_one, b_cons, t_nil, t_one, s_skip, s_seq, s_asg, s_own, s_frz, s_set, s_app, s_ext, s_expr, s_ret, s_ite, s_loop, M.pure_bind, M.lift_some, M.calm_pure, M.bind_assoc, asBl, List.getElem?_cons_zero, List.getElem?_cons_succ, List.set_cons_zero, List.set_cons_succ, Option.map_some, put, putAll, if_true, if_false, Bool.false_eq_true, Bool.true_eq_false, Bool.not_true, Bool.not_false, Cn.d, partD, List.map_cons, List.map_nil, Ev.wipe, o_add, o_sub, o_mull, o_mulr, o_mod, o_div, o_addt, o_addl, o_lt, o_le, o_gt, o_ge, eq_int, ne_int, u_lenl, u_lent, u_lens, u_max, u_min, u_abs, u_tupl, u_tupt, i_int, i_bool, i_tup, i_rng1, i_lst, i_tupl, len_pic, len_row, fn_dimmed, h1 R C f p, e, i_pic]
  refine Go.loopR (fun i ρ => ∃ v3 v4 v5 v6 v7, ρ = [.val (pic R C f), .val (.int m), .own ((List.range i).map fun r => rowD C (dimR C (f r) m)), v3, v4, v5, v6, v7]) ⟨_, _, _, _, _, rfl⟩ ?_ ?_
  · rintro i ρ hi ⟨v3, v4, v5, v6, v7, rfl⟩
    refine ⟨_, rfl, ?_⟩
    try simp only [e_var, e_pk, e_cst, e_glo, e_bin, e_neg, e_not, e_cmp, e_chn, e_boo, e_ite, e_tup, e_lst, e_ix, e_slc, e_rev, e_call, e_blt, e_isi, e_comp, a_nil, a_cons, b_one, b_cons, t_nil, t_one, s_skip, s_seq, s_asg, s_own, s_frz, s_set, s_app, s_ext, s_expr, s_ret, s_ite, s_loop, M.pure_bind, M.lift_some, M.calm_pure, M.bind_assoc, asBl, List.getElem?_cons_zero, List.getElem?_cons_succ, List.set_cons_zero, List.set_cons_succ, Option.map_some, put, putAll, if_true, if_false, Bool.false_eq_true, Bool.true_eq_false, Bool.not_true, Bool.not_false, Cn.d, partD, List.map_cons, List.map_nil, Ev.wipe, o_add, o_sub, o_mull, o_mulr, o_mod, o_div, o_addt, o_addl, o_lt, o_le, o_gt, o_ge, eq_int, ne_int, u_lenl, u_lent, u_lens, u_max, u_min, u_abs, u_tupl, u_tupt, i_int, i_bool, i_tup, i_rng1, i_lst, i_tupl, len_pic, len_row, i_enumR]
    refine Go.compR (fun c => .tup [.int (0 - f i c), .int (c : Nat)]) (fun a ha => ?_) ?_
    · unfold oneC
      try try simp only [e_var, e_pk, e_cst, e_glo, e_bin, e_neg, e_not, e_cmp, e_chn, e_boo, e_ite, e_tup, e_lst, e_ix, e_slc, e_rev, e_call, e_blt, e_isi, e_comp, a_nil, a_cons, b_one, b_cons, t_nil, t_one, s_skip, s_seq, s_asg, s_own, s_frz, s_set, s_app, s_ext, s_expr, s_ret, s_ite, s_loop, M.pure_bind, M.lift_some, M.calm_pure, M.bind_assoc, asBl, List.getElem?_cons_zero, List.getElem?_cons_succ, List.set_cons_zero, List.set_cons_succ, Option.map_some, put, putAll, if_true, if_false, Bool.false_eq_true, Bool.true_eq_false, Bool.not_true, Bool.not_false, Cn.d, partD, List.map_cons, List.map_nil, Ev.wipe, o_add, o_sub, o_mull, o_mulr, o_mod, o_div, o_addt, o_addl, o_lt, o_le, o_gt, o_ge, eq_int, ne_int, u_lenl, u_lent, u_lens, u_max, u_min, u_abs, u_tupl, u_tupt, i_int, i_bool, i_tup, i_rng1, i_lst, i_tupl, len_pic, len_row]
      exact .pure rfl
    · try simp only [e_var, e_pk, e_cst, e_glo, e_bin, e_neg, e_not, e_cmp, e_chn, e_boo, e_ite, e_tup, e_lst, e_ix, e_slc, e_rev, e_call, e_blt, e_isi, e_comp, a_nil, a_cons, b_one, b_cons, t_nil, t_one, s_skip, s_seq, s_asg, s_own, s_frz, s_set, s_app, s_ext, s_expr, s_ret, s_ite, s_loop, M.pure_bind, M.lift_some, M.calm_pure, M.bind_assoc, asBl, List.getElem?_cons_zero, List.getElem?_cons_succ, List.set_cons_zero, List.set_cons_succ, Option.map_some, put, putAll, if_true, if_false, Bool.false_eq_true, Bool.true_eq_false, Bool.not_true, Bool.not_false, Cn.d, partD, List.map_cons, List.map_nil, Ev.wipe, o_add, o_sub, o_mull, o_mulr, o_mod, o_div, o_addt, o_addl, o_lt, o_le, o_gt, o_ge, eq_int, ne_int, u_lenl, u_lent, u_lens, u_max, u_min, u_abs, u_tupl, u_tupt, i_int, i_bool, i_tup, i_rng1, i_lst, i_tupl, len_pic, len_row, u_sortP c0, slc_take, ← List.map_take]
      refine Go.comp (fun q => .int q.2) (fun a ha => ?_) ?_
      · unfold oneC
        try try simp only [e_var, e_pk, e_cst, e_glo, e_bin, e_neg, e_not, e_cmp, e_chn, e_boo, e_ite, e_tup, e_lst, e_ix, e_slc, e_rev, e_call, e_blt, e_isi, e_comp, a_nil, a_cons, b_one, b_cons, t_nil, t_one, s_skip, s_seq, s_asg, s_own, s_frz, s_set, s_app, s_ext, s_expr, s_ret, s_ite, s_loop, M.pure_bind, M.lift_some, M.calm_pure, M.bind_assoc, asBl, List.getElem?_cons_zero, List.getElem?_cons_succ, List.set_cons_zero, List.set_cons_succ, Option.map_some, put, putAll, if_true, if_false, Bool.false_eq_true, Bool.true_eq_false, Bool.not_true, Bool.not_false, Cn.d, partD, List.map_cons, List.map_nil, Ev.wipe, o_add, o_sub, o_mull, o_mulr, o_mod, o_div, o_addt, o_addl, o_lt, o_le, o_gt, o_ge, eq_int, ne_int, u_lenl, u_lent, u_lens, u_max, u_min, u_abs, u_tupl, u_tupt, i_int, i_bool, i_tup, i_rng1, i_lst, i_tupl, len_pic, len_row]
        exact .pure rfl
      · try simp only [e_var, e_pk, e_cst, e_glo, e_bin, e_neg, e_not, e_cmp, e_chn, e_boo, e_ite, e_tup, e_lst, e_ix, e_slc, e_rev, e_call, e_blt, e_isi, e_comp, a_nil, a_cons, b_one, b_cons, t_nil, t_one, s_skip, s_seq, s_asg, s_own, s_frz, s_set, s_app, s_ext, s_expr, s_ret, s_ite, s_loop, M.pure_bind, M.lift_some, M.calm_pure, M.bind_assoc, asBl, List.getElem?_cons_zero, List.getElem?_cons_succ, List.set_cons_zero, List.set_cons_succ, Option.map_some, put, putAll, if_true, if_false, Bool.false_eq_true, Bool.true_eq_false, Bool.not_true, Bool.not_false, Cn.d, partD, List.map_cons, List.map_nil, Ev.wipe, o_add, o_sub, o_mull, o_mulr, o_mod, o_div, o_addt, o_addl, o_lt, o_le, o_gt, o_ge, eq_int, ne_int, u_lenl, u_lent, u_lens, u_max, u_min, u_abs, u_tupl, u_tupt, i_int, i_bool, i_tup, i_rng1, i_lst, i_tupl, len_pic, len_row, i_enumR]
        refine Go.compR (fun c => .int (dimR C (f i) m c)) (fun c hc => ?_) ?_
        · unfold oneC
          try simp only [e_var, e_pk, e_cst, e_glo, e_bin, e_neg, e_not, e_cmp, e_chn, e_boo, e_ite, e_tup, e_lst, e_ix, e_slc, e_rev, e_call, e_blt, e_isi, e_comp, a_nil, a_cons, b_one, b_cons, t_nil, t_one, s_skip, s_seq, s_asg, s_own, s_frz, s_set, s_app, s_ext, s_expr, s_ret, s_ite, s_loop, M.pure_bind, M.lift_some, M.calm_pure, M.bind_assoc, asBl, List.getElem?_cons_zero, List.getElem?_cons_succ, List.set_cons_zero, List.set_cons_succ, Option.map_some, put, putAll, if_true, if_false, Bool.false_eq_true, Bool.true_eq_false, Bool.not_true, Bool.not_false, Cn.d, partD, List.map_cons, List.map_nil, Ev.wipe, o_add, o_sub, o_mull, o_mulr, o_mod, o_div, o_addt, o_addl, o_lt, o_le, o_gt, o_ge, eq_int, ne_int, u_lenl, u_lent, u_lens, u_max, u_min, u_abs, u_tupl, u_tupt, i_int, i_bool, i_tup, i_rng1, i_lst, i_tupl, len_pic, len_row, in_ints]
          by_cases hq : (c : Int) ∈ onL C (f i) m
          · have hq' : (c : Int) ∈ ((sortG ltP ((List.range C).map fun c => (0 - f i c, (c : Int)))).take m).map fun q => q.2 := hq
            try simp only [e_var, e_pk, e_cst, e_glo, e_bin, e_neg, e_not, e_cmp, e_chn, e_boo, e_ite, e_tup, e_lst, e_ix, e_slc, e_rev, e_call, e_blt, e_isi, e_comp, a_nil, a_cons, b_one, b_cons, t_nil, t_one, s_skip, s_seq, s_asg, s_own, s_frz, s_set, s_app, s_ext, s_expr, s_ret, s_ite, s_loop, M.pure_bind, M.lift_some, M.calm_pure, M.bind_assoc, asBl, List.getElem?_cons_zero, List.getElem?_cons_succ, List.set_cons_zero, List.set_cons_succ, Option.map_some, put, putAll, if_true, if_false, Bool.false_eq_true, Bool.true_eq_false, Bool.not_true, Bool.not_false, Cn.d, partD, List.map_cons, List.map_nil, Ev.wipe, o_add, o_sub, o_mull, o_mulr, o_mod, o_div, o_addt, o_addl, o_lt, o_le, o_gt, o_ge, eq_int, ne_int, u_lenl, u_lent, u_lens, u_max, u_min, u_abs, u_tupl, u_tupt, i_int, i_bool, i_tup, i_rng1, i_lst, i_tupl, len_pic, len_row, hq', decide_true]
            refine .pure ?_
            unfold dimR
            rw [if_pos hq]
          · have hq' : ¬ (c : Int) ∈ ((sortG ltP ((List.range C).map fun c => (0 - f i c, (c : Int)))).take m).map fun q => q.2 := hq
            try simp only [e_var, e_pk, e_cst, e_glo, e_bin, e_neg, e_not, e_cmp, e_chn, e_boo, e_ite, e_tup, e_lst, e_ix, e_slc, e_rev, e_call, e_blt, e_isi, e_comp, a_nil, a_cons, b_one, b_cons, t_nil, t_one, s_skip, s_seq, s_asg, s_own, s_frz, s_set, s_app, s_ext, s_expr, s_ret, s_ite, s_loop, M.pure_bind, M.lift_some, M.calm_pure, M.bind_assoc, asBl, List.getElem?_cons_zero, List.getElem?_cons_succ, List.set_cons_zero, List.set_cons_succ, Option.map_some, put, putAll, if_true, if_false, Bool.false_eq_true, Bool.true_eq_false, Bool.not_true, Bool.not_false, Cn.d, partD, List.map_cons, List.map_nil, Ev.wipe, o_add, o_sub, o_mull, o_mulr, o_mod, o_div, o_addt, o_addl, o_lt, o_le, o_gt, o_ge, eq_int, ne_int, u_lenl, u_lent, u_lens, u_max, u_min, u_abs, u_tupl, u_tupt, i_int, i_bool, i_tup, i_rng1, i_lst, i_tupl, len_pic, len_row, hq', decide_false]
            refine .pure ?_
            unfold dimR
            rw [if_neg hq]
        · have hz : ((List.range i).map fun r => rowD C (dimR C (f r) m)).length < line := by simp [line]; omega
          try simp only [e_var, e_pk, e_cst, e_glo, e_bin, e_neg, e_not, e_cmp, e_chn, e_boo, e_ite, e_tup, e_lst, e_ix, e_slc, e_rev, e_call, e_blt, e_isi, e_comp, a_nil, a_cons, b_one, b_cons, t_nil, t_one, s_skip, s_seq, s_asg, s_own, s_frz, s_set, s_app, s_ext, s_expr, s_ret, s_ite, s_loop, M.pure_bind, M.lift_some, M.calm_pure, M.bind_assoc, asBl, List.getElem?_cons_zero, List.getElem?_cons_succ, List.set_cons_zero, List.set_cons_succ, Option.map_some, put, putAll, if_true, if_false, Bool.false_eq_true, Bool.true_eq_false, Bool.not_true, Bool.not_false, Cn.d, partD, List.map_cons, List.map_nil, Ev.wipe, o_add, o_sub, o_mull, o_mulr, o_mod, o_div, o_addt, o_addl, o_lt, o_le, o_gt, o_ge, eq_int, ne_int, u_lenl, u_lent, u_lens, u_max, u_min, u_abs, u_tupl, u_tupt, i_int, i_bool, i_tup, i_rng1, i_lst, i_tupl, len_pic, len_row, hz]
          exact .pure ⟨rfl, by rw [← pic_snoc]; exact ⟨_, _, _, _, _, rfl⟩⟩
  · rintro ρ ⟨v3, v4, v5, v6, v7, rfl⟩
    try try simp only [e_var, e_pk, e_cst, e_glo, e_bin, e_neg, e_not, e_cmp, e_chn, e_boo, e_ite, e_tup, e_lst, e_ix, e_slc, e_rev, e_call, e_blt, e_isi, e_comp, a_nil, a_cons, b_one, b_cons, t_nil, t_one, s_skip, s_seq, s_asg, s_own, s_frz, s_set, s_app, s_ext, s_expr, s_ret, s_ite, s_loop, M.pure_bind, M.lift_some, M.calm_pure, M.bind_assoc, asBl, List.getElem?_cons_zero, List.getElem?_cons_succ, List.set_cons_zero, List.set_cons_succ, Option.map_some, put, putAll, if_true, if_false, Bool.false_eq_true, Bool.true_eq_false, Bool.not_true, Bool.not_false, Cn.d, partD, List.map_cons, List.map_nil, Ev.wipe, o_add, o_sub, o_mull, o_mulr, o_mod, o_div, o_addt, o_addl, o_lt, o_le, o_gt, o_ge, eq_int, ne_int, u_lenl, u_lent, u_lens, u_max, u_min, u_abs, u_tupl, u_tupt, i_int, i_bool, i_tup, i_rng1, i_lst, i_tupl, len_pic, len_row]
    exact .pure rfl
theorem dim_zero {C : Nat} {g : Nat → Int} {c : Nat} : dimR C g 0 c = 0 := by simp [dimR, onL]
theorem dim_all {C : Nat} {g : Nat → Int} {c m : Nat} (hm : C ≤ m) (hc : c < C) : dimR C g m c = g c := by
  unfold dimR onL
  rw [List.take_of_length_le (by rw [len_sortG]; simp [prs]; omega)]
  rw [if_pos]
  refine List.mem_map.mpr ⟨(0 - g c, (c : Int)), mem_sortG.mpr ?_, rfl⟩
  exact List.mem_map.mpr ⟨c, List.mem_range.mpr hc, rfl⟩
/-! ### the law's own -/
def anyR (ns : List Int) (k : Nat) : Nat := 1 + drawV ns k 4
def anyC (ns : List Int) (k : Nat) : Nat := 1 + drawV ns (k + 1) 6
def S_law_any (Φ : Fns) : Prop := ∀ (ns : List Int) (k : Nat), ns.length ≤ 63 → Φ "_law_any" [.scr ns, .int k] = M.pure (pic (anyR ns k) (anyC ns k) (drawn ns (k + 2)))
theorem sp_law_any {Φ : Fns} (h1 : S_drawn Φ) (h2 : S_law_picture Φ) (ns : List Int) (k : Nat) (h : ns.length ≤ 63) : runFn Φ fn__law_any [.scr ns, .int k] = M.pure (pic (anyR ns k) (anyC ns k) (drawn ns (k + 2))) := by
  refine run_go [.val (.scr ns), .val (.int k)] ?_
  have d1 := drawV_lt (ns := ns) (k := k) (many := 4) (by decide)
  have d2 := drawV_lt (ns := ns) (k := k + 1) (many := 6) (by decide)
  have e1 := h1 ns k 4 h (by decide)
  have e2 := h1 ns (k + 1) 6 h (by decide)
  have e3 := h2 ns (k + 2) (anyR ns k) (anyC ns k) h (by unfold anyR; omega) (by unfold anyC; omega)
  unfold anyR anyC at e3 ⊢
  simp only [Int.natCast_add, Int.natCast_one] at e1 e2 e3
  have e1 : Φ "_law_drawn" [.scr ns, .int k, .int 4] = M.pure (.int (drawV ns k 4)) := e1
  have e2 : Φ "_law_drawn" [.scr ns, .int ((k : Int) + 1), .int 6] = M.pure (.int (drawV ns (k + 1) 6)) := e2
  have e3 : Φ "_law_picture" [.scr ns, .int ((k : Int) + 2), .int (1 + (drawV ns k 4 : Int)), .int (1 + (drawV ns (k + 1) 6 : Int))] = _ := e3
  try simp only [e_var, e_pk, e_cst, e_glo, e_bin, e_neg, e_not, e_cmp, e_chn, e_boo, e_ite, e_tup, e_lst, e_ix, e_slc, e_rev, e_call, e_blt, e_isi, e_comp, a_nil, a_cons, b_one, b_cons, t_nil, t_one, s_skip, s_seq, s_asg, s_own, s_frz, s_set, s_app, s_ext, s_expr, s_ret, s_ite, s_loop, M.pure_bind, M.lift_some, M.calm_pure, M.bind_assoc, asBl, List.getElem?_cons_zero, List.getElem?_cons_succ, List.set_cons_zero, List.set_cons_succ, Option.map_some, put, putAll, if_true, if_false, Bool.false_eq_true, Bool.true_eq_false, Bool.not_true, Bool.not_false, Cn.d, partD, List.map_cons, List.map_nil, Ev.wipe, o_add, o_sub, o_mull, o_mulr, o_mod, o_div, o_addt, o_addl, o_lt, o_le, o_gt, o_ge, eq_int, ne_int, u_lenl, u_lent, u_lens, u_max, u_min, u_abs, u_tupl, u_tupt, i_int, i_bool, i_tup, i_rng1, i_lst, i_tupl, len_pic, len_row, fn__law_any, e1, e2, e3]
  exact .pure rfl
theorem pc_any {ns : List Int} {k j : Nat} : Pc (anyR ns k) (anyC ns k) (drawn ns j) := by
  have d1 := drawV_lt (ns := ns) (k := k) (many := 4) (by decide)
  have d2 := drawV_lt (ns := ns) (k := k + 1) (many := 6) (by decide)
  exact ⟨by unfold anyR; omega, by unfold anyR; omega, by unfold anyC; omega, by unfold anyC; omega, fun r c _ _ => shV_le⟩
end Ev.Vw

end
section
set_option maxRecDepth 100000
set_option maxHeartbeats 4000000
namespace Ev.Vw
open PySem Ev
/-! ### sums over ranges -/
def sm (n : Nat) (f : Nat → Int) : Int := ((List.range n).map f).sum
theorem sm_zero {f : Nat → Int} : sm 0 f = 0 := (rfl)
theorem sm_succ {n : Nat} {f : Nat → Int} : sm (n + 1) f = sm n f + f n := sum_snoc.symm
theorem sm_congr {n : Nat} {f g : Nat → Int} (h : ∀ i, i < n → f i = g i) : sm n f = sm n g := by unfold sm; rw [range_map_congr h]
theorem sm_add {n : Nat} {f g : Nat → Int} : sm n (fun i => f i + g i) = sm n f + sm n g := by
  induction n with
  | zero => rfl
  | succ n ih => rw [sm_succ, sm_succ, sm_succ, ih]; omega
theorem sm_const {n : Nat} {k : Int} : sm n (fun _ => k) = (n : Int) * k := by
  induction n with
  | zero => simp [sm]
  | succ n ih => rw [sm_succ, ih]; rw [Int.natCast_add, Int.add_mul]; simp
theorem sm_le {n : Nat} {f g : Nat → Int} (h : ∀ i, i < n → f i ≤ g i) : sm n f ≤ sm n g := by
  induction n with
  | zero => simp [sm]
  | succ n ih =>
    rw [sm_succ, sm_succ]
    have := ih fun i hi => h i (by omega)
    have := h n (by omega)
    omega
theorem sm_nonneg {n : Nat} {f : Nat → Int} (h : ∀ i, i < n → 0 ≤ f i) : 0 ≤ sm n f := by
  have := sm_le (n := n) (f := fun _ => 0) (g := f) h
  rw [sm_const] at this
  simpa using this
theorem sm_eq_zero {n : Nat} {f : Nat → Int} (h : ∀ i, i < n → 0 ≤ f i) : sm n f = 0 ↔ ∀ i, i < n → f i = 0 := by
  induction n with
  | zero => simp [sm]
  | succ n ih =>
    have ih := ih fun i hi => h i (by omega)
    have h0 := sm_nonneg (n := n) (f := f) fun i hi => h i (by omega)
    have h1 := h n (by omega)
    rw [sm_succ]
    constructor
    · intro e i hi
      have e1 : sm n f = 0 := by omega
      by_cases q : i < n
      · exact ih.mp e1 i q
      · have : i = n := by omega
        subst this
        omega
    · intro e
      rw [ih.mpr fun i hi => e i (by omega), e n (by omega)]
      rfl
theorem sm_head {n : Nat} {f : Nat → Int} : sm (n + 1) f = f 0 + sm n (fun i => f (i + 1)) := by
  induction n with
  | zero => simp [sm]
  | succ n ih => rw [sm_succ, ih, sm_succ]; omega
theorem sm_rev {n : Nat} {f : Nat → Int} : sm n (fun i => f (n - 1 - i)) = sm n f := by
  induction n with
  | zero => rfl
  | succ n ih =>
    rw [sm_head, sm_succ]
    have : sm n (fun i => f (n + 1 - 1 - (i + 1))) = sm n f := by
      rw [← ih]
      exact sm_congr fun i hi => by congr 1; omega
    rw [this]
    simp only [Nat.add_sub_cancel, Nat.sub_zero]
    omega
theorem sm_comm {m n : Nat} {f : Nat → Nat → Int} : sm m (fun i => sm n (f i)) = sm n (fun j => sm m (fun i => f i j)) := by
  induction m with
  | zero =>
    simp only [sm_zero]
    rw [sm_const]; simp
  | succ m ih =>
    rw [sm_succ, ih, ← sm_add]
    exact sm_congr fun j hj => sm_succ.symm
theorem tot_eq {R C : Nat} {f : Nat → Nat → Int} : tot R C f = sm R fun r => sm C (f r) := (rfl)
theorem apt_eq {R C : Nat} {f g : Nat → Nat → Int} : apt R C f g = sm R fun r => sm C fun c => ab (f r c - g r c) := (rfl)
theorem tot_mir {R C : Nat} {f : Nat → Nat → Int} : tot R C (fun r c => f r (C - 1 - c)) = tot R C f := by
  rw [tot_eq, tot_eq]
  exact sm_congr fun r _ => sm_rev
theorem tot_inv {R C : Nat} {f : Nat → Nat → Int} : tot R C (fun r c => 4 - f r c) + tot R C f = 4 * (R : Int) * (C : Int) := by
  rw [tot_eq, tot_eq, ← sm_add]
  rw [sm_congr (g := fun _ => (C : Int) * 4) fun r _ => by rw [← sm_add, sm_congr (g := fun _ => 4) fun c _ => by omega, sm_const]]
  rw [sm_const, Int.mul_comm (C : Int) 4, ← Int.mul_assoc, Int.mul_comm (R : Int) 4]
theorem ab_neg {i : Int} : ab (-i) = ab i := by unfold ab; split <;> split <;> omega
theorem ab_nonneg {i : Int} : 0 ≤ ab i := by unfold ab; split <;> omega
theorem ab_zero {i : Int} : ab i = 0 ↔ i = 0 := by unfold ab; split <;> omega
theorem ab_tri {i j k : Int} : ab (i - j) ≤ ab (i - k) + ab (k - j) := by unfold ab; split <;> split <;> split <;> omega
theorem apt_sym {R C : Nat} {f g : Nat → Nat → Int} : apt R C f g = apt R C g f := by
  rw [apt_eq, apt_eq]
  exact sm_congr fun r _ => sm_congr fun c _ => by rw [← ab_neg]; congr 1; omega
theorem apt_mir {R C : Nat} {f g : Nat → Nat → Int} : apt R C (fun r c => f r (C - 1 - c)) (fun r c => g r (C - 1 - c)) = apt R C f g := by
  rw [apt_eq, apt_eq]
  exact sm_congr fun r _ => sm_rev (f := fun c => ab (f r c - g r c))
theorem apt_flip {R C : Nat} {f g : Nat → Nat → Int} : apt R C (fun r => f (R - 1 - r)) (fun r => g (R - 1 - r)) = apt R C f g := by
  rw [apt_eq, apt_eq]
  exact sm_rev (f := fun r => sm C fun c => ab (f r c - g r c))
theorem apt_inv {R C : Nat} {f g : Nat → Nat → Int} : apt R C (fun r c => 4 - f r c) (fun r c => 4 - g r c) = apt R C f g := by
  rw [apt_eq, apt_eq]
  exact sm_congr fun r _ => sm_congr fun c _ => by rw [← ab_neg]; congr 1; omega
theorem apt_cross {R C : Nat} {f g : Nat → Nat → Int} : apt C R (fun r c => f c r) (fun r c => g c r) = apt R C f g := by
  rw [apt_eq, apt_eq, sm_comm]
theorem apt_zero {R C : Nat} {f g : Nat → Nat → Int} : apt R C f g = 0 ↔ ∀ r, r < R → ∀ c, c < C → f r c = g r c := by
  rw [apt_eq, sm_eq_zero fun r _ => sm_nonneg fun c _ => ab_nonneg]
  constructor
  · intro h r hr c hc
    have := (sm_eq_zero fun c _ => ab_nonneg).mp (h r hr) c hc
    have := ab_zero.mp this
    omega
  · intro h r hr
    exact (sm_eq_zero fun c _ => ab_nonneg).mpr fun c hc => ab_zero.mpr (by have := h r hr c hc; omega)
theorem apt_tri {R C : Nat} {f g h : Nat → Nat → Int} : apt R C f g ≤ apt R C f h + apt R C h g := by
  rw [apt_eq, apt_eq, apt_eq, ← sm_add]
  refine sm_le fun r _ => ?_
  rw [← sm_add]
  exact sm_le fun c _ => ab_tri
theorem apt_dark {R C : Nat} {f : Nat → Nat → Int} (h : Shd R C f) : apt R C f (fun _ _ => 0) = tot R C f := by
  rw [apt_eq, tot_eq]
  exact sm_congr fun r hr => sm_congr fun c hc => by have := (h r c hr hc).1; unfold ab; split <;> omega
/-! ### pictures compared -/
theorem eqvL_map {α : Type} {a b : α → D} : ∀ {l : List α}, eqvL (l.map a) (l.map b) = l.all fun x => eqv (a x) (b x)
  | [] => rfl
  | x :: l => by simp [eqvL, eqvL_map]
theorem eq_pic {R C : Nat} {f g : Nat → Nat → Int} : cop .eq (pic R C f) (pic R C g) = some (decide (∀ r, r < R → ∀ c, c < C → f r c = g r c)) := by
  have e : cop .eq (pic R C f) (pic R C g) = some (eqv (pic R C f) (pic R C g)) := by
    simp only [cop]
    have h1 : okD 50 (pic R C f) = true := okD_pic
    have h2 : okD 50 (pic R C g) = true := okD_pic
    unfold pic at h1 h2 ⊢
    simp only [eqD, h1, h2, Bool.and_self, if_true]
  rw [e]
  congr 1
  unfold pic rowD
  simp only [eqv, eqvL_map]
  rw [Bool.eq_iff_iff]
  simp only [List.all_eq_true, List.mem_range, beq_iff_eq, decide_eq_true_eq]
theorem ne_pic_refl {R C : Nat} {f : Nat → Nat → Int} : cop .ne (pic R C f) (pic R C f) = some false := ne_refl okD_pic
theorem eq_pic_refl {R C : Nat} {f : Nat → Nat → Int} : cop .eq (pic R C f) (pic R C f) = some true := eq_refl okD_pic
theorem ne_bl {a b : Bool} : cop .ne (.bl a) (.bl b) = some (!(a == b)) := by cases a <;> cases b <;> rfl
/-! ### pictures again -/
theorem Pc.mir {R C : Nat} {f : Nat → Nat → Int} (p : Pc R C f) : Pc R C fun r c => f r (C - 1 - c) := ⟨p.r1, p.r4, p.c1, p.c6, fun r c hr hc => p.sh r _ hr (by have := p.c1; omega)⟩
theorem Pc.flip {R C : Nat} {f : Nat → Nat → Int} (p : Pc R C f) : Pc R C fun r => f (R - 1 - r) := ⟨p.r1, p.r4, p.c1, p.c6, fun r c hr hc => p.sh _ c (by have := p.r1; omega) hc⟩
theorem Pc.inv {R C : Nat} {f : Nat → Nat → Int} (p : Pc R C f) : Pc R C fun r c => 4 - f r c := ⟨p.r1, p.r4, p.c1, p.c6, fun r c hr hc => by have := p.sh r c hr hc; omega⟩
theorem Pc.cross {R C : Nat} {f : Nat → Nat → Int} (p : Pc R C f) (h : C ≤ 4) : Pc C R fun r c => f c r := ⟨p.c1, h, p.r1, by have := p.r4; omega, fun r c hr hc => p.sh c r hc hr⟩
theorem shade_sh {R C : Nat} {f : Nat → Nat → Int} (p : Shd R C f) {r c : Int} : 0 ≤ shade R C f r c ∧ shade R C f r c ≤ 4 := by
  unfold shade
  split
  · exact p _ _ (by omega) (by omega)
  · omega
theorem Pc.shift {R C : Nat} {f : Nat → Nat → Int} (p : Pc R C f) {a b : Int} : Pc R C fun r c => shade R C f (r - a) (c - b) := ⟨p.r1, p.r4, p.c1, p.c6, fun r c _ _ => shade_sh p.sh⟩
theorem Pc.dim {R C m : Nat} {f : Nat → Nat → Int} (p : Pc R C f) : Pc R C fun r => dimR C (f r) m := ⟨p.r1, p.r4, p.c1, p.c6, fun r c hr hc => by
  have := p.sh r c hr hc
  show 0 ≤ dimR C (f r) m c ∧ dimR C (f r) m c ≤ 4
  unfold dimR
  split <;> omega⟩
theorem shade_eq {R C : Nat} {f : Nat → Nat → Int} {r c r' c' : Int} (h : r = r') (h2 : c = c') : shade R C f r c = shade R C f r' c' := by subst h; subst h2; rfl
theorem shade_mir {R C : Nat} {f : Nat → Nat → Int} {r c : Int} : shade R C (fun r c => f r (C - 1 - c)) r c = shade R C f r ((C : Int) - 1 - c) := by
  unfold shade
  by_cases h : 0 ≤ r ∧ r < R ∧ 0 ≤ c ∧ c < C
  · rw [if_pos h, if_pos (by omega)]
    show f r.toNat (C - 1 - c.toNat) = f r.toNat ((C : Int) - 1 - c).toNat
    congr 1
    omega
  · rw [if_neg h, if_neg (by omega)]
theorem shade_flip {R C : Nat} {f : Nat → Nat → Int} {r c : Int} : shade R C (fun r => f (R - 1 - r)) r c = shade R C f ((R : Int) - 1 - r) c := by
  unfold shade
  by_cases h : 0 ≤ r ∧ r < R ∧ 0 ≤ c ∧ c < C
  · rw [if_pos h, if_pos (by omega)]
    show f (R - 1 - r.toNat) c.toNat = f ((R : Int) - 1 - r).toNat c.toNat
    rw [show R - 1 - r.toNat = ((R : Int) - 1 - r).toNat by omega]
  · rw [if_neg h, if_neg (by omega)]
end Ev.Vw

end
section
set_option maxRecDepth 100000
set_option maxHeartbeats 4000000
namespace Ev.Vw
open PySem Ev
/-! ### dark -/
theorem rep_one {α : Type} {x : α} : ∀ n : Nat, (List.replicate n [x]).flatten = (List.range n).map fun _ => x := by
  intro n
  have : (List.replicate n [x]).flatten = List.replicate n x := by
    induction n with
    | zero => rfl
    | succ n ih => rw [List.replicate_succ, List.flatten_cons, ih]; rfl
  rw [this]
  apply List.ext_getElem
  · simp
  · intro i h1 h2; simp
theorem o_mulT {d : D} {n : Nat} (h : n ≤ 1000) : bop .mul (.tup [d]) (.int (n : Nat)) = some (.tup ((List.range n).map fun _ => d)) := by
  simp only [bop, List.length_cons, List.length_nil]
  rw [if_pos (by omega), Int.toNat_natCast, rep_one]
theorem o_mulL {d : D} {n : Nat} (h : n ≤ 1000) : bop .mul (.lst [d]) (.int (n : Nat)) = some (.lst ((List.range n).map fun _ => d)) := by
  simp only [bop, List.length_cons, List.length_nil]
  rw [if_pos (by omega), Int.toNat_natCast, rep_one]
def S_is_size (Φ : Fns) : Prop := ∀ R C : Nat, 1 ≤ R → R ≤ 4 → 1 ≤ C → C ≤ 6 → Φ "is_size" [.int R, .int C] = M.pure (.bl true)
theorem sp_is_size {Φ : Fns} (h : S_is_number Φ) (R C : Nat) (r1 : 1 ≤ R) (r4 : R ≤ 4) (c1 : 1 ≤ C) (c6 : C ≤ 6) : runFn Φ fn_is_size [.int R, .int C] = M.pure (.bl true) := by
  have e1 := h R 1 4
  have e2 := h C 1 6
  rw [decide_eq_true (show (1 : Int) ≤ (R : Nat) by omega), decide_eq_true (show ((R : Nat) : Int) ≤ 4 by omega)] at e1
  rw [decide_eq_true (show (1 : Int) ≤ (C : Nat) by omega), decide_eq_true (show ((C : Nat) : Int) ≤ 6 by omega)] at e2
  refine run_go [.val (.int R), .val (.int C)] ?_
  simp only [fn_is_size]
  exact Go.retS (.bl true) (by try simp only [e_var, e_pk, e_cst, e_glo, e_bin, e_neg, e_not, e_cmp, e_chn, e_boo, e_ite, e_tup, e_lst, e_ix, e_slc, e_rev, e_call, e_blt, e_isi, e_comp, a_nil, a_cons, b_one, b_cons, t_nil, t_one, s_skip, s_seq, s_asg, s_own, s_frz, s_set, s_app, s_ext, s_expr, s_ret, s_ite, s_loop, M.pure_bind, M.lift_some, M.calm_pure, M.bind_assoc, asBl, List.getElem?_cons_zero, List.getElem?_cons_succ, List.set_cons_zero, List.set_cons_succ, Option.map_some, put, putAll, if_true, if_false, Bool.false_eq_true, Bool.true_eq_false, Bool.not_true, Bool.not_false, Cn.d, partD, List.map_cons, List.map_nil, Ev.wipe, o_add, o_sub, o_mull, o_mulr, o_mod, o_div, o_addt, o_addl, o_lt, o_le, o_gt, o_ge, eq_int, ne_int, u_lenl, u_lent, u_lens, u_max, u_min, u_abs, u_tupl, u_tupt, i_int, i_bool, i_tup, i_rng1, i_lst, i_tupl, len_pic, len_row, e1, e2, Bool.and_self]) rfl
def S_need_size (Φ : Fns) : Prop := ∀ R C : Nat, 1 ≤ R → R ≤ 4 → 1 ≤ C → C ≤ 6 → Φ "need_size" [.int R, .int C] = M.pure .non
theorem sp_need_size {Φ : Fns} (h : S_is_size Φ) (R C : Nat) (r1 : 1 ≤ R) (r4 : R ≤ 4) (c1 : 1 ≤ C) (c6 : C ≤ 6) : runFn Φ fn_need_size [.int R, .int C] = M.pure .non := by
  refine run_go_nx [.val (.int R), .val (.int C)] ?_
  simp only [fn_need_size]
  exact Go.if0 (by try simp only [e_var, e_pk, e_cst, e_glo, e_bin, e_neg, e_not, e_cmp, e_chn, e_boo, e_ite, e_tup, e_lst, e_ix, e_slc, e_rev, e_call, e_blt, e_isi, e_comp, a_nil, a_cons, b_one, b_cons, t_nil, t_one, s_skip, s_seq, s_asg, s_own, s_frz, s_set, s_app, s_ext, s_expr, s_ret, s_ite, s_loop, M.pure_bind, M.lift_some, M.calm_pure, M.bind_assoc, asBl, List.getElem?_cons_zero, List.getElem?_cons_succ, List.set_cons_zero, List.set_cons_succ, Option.map_some, put, putAll, if_true, if_false, Bool.false_eq_true, Bool.true_eq_false, Bool.not_true, Bool.not_false, Cn.d, partD, List.map_cons, List.map_nil, Ev.wipe, o_add, o_sub, o_mull, o_mulr, o_mod, o_div, o_addt, o_addl, o_lt, o_le, o_gt, o_ge, eq_int, ne_int, u_lenl, u_lent, u_lens, u_max, u_min, u_abs, u_tupl, u_tupt, i_int, i_bool, i_tup, i_rng1, i_lst, i_tupl, len_pic, len_row, h R C r1 r4 c1 c6]) (Go.skipS rfl)
def S_dark (Φ : Fns) : Prop := ∀ R C : Nat, 1 ≤ R → R ≤ 4 → 1 ≤ C → C ≤ 6 → Φ "dark" [.int R, .int C] = M.pure (pic R C fun _ _ => 0)
theorem sp_dark {Φ : Fns} (h : S_need_size Φ) (R C : Nat) (r1 : 1 ≤ R) (r4 : R ≤ 4) (c1 : 1 ≤ C) (c6 : C ≤ 6) : runFn Φ fn_dark [.int R, .int C] = M.pure (pic R C fun _ _ => 0) := by
  refine run_go [.val (.int R), .val (.int C)] ?_
  have k1 : R ≤ 1000 := by omega
  have k2 : C ≤ 1000 := by omega
  simp only [fn_dark]
  refine Go.exprS .non (by try simp only [e_var, e_pk, e_cst, e_glo, e_bin, e_neg, e_not, e_cmp, e_chn, e_boo, e_ite, e_tup, e_lst, e_ix, e_slc, e_rev, e_call, e_blt, e_isi, e_comp, a_nil, a_cons, b_one, b_cons, t_nil, t_one, s_skip, s_seq, s_asg, s_own, s_frz, s_set, s_app, s_ext, s_expr, s_ret, s_ite, s_loop, M.pure_bind, M.lift_some, M.calm_pure, M.bind_assoc, asBl, List.getElem?_cons_zero, List.getElem?_cons_succ, List.set_cons_zero, List.set_cons_succ, Option.map_some, put, putAll, if_true, if_false, Bool.false_eq_true, Bool.true_eq_false, Bool.not_true, Bool.not_false, Cn.d, partD, List.map_cons, List.map_nil, Ev.wipe, o_add, o_sub, o_mull, o_mulr, o_mod, o_div, o_addt, o_addl, o_lt, o_le, o_gt, o_ge, eq_int, ne_int, u_lenl, u_lent, u_lens, u_max, u_min, u_abs, u_tupl, u_tupt, i_int, i_bool, i_tup, i_rng1, i_lst, i_tupl, len_pic, len_row, h R C r1 r4 c1 c6]) ?_
  exact Go.retS _ (by try simp only [e_var, e_pk, e_cst, e_glo, e_bin, e_neg, e_not, e_cmp, e_chn, e_boo, e_ite, e_tup, e_lst, e_ix, e_slc, e_rev, e_call, e_blt, e_isi, e_comp, a_nil, a_cons, b_one, b_cons, t_nil, t_one, s_skip, s_seq, s_asg, s_own, s_frz, s_set, s_app, s_ext, s_expr, s_ret, s_ite, s_loop, M.pure_bind, M.lift_some, M.calm_pure, M.bind_assoc, asBl, List.getElem?_cons_zero, List.getElem?_cons_succ, List.set_cons_zero, List.set_cons_succ, Option.map_some, put, putAll, if_true, if_false, Bool.false_eq_true, Bool.true_eq_false, Bool.not_true, Bool.not_false, Cn.d, partD, List.map_cons, List.map_nil, Ev.wipe, o_add, o_sub, o_mull, o_mulr, o_mod, o_div, o_addt, o_addl, o_lt, o_le, o_gt, o_ge, eq_int, ne_int, u_lenl, u_lent, u_lens, u_max, u_min, u_abs, u_tupl, u_tupt, i_int, i_bool, i_tup, i_rng1, i_lst, i_tupl, len_pic, len_row, o_mulT k1, o_mulT k2]; exact rfl) rfl
/-! ### layers -/
inductive Way where | over | under | add | less
def Way.s : Way → Str
  | .over => "over"
  | .under => "under"
  | .add => "add"
  | .less => "less"
def tog : Way → Int → Int → Int
  | .over, b, a => if 0 < a then a else b
  | .under, b, a => if 0 < b then b else a
  | .add, b, a => if b + a < 4 then b + a else 4
  | .less, b, a => if b - a > 0 then b - a else 0
structure Ly where
  R : Nat
  C : Nat
  f : Nat → Nat → Int
  left : Int
  top : Int
  way : Way
def Ly.d (L : Ly) : D := .tup [pic L.R L.C L.f, .int L.left, .int L.top, .str L.way.s]
structure Ly.Ok (L : Ly) : Prop where
  p : Pc L.R L.C L.f
  l1 : -99 ≤ L.left
  l2 : L.left ≤ 99
  t1 : -99 ≤ L.top
  t2 : L.top ≤ 99
def Ly.at_ (L : Ly) (acc : Int) (r c : Int) : Int := tog L.way acc (shade L.R L.C L.f (r - L.top) (c - L.left))
def laidV (ls : List Ly) (r c : Int) : Int := ls.foldl (fun acc L => L.at_ acc r c) 0
def S_together (Φ : Fns) : Prop := ∀ (w : Way) (b a : Int), Φ "together" [.int b, .int a, .str w.s] = M.pure (.int (tog w b a))
theorem eqw {a b : Way} : cop .eq (.str a.s) (.str b.s) = some (match a, b with | .over, .over => true | .under, .under => true | .add, .add => true | .less, .less => true | _, _ => false) := by
  cases a <;> cases b <;> decide +kernel
theorem sp_together {Φ : Fns} (w : Way) (b a : Int) : runFn Φ fn_together [.int b, .int a, .str w.s] = M.pure (.int (tog w b a)) := by
  refine run_go [.val (.int b), .val (.int a), .val (.str w.s)] ?_
  have e1 := @eqw w .over
  have e2 := @eqw w .under
  have e3 := @eqw w .add
  have e1 : cop .eq (.str w.s) (.str "over") = _ := e1
  have e2 : cop .eq (.str w.s) (.str "under") = _ := e2
  have e3 : cop .eq (.str w.s) (.str "add") = _ := e3
  simp only [fn_together]
  cases w with
  | over =>
    refine Go.if1 (by try simp only [e_var, e_pk, e_cst, e_glo, e_bin, e_neg, e_not, e_cmp, e_chn, e_boo, e_ite, e_tup, e_lst, e_ix, e_slc, e_rev, e_call, e_blt, e_isi, e_comp, a_nil, a_cons, b_one, b_cons, t_nil, t_one, s_skip, s_seq, s_asg, s_own, s_frz, s_set, s_app, s_ext, s_expr, s_ret, s_ite, s_loop, M.pure_bind, M.lift_some, M.calm_pure, M.bind_assoc, asBl, List.getElem?_cons_zero, List.getElem?_cons_succ, List.set_cons_zero, List.set_cons_succ, Option.map_some, put, putAll, if_true, if_false, Bool.false_eq_true, Bool.true_eq_false, Bool.not_true, Bool.not_false, Cn.d, partD, List.map_cons, List.map_nil, Ev.wipe, o_add, o_sub, o_mull, o_mulr, o_mod, o_div, o_addt, o_addl, o_lt, o_le, o_gt, o_ge, eq_int, ne_int, u_lenl, u_lent, u_lens, u_max, u_min, u_abs, u_tupl, u_tupt, i_int, i_bool, i_tup, i_rng1, i_lst, i_tupl, len_pic, len_row, e1]) ?_
    refine Go.assoc (Go.retS (.int (tog .over b a)) ?_ rfl)
    by_cases h : 0 < a
    · try simp only [e_var, e_pk, e_cst, e_glo, e_bin, e_neg, e_not, e_cmp, e_chn, e_boo, e_ite, e_tup, e_lst, e_ix, e_slc, e_rev, e_call, e_blt, e_isi, e_comp, a_nil, a_cons, b_one, b_cons, t_nil, t_one, s_skip, s_seq, s_asg, s_own, s_frz, s_set, s_app, s_ext, s_expr, s_ret, s_ite, s_loop, M.pure_bind, M.lift_some, M.calm_pure, M.bind_assoc, asBl, List.getElem?_cons_zero, List.getElem?_cons_succ, List.set_cons_zero, List.set_cons_succ, Option.map_some, put, putAll, if_true, if_false, Bool.false_eq_true, Bool.true_eq_false, Bool.not_true, Bool.not_false, Cn.d, partD, List.map_cons, List.map_nil, Ev.wipe, o_add, o_sub, o_mull, o_mulr, o_mod, o_div, o_addt, o_addl, o_lt, o_le, o_gt, o_ge, eq_int, ne_int, u_lenl, u_lent, u_lens, u_max, u_min, u_abs, u_tupl, u_tupt, i_int, i_bool, i_tup, i_rng1, i_lst, i_tupl, len_pic, len_row, h, decide_true]; exact congrArg (fun i => M.pure (D.int i)) (if_pos h).symm
    · try simp only [e_var, e_pk, e_cst, e_glo, e_bin, e_neg, e_not, e_cmp, e_chn, e_boo, e_ite, e_tup, e_lst, e_ix, e_slc, e_rev, e_call, e_blt, e_isi, e_comp, a_nil, a_cons, b_one, b_cons, t_nil, t_one, s_skip, s_seq, s_asg, s_own, s_frz, s_set, s_app, s_ext, s_expr, s_ret, s_ite, s_loop, M.pure_bind, M.lift_some, M.calm_pure, M.bind_assoc, asBl, List.getElem?_cons_zero, List.getElem?_cons_succ, List.set_cons_zero, List.set_cons_succ, Option.map_some, put, putAll, if_true, if_false, Bool.false_eq_true, Bool.true_eq_false, Bool.not_true, Bool.not_false, Cn.d, partD, List.map_cons, List.map_nil, Ev.wipe, o_add, o_sub, o_mull, o_mulr, o_mod, o_div, o_addt, o_addl, o_lt, o_le, o_gt, o_ge, eq_int, ne_int, u_lenl, u_lent, u_lens, u_max, u_min, u_abs, u_tupl, u_tupt, i_int, i_bool, i_tup, i_rng1, i_lst, i_tupl, len_pic, len_row, h, decide_false]; exact congrArg (fun i => M.pure (D.int i)) (if_neg h).symm
  | under =>
    refine Go.if0 (by try simp only [e_var, e_pk, e_cst, e_glo, e_bin, e_neg, e_not, e_cmp, e_chn, e_boo, e_ite, e_tup, e_lst, e_ix, e_slc, e_rev, e_call, e_blt, e_isi, e_comp, a_nil, a_cons, b_one, b_cons, t_nil, t_one, s_skip, s_seq, s_asg, s_own, s_frz, s_set, s_app, s_ext, s_expr, s_ret, s_ite, s_loop, M.pure_bind, M.lift_some, M.calm_pure, M.bind_assoc, asBl, List.getElem?_cons_zero, List.getElem?_cons_succ, List.set_cons_zero, List.set_cons_succ, Option.map_some, put, putAll, if_true, if_false, Bool.false_eq_true, Bool.true_eq_false, Bool.not_true, Bool.not_false, Cn.d, partD, List.map_cons, List.map_nil, Ev.wipe, o_add, o_sub, o_mull, o_mulr, o_mod, o_div, o_addt, o_addl, o_lt, o_le, o_gt, o_ge, eq_int, ne_int, u_lenl, u_lent, u_lens, u_max, u_min, u_abs, u_tupl, u_tupt, i_int, i_bool, i_tup, i_rng1, i_lst, i_tupl, len_pic, len_row, e1]) ?_
    refine Go.if1 (by try simp only [e_var, e_pk, e_cst, e_glo, e_bin, e_neg, e_not, e_cmp, e_chn, e_boo, e_ite, e_tup, e_lst, e_ix, e_slc, e_rev, e_call, e_blt, e_isi, e_comp, a_nil, a_cons, b_one, b_cons, t_nil, t_one, s_skip, s_seq, s_asg, s_own, s_frz, s_set, s_app, s_ext, s_expr, s_ret, s_ite, s_loop, M.pure_bind, M.lift_some, M.calm_pure, M.bind_assoc, asBl, List.getElem?_cons_zero, List.getElem?_cons_succ, List.set_cons_zero, List.set_cons_succ, Option.map_some, put, putAll, if_true, if_false, Bool.false_eq_true, Bool.true_eq_false, Bool.not_true, Bool.not_false, Cn.d, partD, List.map_cons, List.map_nil, Ev.wipe, o_add, o_sub, o_mull, o_mulr, o_mod, o_div, o_addt, o_addl, o_lt, o_le, o_gt, o_ge, eq_int, ne_int, u_lenl, u_lent, u_lens, u_max, u_min, u_abs, u_tupl, u_tupt, i_int, i_bool, i_tup, i_rng1, i_lst, i_tupl, len_pic, len_row, e2]) ?_
    refine Go.assoc (Go.retS (.int (tog .under b a)) ?_ rfl)
    by_cases h : 0 < b
    · try simp only [e_var, e_pk, e_cst, e_glo, e_bin, e_neg, e_not, e_cmp, e_chn, e_boo, e_ite, e_tup, e_lst, e_ix, e_slc, e_rev, e_call, e_blt, e_isi, e_comp, a_nil, a_cons, b_one, b_cons, t_nil, t_one, s_skip, s_seq, s_asg, s_own, s_frz, s_set, s_app, s_ext, s_expr, s_ret, s_ite, s_loop, M.pure_bind, M.lift_some, M.calm_pure, M.bind_assoc, asBl, List.getElem?_cons_zero, List.getElem?_cons_succ, List.set_cons_zero, List.set_cons_succ, Option.map_some, put, putAll, if_true, if_false, Bool.false_eq_true, Bool.true_eq_false, Bool.not_true, Bool.not_false, Cn.d, partD, List.map_cons, List.map_nil, Ev.wipe, o_add, o_sub, o_mull, o_mulr, o_mod, o_div, o_addt, o_addl, o_lt, o_le, o_gt, o_ge, eq_int, ne_int, u_lenl, u_lent, u_lens, u_max, u_min, u_abs, u_tupl, u_tupt, i_int, i_bool, i_tup, i_rng1, i_lst, i_tupl, len_pic, len_row, h, decide_true]; exact congrArg (fun i => M.pure (D.int i)) (if_pos h).symm
    · try simp only [e_var, e_pk, e_cst, e_glo, e_bin, e_neg, e_not, e_cmp, e_chn, e_boo, e_ite, e_tup, e_lst, e_ix, e_slc, e_rev, e_call, e_blt, e_isi, e_comp, a_nil, a_cons, b_one, b_cons, t_nil, t_one, s_skip, s_seq, s_asg, s_own, s_frz, s_set, s_app, s_ext, s_expr, s_ret, s_ite, s_loop, M.pure_bind, M.lift_some, M.calm_pure, M.bind_assoc, asBl, List.getElem?_cons_zero, List.getElem?_cons_succ, List.set_cons_zero, List.set_cons_succ, Option.map_some, put, putAll, if_true, if_false, Bool.false_eq_true, Bool.true_eq_false, Bool.not_true, Bool.not_false, Cn.d, partD, List.map_cons, List.map_nil, Ev.wipe, o_add, o_sub, o_mull, o_mulr, o_mod, o_div, o_addt, o_addl, o_lt, o_le, o_gt, o_ge, eq_int, ne_int, u_lenl, u_lent, u_lens, u_max, u_min, u_abs, u_tupl, u_tupt, i_int, i_bool, i_tup, i_rng1, i_lst, i_tupl, len_pic, len_row, h, decide_false]; exact congrArg (fun i => M.pure (D.int i)) (if_neg h).symm
  | add =>
    refine Go.if0 (by try simp only [e_var, e_pk, e_cst, e_glo, e_bin, e_neg, e_not, e_cmp, e_chn, e_boo, e_ite, e_tup, e_lst, e_ix, e_slc, e_rev, e_call, e_blt, e_isi, e_comp, a_nil, a_cons, b_one, b_cons, t_nil, t_one, s_skip, s_seq, s_asg, s_own, s_frz, s_set, s_app, s_ext, s_expr, s_ret, s_ite, s_loop, M.pure_bind, M.lift_some, M.calm_pure, M.bind_assoc, asBl, List.getElem?_cons_zero, List.getElem?_cons_succ, List.set_cons_zero, List.set_cons_succ, Option.map_some, put, putAll, if_true, if_false, Bool.false_eq_true, Bool.true_eq_false, Bool.not_true, Bool.not_false, Cn.d, partD, List.map_cons, List.map_nil, Ev.wipe, o_add, o_sub, o_mull, o_mulr, o_mod, o_div, o_addt, o_addl, o_lt, o_le, o_gt, o_ge, eq_int, ne_int, u_lenl, u_lent, u_lens, u_max, u_min, u_abs, u_tupl, u_tupt, i_int, i_bool, i_tup, i_rng1, i_lst, i_tupl, len_pic, len_row, e1]) (Go.if0 (by try simp only [e_var, e_pk, e_cst, e_glo, e_bin, e_neg, e_not, e_cmp, e_chn, e_boo, e_ite, e_tup, e_lst, e_ix, e_slc, e_rev, e_call, e_blt, e_isi, e_comp, a_nil, a_cons, b_one, b_cons, t_nil, t_one, s_skip, s_seq, s_asg, s_own, s_frz, s_set, s_app, s_ext, s_expr, s_ret, s_ite, s_loop, M.pure_bind, M.lift_some, M.calm_pure, M.bind_assoc, asBl, List.getElem?_cons_zero, List.getElem?_cons_succ, List.set_cons_zero, List.set_cons_succ, Option.map_some, put, putAll, if_true, if_false, Bool.false_eq_true, Bool.true_eq_false, Bool.not_true, Bool.not_false, Cn.d, partD, List.map_cons, List.map_nil, Ev.wipe, o_add, o_sub, o_mull, o_mulr, o_mod, o_div, o_addt, o_addl, o_lt, o_le, o_gt, o_ge, eq_int, ne_int, u_lenl, u_lent, u_lens, u_max, u_min, u_abs, u_tupl, u_tupt, i_int, i_bool, i_tup, i_rng1, i_lst, i_tupl, len_pic, len_row, e2]) (Go.retS (.int (tog .add b a)) ?_ rfl))
    try simp only [e_var, e_pk, e_cst, e_glo, e_bin, e_neg, e_not, e_cmp, e_chn, e_boo, e_ite, e_tup, e_lst, e_ix, e_slc, e_rev, e_call, e_blt, e_isi, e_comp, a_nil, a_cons, b_one, b_cons, t_nil, t_one, s_skip, s_seq, s_asg, s_own, s_frz, s_set, s_app, s_ext, s_expr, s_ret, s_ite, s_loop, M.pure_bind, M.lift_some, M.calm_pure, M.bind_assoc, asBl, List.getElem?_cons_zero, List.getElem?_cons_succ, List.set_cons_zero, List.set_cons_succ, Option.map_some, put, putAll, if_true, if_false, Bool.false_eq_true, Bool.true_eq_false, Bool.not_true, Bool.not_false, Cn.d, partD, List.map_cons, List.map_nil, Ev.wipe, o_add, o_sub, o_mull, o_mulr, o_mod, o_div, o_addt, o_addl, o_lt, o_le, o_gt, o_ge, eq_int, ne_int, u_lenl, u_lent, u_lens, u_max, u_min, u_abs, u_tupl, u_tupt, i_int, i_bool, i_tup, i_rng1, i_lst, i_tupl, len_pic, len_row, e3]
    rfl
  | less =>
    refine Go.if0 (by try simp only [e_var, e_pk, e_cst, e_glo, e_bin, e_neg, e_not, e_cmp, e_chn, e_boo, e_ite, e_tup, e_lst, e_ix, e_slc, e_rev, e_call, e_blt, e_isi, e_comp, a_nil, a_cons, b_one, b_cons, t_nil, t_one, s_skip, s_seq, s_asg, s_own, s_frz, s_set, s_app, s_ext, s_expr, s_ret, s_ite, s_loop, M.pure_bind, M.lift_some, M.calm_pure, M.bind_assoc, asBl, List.getElem?_cons_zero, List.getElem?_cons_succ, List.set_cons_zero, List.set_cons_succ, Option.map_some, put, putAll, if_true, if_false, Bool.false_eq_true, Bool.true_eq_false, Bool.not_true, Bool.not_false, Cn.d, partD, List.map_cons, List.map_nil, Ev.wipe, o_add, o_sub, o_mull, o_mulr, o_mod, o_div, o_addt, o_addl, o_lt, o_le, o_gt, o_ge, eq_int, ne_int, u_lenl, u_lent, u_lens, u_max, u_min, u_abs, u_tupl, u_tupt, i_int, i_bool, i_tup, i_rng1, i_lst, i_tupl, len_pic, len_row, e1]) (Go.if0 (by try simp only [e_var, e_pk, e_cst, e_glo, e_bin, e_neg, e_not, e_cmp, e_chn, e_boo, e_ite, e_tup, e_lst, e_ix, e_slc, e_rev, e_call, e_blt, e_isi, e_comp, a_nil, a_cons, b_one, b_cons, t_nil, t_one, s_skip, s_seq, s_asg, s_own, s_frz, s_set, s_app, s_ext, s_expr, s_ret, s_ite, s_loop, M.pure_bind, M.lift_some, M.calm_pure, M.bind_assoc, asBl, List.getElem?_cons_zero, List.getElem?_cons_succ, List.set_cons_zero, List.set_cons_succ, Option.map_some, put, putAll, if_true, if_false, Bool.false_eq_true, Bool.true_eq_false, Bool.not_true, Bool.not_false, Cn.d, partD, List.map_cons, List.map_nil, Ev.wipe, o_add, o_sub, o_mull, o_mulr, o_mod, o_div, o_addt, o_addl, o_lt, o_le, o_gt, o_ge, eq_int, ne_int, u_lenl, u_lent, u_lens, u_max, u_min, u_abs, u_tupl, u_tupt, i_int, i_bool, i_tup, i_rng1, i_lst, i_tupl, len_pic, len_row, e2]) (Go.retS (.int (tog .less b a)) ?_ rfl))
    try simp only [e_var, e_pk, e_cst, e_glo, e_bin, e_neg, e_not, e_cmp, e_chn, e_boo, e_ite, e_tup, e_lst, e_ix, e_slc, e_rev, e_call, e_blt, e_isi, e_comp, a_nil, a_cons, b_one, b_cons, t_nil, t_one, s_skip, s_seq, s_asg, s_own, s_frz, s_set, s_app, s_ext, s_expr, s_ret, s_ite, s_loop, M.pure_bind, M.lift_some, M.calm_pure, M.bind_assoc, asBl, List.getElem?_cons_zero, List.getElem?_cons_succ, List.set_cons_zero, List.set_cons_succ, Option.map_some, put, putAll, if_true, if_false, Bool.false_eq_true, Bool.true_eq_false, Bool.not_true, Bool.not_false, Cn.d, partD, List.map_cons, List.map_nil, Ev.wipe, o_add, o_sub, o_mull, o_mulr, o_mod, o_div, o_addt, o_addl, o_lt, o_le, o_gt, o_ge, eq_int, ne_int, u_lenl, u_lent, u_lens, u_max, u_min, u_abs, u_tupl, u_tupt, i_int, i_bool, i_tup, i_rng1, i_lst, i_tupl, len_pic, len_row, e3]
    rfl
theorem in_ways {w : Way} : cop .inn (.str w.s) (.tup [.str "over", .str "add", .str "less", .str "under"]) = some true := by
  cases w <;> decide +kernel
theorem i_str {s : Str} : isiD (.str s) "str" = some true := (rfl)
theorem ix4_0 {a b c d : D} : ixD (.tup [a, b, c, d]) (.int 0) = some a := (rfl)
theorem ix4_1 {a b c d : D} : ixD (.tup [a, b, c, d]) (.int 1) = some b := (rfl)
theorem ix4_2 {a b c d : D} : ixD (.tup [a, b, c, d]) (.int 2) = some c := (rfl)
theorem ix4_3 {a b c d : D} : ixD (.tup [a, b, c, d]) (.int 3) = some d := (rfl)
theorem len4 {a b c d : D} : ((([a, b, c, d] : List D).length : Nat) : Int) = 4 := (rfl)
def S_is_layer (Φ : Fns) : Prop := ∀ L : Ly, L.Ok → Φ "is_layer" [L.d] = M.pure (.bl true)
theorem sp_is_layer {Φ : Fns} (h1 : S_is_picture Φ) (h2 : S_is_number Φ) (L : Ly) (ok : L.Ok) : runFn Φ fn_is_layer [L.d] = M.pure (.bl true) := by
  have e : ∀ i : Int, -99 ≤ i → i ≤ 99 → Φ "is_number" [.int i, .int (0 - 99), .int 99] = M.pure (.bl true) := fun i j1 j2 => by
    have e := h2 i (0 - 99) 99
    rw [decide_eq_true (show (0 - 99 : Int) ≤ i by omega), decide_eq_true j2] at e
    exact e
  refine run_go [.val L.d] ?_
  unfold Ly.d
  simp only [fn_is_layer]
  refine Go.if0 (by try simp only [e_var, e_pk, e_cst, e_glo, e_bin, e_neg, e_not, e_cmp, e_chn, e_boo, e_ite, e_tup, e_lst, e_ix, e_slc, e_rev, e_call, e_blt, e_isi, e_comp, a_nil, a_cons, b_one, b_cons, t_nil, t_one, s_skip, s_seq, s_asg, s_own, s_frz, s_set, s_app, s_ext, s_expr, s_ret, s_ite, s_loop, M.pure_bind, M.lift_some, M.calm_pure, M.bind_assoc, asBl, List.getElem?_cons_zero, List.getElem?_cons_succ, List.set_cons_zero, List.set_cons_succ, Option.map_some, put, putAll, if_true, if_false, Bool.false_eq_true, Bool.true_eq_false, Bool.not_true, Bool.not_false, Cn.d, partD, List.map_cons, List.map_nil, Ev.wipe, o_add, o_sub, o_mull, o_mulr, o_mod, o_div, o_addt, o_addl, o_lt, o_le, o_gt, o_ge, eq_int, ne_int, u_lenl, u_lent, u_lens, u_max, u_min, u_abs, u_tupl, u_tupt, i_int, i_bool, i_tup, i_rng1, i_lst, i_tupl, len_pic, len_row, len4, decide_true, ix4_0, h1 _ _ _ ok.p]) ?_
  refine Go.if0 (by try simp only [e_var, e_pk, e_cst, e_glo, e_bin, e_neg, e_not, e_cmp, e_chn, e_boo, e_ite, e_tup, e_lst, e_ix, e_slc, e_rev, e_call, e_blt, e_isi, e_comp, a_nil, a_cons, b_one, b_cons, t_nil, t_one, s_skip, s_seq, s_asg, s_own, s_frz, s_set, s_app, s_ext, s_expr, s_ret, s_ite, s_loop, M.pure_bind, M.lift_some, M.calm_pure, M.bind_assoc, asBl, List.getElem?_cons_zero, List.getElem?_cons_succ, List.set_cons_zero, List.set_cons_succ, Option.map_some, put, putAll, if_true, if_false, Bool.false_eq_true, Bool.true_eq_false, Bool.not_true, Bool.not_false, Cn.d, partD, List.map_cons, List.map_nil, Ev.wipe, o_add, o_sub, o_mull, o_mulr, o_mod, o_div, o_addt, o_addl, o_lt, o_le, o_gt, o_ge, eq_int, ne_int, u_lenl, u_lent, u_lens, u_max, u_min, u_abs, u_tupl, u_tupt, i_int, i_bool, i_tup, i_rng1, i_lst, i_tupl, len_pic, len_row, ix4_1, ix4_2, e _ ok.l1 ok.l2, e _ ok.t1 ok.t2]) ?_
  exact Go.retS (.bl true) (by try simp only [e_var, e_pk, e_cst, e_glo, e_bin, e_neg, e_not, e_cmp, e_chn, e_boo, e_ite, e_tup, e_lst, e_ix, e_slc, e_rev, e_call, e_blt, e_isi, e_comp, a_nil, a_cons, b_one, b_cons, t_nil, t_one, s_skip, s_seq, s_asg, s_own, s_frz, s_set, s_app, s_ext, s_expr, s_ret, s_ite, s_loop, M.pure_bind, M.lift_some, M.calm_pure, M.bind_assoc, asBl, List.getElem?_cons_zero, List.getElem?_cons_succ, List.set_cons_zero, List.set_cons_succ, Option.map_some, put, putAll, if_true, if_false, Bool.false_eq_true, Bool.true_eq_false, Bool.not_true, Bool.not_false, Cn.d, partD, List.map_cons, List.map_nil, Ev.wipe, o_add, o_sub, o_mull, o_mulr, o_mod, o_div, o_addt, o_addl, o_lt, o_le, o_gt, o_ge, eq_int, ne_int, u_lenl, u_lent, u_lens, u_max, u_min, u_abs, u_tupl, u_tupt, i_int, i_bool, i_tup, i_rng1, i_lst, i_tupl, len_pic, len_row, ix4_3, i_str, in_ways]) rfl
def S_are_layers (Φ : Fns) : Prop := ∀ ls : List Ly, (∀ L ∈ ls, L.Ok) → ls.length ≤ 5 → Φ "are_layers" [.tup (ls.map Ly.d)] = M.pure (.bl true)
theorem sp_are_layers {Φ : Fns} (h : S_is_layer Φ) (ls : List Ly) (ok : ∀ L ∈ ls, L.Ok) (hl : ls.length ≤ 5) : runFn Φ fn_are_layers [.tup (ls.map Ly.d)] = M.pure (.bl true) := by
  refine run_go [.val (.tup (ls.map Ly.d)), .emp] ?_
  have k : (((ls.map Ly.d).length : Nat) : Int) ≤ 5 := by simp; omega
  have hc := comp_eq (Φ := Φ) (ρ := [.val (.tup (ls.map Ly.d)), .emp]) (k := .seq) (src := .cons (.var 0) .nil) (cnd := .nil) (elt := .call "is_layer" (.cons (.var 1) .nil)) (tg := .nm 1) (own := [("one", 1)]) (emb := Ly.d) (l := ls) (ds := [.tup (ls.map Ly.d)]) (fun _ => .bl true) (by try simp only [e_var, e_pk, e_cst, e_glo, e_bin, e_neg, e_not, e_cmp, e_chn, e_boo, e_ite, e_tup, e_lst, e_ix, e_slc, e_rev, e_call, e_blt, e_isi, e_comp, a_nil, a_cons, b_one, b_cons, t_nil, t_one, s_skip, s_seq, s_asg, s_own, s_frz, s_set, s_app, s_ext, s_expr, s_ret, s_ite, s_loop, M.pure_bind, M.lift_some, M.calm_pure, M.bind_assoc, asBl, List.getElem?_cons_zero, List.getElem?_cons_succ, List.set_cons_zero, List.set_cons_succ, Option.map_some, put, putAll, if_true, if_false, Bool.false_eq_true, Bool.true_eq_false, Bool.not_true, Bool.not_false, Cn.d, partD, List.map_cons, List.map_nil, Ev.wipe, o_add, o_sub, o_mull, o_mulr, o_mod, o_div, o_addt, o_addl, o_lt, o_le, o_gt, o_ge, eq_int, ne_int, u_lenl, u_lent, u_lens, u_max, u_min, u_abs, u_tupl, u_tupt, i_int, i_bool, i_tup, i_rng1, i_lst, i_tupl, len_pic, len_row]) rfl (fun L hL => by
    unfold oneC
    try simp only [e_var, e_pk, e_cst, e_glo, e_bin, e_neg, e_not, e_cmp, e_chn, e_boo, e_ite, e_tup, e_lst, e_ix, e_slc, e_rev, e_call, e_blt, e_isi, e_comp, a_nil, a_cons, b_one, b_cons, t_nil, t_one, s_skip, s_seq, s_asg, s_own, s_frz, s_set, s_app, s_ext, s_expr, s_ret, s_ite, s_loop, M.pure_bind, M.lift_some, M.calm_pure, M.bind_assoc, asBl, List.getElem?_cons_zero, List.getElem?_cons_succ, List.set_cons_zero, List.set_cons_succ, Option.map_some, put, putAll, if_true, if_false, Bool.false_eq_true, Bool.true_eq_false, Bool.not_true, Bool.not_false, Cn.d, partD, List.map_cons, List.map_nil, Ev.wipe, o_add, o_sub, o_mull, o_mulr, o_mod, o_div, o_addt, o_addl, o_lt, o_le, o_gt, o_ge, eq_int, ne_int, u_lenl, u_lent, u_lens, u_max, u_min, u_abs, u_tupl, u_tupt, i_int, i_bool, i_tup, i_rng1, i_lst, i_tupl, len_pic, len_row, h L (ok L hL)]
    exact .pure rfl)
  simp only [fn_are_layers]
  refine Go.retS (.bl true) ?_ rfl
  simp only [e_boo, b_cons, b_one, e_blt, a_cons, a_nil, hc]
  try simp only [e_var, e_pk, e_cst, e_glo, e_bin, e_neg, e_not, e_cmp, e_chn, e_boo, e_ite, e_tup, e_lst, e_ix, e_slc, e_rev, e_call, e_blt, e_isi, e_comp, a_nil, a_cons, b_one, b_cons, t_nil, t_one, s_skip, s_seq, s_asg, s_own, s_frz, s_set, s_app, s_ext, s_expr, s_ret, s_ite, s_loop, M.pure_bind, M.lift_some, M.calm_pure, M.bind_assoc, asBl, List.getElem?_cons_zero, List.getElem?_cons_succ, List.set_cons_zero, List.set_cons_succ, Option.map_some, put, putAll, if_true, if_false, Bool.false_eq_true, Bool.true_eq_false, Bool.not_true, Bool.not_false, Cn.d, partD, List.map_cons, List.map_nil, Ev.wipe, o_add, o_sub, o_mull, o_mulr, o_mod, o_div, o_addt, o_addl, o_lt, o_le, o_gt, o_ge, eq_int, ne_int, u_lenl, u_lent, u_lens, u_max, u_min, u_abs, u_tupl, u_tupt, i_int, i_bool, i_tup, i_rng1, i_lst, i_tupl, len_pic, len_row, k, decide_true, u_allT]
theorem tog_bound {w : Way} {b a : Int} (h1 : 0 ≤ b ∧ b ≤ 4) (h2 : 0 ≤ a ∧ a ≤ 4) : 0 ≤ tog w b a ∧ tog w b a ≤ 4 := by
  cases w <;> simp only [tog] <;> split <;> omega
theorem laidV_snoc {ls : List Ly} {L : Ly} {r c : Int} : laidV (ls ++ [L]) r c = L.at_ (laidV ls r c) r c := by simp [laidV]
theorem laidV_le {ls : List Ly} (ok : ∀ L ∈ ls, L.Ok) {r c : Int} : 0 ≤ laidV ls r c ∧ laidV ls r c ≤ 4 := by
  unfold laidV
  have : ∀ (ls : List Ly) (acc : Int), (∀ L ∈ ls, L.Ok) → 0 ≤ acc ∧ acc ≤ 4 → 0 ≤ ls.foldl (fun acc L => L.at_ acc r c) acc ∧ ls.foldl (fun acc L => L.at_ acc r c) acc ≤ 4 := by
    intro ls
    induction ls with
    | nil => intro acc _ h; exact h
    | cons L ls ih =>
      intro acc ok h
      exact ih _ (fun M hM => ok M (List.mem_cons_of_mem _ hM)) (tog_bound h (shade_sh (ok L List.mem_cons_self).p.sh))
  exact this ls 0 ok (by decide)
def S_laid_at (Φ : Fns) : Prop := ∀ (ls : List Ly) (r c : Int), (∀ L ∈ ls, L.Ok) → Φ "laid_at" [.tup (ls.map Ly.d), .int r, .int c] = M.pure (.int (laidV ls r c))
theorem sp_laid_at {Φ : Fns} (h1 : S_together Φ) (h2 : S_shade_at Φ) (ls : List Ly) (r c : Int) (ok : ∀ L ∈ ls, L.Ok) : runFn Φ fn_laid_at [.tup (ls.map Ly.d), .int r, .int c] = M.pure (.int (laidV ls r c)) := by
  refine run_go [.val (.tup (ls.map Ly.d)), .val (.int r), .val (.int c), .emp, .emp, .emp, .emp, .emp] ?_
  simp only [fn_laid_at]
  refine Go.asgS (.int 0) (by try simp only [e_var, e_pk, e_cst, e_glo, e_bin, e_neg, e_not, e_cmp, e_chn, e_boo, e_ite, e_tup, e_lst, e_ix, e_slc, e_rev, e_call, e_blt, e_isi, e_comp, a_nil, a_cons, b_one, b_cons, t_nil, t_one, s_skip, s_seq, s_asg, s_own, s_frz, s_set, s_app, s_ext, s_expr, s_ret, s_ite, s_loop, M.pure_bind, M.lift_some, M.calm_pure, M.bind_assoc, asBl, List.getElem?_cons_zero, List.getElem?_cons_succ, List.set_cons_zero, List.set_cons_succ, Option.map_some, put, putAll, if_true, if_false, Bool.false_eq_true, Bool.true_eq_false, Bool.not_true, Bool.not_false, Cn.d, partD, List.map_cons, List.map_nil, Ev.wipe, o_add, o_sub, o_mull, o_mulr, o_mod, o_div, o_addt, o_addl, o_lt, o_le, o_gt, o_ge, eq_int, ne_int, u_lenl, u_lent, u_lens, u_max, u_min, u_abs, u_tupl, u_tupt, i_int, i_bool, i_tup, i_rng1, i_lst, i_tupl, len_pic, len_row]) rfl ?_; simp only [List.set_cons_succ, List.set_cons_zero]
  refine Go.forS (ds := [.tup (ls.map Ly.d)]) (by try simp only [e_var, e_pk, e_cst, e_glo, e_bin, e_neg, e_not, e_cmp, e_chn, e_boo, e_ite, e_tup, e_lst, e_ix, e_slc, e_rev, e_call, e_blt, e_isi, e_comp, a_nil, a_cons, b_one, b_cons, t_nil, t_one, s_skip, s_seq, s_asg, s_own, s_frz, s_set, s_app, s_ext, s_expr, s_ret, s_ite, s_loop, M.pure_bind, M.lift_some, M.calm_pure, M.bind_assoc, asBl, List.getElem?_cons_zero, List.getElem?_cons_succ, List.set_cons_zero, List.set_cons_succ, Option.map_some, put, putAll, if_true, if_false, Bool.false_eq_true, Bool.true_eq_false, Bool.not_true, Bool.not_false, Cn.d, partD, List.map_cons, List.map_nil, Ev.wipe, o_add, o_sub, o_mull, o_mulr, o_mod, o_div, o_addt, o_addl, o_lt, o_le, o_gt, o_ge, eq_int, ne_int, u_lenl, u_lent, u_lens, u_max, u_min, u_abs, u_tupl, u_tupt, i_int, i_bool, i_tup, i_rng1, i_lst, i_tupl, len_pic, len_row]) rfl (fun i ρ => ∃ v4 v5 v6 v7, ρ = [.val (.tup (ls.map Ly.d)), .val (.int r), .val (.int c), .val (.int (laidV (ls.take i) r c)), v4, v5, v6, v7]) ⟨_, _, _, _, rfl⟩ ?_ ?_
  · rintro i x ρ hx ⟨v4, v5, v6, v7, rfl⟩
    rw [List.getElem?_map, Option.map_eq_some_iff] at hx
    obtain ⟨L, hL, rfl⟩ := hx
    have okL := ok L (List.mem_of_getElem? hL)
    refine ⟨_, rfl, ?_⟩
    simp only [List.set_cons_succ, List.set_cons_zero]
    have e := h2 L.R L.C L.f (r - L.top) (c - L.left) (by have := okL.p.r1; omega)
    refine Go.asgS (.int (L.at_ (laidV (ls.take i) r c) r c)) (by try simp only [e_var, e_pk, e_cst, e_glo, e_bin, e_neg, e_not, e_cmp, e_chn, e_boo, e_ite, e_tup, e_lst, e_ix, e_slc, e_rev, e_call, e_blt, e_isi, e_comp, a_nil, a_cons, b_one, b_cons, t_nil, t_one, s_skip, s_seq, s_asg, s_own, s_frz, s_set, s_app, s_ext, s_expr, s_ret, s_ite, s_loop, M.pure_bind, M.lift_some, M.calm_pure, M.bind_assoc, asBl, List.getElem?_cons_zero, List.getElem?_cons_succ, List.set_cons_zero, List.set_cons_succ, Option.map_some, put, putAll, if_true, if_false, Bool.false_eq_true, Bool.true_eq_false, Bool.not_true, Bool.not_false, Cn.d, partD, List.map_cons, List.map_nil, Ev.wipe, o_add, o_sub, o_mull, o_mulr, o_mod, o_div, o_addt, o_addl, o_lt, o_le, o_gt, o_ge, eq_int, ne_int, u_lenl, u_lent, u_lens, u_max, u_min, u_abs, u_tupl, u_tupt, i_int, i_bool, i_tup, i_rng1, i_lst, i_tupl, len_pic, len_row, e, h1 L.way]; exact rfl) rfl ?_; simp only [List.set_cons_succ, List.set_cons_zero]
    refine Go.skipS ⟨rfl, ?_⟩
    have : ls.take (i + 1) = ls.take i ++ [L] := by rw [List.take_add_one, hL]; rfl
    rw [this, laidV_snoc]
    exact ⟨_, _, _, _, rfl⟩
  · rintro ρ ⟨v4, v5, v6, v7, rfl⟩
    refine Go.retS (.int (laidV ls r c)) ?_ rfl
    rw [List.take_of_length_le (by simp)]
    try simp only [e_var, e_pk, e_cst, e_glo, e_bin, e_neg, e_not, e_cmp, e_chn, e_boo, e_ite, e_tup, e_lst, e_ix, e_slc, e_rev, e_call, e_blt, e_isi, e_comp, a_nil, a_cons, b_one, b_cons, t_nil, t_one, s_skip, s_seq, s_asg, s_own, s_frz, s_set, s_app, s_ext, s_expr, s_ret, s_ite, s_loop, M.pure_bind, M.lift_some, M.calm_pure, M.bind_assoc, asBl, List.getElem?_cons_zero, List.getElem?_cons_succ, List.set_cons_zero, List.set_cons_succ, Option.map_some, put, putAll, if_true, if_false, Bool.false_eq_true, Bool.true_eq_false, Bool.not_true, Bool.not_false, Cn.d, partD, List.map_cons, List.map_nil, Ev.wipe, o_add, o_sub, o_mull, o_mulr, o_mod, o_div, o_addt, o_addl, o_lt, o_le, o_gt, o_ge, eq_int, ne_int, u_lenl, u_lent, u_lens, u_max, u_min, u_abs, u_tupl, u_tupt, i_int, i_bool, i_tup, i_rng1, i_lst, i_tupl, len_pic, len_row]
def S_laid (Φ : Fns) : Prop := ∀ (R C : Nat) (ls : List Ly), 1 ≤ R → R ≤ 4 → 1 ≤ C → C ≤ 6 → (∀ L ∈ ls, L.Ok) → ls.length ≤ 5 → Φ "laid" [.int R, .int C, .tup (ls.map Ly.d)] = M.pure (pic R C fun r c => laidV ls r c)
theorem sp_laid {Φ : Fns} (h1 : S_need_size Φ) (h2 : S_are_layers Φ) (h3 : S_laid_at Φ) (R C : Nat) (ls : List Ly) (r1 : 1 ≤ R) (r4 : R ≤ 4) (c1 : 1 ≤ C) (c6 : C ≤ 6) (ok : ∀ L ∈ ls, L.Ok) (hl : ls.length ≤ 5) :
    runFn Φ fn_laid [.int R, .int C, .tup (ls.map Ly.d)] = M.pure (pic R C fun r c => laidV ls r c) := by
  refine run_go [.val (.int R), .val (.int C), .val (.tup (ls.map Ly.d)), .emp, .emp] ?_
  have k1 : R ≤ 16777216 := by omega
  have k2 : C ≤ 16777216 := by omega
  simp only [fn_laid]
  refine Go.exprS .non (by try simp only [e_var, e_pk, e_cst, e_glo, e_bin, e_neg, e_not, e_cmp, e_chn, e_boo, e_ite, e_tup, e_lst, e_ix, e_slc, e_rev, e_call, e_blt, e_isi, e_comp, a_nil, a_cons, b_one, b_cons, t_nil, t_one, s_skip, s_seq, s_asg, s_own, s_frz, s_set, s_app, s_ext, s_expr, s_ret, s_ite, s_loop, M.pure_bind, M.lift_some, M.calm_pure, M.bind_assoc, asBl, List.getElem?_cons_zero, List.getElem?_cons_succ, List.set_cons_zero, List.set_cons_succ, Option.map_some, put, putAll, if_true, if_false, Bool.false_eq_true, Bool.true_eq_false, Bool.not_true, Bool.not_false, Cn.d, partD, List.map_cons, List.map_nil, Ev.wipe, o_add, o_sub, o_mull, o_mulr, o_mod, o_div, o_addt, o_addl, o_lt, o_le, o_gt, o_ge, eq_int, ne_int, u_lenl, u_lent, u_lens, u_max, u_min, u_abs, u_tupl, u_tupt, i_int, i_bool, i_tup, i_rng1, i_lst, i_tupl, len_pic, len_row, h1 R C r1 r4 c1 c6]) ?_
  refine Go.if0 (by try simp only [e_var, e_pk, e_cst, e_glo, e_bin, e_neg, e_not, e_cmp, e_chn, e_boo, e_ite, e_tup, e_lst, e_ix, e_slc, e_rev, e_call, e_blt, e_isi, e_comp, a_nil, a_cons, b_one, b_cons, t_nil, t_one, s_skip, s_seq, s_asg, s_own, s_frz, s_set, s_app, s_ext, s_expr, s_ret, s_ite, s_loop, M.pure_bind, M.lift_some, M.calm_pure, M.bind_assoc, asBl, List.getElem?_cons_zero, List.getElem?_cons_succ, List.set_cons_zero, List.set_cons_succ, Option.map_some, put, putAll, if_true, if_false, Bool.false_eq_true, Bool.true_eq_false, Bool.not_true, Bool.not_false, Cn.d, partD, List.map_cons, List.map_nil, Ev.wipe, o_add, o_sub, o_mull, o_mulr, o_mod, o_div, o_addt, o_addl, o_lt, o_le, o_gt, o_ge, eq_int, ne_int, u_lenl, u_lent, u_lens, u_max, u_min, u_abs, u_tupl, u_tupt, i_int, i_bool, i_tup, i_rng1, i_lst, i_tupl, len_pic, len_row, h2 ls ok hl]) ?_
  refine Go.retS (pic R C fun r c => laidV ls r c) ?_ rfl
  rw [e_blt, a_cons, a_nil]
  rw [comp_eqR (emb := fun k => .int (k : Nat)) (ds := [.int R]) (fun (r : Nat) => rowD C fun (c : Nat) => laidV ls r c) (by try simp only [e_var, e_pk, e_cst, e_glo, e_bin, e_neg, e_not, e_cmp, e_chn, e_boo, e_ite, e_tup, e_lst, e_ix, e_slc, e_rev, e_call, e_blt, e_isi, e_comp, a_nil, a_cons, b_one, b_cons, t_nil, t_one, s_skip, s_seq, s_asg, s_own, s_frz, s_set, s_app, s_ext, s_expr, s_ret, s_ite, s_loop, M.pure_bind, M.lift_some, M.calm_pure, M.bind_assoc, asBl, List.getElem?_cons_zero, List.getElem?_cons_succ, List.set_cons_zero, List.set_cons_succ, Option.map_some, put, putAll, if_true, if_false, Bool.false_eq_true, Bool.true_eq_false, Bool.not_true, Bool.not_false, Cn.d, partD, List.map_cons, List.map_nil, Ev.wipe, o_add, o_sub, o_mull, o_mulr, o_mod, o_div, o_addt, o_addl, o_lt, o_le, o_gt, o_ge, eq_int, ne_int, u_lenl, u_lent, u_lens, u_max, u_min, u_abs, u_tupl, u_tupt, i_int, i_bool, i_tup, i_rng1, i_lst, i_tupl, len_pic, len_row]) (i_rng1 k1) (fun r hr => ?_)]
  · try simp only [e_var, e_pk, e_cst, e_glo, e_bin, e_neg, e_not, e_cmp, e_chn, e_boo, e_ite, e_tup, e_lst, e_ix, e_slc, e_rev, e_call, e_blt, e_isi, e_comp, a_nil, a_cons, b_one, b_cons, t_nil, t_one, s_skip, s_seq, s_asg, s_own, s_frz, s_set, s_app, s_ext, s_expr, s_ret, s_ite, s_loop, M.pure_bind, M.lift_some, M.calm_pure, M.bind_assoc, asBl, List.getElem?_cons_zero, List.getElem?_cons_succ, List.set_cons_zero, List.set_cons_succ, Option.map_some, put, putAll, if_true, if_false, Bool.false_eq_true, Bool.true_eq_false, Bool.not_true, Bool.not_false, Cn.d, partD, List.map_cons, List.map_nil, Ev.wipe, o_add, o_sub, o_mull, o_mulr, o_mod, o_div, o_addt, o_addl, o_lt, o_le, o_gt, o_ge, eq_int, ne_int, u_lenl, u_lent, u_lens, u_max, u_min, u_abs, u_tupl, u_tupt, i_int, i_bool, i_tup, i_rng1, i_lst, i_tupl, len_pic, len_row]
    rfl
  · unfold oneC
    try simp only [e_var, e_pk, e_cst, e_glo, e_bin, e_neg, e_not, e_cmp, e_chn, e_boo, e_ite, e_tup, e_lst, e_ix, e_slc, e_rev, e_call, e_blt, e_isi, e_comp, a_nil, a_cons, b_one, b_cons, t_nil, t_one, s_skip, s_seq, s_asg, s_own, s_frz, s_set, s_app, s_ext, s_expr, s_ret, s_ite, s_loop, M.pure_bind, M.lift_some, M.calm_pure, M.bind_assoc, asBl, List.getElem?_cons_zero, List.getElem?_cons_succ, List.set_cons_zero, List.set_cons_succ, Option.map_some, put, putAll, if_true, if_false, Bool.false_eq_true, Bool.true_eq_false, Bool.not_true, Bool.not_false, Cn.d, partD, List.map_cons, List.map_nil, Ev.wipe, o_add, o_sub, o_mull, o_mulr, o_mod, o_div, o_addt, o_addl, o_lt, o_le, o_gt, o_ge, eq_int, ne_int, u_lenl, u_lent, u_lens, u_max, u_min, u_abs, u_tupl, u_tupt, i_int, i_bool, i_tup, i_rng1, i_lst, i_tupl, len_pic, len_row, k2]
    refine Go.compR (fun (c : Nat) => .int (laidV ls r c)) (fun c hc => ?_) ?_
    · unfold oneC
      try simp only [e_var, e_pk, e_cst, e_glo, e_bin, e_neg, e_not, e_cmp, e_chn, e_boo, e_ite, e_tup, e_lst, e_ix, e_slc, e_rev, e_call, e_blt, e_isi, e_comp, a_nil, a_cons, b_one, b_cons, t_nil, t_one, s_skip, s_seq, s_asg, s_own, s_frz, s_set, s_app, s_ext, s_expr, s_ret, s_ite, s_loop, M.pure_bind, M.lift_some, M.calm_pure, M.bind_assoc, asBl, List.getElem?_cons_zero, List.getElem?_cons_succ, List.set_cons_zero, List.set_cons_succ, Option.map_some, put, putAll, if_true, if_false, Bool.false_eq_true, Bool.true_eq_false, Bool.not_true, Bool.not_false, Cn.d, partD, List.map_cons, List.map_nil, Ev.wipe, o_add, o_sub, o_mull, o_mulr, o_mod, o_div, o_addt, o_addl, o_lt, o_le, o_gt, o_ge, eq_int, ne_int, u_lenl, u_lent, u_lens, u_max, u_min, u_abs, u_tupl, u_tupt, i_int, i_bool, i_tup, i_rng1, i_lst, i_tupl, len_pic, len_row, h3 ls r c ok]
      exact .pure rfl
    · try simp only [e_var, e_pk, e_cst, e_glo, e_bin, e_neg, e_not, e_cmp, e_chn, e_boo, e_ite, e_tup, e_lst, e_ix, e_slc, e_rev, e_call, e_blt, e_isi, e_comp, a_nil, a_cons, b_one, b_cons, t_nil, t_one, s_skip, s_seq, s_asg, s_own, s_frz, s_set, s_app, s_ext, s_expr, s_ret, s_ite, s_loop, M.pure_bind, M.lift_some, M.calm_pure, M.bind_assoc, asBl, List.getElem?_cons_zero, List.getElem?_cons_succ, List.set_cons_zero, List.set_cons_succ, Option.map_some, put, putAll, if_true, if_false, Bool.false_eq_true, Bool.true_eq_false, Bool.not_true, Bool.not_false, Cn.d, partD, List.map_cons, List.map_nil, Ev.wipe, o_add, o_sub, o_mull, o_mulr, o_mod, o_div, o_addt, o_addl, o_lt, o_le, o_gt, o_ge, eq_int, ne_int, u_lenl, u_lent, u_lens, u_max, u_min, u_abs, u_tupl, u_tupt, i_int, i_bool, i_tup, i_rng1, i_lst, i_tupl, len_pic, len_row]
      exact .pure rfl
/-! the law's layers -/
def wayN (n : Nat) : Way := match n with | 0 => .over | 1 => .under | 2 => .add | _ => .less
def lyV (ns : List Int) (h : Nat) : Ly := ⟨anyR ns h, anyC ns h, drawn ns (h + 2), (drawV ns (h + 32) 8 : Int) - 3, (drawV ns (h + 33) 6 : Int) - 2, wayN (drawV ns (h + 34) 4)⟩
theorem lyV_ok {ns : List Int} {h : Nat} : (lyV ns h).Ok := by
  have b1 := drawV_lt (ns := ns) (k := h + 32) (many := 8) (by decide)
  have b2 := drawV_lt (ns := ns) (k := h + 33) (many := 6) (by decide)
  exact ⟨pc_any, by show -99 ≤ (drawV ns (h + 32) 8 : Int) - 3; omega, by show (drawV ns (h + 32) 8 : Int) - 3 ≤ 99; omega, by show -99 ≤ (drawV ns (h + 33) 6 : Int) - 2; omega, by show (drawV ns (h + 33) 6 : Int) - 2 ≤ 99; omega⟩
def lysV (ns : List Int) (k most : Nat) : List Ly := (List.range (drawV ns k (most + 1))).map fun j => lyV ns (k + 1 + 40 * j)
theorem ix_ways {n : Nat} (h : n < 4) : ixD (.lst [.str "over", .str "under", .str "add", .str "less"]) (.int (n : Nat)) = some (.str (wayN n).s) := by
  match n, h with
  | 0, _ => rfl
  | 1, _ => rfl
  | 2, _ => rfl
  | 3, _ => rfl
def S_law_layers (Φ : Fns) : Prop := ∀ (ns : List Int) (k most : Nat), ns.length ≤ 63 → most ≤ 100 → Φ "_law_layers" [.scr ns, .int k, .int most] = M.pure (.tup ((lysV ns k most).map Ly.d))
theorem sp_law_layers {Φ : Fns} (h1 : S_drawn Φ) (h2 : S_law_any Φ) (ns : List Int) (k most : Nat) (h : ns.length ≤ 63) (hm : most ≤ 100) : runFn Φ fn__law_layers [.scr ns, .int k, .int most] = M.pure (.tup ((lysV ns k most).map Ly.d)) := by
  refine run_go [.val (.scr ns), .val (.int k), .val (.int most), .emp, .emp, .emp, .emp, .emp, .emp] ?_
  have e0 := h1 ns k (most + 1) h (by omega)
  have e0 : Φ "_law_drawn" [.scr ns, .int k, .int ((most : Int) + 1)] = M.pure (.int (drawV ns k (most + 1))) := e0
  have b0 := drawV_lt (ns := ns) (k := k) (many := most + 1) (by omega)
  have k0 : drawV ns k (most + 1) ≤ 16777216 := by omega
  simp only [fn__law_layers]
  refine Go.asgS (.tup []) (by try simp only [e_var, e_pk, e_cst, e_glo, e_bin, e_neg, e_not, e_cmp, e_chn, e_boo, e_ite, e_tup, e_lst, e_ix, e_slc, e_rev, e_call, e_blt, e_isi, e_comp, a_nil, a_cons, b_one, b_cons, t_nil, t_one, s_skip, s_seq, s_asg, s_own, s_frz, s_set, s_app, s_ext, s_expr, s_ret, s_ite, s_loop, M.pure_bind, M.lift_some, M.calm_pure, M.bind_assoc, asBl, List.getElem?_cons_zero, List.getElem?_cons_succ, List.set_cons_zero, List.set_cons_succ, Option.map_some, put, putAll, if_true, if_false, Bool.false_eq_true, Bool.true_eq_false, Bool.not_true, Bool.not_false, Cn.d, partD, List.map_cons, List.map_nil, Ev.wipe, o_add, o_sub, o_mull, o_mulr, o_mod, o_div, o_addt, o_addl, o_lt, o_le, o_gt, o_ge, eq_int, ne_int, u_lenl, u_lent, u_lens, u_max, u_min, u_abs, u_tupl, u_tupt, i_int, i_bool, i_tup, i_rng1, i_lst, i_tupl, len_pic, len_row]) rfl ?_; simp only [List.set_cons_succ, List.set_cons_zero]
  refine Go.forR (emb := fun j => .int (j : Nat)) (ds := [.int (drawV ns k (most + 1))]) (by try simp only [e_var, e_pk, e_cst, e_glo, e_bin, e_neg, e_not, e_cmp, e_chn, e_boo, e_ite, e_tup, e_lst, e_ix, e_slc, e_rev, e_call, e_blt, e_isi, e_comp, a_nil, a_cons, b_one, b_cons, t_nil, t_one, s_skip, s_seq, s_asg, s_own, s_frz, s_set, s_app, s_ext, s_expr, s_ret, s_ite, s_loop, M.pure_bind, M.lift_some, M.calm_pure, M.bind_assoc, asBl, List.getElem?_cons_zero, List.getElem?_cons_succ, List.set_cons_zero, List.set_cons_succ, Option.map_some, put, putAll, if_true, if_false, Bool.false_eq_true, Bool.true_eq_false, Bool.not_true, Bool.not_false, Cn.d, partD, List.map_cons, List.map_nil, Ev.wipe, o_add, o_sub, o_mull, o_mulr, o_mod, o_div, o_addt, o_addl, o_lt, o_le, o_gt, o_ge, eq_int, ne_int, u_lenl, u_lent, u_lens, u_max, u_min, u_abs, u_tupl, u_tupt, i_int, i_bool, i_tup, i_rng1, i_lst, i_tupl, len_pic, len_row, e0]) (i_rng1 k0) (fun i ρ => ∃ v4 v5 v6 v7 v8, ρ = [.val (.scr ns), .val (.int k), .val (.int most), .val (.tup (((List.range i).map fun j => lyV ns (k + 1 + 40 * j)).map Ly.d)), v4, v5, v6, v7, v8]) ⟨_, _, _, _, _, rfl⟩ ?_ ?_
  · rintro i ρ hi ⟨v4, v5, v6, v7, v8, rfl⟩
    refine ⟨_, rfl, ?_⟩
    simp only [List.set_cons_succ, List.set_cons_zero]
    have q : (((k + 1 + 40 * i : Nat) : Nat) : Int) = (k : Int) + 1 + 40 * (i : Int) := by omega
    have d1 := h1 ns (k + 1 + 40 * i + 32) 8 h (by decide)
    have d2 := h1 ns (k + 1 + 40 * i + 33) 6 h (by decide)
    have d3 := h1 ns (k + 1 + 40 * i + 34) 4 h (by decide)
    have d4 := h2 ns (k + 1 + 40 * i) h
    have b3 := drawV_lt (ns := ns) (k := k + 1 + 40 * i + 34) (many := 4) (by decide)
    have d1 : Φ "_law_drawn" [.scr ns, .int (((k + 1 + 40 * i : Nat) : Int) + 32), .int 8] = _ := d1
    have d2 : Φ "_law_drawn" [.scr ns, .int (((k + 1 + 40 * i : Nat) : Int) + 33), .int 6] = _ := d2
    have d3 : Φ "_law_drawn" [.scr ns, .int (((k + 1 + 40 * i : Nat) : Int) + 34), .int 4] = _ := d3
    refine Go.asgS (.int ((k + 1 + 40 * i : Nat) : Int)) (by try simp only [e_var, e_pk, e_cst, e_glo, e_bin, e_neg, e_not, e_cmp, e_chn, e_boo, e_ite, e_tup, e_lst, e_ix, e_slc, e_rev, e_call, e_blt, e_isi, e_comp, a_nil, a_cons, b_one, b_cons, t_nil, t_one, s_skip, s_seq, s_asg, s_own, s_frz, s_set, s_app, s_ext, s_expr, s_ret, s_ite, s_loop, M.pure_bind, M.lift_some, M.calm_pure, M.bind_assoc, asBl, List.getElem?_cons_zero, List.getElem?_cons_succ, List.set_cons_zero, List.set_cons_succ, Option.map_some, put, putAll, if_true, if_false, Bool.false_eq_true, Bool.true_eq_false, Bool.not_true, Bool.not_false, Cn.d, partD, List.map_cons, List.map_nil, Ev.wipe, o_add, o_sub, o_mull, o_mulr, o_mod, o_div, o_addt, o_addl, o_lt, o_le, o_gt, o_ge, eq_int, ne_int, u_lenl, u_lent, u_lens, u_max, u_min, u_abs, u_tupl, u_tupt, i_int, i_bool, i_tup, i_rng1, i_lst, i_tupl, len_pic, len_row, sm40, ← q]) rfl ?_; simp only [List.set_cons_succ, List.set_cons_zero]
    refine Go.asgS (.int ((drawV ns (k + 1 + 40 * i + 32) 8 : Int) - 3)) (by try simp only [e_var, e_pk, e_cst, e_glo, e_bin, e_neg, e_not, e_cmp, e_chn, e_boo, e_ite, e_tup, e_lst, e_ix, e_slc, e_rev, e_call, e_blt, e_isi, e_comp, a_nil, a_cons, b_one, b_cons, t_nil, t_one, s_skip, s_seq, s_asg, s_own, s_frz, s_set, s_app, s_ext, s_expr, s_ret, s_ite, s_loop, M.pure_bind, M.lift_some, M.calm_pure, M.bind_assoc, asBl, List.getElem?_cons_zero, List.getElem?_cons_succ, List.set_cons_zero, List.set_cons_succ, Option.map_some, put, putAll, if_true, if_false, Bool.false_eq_true, Bool.true_eq_false, Bool.not_true, Bool.not_false, Cn.d, partD, List.map_cons, List.map_nil, Ev.wipe, o_add, o_sub, o_mull, o_mulr, o_mod, o_div, o_addt, o_addl, o_lt, o_le, o_gt, o_ge, eq_int, ne_int, u_lenl, u_lent, u_lens, u_max, u_min, u_abs, u_tupl, u_tupt, i_int, i_bool, i_tup, i_rng1, i_lst, i_tupl, len_pic, len_row, d1]) rfl ?_; simp only [List.set_cons_succ, List.set_cons_zero]
    refine Go.asgS (.int ((drawV ns (k + 1 + 40 * i + 33) 6 : Int) - 2)) (by try simp only [e_var, e_pk, e_cst, e_glo, e_bin, e_neg, e_not, e_cmp, e_chn, e_boo, e_ite, e_tup, e_lst, e_ix, e_slc, e_rev, e_call, e_blt, e_isi, e_comp, a_nil, a_cons, b_one, b_cons, t_nil, t_one, s_skip, s_seq, s_asg, s_own, s_frz, s_set, s_app, s_ext, s_expr, s_ret, s_ite, s_loop, M.pure_bind, M.lift_some, M.calm_pure, M.bind_assoc, asBl, List.getElem?_cons_zero, List.getElem?_cons_succ, List.set_cons_zero, List.set_cons_succ, Option.map_some, put, putAll, if_true, if_false, Bool.false_eq_true, Bool.true_eq_false, Bool.not_true, Bool.not_false, Cn.d, partD, List.map_cons, List.map_nil, Ev.wipe, o_add, o_sub, o_mull, o_mulr, o_mod, o_div, o_addt, o_addl, o_lt, o_le, o_gt, o_ge, eq_int, ne_int, u_lenl, u_lent, u_lens, u_max, u_min, u_abs, u_tupl, u_tupt, i_int, i_bool, i_tup, i_rng1, i_lst, i_tupl, len_pic, len_row, d2]) rfl ?_; simp only [List.set_cons_succ, List.set_cons_zero]
    refine Go.asgS (.str (wayN (drawV ns (k + 1 + 40 * i + 34) 4)).s) (by try simp only [e_var, e_pk, e_cst, e_glo, e_bin, e_neg, e_not, e_cmp, e_chn, e_boo, e_ite, e_tup, e_lst, e_ix, e_slc, e_rev, e_call, e_blt, e_isi, e_comp, a_nil, a_cons, b_one, b_cons, t_nil, t_one, s_skip, s_seq, s_asg, s_own, s_frz, s_set, s_app, s_ext, s_expr, s_ret, s_ite, s_loop, M.pure_bind, M.lift_some, M.calm_pure, M.bind_assoc, asBl, List.getElem?_cons_zero, List.getElem?_cons_succ, List.set_cons_zero, List.set_cons_succ, Option.map_some, put, putAll, if_true, if_false, Bool.false_eq_true, Bool.true_eq_false, Bool.not_true, Bool.not_false, Cn.d, partD, List.map_cons, List.map_nil, Ev.wipe, o_add, o_sub, o_mull, o_mulr, o_mod, o_div, o_addt, o_addl, o_lt, o_le, o_gt, o_ge, eq_int, ne_int, u_lenl, u_lent, u_lens, u_max, u_min, u_abs, u_tupl, u_tupt, i_int, i_bool, i_tup, i_rng1, i_lst, i_tupl, len_pic, len_row, d3, ix_ways b3]) rfl ?_; simp only [List.set_cons_succ, List.set_cons_zero]
    have hz : (((List.range i).map fun j => lyV ns (k + 1 + 40 * j)).map Ly.d).length + [D.tup [pic (anyR ns (k + 1 + 40 * i)) (anyC ns (k + 1 + 40 * i)) (drawn ns (k + 1 + 40 * i + 2)), .int ((drawV ns (k + 1 + 40 * i + 32) 8 : Int) - 3), .int ((drawV ns (k + 1 + 40 * i + 33) 6 : Int) - 2), .str (wayN (drawV ns (k + 1 + 40 * i + 34) 4)).s]].length ≤ 16777216 := by simp; omega
    refine Go.asgS (.tup (((List.range (i + 1)).map fun j => lyV ns (k + 1 + 40 * j)).map Ly.d)) (by
      have w : ((List.range (i + 1)).map fun j => lyV ns (k + 1 + 40 * j)).map Ly.d = ((List.range i).map fun j => lyV ns (k + 1 + 40 * j)).map Ly.d ++ [D.tup [pic (anyR ns (k + 1 + 40 * i)) (anyC ns (k + 1 + 40 * i)) (drawn ns (k + 1 + 40 * i + 2)), .int ((drawV ns (k + 1 + 40 * i + 32) 8 : Int) - 3), .int ((drawV ns (k + 1 + 40 * i + 33) 6 : Int) - 2), .str (wayN (drawV ns (k + 1 + 40 * i + 34) 4)).s]] := by
        rw [List.range_succ, List.map_append, List.map_append]
        rfl
      rw [w]
      try simp only [e_var, e_pk, e_cst, e_glo, e_bin, e_neg, e_not, e_cmp, e_chn, e_boo, e_ite, e_tup, e_lst, e_ix, e_slc, e_rev, e_call, e_blt, e_isi, e_comp, a_nil, a_cons, b_one, b_cons, t_nil, t_one, s_skip, s_seq, s_asg, s_own, s_frz, s_set, s_app, s_ext, s_expr, s_ret, s_ite, s_loop, M.pure_bind, M.lift_some, M.calm_pure, M.bind_assoc, asBl, List.getElem?_cons_zero, List.getElem?_cons_succ, List.set_cons_zero, List.set_cons_succ, Option.map_some, put, putAll, if_true, if_false, Bool.false_eq_true, Bool.true_eq_false, Bool.not_true, Bool.not_false, Cn.d, partD, List.map_cons, List.map_nil, Ev.wipe, o_add, o_sub, o_mull, o_mulr, o_mod, o_div, o_addt, o_addl, o_lt, o_le, o_gt, o_ge, eq_int, ne_int, u_lenl, u_lent, u_lens, u_max, u_min, u_abs, u_tupl, u_tupt, i_int, i_bool, i_tup, i_rng1, i_lst, i_tupl, len_pic, len_row, d4, hz]) rfl ?_; simp only [List.set_cons_succ, List.set_cons_zero]
    exact Go.skipS ⟨rfl, _, _, _, _, _, rfl⟩
  · rintro ρ ⟨v4, v5, v6, v7, v8, rfl⟩
    exact Go.retS (.tup ((lysV ns k most).map Ly.d)) (by try simp only [e_var, e_pk, e_cst, e_glo, e_bin, e_neg, e_not, e_cmp, e_chn, e_boo, e_ite, e_tup, e_lst, e_ix, e_slc, e_rev, e_call, e_blt, e_isi, e_comp, a_nil, a_cons, b_one, b_cons, t_nil, t_one, s_skip, s_seq, s_asg, s_own, s_frz, s_set, s_app, s_ext, s_expr, s_ret, s_ite, s_loop, M.pure_bind, M.lift_some, M.calm_pure, M.bind_assoc, asBl, List.getElem?_cons_zero, List.getElem?_cons_succ, List.set_cons_zero, List.set_cons_succ, Option.map_some, put, putAll, if_true, if_false, Bool.false_eq_true, Bool.true_eq_false, Bool.not_true, Bool.not_false, Cn.d, partD, List.map_cons, List.map_nil, Ev.wipe, o_add, o_sub, o_mull, o_mulr, o_mod, o_div, o_addt, o_addl, o_lt, o_le, o_gt, o_ge, eq_int, ne_int, u_lenl, u_lent, u_lens, u_max, u_min, u_abs, u_tupl, u_tupt, i_int, i_bool, i_tup, i_rng1, i_lst, i_tupl, len_pic, len_row]; exact rfl) rfl
end Ev.Vw

end
section
set_option maxRecDepth 100000
set_option maxHeartbeats 4000000
namespace Ev.Vw
open PySem Ev
/-! ### the m foremost of a sorted list -/
section
variable {α : Type} {lt : α → α → Bool}
theorem flt_insG {x : α} {p : α → Bool} : ∀ l : List α, ((insG lt x l).filter p).length = ((x :: l).filter p).length
  | [] => rfl
  | y :: r => by
    unfold insG
    split
    · have ih := flt_insG (x := x) (p := p) r
      simp only [List.filter_cons] at ih ⊢
      by_cases hp : p x = true <;> by_cases hq : p y = true <;> simp only [hp, hq, if_true, if_false, List.length_cons, Bool.false_eq_true] at ih ⊢ <;> omega
    · rfl
theorem flt_sortG {p : α → Bool} : ∀ l : List α, ((sortG lt l).filter p).length = (l.filter p).length
  | [] => rfl
  | x :: l => by
    unfold sortG
    rw [flt_insG]
    have ih := flt_sortG (p := p) l
    simp only [List.filter_cons]
    cases p x <;> simp [ih]
structure Ord (lt : α → α → Bool) : Prop where
  irr : ∀ a, lt a a = false
  tr : ∀ a b c, lt a b = true → lt b c = true → lt a c = true
  tot : ∀ a b, a ≠ b → lt a b = true ∨ lt b a = true
theorem Ord.asym (o : Ord lt) {a b : α} (h : lt a b = true) : lt b a = false := by
  cases q : lt b a with
  | false => rfl
  | true =>
    have := o.tr _ _ _ h q
    rw [o.irr] at this
    cases this
theorem pw_insG (o : Ord lt) {x : α} : ∀ {l : List α}, l.Pairwise (fun a b => lt a b = true) → x ∉ l → (insG lt x l).Pairwise (fun a b => lt a b = true)
  | [], _, _ => by simp [insG]
  | y :: r, h, hx => by
    simp only [List.pairwise_cons] at h
    have hxy : x ≠ y := fun e => hx (by rw [e]; exact List.mem_cons_self)
    have hxr : x ∉ r := fun e => hx (List.mem_cons_of_mem _ e)
    unfold insG
    split
    · rename_i q
      rw [List.pairwise_cons]
      refine ⟨fun z hz => ?_, pw_insG o h.2 hxr⟩
      rcases mem_insG.mp hz with rfl | hz
      · exact q
      · exact h.1 z hz
    · rename_i q
      have q' : lt x y = true := (o.tot x y hxy).elim id fun z => absurd z q
      rw [List.pairwise_cons, List.pairwise_cons]
      refine ⟨fun z hz => ?_, h.1, h.2⟩
      rcases List.mem_cons.mp hz with rfl | hz
      · exact q'
      · exact o.tr _ _ _ q' (h.1 z hz)
theorem pw_sortG (o : Ord lt) : ∀ {l : List α}, l.Nodup → (sortG lt l).Pairwise (fun a b => lt a b = true)
  | [], _ => by simp [sortG]
  | x :: l, h => by
    rw [List.nodup_cons] at h
    unfold sortG
    exact pw_insG o (pw_sortG o h.2) (fun z => h.1 (mem_sortG.mp z))
theorem mem_take_pw (o : Ord lt) : ∀ {s : List α} {m : Nat} {x : α}, s.Pairwise (fun a b => lt a b = true) → x ∈ s → (x ∈ s.take m ↔ (s.filter fun y => lt y x).length < m)
  | y :: r, 0, x, h, hx => by simp
  | y :: r, m + 1, x, h, hx => by
    rw [List.pairwise_cons] at h
    by_cases e : x = y
    · subst e
      have n1 : (r.filter fun z => lt z x) = [] := List.filter_eq_nil_iff.mpr fun z hz => by
        rw [o.asym (h.1 z hz)]
        simp
      simp [List.filter_cons, o.irr, n1]
    · have hr : x ∈ r := (List.mem_cons.mp hx).elim (fun z => absurd z e) id
      have ih := mem_take_pw o (m := m) h.2 hr
      rw [List.take_succ_cons, List.mem_cons, List.filter_cons, h.1 x hr, if_pos rfl, List.length_cons]
      constructor
      · rintro (z | z)
        · exact absurd z e
        · have := ih.mp z; omega
      · intro z
        exact .inr (ih.mpr (by omega))
end
theorem ordP : Ord ltP where
  irr := fun a => by simp [ltP]
  tr := fun a b c h1 h2 => by
    unfold ltP at h1 h2 ⊢
    simp only [Bool.or_eq_true, Bool.and_eq_true, decide_eq_true_eq] at h1 h2 ⊢
    omega
  tot := fun a b h => by
    unfold ltP
    simp only [Bool.or_eq_true, Bool.and_eq_true, decide_eq_true_eq]
    have : a.1 ≠ b.1 ∨ a.2 ≠ b.2 := by
      by_cases q : a.1 = b.1
      · refine .inr fun q2 => h ?_
        exact Prod.ext q q2
      · exact .inl q
    omega
/-! ### the rank of a place in its row -/
/-- c' is ahead of c -/
def ahd (g : Nat → Int) (c' c : Nat) : Bool := decide (g c < g c') || (decide (g c' = g c) && decide (c' < c))
def rk (C : Nat) (g : Nat → Int) (c : Nat) : Nat := ((List.range C).filter fun c' => ahd g c' c).length
theorem on_rk {C : Nat} {g : Nat → Int} {m c : Nat} (hc : c < C) : (c : Int) ∈ onL C g m ↔ rk C g c < m := by
  have nd : (prs C g).Nodup := by
    unfold prs
    rw [List.nodup_iff_pairwise_ne, List.pairwise_map]
    have := List.nodup_range (n := C)
    rw [List.nodup_iff_pairwise_ne] at this
    exact this.imp fun {a b} h e => h (by have this : ((a : Nat) : Int) = (b : Int) := congrArg Prod.snd e; omega)
  have hx : ((0 - g c, (c : Int)) : Int × Int) ∈ sortG ltP (prs C g) := mem_sortG.mpr (List.mem_map.mpr ⟨c, List.mem_range.mpr hc, rfl⟩)
  have key := mem_take_pw ordP (m := m) (pw_sortG ordP nd) hx
  rw [flt_sortG] at key
  have cnt : ((prs C g).filter fun y => ltP y (0 - g c, (c : Int))).length = rk C g c := by
    unfold prs rk
    rw [List.filter_map, List.length_map]
    congr 1
    refine List.filter_congr fun c' _ => ?_
    show ltP (0 - g c', (c' : Int)) (0 - g c, (c : Int)) = ahd g c' c
    unfold ltP ahd
    simp only []
    rw [Bool.eq_iff_iff]
    simp only [Bool.or_eq_true, Bool.and_eq_true, decide_eq_true_eq]
    omega
  rw [cnt] at key
  rw [← key]
  unfold onL
  rw [List.mem_map]
  constructor
  · rintro ⟨q, hq, e⟩
    have := mem_sortG.mp (List.mem_of_mem_take hq)
    obtain ⟨c', _, rfl⟩ := List.mem_map.mp this
    have : c' = c := by
      have e : (c' : Int) = (c : Int) := e
      omega
    subst this
    exact hq
  · intro h
    exact ⟨_, h, rfl⟩
theorem dim_rk {C : Nat} {g : Nat → Int} {m c : Nat} (hc : c < C) : dimR C g m c = if rk C g c < m then g c else 0 := by
  unfold dimR
  by_cases h : rk C g c < m
  · rw [if_pos h, if_pos ((on_rk hc).mpr h)]
  · rw [if_neg h, if_neg fun z => h ((on_rk hc).mp z)]
theorem flt_len_le {α : Type} {p q : α → Bool} : ∀ {l : List α}, (∀ a ∈ l, p a = true → q a = true) → (l.filter p).length ≤ (l.filter q).length
  | [], _ => by simp
  | a :: l, h => by
    have ih := flt_len_le (p := p) (q := q) (l := l) fun b hb => h b (List.mem_cons_of_mem _ hb)
    have ha := h a List.mem_cons_self
    simp only [List.filter_cons]
    cases hp : p a <;> cases hq : q a <;> simp_all <;> omega
theorem flt_len_lt {α : Type} {p q : α → Bool} : ∀ {l : List α}, (∀ a ∈ l, p a = true → q a = true) → (∃ a ∈ l, p a = false ∧ q a = true) → (l.filter p).length < (l.filter q).length
  | [], _, ⟨a, h, _⟩ => by simp at h
  | b :: l, h, ⟨a, ha, h1, h2⟩ => by
    have ih := flt_len_le (p := p) (q := q) (l := l) fun c hc => h c (List.mem_cons_of_mem _ hc)
    have hb := h b List.mem_cons_self
    simp only [List.filter_cons]
    rcases List.mem_cons.mp ha with rfl | ha
    · simp only [h1, h2]
      simp
      omega
    · have ih2 := flt_len_lt (p := p) (q := q) (l := l) (fun c hc => h c (List.mem_cons_of_mem _ hc)) ⟨a, ha, h1, h2⟩
      cases hp : p b <;> cases hq : q b <;> simp_all <;> omega
theorem ahd_tr {g : Nat → Int} {a b c : Nat} (h1 : ahd g a b = true) (h2 : ahd g b c = true) : ahd g a c = true := by
  unfold ahd at *
  simp only [Bool.or_eq_true, Bool.and_eq_true, decide_eq_true_eq] at *
  omega
theorem ahd_irr {g : Nat → Int} {a : Nat} : ahd g a a = false := by simp [ahd]
theorem rk_lt {C : Nat} {g : Nat → Int} {a b : Nat} (ha : a < C) (h : ahd g a b = true) : rk C g a < rk C g b :=
  flt_len_lt (fun c _ q => ahd_tr q h) ⟨a, List.mem_range.mpr ha, ahd_irr, h⟩
/-- the brighter one has the lesser rank -/
theorem rk_le_of {C : Nat} {g : Nat → Int} {a b : Nat} (hb : b < C) (h : rk C g a < rk C g b) : g b ≤ g a := by
  by_cases q : g a < g b
  · have : ahd g b a = true := by unfold ahd; simp [q]
    have := rk_lt hb this
    omega
  · omega
/-- dimmed twice -/
theorem dim_dim {C : Nat} {g : Nat → Int} {m k c : Nat} (hc : c < C) (h0 : ∀ c, c < C → 0 ≤ g c) : dimR C (dimR C g m) k c = dimR C g (min m k) c := by
  have e : dimR C g m c = if rk C g c < m then g c else 0 := dim_rk hc
  rw [dim_rk (g := dimR C g m) hc, dim_rk (m := min m k) hc, e]
  by_cases h1 : rk C g c < m
  · rw [if_pos h1]
    by_cases hz : g c = 0
    · rw [hz]; simp
    · have hp : 0 < g c := by have := h0 c hc; omega
      have same : rk C (dimR C g m) c = rk C g c := by
        unfold rk
        congr 1
        refine List.filter_congr fun a ha => ?_
        have ha := List.mem_range.mp ha
        have ea : dimR C g m a = if rk C g a < m then g a else 0 := dim_rk ha
        rw [Bool.eq_iff_iff]
        unfold ahd
        simp only [Bool.or_eq_true, Bool.and_eq_true, decide_eq_true_eq]
        rw [e, if_pos h1, ea]
        by_cases hm : rk C g a < m
        · rw [if_pos hm]
        · rw [if_neg hm]
          have : ¬ ahd g a c = true := fun q => by have := rk_lt ha q; omega
          unfold ahd at this
          simp only [Bool.or_eq_true, Bool.and_eq_true, decide_eq_true_eq] at this
          omega
      rw [same]
      by_cases h2 : rk C g c < k
      · rw [if_pos h2, if_pos (by omega)]
      · rw [if_neg h2, if_neg (by omega)]
  · rw [if_neg h1, if_neg (show ¬ rk C g c < min m k by omega)]
    split <;> rfl
/-- the foremost m are at the most m -/
theorem rk_count {C : Nat} {g : Nat → Int} {m : Nat} : ((List.range C).filter fun c => decide (rk C g c < m)).length ≤ m := by
  have inj : ∀ a b, a < C → b < C → rk C g a = rk C g b → a = b := fun a b ha hb e => by
    by_cases q : a = b
    · exact q
    · have : ahd g a b = true ∨ ahd g b a = true := by
        unfold ahd
        simp only [Bool.or_eq_true, Bool.and_eq_true, decide_eq_true_eq]
        omega
      rcases this with z | z
      · have := rk_lt ha z; omega
      · have := rk_lt hb z; omega
  induction m with
  | zero =>
    rw [List.filter_eq_nil_iff.mpr fun a _ => by simp]
    simp
  | succ m ih =>
    -- at most one has the rank m
    by_cases hx : ∃ a, a < C ∧ rk C g a = m
    · obtain ⟨a, ha, ea⟩ := hx
      have split : ∀ l : List Nat, l.Nodup → (∀ c ∈ l, c < C) → (l.filter fun c => decide (rk C g c < m + 1)).length ≤ (l.filter fun c => decide (rk C g c < m)).length + 1 := by
        intro l nd hl
        induction l with
        | nil => simp
        | cons x l ihl =>
          rw [List.nodup_cons] at nd
          have ihl := ihl nd.2 fun c hc => hl c (List.mem_cons_of_mem _ hc)
          simp only [List.filter_cons]
          by_cases q : rk C g x < m
          · have q' : rk C g x < m + 1 := by omega
            simp only [q, q', decide_true, if_true, List.length_cons]
            omega
          · by_cases q2 : rk C g x = m
            · have q' : rk C g x < m + 1 := by omega
              have none_ : (l.filter fun c => decide (rk C g c < m + 1)) = l.filter fun c => decide (rk C g c < m) := List.filter_congr fun c hc => by
                have : rk C g c ≠ m := fun e => nd.1 (by rw [inj x c (hl x List.mem_cons_self) (hl c (List.mem_cons_of_mem _ hc)) (by omega)]; exact hc)
                rw [Bool.eq_iff_iff]
                simp only [decide_eq_true_eq]
                omega
              simp only [q, q', decide_true, decide_false, if_true, if_false, List.length_cons, none_, Bool.false_eq_true]
              omega
            · have q' : ¬ rk C g x < m + 1 := by omega
              simp only [q, q', decide_false, if_false, Bool.false_eq_true]
              exact ihl
      have := split (List.range C) List.nodup_range fun c hc => List.mem_range.mp hc
      omega
    · have : ((List.range C).filter fun c => decide (rk C g c < m + 1)) = (List.range C).filter fun c => decide (rk C g c < m) := List.filter_congr fun c hc => by
        have : rk C g c ≠ m := fun e => hx ⟨c, List.mem_range.mp hc, e⟩
        rw [Bool.eq_iff_iff]
        simp only [decide_eq_true_eq]
        omega
      rw [this]
      omega
end Ev.Vw

end
section
set_option maxRecDepth 100000
set_option maxHeartbeats 4000000
namespace Ev.Vw
open PySem Ev
/-! ### lists of ints -/
theorem ne_nilI {α : Type} {l : List α} {f : α → Int} : cop .ne (.lst (l.map fun a => .int (f a))) (.lst []) = some (!l.isEmpty) := by
  have h1 : okD 50 (.lst (l.map fun a => D.int (f a))) = true := by simp [okD]
  have h2 : okD 50 (.lst []) = true := by simp [okD]
  simp only [cop, eqD, h1, h2, Bool.and_self, if_true, Option.map_some]
  cases l <;> simp [eqv, eqvL]
theorem eq_nilI {α : Type} {l : List α} {f : α → Int} : cop .eq (.lst (l.map fun a => .int (f a))) (.lst []) = some l.isEmpty := by
  have h1 : okD 50 (.lst (l.map fun a => D.int (f a))) = true := by simp [okD]
  have h2 : okD 50 (.lst []) = true := by simp [okD]
  simp only [cop, eqD, h1, h2, Bool.and_self, if_true]
  cases l <;> simp [eqv, eqvL]
theorem minI_mem : ∀ {r : List Int} {n : Int}, minI n r ∈ n :: r
  | [], n => by simp [minI]
  | x :: r, n => by
    unfold minI
    have := minI_mem (r := r) (n := if x < n then x else n)
    split at this <;> rename_i q <;> simp only [q, if_true, if_false] <;> rcases List.mem_cons.mp this with e | e <;> simp [e]
theorem maxI_mem : ∀ {r : List Int} {n : Int}, maxI n r ∈ n :: r
  | [], n => by simp [maxI]
  | x :: r, n => by
    unfold maxI
    have := maxI_mem (r := r) (n := if n < x then x else n)
    split at this <;> rename_i q <;> simp only [q, if_true, if_false] <;> rcases List.mem_cons.mp this with e | e <;> simp [e]
theorem u_minL {α : Type} {a : α} {t : List α} {f : α → Int} : blt .min [.lst ((a :: t).map fun x => .int (f x))] = some (.int (minI (f a) (t.map f))) := by
  have e : intsOf ((a :: t).map fun x => D.int (f x)) = some (f a :: t.map f) := intsOf_map _
  simp only [blt, e]
theorem u_maxL {α : Type} {a : α} {t : List α} {f : α → Int} : blt .max [.lst ((a :: t).map fun x => .int (f x))] = some (.int (maxI (f a) (t.map f))) := by
  have e : intsOf ((a :: t).map fun x => D.int (f x)) = some (f a :: t.map f) := intsOf_map _
  simp only [blt, e]
/-! ### sums shifted -/
theorem sm_mono {n m : Nat} {g : Nat → Int} (h : ∀ i, 0 ≤ g i) (hm : m ≤ n) : sm m g ≤ sm n g := by
  induction n with
  | zero => rw [show m = 0 by omega]; exact Int.le_refl _
  | succ n ih =>
    by_cases q : m = n + 1
    · subst q; exact Int.le_refl _
    · rw [sm_succ]
      have := ih (by omega)
      have := h n
      omega
theorem sm_shift {n k : Nat} {g : Nat → Int} : sm n (fun i => if k ≤ i then g (i - k) else 0) = sm (n - k) g := by
  induction n with
  | zero => simp [sm]
  | succ n ih =>
    rw [sm_succ, ih]
    by_cases q : k ≤ n
    · rw [if_pos q, show n + 1 - k = (n - k) + 1 by omega, sm_succ]
    · rw [if_neg q, show n + 1 - k = 0 by omega, show n - k = 0 by omega]
      simp [sm]
theorem shade_nat {R C : Nat} {f : Nat → Nat → Int} {r c a b : Nat} (hr : r < R) (hc : c < C) : shade R C f ((r : Int) - (a : Nat)) ((c : Int) - (b : Nat)) = if a ≤ r then (if b ≤ c then f (r - a) (c - b) else 0) else 0 := by
  unfold shade
  by_cases q1 : a ≤ r
  · by_cases q2 : b ≤ c
    · rw [if_pos (by omega), if_pos q1, if_pos q2, show ((r : Int) - (a : Nat)).toNat = r - a by omega, show ((c : Int) - (b : Nat)).toNat = c - b by omega]
    · rw [if_neg (by omega), if_pos q1, if_neg q2]
  · rw [if_neg (by omega), if_neg q1]
theorem tot_shift {R C : Nat} {f : Nat → Nat → Int} {a b : Nat} (h : Shd R C f) : tot R C (fun r c => shade R C f ((r : Int) - (a : Nat)) ((c : Int) - (b : Nat))) ≤ tot R C f := by
  -- nothing below nought
  obtain ⟨g, hg⟩ : ∃ g : Nat → Nat → Int, g = fun r c => if r < R ∧ c < C then f r c else 0 := ⟨_, rfl⟩
  have g0 : ∀ r c, 0 ≤ g r c := fun r c => by
    rw [hg]
    show 0 ≤ if r < R ∧ c < C then f r c else 0
    split
    · rename_i q; exact (h r c q.1 q.2).1
    · omega
  have e1 : tot R C f = sm R fun r => sm C (g r) := by
    rw [tot_eq]
    exact sm_congr fun r hr => sm_congr fun c hc => by rw [hg]; exact (if_pos ⟨hr, hc⟩).symm
  have e2 : tot R C (fun r c => shade R C f ((r : Int) - (a : Nat)) ((c : Int) - (b : Nat))) = sm R fun r => if a ≤ r then sm (C - b) (g (r - a)) else 0 := by
    rw [tot_eq]
    refine sm_congr fun r hr => ?_
    by_cases q : a ≤ r
    · rw [if_pos q, ← sm_shift (n := C) (k := b)]
      refine sm_congr fun c hc => ?_
      rw [shade_nat hr hc, if_pos q, hg]
      by_cases q2 : b ≤ c
      · rw [if_pos q2, if_pos q2]
        show f (r - a) (c - b) = if r - a < R ∧ c - b < C then f (r - a) (c - b) else 0
        rw [if_pos (by omega)]
      · rw [if_neg q2, if_neg q2]
    · rw [if_neg q]
      have : sm C (fun c => shade R C f ((r : Int) - (a : Nat)) ((c : Int) - (b : Nat))) = sm C fun _ => 0 := sm_congr fun c hc => by rw [shade_nat hr hc, if_neg q]
      rw [this, sm_const]
      simp
  rw [e1, e2, sm_shift (n := R) (k := a) (g := fun r => sm (C - b) (g r))]
  refine Int.le_trans (sm_mono (fun r => sm_nonneg fun c _ => g0 r c) (Nat.sub_le R a)) ?_
  exact sm_le fun r _ => sm_mono (g0 r) (Nat.sub_le C b)
theorem shade_shade {R C : Nat} {f : Nat → Nat → Int} {d b x y : Int} : shade R C (fun r c => shade R C f ((r : Int) - d) ((c : Int) - b)) x y = if 0 ≤ x ∧ x < R ∧ 0 ≤ y ∧ y < C then shade R C f (x - d) (y - b) else 0 := by
  by_cases h : 0 ≤ x ∧ x < R ∧ 0 ≤ y ∧ y < C
  · rw [if_pos h]
    conv => lhs; unfold shade
    rw [if_pos h]
    exact shade_eq (by omega) (by omega)
  · rw [if_neg h]
    conv => lhs; unfold shade
    rw [if_neg h]
theorem slc_takeT {l : List D} {m : Nat} : slcD (.tup l) none (some ((m : Nat) : Int)) = some (.tup (l.take m)) := by
  simp only [slcD, cut, sIx]
  rw [if_neg (by omega)]
  simp
theorem take_rangeMap {α : Type} {n m : Nat} {f : Nat → α} : ((List.range n).map f).take m = (List.range (min m n)).map f := by
  rw [← List.map_take]
  congr 1
  apply List.ext_getElem?
  intro i
  by_cases h : i < min m n
  · rw [List.getElem?_take_of_lt (by omega), List.getElem?_range (by omega), List.getElem?_range (by omega)]
  · rw [List.getElem?_eq_none (by simp; omega), List.getElem?_eq_none (by simp; omega)]
theorem range_split {α : Type} {n m : Nat} {f g : Nat → α} : (List.range n).map f ++ (List.range m).map g = (List.range (n + m)).map fun i => if i < n then f i else g (i - n) := by
  apply List.ext_getElem?
  intro i
  by_cases h : i < n
  · rw [List.getElem?_append_left (by simpa using h), getElem?_rangeMap h, getElem?_rangeMap (show i < n + m by omega), if_pos h]
  · rw [List.getElem?_append_right (by simp; omega)]
    by_cases h2 : i < n + m
    · rw [List.length_map, List.length_range, getElem?_rangeMap (show i - n < m by omega), getElem?_rangeMap h2, if_neg h]
    · rw [List.getElem?_eq_none (by simp; omega), List.getElem?_eq_none (by simp; omega)]
end Ev.Vw

end
section
set_option maxRecDepth 100000
set_option maxHeartbeats 4000000
namespace Ev.Vw
open PySem Ev
/-! ### films -/
abbrev Shot := (Nat → Nat → Int) × Nat
def shotD (R C : Nat) (x : Shot) : D := .tup [pic R C x.1, .int (x.2 : Nat)]
def filmD (R C : Nat) (fl : List Shot) : D := .tup (fl.map (shotD R C))
structure Fm (R C : Nat) (fl : List Shot) : Prop where
  r1 : 1 ≤ R
  r4 : R ≤ 4
  c1 : 1 ≤ C
  c6 : C ≤ 6
  ne : 1 ≤ fl.length
  le : fl.length ≤ 4
  ok : ∀ x ∈ fl, Shd R C x.1 ∧ 1 ≤ x.2 ∧ x.2 ≤ 3
theorem Fm.pc {R C : Nat} {fl : List Shot} (p : Fm R C fl) {x : Shot} (h : x ∈ fl) : Pc R C x.1 := ⟨p.r1, p.r4, p.c1, p.c6, (p.ok x h).1⟩
theorem i_film {R C : Nat} {fl : List Shot} : itm .seq [filmD R C fl] = some (fl.map (shotD R C)) := (rfl)
theorem i_filmT {R C : Nat} {fl : List Shot} : isiD (filmD R C fl) "tuple" = some true := (rfl)
theorem i_shotT {R C : Nat} {x : Shot} : isiD (shotD R C x) "tuple" = some true := (rfl)
theorem len_film {R C : Nat} {fl : List Shot} : blt .len [filmD R C fl] = some (.int (fl.length : Nat)) := by simp [blt, filmD]
theorem len_shot {R C : Nat} {x : Shot} : blt .len [shotD R C x] = some (.int 2) := (rfl)
theorem ix_shot0 {R C : Nat} {x : Shot} : ixD (shotD R C x) (.int 0) = some (pic R C x.1) := (rfl)
theorem ix_shot1 {R C : Nat} {x : Shot} : ixD (shotD R C x) (.int 1) = some (.int (x.2 : Nat)) := (rfl)
theorem ix_film0 {R C : Nat} {x : Shot} {fl : List Shot} : ixD (filmD R C (x :: fl)) (.int 0) = some (shotD R C x) := by
  simp only [ixD, filmD, List.length_map, List.length_cons]
  rw [show ((0 : Int)) = ((0 : Nat) : Int) from rfl, ixN_nat (by omega)]
  rfl
theorem Fm.head {R C : Nat} {fl : List Shot} (p : Fm R C fl) : ∃ x r, fl = x :: r := by
  cases fl with
  | nil => have := p.ne; simp at this
  | cons x r => exact ⟨x, r, rfl⟩
def S_is_shot (Φ : Fns) : Prop := ∀ (R C : Nat) (x : Shot), Pc R C x.1 → 1 ≤ x.2 → x.2 ≤ 3 → Φ "is_shot" [shotD R C x] = M.pure (.bl true)
theorem sp_is_shot {Φ : Fns} (h1 : S_is_picture Φ) (h2 : S_is_number Φ) (R C : Nat) (x : Shot) (p : Pc R C x.1) (n1 : 1 ≤ x.2) (n3 : x.2 ≤ 3) : runFn Φ fn_is_shot [shotD R C x] = M.pure (.bl true) := by
  have e := h2 x.2 1 3
  rw [decide_eq_true (show (1 : Int) ≤ (x.2 : Nat) by omega), decide_eq_true (show ((x.2 : Nat) : Int) ≤ 3 by omega)] at e
  refine run_go [.val (shotD R C x)] ?_
  simp only [fn_is_shot]
  refine Go.if0 (by try simp only [e_var, e_pk, e_cst, e_glo, e_bin, e_neg, e_not, e_cmp, e_chn, e_boo, e_ite, e_tup, e_lst, e_ix, e_slc, e_rev, e_call, e_blt, e_isi, e_comp, a_nil, a_cons, b_one, b_cons, t_nil, t_one, s_skip, s_seq, s_asg, s_own, s_frz, s_set, s_app, s_ext, s_expr, s_ret, s_ite, s_loop, M.pure_bind, M.lift_some, M.calm_pure, M.bind_assoc, asBl, List.getElem?_cons_zero, List.getElem?_cons_succ, List.set_cons_zero, List.set_cons_succ, Option.map_some, put, putAll, if_true, if_false, Bool.false_eq_true, Bool.true_eq_false, Bool.not_true, Bool.not_false, Cn.d, partD, List.map_cons, List.map_nil, Ev.wipe, o_add, o_sub, o_mull, o_mulr, o_mod, o_div, o_addt, o_addl, o_lt, o_le, o_gt, o_ge, eq_int, ne_int, u_lenl, u_lent, u_lens, u_max, u_min, u_abs, u_tupl, u_tupt, i_int, i_bool, i_tup, i_rng1, i_lst, i_tupl, len_pic, len_row, i_shotT, len_shot, decide_true]) ?_
  exact Go.retS (.bl true) (by try simp only [e_var, e_pk, e_cst, e_glo, e_bin, e_neg, e_not, e_cmp, e_chn, e_boo, e_ite, e_tup, e_lst, e_ix, e_slc, e_rev, e_call, e_blt, e_isi, e_comp, a_nil, a_cons, b_one, b_cons, t_nil, t_one, s_skip, s_seq, s_asg, s_own, s_frz, s_set, s_app, s_ext, s_expr, s_ret, s_ite, s_loop, M.pure_bind, M.lift_some, M.calm_pure, M.bind_assoc, asBl, List.getElem?_cons_zero, List.getElem?_cons_succ, List.set_cons_zero, List.set_cons_succ, Option.map_some, put, putAll, if_true, if_false, Bool.false_eq_true, Bool.true_eq_false, Bool.not_true, Bool.not_false, Cn.d, partD, List.map_cons, List.map_nil, Ev.wipe, o_add, o_sub, o_mull, o_mulr, o_mod, o_div, o_addt, o_addl, o_lt, o_le, o_gt, o_ge, eq_int, ne_int, u_lenl, u_lent, u_lens, u_max, u_min, u_abs, u_tupl, u_tupt, i_int, i_bool, i_tup, i_rng1, i_lst, i_tupl, len_pic, len_row, ix_shot0, ix_shot1, h1 R C x.1 p, e, Bool.and_self]) rfl
theorem eq_pairN {a b : Nat} : cop .eq (.tup [.int (a : Nat), .int (b : Nat)]) (.tup [.int (a : Nat), .int (b : Nat)]) = some true := eq_refl rfl
def S_is_film (Φ : Fns) : Prop := ∀ (R C : Nat) (fl : List Shot), Fm R C fl → Φ "is_film" [filmD R C fl] = M.pure (.bl true)
theorem sp_is_film {Φ : Fns} (h1 : S_is_shot Φ) (h2 : S_size_of Φ) (R C : Nat) (fl : List Shot) (p : Fm R C fl) : runFn Φ fn_is_film [filmD R C fl] = M.pure (.bl true) := by
  refine run_go [.val (filmD R C fl), .emp] ?_
  have k1 : (1 : Int) ≤ (fl.length : Nat) := by have := p.ne; omega
  have k2 : ((fl.length : Nat) : Int) ≤ 4 := by have := p.le; omega
  have r0 : 0 < R := by have := p.r1; omega
  obtain ⟨x0, r, hx⟩ := p.head
  simp only [fn_is_film]
  refine Go.if0 ?_ ?_
  · rw [e_boo, b_cons, b_cons, b_one, e_not, e_not, e_not, e_blt, a_cons, a_nil, comp_eq (l := fl) (emb := shotD R C) (ds := [filmD R C fl]) (fun _ => .bl true) (by try simp only [e_var, e_pk, e_cst, e_glo, e_bin, e_neg, e_not, e_cmp, e_chn, e_boo, e_ite, e_tup, e_lst, e_ix, e_slc, e_rev, e_call, e_blt, e_isi, e_comp, a_nil, a_cons, b_one, b_cons, t_nil, t_one, s_skip, s_seq, s_asg, s_own, s_frz, s_set, s_app, s_ext, s_expr, s_ret, s_ite, s_loop, M.pure_bind, M.lift_some, M.calm_pure, M.bind_assoc, asBl, List.getElem?_cons_zero, List.getElem?_cons_succ, List.set_cons_zero, List.set_cons_succ, Option.map_some, put, putAll, if_true, if_false, Bool.false_eq_true, Bool.true_eq_false, Bool.not_true, Bool.not_false, Cn.d, partD, List.map_cons, List.map_nil, Ev.wipe, o_add, o_sub, o_mull, o_mulr, o_mod, o_div, o_addt, o_addl, o_lt, o_le, o_gt, o_ge, eq_int, ne_int, u_lenl, u_lent, u_lens, u_max, u_min, u_abs, u_tupl, u_tupt, i_int, i_bool, i_tup, i_rng1, i_lst, i_tupl, len_pic, len_row]) i_film (fun x hx => by
      unfold oneC
      try simp only [e_var, e_pk, e_cst, e_glo, e_bin, e_neg, e_not, e_cmp, e_chn, e_boo, e_ite, e_tup, e_lst, e_ix, e_slc, e_rev, e_call, e_blt, e_isi, e_comp, a_nil, a_cons, b_one, b_cons, t_nil, t_one, s_skip, s_seq, s_asg, s_own, s_frz, s_set, s_app, s_ext, s_expr, s_ret, s_ite, s_loop, M.pure_bind, M.lift_some, M.calm_pure, M.bind_assoc, asBl, List.getElem?_cons_zero, List.getElem?_cons_succ, List.set_cons_zero, List.set_cons_succ, Option.map_some, put, putAll, if_true, if_false, Bool.false_eq_true, Bool.true_eq_false, Bool.not_true, Bool.not_false, Cn.d, partD, List.map_cons, List.map_nil, Ev.wipe, o_add, o_sub, o_mull, o_mulr, o_mod, o_div, o_addt, o_addl, o_lt, o_le, o_gt, o_ge, eq_int, ne_int, u_lenl, u_lent, u_lens, u_max, u_min, u_abs, u_tupl, u_tupt, i_int, i_bool, i_tup, i_rng1, i_lst, i_tupl, len_pic, len_row, h1 R C x (p.pc hx) (p.ok x hx).2.1 (p.ok x hx).2.2]
      exact .pure rfl)]
    try simp only [e_var, e_pk, e_cst, e_glo, e_bin, e_neg, e_not, e_cmp, e_chn, e_boo, e_ite, e_tup, e_lst, e_ix, e_slc, e_rev, e_call, e_blt, e_isi, e_comp, a_nil, a_cons, b_one, b_cons, t_nil, t_one, s_skip, s_seq, s_asg, s_own, s_frz, s_set, s_app, s_ext, s_expr, s_ret, s_ite, s_loop, M.pure_bind, M.lift_some, M.calm_pure, M.bind_assoc, asBl, List.getElem?_cons_zero, List.getElem?_cons_succ, List.set_cons_zero, List.set_cons_succ, Option.map_some, put, putAll, if_true, if_false, Bool.false_eq_true, Bool.true_eq_false, Bool.not_true, Bool.not_false, Cn.d, partD, List.map_cons, List.map_nil, Ev.wipe, o_add, o_sub, o_mull, o_mulr, o_mod, o_div, o_addt, o_addl, o_lt, o_le, o_gt, o_ge, eq_int, ne_int, u_lenl, u_lent, u_lens, u_max, u_min, u_abs, u_tupl, u_tupt, i_int, i_bool, i_tup, i_rng1, i_lst, i_tupl, len_pic, len_row, i_filmT, len_film, k1, k2, decide_true, u_allT]
  · refine Go.retS (.bl true) ?_ rfl
    rw [e_blt, a_cons, a_nil, comp_eq (l := fl) (emb := shotD R C) (ds := [filmD R C fl]) (fun _ => .bl true) (by try simp only [e_var, e_pk, e_cst, e_glo, e_bin, e_neg, e_not, e_cmp, e_chn, e_boo, e_ite, e_tup, e_lst, e_ix, e_slc, e_rev, e_call, e_blt, e_isi, e_comp, a_nil, a_cons, b_one, b_cons, t_nil, t_one, s_skip, s_seq, s_asg, s_own, s_frz, s_set, s_app, s_ext, s_expr, s_ret, s_ite, s_loop, M.pure_bind, M.lift_some, M.calm_pure, M.bind_assoc, asBl, List.getElem?_cons_zero, List.getElem?_cons_succ, List.set_cons_zero, List.set_cons_succ, Option.map_some, put, putAll, if_true, if_false, Bool.false_eq_true, Bool.true_eq_false, Bool.not_true, Bool.not_false, Cn.d, partD, List.map_cons, List.map_nil, Ev.wipe, o_add, o_sub, o_mull, o_mulr, o_mod, o_div, o_addt, o_addl, o_lt, o_le, o_gt, o_ge, eq_int, ne_int, u_lenl, u_lent, u_lens, u_max, u_min, u_abs, u_tupl, u_tupt, i_int, i_bool, i_tup, i_rng1, i_lst, i_tupl, len_pic, len_row]) i_film (fun x hx' => by
      unfold oneC
      subst hx
      try simp only [e_var, e_pk, e_cst, e_glo, e_bin, e_neg, e_not, e_cmp, e_chn, e_boo, e_ite, e_tup, e_lst, e_ix, e_slc, e_rev, e_call, e_blt, e_isi, e_comp, a_nil, a_cons, b_one, b_cons, t_nil, t_one, s_skip, s_seq, s_asg, s_own, s_frz, s_set, s_app, s_ext, s_expr, s_ret, s_ite, s_loop, M.pure_bind, M.lift_some, M.calm_pure, M.bind_assoc, asBl, List.getElem?_cons_zero, List.getElem?_cons_succ, List.set_cons_zero, List.set_cons_succ, Option.map_some, put, putAll, if_true, if_false, Bool.false_eq_true, Bool.true_eq_false, Bool.not_true, Bool.not_false, Cn.d, partD, List.map_cons, List.map_nil, Ev.wipe, o_add, o_sub, o_mull, o_mulr, o_mod, o_div, o_addt, o_addl, o_lt, o_le, o_gt, o_ge, eq_int, ne_int, u_lenl, u_lent, u_lens, u_max, u_min, u_abs, u_tupl, u_tupt, i_int, i_bool, i_tup, i_rng1, i_lst, i_tupl, len_pic, len_row, ix_shot0, ix_film0, h2 R C x.1 r0, h2 R C x0.1 r0, eq_pairN]
      exact .pure rfl)]
    try simp only [e_var, e_pk, e_cst, e_glo, e_bin, e_neg, e_not, e_cmp, e_chn, e_boo, e_ite, e_tup, e_lst, e_ix, e_slc, e_rev, e_call, e_blt, e_isi, e_comp, a_nil, a_cons, b_one, b_cons, t_nil, t_one, s_skip, s_seq, s_asg, s_own, s_frz, s_set, s_app, s_ext, s_expr, s_ret, s_ite, s_loop, M.pure_bind, M.lift_some, M.calm_pure, M.bind_assoc, asBl, List.getElem?_cons_zero, List.getElem?_cons_succ, List.set_cons_zero, List.set_cons_succ, Option.map_some, put, putAll, if_true, if_false, Bool.false_eq_true, Bool.true_eq_false, Bool.not_true, Bool.not_false, Cn.d, partD, List.map_cons, List.map_nil, Ev.wipe, o_add, o_sub, o_mull, o_mulr, o_mod, o_div, o_addt, o_addl, o_lt, o_le, o_gt, o_ge, eq_int, ne_int, u_lenl, u_lent, u_lens, u_max, u_min, u_abs, u_tupl, u_tupt, i_int, i_bool, i_tup, i_rng1, i_lst, i_tupl, len_pic, len_row, u_allT]
def S_need_film (Φ : Fns) : Prop := ∀ (R C : Nat) (fl : List Shot), Fm R C fl → Φ "need_film" [filmD R C fl] = M.pure .non
theorem sp_need_film {Φ : Fns} (h1 : S_is_film Φ) (R C : Nat) (fl : List Shot) (p : Fm R C fl) : runFn Φ fn_need_film [filmD R C fl] = M.pure .non := by
  refine run_go_nx [.val (filmD R C fl)] ?_
  simp only [fn_need_film]
  exact Go.if0 (by try simp only [e_var, e_pk, e_cst, e_glo, e_bin, e_neg, e_not, e_cmp, e_chn, e_boo, e_ite, e_tup, e_lst, e_ix, e_slc, e_rev, e_call, e_blt, e_isi, e_comp, a_nil, a_cons, b_one, b_cons, t_nil, t_one, s_skip, s_seq, s_asg, s_own, s_frz, s_set, s_app, s_ext, s_expr, s_ret, s_ite, s_loop, M.pure_bind, M.lift_some, M.calm_pure, M.bind_assoc, asBl, List.getElem?_cons_zero, List.getElem?_cons_succ, List.set_cons_zero, List.set_cons_succ, Option.map_some, put, putAll, if_true, if_false, Bool.false_eq_true, Bool.true_eq_false, Bool.not_true, Bool.not_false, Cn.d, partD, List.map_cons, List.map_nil, Ev.wipe, o_add, o_sub, o_mull, o_mulr, o_mod, o_div, o_addt, o_addl, o_lt, o_le, o_gt, o_ge, eq_int, ne_int, u_lenl, u_lent, u_lens, u_max, u_min, u_abs, u_tupl, u_tupt, i_int, i_bool, i_tup, i_rng1, i_lst, i_tupl, len_pic, len_row, h1 R C fl p]) (Go.skipS rfl)
def fmV (fl : List Shot) : List (Nat → Nat → Int) := fl.flatMap fun x => List.replicate x.2 x.1
theorem fmV_snoc {fl : List Shot} {x : Shot} : fmV (fl ++ [x]) = fmV fl ++ List.replicate x.2 x.1 := by simp [fmV, List.flatMap_append]
theorem fmV_len {fl : List Shot} (h : ∀ x ∈ fl, x.2 ≤ 3) : (fmV fl).length ≤ 3 * fl.length := by
  induction fl with
  | nil => simp [fmV]
  | cons x fl ih =>
    have ih := ih fun y hy => h y (List.mem_cons_of_mem _ hy)
    have := h x List.mem_cons_self
    unfold fmV at ih ⊢
    rw [List.flatMap_cons, List.length_append, List.length_replicate, List.length_cons]
    omega
theorem fmV_pos {fl : List Shot} (ne : 1 ≤ fl.length) (h : ∀ x ∈ fl, 1 ≤ x.2) : 1 ≤ (fmV fl).length := by
  cases fl with
  | nil => simp at ne
  | cons x fl =>
    have := h x List.mem_cons_self
    unfold fmV
    rw [List.flatMap_cons, List.length_append, List.length_replicate]
    omega
theorem Fm.len {R C : Nat} {fl : List Shot} (p : Fm R C fl) : 1 ≤ (fmV fl).length ∧ (fmV fl).length ≤ 12 := by
  have h1 := fmV_pos p.ne fun x hx => (p.ok x hx).2.1
  have h2 := fmV_len fun x hx => (p.ok x hx).2.2
  have := p.le
  omega
theorem fmV_mem {R C : Nat} {fl : List Shot} (p : Fm R C fl) : ∀ f ∈ fmV fl, Shd R C f := fun f hf => by
  unfold fmV at hf
  obtain ⟨x, hx, h⟩ := List.mem_flatMap.mp hf
  rw [(List.mem_replicate.mp h).2]
  exact (p.ok x hx).1
def S_shown (Φ : Fns) : Prop := ∀ (R C : Nat) (fl : List Shot), Fm R C fl → Φ "shown" [filmD R C fl] = M.pure (.lst ((fmV fl).map (pic R C)))
theorem sp_shown {Φ : Fns} (R C : Nat) (fl : List Shot) (p : Fm R C fl) : runFn Φ fn_shown [filmD R C fl] = M.pure (.lst ((fmV fl).map (pic R C))) := by
  refine run_go [.val (filmD R C fl), .emp, .emp, .emp] ?_
  simp only [fn_shown]
  refine Go.ownS [] (by try simp only [e_var, e_pk, e_cst, e_glo, e_bin, e_neg, e_not, e_cmp, e_chn, e_boo, e_ite, e_tup, e_lst, e_ix, e_slc, e_rev, e_call, e_blt, e_isi, e_comp, a_nil, a_cons, b_one, b_cons, t_nil, t_one, s_skip, s_seq, s_asg, s_own, s_frz, s_set, s_app, s_ext, s_expr, s_ret, s_ite, s_loop, M.pure_bind, M.lift_some, M.calm_pure, M.bind_assoc, asBl, List.getElem?_cons_zero, List.getElem?_cons_succ, List.set_cons_zero, List.set_cons_succ, Option.map_some, put, putAll, if_true, if_false, Bool.false_eq_true, Bool.true_eq_false, Bool.not_true, Bool.not_false, Cn.d, partD, List.map_cons, List.map_nil, Ev.wipe, o_add, o_sub, o_mull, o_mulr, o_mod, o_div, o_addt, o_addl, o_lt, o_le, o_gt, o_ge, eq_int, ne_int, u_lenl, u_lent, u_lens, u_max, u_min, u_abs, u_tupl, u_tupt, i_int, i_bool, i_tup, i_rng1, i_lst, i_tupl, len_pic, len_row]) ?_; simp only [List.set_cons_succ, List.set_cons_zero]
  refine Go.forS (ds := [filmD R C fl]) (by try simp only [e_var, e_pk, e_cst, e_glo, e_bin, e_neg, e_not, e_cmp, e_chn, e_boo, e_ite, e_tup, e_lst, e_ix, e_slc, e_rev, e_call, e_blt, e_isi, e_comp, a_nil, a_cons, b_one, b_cons, t_nil, t_one, s_skip, s_seq, s_asg, s_own, s_frz, s_set, s_app, s_ext, s_expr, s_ret, s_ite, s_loop, M.pure_bind, M.lift_some, M.calm_pure, M.bind_assoc, asBl, List.getElem?_cons_zero, List.getElem?_cons_succ, List.set_cons_zero, List.set_cons_succ, Option.map_some, put, putAll, if_true, if_false, Bool.false_eq_true, Bool.true_eq_false, Bool.not_true, Bool.not_false, Cn.d, partD, List.map_cons, List.map_nil, Ev.wipe, o_add, o_sub, o_mull, o_mulr, o_mod, o_div, o_addt, o_addl, o_lt, o_le, o_gt, o_ge, eq_int, ne_int, u_lenl, u_lent, u_lens, u_max, u_min, u_abs, u_tupl, u_tupt, i_int, i_bool, i_tup, i_rng1, i_lst, i_tupl, len_pic, len_row]) i_film (fun i ρ => ∃ v2 v3, ρ = [.val (filmD R C fl), .own ((fmV (fl.take i)).map (pic R C)), v2, v3]) ⟨_, _, rfl⟩ ?_ ?_
  · rintro i x ρ hx ⟨v2, v3, rfl⟩
    rw [List.getElem?_map, Option.map_eq_some_iff] at hx
    obtain ⟨x, hx, rfl⟩ := hx
    have hm := List.mem_of_getElem? hx
    have k3 : x.2 ≤ 1000 := by have := (p.ok x hm).2.2; omega
    refine ⟨_, rfl, ?_⟩
    simp only [List.set_cons_succ, List.set_cons_zero]
    refine Go.extS ((List.range x.2).map fun _ => pic R C x.1) rfl (by try simp only [e_var, e_pk, e_cst, e_glo, e_bin, e_neg, e_not, e_cmp, e_chn, e_boo, e_ite, e_tup, e_lst, e_ix, e_slc, e_rev, e_call, e_blt, e_isi, e_comp, a_nil, a_cons, b_one, b_cons, t_nil, t_one, s_skip, s_seq, s_asg, s_own, s_frz, s_set, s_app, s_ext, s_expr, s_ret, s_ite, s_loop, M.pure_bind, M.lift_some, M.calm_pure, M.bind_assoc, asBl, List.getElem?_cons_zero, List.getElem?_cons_succ, List.set_cons_zero, List.set_cons_succ, Option.map_some, put, putAll, if_true, if_false, Bool.false_eq_true, Bool.true_eq_false, Bool.not_true, Bool.not_false, Cn.d, partD, List.map_cons, List.map_nil, Ev.wipe, o_add, o_sub, o_mull, o_mulr, o_mod, o_div, o_addt, o_addl, o_lt, o_le, o_gt, o_ge, eq_int, ne_int, u_lenl, u_lent, u_lens, u_max, u_min, u_abs, u_tupl, u_tupt, i_int, i_bool, i_tup, i_rng1, i_lst, i_tupl, len_pic, len_row, o_mulL k3]) ?_ ?_
    · have h1 := fmV_len (fl := fl.take i) fun y hy => (p.ok y (List.mem_of_mem_take hy)).2.2
      have h2 := p.le
      have h3 := (p.ok x hm).2.2
      simp only [List.length_map, List.length_range]
      have : (fl.take i).length ≤ fl.length := by simp; omega
      omega
    · simp only [List.set_cons_succ, List.set_cons_zero]
      have e : (fmV (fl.take (i + 1))).map (pic R C) = (fmV (fl.take i)).map (pic R C) ++ (List.range x.2).map fun _ => pic R C x.1 := by
        have : fl.take (i + 1) = fl.take i ++ [x] := by rw [List.take_add_one, hx]; rfl
        rw [this, fmV_snoc, List.map_append]
        congr 1
        apply List.ext_getElem
        · simp
        · intro j h1 h2; simp
      exact Go.skipS ⟨rfl, by rw [e]; exact ⟨_, _, rfl⟩⟩
  · rintro ρ ⟨v2, v3, rfl⟩
    rw [List.take_of_length_le (by simp)]
    refine Go.frzS rfl ?_; simp only [List.set_cons_succ, List.set_cons_zero]
    exact Go.retS (.lst ((fmV fl).map (pic R C))) (by try simp only [e_var, e_pk, e_cst, e_glo, e_bin, e_neg, e_not, e_cmp, e_chn, e_boo, e_ite, e_tup, e_lst, e_ix, e_slc, e_rev, e_call, e_blt, e_isi, e_comp, a_nil, a_cons, b_one, b_cons, t_nil, t_one, s_skip, s_seq, s_asg, s_own, s_frz, s_set, s_app, s_ext, s_expr, s_ret, s_ite, s_loop, M.pure_bind, M.lift_some, M.calm_pure, M.bind_assoc, asBl, List.getElem?_cons_zero, List.getElem?_cons_succ, List.set_cons_zero, List.set_cons_succ, Option.map_some, put, putAll, if_true, if_false, Bool.false_eq_true, Bool.true_eq_false, Bool.not_true, Bool.not_false, Cn.d, partD, List.map_cons, List.map_nil, Ev.wipe, o_add, o_sub, o_mull, o_mulr, o_mod, o_div, o_addt, o_addl, o_lt, o_le, o_gt, o_ge, eq_int, ne_int, u_lenl, u_lent, u_lens, u_max, u_min, u_abs, u_tupl, u_tupt, i_int, i_bool, i_tup, i_rng1, i_lst, i_tupl, len_pic, len_row]) rfl
end Ev.Vw

end
section
set_option maxRecDepth 100000
set_option maxHeartbeats 4000000
namespace Ev.Vw
open PySem Ev
def S_round_of (Φ : Fns) : Prop := ∀ (R C : Nat) (fl : List Shot), Fm R C fl → Φ "round_of" [filmD R C fl] = M.pure (.int ((fmV fl).length * 4 * R : Nat))
theorem sp_round_of {Φ : Fns} (h1 : S_need_film Φ) (h2 : S_shown Φ) (R C : Nat) (fl : List Shot) (p : Fm R C fl) : runFn Φ fn_round_of [filmD R C fl] = M.pure (.int ((fmV fl).length * 4 * R : Nat)) := by
  obtain ⟨x0, r, hx⟩ := p.head
  have l := p.len
  have e1 := h1 R C fl p
  have e2 := h2 R C fl p
  refine run_go [.val (filmD R C fl)] ?_
  simp only [fn_round_of]
  refine Go.exprS .non (by try simp only [e_var, e_pk, e_cst, e_glo, e_bin, e_neg, e_not, e_cmp, e_chn, e_boo, e_ite, e_tup, e_lst, e_ix, e_slc, e_rev, e_call, e_blt, e_isi, e_comp, a_nil, a_cons, b_one, b_cons, t_nil, t_one, s_skip, s_seq, s_asg, s_own, s_frz, s_set, s_app, s_ext, s_expr, s_ret, s_ite, s_loop, M.pure_bind, M.lift_some, M.calm_pure, M.bind_assoc, asBl, List.getElem?_cons_zero, List.getElem?_cons_succ, List.set_cons_zero, List.set_cons_succ, Option.map_some, put, putAll, if_true, if_false, Bool.false_eq_true, Bool.true_eq_false, Bool.not_true, Bool.not_false, Cn.d, partD, List.map_cons, List.map_nil, Ev.wipe, o_add, o_sub, o_mull, o_mulr, o_mod, o_div, o_addt, o_addl, o_lt, o_le, o_gt, o_ge, eq_int, ne_int, u_lenl, u_lent, u_lens, u_max, u_min, u_abs, u_tupl, u_tupt, i_int, i_bool, i_tup, i_rng1, i_lst, i_tupl, len_pic, len_row, e1]) ?_
  refine Go.retS _ ?_ rfl
  have s1 : smallI (((fmV fl).length : Nat) * 4 : Int) = true := small_of (by omega) (by omega)
  have ix : ixD (filmD R C fl) (.int 0) = some (shotD R C x0) := by rw [hx]; exact ix_film0
  try simp only [e_var, e_pk, e_cst, e_glo, e_bin, e_neg, e_not, e_cmp, e_chn, e_boo, e_ite, e_tup, e_lst, e_ix, e_slc, e_rev, e_call, e_blt, e_isi, e_comp, a_nil, a_cons, b_one, b_cons, t_nil, t_one, s_skip, s_seq, s_asg, s_own, s_frz, s_set, s_app, s_ext, s_expr, s_ret, s_ite, s_loop, M.pure_bind, M.lift_some, M.calm_pure, M.bind_assoc, asBl, List.getElem?_cons_zero, List.getElem?_cons_succ, List.set_cons_zero, List.set_cons_succ, Option.map_some, put, putAll, if_true, if_false, Bool.false_eq_true, Bool.true_eq_false, Bool.not_true, Bool.not_false, Cn.d, partD, List.map_cons, List.map_nil, Ev.wipe, o_add, o_sub, o_mull, o_mulr, o_mod, o_div, o_addt, o_addl, o_lt, o_le, o_gt, o_ge, eq_int, ne_int, u_lenl, u_lent, u_lens, u_max, u_min, u_abs, u_tupl, u_tupt, i_int, i_bool, i_tup, i_rng1, i_lst, i_tupl, len_pic, len_row, e2, List.length_map, sm4, s1, ix, ix_shot0]
  congr 2
def S_need_tick (Φ : Fns) : Prop := ∀ t : Nat, t ≤ 9999 → Φ "need_tick" [.int t] = M.pure .non
theorem sp_need_tick {Φ : Fns} (h : S_is_number Φ) (t : Nat) (ht : t ≤ 9999) : runFn Φ fn_need_tick [.int t] = M.pure .non := by
  have e := h t 0 9999
  rw [decide_eq_true (show (0 : Int) ≤ (t : Nat) by omega), decide_eq_true (show ((t : Nat) : Int) ≤ 9999 by omega)] at e
  refine run_go_nx [.val (.int t)] ?_
  simp only [fn_need_tick]
  exact Go.if0 (by try simp only [e_var, e_pk, e_cst, e_glo, e_bin, e_neg, e_not, e_cmp, e_chn, e_boo, e_ite, e_tup, e_lst, e_ix, e_slc, e_rev, e_call, e_blt, e_isi, e_comp, a_nil, a_cons, b_one, b_cons, t_nil, t_one, s_skip, s_seq, s_asg, s_own, s_frz, s_set, s_app, s_ext, s_expr, s_ret, s_ite, s_loop, M.pure_bind, M.lift_some, M.calm_pure, M.bind_assoc, asBl, List.getElem?_cons_zero, List.getElem?_cons_succ, List.set_cons_zero, List.set_cons_succ, Option.map_some, put, putAll, if_true, if_false, Bool.false_eq_true, Bool.true_eq_false, Bool.not_true, Bool.not_false, Cn.d, partD, List.map_cons, List.map_nil, Ev.wipe, o_add, o_sub, o_mull, o_mulr, o_mod, o_div, o_addt, o_addl, o_lt, o_le, o_gt, o_ge, eq_int, ne_int, u_lenl, u_lent, u_lens, u_max, u_min, u_abs, u_tupl, u_tupt, i_int, i_bool, i_tup, i_rng1, i_lst, i_tupl, len_pic, len_row, e, Bool.and_self]) (Go.skipS rfl)
def frm (fl : List Shot) (k : Nat) : Nat → Nat → Int := (fmV fl)[k]?.getD fun _ _ => 0
/-- the picture at a tick -/
def pcAt (R : Nat) (fl : List Shot) (t : Nat) : Nat → Nat → Int := frm fl (t / (4 * R) % (fmV fl).length)
theorem frm_mem {fl : List Shot} {k : Nat} (h : k < (fmV fl).length) : frm fl k ∈ fmV fl := by
  unfold frm
  rw [List.getElem?_eq_getElem h]
  exact List.getElem_mem h
theorem pcAt_mem {R C : Nat} {fl : List Shot} (p : Fm R C fl) {t : Nat} : pcAt R fl t ∈ fmV fl := frm_mem (Nat.mod_lt _ p.len.1)
theorem Fm.at_ {R C : Nat} {fl : List Shot} (p : Fm R C fl) {t : Nat} : Pc R C (pcAt R fl t) := ⟨p.r1, p.r4, p.c1, p.c6, fmV_mem p _ (pcAt_mem p)⟩
def S_picture_in (Φ : Fns) : Prop := ∀ (R C : Nat) (fl : List Shot) (t : Nat), Fm R C fl → Φ "picture_in" [filmD R C fl, .int t] = M.pure (pic R C (pcAt R fl t))
theorem sp_picture_in {Φ : Fns} (h2 : S_shown Φ) (R C : Nat) (fl : List Shot) (t : Nat) (p : Fm R C fl) : runFn Φ fn_picture_in [filmD R C fl, .int t] = M.pure (pic R C (pcAt R fl t)) := by
  obtain ⟨x0, r, hx⟩ := p.head
  have l := p.len
  have r1 := p.r1
  have r4 := p.r4
  have e2 := h2 R C fl p
  have ix : ixD (filmD R C fl) (.int 0) = some (shotD R C x0) := by rw [hx]; exact ix_film0
  refine run_go [.val (filmD R C fl), .val (.int t), .emp] ?_
  simp only [fn_picture_in]
  refine Go.asgS (.lst ((fmV fl).map (pic R C))) (by try simp only [e_var, e_pk, e_cst, e_glo, e_bin, e_neg, e_not, e_cmp, e_chn, e_boo, e_ite, e_tup, e_lst, e_ix, e_slc, e_rev, e_call, e_blt, e_isi, e_comp, a_nil, a_cons, b_one, b_cons, t_nil, t_one, s_skip, s_seq, s_asg, s_own, s_frz, s_set, s_app, s_ext, s_expr, s_ret, s_ite, s_loop, M.pure_bind, M.lift_some, M.calm_pure, M.bind_assoc, asBl, List.getElem?_cons_zero, List.getElem?_cons_succ, List.set_cons_zero, List.set_cons_succ, Option.map_some, put, putAll, if_true, if_false, Bool.false_eq_true, Bool.true_eq_false, Bool.not_true, Bool.not_false, Cn.d, partD, List.map_cons, List.map_nil, Ev.wipe, o_add, o_sub, o_mull, o_mulr, o_mod, o_div, o_addt, o_addl, o_lt, o_le, o_gt, o_ge, eq_int, ne_int, u_lenl, u_lent, u_lens, u_max, u_min, u_abs, u_tupl, u_tupt, i_int, i_bool, i_tup, i_rng1, i_lst, i_tupl, len_pic, len_row, e2]) rfl ?_; simp only [List.set_cons_succ, List.set_cons_zero]
  refine Go.retS (pic R C (pcAt R fl t)) ?_ rfl
  have c1 : (0 : Int) < 4 * (R : Int) := by omega
  have c2 : (4 * (R : Int)) < 1073741824 := by omega
  have c3 : (0 : Int) < ((fmV fl).length : Nat) := by omega
  have q : ((t : Int) / (4 * (R : Int)) % ((fmV fl).length : Nat)) = ((t / (4 * R) % (fmV fl).length : Nat) : Int) := by
    rw [Int.natCast_emod, Int.natCast_ediv, Int.natCast_mul]
    rfl
  have lt : t / (4 * R) % (fmV fl).length < ((fmV fl).map (pic R C)).length := by rw [List.length_map]; exact Nat.mod_lt _ (by omega)
  have ixk : ixD (.lst ((fmV fl).map (pic R C))) (.int ((t / (4 * R) % (fmV fl).length : Nat) : Int)) = some (pic R C (pcAt R fl t)) := by
    simp only [ixD]
    rw [ixN_nat lt]
    simp only [Option.bind_some, List.getElem?_map]
    have lt' : t / (4 * R) % (fmV fl).length < (fmV fl).length := by simpa using lt
    rw [List.getElem?_eq_getElem lt']
    unfold pcAt frm
    rw [List.getElem?_eq_getElem lt']
    rfl
  try simp only [e_var, e_pk, e_cst, e_glo, e_bin, e_neg, e_not, e_cmp, e_chn, e_boo, e_ite, e_tup, e_lst, e_ix, e_slc, e_rev, e_call, e_blt, e_isi, e_comp, a_nil, a_cons, b_one, b_cons, t_nil, t_one, s_skip, s_seq, s_asg, s_own, s_frz, s_set, s_app, s_ext, s_expr, s_ret, s_ite, s_loop, M.pure_bind, M.lift_some, M.calm_pure, M.bind_assoc, asBl, List.getElem?_cons_zero, List.getElem?_cons_succ, List.set_cons_zero, List.set_cons_succ, Option.map_some, put, putAll, if_true, if_false, Bool.false_eq_true, Bool.true_eq_false, Bool.not_true, Bool.not_false, Cn.d, partD, List.map_cons, List.map_nil, Ev.wipe, o_add, o_sub, o_mull, o_mulr, o_mod, o_div, o_addt, o_addl, o_lt, o_le, o_gt, o_ge, eq_int, ne_int, u_lenl, u_lent, u_lens, u_max, u_min, u_abs, u_tupl, u_tupt, i_int, i_bool, i_tup, i_rng1, i_lst, i_tupl, len_pic, len_row, sm4, ix, ix_shot0, c1, c2, List.length_map, c3, q, ixk]
def S_picture_at (Φ : Fns) : Prop := ∀ (R C : Nat) (fl : List Shot) (t : Nat), Fm R C fl → t ≤ 9999 → Φ "picture_at" [filmD R C fl, .int t] = M.pure (pic R C (pcAt R fl t))
theorem sp_picture_at {Φ : Fns} (h1 : S_need_film Φ) (h2 : S_need_tick Φ) (h3 : S_picture_in Φ) (R C : Nat) (fl : List Shot) (t : Nat) (p : Fm R C fl) (ht : t ≤ 9999) : runFn Φ fn_picture_at [filmD R C fl, .int t] = M.pure (pic R C (pcAt R fl t)) := by
  refine run_go [.val (filmD R C fl), .val (.int t)] ?_
  simp only [fn_picture_at]
  refine Go.exprS .non (by try simp only [e_var, e_pk, e_cst, e_glo, e_bin, e_neg, e_not, e_cmp, e_chn, e_boo, e_ite, e_tup, e_lst, e_ix, e_slc, e_rev, e_call, e_blt, e_isi, e_comp, a_nil, a_cons, b_one, b_cons, t_nil, t_one, s_skip, s_seq, s_asg, s_own, s_frz, s_set, s_app, s_ext, s_expr, s_ret, s_ite, s_loop, M.pure_bind, M.lift_some, M.calm_pure, M.bind_assoc, asBl, List.getElem?_cons_zero, List.getElem?_cons_succ, List.set_cons_zero, List.set_cons_succ, Option.map_some, put, putAll, if_true, if_false, Bool.false_eq_true, Bool.true_eq_false, Bool.not_true, Bool.not_false, Cn.d, partD, List.map_cons, List.map_nil, Ev.wipe, o_add, o_sub, o_mull, o_mulr, o_mod, o_div, o_addt, o_addl, o_lt, o_le, o_gt, o_ge, eq_int, ne_int, u_lenl, u_lent, u_lens, u_max, u_min, u_abs, u_tupl, u_tupt, i_int, i_bool, i_tup, i_rng1, i_lst, i_tupl, len_pic, len_row, h1 R C fl p]) ?_
  refine Go.exprS .non (by try simp only [e_var, e_pk, e_cst, e_glo, e_bin, e_neg, e_not, e_cmp, e_chn, e_boo, e_ite, e_tup, e_lst, e_ix, e_slc, e_rev, e_call, e_blt, e_isi, e_comp, a_nil, a_cons, b_one, b_cons, t_nil, t_one, s_skip, s_seq, s_asg, s_own, s_frz, s_set, s_app, s_ext, s_expr, s_ret, s_ite, s_loop, M.pure_bind, M.lift_some, M.calm_pure, M.bind_assoc, asBl, List.getElem?_cons_zero, List.getElem?_cons_succ, List.set_cons_zero, List.set_cons_succ, Option.map_some, put, putAll, if_true, if_false, Bool.false_eq_true, Bool.true_eq_false, Bool.not_true, Bool.not_false, Cn.d, partD, List.map_cons, List.map_nil, Ev.wipe, o_add, o_sub, o_mull, o_mulr, o_mod, o_div, o_addt, o_addl, o_lt, o_le, o_gt, o_ge, eq_int, ne_int, u_lenl, u_lent, u_lens, u_max, u_min, u_abs, u_tupl, u_tupt, i_int, i_bool, i_tup, i_rng1, i_lst, i_tupl, len_pic, len_row, h2 t ht]) ?_
  exact Go.retS (pic R C (pcAt R fl t)) (by try simp only [e_var, e_pk, e_cst, e_glo, e_bin, e_neg, e_not, e_cmp, e_chn, e_boo, e_ite, e_tup, e_lst, e_ix, e_slc, e_rev, e_call, e_blt, e_isi, e_comp, a_nil, a_cons, b_one, b_cons, t_nil, t_one, s_skip, s_seq, s_asg, s_own, s_frz, s_set, s_app, s_ext, s_expr, s_ret, s_ite, s_loop, M.pure_bind, M.lift_some, M.calm_pure, M.bind_assoc, asBl, List.getElem?_cons_zero, List.getElem?_cons_succ, List.set_cons_zero, List.set_cons_succ, Option.map_some, put, putAll, if_true, if_false, Bool.false_eq_true, Bool.true_eq_false, Bool.not_true, Bool.not_false, Cn.d, partD, List.map_cons, List.map_nil, Ev.wipe, o_add, o_sub, o_mull, o_mulr, o_mod, o_div, o_addt, o_addl, o_lt, o_le, o_gt, o_ge, eq_int, ne_int, u_lenl, u_lent, u_lens, u_max, u_min, u_abs, u_tupl, u_tupt, i_int, i_bool, i_tup, i_rng1, i_lst, i_tupl, len_pic, len_row, h3 R C fl t p]) rfl
/-! ### manners -/
inductive Mn where | first | last | spread
def Mn.s : Mn → Str
  | .first => "first"
  | .last => "last"
  | .spread => "spread"
def litB : Mn → Int → Int → Bool
  | .first, s, u => decide (u < s)
  | .last, s, u => decide (4 - s ≤ u)
  | .spread, s, u => decide (u * s / 4 < (u + 1) * s / 4)
theorem eqm {a b : Mn} : cop .eq (.str a.s) (.str b.s) = some (match a, b with | .first, .first => true | .last, .last => true | .spread, .spread => true | _, _ => false) := by
  cases a <;> cases b <;> decide +kernel
theorem nin_mn {a : Mn} : cop .nin (.str a.s) (.tup [.str "first", .str "last", .str "spread"]) = some false := by
  cases a <;> decide +kernel
def S_need_manner (Φ : Fns) : Prop := ∀ m : Mn, Φ "need_manner" [.str m.s] = M.pure .non
theorem sp_need_manner {Φ : Fns} (m : Mn) : runFn Φ fn_need_manner [.str m.s] = M.pure .non := by
  refine run_go_nx [.val (.str m.s)] ?_
  simp only [fn_need_manner]
  exact Go.if0 (by try simp only [e_var, e_pk, e_cst, e_glo, e_bin, e_neg, e_not, e_cmp, e_chn, e_boo, e_ite, e_tup, e_lst, e_ix, e_slc, e_rev, e_call, e_blt, e_isi, e_comp, a_nil, a_cons, b_one, b_cons, t_nil, t_one, s_skip, s_seq, s_asg, s_own, s_frz, s_set, s_app, s_ext, s_expr, s_ret, s_ite, s_loop, M.pure_bind, M.lift_some, M.calm_pure, M.bind_assoc, asBl, List.getElem?_cons_zero, List.getElem?_cons_succ, List.set_cons_zero, List.set_cons_succ, Option.map_some, put, putAll, if_true, if_false, Bool.false_eq_true, Bool.true_eq_false, Bool.not_true, Bool.not_false, Cn.d, partD, List.map_cons, List.map_nil, Ev.wipe, o_add, o_sub, o_mull, o_mulr, o_mod, o_div, o_addt, o_addl, o_lt, o_le, o_gt, o_ge, eq_int, ne_int, u_lenl, u_lent, u_lens, u_max, u_min, u_abs, u_tupl, u_tupt, i_int, i_bool, i_tup, i_rng1, i_lst, i_tupl, len_pic, len_row, i_str, nin_mn]) (Go.skipS rfl)
def S_is_lit (Φ : Fns) : Prop := ∀ (m : Mn) (s u : Int), 0 ≤ s → s ≤ 4 → 0 ≤ u → u ≤ 100000 → Φ "is_lit" [.str m.s, .int s, .int u] = M.pure (.bl (litB m s u))
theorem sp_is_lit {Φ : Fns} (m : Mn) (s u : Int) (s0 : 0 ≤ s) (s4 : s ≤ 4) (u0 : 0 ≤ u) (u1 : u ≤ 100000) : runFn Φ fn_is_lit [.str m.s, .int s, .int u] = M.pure (.bl (litB m s u)) := by
  have e1 : cop .eq (.str m.s) (.str "first") = _ := @eqm m .first
  have e2 : cop .eq (.str m.s) (.str "last") = _ := @eqm m .last
  refine run_go [.val (.str m.s), .val (.int s), .val (.int u)] ?_
  simp only [fn_is_lit]
  cases m with
  | first =>
    refine Go.if1 (by try simp only [e_var, e_pk, e_cst, e_glo, e_bin, e_neg, e_not, e_cmp, e_chn, e_boo, e_ite, e_tup, e_lst, e_ix, e_slc, e_rev, e_call, e_blt, e_isi, e_comp, a_nil, a_cons, b_one, b_cons, t_nil, t_one, s_skip, s_seq, s_asg, s_own, s_frz, s_set, s_app, s_ext, s_expr, s_ret, s_ite, s_loop, M.pure_bind, M.lift_some, M.calm_pure, M.bind_assoc, asBl, List.getElem?_cons_zero, List.getElem?_cons_succ, List.set_cons_zero, List.set_cons_succ, Option.map_some, put, putAll, if_true, if_false, Bool.false_eq_true, Bool.true_eq_false, Bool.not_true, Bool.not_false, Cn.d, partD, List.map_cons, List.map_nil, Ev.wipe, o_add, o_sub, o_mull, o_mulr, o_mod, o_div, o_addt, o_addl, o_lt, o_le, o_gt, o_ge, eq_int, ne_int, u_lenl, u_lent, u_lens, u_max, u_min, u_abs, u_tupl, u_tupt, i_int, i_bool, i_tup, i_rng1, i_lst, i_tupl, len_pic, len_row, e1]) ?_
    exact Go.assoc (Go.retS (.bl (litB .first s u)) (by try simp only [e_var, e_pk, e_cst, e_glo, e_bin, e_neg, e_not, e_cmp, e_chn, e_boo, e_ite, e_tup, e_lst, e_ix, e_slc, e_rev, e_call, e_blt, e_isi, e_comp, a_nil, a_cons, b_one, b_cons, t_nil, t_one, s_skip, s_seq, s_asg, s_own, s_frz, s_set, s_app, s_ext, s_expr, s_ret, s_ite, s_loop, M.pure_bind, M.lift_some, M.calm_pure, M.bind_assoc, asBl, List.getElem?_cons_zero, List.getElem?_cons_succ, List.set_cons_zero, List.set_cons_succ, Option.map_some, put, putAll, if_true, if_false, Bool.false_eq_true, Bool.true_eq_false, Bool.not_true, Bool.not_false, Cn.d, partD, List.map_cons, List.map_nil, Ev.wipe, o_add, o_sub, o_mull, o_mulr, o_mod, o_div, o_addt, o_addl, o_lt, o_le, o_gt, o_ge, eq_int, ne_int, u_lenl, u_lent, u_lens, u_max, u_min, u_abs, u_tupl, u_tupt, i_int, i_bool, i_tup, i_rng1, i_lst, i_tupl, len_pic, len_row]; exact rfl) rfl)
  | last =>
    refine Go.if0 (by try simp only [e_var, e_pk, e_cst, e_glo, e_bin, e_neg, e_not, e_cmp, e_chn, e_boo, e_ite, e_tup, e_lst, e_ix, e_slc, e_rev, e_call, e_blt, e_isi, e_comp, a_nil, a_cons, b_one, b_cons, t_nil, t_one, s_skip, s_seq, s_asg, s_own, s_frz, s_set, s_app, s_ext, s_expr, s_ret, s_ite, s_loop, M.pure_bind, M.lift_some, M.calm_pure, M.bind_assoc, asBl, List.getElem?_cons_zero, List.getElem?_cons_succ, List.set_cons_zero, List.set_cons_succ, Option.map_some, put, putAll, if_true, if_false, Bool.false_eq_true, Bool.true_eq_false, Bool.not_true, Bool.not_false, Cn.d, partD, List.map_cons, List.map_nil, Ev.wipe, o_add, o_sub, o_mull, o_mulr, o_mod, o_div, o_addt, o_addl, o_lt, o_le, o_gt, o_ge, eq_int, ne_int, u_lenl, u_lent, u_lens, u_max, u_min, u_abs, u_tupl, u_tupt, i_int, i_bool, i_tup, i_rng1, i_lst, i_tupl, len_pic, len_row, e1]) (Go.if1 (by try simp only [e_var, e_pk, e_cst, e_glo, e_bin, e_neg, e_not, e_cmp, e_chn, e_boo, e_ite, e_tup, e_lst, e_ix, e_slc, e_rev, e_call, e_blt, e_isi, e_comp, a_nil, a_cons, b_one, b_cons, t_nil, t_one, s_skip, s_seq, s_asg, s_own, s_frz, s_set, s_app, s_ext, s_expr, s_ret, s_ite, s_loop, M.pure_bind, M.lift_some, M.calm_pure, M.bind_assoc, asBl, List.getElem?_cons_zero, List.getElem?_cons_succ, List.set_cons_zero, List.set_cons_succ, Option.map_some, put, putAll, if_true, if_false, Bool.false_eq_true, Bool.true_eq_false, Bool.not_true, Bool.not_false, Cn.d, partD, List.map_cons, List.map_nil, Ev.wipe, o_add, o_sub, o_mull, o_mulr, o_mod, o_div, o_addt, o_addl, o_lt, o_le, o_gt, o_ge, eq_int, ne_int, u_lenl, u_lent, u_lens, u_max, u_min, u_abs, u_tupl, u_tupt, i_int, i_bool, i_tup, i_rng1, i_lst, i_tupl, len_pic, len_row, e2]) ?_)
    exact Go.assoc (Go.retS (.bl (litB .last s u)) (by try simp only [e_var, e_pk, e_cst, e_glo, e_bin, e_neg, e_not, e_cmp, e_chn, e_boo, e_ite, e_tup, e_lst, e_ix, e_slc, e_rev, e_call, e_blt, e_isi, e_comp, a_nil, a_cons, b_one, b_cons, t_nil, t_one, s_skip, s_seq, s_asg, s_own, s_frz, s_set, s_app, s_ext, s_expr, s_ret, s_ite, s_loop, M.pure_bind, M.lift_some, M.calm_pure, M.bind_assoc, asBl, List.getElem?_cons_zero, List.getElem?_cons_succ, List.set_cons_zero, List.set_cons_succ, Option.map_some, put, putAll, if_true, if_false, Bool.false_eq_true, Bool.true_eq_false, Bool.not_true, Bool.not_false, Cn.d, partD, List.map_cons, List.map_nil, Ev.wipe, o_add, o_sub, o_mull, o_mulr, o_mod, o_div, o_addt, o_addl, o_lt, o_le, o_gt, o_ge, eq_int, ne_int, u_lenl, u_lent, u_lens, u_max, u_min, u_abs, u_tupl, u_tupt, i_int, i_bool, i_tup, i_rng1, i_lst, i_tupl, len_pic, len_row]; exact rfl) rfl)
  | spread =>
    have k1 : smallI u = true := small_of (by omega) (by omega)
    have k2 : smallI (u + 1) = true := small_of (by omega) (by omega)
    have k3 : (0 : Int) < 4 := by decide
    have k4 : (4 : Int) < 1073741824 := by decide
    refine Go.if0 (by try simp only [e_var, e_pk, e_cst, e_glo, e_bin, e_neg, e_not, e_cmp, e_chn, e_boo, e_ite, e_tup, e_lst, e_ix, e_slc, e_rev, e_call, e_blt, e_isi, e_comp, a_nil, a_cons, b_one, b_cons, t_nil, t_one, s_skip, s_seq, s_asg, s_own, s_frz, s_set, s_app, s_ext, s_expr, s_ret, s_ite, s_loop, M.pure_bind, M.lift_some, M.calm_pure, M.bind_assoc, asBl, List.getElem?_cons_zero, List.getElem?_cons_succ, List.set_cons_zero, List.set_cons_succ, Option.map_some, put, putAll, if_true, if_false, Bool.false_eq_true, Bool.true_eq_false, Bool.not_true, Bool.not_false, Cn.d, partD, List.map_cons, List.map_nil, Ev.wipe, o_add, o_sub, o_mull, o_mulr, o_mod, o_div, o_addt, o_addl, o_lt, o_le, o_gt, o_ge, eq_int, ne_int, u_lenl, u_lent, u_lens, u_max, u_min, u_abs, u_tupl, u_tupt, i_int, i_bool, i_tup, i_rng1, i_lst, i_tupl, len_pic, len_row, e1]) (Go.if0 (by try simp only [e_var, e_pk, e_cst, e_glo, e_bin, e_neg, e_not, e_cmp, e_chn, e_boo, e_ite, e_tup, e_lst, e_ix, e_slc, e_rev, e_call, e_blt, e_isi, e_comp, a_nil, a_cons, b_one, b_cons, t_nil, t_one, s_skip, s_seq, s_asg, s_own, s_frz, s_set, s_app, s_ext, s_expr, s_ret, s_ite, s_loop, M.pure_bind, M.lift_some, M.calm_pure, M.bind_assoc, asBl, List.getElem?_cons_zero, List.getElem?_cons_succ, List.set_cons_zero, List.set_cons_succ, Option.map_some, put, putAll, if_true, if_false, Bool.false_eq_true, Bool.true_eq_false, Bool.not_true, Bool.not_false, Cn.d, partD, List.map_cons, List.map_nil, Ev.wipe, o_add, o_sub, o_mull, o_mulr, o_mod, o_div, o_addt, o_addl, o_lt, o_le, o_gt, o_ge, eq_int, ne_int, u_lenl, u_lent, u_lens, u_max, u_min, u_abs, u_tupl, u_tupt, i_int, i_bool, i_tup, i_rng1, i_lst, i_tupl, len_pic, len_row, e2]) ?_)
    exact Go.retS (.bl (litB .spread s u)) (by try simp only [e_var, e_pk, e_cst, e_glo, e_bin, e_neg, e_not, e_cmp, e_chn, e_boo, e_ite, e_tup, e_lst, e_ix, e_slc, e_rev, e_call, e_blt, e_isi, e_comp, a_nil, a_cons, b_one, b_cons, t_nil, t_one, s_skip, s_seq, s_asg, s_own, s_frz, s_set, s_app, s_ext, s_expr, s_ret, s_ite, s_loop, M.pure_bind, M.lift_some, M.calm_pure, M.bind_assoc, asBl, List.getElem?_cons_zero, List.getElem?_cons_succ, List.set_cons_zero, List.set_cons_succ, Option.map_some, put, putAll, if_true, if_false, Bool.false_eq_true, Bool.true_eq_false, Bool.not_true, Bool.not_false, Cn.d, partD, List.map_cons, List.map_nil, Ev.wipe, o_add, o_sub, o_mull, o_mulr, o_mod, o_div, o_addt, o_addl, o_lt, o_le, o_gt, o_ge, eq_int, ne_int, u_lenl, u_lent, u_lens, u_max, u_min, u_abs, u_tupl, u_tupt, i_int, i_bool, i_tup, i_rng1, i_lst, i_tupl, len_pic, len_row, k1, k2, k3, k4]; exact rfl) rfl
/-- the places of a row that are lit -/
def litL (C : Nat) (m : Mn) (g : Nat → Int) (u : Nat) : List Nat := (List.range C).filter fun c => litB m (g c) u
def litD (C : Nat) (m : Mn) (g : Nat → Int) (u : Nat) : D := .lst ((litL C m g u).map fun c => .int (c : Nat))
def S_lit_in (Φ : Fns) : Prop := ∀ (m : Mn) (R C : Nat) (f : Nat → Nat → Int) (t : Nat), Pc R C f → t ≤ 9999 → Φ "lit_in" [.str m.s, pic R C f, .int t] = M.pure (.tup [.int (t % R : Nat), litD C m (f (t % R)) (t / R)])
theorem sp_lit_in {Φ : Fns} (h : S_is_lit Φ) (m : Mn) (R C : Nat) (f : Nat → Nat → Int) (t : Nat) (p : Pc R C f) (ht : t ≤ 9999) : runFn Φ fn_lit_in [.str m.s, pic R C f, .int t] = M.pure (.tup [.int (t % R : Nat), litD C m (f (t % R)) (t / R)]) := by
  have r1 := p.r1
  have c1 : (0 : Int) < (R : Nat) := by omega
  have c2 : ((R : Nat) : Int) < 1073741824 := by have := p.r4; omega
  have q1 : ((t : Int) % (R : Nat)) = ((t % R : Nat) : Int) := by omega
  have q2 : ((t : Int) / (R : Nat)) = ((t / R : Nat) : Int) := by rw [Int.natCast_ediv]
  have lt : t % R < R := Nat.mod_lt _ (by omega)
  have ul : t / R ≤ t := Nat.div_le_self _ _
  refine run_go [.val (.str m.s), .val (pic R C f), .val (.int t), .emp, .emp, .emp, .emp] ?_
  simp only [fn_lit_in]
  refine Go.asgS (.int (t % R : Nat)) (by try simp only [e_var, e_pk, e_cst, e_glo, e_bin, e_neg, e_not, e_cmp, e_chn, e_boo, e_ite, e_tup, e_lst, e_ix, e_slc, e_rev, e_call, e_blt, e_isi, e_comp, a_nil, a_cons, b_one, b_cons, t_nil, t_one, s_skip, s_seq, s_asg, s_own, s_frz, s_set, s_app, s_ext, s_expr, s_ret, s_ite, s_loop, M.pure_bind, M.lift_some, M.calm_pure, M.bind_assoc, asBl, List.getElem?_cons_zero, List.getElem?_cons_succ, List.set_cons_zero, List.set_cons_succ, Option.map_some, put, putAll, if_true, if_false, Bool.false_eq_true, Bool.true_eq_false, Bool.not_true, Bool.not_false, Cn.d, partD, List.map_cons, List.map_nil, Ev.wipe, o_add, o_sub, o_mull, o_mulr, o_mod, o_div, o_addt, o_addl, o_lt, o_le, o_gt, o_ge, eq_int, ne_int, u_lenl, u_lent, u_lens, u_max, u_min, u_abs, u_tupl, u_tupt, i_int, i_bool, i_tup, i_rng1, i_lst, i_tupl, len_pic, len_row, c1, q1]) rfl ?_; simp only [List.set_cons_succ, List.set_cons_zero]
  refine Go.asgS (.int (t / R : Nat)) (by try simp only [e_var, e_pk, e_cst, e_glo, e_bin, e_neg, e_not, e_cmp, e_chn, e_boo, e_ite, e_tup, e_lst, e_ix, e_slc, e_rev, e_call, e_blt, e_isi, e_comp, a_nil, a_cons, b_one, b_cons, t_nil, t_one, s_skip, s_seq, s_asg, s_own, s_frz, s_set, s_app, s_ext, s_expr, s_ret, s_ite, s_loop, M.pure_bind, M.lift_some, M.calm_pure, M.bind_assoc, asBl, List.getElem?_cons_zero, List.getElem?_cons_succ, List.set_cons_zero, List.set_cons_succ, Option.map_some, put, putAll, if_true, if_false, Bool.false_eq_true, Bool.true_eq_false, Bool.not_true, Bool.not_false, Cn.d, partD, List.map_cons, List.map_nil, Ev.wipe, o_add, o_sub, o_mull, o_mulr, o_mod, o_div, o_addt, o_addl, o_lt, o_le, o_gt, o_ge, eq_int, ne_int, u_lenl, u_lent, u_lens, u_max, u_min, u_abs, u_tupl, u_tupt, i_int, i_bool, i_tup, i_rng1, i_lst, i_tupl, len_pic, len_row, c1, c2, q2]) rfl ?_; simp only [List.set_cons_succ, List.set_cons_zero]
  refine Go.retS _ ?_ rfl
  rw [e_tup, a_cons, a_cons, a_nil, comp_eqF (l := List.range C) (emb := fun c => .tup [.int (c : Nat), .int (f (t % R) c)]) (ds := [rowD C (f (t % R))]) (fun c => litB m (f (t % R) c) (t / R : Nat)) (fun c => .int (c : Nat)) (by try simp only [e_var, e_pk, e_cst, e_glo, e_bin, e_neg, e_not, e_cmp, e_chn, e_boo, e_ite, e_tup, e_lst, e_ix, e_slc, e_rev, e_call, e_blt, e_isi, e_comp, a_nil, a_cons, b_one, b_cons, t_nil, t_one, s_skip, s_seq, s_asg, s_own, s_frz, s_set, s_app, s_ext, s_expr, s_ret, s_ite, s_loop, M.pure_bind, M.lift_some, M.calm_pure, M.bind_assoc, asBl, List.getElem?_cons_zero, List.getElem?_cons_succ, List.set_cons_zero, List.set_cons_succ, Option.map_some, put, putAll, if_true, if_false, Bool.false_eq_true, Bool.true_eq_false, Bool.not_true, Bool.not_false, Cn.d, partD, List.map_cons, List.map_nil, Ev.wipe, o_add, o_sub, o_mull, o_mulr, o_mod, o_div, o_addt, o_addl, o_lt, o_le, o_gt, o_ge, eq_int, ne_int, u_lenl, u_lent, u_lens, u_max, u_min, u_abs, u_tupl, u_tupt, i_int, i_bool, i_tup, i_rng1, i_lst, i_tupl, len_pic, len_row, ix_pic lt]) i_enumR (fun c hc => ?_)]
  · try simp only [e_var, e_pk, e_cst, e_glo, e_bin, e_neg, e_not, e_cmp, e_chn, e_boo, e_ite, e_tup, e_lst, e_ix, e_slc, e_rev, e_call, e_blt, e_isi, e_comp, a_nil, a_cons, b_one, b_cons, t_nil, t_one, s_skip, s_seq, s_asg, s_own, s_frz, s_set, s_app, s_ext, s_expr, s_ret, s_ite, s_loop, M.pure_bind, M.lift_some, M.calm_pure, M.bind_assoc, asBl, List.getElem?_cons_zero, List.getElem?_cons_succ, List.set_cons_zero, List.set_cons_succ, Option.map_some, put, putAll, if_true, if_false, Bool.false_eq_true, Bool.true_eq_false, Bool.not_true, Bool.not_false, Cn.d, partD, List.map_cons, List.map_nil, Ev.wipe, o_add, o_sub, o_mull, o_mulr, o_mod, o_div, o_addt, o_addl, o_lt, o_le, o_gt, o_ge, eq_int, ne_int, u_lenl, u_lent, u_lens, u_max, u_min, u_abs, u_tupl, u_tupt, i_int, i_bool, i_tup, i_rng1, i_lst, i_tupl, len_pic, len_row]
    rfl
  · have s := p.sh _ _ lt (List.mem_range.mp hc)
    have u1 : t / R ≤ 100000 := Nat.le_trans ul (by omega)
    have e := h m (f (t % R) c) (t / R : Nat) s.1 s.2 (Int.natCast_nonneg _) (Int.ofNat_le.mpr u1)
    unfold oneC
    try simp only [e_var, e_pk, e_cst, e_glo, e_bin, e_neg, e_not, e_cmp, e_chn, e_boo, e_ite, e_tup, e_lst, e_ix, e_slc, e_rev, e_call, e_blt, e_isi, e_comp, a_nil, a_cons, b_one, b_cons, t_nil, t_one, s_skip, s_seq, s_asg, s_own, s_frz, s_set, s_app, s_ext, s_expr, s_ret, s_ite, s_loop, M.pure_bind, M.lift_some, M.calm_pure, M.bind_assoc, asBl, List.getElem?_cons_zero, List.getElem?_cons_succ, List.set_cons_zero, List.set_cons_succ, Option.map_some, put, putAll, if_true, if_false, Bool.false_eq_true, Bool.true_eq_false, Bool.not_true, Bool.not_false, Cn.d, partD, List.map_cons, List.map_nil, Ev.wipe, o_add, o_sub, o_mull, o_mulr, o_mod, o_div, o_addt, o_addl, o_lt, o_le, o_gt, o_ge, eq_int, ne_int, u_lenl, u_lent, u_lens, u_max, u_min, u_abs, u_tupl, u_tupt, i_int, i_bool, i_tup, i_rng1, i_lst, i_tupl, len_pic, len_row, e]
    cases litB m (f (t % R) c) (t / R : Nat)
    · exact .pure rfl
    · try try simp only [e_var, e_pk, e_cst, e_glo, e_bin, e_neg, e_not, e_cmp, e_chn, e_boo, e_ite, e_tup, e_lst, e_ix, e_slc, e_rev, e_call, e_blt, e_isi, e_comp, a_nil, a_cons, b_one, b_cons, t_nil, t_one, s_skip, s_seq, s_asg, s_own, s_frz, s_set, s_app, s_ext, s_expr, s_ret, s_ite, s_loop, M.pure_bind, M.lift_some, M.calm_pure, M.bind_assoc, asBl, List.getElem?_cons_zero, List.getElem?_cons_succ, List.set_cons_zero, List.set_cons_succ, Option.map_some, put, putAll, if_true, if_false, Bool.false_eq_true, Bool.true_eq_false, Bool.not_true, Bool.not_false, Cn.d, partD, List.map_cons, List.map_nil, Ev.wipe, o_add, o_sub, o_mull, o_mulr, o_mod, o_div, o_addt, o_addl, o_lt, o_le, o_gt, o_ge, eq_int, ne_int, u_lenl, u_lent, u_lens, u_max, u_min, u_abs, u_tupl, u_tupt, i_int, i_bool, i_tup, i_rng1, i_lst, i_tupl, len_pic, len_row]
      exact .pure rfl
/-- what is lit at a tick: its row, its places -/
def rwAt (R t : Nat) : Nat := t % (4 * R) % R
def tuAt (R t : Nat) : Nat := t % (4 * R) / R
def S_lit_at (Φ : Fns) : Prop := ∀ (m : Mn) (R C : Nat) (fl : List Shot) (t : Nat), Fm R C fl → t ≤ 9999 → Φ "lit_at" [.str m.s, filmD R C fl, .int t] = M.pure (.tup [.int (rwAt R t : Nat), litD C m (pcAt R fl t (rwAt R t)) (tuAt R t)])
theorem sp_lit_at {Φ : Fns} (h1 : S_need_manner Φ) (h2 : S_need_film Φ) (h3 : S_need_tick Φ) (h4 : S_picture_in Φ) (h5 : S_lit_in Φ) (m : Mn) (R C : Nat) (fl : List Shot) (t : Nat) (p : Fm R C fl) (ht : t ≤ 9999) :
    runFn Φ fn_lit_at [.str m.s, filmD R C fl, .int t] = M.pure (.tup [.int (rwAt R t : Nat), litD C m (pcAt R fl t (rwAt R t)) (tuAt R t)]) := by
  have r1 := p.r1
  have c1 : (0 : Int) < 4 * (R : Int) := by omega
  have q : (t : Int) % (4 * (R : Int)) = ((t % (4 * R) : Nat) : Int) := by
    rw [Int.natCast_emod, Int.natCast_mul]
    rfl
  have l5 := h5 m R C (pcAt R fl t) (t % (4 * R)) p.at_ (by have := Nat.mod_le t (4 * R); omega)
  refine run_go [.val (.str m.s), .val (filmD R C fl), .val (.int t), .emp] ?_
  simp only [fn_lit_at]
  refine Go.exprS .non (by try simp only [e_var, e_pk, e_cst, e_glo, e_bin, e_neg, e_not, e_cmp, e_chn, e_boo, e_ite, e_tup, e_lst, e_ix, e_slc, e_rev, e_call, e_blt, e_isi, e_comp, a_nil, a_cons, b_one, b_cons, t_nil, t_one, s_skip, s_seq, s_asg, s_own, s_frz, s_set, s_app, s_ext, s_expr, s_ret, s_ite, s_loop, M.pure_bind, M.lift_some, M.calm_pure, M.bind_assoc, asBl, List.getElem?_cons_zero, List.getElem?_cons_succ, List.set_cons_zero, List.set_cons_succ, Option.map_some, put, putAll, if_true, if_false, Bool.false_eq_true, Bool.true_eq_false, Bool.not_true, Bool.not_false, Cn.d, partD, List.map_cons, List.map_nil, Ev.wipe, o_add, o_sub, o_mull, o_mulr, o_mod, o_div, o_addt, o_addl, o_lt, o_le, o_gt, o_ge, eq_int, ne_int, u_lenl, u_lent, u_lens, u_max, u_min, u_abs, u_tupl, u_tupt, i_int, i_bool, i_tup, i_rng1, i_lst, i_tupl, len_pic, len_row, h1 m]) ?_
  refine Go.exprS .non (by try simp only [e_var, e_pk, e_cst, e_glo, e_bin, e_neg, e_not, e_cmp, e_chn, e_boo, e_ite, e_tup, e_lst, e_ix, e_slc, e_rev, e_call, e_blt, e_isi, e_comp, a_nil, a_cons, b_one, b_cons, t_nil, t_one, s_skip, s_seq, s_asg, s_own, s_frz, s_set, s_app, s_ext, s_expr, s_ret, s_ite, s_loop, M.pure_bind, M.lift_some, M.calm_pure, M.bind_assoc, asBl, List.getElem?_cons_zero, List.getElem?_cons_succ, List.set_cons_zero, List.set_cons_succ, Option.map_some, put, putAll, if_true, if_false, Bool.false_eq_true, Bool.true_eq_false, Bool.not_true, Bool.not_false, Cn.d, partD, List.map_cons, List.map_nil, Ev.wipe, o_add, o_sub, o_mull, o_mulr, o_mod, o_div, o_addt, o_addl, o_lt, o_le, o_gt, o_ge, eq_int, ne_int, u_lenl, u_lent, u_lens, u_max, u_min, u_abs, u_tupl, u_tupt, i_int, i_bool, i_tup, i_rng1, i_lst, i_tupl, len_pic, len_row, h2 R C fl p]) ?_
  refine Go.exprS .non (by try simp only [e_var, e_pk, e_cst, e_glo, e_bin, e_neg, e_not, e_cmp, e_chn, e_boo, e_ite, e_tup, e_lst, e_ix, e_slc, e_rev, e_call, e_blt, e_isi, e_comp, a_nil, a_cons, b_one, b_cons, t_nil, t_one, s_skip, s_seq, s_asg, s_own, s_frz, s_set, s_app, s_ext, s_expr, s_ret, s_ite, s_loop, M.pure_bind, M.lift_some, M.calm_pure, M.bind_assoc, asBl, List.getElem?_cons_zero, List.getElem?_cons_succ, List.set_cons_zero, List.set_cons_succ, Option.map_some, put, putAll, if_true, if_false, Bool.false_eq_true, Bool.true_eq_false, Bool.not_true, Bool.not_false, Cn.d, partD, List.map_cons, List.map_nil, Ev.wipe, o_add, o_sub, o_mull, o_mulr, o_mod, o_div, o_addt, o_addl, o_lt, o_le, o_gt, o_ge, eq_int, ne_int, u_lenl, u_lent, u_lens, u_max, u_min, u_abs, u_tupl, u_tupt, i_int, i_bool, i_tup, i_rng1, i_lst, i_tupl, len_pic, len_row, h3 t ht]) ?_
  refine Go.asgS (pic R C (pcAt R fl t)) (by try simp only [e_var, e_pk, e_cst, e_glo, e_bin, e_neg, e_not, e_cmp, e_chn, e_boo, e_ite, e_tup, e_lst, e_ix, e_slc, e_rev, e_call, e_blt, e_isi, e_comp, a_nil, a_cons, b_one, b_cons, t_nil, t_one, s_skip, s_seq, s_asg, s_own, s_frz, s_set, s_app, s_ext, s_expr, s_ret, s_ite, s_loop, M.pure_bind, M.lift_some, M.calm_pure, M.bind_assoc, asBl, List.getElem?_cons_zero, List.getElem?_cons_succ, List.set_cons_zero, List.set_cons_succ, Option.map_some, put, putAll, if_true, if_false, Bool.false_eq_true, Bool.true_eq_false, Bool.not_true, Bool.not_false, Cn.d, partD, List.map_cons, List.map_nil, Ev.wipe, o_add, o_sub, o_mull, o_mulr, o_mod, o_div, o_addt, o_addl, o_lt, o_le, o_gt, o_ge, eq_int, ne_int, u_lenl, u_lent, u_lens, u_max, u_min, u_abs, u_tupl, u_tupt, i_int, i_bool, i_tup, i_rng1, i_lst, i_tupl, len_pic, len_row, h4 R C fl t p]) rfl ?_; simp only [List.set_cons_succ, List.set_cons_zero]
  exact Go.retS _ (by try simp only [e_var, e_pk, e_cst, e_glo, e_bin, e_neg, e_not, e_cmp, e_chn, e_boo, e_ite, e_tup, e_lst, e_ix, e_slc, e_rev, e_call, e_blt, e_isi, e_comp, a_nil, a_cons, b_one, b_cons, t_nil, t_one, s_skip, s_seq, s_asg, s_own, s_frz, s_set, s_app, s_ext, s_expr, s_ret, s_ite, s_loop, M.pure_bind, M.lift_some, M.calm_pure, M.bind_assoc, asBl, List.getElem?_cons_zero, List.getElem?_cons_succ, List.set_cons_zero, List.set_cons_succ, Option.map_some, put, putAll, if_true, if_false, Bool.false_eq_true, Bool.true_eq_false, Bool.not_true, Bool.not_false, Cn.d, partD, List.map_cons, List.map_nil, Ev.wipe, o_add, o_sub, o_mull, o_mulr, o_mod, o_div, o_addt, o_addl, o_lt, o_le, o_gt, o_ge, eq_int, ne_int, u_lenl, u_lent, u_lens, u_max, u_min, u_abs, u_tupl, u_tupt, i_int, i_bool, i_tup, i_rng1, i_lst, i_tupl, len_pic, len_row, sm4, c1, q, l5]; exact rfl) rfl
end Ev.Vw

end
section
set_option maxRecDepth 100000
set_option maxHeartbeats 4000000
namespace Ev.Vw
open PySem Ev
/-! ### tables of lists -/
def rowL (C : Nat) (g : Nat → Int) : D := .lst ((List.range C).map fun c => .int (g c))
def grid (R C : Nat) (h : Nat → Nat → Int) : D := .lst ((List.range R).map fun r => rowL C (h r))
theorem rowL_congr {C : Nat} {f g : Nat → Int} (h : ∀ c, c < C → f c = g c) : rowL C f = rowL C g := by
  unfold rowL
  rw [range_map_congr fun i hi => by rw [h i hi]]
theorem grid_congr {R C : Nat} {f g : Nat → Nat → Int} (h : ∀ r c, r < R → c < C → f r c = g r c) : grid R C f = grid R C g := by
  unfold grid
  rw [range_map_congr fun r hr => rowL_congr fun c hc => h r c hr hc]
theorem okD_rowL {n C : Nat} {f : Nat → Int} : okD (n + 2) (rowL C f) = true := by simp [okD, rowL]
theorem okD_grid {n R C : Nat} {f : Nat → Nat → Int} : okD (n + 3) (grid R C f) = true := by simp [okD, grid, okD_rowL]
theorem ne_grid_refl {R C : Nat} {f : Nat → Nat → Int} : cop .ne (grid R C f) (grid R C f) = some false := ne_refl okD_grid
theorem ix_grid {R C : Nat} {f : Nat → Nat → Int} {r : Nat} (h : r < R) : ixD (grid R C f) (.int (r : Nat)) = some (rowL C (f r)) := by
  simp only [ixD, grid, List.length_map, List.length_range, ixN_nat h, Option.bind_some, getElem?_rangeMap h]
theorem ix_lnL {R : Nat} {F : Nat → D} {r : Nat} (h : r < R) : ixD (.lst ((List.range R).map F)) (.int (r : Nat)) = some (F r) := by
  simp only [ixD, List.length_map, List.length_range, ixN_nat h, Option.bind_some, getElem?_rangeMap h]
theorem ix_rowL {C : Nat} {f : Nat → Int} {c : Nat} (h : c < C) : ixD (rowL C f) (.int (c : Nat)) = some (.int (f c)) := ix_lnL h
theorem i_enumL {C : Nat} {f : Nat → Int} : itm .enum [rowL C f] = some ((List.range C).map fun c => .tup [.int (c : Nat), .int (f c)]) := by
  show (some (List.map _ ((List.range C).map _).zipIdx) : Option (List D)) = _
  rw [zipIdx_range, List.map_map]
  rfl
theorem set_range {R i : Nat} {F : Nat → D} {x : D} : ((List.range R).map F).set i x = (List.range R).map fun r => if r = i then x else F r := by
  apply List.ext_getElem?
  intro j
  rw [List.getElem?_set]
  by_cases h : i = j
  · subst h
    by_cases h2 : i < R
    · rw [if_pos rfl, getElem?_rangeMap h2, if_pos rfl]
      simp [h2]
    · rw [if_pos rfl]
      simp [h2]
  · rw [if_neg h]
    by_cases h2 : j < R
    · rw [getElem?_rangeMap h2, getElem?_rangeMap h2, if_neg (Ne.symm h)]
    · rw [List.getElem?_eq_none (by simp; omega), List.getElem?_eq_none (by simp; omega)]
theorem u_intB {b : Bool} : blt .int [.bl b] = some (.int (if b then 1 else 0)) := (rfl)
theorem i_rng2 {a n : Nat} (h : a + n ≤ 8388608) : itm .rng2 [.int (a : Nat), .int ((a : Int) + (n : Nat))] = some ((List.range n).map fun k => .int ((a : Int) + (k : Nat))) := by
  show (if ((a : Int) + (n : Nat)) ≤ 8388608 ∧ -8388608 ≤ ((a : Int) + (n : Nat)) ∧ (a : Int) ≤ 8388608 ∧ -8388608 ≤ (a : Int) then some (rng (a : Int) ((a : Int) + (n : Nat))) else none) = _
  rw [if_pos (by omega), rng_map']
/-! ### seen -/
def ltV (m : Mn) (R : Nat) (fl : List Shot) (t r c : Nat) : Int := if r = rwAt R t ∧ litB m (pcAt R fl t r c) (tuAt R t : Nat) = true then 1 else 0
def cnt (m : Mn) (R : Nat) (fl : List Shot) (lo n : Nat) (r c : Nat) : Int := sm n fun k => ltV m R fl (lo + k) r c
theorem mem_lit {C : Nat} {m : Mn} {g : Nat → Int} {u c : Nat} (hc : c < C) : ((c : Int) ∈ (litL C m g u).map fun (c : Nat) => (c : Int)) ↔ litB m (g c) (u : Nat) = true := by
  unfold litL
  rw [List.mem_map]
  constructor
  · rintro ⟨a, ha, e⟩
    have : a = c := by omega
    subst this
    exact (List.mem_filter.mp ha).2
  · intro h
    exact ⟨c, List.mem_filter.mpr ⟨List.mem_range.mpr hc, h⟩, rfl⟩
def S_seen (Φ : Fns) : Prop := ∀ (m : Mn) (R C : Nat) (fl : List Shot) (lo hi : Nat), Fm R C fl → lo ≤ hi → hi ≤ 9999 → Φ "seen" [.str m.s, filmD R C fl, .int lo, .int hi] = M.pure (grid R C (cnt m R fl lo (hi + 1 - lo)))
theorem sp_seen {Φ : Fns} (h1 : S_need_manner Φ) (h2 : S_need_film Φ) (h3 : S_need_tick Φ) (h4 : S_size_of Φ) (h5 : S_lit_at Φ) (m : Mn) (R C : Nat) (fl : List Shot) (lo hi : Nat) (p : Fm R C fl) (lh : lo ≤ hi) (hh : hi ≤ 9999) :
    runFn Φ fn_seen [.str m.s, filmD R C fl, .int lo, .int hi] = M.pure (grid R C (cnt m R fl lo (hi + 1 - lo))) := by
  obtain ⟨x0, r, hx⟩ := p.head
  have r1 := p.r1
  have r4 := p.r4
  have c6 := p.c6
  have rR : R ≤ 16777216 := by omega
  have kC : C ≤ 1000 := by omega
  have ix : ixD (filmD R C fl) (.int 0) = some (shotD R C x0) := by rw [hx]; exact ix_film0
  have nlt : ¬ ((hi : Int) < (lo : Int)) := by omega
  obtain ⟨n, hn⟩ : ∃ n, n = hi + 1 - lo := ⟨_, rfl⟩
  rw [← hn]
  have hb : (hi : Int) + 1 = (lo : Int) + (n : Nat) := by omega
  refine run_go [.val (.str m.s), .val (filmD R C fl), .val (.int lo), .val (.int hi), .emp, .emp, .emp, .emp, .emp, .emp, .emp, .emp] ?_
  simp only [fn_seen]
  refine Go.exprS .non (by try simp only [e_var, e_pk, e_cst, e_glo, e_bin, e_neg, e_not, e_cmp, e_chn, e_boo, e_ite, e_tup, e_lst, e_ix, e_slc, e_rev, e_call, e_blt, e_isi, e_comp, a_nil, a_cons, b_one, b_cons, t_nil, t_one, s_skip, s_seq, s_asg, s_own, s_frz, s_set, s_app, s_ext, s_expr, s_ret, s_ite, s_loop, M.pure_bind, M.lift_some, M.calm_pure, M.bind_assoc, asBl, List.getElem?_cons_zero, List.getElem?_cons_succ, List.set_cons_zero, List.set_cons_succ, Option.map_some, put, putAll, if_true, if_false, Bool.false_eq_true, Bool.true_eq_false, Bool.not_true, Bool.not_false, Cn.d, partD, List.map_cons, List.map_nil, Ev.wipe, o_add, o_sub, o_mull, o_mulr, o_mod, o_div, o_addt, o_addl, o_lt, o_le, o_gt, o_ge, eq_int, ne_int, u_lenl, u_lent, u_lens, u_max, u_min, u_abs, u_tupl, u_tupt, i_int, i_bool, i_tup, i_rng1, i_lst, i_tupl, len_pic, len_row, h1 m]) ?_
  refine Go.exprS .non (by try simp only [e_var, e_pk, e_cst, e_glo, e_bin, e_neg, e_not, e_cmp, e_chn, e_boo, e_ite, e_tup, e_lst, e_ix, e_slc, e_rev, e_call, e_blt, e_isi, e_comp, a_nil, a_cons, b_one, b_cons, t_nil, t_one, s_skip, s_seq, s_asg, s_own, s_frz, s_set, s_app, s_ext, s_expr, s_ret, s_ite, s_loop, M.pure_bind, M.lift_some, M.calm_pure, M.bind_assoc, asBl, List.getElem?_cons_zero, List.getElem?_cons_succ, List.set_cons_zero, List.set_cons_succ, Option.map_some, put, putAll, if_true, if_false, Bool.false_eq_true, Bool.true_eq_false, Bool.not_true, Bool.not_false, Cn.d, partD, List.map_cons, List.map_nil, Ev.wipe, o_add, o_sub, o_mull, o_mulr, o_mod, o_div, o_addt, o_addl, o_lt, o_le, o_gt, o_ge, eq_int, ne_int, u_lenl, u_lent, u_lens, u_max, u_min, u_abs, u_tupl, u_tupt, i_int, i_bool, i_tup, i_rng1, i_lst, i_tupl, len_pic, len_row, h2 R C fl p]) ?_
  refine Go.exprS .non (by try simp only [e_var, e_pk, e_cst, e_glo, e_bin, e_neg, e_not, e_cmp, e_chn, e_boo, e_ite, e_tup, e_lst, e_ix, e_slc, e_rev, e_call, e_blt, e_isi, e_comp, a_nil, a_cons, b_one, b_cons, t_nil, t_one, s_skip, s_seq, s_asg, s_own, s_frz, s_set, s_app, s_ext, s_expr, s_ret, s_ite, s_loop, M.pure_bind, M.lift_some, M.calm_pure, M.bind_assoc, asBl, List.getElem?_cons_zero, List.getElem?_cons_succ, List.set_cons_zero, List.set_cons_succ, Option.map_some, put, putAll, if_true, if_false, Bool.false_eq_true, Bool.true_eq_false, Bool.not_true, Bool.not_false, Cn.d, partD, List.map_cons, List.map_nil, Ev.wipe, o_add, o_sub, o_mull, o_mulr, o_mod, o_div, o_addt, o_addl, o_lt, o_le, o_gt, o_ge, eq_int, ne_int, u_lenl, u_lent, u_lens, u_max, u_min, u_abs, u_tupl, u_tupt, i_int, i_bool, i_tup, i_rng1, i_lst, i_tupl, len_pic, len_row, h3 lo (by omega)]) ?_
  refine Go.exprS .non (by try simp only [e_var, e_pk, e_cst, e_glo, e_bin, e_neg, e_not, e_cmp, e_chn, e_boo, e_ite, e_tup, e_lst, e_ix, e_slc, e_rev, e_call, e_blt, e_isi, e_comp, a_nil, a_cons, b_one, b_cons, t_nil, t_one, s_skip, s_seq, s_asg, s_own, s_frz, s_set, s_app, s_ext, s_expr, s_ret, s_ite, s_loop, M.pure_bind, M.lift_some, M.calm_pure, M.bind_assoc, asBl, List.getElem?_cons_zero, List.getElem?_cons_succ, List.set_cons_zero, List.set_cons_succ, Option.map_some, put, putAll, if_true, if_false, Bool.false_eq_true, Bool.true_eq_false, Bool.not_true, Bool.not_false, Cn.d, partD, List.map_cons, List.map_nil, Ev.wipe, o_add, o_sub, o_mull, o_mulr, o_mod, o_div, o_addt, o_addl, o_lt, o_le, o_gt, o_ge, eq_int, ne_int, u_lenl, u_lent, u_lens, u_max, u_min, u_abs, u_tupl, u_tupt, i_int, i_bool, i_tup, i_rng1, i_lst, i_tupl, len_pic, len_row, h3 hi hh]) ?_
  refine Go.if0 (by try simp only [e_var, e_pk, e_cst, e_glo, e_bin, e_neg, e_not, e_cmp, e_chn, e_boo, e_ite, e_tup, e_lst, e_ix, e_slc, e_rev, e_call, e_blt, e_isi, e_comp, a_nil, a_cons, b_one, b_cons, t_nil, t_one, s_skip, s_seq, s_asg, s_own, s_frz, s_set, s_app, s_ext, s_expr, s_ret, s_ite, s_loop, M.pure_bind, M.lift_some, M.calm_pure, M.bind_assoc, asBl, List.getElem?_cons_zero, List.getElem?_cons_succ, List.set_cons_zero, List.set_cons_succ, Option.map_some, put, putAll, if_true, if_false, Bool.false_eq_true, Bool.true_eq_false, Bool.not_true, Bool.not_false, Cn.d, partD, List.map_cons, List.map_nil, Ev.wipe, o_add, o_sub, o_mull, o_mulr, o_mod, o_div, o_addt, o_addl, o_lt, o_le, o_gt, o_ge, eq_int, ne_int, u_lenl, u_lent, u_lens, u_max, u_min, u_abs, u_tupl, u_tupt, i_int, i_bool, i_tup, i_rng1, i_lst, i_tupl, len_pic, len_row, nlt, decide_false]) ?_
  refine Go.asgS (.tup [.int R, .int C]) (by try simp only [e_var, e_pk, e_cst, e_glo, e_bin, e_neg, e_not, e_cmp, e_chn, e_boo, e_ite, e_tup, e_lst, e_ix, e_slc, e_rev, e_call, e_blt, e_isi, e_comp, a_nil, a_cons, b_one, b_cons, t_nil, t_one, s_skip, s_seq, s_asg, s_own, s_frz, s_set, s_app, s_ext, s_expr, s_ret, s_ite, s_loop, M.pure_bind, M.lift_some, M.calm_pure, M.bind_assoc, asBl, List.getElem?_cons_zero, List.getElem?_cons_succ, List.set_cons_zero, List.set_cons_succ, Option.map_some, put, putAll, if_true, if_false, Bool.false_eq_true, Bool.true_eq_false, Bool.not_true, Bool.not_false, Cn.d, partD, List.map_cons, List.map_nil, Ev.wipe, o_add, o_sub, o_mull, o_mulr, o_mod, o_div, o_addt, o_addl, o_lt, o_le, o_gt, o_ge, eq_int, ne_int, u_lenl, u_lent, u_lens, u_max, u_min, u_abs, u_tupl, u_tupt, i_int, i_bool, i_tup, i_rng1, i_lst, i_tupl, len_pic, len_row, ix, ix_shot0, h4 R C x0.1 r1]) rfl ?_; simp only [List.set_cons_succ, List.set_cons_zero]
  refine Go.ownS ((List.range R).map fun r => rowL C (cnt m R fl lo 0 r)) ?_ ?_
  · rw [comp_eqR (emb := fun k => .int (k : Nat)) (ds := [.int R]) (fun r => rowL C (cnt m R fl lo 0 r)) (by try simp only [e_var, e_pk, e_cst, e_glo, e_bin, e_neg, e_not, e_cmp, e_chn, e_boo, e_ite, e_tup, e_lst, e_ix, e_slc, e_rev, e_call, e_blt, e_isi, e_comp, a_nil, a_cons, b_one, b_cons, t_nil, t_one, s_skip, s_seq, s_asg, s_own, s_frz, s_set, s_app, s_ext, s_expr, s_ret, s_ite, s_loop, M.pure_bind, M.lift_some, M.calm_pure, M.bind_assoc, asBl, List.getElem?_cons_zero, List.getElem?_cons_succ, List.set_cons_zero, List.set_cons_succ, Option.map_some, put, putAll, if_true, if_false, Bool.false_eq_true, Bool.true_eq_false, Bool.not_true, Bool.not_false, Cn.d, partD, List.map_cons, List.map_nil, Ev.wipe, o_add, o_sub, o_mull, o_mulr, o_mod, o_div, o_addt, o_addl, o_lt, o_le, o_gt, o_ge, eq_int, ne_int, u_lenl, u_lent, u_lens, u_max, u_min, u_abs, u_tupl, u_tupt, i_int, i_bool, i_tup, i_rng1, i_lst, i_tupl, len_pic, len_row]) (i_rng1 rR) (fun r hr => ?_)]
    unfold oneC
    try simp only [e_var, e_pk, e_cst, e_glo, e_bin, e_neg, e_not, e_cmp, e_chn, e_boo, e_ite, e_tup, e_lst, e_ix, e_slc, e_rev, e_call, e_blt, e_isi, e_comp, a_nil, a_cons, b_one, b_cons, t_nil, t_one, s_skip, s_seq, s_asg, s_own, s_frz, s_set, s_app, s_ext, s_expr, s_ret, s_ite, s_loop, M.pure_bind, M.lift_some, M.calm_pure, M.bind_assoc, asBl, List.getElem?_cons_zero, List.getElem?_cons_succ, List.set_cons_zero, List.set_cons_succ, Option.map_some, put, putAll, if_true, if_false, Bool.false_eq_true, Bool.true_eq_false, Bool.not_true, Bool.not_false, Cn.d, partD, List.map_cons, List.map_nil, Ev.wipe, o_add, o_sub, o_mull, o_mulr, o_mod, o_div, o_addt, o_addl, o_lt, o_le, o_gt, o_ge, eq_int, ne_int, u_lenl, u_lent, u_lens, u_max, u_min, u_abs, u_tupl, u_tupt, i_int, i_bool, i_tup, i_rng1, i_lst, i_tupl, len_pic, len_row, o_mulL kC]
    exact .pure rfl
  simp only [List.set_cons_succ, List.set_cons_zero]
  refine Go.forR (n := n) (emb := fun k => .int ((lo : Int) + (k : Nat))) (ds := [.int lo, .int ((lo : Int) + (n : Nat))]) (by try simp only [e_var, e_pk, e_cst, e_glo, e_bin, e_neg, e_not, e_cmp, e_chn, e_boo, e_ite, e_tup, e_lst, e_ix, e_slc, e_rev, e_call, e_blt, e_isi, e_comp, a_nil, a_cons, b_one, b_cons, t_nil, t_one, s_skip, s_seq, s_asg, s_own, s_frz, s_set, s_app, s_ext, s_expr, s_ret, s_ite, s_loop, M.pure_bind, M.lift_some, M.calm_pure, M.bind_assoc, asBl, List.getElem?_cons_zero, List.getElem?_cons_succ, List.set_cons_zero, List.set_cons_succ, Option.map_some, put, putAll, if_true, if_false, Bool.false_eq_true, Bool.true_eq_false, Bool.not_true, Bool.not_false, Cn.d, partD, List.map_cons, List.map_nil, Ev.wipe, o_add, o_sub, o_mull, o_mulr, o_mod, o_div, o_addt, o_addl, o_lt, o_le, o_gt, o_ge, eq_int, ne_int, u_lenl, u_lent, u_lens, u_max, u_min, u_abs, u_tupl, u_tupt, i_int, i_bool, i_tup, i_rng1, i_lst, i_tupl, len_pic, len_row, hb]) (i_rng2 (by omega)) (fun i ρ => ∃ v7 v8 v9 v10 v11, ρ = [.val (.str m.s), .val (filmD R C fl), .val (.int lo), .val (.int hi), .val (.int R), .val (.int C), .own ((List.range R).map fun r => rowL C (cnt m R fl lo i r)), v7, v8, v9, v10, v11]) ⟨_, _, _, _, _, rfl⟩ ?_ ?_
  · rintro i ρ hi' ⟨v7, v8, v9, v10, v11, rfl⟩
    refine ⟨_, rfl, ?_⟩
    simp only [List.set_cons_succ, List.set_cons_zero]
    have tt : ((lo : Int) + (i : Nat)) = ((lo + i : Nat) : Int) := by omega
    have l5 := h5 m R C fl (lo + i) p (by omega)
    have rw_ : rwAt R (lo + i) < R := Nat.mod_lt _ (by omega)
    refine Go.asgS (.tup [.int (rwAt R (lo + i) : Nat), litD C m (pcAt R fl (lo + i) (rwAt R (lo + i))) (tuAt R (lo + i))]) (by try simp only [e_var, e_pk, e_cst, e_glo, e_bin, e_neg, e_not, e_cmp, e_chn, e_boo, e_ite, e_tup, e_lst, e_ix, e_slc, e_rev, e_call, e_blt, e_isi, e_comp, a_nil, a_cons, b_one, b_cons, t_nil, t_one, s_skip, s_seq, s_asg, s_own, s_frz, s_set, s_app, s_ext, s_expr, s_ret, s_ite, s_loop, M.pure_bind, M.lift_some, M.calm_pure, M.bind_assoc, asBl, List.getElem?_cons_zero, List.getElem?_cons_succ, List.set_cons_zero, List.set_cons_succ, Option.map_some, put, putAll, if_true, if_false, Bool.false_eq_true, Bool.true_eq_false, Bool.not_true, Bool.not_false, Cn.d, partD, List.map_cons, List.map_nil, Ev.wipe, o_add, o_sub, o_mull, o_mulr, o_mod, o_div, o_addt, o_addl, o_lt, o_le, o_gt, o_ge, eq_int, ne_int, u_lenl, u_lent, u_lens, u_max, u_min, u_abs, u_tupl, u_tupt, i_int, i_bool, i_tup, i_rng1, i_lst, i_tupl, len_pic, len_row, tt, l5]) rfl ?_; simp only [List.set_cons_succ, List.set_cons_zero]
    refine Go.setS (rowL C (cnt m R fl lo (i + 1) (rwAt R (lo + i)))) (rwAt R (lo + i)) (rwAt R (lo + i)) rfl ?_ (by try simp only [e_var, e_pk, e_cst, e_glo, e_bin, e_neg, e_not, e_cmp, e_chn, e_boo, e_ite, e_tup, e_lst, e_ix, e_slc, e_rev, e_call, e_blt, e_isi, e_comp, a_nil, a_cons, b_one, b_cons, t_nil, t_one, s_skip, s_seq, s_asg, s_own, s_frz, s_set, s_app, s_ext, s_expr, s_ret, s_ite, s_loop, M.pure_bind, M.lift_some, M.calm_pure, M.bind_assoc, asBl, List.getElem?_cons_zero, List.getElem?_cons_succ, List.set_cons_zero, List.set_cons_succ, Option.map_some, put, putAll, if_true, if_false, Bool.false_eq_true, Bool.true_eq_false, Bool.not_true, Bool.not_false, Cn.d, partD, List.map_cons, List.map_nil, Ev.wipe, o_add, o_sub, o_mull, o_mulr, o_mod, o_div, o_addt, o_addl, o_lt, o_le, o_gt, o_ge, eq_int, ne_int, u_lenl, u_lent, u_lens, u_max, u_min, u_abs, u_tupl, u_tupt, i_int, i_bool, i_tup, i_rng1, i_lst, i_tupl, len_pic, len_row]) (by rw [List.length_map, List.length_range]; exact ixN_nat rw_) ?_
    · rw [comp_eqR (emb := fun c => .tup [.int (c : Nat), .int (cnt m R fl lo i (rwAt R (lo + i)) c)]) (ds := [rowL C (cnt m R fl lo i (rwAt R (lo + i)))]) (fun c => .int (cnt m R fl lo (i + 1) (rwAt R (lo + i)) c)) (by try simp only [e_var, e_pk, e_cst, e_glo, e_bin, e_neg, e_not, e_cmp, e_chn, e_boo, e_ite, e_tup, e_lst, e_ix, e_slc, e_rev, e_call, e_blt, e_isi, e_comp, a_nil, a_cons, b_one, b_cons, t_nil, t_one, s_skip, s_seq, s_asg, s_own, s_frz, s_set, s_app, s_ext, s_expr, s_ret, s_ite, s_loop, M.pure_bind, M.lift_some, M.calm_pure, M.bind_assoc, asBl, List.getElem?_cons_zero, List.getElem?_cons_succ, List.set_cons_zero, List.set_cons_succ, Option.map_some, put, putAll, if_true, if_false, Bool.false_eq_true, Bool.true_eq_false, Bool.not_true, Bool.not_false, Cn.d, partD, List.map_cons, List.map_nil, Ev.wipe, o_add, o_sub, o_mull, o_mulr, o_mod, o_div, o_addt, o_addl, o_lt, o_le, o_gt, o_ge, eq_int, ne_int, u_lenl, u_lent, u_lens, u_max, u_min, u_abs, u_tupl, u_tupt, i_int, i_bool, i_tup, i_rng1, i_lst, i_tupl, len_pic, len_row, ix_lnL rw_]) i_enumL (fun c hc => ?_)]
      · rfl
      · have e : (if decide (((c : Nat) : Int) ∈ (litL C m (pcAt R fl (lo + i) (rwAt R (lo + i))) (tuAt R (lo + i))).map fun (c : Nat) => (c : Int)) = true then (1 : Int) else 0) = ltV m R fl (lo + i) (rwAt R (lo + i)) c := by
          unfold ltV
          by_cases q : litB m (pcAt R fl (lo + i) (rwAt R (lo + i)) c) (tuAt R (lo + i) : Nat) = true
          · rw [if_pos (decide_eq_true ((mem_lit hc).mpr q)), if_pos ⟨rfl, q⟩]
          · rw [if_neg fun z => q ((mem_lit hc).mp (of_decide_eq_true z)), if_neg fun z => q z.2]
        unfold oneC litD
        try simp only [e_var, e_pk, e_cst, e_glo, e_bin, e_neg, e_not, e_cmp, e_chn, e_boo, e_ite, e_tup, e_lst, e_ix, e_slc, e_rev, e_call, e_blt, e_isi, e_comp, a_nil, a_cons, b_one, b_cons, t_nil, t_one, s_skip, s_seq, s_asg, s_own, s_frz, s_set, s_app, s_ext, s_expr, s_ret, s_ite, s_loop, M.pure_bind, M.lift_some, M.calm_pure, M.bind_assoc, asBl, List.getElem?_cons_zero, List.getElem?_cons_succ, List.set_cons_zero, List.set_cons_succ, Option.map_some, put, putAll, if_true, if_false, Bool.false_eq_true, Bool.true_eq_false, Bool.not_true, Bool.not_false, Cn.d, partD, List.map_cons, List.map_nil, Ev.wipe, o_add, o_sub, o_mull, o_mulr, o_mod, o_div, o_addt, o_addl, o_lt, o_le, o_gt, o_ge, eq_int, ne_int, u_lenl, u_lent, u_lens, u_max, u_min, u_abs, u_tupl, u_tupt, i_int, i_bool, i_tup, i_rng1, i_lst, i_tupl, len_pic, len_row, in_ints, u_intB, e]
        refine .pure ?_
        show some (D.int (sm i (fun k => ltV m R fl (lo + k) (rwAt R (lo + i)) c) + ltV m R fl (lo + i) (rwAt R (lo + i)) c)) = some (D.int (sm (i + 1) fun k => ltV m R fl (lo + k) (rwAt R (lo + i)) c))
        rw [sm_succ]
    · simp only [List.set_cons_succ, List.set_cons_zero]
      have e : ((List.range R).map fun r => rowL C (cnt m R fl lo i r)).set (rwAt R (lo + i)) (rowL C (cnt m R fl lo (i + 1) (rwAt R (lo + i)))) = (List.range R).map fun r => rowL C (cnt m R fl lo (i + 1) r) := by
        rw [set_range]
        refine range_map_congr fun r hr => ?_
        by_cases q : r = rwAt R (lo + i)
        · rw [if_pos q, q]
        · rw [if_neg q]
          refine rowL_congr fun c hc => ?_
          show _ = sm (i + 1) _
          rw [sm_succ]
          have : ltV m R fl (lo + i) r c = 0 := if_neg fun z => q z.1
          rw [this, Int.add_zero]
          rfl
      exact Go.skipS ⟨rfl, by rw [e]; exact ⟨_, _, _, _, _, rfl⟩⟩
  · rintro ρ ⟨v7, v8, v9, v10, v11, rfl⟩
    refine Go.frzS rfl ?_; simp only [List.set_cons_succ, List.set_cons_zero]
    exact Go.retS (grid R C (cnt m R fl lo n)) (by try simp only [e_var, e_pk, e_cst, e_glo, e_bin, e_neg, e_not, e_cmp, e_chn, e_boo, e_ite, e_tup, e_lst, e_ix, e_slc, e_rev, e_call, e_blt, e_isi, e_comp, a_nil, a_cons, b_one, b_cons, t_nil, t_one, s_skip, s_seq, s_asg, s_own, s_frz, s_set, s_app, s_ext, s_expr, s_ret, s_ite, s_loop, M.pure_bind, M.lift_some, M.calm_pure, M.bind_assoc, asBl, List.getElem?_cons_zero, List.getElem?_cons_succ, List.set_cons_zero, List.set_cons_succ, Option.map_some, put, putAll, if_true, if_false, Bool.false_eq_true, Bool.true_eq_false, Bool.not_true, Bool.not_false, Cn.d, partD, List.map_cons, List.map_nil, Ev.wipe, o_add, o_sub, o_mull, o_mulr, o_mod, o_div, o_addt, o_addl, o_lt, o_le, o_gt, o_ge, eq_int, ne_int, u_lenl, u_lent, u_lens, u_max, u_min, u_abs, u_tupl, u_tupt, i_int, i_bool, i_tup, i_rng1, i_lst, i_tupl, len_pic, len_row]; exact rfl) rfl
/-! ### the law's film -/
def filmR (ns : List Int) (k : Nat) : Nat := 1 + drawV ns k 3
def filmC (ns : List Int) (k : Nat) : Nat := 1 + drawV ns (k + 1) 4
def shotV (ns : List Int) (h : Nat) : Shot := (drawn ns h, 1 + drawV ns (h + 39) 3)
def filmV (ns : List Int) (k most : Nat) : List Shot := (List.range (1 + drawV ns (k + 2) most)).map fun j => shotV ns (k + 3 + 40 * j)
theorem fm_law {ns : List Int} {k most : Nat} (h0 : 0 < most) (h4 : most ≤ 4) : Fm (filmR ns k) (filmC ns k) (filmV ns k most) := by
  have b1 := drawV_lt (ns := ns) (k := k) (many := 3) (by decide)
  have b2 := drawV_lt (ns := ns) (k := k + 1) (many := 4) (by decide)
  have b3 := drawV_lt (ns := ns) (k := k + 2) (many := most) h0
  refine ⟨by unfold filmR; omega, by unfold filmR; omega, by unfold filmC; omega, by unfold filmC; omega, by unfold filmV; rw [List.length_map, List.length_range]; omega, by unfold filmV; rw [List.length_map, List.length_range]; omega, fun x hx => ?_⟩
  obtain ⟨j, _, rfl⟩ := List.mem_map.mp hx
  have b4 := drawV_lt (ns := ns) (k := k + 3 + 40 * j + 39) (many := 3) (by decide)
  exact ⟨fun r c _ _ => shV_le, by show 1 ≤ 1 + drawV ns (k + 3 + 40 * j + 39) 3; omega, by show 1 + drawV ns (k + 3 + 40 * j + 39) 3 ≤ 3; omega⟩
def S_law_film (Φ : Fns) : Prop := ∀ (ns : List Int) (k most : Nat), ns.length ≤ 63 → 0 < most → most ≤ 4 → Φ "_law_film" [.scr ns, .int k, .int most] = M.pure (filmD (filmR ns k) (filmC ns k) (filmV ns k most))
theorem sp_law_film {Φ : Fns} (h1 : S_drawn Φ) (h2 : S_law_picture Φ) (ns : List Int) (k most : Nat) (h : ns.length ≤ 63) (h0 : 0 < most) (h4 : most ≤ 4) : runFn Φ fn__law_film [.scr ns, .int k, .int most] = M.pure (filmD (filmR ns k) (filmC ns k) (filmV ns k most)) := by
  refine run_go [.val (.scr ns), .val (.int k), .val (.int most), .emp, .emp, .emp, .emp, .emp, .emp] ?_
  have b1 := drawV_lt (ns := ns) (k := k) (many := 3) (by decide)
  have b2 := drawV_lt (ns := ns) (k := k + 1) (many := 4) (by decide)
  have b3 := drawV_lt (ns := ns) (k := k + 2) (many := most) h0
  have d1 : Φ "_law_drawn" [.scr ns, .int k, .int 3] = M.pure (.int (drawV ns k 3)) := h1 ns k 3 h (by decide)
  have d2 : Φ "_law_drawn" [.scr ns, .int ((k : Int) + 1), .int 4] = M.pure (.int (drawV ns (k + 1) 4)) := h1 ns (k + 1) 4 h (by decide)
  have d3 : Φ "_law_drawn" [.scr ns, .int ((k : Int) + 2), .int most] = M.pure (.int (drawV ns (k + 2) most)) := h1 ns (k + 2) most h h0
  have cR : (1 : Int) + (drawV ns k 3 : Nat) = (filmR ns k : Nat) := by unfold filmR; omega
  have cC : (1 : Int) + (drawV ns (k + 1) 4 : Nat) = (filmC ns k : Nat) := by unfold filmC; omega
  have cN : (1 : Int) + (drawV ns (k + 2) most : Nat) = ((1 + drawV ns (k + 2) most : Nat) : Int) := by omega
  have fR : filmR ns k ≤ 100 := by unfold filmR; omega
  have fC : filmC ns k ≤ 100 := by unfold filmC; omega
  simp only [fn__law_film]
  refine Go.asgS (.int (filmR ns k)) (by try simp only [e_var, e_pk, e_cst, e_glo, e_bin, e_neg, e_not, e_cmp, e_chn, e_boo, e_ite, e_tup, e_lst, e_ix, e_slc, e_rev, e_call, e_blt, e_isi, e_comp, a_nil, a_cons, b_one, b_cons, t_nil, t_one, s_skip, s_seq, s_asg, s_own, s_frz, s_set, s_app, s_ext, s_expr, s_ret, s_ite, s_loop, M.pure_bind, M.lift_some, M.calm_pure, M.bind_assoc, asBl, List.getElem?_cons_zero, List.getElem?_cons_succ, List.set_cons_zero, List.set_cons_succ, Option.map_some, put, putAll, if_true, if_false, Bool.false_eq_true, Bool.true_eq_false, Bool.not_true, Bool.not_false, Cn.d, partD, List.map_cons, List.map_nil, Ev.wipe, o_add, o_sub, o_mull, o_mulr, o_mod, o_div, o_addt, o_addl, o_lt, o_le, o_gt, o_ge, eq_int, ne_int, u_lenl, u_lent, u_lens, u_max, u_min, u_abs, u_tupl, u_tupt, i_int, i_bool, i_tup, i_rng1, i_lst, i_tupl, len_pic, len_row, d1, cR]) rfl ?_; simp only [List.set_cons_succ, List.set_cons_zero]
  refine Go.asgS (.int (filmC ns k)) (by try simp only [e_var, e_pk, e_cst, e_glo, e_bin, e_neg, e_not, e_cmp, e_chn, e_boo, e_ite, e_tup, e_lst, e_ix, e_slc, e_rev, e_call, e_blt, e_isi, e_comp, a_nil, a_cons, b_one, b_cons, t_nil, t_one, s_skip, s_seq, s_asg, s_own, s_frz, s_set, s_app, s_ext, s_expr, s_ret, s_ite, s_loop, M.pure_bind, M.lift_some, M.calm_pure, M.bind_assoc, asBl, List.getElem?_cons_zero, List.getElem?_cons_succ, List.set_cons_zero, List.set_cons_succ, Option.map_some, put, putAll, if_true, if_false, Bool.false_eq_true, Bool.true_eq_false, Bool.not_true, Bool.not_false, Cn.d, partD, List.map_cons, List.map_nil, Ev.wipe, o_add, o_sub, o_mull, o_mulr, o_mod, o_div, o_addt, o_addl, o_lt, o_le, o_gt, o_ge, eq_int, ne_int, u_lenl, u_lent, u_lens, u_max, u_min, u_abs, u_tupl, u_tupt, i_int, i_bool, i_tup, i_rng1, i_lst, i_tupl, len_pic, len_row, d2, cC]) rfl ?_; simp only [List.set_cons_succ, List.set_cons_zero]
  refine Go.asgS (.tup []) (by try simp only [e_var, e_pk, e_cst, e_glo, e_bin, e_neg, e_not, e_cmp, e_chn, e_boo, e_ite, e_tup, e_lst, e_ix, e_slc, e_rev, e_call, e_blt, e_isi, e_comp, a_nil, a_cons, b_one, b_cons, t_nil, t_one, s_skip, s_seq, s_asg, s_own, s_frz, s_set, s_app, s_ext, s_expr, s_ret, s_ite, s_loop, M.pure_bind, M.lift_some, M.calm_pure, M.bind_assoc, asBl, List.getElem?_cons_zero, List.getElem?_cons_succ, List.set_cons_zero, List.set_cons_succ, Option.map_some, put, putAll, if_true, if_false, Bool.false_eq_true, Bool.true_eq_false, Bool.not_true, Bool.not_false, Cn.d, partD, List.map_cons, List.map_nil, Ev.wipe, o_add, o_sub, o_mull, o_mulr, o_mod, o_div, o_addt, o_addl, o_lt, o_le, o_gt, o_ge, eq_int, ne_int, u_lenl, u_lent, u_lens, u_max, u_min, u_abs, u_tupl, u_tupt, i_int, i_bool, i_tup, i_rng1, i_lst, i_tupl, len_pic, len_row]) rfl ?_; simp only [List.set_cons_succ, List.set_cons_zero]
  refine Go.forR (n := 1 + drawV ns (k + 2) most) (emb := fun j => .int (j : Nat)) (ds := [.int (1 + drawV ns (k + 2) most : Nat)]) (by try simp only [e_var, e_pk, e_cst, e_glo, e_bin, e_neg, e_not, e_cmp, e_chn, e_boo, e_ite, e_tup, e_lst, e_ix, e_slc, e_rev, e_call, e_blt, e_isi, e_comp, a_nil, a_cons, b_one, b_cons, t_nil, t_one, s_skip, s_seq, s_asg, s_own, s_frz, s_set, s_app, s_ext, s_expr, s_ret, s_ite, s_loop, M.pure_bind, M.lift_some, M.calm_pure, M.bind_assoc, asBl, List.getElem?_cons_zero, List.getElem?_cons_succ, List.set_cons_zero, List.set_cons_succ, Option.map_some, put, putAll, if_true, if_false, Bool.false_eq_true, Bool.true_eq_false, Bool.not_true, Bool.not_false, Cn.d, partD, List.map_cons, List.map_nil, Ev.wipe, o_add, o_sub, o_mull, o_mulr, o_mod, o_div, o_addt, o_addl, o_lt, o_le, o_gt, o_ge, eq_int, ne_int, u_lenl, u_lent, u_lens, u_max, u_min, u_abs, u_tupl, u_tupt, i_int, i_bool, i_tup, i_rng1, i_lst, i_tupl, len_pic, len_row, d3, cN]) (i_rng1 (by omega)) (fun i ρ => ∃ v6 v7 v8, ρ = [.val (.scr ns), .val (.int k), .val (.int most), .val (.int (filmR ns k)), .val (.int (filmC ns k)), .val (.tup (((List.range i).map fun j => shotV ns (k + 3 + 40 * j)).map (shotD (filmR ns k) (filmC ns k)))), v6, v7, v8]) ⟨_, _, _, rfl⟩ ?_ ?_
  · rintro i ρ hi ⟨v6, v7, v8, rfl⟩
    refine ⟨_, rfl, ?_⟩
    simp only [List.set_cons_succ, List.set_cons_zero]
    have q : (k : Int) + 3 + 40 * (i : Int) = ((k + 3 + 40 * i : Nat) : Int) := by omega
    have e1 : Φ "_law_drawn" [.scr ns, .int (((k + 3 + 40 * i : Nat) : Int) + 39), .int 3] = M.pure (.int (drawV ns (k + 3 + 40 * i + 39) 3)) := h1 ns (k + 3 + 40 * i + 39) 3 h (by decide)
    have e2 := h2 ns (k + 3 + 40 * i) (filmR ns k) (filmC ns k) h fR fC
    have q2 : (1 : Int) + (drawV ns (k + 3 + 40 * i + 39) 3 : Nat) = ((1 + drawV ns (k + 3 + 40 * i + 39) 3 : Nat) : Int) := by omega
    have b4 := drawV_lt (ns := ns) (k := k + 2) (many := most) h0
    refine Go.asgS (.int ((k + 3 + 40 * i : Nat) : Int)) (by try simp only [e_var, e_pk, e_cst, e_glo, e_bin, e_neg, e_not, e_cmp, e_chn, e_boo, e_ite, e_tup, e_lst, e_ix, e_slc, e_rev, e_call, e_blt, e_isi, e_comp, a_nil, a_cons, b_one, b_cons, t_nil, t_one, s_skip, s_seq, s_asg, s_own, s_frz, s_set, s_app, s_ext, s_expr, s_ret, s_ite, s_loop, M.pure_bind, M.lift_some, M.calm_pure, M.bind_assoc, asBl, List.getElem?_cons_zero, List.getElem?_cons_succ, List.set_cons_zero, List.set_cons_succ, Option.map_some, put, putAll, if_true, if_false, Bool.false_eq_true, Bool.true_eq_false, Bool.not_true, Bool.not_false, Cn.d, partD, List.map_cons, List.map_nil, Ev.wipe, o_add, o_sub, o_mull, o_mulr, o_mod, o_div, o_addt, o_addl, o_lt, o_le, o_gt, o_ge, eq_int, ne_int, u_lenl, u_lent, u_lens, u_max, u_min, u_abs, u_tupl, u_tupt, i_int, i_bool, i_tup, i_rng1, i_lst, i_tupl, len_pic, len_row, sm40, q]) rfl ?_; simp only [List.set_cons_succ, List.set_cons_zero]
    refine Go.asgS (.int ((1 + drawV ns (k + 3 + 40 * i + 39) 3 : Nat) : Int)) (by try simp only [e_var, e_pk, e_cst, e_glo, e_bin, e_neg, e_not, e_cmp, e_chn, e_boo, e_ite, e_tup, e_lst, e_ix, e_slc, e_rev, e_call, e_blt, e_isi, e_comp, a_nil, a_cons, b_one, b_cons, t_nil, t_one, s_skip, s_seq, s_asg, s_own, s_frz, s_set, s_app, s_ext, s_expr, s_ret, s_ite, s_loop, M.pure_bind, M.lift_some, M.calm_pure, M.bind_assoc, asBl, List.getElem?_cons_zero, List.getElem?_cons_succ, List.set_cons_zero, List.set_cons_succ, Option.map_some, put, putAll, if_true, if_false, Bool.false_eq_true, Bool.true_eq_false, Bool.not_true, Bool.not_false, Cn.d, partD, List.map_cons, List.map_nil, Ev.wipe, o_add, o_sub, o_mull, o_mulr, o_mod, o_div, o_addt, o_addl, o_lt, o_le, o_gt, o_ge, eq_int, ne_int, u_lenl, u_lent, u_lens, u_max, u_min, u_abs, u_tupl, u_tupt, i_int, i_bool, i_tup, i_rng1, i_lst, i_tupl, len_pic, len_row, e1, q2]) rfl ?_; simp only [List.set_cons_succ, List.set_cons_zero]
    have hz : (((List.range i).map fun j => shotV ns (k + 3 + 40 * j)).map (shotD (filmR ns k) (filmC ns k))).length + [D.tup [pic (filmR ns k) (filmC ns k) (drawn ns (k + 3 + 40 * i)), .int ((1 + drawV ns (k + 3 + 40 * i + 39) 3 : Nat) : Int)]].length ≤ 16777216 := by simp; omega
    refine Go.asgS (.tup (((List.range (i + 1)).map fun j => shotV ns (k + 3 + 40 * j)).map (shotD (filmR ns k) (filmC ns k)))) (by
      have w : ((List.range (i + 1)).map fun j => shotV ns (k + 3 + 40 * j)).map (shotD (filmR ns k) (filmC ns k)) = ((List.range i).map fun j => shotV ns (k + 3 + 40 * j)).map (shotD (filmR ns k) (filmC ns k)) ++ [D.tup [pic (filmR ns k) (filmC ns k) (drawn ns (k + 3 + 40 * i)), .int ((1 + drawV ns (k + 3 + 40 * i + 39) 3 : Nat) : Int)]] := by
        rw [List.range_succ, List.map_append, List.map_append]
        rfl
      rw [w]
      try simp only [e_var, e_pk, e_cst, e_glo, e_bin, e_neg, e_not, e_cmp, e_chn, e_boo, e_ite, e_tup, e_lst, e_ix, e_slc, e_rev, e_call, e_blt, e_isi, e_comp, a_nil, a_cons, b_one, b_cons, t_nil, t_one, s_skip, s_seq, s_asg, s_own, s_frz, s_set, s_app, s_ext, s_expr, s_ret, s_ite, s_loop, M.pure_bind, M.lift_some, M.calm_pure, M.bind_assoc, asBl, List.getElem?_cons_zero, List.getElem?_cons_succ, List.set_cons_zero, List.set_cons_succ, Option.map_some, put, putAll, if_true, if_false, Bool.false_eq_true, Bool.true_eq_false, Bool.not_true, Bool.not_false, Cn.d, partD, List.map_cons, List.map_nil, Ev.wipe, o_add, o_sub, o_mull, o_mulr, o_mod, o_div, o_addt, o_addl, o_lt, o_le, o_gt, o_ge, eq_int, ne_int, u_lenl, u_lent, u_lens, u_max, u_min, u_abs, u_tupl, u_tupt, i_int, i_bool, i_tup, i_rng1, i_lst, i_tupl, len_pic, len_row, e2, hz]) rfl ?_; simp only [List.set_cons_succ, List.set_cons_zero]
    exact Go.skipS ⟨rfl, _, _, _, rfl⟩
  · rintro ρ ⟨v6, v7, v8, rfl⟩
    exact Go.retS (filmD (filmR ns k) (filmC ns k) (filmV ns k most)) (by try simp only [e_var, e_pk, e_cst, e_glo, e_bin, e_neg, e_not, e_cmp, e_chn, e_boo, e_ite, e_tup, e_lst, e_ix, e_slc, e_rev, e_call, e_blt, e_isi, e_comp, a_nil, a_cons, b_one, b_cons, t_nil, t_one, s_skip, s_seq, s_asg, s_own, s_frz, s_set, s_app, s_ext, s_expr, s_ret, s_ite, s_loop, M.pure_bind, M.lift_some, M.calm_pure, M.bind_assoc, asBl, List.getElem?_cons_zero, List.getElem?_cons_succ, List.set_cons_zero, List.set_cons_succ, Option.map_some, put, putAll, if_true, if_false, Bool.false_eq_true, Bool.true_eq_false, Bool.not_true, Bool.not_false, Cn.d, partD, List.map_cons, List.map_nil, Ev.wipe, o_add, o_sub, o_mull, o_mulr, o_mod, o_div, o_addt, o_addl, o_lt, o_le, o_gt, o_ge, eq_int, ne_int, u_lenl, u_lent, u_lens, u_max, u_min, u_abs, u_tupl, u_tupt, i_int, i_bool, i_tup, i_rng1, i_lst, i_tupl, len_pic, len_row]; exact rfl) rfl
end Ev.Vw

end
section
set_option maxRecDepth 100000
set_option maxHeartbeats 4000000
namespace Ev.Vw
open PySem Ev
/-! ### sums in windows -/
theorem sm_addn {a b : Nat} {h : Nat → Int} : sm (a + b) h = sm a h + sm b fun k => h (a + k) := by
  induction b with
  | zero => simp [sm]
  | succ b ih => rw [← Nat.add_assoc, sm_succ, sm_succ, ih]; omega
theorem sm_window {W : Nat} {h : Nat → Int} (hp : ∀ t, h (t + W) = h t) (lo : Nat) : sm W (fun k => h (lo + k)) = sm W h := by
  induction lo with
  | zero => exact sm_congr fun k _ => by rw [Nat.zero_add]
  | succ lo ih =>
    rw [← ih]
    have e1 : sm (W + 1) (fun k => h (lo + k)) = h lo + sm W (fun k => h (lo + 1 + k)) := by
      rw [sm_head]
      congr 1
      exact sm_congr fun k _ => by congr 1; omega
    have e2 : sm (W + 1) (fun k => h (lo + k)) = sm W (fun k => h (lo + k)) + h lo := by rw [sm_succ, hp]
    omega
theorem sm_mul {a b : Nat} {h : Nat → Int} : sm (a * b) h = sm a fun q => sm b fun j => h (q * b + j) := by
  induction a with
  | zero => rw [Nat.zero_mul]; rfl
  | succ a ih => rw [Nat.succ_mul, sm_addn, ih, sm_succ]
theorem sm_list {α : Type} {d : α} {F : α → Int} : ∀ {l : List α}, sm l.length (fun i => F (l[i]?.getD d)) = (l.map F).sum
  | [] => rfl
  | x :: l => by
    rw [List.length_cons, sm_head, List.map_cons, List.sum_cons]
    have ih := sm_list (d := d) (F := F) (l := l)
    rw [← ih]
    rfl
theorem sm_one {n r : Nat} {b : Bool} (h : r < n) : sm n (fun i => if r = i ∧ b = true then (1 : Int) else 0) = if b = true then 1 else 0 := by
  cases b with
  | false => simp only [Bool.false_eq_true, and_false, if_false]; rw [sm_const]; simp
  | true =>
    simp only [and_true, if_true]
    induction n with
    | zero => omega
    | succ n ih =>
      rw [sm_succ]
      by_cases q : r = n
      · subst q
        rw [if_pos rfl]
        have : sm r (fun i => if r = i then (1 : Int) else 0) = sm r fun _ => 0 := sm_congr fun i hi => if_neg (by omega)
        rw [this, sm_const]
        simp
      · rw [if_neg q, ih (by omega)]
        rfl
/-! ### a whole round -/
def tots (fl : List Shot) (r c : Nat) : Int := ((fmV fl).map fun f => f r c).sum
theorem lit_sum {m : Mn} {s : Int} (h0 : 0 ≤ s) (h4 : s ≤ 4) : sm 4 (fun u => if litB m s (u : Nat) = true then (1 : Int) else 0) = s := by
  have : s = 0 ∨ s = 1 ∨ s = 2 ∨ s = 3 ∨ s = 4 := by omega
  rcases this with rfl | rfl | rfl | rfl | rfl <;> cases m <;> decide +kernel
theorem at_div {R q j : Nat} (hR : 0 < R) (hj : j < 4 * R) : (q * (4 * R) + j) % (4 * R) = j ∧ (q * (4 * R) + j) / (4 * R) = q := by
  constructor
  · rw [Nat.add_comm, Nat.add_mul_mod_self_right, Nat.mod_eq_of_lt hj]
  · rw [Nat.add_comm, Nat.add_mul_div_right _ _ (by omega), Nat.div_eq_of_lt hj, Nat.zero_add]
theorem lt_period {m : Mn} {R : Nat} {fl : List Shot} {r c : Nat} (hR : 0 < R) (t : Nat) : ltV m R fl (t + (fmV fl).length * (4 * R)) r c = ltV m R fl t r c := by
  have e1 : (t + (fmV fl).length * (4 * R)) % (4 * R) = t % (4 * R) := Nat.add_mul_mod_self_right _ _ _
  have e2 : (t + (fmV fl).length * (4 * R)) / (4 * R) % (fmV fl).length = t / (4 * R) % (fmV fl).length := by
    rw [Nat.add_mul_div_right _ _ (by omega), Nat.add_mod_right]
  unfold ltV rwAt tuAt pcAt
  rw [e1, e2]
theorem cnt_round {m : Mn} {R C : Nat} {fl : List Shot} (p : Fm R C fl) {r c : Nat} (hr : r < R) (hc : c < C) (lo : Nat) : cnt m R fl lo ((fmV fl).length * (4 * R)) r c = tots fl r c := by
  have hR : 0 < R := p.r1
  unfold cnt
  rw [sm_window (h := fun t => ltV m R fl t r c) (fun t => lt_period hR t) lo, sm_mul]
  unfold tots
  rw [← sm_list (d := fun _ _ => (0 : Int)) (F := fun f : Nat → Nat → Int => f r c)]
  refine sm_congr fun q hq => ?_
  have hs : 0 ≤ frm fl q r c ∧ frm fl q r c ≤ 4 := fmV_mem p _ (frm_mem hq) r c hr hc
  show sm (4 * R) _ = frm fl q r c
  rw [sm_mul]
  have e : sm 4 (fun u => sm R fun j => ltV m R fl (q * (4 * R) + (u * R + j)) r c) = sm 4 fun u => if litB m (frm fl q r c) (u : Nat) = true then (1 : Int) else 0 := by
    refine sm_congr fun u hu => ?_
    rw [← sm_one (b := litB m (frm fl q r c) (u : Nat)) hr]
    refine sm_congr fun j hj => ?_
    have lt : u * R + j < 4 * R := by
      have : u * R ≤ 3 * R := Nat.mul_le_mul_right R (by omega)
      omega
    obtain ⟨a1, a2⟩ := at_div (q := q) hR lt
    have a3 : (u * R + j) % R = j := by rw [Nat.add_comm, Nat.add_mul_mod_self_right, Nat.mod_eq_of_lt hj]
    have a4 : (u * R + j) / R = u := by rw [Nat.add_comm, Nat.add_mul_div_right _ _ hR, Nat.div_eq_of_lt hj, Nat.zero_add]
    unfold ltV rwAt tuAt pcAt
    rw [a1, a2, a3, a4, Nat.mod_eq_of_lt hq]
  rw [e]
  exact lit_sum hs.1 hs.2
theorem cnt_split {m : Mn} {R : Nat} {fl : List Shot} {lo a b r c : Nat} : cnt m R fl lo (a + b) r c = cnt m R fl lo a r c + cnt m R fl (lo + a) b r c := by
  unfold cnt
  rw [sm_addn]
  congr 1
  exact sm_congr fun k _ => by rw [Nat.add_assoc]
theorem cnt_period {m : Mn} {R : Nat} {fl : List Shot} {lo n r c : Nat} (hR : 0 < R) : cnt m R fl (lo + (fmV fl).length * (4 * R)) n r c = cnt m R fl lo n r c := by
  unfold cnt
  refine sm_congr fun k _ => ?_
  rw [show lo + (fmV fl).length * (4 * R) + k = lo + k + (fmV fl).length * (4 * R) by omega]
  exact lt_period hR _
theorem pcAt_period {R : Nat} {fl : List Shot} {t : Nat} (hR : 0 < R) : pcAt R fl (t + (fmV fl).length * (4 * R)) = pcAt R fl t := by
  unfold pcAt
  rw [Nat.add_mul_div_right _ _ (by omega), Nat.add_mod_right]
theorem rwAt_period {R : Nat} {n t : Nat} : rwAt R (t + n * (4 * R)) = rwAt R t := by unfold rwAt; rw [Nat.add_mul_mod_self_right]
theorem tuAt_period {R : Nat} {n t : Nat} : tuAt R (t + n * (4 * R)) = tuAt R t := by unfold tuAt; rw [Nat.add_mul_mod_self_right]
end Ev.Vw

end
section
set_option maxRecDepth 100000
set_option maxHeartbeats 4000000
namespace Ev.Vw
open PySem Ev
/-! ### same to the eye -/
def sumsL (R C : Nat) (fl : List Shot) : List Int := (List.range R).flatMap fun r => (List.range C).map fun c => tots fl r c
def intD (l : List Int) : D := .lst (l.map .int)
theorem eqvL_ints : ∀ {l m : List Int}, eqvL (l.map D.int) (m.map D.int) = decide (l = m)
  | [], [] => by simp [eqvL]
  | [], _ :: _ => by simp [eqvL]
  | _ :: _, [] => by simp [eqvL]
  | a :: l, b :: m => by
    simp only [List.map_cons, eqvL, eqv, eqvL_ints]
    rw [Bool.eq_iff_iff]
    simp
theorem eq_intD {l m : List Int} : cop .eq (intD l) (intD m) = some (decide (l = m)) := by
  have h1 : ∀ l : List Int, okD 50 (intD l) = true := fun l => by simp [okD, intD]
  have e : cop .eq (intD l) (intD m) = some (eqv (intD l) (intD m)) := by
    have h1' := h1 l
    have h2' := h1 m
    unfold intD at *
    simp only [cop, eqD, h1', h2', Bool.and_self, if_true]
  rw [e]
  unfold intD
  simp only [eqv, eqvL_ints]
theorem tots_le {R C : Nat} {fl : List Shot} (p : Fm R C fl) {r c : Nat} (hr : r < R) (hc : c < C) : 0 ≤ tots fl r c ∧ tots fl r c ≤ 48 := by
  have gen : ∀ l : List (Nat → Nat → Int), (∀ f ∈ l, Shd R C f) → 0 ≤ (l.map fun f => f r c).sum ∧ (l.map fun f => f r c).sum ≤ 4 * (l.length : Int) := by
    intro l
    induction l with
    | nil => intro _; simp
    | cons f l ih =>
      intro h
      have ih := ih fun g hg => h g (List.mem_cons_of_mem _ hg)
      have := h f List.mem_cons_self r c hr hc
      rw [List.map_cons, List.sum_cons, List.length_cons]
      omega
  have := gen (fmV fl) (fmV_mem p)
  have l := p.len
  unfold tots
  omega
def S_sums_of (Φ : Fns) : Prop := ∀ (R C : Nat) (fl : List Shot), Fm R C fl → Φ "sums_of" [filmD R C fl] = M.pure (intD (sumsL R C fl))
theorem sp_sums_of {Φ : Fns} (h1 : S_size_of Φ) (h2 : S_shown Φ) (R C : Nat) (fl : List Shot) (p : Fm R C fl) : runFn Φ fn_sums_of [filmD R C fl] = M.pure (intD (sumsL R C fl)) := by
  obtain ⟨x0, r, hx⟩ := p.head
  have r1 := p.r1
  have r4 := p.r4
  have c6 := p.c6
  have rR : R ≤ 16777216 := by omega
  have rC : C ≤ 16777216 := by omega
  have ix : ixD (filmD R C fl) (.int 0) = some (shotD R C x0) := by rw [hx]; exact ix_film0
  have e2 := h2 R C fl p
  refine run_go [.val (filmD R C fl), .emp, .emp, .emp, .emp, .emp, .emp] ?_
  simp only [fn_sums_of]
  refine Go.asgS (.tup [.int R, .int C]) (by try simp only [e_var, e_pk, e_cst, e_glo, e_bin, e_neg, e_not, e_cmp, e_chn, e_boo, e_ite, e_tup, e_lst, e_ix, e_slc, e_rev, e_call, e_blt, e_isi, e_comp, a_nil, a_cons, b_one, b_cons, t_nil, t_one, s_skip, s_seq, s_asg, s_own, s_frz, s_set, s_app, s_ext, s_expr, s_ret, s_ite, s_loop, M.pure_bind, M.lift_some, M.calm_pure, M.bind_assoc, asBl, List.getElem?_cons_zero, List.getElem?_cons_succ, List.set_cons_zero, List.set_cons_succ, Option.map_some, put, putAll, if_true, if_false, Bool.false_eq_true, Bool.true_eq_false, Bool.not_true, Bool.not_false, Cn.d, partD, List.map_cons, List.map_nil, Ev.wipe, o_add, o_sub, o_mull, o_mulr, o_mod, o_div, o_addt, o_addl, o_lt, o_le, o_gt, o_ge, eq_int, ne_int, u_lenl, u_lent, u_lens, u_max, u_min, u_abs, u_tupl, u_tupt, i_int, i_bool, i_tup, i_rng1, i_lst, i_tupl, len_pic, len_row, ix, ix_shot0, h1 R C x0.1 r1]) rfl ?_; simp only [List.set_cons_succ, List.set_cons_zero]
  refine Go.ownS [] (by try simp only [e_var, e_pk, e_cst, e_glo, e_bin, e_neg, e_not, e_cmp, e_chn, e_boo, e_ite, e_tup, e_lst, e_ix, e_slc, e_rev, e_call, e_blt, e_isi, e_comp, a_nil, a_cons, b_one, b_cons, t_nil, t_one, s_skip, s_seq, s_asg, s_own, s_frz, s_set, s_app, s_ext, s_expr, s_ret, s_ite, s_loop, M.pure_bind, M.lift_some, M.calm_pure, M.bind_assoc, asBl, List.getElem?_cons_zero, List.getElem?_cons_succ, List.set_cons_zero, List.set_cons_succ, Option.map_some, put, putAll, if_true, if_false, Bool.false_eq_true, Bool.true_eq_false, Bool.not_true, Bool.not_false, Cn.d, partD, List.map_cons, List.map_nil, Ev.wipe, o_add, o_sub, o_mull, o_mulr, o_mod, o_div, o_addt, o_addl, o_lt, o_le, o_gt, o_ge, eq_int, ne_int, u_lenl, u_lent, u_lens, u_max, u_min, u_abs, u_tupl, u_tupt, i_int, i_bool, i_tup, i_rng1, i_lst, i_tupl, len_pic, len_row]) ?_; simp only [List.set_cons_succ, List.set_cons_zero]
  refine Go.forR (n := R) (emb := fun j => .int (j : Nat)) (ds := [.int R]) (by try simp only [e_var, e_pk, e_cst, e_glo, e_bin, e_neg, e_not, e_cmp, e_chn, e_boo, e_ite, e_tup, e_lst, e_ix, e_slc, e_rev, e_call, e_blt, e_isi, e_comp, a_nil, a_cons, b_one, b_cons, t_nil, t_one, s_skip, s_seq, s_asg, s_own, s_frz, s_set, s_app, s_ext, s_expr, s_ret, s_ite, s_loop, M.pure_bind, M.lift_some, M.calm_pure, M.bind_assoc, asBl, List.getElem?_cons_zero, List.getElem?_cons_succ, List.set_cons_zero, List.set_cons_succ, Option.map_some, put, putAll, if_true, if_false, Bool.false_eq_true, Bool.true_eq_false, Bool.not_true, Bool.not_false, Cn.d, partD, List.map_cons, List.map_nil, Ev.wipe, o_add, o_sub, o_mull, o_mulr, o_mod, o_div, o_addt, o_addl, o_lt, o_le, o_gt, o_ge, eq_int, ne_int, u_lenl, u_lent, u_lens, u_max, u_min, u_abs, u_tupl, u_tupt, i_int, i_bool, i_tup, i_rng1, i_lst, i_tupl, len_pic, len_row]) (i_rng1 rR) (fun i ρ => ∃ v4 v5 v6, ρ = [.val (filmD R C fl), .val (.int R), .val (.int C), .own (((List.range i).flatMap fun r => (List.range C).map fun c => tots fl r c).map .int), v4, v5, v6]) ⟨_, _, _, rfl⟩ ?_ ?_
  · rintro i ρ hi ⟨v4, v5, v6, rfl⟩
    refine ⟨_, rfl, ?_⟩
    simp only [List.set_cons_succ, List.set_cons_zero]
    refine Go.extS ((List.range C).map fun c => .int (tots fl i c)) rfl ?_ ?_ ?_
    · rw [comp_eqR (emb := fun k => .int (k : Nat)) (ds := [.int C]) (fun c => .int (tots fl i c)) (by try simp only [e_var, e_pk, e_cst, e_glo, e_bin, e_neg, e_not, e_cmp, e_chn, e_boo, e_ite, e_tup, e_lst, e_ix, e_slc, e_rev, e_call, e_blt, e_isi, e_comp, a_nil, a_cons, b_one, b_cons, t_nil, t_one, s_skip, s_seq, s_asg, s_own, s_frz, s_set, s_app, s_ext, s_expr, s_ret, s_ite, s_loop, M.pure_bind, M.lift_some, M.calm_pure, M.bind_assoc, asBl, List.getElem?_cons_zero, List.getElem?_cons_succ, List.set_cons_zero, List.set_cons_succ, Option.map_some, put, putAll, if_true, if_false, Bool.false_eq_true, Bool.true_eq_false, Bool.not_true, Bool.not_false, Cn.d, partD, List.map_cons, List.map_nil, Ev.wipe, o_add, o_sub, o_mull, o_mulr, o_mod, o_div, o_addt, o_addl, o_lt, o_le, o_gt, o_ge, eq_int, ne_int, u_lenl, u_lent, u_lens, u_max, u_min, u_abs, u_tupl, u_tupt, i_int, i_bool, i_tup, i_rng1, i_lst, i_tupl, len_pic, len_row]) (i_rng1 rC) (fun c hc => ?_)]
      unfold oneC
      try simp only [e_var, e_pk, e_cst, e_glo, e_bin, e_neg, e_not, e_cmp, e_chn, e_boo, e_ite, e_tup, e_lst, e_ix, e_slc, e_rev, e_call, e_blt, e_isi, e_comp, a_nil, a_cons, b_one, b_cons, t_nil, t_one, s_skip, s_seq, s_asg, s_own, s_frz, s_set, s_app, s_ext, s_expr, s_ret, s_ite, s_loop, M.pure_bind, M.lift_some, M.calm_pure, M.bind_assoc, asBl, List.getElem?_cons_zero, List.getElem?_cons_succ, List.set_cons_zero, List.set_cons_succ, Option.map_some, put, putAll, if_true, if_false, Bool.false_eq_true, Bool.true_eq_false, Bool.not_true, Bool.not_false, Cn.d, partD, List.map_cons, List.map_nil, Ev.wipe, o_add, o_sub, o_mull, o_mulr, o_mod, o_div, o_addt, o_addl, o_lt, o_le, o_gt, o_ge, eq_int, ne_int, u_lenl, u_lent, u_lens, u_max, u_min, u_abs, u_tupl, u_tupt, i_int, i_bool, i_tup, i_rng1, i_lst, i_tupl, len_pic, len_row, e2]
      refine Go.comp (fun f => .int (f i c)) (fun f hf => ?_) ?_
      · unfold oneC
        try simp only [e_var, e_pk, e_cst, e_glo, e_bin, e_neg, e_not, e_cmp, e_chn, e_boo, e_ite, e_tup, e_lst, e_ix, e_slc, e_rev, e_call, e_blt, e_isi, e_comp, a_nil, a_cons, b_one, b_cons, t_nil, t_one, s_skip, s_seq, s_asg, s_own, s_frz, s_set, s_app, s_ext, s_expr, s_ret, s_ite, s_loop, M.pure_bind, M.lift_some, M.calm_pure, M.bind_assoc, asBl, List.getElem?_cons_zero, List.getElem?_cons_succ, List.set_cons_zero, List.set_cons_succ, Option.map_some, put, putAll, if_true, if_false, Bool.false_eq_true, Bool.true_eq_false, Bool.not_true, Bool.not_false, Cn.d, partD, List.map_cons, List.map_nil, Ev.wipe, o_add, o_sub, o_mull, o_mulr, o_mod, o_div, o_addt, o_addl, o_lt, o_le, o_gt, o_ge, eq_int, ne_int, u_lenl, u_lent, u_lens, u_max, u_min, u_abs, u_tupl, u_tupt, i_int, i_bool, i_tup, i_rng1, i_lst, i_tupl, len_pic, len_row, ix_pic hi, ix_row hc]
        exact .pure rfl
      · try simp only [e_var, e_pk, e_cst, e_glo, e_bin, e_neg, e_not, e_cmp, e_chn, e_boo, e_ite, e_tup, e_lst, e_ix, e_slc, e_rev, e_call, e_blt, e_isi, e_comp, a_nil, a_cons, b_one, b_cons, t_nil, t_one, s_skip, s_seq, s_asg, s_own, s_frz, s_set, s_app, s_ext, s_expr, s_ret, s_ite, s_loop, M.pure_bind, M.lift_some, M.calm_pure, M.bind_assoc, asBl, List.getElem?_cons_zero, List.getElem?_cons_succ, List.set_cons_zero, List.set_cons_succ, Option.map_some, put, putAll, if_true, if_false, Bool.false_eq_true, Bool.true_eq_false, Bool.not_true, Bool.not_false, Cn.d, partD, List.map_cons, List.map_nil, Ev.wipe, o_add, o_sub, o_mull, o_mulr, o_mod, o_div, o_addt, o_addl, o_lt, o_le, o_gt, o_ge, eq_int, ne_int, u_lenl, u_lent, u_lens, u_max, u_min, u_abs, u_tupl, u_tupt, i_int, i_bool, i_tup, i_rng1, i_lst, i_tupl, len_pic, len_row, u_sumL]
        exact .pure rfl
    · have : ((List.range i).flatMap fun r => (List.range C).map fun c => tots fl r c).length = i * C := by
        rw [List.length_flatMap, List.map_congr_left (g := fun _ => C) (fun a _ => by simp), List.map_const', List.length_range, List.sum_replicate_nat]
      simp only [List.length_map, List.length_range, this]
      have : i * C ≤ 4 * 6 := Nat.mul_le_mul (by omega) c6
      omega
    · simp only [List.set_cons_succ, List.set_cons_zero]
      have e : ((List.range (i + 1)).flatMap fun r => (List.range C).map fun c => tots fl r c).map D.int = ((List.range i).flatMap fun r => (List.range C).map fun c => tots fl r c).map D.int ++ (List.range C).map fun c => D.int (tots fl i c) := by
        rw [List.range_succ, List.flatMap_append, List.map_append]
        congr 1
        simp
      exact Go.skipS ⟨rfl, by rw [e]; exact ⟨_, _, _, rfl⟩⟩
  · rintro ρ ⟨v4, v5, v6, rfl⟩
    refine Go.frzS rfl ?_; simp only [List.set_cons_succ, List.set_cons_zero]
    exact Go.retS (intD (sumsL R C fl)) (by try simp only [e_var, e_pk, e_cst, e_glo, e_bin, e_neg, e_not, e_cmp, e_chn, e_boo, e_ite, e_tup, e_lst, e_ix, e_slc, e_rev, e_call, e_blt, e_isi, e_comp, a_nil, a_cons, b_one, b_cons, t_nil, t_one, s_skip, s_seq, s_asg, s_own, s_frz, s_set, s_app, s_ext, s_expr, s_ret, s_ite, s_loop, M.pure_bind, M.lift_some, M.calm_pure, M.bind_assoc, asBl, List.getElem?_cons_zero, List.getElem?_cons_succ, List.set_cons_zero, List.set_cons_succ, Option.map_some, put, putAll, if_true, if_false, Bool.false_eq_true, Bool.true_eq_false, Bool.not_true, Bool.not_false, Cn.d, partD, List.map_cons, List.map_nil, Ev.wipe, o_add, o_sub, o_mull, o_mulr, o_mod, o_div, o_addt, o_addl, o_lt, o_le, o_gt, o_ge, eq_int, ne_int, u_lenl, u_lent, u_lens, u_max, u_min, u_abs, u_tupl, u_tupt, i_int, i_bool, i_tup, i_rng1, i_lst, i_tupl, len_pic, len_row]; exact rfl) rfl
def sameB (R C : Nat) (fl gl : List Shot) : Bool := decide ((sumsL R C fl).map (fun i : Int => i * (((fmV gl).length : Nat) : Int)) = (sumsL R C gl).map fun i : Int => i * (((fmV fl).length : Nat) : Int))
def S_same_to_eye (Φ : Fns) : Prop := ∀ (R C : Nat) (fl gl : List Shot), Fm R C fl → Fm R C gl → Φ "same_to_eye" [filmD R C fl, filmD R C gl] = M.pure (.bl (sameB R C fl gl))
theorem sp_same_to_eye {Φ : Fns} (h0 : S_need_film Φ) (h1 : S_size_of Φ) (h2 : S_shown Φ) (h3 : S_sums_of Φ) (R C : Nat) (fl gl : List Shot) (p : Fm R C fl) (q : Fm R C gl) : runFn Φ fn_same_to_eye [filmD R C fl, filmD R C gl] = M.pure (.bl (sameB R C fl gl)) := by
  obtain ⟨x0, r, hx⟩ := p.head
  obtain ⟨y0, r', hy⟩ := q.head
  have r1 := p.r1
  have ix : ixD (filmD R C fl) (.int 0) = some (shotD R C x0) := by rw [hx]; exact ix_film0
  have iy : ixD (filmD R C gl) (.int 0) = some (shotD R C y0) := by rw [hy]; exact ix_film0
  have lf := p.len
  have lg := q.len
  refine run_go [.val (filmD R C fl), .val (filmD R C gl), .emp, .emp, .emp] ?_
  simp only [fn_same_to_eye]
  refine Go.exprS .non (by try simp only [e_var, e_pk, e_cst, e_glo, e_bin, e_neg, e_not, e_cmp, e_chn, e_boo, e_ite, e_tup, e_lst, e_ix, e_slc, e_rev, e_call, e_blt, e_isi, e_comp, a_nil, a_cons, b_one, b_cons, t_nil, t_one, s_skip, s_seq, s_asg, s_own, s_frz, s_set, s_app, s_ext, s_expr, s_ret, s_ite, s_loop, M.pure_bind, M.lift_some, M.calm_pure, M.bind_assoc, asBl, List.getElem?_cons_zero, List.getElem?_cons_succ, List.set_cons_zero, List.set_cons_succ, Option.map_some, put, putAll, if_true, if_false, Bool.false_eq_true, Bool.true_eq_false, Bool.not_true, Bool.not_false, Cn.d, partD, List.map_cons, List.map_nil, Ev.wipe, o_add, o_sub, o_mull, o_mulr, o_mod, o_div, o_addt, o_addl, o_lt, o_le, o_gt, o_ge, eq_int, ne_int, u_lenl, u_lent, u_lens, u_max, u_min, u_abs, u_tupl, u_tupt, i_int, i_bool, i_tup, i_rng1, i_lst, i_tupl, len_pic, len_row, h0 R C fl p]) ?_
  refine Go.exprS .non (by try simp only [e_var, e_pk, e_cst, e_glo, e_bin, e_neg, e_not, e_cmp, e_chn, e_boo, e_ite, e_tup, e_lst, e_ix, e_slc, e_rev, e_call, e_blt, e_isi, e_comp, a_nil, a_cons, b_one, b_cons, t_nil, t_one, s_skip, s_seq, s_asg, s_own, s_frz, s_set, s_app, s_ext, s_expr, s_ret, s_ite, s_loop, M.pure_bind, M.lift_some, M.calm_pure, M.bind_assoc, asBl, List.getElem?_cons_zero, List.getElem?_cons_succ, List.set_cons_zero, List.set_cons_succ, Option.map_some, put, putAll, if_true, if_false, Bool.false_eq_true, Bool.true_eq_false, Bool.not_true, Bool.not_false, Cn.d, partD, List.map_cons, List.map_nil, Ev.wipe, o_add, o_sub, o_mull, o_mulr, o_mod, o_div, o_addt, o_addl, o_lt, o_le, o_gt, o_ge, eq_int, ne_int, u_lenl, u_lent, u_lens, u_max, u_min, u_abs, u_tupl, u_tupt, i_int, i_bool, i_tup, i_rng1, i_lst, i_tupl, len_pic, len_row, h0 R C gl q]) ?_
  refine Go.if0 (by try simp only [e_var, e_pk, e_cst, e_glo, e_bin, e_neg, e_not, e_cmp, e_chn, e_boo, e_ite, e_tup, e_lst, e_ix, e_slc, e_rev, e_call, e_blt, e_isi, e_comp, a_nil, a_cons, b_one, b_cons, t_nil, t_one, s_skip, s_seq, s_asg, s_own, s_frz, s_set, s_app, s_ext, s_expr, s_ret, s_ite, s_loop, M.pure_bind, M.lift_some, M.calm_pure, M.bind_assoc, asBl, List.getElem?_cons_zero, List.getElem?_cons_succ, List.set_cons_zero, List.set_cons_succ, Option.map_some, put, putAll, if_true, if_false, Bool.false_eq_true, Bool.true_eq_false, Bool.not_true, Bool.not_false, Cn.d, partD, List.map_cons, List.map_nil, Ev.wipe, o_add, o_sub, o_mull, o_mulr, o_mod, o_div, o_addt, o_addl, o_lt, o_le, o_gt, o_ge, eq_int, ne_int, u_lenl, u_lent, u_lens, u_max, u_min, u_abs, u_tupl, u_tupt, i_int, i_bool, i_tup, i_rng1, i_lst, i_tupl, len_pic, len_row, ix, iy, ix_shot0, h1 R C x0.1 r1, h1 R C y0.1 r1, ne_pair]) ?_
  refine Go.asgS (intD (sumsL R C fl)) (by try simp only [e_var, e_pk, e_cst, e_glo, e_bin, e_neg, e_not, e_cmp, e_chn, e_boo, e_ite, e_tup, e_lst, e_ix, e_slc, e_rev, e_call, e_blt, e_isi, e_comp, a_nil, a_cons, b_one, b_cons, t_nil, t_one, s_skip, s_seq, s_asg, s_own, s_frz, s_set, s_app, s_ext, s_expr, s_ret, s_ite, s_loop, M.pure_bind, M.lift_some, M.calm_pure, M.bind_assoc, asBl, List.getElem?_cons_zero, List.getElem?_cons_succ, List.set_cons_zero, List.set_cons_succ, Option.map_some, put, putAll, if_true, if_false, Bool.false_eq_true, Bool.true_eq_false, Bool.not_true, Bool.not_false, Cn.d, partD, List.map_cons, List.map_nil, Ev.wipe, o_add, o_sub, o_mull, o_mulr, o_mod, o_div, o_addt, o_addl, o_lt, o_le, o_gt, o_ge, eq_int, ne_int, u_lenl, u_lent, u_lens, u_max, u_min, u_abs, u_tupl, u_tupt, i_int, i_bool, i_tup, i_rng1, i_lst, i_tupl, len_pic, len_row, h3 R C fl p]) rfl ?_; simp only [List.set_cons_succ, List.set_cons_zero]
  refine Go.asgS (intD (sumsL R C gl)) (by try simp only [e_var, e_pk, e_cst, e_glo, e_bin, e_neg, e_not, e_cmp, e_chn, e_boo, e_ite, e_tup, e_lst, e_ix, e_slc, e_rev, e_call, e_blt, e_isi, e_comp, a_nil, a_cons, b_one, b_cons, t_nil, t_one, s_skip, s_seq, s_asg, s_own, s_frz, s_set, s_app, s_ext, s_expr, s_ret, s_ite, s_loop, M.pure_bind, M.lift_some, M.calm_pure, M.bind_assoc, asBl, List.getElem?_cons_zero, List.getElem?_cons_succ, List.set_cons_zero, List.set_cons_succ, Option.map_some, put, putAll, if_true, if_false, Bool.false_eq_true, Bool.true_eq_false, Bool.not_true, Bool.not_false, Cn.d, partD, List.map_cons, List.map_nil, Ev.wipe, o_add, o_sub, o_mull, o_mulr, o_mod, o_div, o_addt, o_addl, o_lt, o_le, o_gt, o_ge, eq_int, ne_int, u_lenl, u_lent, u_lens, u_max, u_min, u_abs, u_tupl, u_tupt, i_int, i_bool, i_tup, i_rng1, i_lst, i_tupl, len_pic, len_row, h3 R C gl q]) rfl ?_; simp only [List.set_cons_succ, List.set_cons_zero]
  refine Go.retS _ ?_ rfl
  have s1 : smallI ((fmV gl).length : Nat) = true := small_of (by omega) (by omega)
  have s2 : smallI ((fmV fl).length : Nat) = true := small_of (by omega) (by omega)
  rw [e_cmp]
  rw [comp_eq (l := sumsL R C fl) (emb := D.int) (ds := [intD (sumsL R C fl)]) (fun i => .int (i * ((fmV gl).length : Nat))) (by try simp only [e_var, e_pk, e_cst, e_glo, e_bin, e_neg, e_not, e_cmp, e_chn, e_boo, e_ite, e_tup, e_lst, e_ix, e_slc, e_rev, e_call, e_blt, e_isi, e_comp, a_nil, a_cons, b_one, b_cons, t_nil, t_one, s_skip, s_seq, s_asg, s_own, s_frz, s_set, s_app, s_ext, s_expr, s_ret, s_ite, s_loop, M.pure_bind, M.lift_some, M.calm_pure, M.bind_assoc, asBl, List.getElem?_cons_zero, List.getElem?_cons_succ, List.set_cons_zero, List.set_cons_succ, Option.map_some, put, putAll, if_true, if_false, Bool.false_eq_true, Bool.true_eq_false, Bool.not_true, Bool.not_false, Cn.d, partD, List.map_cons, List.map_nil, Ev.wipe, o_add, o_sub, o_mull, o_mulr, o_mod, o_div, o_addt, o_addl, o_lt, o_le, o_gt, o_ge, eq_int, ne_int, u_lenl, u_lent, u_lens, u_max, u_min, u_abs, u_tupl, u_tupt, i_int, i_bool, i_tup, i_rng1, i_lst, i_tupl, len_pic, len_row]) rfl (fun i _ => by
    unfold oneC
    try simp only [e_var, e_pk, e_cst, e_glo, e_bin, e_neg, e_not, e_cmp, e_chn, e_boo, e_ite, e_tup, e_lst, e_ix, e_slc, e_rev, e_call, e_blt, e_isi, e_comp, a_nil, a_cons, b_one, b_cons, t_nil, t_one, s_skip, s_seq, s_asg, s_own, s_frz, s_set, s_app, s_ext, s_expr, s_ret, s_ite, s_loop, M.pure_bind, M.lift_some, M.calm_pure, M.bind_assoc, asBl, List.getElem?_cons_zero, List.getElem?_cons_succ, List.set_cons_zero, List.set_cons_succ, Option.map_some, put, putAll, if_true, if_false, Bool.false_eq_true, Bool.true_eq_false, Bool.not_true, Bool.not_false, Cn.d, partD, List.map_cons, List.map_nil, Ev.wipe, o_add, o_sub, o_mull, o_mulr, o_mod, o_div, o_addt, o_addl, o_lt, o_le, o_gt, o_ge, eq_int, ne_int, u_lenl, u_lent, u_lens, u_max, u_min, u_abs, u_tupl, u_tupt, i_int, i_bool, i_tup, i_rng1, i_lst, i_tupl, len_pic, len_row, h2 R C gl q, List.length_map, s1]
    exact .pure rfl)]
  rw [comp_eq (l := sumsL R C gl) (emb := D.int) (ds := [intD (sumsL R C gl)]) (fun i => .int (i * ((fmV fl).length : Nat))) (by try simp only [e_var, e_pk, e_cst, e_glo, e_bin, e_neg, e_not, e_cmp, e_chn, e_boo, e_ite, e_tup, e_lst, e_ix, e_slc, e_rev, e_call, e_blt, e_isi, e_comp, a_nil, a_cons, b_one, b_cons, t_nil, t_one, s_skip, s_seq, s_asg, s_own, s_frz, s_set, s_app, s_ext, s_expr, s_ret, s_ite, s_loop, M.pure_bind, M.lift_some, M.calm_pure, M.bind_assoc, asBl, List.getElem?_cons_zero, List.getElem?_cons_succ, List.set_cons_zero, List.set_cons_succ, Option.map_some, put, putAll, if_true, if_false, Bool.false_eq_true, Bool.true_eq_false, Bool.not_true, Bool.not_false, Cn.d, partD, List.map_cons, List.map_nil, Ev.wipe, o_add, o_sub, o_mull, o_mulr, o_mod, o_div, o_addt, o_addl, o_lt, o_le, o_gt, o_ge, eq_int, ne_int, u_lenl, u_lent, u_lens, u_max, u_min, u_abs, u_tupl, u_tupt, i_int, i_bool, i_tup, i_rng1, i_lst, i_tupl, len_pic, len_row]) rfl (fun i _ => by
    unfold oneC
    try simp only [e_var, e_pk, e_cst, e_glo, e_bin, e_neg, e_not, e_cmp, e_chn, e_boo, e_ite, e_tup, e_lst, e_ix, e_slc, e_rev, e_call, e_blt, e_isi, e_comp, a_nil, a_cons, b_one, b_cons, t_nil, t_one, s_skip, s_seq, s_asg, s_own, s_frz, s_set, s_app, s_ext, s_expr, s_ret, s_ite, s_loop, M.pure_bind, M.lift_some, M.calm_pure, M.bind_assoc, asBl, List.getElem?_cons_zero, List.getElem?_cons_succ, List.set_cons_zero, List.set_cons_succ, Option.map_some, put, putAll, if_true, if_false, Bool.false_eq_true, Bool.true_eq_false, Bool.not_true, Bool.not_false, Cn.d, partD, List.map_cons, List.map_nil, Ev.wipe, o_add, o_sub, o_mull, o_mulr, o_mod, o_div, o_addt, o_addl, o_lt, o_le, o_gt, o_ge, eq_int, ne_int, u_lenl, u_lent, u_lens, u_max, u_min, u_abs, u_tupl, u_tupt, i_int, i_bool, i_tup, i_rng1, i_lst, i_tupl, len_pic, len_row, h2 R C fl p, List.length_map, s2]
    exact .pure rfl)]
  have w1 : (.lst ((sumsL R C fl).map fun i => .int (i * ((fmV gl).length : Nat))) : D) = intD ((sumsL R C fl).map fun i : Int => i * (((fmV gl).length : Nat) : Int)) := by unfold intD; rw [List.map_map]; rfl
  have w2 : (.lst ((sumsL R C gl).map fun i => .int (i * ((fmV fl).length : Nat))) : D) = intD ((sumsL R C gl).map fun i : Int => i * (((fmV fl).length : Nat) : Int)) := by unfold intD; rw [List.map_map]; rfl
  rw [w1, w2]
  try simp only [e_var, e_pk, e_cst, e_glo, e_bin, e_neg, e_not, e_cmp, e_chn, e_boo, e_ite, e_tup, e_lst, e_ix, e_slc, e_rev, e_call, e_blt, e_isi, e_comp, a_nil, a_cons, b_one, b_cons, t_nil, t_one, s_skip, s_seq, s_asg, s_own, s_frz, s_set, s_app, s_ext, s_expr, s_ret, s_ite, s_loop, M.pure_bind, M.lift_some, M.calm_pure, M.bind_assoc, asBl, List.getElem?_cons_zero, List.getElem?_cons_succ, List.set_cons_zero, List.set_cons_succ, Option.map_some, put, putAll, if_true, if_false, Bool.false_eq_true, Bool.true_eq_false, Bool.not_true, Bool.not_false, Cn.d, partD, List.map_cons, List.map_nil, Ev.wipe, o_add, o_sub, o_mull, o_mulr, o_mod, o_div, o_addt, o_addl, o_lt, o_le, o_gt, o_ge, eq_int, ne_int, u_lenl, u_lent, u_lens, u_max, u_min, u_abs, u_tupl, u_tupt, i_int, i_bool, i_tup, i_rng1, i_lst, i_tupl, len_pic, len_row, eq_intD]
  rfl
theorem same_of {R C : Nat} {fl gl : List Shot} (h : ∀ r c, r < R → c < C → tots fl r c * ((fmV gl).length : Nat) = tots gl r c * ((fmV fl).length : Nat)) : sameB R C fl gl = true := by
  unfold sameB sumsL
  rw [decide_eq_true_eq, List.map_flatMap, List.map_flatMap]
  have : ∀ l : List Nat, (∀ r ∈ l, r < R) → (l.flatMap fun r => ((List.range C).map fun c => tots fl r c).map fun i : Int => i * (((fmV gl).length : Nat) : Int)) = l.flatMap fun r => ((List.range C).map fun c => tots gl r c).map fun i : Int => i * (((fmV fl).length : Nat) : Int) := by
    intro l
    induction l with
    | nil => intro _; rfl
    | cons r l ih =>
      intro hl
      rw [List.flatMap_cons, List.flatMap_cons, ih fun a ha => hl a (List.mem_cons_of_mem _ ha), List.map_map, List.map_map]
      congr 1
      exact range_map_congr fun c hc => h r c (hl r List.mem_cons_self) hc
  exact this _ fun r hr => List.mem_range.mp hr
end Ev.Vw

end
section
set_option maxRecDepth 100000
set_option maxHeartbeats 4000000
namespace Ev.Vw
open PySem Ev
/-! ### exceptions -/
def thr {α : Type} (c : Str) : M α := fun S => .ex c S
theorem thr_bind {α β : Type} (c : Str) (f : α → M β) : (thr c : M α).bind f = thr c := (rfl)
theorem s_raise {Φ : Fns} {ρ : Env} {c : Str} : evS Φ (.raise c) ρ = thr c := by simp only [evS] <;> rfl
theorem s_try_ok {Φ : Fns} {ρ : Env} {b : S} {c : Str} {i : Nat} {es : List Str} {h : Hd} {r : Fl × Env} (e : evS Φ b ρ = M.pure r) : evS Φ (.tryR b c i es h) ρ = M.pure r := by
  funext S
  simp only [evS, e]
  rfl
theorem s_try_ex {Φ : Fns} {ρ : Env} {b : S} {c c' : Str} {i : Nat} {es : List Str} {h : Hd} (e : evS Φ b ρ = thr c') (h1 : es.contains c' = true) (h2 : subC c' c = true) : evS Φ (.tryR b c i es h) ρ = M.pure (.rt (hdD h c'), ρ) := by
  funext S
  simp only [evS, e, thr, h1, h2, if_true]
  rfl
theorem run_thr {Φ : Fns} {F : Fn} {ds : List D} {c : Str} (ρ0 : Env) (h : evS Φ F.body ρ0 = thr c) (h0 : startE F.N ds = ρ0 := by rfl) (hl : ds.length = F.ps.length := by rfl) : runFn Φ F ds = thr c := by
  unfold runFn
  rw [if_pos hl, h0, h]
  rfl
theorem e_inr {Φ : Fns} {ρ : Env} {k : Bool} {a b : E} : evE Φ (.inr k a b) ρ = (evE Φ a ρ).bind fun x => (evE Φ b ρ).bind fun y => M.lift ((inRng x y).map fun c => .bl (c == k)) := by simp only [evE]
theorem e_lrg {Φ : Fns} {ρ : Env} {a : E} : evE Φ (.lrg a) ρ = (evE Φ a ρ).bind fun x => M.lift ((itRng1 [x]).map .lst) := by simp only [evE]
theorem e_mth {Φ : Fns} {ρ : Env} {m : Mt} {a l : E} : evE Φ (.mth m a l) ρ = (evE Φ a ρ).bind fun x => (M.lift (if mthT m x then some () else none)).bind fun _ => (evA Φ l ρ).bind fun ds => M.lift (mthD m x ds) := by simp only [evE]
theorem o_inr {i n : Int} : inRng (.int i) (.int n) = some (decide (0 ≤ i ∧ i < n)) := (rfl)
theorem comp_L {Φ : Fns} {ρ : Env} {k : Ik} {src cnd elt : E} {tg : T} {own : List (Str × Nat)} {ds l : List D} (g : D → D) (h1 : evA Φ src ρ = M.pure ds) (h2 : itm k ds = some l)
    (h : ∀ a ∈ l, Go (oneC Φ tg (own.map (·.2)) cnd elt ρ a) fun o => o = some (g a)) : evE Φ (.comp k src tg own cnd elt) ρ = M.pure (.lst (l.map g)) :=
  comp_eq (emb := id) g h1 (by rw [h2, List.map_id]) h
theorem dec_nat {a b : Nat} : decide ((a : Int) = (b : Int)) = decide (a = b) := decide_eq_decide.mpr (by omega)
theorem Go.ifRet {Φ : Fns} {ρ : Env} {P : Fl × Env → Prop} {c e : E} {b rest : S} {d : D} (h : evE Φ c ρ = M.pure (.bl true)) (h2 : evE Φ e ρ = M.pure d) (k : P (.rt d, ρ)) : Go (evS Φ (.seq (.ite c (.seq (.ret e) .skip) b) rest) ρ) P :=
  Go.if1 h (Go.assoc (Go.retS d h2 k))
/-! ### what is no number, no picture -/
theorem okD_mono : ∀ {m n : Nat} {d : D}, okD m d = true → m ≤ n → okD n d = true
  | 0, _, d, h, _ => by simp [okD] at h
  | m + 1, 0, d, _, h => by omega
  | m + 1, n + 1, d, h, hn => by
    have L : ∀ l : List D, l.all (okD m) = true → l.all (okD n) = true := fun l hl => List.all_eq_true.mpr fun x hx => okD_mono (List.all_eq_true.mp hl x hx) (by omega)
    cases d <;> first
      | (simp [okD] at h; done)
      | (simp [okD]; done)
      | (simp only [okD] at h ⊢; exact h)
      | (simp only [okD] at h ⊢; exact L _ h)
def isTup : D → Bool
  | .tup _ => true
  | _ => false
def lenT : D → Nat
  | .tup l => l.length
  | _ => 0
def itemsT : D → List D
  | .tup l => l
  | _ => []
def isNumD (lo hi : Int) : D → Bool
  | .int i => decide (lo ≤ i) && decide (i ≤ hi)
  | _ => false
theorem isi_tupG {n : Nat} {d : D} (h : okD n d = true) : isiD d "tuple" = some (isTup d) := by
  cases n with
  | zero => simp [okD] at h
  | succ n => cases d <;> first | rfl | (simp [okD] at h; done)
theorem isi_lstG {n : Nat} {d : D} (h : okD n d = true) : isiD d "list" = some (match d with | .lst _ => true | _ => false) := by
  cases n with
  | zero => simp [okD] at h
  | succ n => cases d <;> first | rfl | (simp [okD] at h; done)
theorem isi_strG {n : Nat} {d : D} (h : okD n d = true) : isiD d "str" = some (match d with | .str _ => true | _ => false) := by
  cases n with
  | zero => simp [okD] at h
  | succ n => cases d <;> first | rfl | (simp [okD] at h; done)
theorem isi_intG {n : Nat} {d : D} (h : okD n d = true) : isiD d "int" = some (match d with | .int _ => true | .bl _ => true | _ => false) := by
  cases n with
  | zero => simp [okD] at h
  | succ n => cases d <;> first | rfl | (simp [okD] at h; done)
theorem isi_boolG {n : Nat} {d : D} (h : okD n d = true) : isiD d "bool" = some (match d with | .bl _ => true | _ => false) := by
  cases n with
  | zero => simp [okD] at h
  | succ n => cases d <;> first | rfl | (simp [okD] at h; done)
def S_is_numberG (Φ : Fns) : Prop := ∀ (d : D) (lo hi : Int), okD 40 d = true → Φ "is_number" [d, .int lo, .int hi] = M.pure (.bl (isNumD lo hi d))
theorem sp_is_numberG {Φ : Fns} (d : D) (lo hi : Int) (h : okD 40 d = true) : runFn Φ fn_is_number [d, .int lo, .int hi] = M.pure (.bl (isNumD lo hi d)) := by
  have e1 := isi_intG h
  have e2 := isi_boolG h
  cases d with
  | int i => exact sp_is_number Φ i lo hi
  | bl b =>
    refine run_go [.val (.bl b), .val (.int lo), .val (.int hi)] ?_
    try simp only [e_var, e_pk, e_cst, e_glo, e_bin, e_neg, e_not, e_cmp, e_chn, e_boo, e_ite, e_tup, e_lst, e_ix, e_slc, e_rev, e_call, e_blt, e_isi, e_comp, a_nil, a_cons, b_one, b_cons, t_nil, t_one, s_skip, s_seq, s_asg, s_own, s_frz, s_set, s_app, s_ext, s_expr, s_ret, s_ite, s_loop, M.pure_bind, M.lift_some, M.calm_pure, M.bind_assoc, asBl, List.getElem?_cons_zero, List.getElem?_cons_succ, List.set_cons_zero, List.set_cons_succ, Option.map_some, put, putAll, if_true, if_false, Bool.false_eq_true, Bool.true_eq_false, Bool.not_true, Bool.not_false, Cn.d, partD, List.map_cons, List.map_nil, Ev.wipe, o_add, o_sub, o_mull, o_mulr, o_mod, o_div, o_addt, o_addl, o_lt, o_le, o_gt, o_ge, eq_int, ne_int, u_lenl, u_lent, u_lens, u_max, u_min, u_abs, u_tupl, u_tupt, i_int, i_bool, i_tup, i_rng1, i_lst, i_tupl, len_pic, len_row, fn_is_number, e1, e2]
    exact .pure rfl
  | _ =>
    refine run_go [.val _, .val (.int lo), .val (.int hi)] ?_
    try simp only [e_var, e_pk, e_cst, e_glo, e_bin, e_neg, e_not, e_cmp, e_chn, e_boo, e_ite, e_tup, e_lst, e_ix, e_slc, e_rev, e_call, e_blt, e_isi, e_comp, a_nil, a_cons, b_one, b_cons, t_nil, t_one, s_skip, s_seq, s_asg, s_own, s_frz, s_set, s_app, s_ext, s_expr, s_ret, s_ite, s_loop, M.pure_bind, M.lift_some, M.calm_pure, M.bind_assoc, asBl, List.getElem?_cons_zero, List.getElem?_cons_succ, List.set_cons_zero, List.set_cons_succ, Option.map_some, put, putAll, if_true, if_false, Bool.false_eq_true, Bool.true_eq_false, Bool.not_true, Bool.not_false, Cn.d, partD, List.map_cons, List.map_nil, Ev.wipe, o_add, o_sub, o_mull, o_mulr, o_mod, o_div, o_addt, o_addl, o_lt, o_le, o_gt, o_ge, eq_int, ne_int, u_lenl, u_lent, u_lens, u_max, u_min, u_abs, u_tupl, u_tupt, i_int, i_bool, i_tup, i_rng1, i_lst, i_tupl, len_pic, len_row, fn_is_number, e1, e2]
    exact .pure rfl
def rowsD (w : Nat) (rows : List D) : Bool := decide (1 ≤ rows.length) && decide (rows.length ≤ 4) && rows.all isTup && decide (1 ≤ lenT (rows.getD 0 .non)) && decide (lenT (rows.getD 0 .non) ≤ w) &&
  rows.all (fun r => decide (lenT r = lenT (rows.getD 0 .non))) && rows.all (fun r => (itemsT r).all (isNumD 0 4))
def areRowsD (w : Nat) : D → Bool
  | .tup rows => rowsD w rows
  | _ => false
def isPicD (d : D) : Bool := areRowsD 6 d
theorem all_map_id {α : Type} {l : List α} {p : α → Bool} : (l.map p).all id = l.all p := by
  rw [List.all_map]; rfl
theorem isTup_iff {d : D} (h : isTup d = true) : d = .tup (itemsT d) := by cases d <;> first | rfl | (simp [isTup] at h; done)
theorem len_isTup {d : D} (h : isTup d = true) : blt .len [d] = some (.int (lenT d : Nat)) := by cases d <;> first | rfl | (simp [isTup] at h; done)
def S_are_rowsG (Φ : Fns) : Prop := ∀ (d : D) (w : Nat), okD 40 d = true → Φ "are_rows" [d, .int w] = M.pure (.bl (areRowsD w d))
theorem sp_are_rowsG {Φ : Fns} (hn : S_is_numberG Φ) (d : D) (w : Nat) (ok : okD 40 d = true) : runFn Φ fn_are_rows [d, .int w] = M.pure (.bl (areRowsD w d)) := by
  have e1 := isi_tupG ok
  cases d with
  | tup rows =>
    have okr : ∀ r ∈ rows, okD 39 r = true := List.all_eq_true.mp (by simpa only [okD] using ok)
    refine run_go [.val (.tup rows), .val (.int w), .emp, .emp] ?_
    simp only [fn_are_rows]
    have i0 : isiD (.tup rows) "tuple" = some true := (rfl)
    by_cases h1 : 1 ≤ rows.length ∧ rows.length ≤ 4
    rotate_left
    · have q : areRowsD w (.tup rows) = false := by
        simp only [areRowsD, rowsD]
        by_cases z : 1 ≤ rows.length
        · have : ¬ rows.length ≤ 4 := fun z2 => h1 ⟨z, z2⟩
          simp [this]
        · simp [z]
      rw [q]
      refine Go.ifRet (d := .bl false) ?_ (by try simp only [e_var, e_pk, e_cst, e_glo, e_bin, e_neg, e_not, e_cmp, e_chn, e_boo, e_ite, e_tup, e_lst, e_ix, e_slc, e_rev, e_call, e_blt, e_isi, e_comp, a_nil, a_cons, b_one, b_cons, t_nil, t_one, s_skip, s_seq, s_asg, s_own, s_frz, s_set, s_app, s_ext, s_expr, s_ret, s_ite, s_loop, M.pure_bind, M.lift_some, M.calm_pure, M.bind_assoc, asBl, List.getElem?_cons_zero, List.getElem?_cons_succ, List.set_cons_zero, List.set_cons_succ, Option.map_some, put, putAll, if_true, if_false, Bool.false_eq_true, Bool.true_eq_false, Bool.not_true, Bool.not_false, Cn.d, partD, List.map_cons, List.map_nil, Ev.wipe, o_add, o_sub, o_mull, o_mulr, o_mod, o_div, o_addt, o_addl, o_lt, o_le, o_gt, o_ge, eq_int, ne_int, u_lenl, u_lent, u_lens, u_max, u_min, u_abs, u_tupl, u_tupt, i_int, i_bool, i_tup, i_rng1, i_lst, i_tupl, len_pic, len_row]) rfl
      by_cases z : (1 : Int) ≤ (rows.length : Nat)
      · have z2 : ¬ ((rows.length : Nat) : Int) ≤ 4 := by omega
        try simp only [e_var, e_pk, e_cst, e_glo, e_bin, e_neg, e_not, e_cmp, e_chn, e_boo, e_ite, e_tup, e_lst, e_ix, e_slc, e_rev, e_call, e_blt, e_isi, e_comp, a_nil, a_cons, b_one, b_cons, t_nil, t_one, s_skip, s_seq, s_asg, s_own, s_frz, s_set, s_app, s_ext, s_expr, s_ret, s_ite, s_loop, M.pure_bind, M.lift_some, M.calm_pure, M.bind_assoc, asBl, List.getElem?_cons_zero, List.getElem?_cons_succ, List.set_cons_zero, List.set_cons_succ, Option.map_some, put, putAll, if_true, if_false, Bool.false_eq_true, Bool.true_eq_false, Bool.not_true, Bool.not_false, Cn.d, partD, List.map_cons, List.map_nil, Ev.wipe, o_add, o_sub, o_mull, o_mulr, o_mod, o_div, o_addt, o_addl, o_lt, o_le, o_gt, o_ge, eq_int, ne_int, u_lenl, u_lent, u_lens, u_max, u_min, u_abs, u_tupl, u_tupt, i_int, i_bool, i_tup, i_rng1, i_lst, i_tupl, len_pic, len_row, i0, z, z2, decide_true, decide_false]
      · try simp only [e_var, e_pk, e_cst, e_glo, e_bin, e_neg, e_not, e_cmp, e_chn, e_boo, e_ite, e_tup, e_lst, e_ix, e_slc, e_rev, e_call, e_blt, e_isi, e_comp, a_nil, a_cons, b_one, b_cons, t_nil, t_one, s_skip, s_seq, s_asg, s_own, s_frz, s_set, s_app, s_ext, s_expr, s_ret, s_ite, s_loop, M.pure_bind, M.lift_some, M.calm_pure, M.bind_assoc, asBl, List.getElem?_cons_zero, List.getElem?_cons_succ, List.set_cons_zero, List.set_cons_succ, Option.map_some, put, putAll, if_true, if_false, Bool.false_eq_true, Bool.true_eq_false, Bool.not_true, Bool.not_false, Cn.d, partD, List.map_cons, List.map_nil, Ev.wipe, o_add, o_sub, o_mull, o_mulr, o_mod, o_div, o_addt, o_addl, o_lt, o_le, o_gt, o_ge, eq_int, ne_int, u_lenl, u_lent, u_lens, u_max, u_min, u_abs, u_tupl, u_tupt, i_int, i_bool, i_tup, i_rng1, i_lst, i_tupl, len_pic, len_row, i0, z, decide_true, decide_false]
    obtain ⟨h1, h2⟩ := h1
    have z1 : (1 : Int) ≤ (rows.length : Nat) := by omega
    have z2 : ((rows.length : Nat) : Int) ≤ 4 := by omega
    refine Go.if0 (by try simp only [e_var, e_pk, e_cst, e_glo, e_bin, e_neg, e_not, e_cmp, e_chn, e_boo, e_ite, e_tup, e_lst, e_ix, e_slc, e_rev, e_call, e_blt, e_isi, e_comp, a_nil, a_cons, b_one, b_cons, t_nil, t_one, s_skip, s_seq, s_asg, s_own, s_frz, s_set, s_app, s_ext, s_expr, s_ret, s_ite, s_loop, M.pure_bind, M.lift_some, M.calm_pure, M.bind_assoc, asBl, List.getElem?_cons_zero, List.getElem?_cons_succ, List.set_cons_zero, List.set_cons_succ, Option.map_some, put, putAll, if_true, if_false, Bool.false_eq_true, Bool.true_eq_false, Bool.not_true, Bool.not_false, Cn.d, partD, List.map_cons, List.map_nil, Ev.wipe, o_add, o_sub, o_mull, o_mulr, o_mod, o_div, o_addt, o_addl, o_lt, o_le, o_gt, o_ge, eq_int, ne_int, u_lenl, u_lent, u_lens, u_max, u_min, u_abs, u_tupl, u_tupt, i_int, i_bool, i_tup, i_rng1, i_lst, i_tupl, len_pic, len_row, i0, z1, z2, decide_true]) ?_
    have c1 := comp_L (Φ := Φ) (ρ := [.val (.tup rows), .val (.int w), .emp, .emp]) (k := .seq) (src := .cons (.var 0) .nil) (cnd := .nil) (elt := .isi (.var 2) "tuple") (tg := .nm 2) (own := [("row", 2)]) (ds := [.tup rows]) (fun r => .bl (isTup r)) (by try simp only [e_var, e_pk, e_cst, e_glo, e_bin, e_neg, e_not, e_cmp, e_chn, e_boo, e_ite, e_tup, e_lst, e_ix, e_slc, e_rev, e_call, e_blt, e_isi, e_comp, a_nil, a_cons, b_one, b_cons, t_nil, t_one, s_skip, s_seq, s_asg, s_own, s_frz, s_set, s_app, s_ext, s_expr, s_ret, s_ite, s_loop, M.pure_bind, M.lift_some, M.calm_pure, M.bind_assoc, asBl, List.getElem?_cons_zero, List.getElem?_cons_succ, List.set_cons_zero, List.set_cons_succ, Option.map_some, put, putAll, if_true, if_false, Bool.false_eq_true, Bool.true_eq_false, Bool.not_true, Bool.not_false, Cn.d, partD, List.map_cons, List.map_nil, Ev.wipe, o_add, o_sub, o_mull, o_mulr, o_mod, o_div, o_addt, o_addl, o_lt, o_le, o_gt, o_ge, eq_int, ne_int, u_lenl, u_lent, u_lens, u_max, u_min, u_abs, u_tupl, u_tupt, i_int, i_bool, i_tup, i_rng1, i_lst, i_tupl, len_pic, len_row]) rfl (fun r hr => by
      unfold oneC
      try simp only [e_var, e_pk, e_cst, e_glo, e_bin, e_neg, e_not, e_cmp, e_chn, e_boo, e_ite, e_tup, e_lst, e_ix, e_slc, e_rev, e_call, e_blt, e_isi, e_comp, a_nil, a_cons, b_one, b_cons, t_nil, t_one, s_skip, s_seq, s_asg, s_own, s_frz, s_set, s_app, s_ext, s_expr, s_ret, s_ite, s_loop, M.pure_bind, M.lift_some, M.calm_pure, M.bind_assoc, asBl, List.getElem?_cons_zero, List.getElem?_cons_succ, List.set_cons_zero, List.set_cons_succ, Option.map_some, put, putAll, if_true, if_false, Bool.false_eq_true, Bool.true_eq_false, Bool.not_true, Bool.not_false, Cn.d, partD, List.map_cons, List.map_nil, Ev.wipe, o_add, o_sub, o_mull, o_mulr, o_mod, o_div, o_addt, o_addl, o_lt, o_le, o_gt, o_ge, eq_int, ne_int, u_lenl, u_lent, u_lens, u_max, u_min, u_abs, u_tupl, u_tupt, i_int, i_bool, i_tup, i_rng1, i_lst, i_tupl, len_pic, len_row, isi_tupG (okr r hr)]
      exact .pure rfl)
    by_cases h3 : rows.all isTup = true
    rotate_left
    · have q : areRowsD w (.tup rows) = false := by
        have h3 : rows.all isTup = false := by simpa using h3
        simp only [areRowsD, rowsD, h3, Bool.and_false, Bool.false_and]
      rw [q]
      refine Go.ifRet (d := .bl false) ?_ (by try simp only [e_var, e_pk, e_cst, e_glo, e_bin, e_neg, e_not, e_cmp, e_chn, e_boo, e_ite, e_tup, e_lst, e_ix, e_slc, e_rev, e_call, e_blt, e_isi, e_comp, a_nil, a_cons, b_one, b_cons, t_nil, t_one, s_skip, s_seq, s_asg, s_own, s_frz, s_set, s_app, s_ext, s_expr, s_ret, s_ite, s_loop, M.pure_bind, M.lift_some, M.calm_pure, M.bind_assoc, asBl, List.getElem?_cons_zero, List.getElem?_cons_succ, List.set_cons_zero, List.set_cons_succ, Option.map_some, put, putAll, if_true, if_false, Bool.false_eq_true, Bool.true_eq_false, Bool.not_true, Bool.not_false, Cn.d, partD, List.map_cons, List.map_nil, Ev.wipe, o_add, o_sub, o_mull, o_mulr, o_mod, o_div, o_addt, o_addl, o_lt, o_le, o_gt, o_ge, eq_int, ne_int, u_lenl, u_lent, u_lens, u_max, u_min, u_abs, u_tupl, u_tupt, i_int, i_bool, i_tup, i_rng1, i_lst, i_tupl, len_pic, len_row]) rfl
      simp only [e_not, e_blt, a_cons, a_nil, c1, M.pure_bind, u_all (blsOf_map (f := isTup) rows), all_map_id, Bool.not_eq_true] at h3 ⊢
      rw [h3]
      rfl
    refine Go.if0 (by simp only [e_not, e_blt, a_cons, a_nil, c1, M.pure_bind, u_all (blsOf_map (f := isTup) rows), all_map_id, h3] <;> rfl) ?_
    obtain ⟨r0, rs, hrs⟩ : ∃ r0 rs, rows = r0 :: rs := by
      cases rows with
      | nil => simp at h1
      | cons a b => exact ⟨a, b, rfl⟩
    have t0 : isTup r0 = true := List.all_eq_true.mp h3 _ (by rw [hrs]; exact List.mem_cons_self)
    have i1 : ixD (.tup rows) (.int 0) = some r0 := by rw [hrs]; simp [ixD, ixN]
    have l0 := len_isTup t0
    have g0 : rows.getD 0 .non = r0 := by rw [hrs]; rfl
    clear hrs
    have c2 := comp_L (Φ := Φ) (ρ := [.val (.tup rows), .val (.int w), .emp, .emp]) (k := .seq) (src := .cons (.var 0) .nil) (cnd := .nil) (elt := .cmp .eq (.blt .len (.cons (.var 2) .nil)) (.blt .len (.cons (.ix (.var 0) (.cst (.int 0))) .nil))) (tg := .nm 2) (own := [("row", 2)]) (ds := [.tup rows]) (fun r => .bl (decide (lenT r = lenT r0))) (by try simp only [e_var, e_pk, e_cst, e_glo, e_bin, e_neg, e_not, e_cmp, e_chn, e_boo, e_ite, e_tup, e_lst, e_ix, e_slc, e_rev, e_call, e_blt, e_isi, e_comp, a_nil, a_cons, b_one, b_cons, t_nil, t_one, s_skip, s_seq, s_asg, s_own, s_frz, s_set, s_app, s_ext, s_expr, s_ret, s_ite, s_loop, M.pure_bind, M.lift_some, M.calm_pure, M.bind_assoc, asBl, List.getElem?_cons_zero, List.getElem?_cons_succ, List.set_cons_zero, List.set_cons_succ, Option.map_some, put, putAll, if_true, if_false, Bool.false_eq_true, Bool.true_eq_false, Bool.not_true, Bool.not_false, Cn.d, partD, List.map_cons, List.map_nil, Ev.wipe, o_add, o_sub, o_mull, o_mulr, o_mod, o_div, o_addt, o_addl, o_lt, o_le, o_gt, o_ge, eq_int, ne_int, u_lenl, u_lent, u_lens, u_max, u_min, u_abs, u_tupl, u_tupt, i_int, i_bool, i_tup, i_rng1, i_lst, i_tupl, len_pic, len_row]) rfl (fun r hr => by
      unfold oneC
      try simp only [e_var, e_pk, e_cst, e_glo, e_bin, e_neg, e_not, e_cmp, e_chn, e_boo, e_ite, e_tup, e_lst, e_ix, e_slc, e_rev, e_call, e_blt, e_isi, e_comp, a_nil, a_cons, b_one, b_cons, t_nil, t_one, s_skip, s_seq, s_asg, s_own, s_frz, s_set, s_app, s_ext, s_expr, s_ret, s_ite, s_loop, M.pure_bind, M.lift_some, M.calm_pure, M.bind_assoc, asBl, List.getElem?_cons_zero, List.getElem?_cons_succ, List.set_cons_zero, List.set_cons_succ, Option.map_some, put, putAll, if_true, if_false, Bool.false_eq_true, Bool.true_eq_false, Bool.not_true, Bool.not_false, Cn.d, partD, List.map_cons, List.map_nil, Ev.wipe, o_add, o_sub, o_mull, o_mulr, o_mod, o_div, o_addt, o_addl, o_lt, o_le, o_gt, o_ge, eq_int, ne_int, u_lenl, u_lent, u_lens, u_max, u_min, u_abs, u_tupl, u_tupt, i_int, i_bool, i_tup, i_rng1, i_lst, i_tupl, len_pic, len_row, len_isTup (List.all_eq_true.mp h3 r hr), i1, l0]
      exact .pure (by rw [dec_nat]))
    have tail : ∀ b : Bool, areRowsD w (.tup rows) = (decide (1 ≤ lenT r0) && decide (lenT r0 ≤ w) && rows.all (fun r => decide (lenT r = lenT r0)) && rows.all (fun r => (itemsT r).all (isNumD 0 4))) := fun _ => by
      simp only [areRowsD, rowsD, h3, g0, h1, h2, decide_true, Bool.true_and, Bool.and_true]
    rw [tail true]
    by_cases h4 : 1 ≤ lenT r0 ∧ lenT r0 ≤ w
    rotate_left
    · have q : (decide (1 ≤ lenT r0) && decide (lenT r0 ≤ w)) = false := by
        by_cases z : 1 ≤ lenT r0
        · have : ¬ lenT r0 ≤ w := fun z2 => h4 ⟨z, z2⟩
          simp [this]
        · simp [z]
      rw [q]
      refine Go.ifRet (d := .bl false) ?_ (by try simp only [e_var, e_pk, e_cst, e_glo, e_bin, e_neg, e_not, e_cmp, e_chn, e_boo, e_ite, e_tup, e_lst, e_ix, e_slc, e_rev, e_call, e_blt, e_isi, e_comp, a_nil, a_cons, b_one, b_cons, t_nil, t_one, s_skip, s_seq, s_asg, s_own, s_frz, s_set, s_app, s_ext, s_expr, s_ret, s_ite, s_loop, M.pure_bind, M.lift_some, M.calm_pure, M.bind_assoc, asBl, List.getElem?_cons_zero, List.getElem?_cons_succ, List.set_cons_zero, List.set_cons_succ, Option.map_some, put, putAll, if_true, if_false, Bool.false_eq_true, Bool.true_eq_false, Bool.not_true, Bool.not_false, Cn.d, partD, List.map_cons, List.map_nil, Ev.wipe, o_add, o_sub, o_mull, o_mulr, o_mod, o_div, o_addt, o_addl, o_lt, o_le, o_gt, o_ge, eq_int, ne_int, u_lenl, u_lent, u_lens, u_max, u_min, u_abs, u_tupl, u_tupt, i_int, i_bool, i_tup, i_rng1, i_lst, i_tupl, len_pic, len_row]) rfl
      by_cases z : (1 : Int) ≤ (lenT r0 : Nat)
      · have z2 : ¬ ((lenT r0 : Nat) : Int) ≤ (w : Nat) := by omega
        try simp only [e_var, e_pk, e_cst, e_glo, e_bin, e_neg, e_not, e_cmp, e_chn, e_boo, e_ite, e_tup, e_lst, e_ix, e_slc, e_rev, e_call, e_blt, e_isi, e_comp, a_nil, a_cons, b_one, b_cons, t_nil, t_one, s_skip, s_seq, s_asg, s_own, s_frz, s_set, s_app, s_ext, s_expr, s_ret, s_ite, s_loop, M.pure_bind, M.lift_some, M.calm_pure, M.bind_assoc, asBl, List.getElem?_cons_zero, List.getElem?_cons_succ, List.set_cons_zero, List.set_cons_succ, Option.map_some, put, putAll, if_true, if_false, Bool.false_eq_true, Bool.true_eq_false, Bool.not_true, Bool.not_false, Cn.d, partD, List.map_cons, List.map_nil, Ev.wipe, o_add, o_sub, o_mull, o_mulr, o_mod, o_div, o_addt, o_addl, o_lt, o_le, o_gt, o_ge, eq_int, ne_int, u_lenl, u_lent, u_lens, u_max, u_min, u_abs, u_tupl, u_tupt, i_int, i_bool, i_tup, i_rng1, i_lst, i_tupl, len_pic, len_row, i1, l0, z, z2, decide_true, decide_false]
      · try simp only [e_var, e_pk, e_cst, e_glo, e_bin, e_neg, e_not, e_cmp, e_chn, e_boo, e_ite, e_tup, e_lst, e_ix, e_slc, e_rev, e_call, e_blt, e_isi, e_comp, a_nil, a_cons, b_one, b_cons, t_nil, t_one, s_skip, s_seq, s_asg, s_own, s_frz, s_set, s_app, s_ext, s_expr, s_ret, s_ite, s_loop, M.pure_bind, M.lift_some, M.calm_pure, M.bind_assoc, asBl, List.getElem?_cons_zero, List.getElem?_cons_succ, List.set_cons_zero, List.set_cons_succ, Option.map_some, put, putAll, if_true, if_false, Bool.false_eq_true, Bool.true_eq_false, Bool.not_true, Bool.not_false, Cn.d, partD, List.map_cons, List.map_nil, Ev.wipe, o_add, o_sub, o_mull, o_mulr, o_mod, o_div, o_addt, o_addl, o_lt, o_le, o_gt, o_ge, eq_int, ne_int, u_lenl, u_lent, u_lens, u_max, u_min, u_abs, u_tupl, u_tupt, i_int, i_bool, i_tup, i_rng1, i_lst, i_tupl, len_pic, len_row, i1, l0, z, decide_true, decide_false]
    have y1 : (1 : Int) ≤ (lenT r0 : Nat) := by omega
    have y2 : ((lenT r0 : Nat) : Int) ≤ (w : Nat) := by omega
    rw [show (decide (1 ≤ lenT r0) && decide (lenT r0 ≤ w)) = true by simp [h4.1, h4.2], Bool.true_and]
    by_cases h5 : rows.all (fun r => decide (lenT r = lenT r0)) = true
    rotate_left
    · have h5 : rows.all (fun r => decide (lenT r = lenT r0)) = false := by simpa using h5
      rw [h5]
      refine Go.ifRet (d := .bl false) ?_ (by try simp only [e_var, e_pk, e_cst, e_glo, e_bin, e_neg, e_not, e_cmp, e_chn, e_boo, e_ite, e_tup, e_lst, e_ix, e_slc, e_rev, e_call, e_blt, e_isi, e_comp, a_nil, a_cons, b_one, b_cons, t_nil, t_one, s_skip, s_seq, s_asg, s_own, s_frz, s_set, s_app, s_ext, s_expr, s_ret, s_ite, s_loop, M.pure_bind, M.lift_some, M.calm_pure, M.bind_assoc, asBl, List.getElem?_cons_zero, List.getElem?_cons_succ, List.set_cons_zero, List.set_cons_succ, Option.map_some, put, putAll, if_true, if_false, Bool.false_eq_true, Bool.true_eq_false, Bool.not_true, Bool.not_false, Cn.d, partD, List.map_cons, List.map_nil, Ev.wipe, o_add, o_sub, o_mull, o_mulr, o_mod, o_div, o_addt, o_addl, o_lt, o_le, o_gt, o_ge, eq_int, ne_int, u_lenl, u_lent, u_lens, u_max, u_min, u_abs, u_tupl, u_tupt, i_int, i_bool, i_tup, i_rng1, i_lst, i_tupl, len_pic, len_row]) rfl
      try simp only [e_var, e_pk, e_cst, e_glo, e_bin, e_neg, e_not, e_cmp, e_chn, e_boo, e_ite, e_tup, e_lst, e_ix, e_slc, e_rev, e_call, e_blt, e_isi, e_comp, a_nil, a_cons, b_one, b_cons, t_nil, t_one, s_skip, s_seq, s_asg, s_own, s_frz, s_set, s_app, s_ext, s_expr, s_ret, s_ite, s_loop, M.pure_bind, M.lift_some, M.calm_pure, M.bind_assoc, asBl, List.getElem?_cons_zero, List.getElem?_cons_succ, List.set_cons_zero, List.set_cons_succ, Option.map_some, put, putAll, if_true, if_false, Bool.false_eq_true, Bool.true_eq_false, Bool.not_true, Bool.not_false, Cn.d, partD, List.map_cons, List.map_nil, Ev.wipe, o_add, o_sub, o_mull, o_mulr, o_mod, o_div, o_addt, o_addl, o_lt, o_le, o_gt, o_ge, eq_int, ne_int, u_lenl, u_lent, u_lens, u_max, u_min, u_abs, u_tupl, u_tupt, i_int, i_bool, i_tup, i_rng1, i_lst, i_tupl, len_pic, len_row, i1, l0, y1, y2, decide_true, c2, u_all (blsOf_map (f := fun r => decide (lenT r = lenT r0)) rows), all_map_id, h5]
    rw [h5, Bool.true_and]
    refine Go.if0 ?_ ?_
    · try simp only [e_var, e_pk, e_cst, e_glo, e_bin, e_neg, e_not, e_cmp, e_chn, e_boo, e_ite, e_tup, e_lst, e_ix, e_slc, e_rev, e_call, e_blt, e_isi, e_comp, a_nil, a_cons, b_one, b_cons, t_nil, t_one, s_skip, s_seq, s_asg, s_own, s_frz, s_set, s_app, s_ext, s_expr, s_ret, s_ite, s_loop, M.pure_bind, M.lift_some, M.calm_pure, M.bind_assoc, asBl, List.getElem?_cons_zero, List.getElem?_cons_succ, List.set_cons_zero, List.set_cons_succ, Option.map_some, put, putAll, if_true, if_false, Bool.false_eq_true, Bool.true_eq_false, Bool.not_true, Bool.not_false, Cn.d, partD, List.map_cons, List.map_nil, Ev.wipe, o_add, o_sub, o_mull, o_mulr, o_mod, o_div, o_addt, o_addl, o_lt, o_le, o_gt, o_ge, eq_int, ne_int, u_lenl, u_lent, u_lens, u_max, u_min, u_abs, u_tupl, u_tupt, i_int, i_bool, i_tup, i_rng1, i_lst, i_tupl, len_pic, len_row, i1, l0, y1, y2, decide_true, c2, u_all (blsOf_map (f := fun r => decide (lenT r = lenT r0)) rows), all_map_id, h5]
    refine Go.retS (.bl (rows.all fun r => (itemsT r).all (isNumD 0 4))) ?_ rfl
    have c3 := comp_L (Φ := Φ) (ρ := [.val (.tup rows), .val (.int w), .emp, .emp]) (k := .seq) (src := .cons (.var 0) .nil) (cnd := .nil) (elt := .blt .all (.cons (.comp .seq (.cons (.var 2) .nil) (.nm 3) [("shade", 3)] .nil (.call "is_number" (.cons (.var 3) (.cons (.cst (.int 0)) (.cons (.glo "MOST_SHADE" (.int 4)) .nil))))) .nil)) (tg := .nm 2) (own := [("row", 2)]) (ds := [.tup rows]) (fun r => .bl ((itemsT r).all (isNumD 0 4))) (by try simp only [e_var, e_pk, e_cst, e_glo, e_bin, e_neg, e_not, e_cmp, e_chn, e_boo, e_ite, e_tup, e_lst, e_ix, e_slc, e_rev, e_call, e_blt, e_isi, e_comp, a_nil, a_cons, b_one, b_cons, t_nil, t_one, s_skip, s_seq, s_asg, s_own, s_frz, s_set, s_app, s_ext, s_expr, s_ret, s_ite, s_loop, M.pure_bind, M.lift_some, M.calm_pure, M.bind_assoc, asBl, List.getElem?_cons_zero, List.getElem?_cons_succ, List.set_cons_zero, List.set_cons_succ, Option.map_some, put, putAll, if_true, if_false, Bool.false_eq_true, Bool.true_eq_false, Bool.not_true, Bool.not_false, Cn.d, partD, List.map_cons, List.map_nil, Ev.wipe, o_add, o_sub, o_mull, o_mulr, o_mod, o_div, o_addt, o_addl, o_lt, o_le, o_gt, o_ge, eq_int, ne_int, u_lenl, u_lent, u_lens, u_max, u_min, u_abs, u_tupl, u_tupt, i_int, i_bool, i_tup, i_rng1, i_lst, i_tupl, len_pic, len_row]) rfl (fun r hr => by
      have tr := isTup_iff (List.all_eq_true.mp h3 r hr)
      have okx : ∀ x ∈ itemsT r, okD 40 x = true := fun x hx => by
        have := okr r hr
        rw [tr] at this
        exact okD_mono (List.all_eq_true.mp (by simpa only [okD] using this) x hx) (by omega : 38 ≤ 40)
      generalize itemsT r = xs at *
      subst tr
      unfold oneC
      have c4 := comp_L (Φ := Φ) (ρ := [.val (.tup rows), .val (.int w), .val (.tup xs), .emp]) (k := .seq) (src := .cons (.var 2) .nil) (cnd := .nil) (elt := .call "is_number" (.cons (.var 3) (.cons (.cst (.int 0)) (.cons (.glo "MOST_SHADE" (.int 4)) .nil)))) (tg := .nm 3) (own := [("shade", 3)]) (ds := [.tup xs]) (fun x => .bl (isNumD 0 4 x)) (by try simp only [e_var, e_pk, e_cst, e_glo, e_bin, e_neg, e_not, e_cmp, e_chn, e_boo, e_ite, e_tup, e_lst, e_ix, e_slc, e_rev, e_call, e_blt, e_isi, e_comp, a_nil, a_cons, b_one, b_cons, t_nil, t_one, s_skip, s_seq, s_asg, s_own, s_frz, s_set, s_app, s_ext, s_expr, s_ret, s_ite, s_loop, M.pure_bind, M.lift_some, M.calm_pure, M.bind_assoc, asBl, List.getElem?_cons_zero, List.getElem?_cons_succ, List.set_cons_zero, List.set_cons_succ, Option.map_some, put, putAll, if_true, if_false, Bool.false_eq_true, Bool.true_eq_false, Bool.not_true, Bool.not_false, Cn.d, partD, List.map_cons, List.map_nil, Ev.wipe, o_add, o_sub, o_mull, o_mulr, o_mod, o_div, o_addt, o_addl, o_lt, o_le, o_gt, o_ge, eq_int, ne_int, u_lenl, u_lent, u_lens, u_max, u_min, u_abs, u_tupl, u_tupt, i_int, i_bool, i_tup, i_rng1, i_lst, i_tupl, len_pic, len_row]) rfl (fun x hx => by
        unfold oneC
        try simp only [e_var, e_pk, e_cst, e_glo, e_bin, e_neg, e_not, e_cmp, e_chn, e_boo, e_ite, e_tup, e_lst, e_ix, e_slc, e_rev, e_call, e_blt, e_isi, e_comp, a_nil, a_cons, b_one, b_cons, t_nil, t_one, s_skip, s_seq, s_asg, s_own, s_frz, s_set, s_app, s_ext, s_expr, s_ret, s_ite, s_loop, M.pure_bind, M.lift_some, M.calm_pure, M.bind_assoc, asBl, List.getElem?_cons_zero, List.getElem?_cons_succ, List.set_cons_zero, List.set_cons_succ, Option.map_some, put, putAll, if_true, if_false, Bool.false_eq_true, Bool.true_eq_false, Bool.not_true, Bool.not_false, Cn.d, partD, List.map_cons, List.map_nil, Ev.wipe, o_add, o_sub, o_mull, o_mulr, o_mod, o_div, o_addt, o_addl, o_lt, o_le, o_gt, o_ge, eq_int, ne_int, u_lenl, u_lent, u_lens, u_max, u_min, u_abs, u_tupl, u_tupt, i_int, i_bool, i_tup, i_rng1, i_lst, i_tupl, len_pic, len_row, hn x 0 4 (okx x hx)]
        exact .pure rfl)
      simp only [e_blt, a_cons, a_nil, M.lift_some, M.pure_bind, put, List.set_cons_succ, List.set_cons_zero, t_nil, if_true, Ev.wipe, List.map_cons, List.map_nil, c4, u_all (blsOf_map (f := isNumD 0 4) xs), all_map_id]
      exact .pure rfl)
    simp only [e_blt, a_cons, a_nil, c3, M.pure_bind, M.lift_some, u_all (blsOf_map (f := fun r => (itemsT r).all (isNumD 0 4)) rows), all_map_id]
  | _ =>
    refine run_go [.val _, .val (.int w), .emp, .emp] ?_
    try simp only [e_var, e_pk, e_cst, e_glo, e_bin, e_neg, e_not, e_cmp, e_chn, e_boo, e_ite, e_tup, e_lst, e_ix, e_slc, e_rev, e_call, e_blt, e_isi, e_comp, a_nil, a_cons, b_one, b_cons, t_nil, t_one, s_skip, s_seq, s_asg, s_own, s_frz, s_set, s_app, s_ext, s_expr, s_ret, s_ite, s_loop, M.pure_bind, M.lift_some, M.calm_pure, M.bind_assoc, asBl, List.getElem?_cons_zero, List.getElem?_cons_succ, List.set_cons_zero, List.set_cons_succ, Option.map_some, put, putAll, if_true, if_false, Bool.false_eq_true, Bool.true_eq_false, Bool.not_true, Bool.not_false, Cn.d, partD, List.map_cons, List.map_nil, Ev.wipe, o_add, o_sub, o_mull, o_mulr, o_mod, o_div, o_addt, o_addl, o_lt, o_le, o_gt, o_ge, eq_int, ne_int, u_lenl, u_lent, u_lens, u_max, u_min, u_abs, u_tupl, u_tupt, i_int, i_bool, i_tup, i_rng1, i_lst, i_tupl, len_pic, len_row, fn_are_rows, e1]
    exact .pure rfl
theorem numD_iff {lo hi : Int} {d : D} (h : isNumD lo hi d = true) : ∃ i, d = .int i ∧ lo ≤ i ∧ i ≤ hi := by
  cases d <;> simp [isNumD] at h
  exact ⟨_, rfl, h⟩
def intT : D → Int
  | .int i => i
  | _ => 0
def rD (d : D) : Nat := (itemsT d).length
def cD (d : D) : Nat := lenT ((itemsT d).getD 0 .non)
def fD (d : D) (r c : Nat) : Int := intT ((itemsT ((itemsT d).getD r .non)).getD c .non)
theorem pic_at {d : D} (h : isPicD d = true) : d = pic (rD d) (cD d) (fD d) ∧ Pc (rD d) (cD d) (fD d) := by
  cases d with
  | tup rows =>
    simp only [isPicD, areRowsD, rowsD, Bool.and_eq_true, decide_eq_true_eq, List.all_eq_true] at h
    obtain ⟨⟨⟨⟨⟨⟨h1, h2⟩, h3⟩, h4⟩, h5⟩, h6⟩, h7⟩ := h
    show .tup rows = pic rows.length (lenT (rows.getD 0 .non)) (fun r c => intT ((itemsT (rows.getD r .non)).getD c .non)) ∧ Pc rows.length (lenT (rows.getD 0 .non)) (fun r c => intT ((itemsT (rows.getD r .non)).getD c .non))
    refine ⟨?_, h1, h2, h4, h5, fun r c hr hc => ?_⟩
    · unfold pic
      congr 1
      apply List.ext_getElem
      · simp
      · intro r g1 g2
        simp only [List.getElem_map, List.getElem_range]
        have hm : rows[r] ∈ rows := List.getElem_mem g1
        have e0 : rows.getD r .non = rows[r] := by simp [List.getD, List.getElem?_eq_getElem g1]
        rw [e0]
        have t := isTup_iff (h3 _ hm)
        have l := h6 _ hm
        have n := h7 _ hm
        generalize rows[r] = x at *
        rw [t]
        unfold rowD
        congr 1
        have hl : (itemsT x).length = lenT (rows.getD 0 .non) := by rw [← l, t]; rfl
        rw [← hl]
        apply List.ext_getElem
        · simp [itemsT]
        · intro c k1 k2
          simp only [List.getElem_map, List.getElem_range]
          obtain ⟨i, e, _⟩ := numD_iff (n _ (List.getElem_mem k1))
          have e1 : (itemsT (.tup (itemsT x))).getD c .non = (itemsT x)[c] := by show (itemsT x).getD c .non = _; simp [List.getD, List.getElem?_eq_getElem k1]
          rw [e1, e]
          rfl
    · have g1 : r < rows.length := hr
      have hm : rows[r] ∈ rows := List.getElem_mem g1
      have e0 : rows.getD r .non = rows[r] := by simp [List.getD, List.getElem?_eq_getElem g1]
      rw [e0]
      have t := isTup_iff (h3 _ hm)
      have l := h6 _ hm
      have n := h7 _ hm
      generalize rows[r] = x at *
      have hl : (itemsT x).length = lenT (rows.getD 0 .non) := by rw [← l, t]; rfl
      have k1 : c < (itemsT x).length := by rw [hl]; exact hc
      obtain ⟨i, e, b⟩ := numD_iff (n _ (List.getElem_mem k1))
      have e1 : (itemsT x).getD c .non = (itemsT x)[c] := by simp [List.getD, List.getElem?_eq_getElem k1]
      rw [e1, e]
      exact b
  | _ => simp [isPicD, areRowsD] at h
theorem pic_of {d : D} (h : isPicD d = true) : ∃ R C f, d = pic R C f ∧ Pc R C f := ⟨_, _, _, (pic_at h).1, (pic_at h).2⟩
theorem rD_pic {R C : Nat} {f : Nat → Nat → Int} : rD (pic R C f) = R := by simp [rD, pic, itemsT]
theorem cD_pic {R C : Nat} {f : Nat → Nat → Int} (h : 0 < R) : cD (pic R C f) = C := by
  have e : (itemsT (pic R C f)).getD 0 .non = rowD C (f 0) := by
    show ((List.range R).map fun r => rowD C (f r)).getD 0 .non = _
    rw [List.getD, getElem?_rangeMap h]
    rfl
  unfold cD
  rw [e]
  simp [lenT, rowD]
theorem rowsD_pic {w R C : Nat} {f : Nat → Nat → Int} (h1 : 1 ≤ R) (h2 : R ≤ 4) (h3 : 1 ≤ C) (h4 : C ≤ w) (sh : Shd R C f) : areRowsD w (pic R C f) = true := by
  obtain ⟨R, rfl⟩ : ∃ k, R = k + 1 := ⟨R - 1, by omega⟩
  simp only [areRowsD, pic, rowsD, Bool.and_eq_true, decide_eq_true_eq, List.all_eq_true, List.length_map, List.length_range]
  have g0 : (List.map (fun r => rowD C (f r)) (List.range (R + 1))).getD 0 .non = rowD C (f 0) := by
    rw [List.getD, getElem?_rangeMap (by omega)]
    rfl
  have l0 : ∀ g : Nat → Int, lenT (rowD C g) = C := fun g => by simp [lenT, rowD]
  rw [g0]
  refine ⟨⟨⟨⟨⟨⟨h1, h2⟩, fun x hx => ?_⟩, by rw [l0]; exact h3⟩, by rw [l0]; exact h4⟩, fun x hx => ?_⟩, fun x hx y hy => ?_⟩
  · obtain ⟨r, _, rfl⟩ := List.mem_map.mp hx
    rfl
  · obtain ⟨r, _, rfl⟩ := List.mem_map.mp hx
    rw [l0, l0]
  · obtain ⟨r, hr, rfl⟩ := List.mem_map.mp hx
    obtain ⟨c, hc, rfl⟩ := List.mem_map.mp (show y ∈ (List.range C).map fun c => D.int (f r c) from hy)
    have := sh r c (List.mem_range.mp hr) (List.mem_range.mp hc)
    simp [isNumD, this]
theorem isPicD_pic {R C : Nat} {f : Nat → Nat → Int} (p : Pc R C f) : isPicD (pic R C f) = true := rowsD_pic p.r1 p.r4 p.c1 p.c6 p.sh
def S_is_pictureG (Φ : Fns) : Prop := ∀ d : D, okD 40 d = true → Φ "is_picture" [d] = M.pure (.bl (isPicD d))
theorem sp_is_pictureG {Φ : Fns} (hn : S_are_rowsG Φ) (d : D) (ok : okD 40 d = true) : runFn Φ fn_is_picture [d] = M.pure (.bl (isPicD d)) := by
  refine run_go [.val (d)] ?_
  have e := hn d 6 ok
  have e6 : ((6 : Nat) : Int) = 6 := (rfl)
  rw [e6] at e
  try simp only [e_var, e_pk, e_cst, e_glo, e_bin, e_neg, e_not, e_cmp, e_chn, e_boo, e_ite, e_tup, e_lst, e_ix, e_slc, e_rev, e_call, e_blt, e_isi, e_comp, a_nil, a_cons, b_one, b_cons, t_nil, t_one, s_skip, s_seq, s_asg, s_own, s_frz, s_set, s_app, s_ext, s_expr, s_ret, s_ite, s_loop, M.pure_bind, M.lift_some, M.calm_pure, M.bind_assoc, asBl, List.getElem?_cons_zero, List.getElem?_cons_succ, List.set_cons_zero, List.set_cons_succ, Option.map_some, put, putAll, if_true, if_false, Bool.false_eq_true, Bool.true_eq_false, Bool.not_true, Bool.not_false, Cn.d, partD, List.map_cons, List.map_nil, Ev.wipe, o_add, o_sub, o_mull, o_mulr, o_mod, o_div, o_addt, o_addl, o_lt, o_le, o_gt, o_ge, eq_int, ne_int, u_lenl, u_lent, u_lens, u_max, u_min, u_abs, u_tupl, u_tupt, i_int, i_bool, i_tup, i_rng1, i_lst, i_tupl, len_pic, len_row, fn_is_picture, e]
  exact .pure rfl
def S_need_pictureG (Φ : Fns) : Prop := ∀ d : D, okD 40 d = true → isPicD d = false → Φ "need_picture" [d] = thr "NoPicture"
theorem sp_need_pictureG {Φ : Fns} (hn : S_is_pictureG Φ) (d : D) (ok : okD 40 d = true) (h : isPicD d = false) : runFn Φ fn_need_picture [d] = thr "NoPicture" := by
  refine run_thr [.val (d)] ?_
  try simp only [e_var, e_pk, e_cst, e_glo, e_bin, e_neg, e_not, e_cmp, e_chn, e_boo, e_ite, e_tup, e_lst, e_ix, e_slc, e_rev, e_call, e_blt, e_isi, e_comp, a_nil, a_cons, b_one, b_cons, t_nil, t_one, s_skip, s_seq, s_asg, s_own, s_frz, s_set, s_app, s_ext, s_expr, s_ret, s_ite, s_loop, M.pure_bind, M.lift_some, M.calm_pure, M.bind_assoc, asBl, List.getElem?_cons_zero, List.getElem?_cons_succ, List.set_cons_zero, List.set_cons_succ, Option.map_some, put, putAll, if_true, if_false, Bool.false_eq_true, Bool.true_eq_false, Bool.not_true, Bool.not_false, Cn.d, partD, List.map_cons, List.map_nil, Ev.wipe, o_add, o_sub, o_mull, o_mulr, o_mod, o_div, o_addt, o_addl, o_lt, o_le, o_gt, o_ge, eq_int, ne_int, u_lenl, u_lent, u_lens, u_max, u_min, u_abs, u_tupl, u_tupt, i_int, i_bool, i_tup, i_rng1, i_lst, i_tupl, len_pic, len_row, fn_need_picture, hn d ok, h, s_raise, thr_bind]
/-- what asks for a picture first -/
def S_bad1 (f : Str) (Φ : Fns) : Prop := ∀ d : D, okD 40 d = true → isPicD d = false → Φ f [d] = thr "NoPicture"
def S_bad2 (f : Str) (Φ : Fns) : Prop := ∀ d e : D, okD 40 d = true → isPicD d = false → Φ f [d, e] = thr "NoPicture"
def S_bad3 (f : Str) (Φ : Fns) : Prop := ∀ d e g : D, okD 40 d = true → isPicD d = false → Φ f [d, e, g] = thr "NoPicture"
theorem bad_total {Φ : Fns} (hn : S_need_pictureG Φ) (d : D) (ok : okD 40 d = true) (h : isPicD d = false) : runFn Φ fn_total [d] = thr "NoPicture" := by
  refine run_thr [.val (d), .emp] ?_
  try simp only [e_var, e_pk, e_cst, e_glo, e_bin, e_neg, e_not, e_cmp, e_chn, e_boo, e_ite, e_tup, e_lst, e_ix, e_slc, e_rev, e_call, e_blt, e_isi, e_comp, a_nil, a_cons, b_one, b_cons, t_nil, t_one, s_skip, s_seq, s_asg, s_own, s_frz, s_set, s_app, s_ext, s_expr, s_ret, s_ite, s_loop, M.pure_bind, M.lift_some, M.calm_pure, M.bind_assoc, asBl, List.getElem?_cons_zero, List.getElem?_cons_succ, List.set_cons_zero, List.set_cons_succ, Option.map_some, put, putAll, if_true, if_false, Bool.false_eq_true, Bool.true_eq_false, Bool.not_true, Bool.not_false, Cn.d, partD, List.map_cons, List.map_nil, Ev.wipe, o_add, o_sub, o_mull, o_mulr, o_mod, o_div, o_addt, o_addl, o_lt, o_le, o_gt, o_ge, eq_int, ne_int, u_lenl, u_lent, u_lens, u_max, u_min, u_abs, u_tupl, u_tupt, i_int, i_bool, i_tup, i_rng1, i_lst, i_tupl, len_pic, len_row, fn_total, hn d ok h, thr_bind]
theorem bad_mirrored {Φ : Fns} (hn : S_need_pictureG Φ) (d : D) (ok : okD 40 d = true) (h : isPicD d = false) : runFn Φ fn_mirrored [d] = thr "NoPicture" := by
  refine run_thr [.val (d), .emp] ?_
  try simp only [e_var, e_pk, e_cst, e_glo, e_bin, e_neg, e_not, e_cmp, e_chn, e_boo, e_ite, e_tup, e_lst, e_ix, e_slc, e_rev, e_call, e_blt, e_isi, e_comp, a_nil, a_cons, b_one, b_cons, t_nil, t_one, s_skip, s_seq, s_asg, s_own, s_frz, s_set, s_app, s_ext, s_expr, s_ret, s_ite, s_loop, M.pure_bind, M.lift_some, M.calm_pure, M.bind_assoc, asBl, List.getElem?_cons_zero, List.getElem?_cons_succ, List.set_cons_zero, List.set_cons_succ, Option.map_some, put, putAll, if_true, if_false, Bool.false_eq_true, Bool.true_eq_false, Bool.not_true, Bool.not_false, Cn.d, partD, List.map_cons, List.map_nil, Ev.wipe, o_add, o_sub, o_mull, o_mulr, o_mod, o_div, o_addt, o_addl, o_lt, o_le, o_gt, o_ge, eq_int, ne_int, u_lenl, u_lent, u_lens, u_max, u_min, u_abs, u_tupl, u_tupt, i_int, i_bool, i_tup, i_rng1, i_lst, i_tupl, len_pic, len_row, fn_mirrored, hn d ok h, thr_bind]
theorem bad_flipped {Φ : Fns} (hn : S_need_pictureG Φ) (d : D) (ok : okD 40 d = true) (h : isPicD d = false) : runFn Φ fn_flipped [d] = thr "NoPicture" := by
  refine run_thr [.val (d)] ?_
  try simp only [e_var, e_pk, e_cst, e_glo, e_bin, e_neg, e_not, e_cmp, e_chn, e_boo, e_ite, e_tup, e_lst, e_ix, e_slc, e_rev, e_call, e_blt, e_isi, e_comp, a_nil, a_cons, b_one, b_cons, t_nil, t_one, s_skip, s_seq, s_asg, s_own, s_frz, s_set, s_app, s_ext, s_expr, s_ret, s_ite, s_loop, M.pure_bind, M.lift_some, M.calm_pure, M.bind_assoc, asBl, List.getElem?_cons_zero, List.getElem?_cons_succ, List.set_cons_zero, List.set_cons_succ, Option.map_some, put, putAll, if_true, if_false, Bool.false_eq_true, Bool.true_eq_false, Bool.not_true, Bool.not_false, Cn.d, partD, List.map_cons, List.map_nil, Ev.wipe, o_add, o_sub, o_mull, o_mulr, o_mod, o_div, o_addt, o_addl, o_lt, o_le, o_gt, o_ge, eq_int, ne_int, u_lenl, u_lent, u_lens, u_max, u_min, u_abs, u_tupl, u_tupt, i_int, i_bool, i_tup, i_rng1, i_lst, i_tupl, len_pic, len_row, fn_flipped, hn d ok h, thr_bind]
theorem bad_inverted {Φ : Fns} (hn : S_need_pictureG Φ) (d : D) (ok : okD 40 d = true) (h : isPicD d = false) : runFn Φ fn_inverted [d] = thr "NoPicture" := by
  refine run_thr [.val (d), .emp, .emp] ?_
  try simp only [e_var, e_pk, e_cst, e_glo, e_bin, e_neg, e_not, e_cmp, e_chn, e_boo, e_ite, e_tup, e_lst, e_ix, e_slc, e_rev, e_call, e_blt, e_isi, e_comp, a_nil, a_cons, b_one, b_cons, t_nil, t_one, s_skip, s_seq, s_asg, s_own, s_frz, s_set, s_app, s_ext, s_expr, s_ret, s_ite, s_loop, M.pure_bind, M.lift_some, M.calm_pure, M.bind_assoc, asBl, List.getElem?_cons_zero, List.getElem?_cons_succ, List.set_cons_zero, List.set_cons_succ, Option.map_some, put, putAll, if_true, if_false, Bool.false_eq_true, Bool.true_eq_false, Bool.not_true, Bool.not_false, Cn.d, partD, List.map_cons, List.map_nil, Ev.wipe, o_add, o_sub, o_mull, o_mulr, o_mod, o_div, o_addt, o_addl, o_lt, o_le, o_gt, o_ge, eq_int, ne_int, u_lenl, u_lent, u_lens, u_max, u_min, u_abs, u_tupl, u_tupt, i_int, i_bool, i_tup, i_rng1, i_lst, i_tupl, len_pic, len_row, fn_inverted, hn d ok h, thr_bind]
theorem bad_crossed {Φ : Fns} (hn : S_need_pictureG Φ) (d : D) (ok : okD 40 d = true) (h : isPicD d = false) : runFn Φ fn_crossed [d] = thr "NoPicture" := by
  refine run_thr [.val (d), .emp, .emp, .emp, .emp] ?_
  try simp only [e_var, e_pk, e_cst, e_glo, e_bin, e_neg, e_not, e_cmp, e_chn, e_boo, e_ite, e_tup, e_lst, e_ix, e_slc, e_rev, e_call, e_blt, e_isi, e_comp, a_nil, a_cons, b_one, b_cons, t_nil, t_one, s_skip, s_seq, s_asg, s_own, s_frz, s_set, s_app, s_ext, s_expr, s_ret, s_ite, s_loop, M.pure_bind, M.lift_some, M.calm_pure, M.bind_assoc, asBl, List.getElem?_cons_zero, List.getElem?_cons_succ, List.set_cons_zero, List.set_cons_succ, Option.map_some, put, putAll, if_true, if_false, Bool.false_eq_true, Bool.true_eq_false, Bool.not_true, Bool.not_false, Cn.d, partD, List.map_cons, List.map_nil, Ev.wipe, o_add, o_sub, o_mull, o_mulr, o_mod, o_div, o_addt, o_addl, o_lt, o_le, o_gt, o_ge, eq_int, ne_int, u_lenl, u_lent, u_lens, u_max, u_min, u_abs, u_tupl, u_tupt, i_int, i_bool, i_tup, i_rng1, i_lst, i_tupl, len_pic, len_row, fn_crossed, hn d ok h, thr_bind]
theorem bad_apart {Φ : Fns} (hn : S_need_pictureG Φ) (d e : D) (ok : okD 40 d = true) (h : isPicD d = false) : runFn Φ fn_apart [d, e] = thr "NoPicture" := by
  refine run_thr [.val (d), .val (e)] ?_
  try simp only [e_var, e_pk, e_cst, e_glo, e_bin, e_neg, e_not, e_cmp, e_chn, e_boo, e_ite, e_tup, e_lst, e_ix, e_slc, e_rev, e_call, e_blt, e_isi, e_comp, a_nil, a_cons, b_one, b_cons, t_nil, t_one, s_skip, s_seq, s_asg, s_own, s_frz, s_set, s_app, s_ext, s_expr, s_ret, s_ite, s_loop, M.pure_bind, M.lift_some, M.calm_pure, M.bind_assoc, asBl, List.getElem?_cons_zero, List.getElem?_cons_succ, List.set_cons_zero, List.set_cons_succ, Option.map_some, put, putAll, if_true, if_false, Bool.false_eq_true, Bool.true_eq_false, Bool.not_true, Bool.not_false, Cn.d, partD, List.map_cons, List.map_nil, Ev.wipe, o_add, o_sub, o_mull, o_mulr, o_mod, o_div, o_addt, o_addl, o_lt, o_le, o_gt, o_ge, eq_int, ne_int, u_lenl, u_lent, u_lens, u_max, u_min, u_abs, u_tupl, u_tupt, i_int, i_bool, i_tup, i_rng1, i_lst, i_tupl, len_pic, len_row, fn_apart, hn d ok h, thr_bind]
theorem bad_shifted {Φ : Fns} (hn : S_need_pictureG Φ) (d e g : D) (ok : okD 40 d = true) (h : isPicD d = false) : runFn Φ fn_shifted [d, e, g] = thr "NoPicture" := by
  refine run_thr [.val (d), .val (e), .val (g), .emp, .emp] ?_
  try simp only [e_var, e_pk, e_cst, e_glo, e_bin, e_neg, e_not, e_cmp, e_chn, e_boo, e_ite, e_tup, e_lst, e_ix, e_slc, e_rev, e_call, e_blt, e_isi, e_comp, a_nil, a_cons, b_one, b_cons, t_nil, t_one, s_skip, s_seq, s_asg, s_own, s_frz, s_set, s_app, s_ext, s_expr, s_ret, s_ite, s_loop, M.pure_bind, M.lift_some, M.calm_pure, M.bind_assoc, asBl, List.getElem?_cons_zero, List.getElem?_cons_succ, List.set_cons_zero, List.set_cons_succ, Option.map_some, put, putAll, if_true, if_false, Bool.false_eq_true, Bool.true_eq_false, Bool.not_true, Bool.not_false, Cn.d, partD, List.map_cons, List.map_nil, Ev.wipe, o_add, o_sub, o_mull, o_mulr, o_mod, o_div, o_addt, o_addl, o_lt, o_le, o_gt, o_ge, eq_int, ne_int, u_lenl, u_lent, u_lens, u_max, u_min, u_abs, u_tupl, u_tupt, i_int, i_bool, i_tup, i_rng1, i_lst, i_tupl, len_pic, len_row, fn_shifted, hn d ok h, thr_bind]
theorem bad_dimmed {Φ : Fns} (hn : S_need_pictureG Φ) (d e : D) (ok : okD 40 d = true) (h : isPicD d = false) : runFn Φ fn_dimmed [d, e] = thr "NoPicture" := by
  refine run_thr [.val (d), .val (e), .emp, .emp, .emp, .emp, .emp, .emp] ?_
  try simp only [e_var, e_pk, e_cst, e_glo, e_bin, e_neg, e_not, e_cmp, e_chn, e_boo, e_ite, e_tup, e_lst, e_ix, e_slc, e_rev, e_call, e_blt, e_isi, e_comp, a_nil, a_cons, b_one, b_cons, t_nil, t_one, s_skip, s_seq, s_asg, s_own, s_frz, s_set, s_app, s_ext, s_expr, s_ret, s_ite, s_loop, M.pure_bind, M.lift_some, M.calm_pure, M.bind_assoc, asBl, List.getElem?_cons_zero, List.getElem?_cons_succ, List.set_cons_zero, List.set_cons_succ, Option.map_some, put, putAll, if_true, if_false, Bool.false_eq_true, Bool.true_eq_false, Bool.not_true, Bool.not_false, Cn.d, partD, List.map_cons, List.map_nil, Ev.wipe, o_add, o_sub, o_mull, o_mulr, o_mod, o_div, o_addt, o_addl, o_lt, o_le, o_gt, o_ge, eq_int, ne_int, u_lenl, u_lent, u_lens, u_max, u_min, u_abs, u_tupl, u_tupt, i_int, i_bool, i_tup, i_rng1, i_lst, i_tupl, len_pic, len_row, fn_dimmed, hn d ok h, thr_bind]
theorem bad_ticks_of {Φ : Fns} (hn : S_need_pictureG Φ) (d : D) (ok : okD 40 d = true) (h : isPicD d = false) : runFn Φ fn_ticks_of [d] = thr "NoPicture" := by
  refine run_thr [.val (d)] ?_
  try simp only [e_var, e_pk, e_cst, e_glo, e_bin, e_neg, e_not, e_cmp, e_chn, e_boo, e_ite, e_tup, e_lst, e_ix, e_slc, e_rev, e_call, e_blt, e_isi, e_comp, a_nil, a_cons, b_one, b_cons, t_nil, t_one, s_skip, s_seq, s_asg, s_own, s_frz, s_set, s_app, s_ext, s_expr, s_ret, s_ite, s_loop, M.pure_bind, M.lift_some, M.calm_pure, M.bind_assoc, asBl, List.getElem?_cons_zero, List.getElem?_cons_succ, List.set_cons_zero, List.set_cons_succ, Option.map_some, put, putAll, if_true, if_false, Bool.false_eq_true, Bool.true_eq_false, Bool.not_true, Bool.not_false, Cn.d, partD, List.map_cons, List.map_nil, Ev.wipe, o_add, o_sub, o_mull, o_mulr, o_mod, o_div, o_addt, o_addl, o_lt, o_le, o_gt, o_ge, eq_int, ne_int, u_lenl, u_lent, u_lens, u_max, u_min, u_abs, u_tupl, u_tupt, i_int, i_bool, i_tup, i_rng1, i_lst, i_tupl, len_pic, len_row, fn_ticks_of, hn d ok h, thr_bind]
theorem bad_bounds {Φ : Fns} (hn : S_need_pictureG Φ) (d : D) (ok : okD 40 d = true) (h : isPicD d = false) : runFn Φ fn_bounds [d] = thr "NoPicture" := by
  refine run_thr [.val (d)] ?_
  try simp only [e_var, e_pk, e_cst, e_glo, e_bin, e_neg, e_not, e_cmp, e_chn, e_boo, e_ite, e_tup, e_lst, e_ix, e_slc, e_rev, e_call, e_blt, e_isi, e_comp, a_nil, a_cons, b_one, b_cons, t_nil, t_one, s_skip, s_seq, s_asg, s_own, s_frz, s_set, s_app, s_ext, s_expr, s_ret, s_ite, s_loop, M.pure_bind, M.lift_some, M.calm_pure, M.bind_assoc, asBl, List.getElem?_cons_zero, List.getElem?_cons_succ, List.set_cons_zero, List.set_cons_succ, Option.map_some, put, putAll, if_true, if_false, Bool.false_eq_true, Bool.true_eq_false, Bool.not_true, Bool.not_false, Cn.d, partD, List.map_cons, List.map_nil, Ev.wipe, o_add, o_sub, o_mull, o_mulr, o_mod, o_div, o_addt, o_addl, o_lt, o_le, o_gt, o_ge, eq_int, ne_int, u_lenl, u_lent, u_lens, u_max, u_min, u_abs, u_tupl, u_tupt, i_int, i_bool, i_tup, i_rng1, i_lst, i_tupl, len_pic, len_row, fn_bounds, hn d ok h, thr_bind]
theorem bad_cropped {Φ : Fns} (hn : S_need_pictureG Φ) (d : D) (ok : okD 40 d = true) (h : isPicD d = false) : runFn Φ fn_cropped [d] = thr "NoPicture" := by
  refine run_thr [.val (d), .emp, .emp, .emp, .emp, .emp] ?_
  try simp only [e_var, e_pk, e_cst, e_glo, e_bin, e_neg, e_not, e_cmp, e_chn, e_boo, e_ite, e_tup, e_lst, e_ix, e_slc, e_rev, e_call, e_blt, e_isi, e_comp, a_nil, a_cons, b_one, b_cons, t_nil, t_one, s_skip, s_seq, s_asg, s_own, s_frz, s_set, s_app, s_ext, s_expr, s_ret, s_ite, s_loop, M.pure_bind, M.lift_some, M.calm_pure, M.bind_assoc, asBl, List.getElem?_cons_zero, List.getElem?_cons_succ, List.set_cons_zero, List.set_cons_succ, Option.map_some, put, putAll, if_true, if_false, Bool.false_eq_true, Bool.true_eq_false, Bool.not_true, Bool.not_false, Cn.d, partD, List.map_cons, List.map_nil, Ev.wipe, o_add, o_sub, o_mull, o_mulr, o_mod, o_div, o_addt, o_addl, o_lt, o_le, o_gt, o_ge, eq_int, ne_int, u_lenl, u_lent, u_lens, u_max, u_min, u_abs, u_tupl, u_tupt, i_int, i_bool, i_tup, i_rng1, i_lst, i_tupl, len_pic, len_row, fn_cropped, hn d ok h, thr_bind]
theorem bad_spots {Φ : Fns} (hn : S_need_pictureG Φ) (d : D) (ok : okD 40 d = true) (h : isPicD d = false) : runFn Φ fn_spots [d] = thr "NoPicture" := by
  refine run_thr [.val (d)] ?_
  try simp only [e_var, e_pk, e_cst, e_glo, e_bin, e_neg, e_not, e_cmp, e_chn, e_boo, e_ite, e_tup, e_lst, e_ix, e_slc, e_rev, e_call, e_blt, e_isi, e_comp, a_nil, a_cons, b_one, b_cons, t_nil, t_one, s_skip, s_seq, s_asg, s_own, s_frz, s_set, s_app, s_ext, s_expr, s_ret, s_ite, s_loop, M.pure_bind, M.lift_some, M.calm_pure, M.bind_assoc, asBl, List.getElem?_cons_zero, List.getElem?_cons_succ, List.set_cons_zero, List.set_cons_succ, Option.map_some, put, putAll, if_true, if_false, Bool.false_eq_true, Bool.true_eq_false, Bool.not_true, Bool.not_false, Cn.d, partD, List.map_cons, List.map_nil, Ev.wipe, o_add, o_sub, o_mull, o_mulr, o_mod, o_div, o_addt, o_addl, o_lt, o_le, o_gt, o_ge, eq_int, ne_int, u_lenl, u_lent, u_lens, u_max, u_min, u_abs, u_tupl, u_tupt, i_int, i_bool, i_tup, i_rng1, i_lst, i_tupl, len_pic, len_row, fn_spots, hn d ok h, thr_bind]
theorem bad_all_apart {Φ : Fns} (hn : S_need_pictureG Φ) (d e : D) (ok : okD 40 d = true) (h : isPicD d = false) : runFn Φ fn_all_apart [d, e] = thr "NoPicture" := by
  refine run_thr [.val (d), .val (e), .emp, .emp, .emp, .emp, .emp, .emp, .emp] ?_
  try simp only [e_var, e_pk, e_cst, e_glo, e_bin, e_neg, e_not, e_cmp, e_chn, e_boo, e_ite, e_tup, e_lst, e_ix, e_slc, e_rev, e_call, e_blt, e_isi, e_comp, a_nil, a_cons, b_one, b_cons, t_nil, t_one, s_skip, s_seq, s_asg, s_own, s_frz, s_set, s_app, s_ext, s_expr, s_ret, s_ite, s_loop, M.pure_bind, M.lift_some, M.calm_pure, M.bind_assoc, asBl, List.getElem?_cons_zero, List.getElem?_cons_succ, List.set_cons_zero, List.set_cons_succ, Option.map_some, put, putAll, if_true, if_false, Bool.false_eq_true, Bool.true_eq_false, Bool.not_true, Bool.not_false, Cn.d, partD, List.map_cons, List.map_nil, Ev.wipe, o_add, o_sub, o_mull, o_mulr, o_mod, o_div, o_addt, o_addl, o_lt, o_le, o_gt, o_ge, eq_int, ne_int, u_lenl, u_lent, u_lens, u_max, u_min, u_abs, u_tupl, u_tupt, i_int, i_bool, i_tup, i_rng1, i_lst, i_tupl, len_pic, len_row, fn_all_apart, hn d ok h, thr_bind]
end Ev.Vw

end
section
set_option maxRecDepth 100000
set_option maxHeartbeats 4000000
namespace Ev.Vw
open PySem Ev
/-! ### a loop that may end early -/
theorem forL_any {bind : D → Env → Option Env} {body : Env → M (Fl × Env)} {items : List D} (p : D → Bool) (d : D) (I : Nat → Env → Prop)
    (step : ∀ i x ρ, items[i]? = some x → (∀ y ∈ items.take i, p y = false) → I i ρ → ∃ ρ1, bind x ρ = some ρ1 ∧ Go (body ρ1) fun r => if p x = true then r.1 = .rt d else r.1 = .nx ∧ I (i + 1) r.2) {ρ : Env} (h0 : I 0 ρ) :
    (items.any p = true ∧ ∃ ρ', forL bind body items ρ = M.pure (.rt d, ρ')) ∨ (items.any p = false ∧ ∃ ρ', I items.length ρ' ∧ forL bind body items ρ = M.pure (.nx, ρ')) := by
  have go : ∀ (k i : Nat) (ρ : Env), i + k = items.length → (∀ y ∈ items.take i, p y = false) → I i ρ → ((items.drop i).any p = true ∧ ∃ ρ', forL bind body (items.drop i) ρ = M.pure (.rt d, ρ')) ∨ ((items.drop i).any p = false ∧ ∃ ρ', I items.length ρ' ∧ forL bind body (items.drop i) ρ = M.pure (.nx, ρ')) := by
    intro k
    induction k with
    | zero =>
      intro i ρ e _ h
      have : i = items.length := by omega
      subst this
      exact .inr ⟨by simp, ρ, h, by rw [List.drop_length]; rfl⟩
    | succ k ih =>
      intro i ρ e hp h
      have hi : i < items.length := by omega
      obtain ⟨ρ1, h1, ⟨f, ρ2⟩, h2, h3⟩ := step i _ ρ (List.getElem?_eq_getElem hi) hp h
      rw [List.drop_eq_getElem_cons hi]
      simp only [forL, List.any_cons]
      rw [h1, M.lift_some, M.pure_bind, h2, M.pure_bind]
      by_cases q : p items[i] = true
      · rw [if_pos q] at h3
        obtain rfl : f = .rt d := h3
        exact .inl ⟨by rw [q]; rfl, ρ2, rfl⟩
      · rw [if_neg q] at h3
        obtain ⟨rfl, h4⟩ := h3
        have q' : p items[i] = false := by simpa using q
        have hp' : ∀ y ∈ items.take (i + 1), p y = false := by
          intro y hy
          rw [List.take_add_one, List.getElem?_eq_getElem hi] at hy
          rcases List.mem_append.mp hy with z | z
          · exact hp y z
          · simp at z
            rw [z]; exact q'
        rw [q', Bool.false_or]
        exact ih (i + 1) ρ2 (by omega) hp' h4
  have := go items.length 0 ρ (by omega) (by simp) h0
  simpa using this
section
variable {Φ : Fns} {ρ : Env} {P : Fl × Env → Prop} {b rest : S}
theorem Go.forAny {k : Ik} {src : E} {tg : T} {ds items : List D} (p : D → Bool) (d : D) (h1 : evA Φ src ρ = M.pure ds) (h2 : itm k ds = some items) (I : Nat → Env → Prop) (h0 : I 0 ρ)
    (step : ∀ i x ρ, items[i]? = some x → (∀ y ∈ items.take i, p y = false) → I i ρ → ∃ ρ1, put tg x ρ = some ρ1 ∧ Go (evS Φ b ρ1) fun r => if p x = true then r.1 = .rt d else r.1 = .nx ∧ I (i + 1) r.2)
    (hrt : items.any p = true → ∀ ρ', P (.rt d, ρ')) (fin : items.any p = false → ∀ ρ', I items.length ρ' → Go (evS Φ rest ρ') P) : Go (evS Φ (.seq (.loop k src tg b) rest) ρ) P := by
  rw [s_seq, s_loop, h1, M.pure_bind, h2, M.lift_some, M.pure_bind]
  rcases forL_any p d I step h0 with ⟨e, ρ', h⟩ | ⟨e, ρ', hI, h⟩
  · rw [h]
    exact .pure (hrt e ρ')
  · rw [h]
    exact fin e ρ' hI
/-- over items of which something is known -/
theorem Go.forM {k : Ik} {src : E} {tg : T} {ds items : List D} (Q : D → Prop) (h1 : evA Φ src ρ = M.pure ds) (h2 : itm k ds = some items) (hQ : ∀ x ∈ items, Q x) (I : Env → Prop) (h0 : I ρ)
    (step : ∀ x ρ, Q x → I ρ → ∃ ρ1, put tg x ρ = some ρ1 ∧ Go (evS Φ b ρ1) fun r => r.1 = .nx ∧ I r.2) (fin : ∀ ρ', I ρ' → Go (evS Φ rest ρ') P) : Go (evS Φ (.seq (.loop k src tg b) rest) ρ) P :=
  Go.forS h1 h2 (fun _ => I) h0 (fun i x ρ hx hI => step x ρ (hQ x (List.mem_of_getElem? hx)) hI) fin
end
/-! ### the law's own finding of pictures -/
def okRow (l0 : Nat) (r : D) : Bool := isTup r && decide (1 ≤ lenT r) && decide (lenT r ≤ 6) && decide (lenT r = l0) && (itemsT r).all (isNumD 0 4)
theorem isPicD_rows {rows : List D} : isPicD (.tup rows) = (decide (1 ≤ rows.length) && decide (rows.length ≤ 4) && rows.all (okRow (lenT (rows.getD 0 .non)))) := by
  rw [Bool.eq_iff_iff]
  simp only [isPicD, areRowsD, rowsD, okRow, Bool.and_eq_true, decide_eq_true_eq, List.all_eq_true]
  constructor
  · rintro ⟨⟨⟨⟨⟨⟨h1, h2⟩, h3⟩, h4⟩, h5⟩, h6⟩, h7⟩
    exact ⟨⟨h1, h2⟩, fun x hx => ⟨⟨⟨⟨h3 x hx, by rw [h6 x hx]; exact h4⟩, by rw [h6 x hx]; exact h5⟩, h6 x hx⟩, h7 x hx⟩⟩
  · rintro ⟨⟨h1, h2⟩, h⟩
    have m0 : rows.getD 0 .non ∈ rows := by
      cases rows with
      | nil => simp at h1
      | cons a l => simp
    exact ⟨⟨⟨⟨⟨⟨h1, h2⟩, fun x hx => (h x hx).1.1.1.1⟩, (h _ m0).1.1.1.2⟩, (h _ m0).1.1.2⟩, fun x hx => (h x hx).1.2⟩, fun x hx => (h x hx).2⟩
theorem eq_nil {l : List D} (h : l.all (okD 49) = true) : cop .eq (.lst l) (.lst []) = some l.isEmpty := by
  have h1 : okD 50 (.lst l) = true := h
  have h2 : okD 50 (.lst []) = true := rfl
  show (if (okD 50 (.lst l) && okD 50 (.lst [])) = true then some (eqv (.lst l) (.lst [])) else none) = _
  rw [h1, h2]
  cases l <;> simp [eqv, eqvL]
theorem ne_nil {l : List D} (h : l.all (okD 49) = true) : cop .ne (.lst l) (.lst []) = some (!l.isEmpty) := by
  have := eq_nil h
  simp only [cop] at this ⊢
  rw [this]
  rfl
def S_law_is_picture (Φ : Fns) : Prop := ∀ d : D, okD 40 d = true → Φ "_law_is_picture" [d] = M.pure (.bl (isPicD d))
theorem sp_law_is_picture {Φ : Fns} (d : D) (ok : okD 40 d = true) : runFn Φ fn__law_is_picture [d] = M.pure (.bl (isPicD d)) := by
  have e1 := isi_tupG ok
  cases d with
  | tup rows =>
    have okr : ∀ r ∈ rows, okD 39 r = true := List.all_eq_true.mp (by simpa only [okD] using ok)
    refine run_go [.val (.tup rows), .emp, .emp] ?_
    simp only [fn__law_is_picture]
    have i0 : isiD (.tup rows) "tuple" = some true := (rfl)
    rw [isPicD_rows]
    by_cases h1 : 1 ≤ rows.length ∧ rows.length ≤ 4
    rotate_left
    · rw [show (decide (1 ≤ rows.length) && decide (rows.length ≤ 4)) = false by
        by_cases z : 1 ≤ rows.length
        · have : ¬ rows.length ≤ 4 := fun z2 => h1 ⟨z, z2⟩
          simp [this]
        · simp [z], Bool.false_and]
      refine Go.ifRet (d := .bl false) ?_ (by try simp only [e_var, e_pk, e_cst, e_glo, e_bin, e_neg, e_not, e_cmp, e_chn, e_boo, e_ite, e_tup, e_lst, e_ix, e_slc, e_rev, e_call, e_blt, e_isi, e_comp, a_nil, a_cons, b_one, b_cons, t_nil, t_one, s_skip, s_seq, s_asg, s_own, s_frz, s_set, s_app, s_ext, s_expr, s_ret, s_ite, s_loop, M.pure_bind, M.lift_some, M.calm_pure, M.bind_assoc, asBl, List.getElem?_cons_zero, List.getElem?_cons_succ, List.set_cons_zero, List.set_cons_succ, Option.map_some, put, putAll, if_true, if_false, Bool.false_eq_true, Bool.true_eq_false, Bool.not_true, Bool.not_false, Cn.d, partD, List.map_cons, List.map_nil, Ev.wipe, o_add, o_sub, o_mull, o_mulr, o_mod, o_div, o_addt, o_addl, o_lt, o_le, o_gt, o_ge, eq_int, ne_int, u_lenl, u_lent, u_lens, u_max, u_min, u_abs, u_tupl, u_tupt, i_int, i_bool, i_tup, i_rng1, i_lst, i_tupl, len_pic, len_row]) rfl
      by_cases z : (1 : Int) ≤ (rows.length : Nat)
      · have z2 : ¬ ((rows.length : Nat) : Int) ≤ 4 := by omega
        try simp only [e_var, e_pk, e_cst, e_glo, e_bin, e_neg, e_not, e_cmp, e_chn, e_boo, e_ite, e_tup, e_lst, e_ix, e_slc, e_rev, e_call, e_blt, e_isi, e_comp, a_nil, a_cons, b_one, b_cons, t_nil, t_one, s_skip, s_seq, s_asg, s_own, s_frz, s_set, s_app, s_ext, s_expr, s_ret, s_ite, s_loop, M.pure_bind, M.lift_some, M.calm_pure, M.bind_assoc, asBl, List.getElem?_cons_zero, List.getElem?_cons_succ, List.set_cons_zero, List.set_cons_succ, Option.map_some, put, putAll, if_true, if_false, Bool.false_eq_true, Bool.true_eq_false, Bool.not_true, Bool.not_false, Cn.d, partD, List.map_cons, List.map_nil, Ev.wipe, o_add, o_sub, o_mull, o_mulr, o_mod, o_div, o_addt, o_addl, o_lt, o_le, o_gt, o_ge, eq_int, ne_int, u_lenl, u_lent, u_lens, u_max, u_min, u_abs, u_tupl, u_tupt, i_int, i_bool, i_tup, i_rng1, i_lst, i_tupl, len_pic, len_row, i0, z, z2, decide_true, decide_false]
      · try simp only [e_var, e_pk, e_cst, e_glo, e_bin, e_neg, e_not, e_cmp, e_chn, e_boo, e_ite, e_tup, e_lst, e_ix, e_slc, e_rev, e_call, e_blt, e_isi, e_comp, a_nil, a_cons, b_one, b_cons, t_nil, t_one, s_skip, s_seq, s_asg, s_own, s_frz, s_set, s_app, s_ext, s_expr, s_ret, s_ite, s_loop, M.pure_bind, M.lift_some, M.calm_pure, M.bind_assoc, asBl, List.getElem?_cons_zero, List.getElem?_cons_succ, List.set_cons_zero, List.set_cons_succ, Option.map_some, put, putAll, if_true, if_false, Bool.false_eq_true, Bool.true_eq_false, Bool.not_true, Bool.not_false, Cn.d, partD, List.map_cons, List.map_nil, Ev.wipe, o_add, o_sub, o_mull, o_mulr, o_mod, o_div, o_addt, o_addl, o_lt, o_le, o_gt, o_ge, eq_int, ne_int, u_lenl, u_lent, u_lens, u_max, u_min, u_abs, u_tupl, u_tupt, i_int, i_bool, i_tup, i_rng1, i_lst, i_tupl, len_pic, len_row, i0, z, decide_true, decide_false]
    obtain ⟨h1, h2⟩ := h1
    have z1 : (1 : Int) ≤ (rows.length : Nat) := by omega
    have z2 : ((rows.length : Nat) : Int) ≤ 4 := by omega
    refine Go.if0 (by try simp only [e_var, e_pk, e_cst, e_glo, e_bin, e_neg, e_not, e_cmp, e_chn, e_boo, e_ite, e_tup, e_lst, e_ix, e_slc, e_rev, e_call, e_blt, e_isi, e_comp, a_nil, a_cons, b_one, b_cons, t_nil, t_one, s_skip, s_seq, s_asg, s_own, s_frz, s_set, s_app, s_ext, s_expr, s_ret, s_ite, s_loop, M.pure_bind, M.lift_some, M.calm_pure, M.bind_assoc, asBl, List.getElem?_cons_zero, List.getElem?_cons_succ, List.set_cons_zero, List.set_cons_succ, Option.map_some, put, putAll, if_true, if_false, Bool.false_eq_true, Bool.true_eq_false, Bool.not_true, Bool.not_false, Cn.d, partD, List.map_cons, List.map_nil, Ev.wipe, o_add, o_sub, o_mull, o_mulr, o_mod, o_div, o_addt, o_addl, o_lt, o_le, o_gt, o_ge, eq_int, ne_int, u_lenl, u_lent, u_lens, u_max, u_min, u_abs, u_tupl, u_tupt, i_int, i_bool, i_tup, i_rng1, i_lst, i_tupl, len_pic, len_row, i0, z1, z2, decide_true]) ?_
    rw [show (decide (1 ≤ rows.length) && decide (rows.length ≤ 4)) = true by simp [h1, h2], Bool.true_and]
    obtain ⟨r0, rs, hrs⟩ : ∃ r0 rs, rows = r0 :: rs := by
      cases rows with
      | nil => simp at h1
      | cons a b => exact ⟨a, b, rfl⟩
    have i1 : ixD (.tup rows) (.int 0) = some r0 := by rw [hrs]; simp [ixD, ixN]
    have g0 : rows.getD 0 .non = r0 := by rw [hrs]; rfl
    have t0 : rows.take 1 = [r0] := by rw [hrs]; rfl
    have x0 : rows[0]? = some r0 := by rw [hrs]; rfl
    rw [g0]
    clear hrs
    refine Go.forAny (ds := [.tup rows]) (items := rows) (fun x => !okRow (lenT r0) x) (.bl false) (by try simp only [e_var, e_pk, e_cst, e_glo, e_bin, e_neg, e_not, e_cmp, e_chn, e_boo, e_ite, e_tup, e_lst, e_ix, e_slc, e_rev, e_call, e_blt, e_isi, e_comp, a_nil, a_cons, b_one, b_cons, t_nil, t_one, s_skip, s_seq, s_asg, s_own, s_frz, s_set, s_app, s_ext, s_expr, s_ret, s_ite, s_loop, M.pure_bind, M.lift_some, M.calm_pure, M.bind_assoc, asBl, List.getElem?_cons_zero, List.getElem?_cons_succ, List.set_cons_zero, List.set_cons_succ, Option.map_some, put, putAll, if_true, if_false, Bool.false_eq_true, Bool.true_eq_false, Bool.not_true, Bool.not_false, Cn.d, partD, List.map_cons, List.map_nil, Ev.wipe, o_add, o_sub, o_mull, o_mulr, o_mod, o_div, o_addt, o_addl, o_lt, o_le, o_gt, o_ge, eq_int, ne_int, u_lenl, u_lent, u_lens, u_max, u_min, u_abs, u_tupl, u_tupt, i_int, i_bool, i_tup, i_rng1, i_lst, i_tupl, len_pic, len_row]) rfl (fun _ ρ => ∃ v1 v2, ρ = [.val (.tup rows), v1, v2]) ⟨_, _, rfl⟩ ?_ ?_ ?_
    · rintro i x ρ hx hp ⟨v1, v2, rfl⟩
      refine ⟨_, rfl, ?_⟩
      simp only [List.set_cons_succ, List.set_cons_zero]
      have okx := okr x (List.mem_of_getElem? hx)
      have ex := isi_tupG okx
      by_cases tx : isTup x = true
      rotate_left
      · have tx : isTup x = false := by simpa using tx
        have hp : (!okRow (lenT r0) x) = true := by simp [okRow, tx]
        rw [tx] at ex
        refine Go.ifRet (d := .bl false) (by try simp only [e_var, e_pk, e_cst, e_glo, e_bin, e_neg, e_not, e_cmp, e_chn, e_boo, e_ite, e_tup, e_lst, e_ix, e_slc, e_rev, e_call, e_blt, e_isi, e_comp, a_nil, a_cons, b_one, b_cons, t_nil, t_one, s_skip, s_seq, s_asg, s_own, s_frz, s_set, s_app, s_ext, s_expr, s_ret, s_ite, s_loop, M.pure_bind, M.lift_some, M.calm_pure, M.bind_assoc, asBl, List.getElem?_cons_zero, List.getElem?_cons_succ, List.set_cons_zero, List.set_cons_succ, Option.map_some, put, putAll, if_true, if_false, Bool.false_eq_true, Bool.true_eq_false, Bool.not_true, Bool.not_false, Cn.d, partD, List.map_cons, List.map_nil, Ev.wipe, o_add, o_sub, o_mull, o_mulr, o_mod, o_div, o_addt, o_addl, o_lt, o_le, o_gt, o_ge, eq_int, ne_int, u_lenl, u_lent, u_lens, u_max, u_min, u_abs, u_tupl, u_tupt, i_int, i_bool, i_tup, i_rng1, i_lst, i_tupl, len_pic, len_row, ex]) (by try simp only [e_var, e_pk, e_cst, e_glo, e_bin, e_neg, e_not, e_cmp, e_chn, e_boo, e_ite, e_tup, e_lst, e_ix, e_slc, e_rev, e_call, e_blt, e_isi, e_comp, a_nil, a_cons, b_one, b_cons, t_nil, t_one, s_skip, s_seq, s_asg, s_own, s_frz, s_set, s_app, s_ext, s_expr, s_ret, s_ite, s_loop, M.pure_bind, M.lift_some, M.calm_pure, M.bind_assoc, asBl, List.getElem?_cons_zero, List.getElem?_cons_succ, List.set_cons_zero, List.set_cons_succ, Option.map_some, put, putAll, if_true, if_false, Bool.false_eq_true, Bool.true_eq_false, Bool.not_true, Bool.not_false, Cn.d, partD, List.map_cons, List.map_nil, Ev.wipe, o_add, o_sub, o_mull, o_mulr, o_mod, o_div, o_addt, o_addl, o_lt, o_le, o_gt, o_ge, eq_int, ne_int, u_lenl, u_lent, u_lens, u_max, u_min, u_abs, u_tupl, u_tupt, i_int, i_bool, i_tup, i_rng1, i_lst, i_tupl, len_pic, len_row]) ?_
        rw [if_pos hp]
      have l0 : blt .len [r0] = some (.int (lenT r0 : Nat)) := by
        cases i with
        | zero =>
          rw [x0] at hx
          cases hx
          exact len_isTup tx
        | succ i =>
          have : (!okRow (lenT r0) r0) = false := hp r0 (by
            rw [show rows.take (i + 1) = rows.take 1 ++ (rows.drop 1).take i by rw [← List.take_add, Nat.add_comm], t0]
            exact List.mem_append_left _ List.mem_cons_self)
          have tr : isTup r0 = true := by
            simp only [okRow, Bool.not_eq_false', Bool.and_eq_true] at this
            exact this.1.1.1.1
          exact len_isTup tr
      have lx := len_isTup tx
      rw [tx] at ex
      by_cases c1 : 1 ≤ lenT x ∧ lenT x ≤ 6 ∧ lenT x = lenT r0
      rotate_left
      · have hp : (!okRow (lenT r0) x) = true := by
          rw [Bool.not_eq_true']
          cases q : okRow (lenT r0) x with
          | false => rfl
          | true =>
            simp only [okRow, Bool.and_eq_true, decide_eq_true_eq] at q
            exact absurd ⟨q.1.1.1.2, q.1.1.2, q.1.2⟩ c1
        refine Go.ifRet (d := .bl false) ?_ (by try simp only [e_var, e_pk, e_cst, e_glo, e_bin, e_neg, e_not, e_cmp, e_chn, e_boo, e_ite, e_tup, e_lst, e_ix, e_slc, e_rev, e_call, e_blt, e_isi, e_comp, a_nil, a_cons, b_one, b_cons, t_nil, t_one, s_skip, s_seq, s_asg, s_own, s_frz, s_set, s_app, s_ext, s_expr, s_ret, s_ite, s_loop, M.pure_bind, M.lift_some, M.calm_pure, M.bind_assoc, asBl, List.getElem?_cons_zero, List.getElem?_cons_succ, List.set_cons_zero, List.set_cons_succ, Option.map_some, put, putAll, if_true, if_false, Bool.false_eq_true, Bool.true_eq_false, Bool.not_true, Bool.not_false, Cn.d, partD, List.map_cons, List.map_nil, Ev.wipe, o_add, o_sub, o_mull, o_mulr, o_mod, o_div, o_addt, o_addl, o_lt, o_le, o_gt, o_ge, eq_int, ne_int, u_lenl, u_lent, u_lens, u_max, u_min, u_abs, u_tupl, u_tupt, i_int, i_bool, i_tup, i_rng1, i_lst, i_tupl, len_pic, len_row]) (by rw [if_pos hp])
        by_cases y1 : (1 : Int) ≤ (lenT x : Nat)
        · by_cases y2 : ((lenT x : Nat) : Int) ≤ 6
          · have y3 : ¬ ((lenT x : Nat) : Int) = (lenT r0 : Nat) := fun z => c1 ⟨by omega, by omega, by omega⟩
            try simp only [e_var, e_pk, e_cst, e_glo, e_bin, e_neg, e_not, e_cmp, e_chn, e_boo, e_ite, e_tup, e_lst, e_ix, e_slc, e_rev, e_call, e_blt, e_isi, e_comp, a_nil, a_cons, b_one, b_cons, t_nil, t_one, s_skip, s_seq, s_asg, s_own, s_frz, s_set, s_app, s_ext, s_expr, s_ret, s_ite, s_loop, M.pure_bind, M.lift_some, M.calm_pure, M.bind_assoc, asBl, List.getElem?_cons_zero, List.getElem?_cons_succ, List.set_cons_zero, List.set_cons_succ, Option.map_some, put, putAll, if_true, if_false, Bool.false_eq_true, Bool.true_eq_false, Bool.not_true, Bool.not_false, Cn.d, partD, List.map_cons, List.map_nil, Ev.wipe, o_add, o_sub, o_mull, o_mulr, o_mod, o_div, o_addt, o_addl, o_lt, o_le, o_gt, o_ge, eq_int, ne_int, u_lenl, u_lent, u_lens, u_max, u_min, u_abs, u_tupl, u_tupt, i_int, i_bool, i_tup, i_rng1, i_lst, i_tupl, len_pic, len_row, ex, lx, y1, y2, decide_true, i1, l0, y3, decide_false]
          · try simp only [e_var, e_pk, e_cst, e_glo, e_bin, e_neg, e_not, e_cmp, e_chn, e_boo, e_ite, e_tup, e_lst, e_ix, e_slc, e_rev, e_call, e_blt, e_isi, e_comp, a_nil, a_cons, b_one, b_cons, t_nil, t_one, s_skip, s_seq, s_asg, s_own, s_frz, s_set, s_app, s_ext, s_expr, s_ret, s_ite, s_loop, M.pure_bind, M.lift_some, M.calm_pure, M.bind_assoc, asBl, List.getElem?_cons_zero, List.getElem?_cons_succ, List.set_cons_zero, List.set_cons_succ, Option.map_some, put, putAll, if_true, if_false, Bool.false_eq_true, Bool.true_eq_false, Bool.not_true, Bool.not_false, Cn.d, partD, List.map_cons, List.map_nil, Ev.wipe, o_add, o_sub, o_mull, o_mulr, o_mod, o_div, o_addt, o_addl, o_lt, o_le, o_gt, o_ge, eq_int, ne_int, u_lenl, u_lent, u_lens, u_max, u_min, u_abs, u_tupl, u_tupt, i_int, i_bool, i_tup, i_rng1, i_lst, i_tupl, len_pic, len_row, ex, lx, y1, y2, decide_true, decide_false]
        · try simp only [e_var, e_pk, e_cst, e_glo, e_bin, e_neg, e_not, e_cmp, e_chn, e_boo, e_ite, e_tup, e_lst, e_ix, e_slc, e_rev, e_call, e_blt, e_isi, e_comp, a_nil, a_cons, b_one, b_cons, t_nil, t_one, s_skip, s_seq, s_asg, s_own, s_frz, s_set, s_app, s_ext, s_expr, s_ret, s_ite, s_loop, M.pure_bind, M.lift_some, M.calm_pure, M.bind_assoc, asBl, List.getElem?_cons_zero, List.getElem?_cons_succ, List.set_cons_zero, List.set_cons_succ, Option.map_some, put, putAll, if_true, if_false, Bool.false_eq_true, Bool.true_eq_false, Bool.not_true, Bool.not_false, Cn.d, partD, List.map_cons, List.map_nil, Ev.wipe, o_add, o_sub, o_mull, o_mulr, o_mod, o_div, o_addt, o_addl, o_lt, o_le, o_gt, o_ge, eq_int, ne_int, u_lenl, u_lent, u_lens, u_max, u_min, u_abs, u_tupl, u_tupt, i_int, i_bool, i_tup, i_rng1, i_lst, i_tupl, len_pic, len_row, ex, lx, y1, decide_false]
      obtain ⟨y1, y2, y3⟩ := c1
      have y1' : (1 : Int) ≤ (lenT x : Nat) := by omega
      have y2' : ((lenT x : Nat) : Int) ≤ 6 := by omega
      refine Go.if0 ?_ ?_
      · rw [y3] at lx y1' y2'
        try simp only [e_var, e_pk, e_cst, e_glo, e_bin, e_neg, e_not, e_cmp, e_chn, e_boo, e_ite, e_tup, e_lst, e_ix, e_slc, e_rev, e_call, e_blt, e_isi, e_comp, a_nil, a_cons, b_one, b_cons, t_nil, t_one, s_skip, s_seq, s_asg, s_own, s_frz, s_set, s_app, s_ext, s_expr, s_ret, s_ite, s_loop, M.pure_bind, M.lift_some, M.calm_pure, M.bind_assoc, asBl, List.getElem?_cons_zero, List.getElem?_cons_succ, List.set_cons_zero, List.set_cons_succ, Option.map_some, put, putAll, if_true, if_false, Bool.false_eq_true, Bool.true_eq_false, Bool.not_true, Bool.not_false, Cn.d, partD, List.map_cons, List.map_nil, Ev.wipe, o_add, o_sub, o_mull, o_mulr, o_mod, o_div, o_addt, o_addl, o_lt, o_le, o_gt, o_ge, eq_int, ne_int, u_lenl, u_lent, u_lens, u_max, u_min, u_abs, u_tupl, u_tupt, i_int, i_bool, i_tup, i_rng1, i_lst, i_tupl, len_pic, len_row, ex, lx, y1', y2', decide_true, i1, l0]
      have okxs : ∀ y ∈ itemsT x, okD 38 y = true := fun y hy => by
        rw [isTup_iff tx] at okx
        exact List.all_eq_true.mp (by simpa only [okD] using okx) y hy
      have isx := isTup_iff tx
      have cf := comp_eqF (Φ := Φ) (ρ := [.val (.tup rows), .val x, v2]) (k := .seq) (src := .cons (.var 1) .nil) (cnd := .cons (.boo false (.cons (.isi (.var 2) "bool") (.cons (.not (.isi (.var 2) "int")) (.cons (.not (.chn .le .le (.cst (.int 0)) (.var 2) (.cst (.int 4)))) .nil)))) .nil) (elt := .var 2) (tg := .nm 2) (own := [("_law_one", 2)]) (ds := [x]) (l := itemsT x) (emb := id) (fun y => !isNumD 0 4 y) id (by try simp only [e_var, e_pk, e_cst, e_glo, e_bin, e_neg, e_not, e_cmp, e_chn, e_boo, e_ite, e_tup, e_lst, e_ix, e_slc, e_rev, e_call, e_blt, e_isi, e_comp, a_nil, a_cons, b_one, b_cons, t_nil, t_one, s_skip, s_seq, s_asg, s_own, s_frz, s_set, s_app, s_ext, s_expr, s_ret, s_ite, s_loop, M.pure_bind, M.lift_some, M.calm_pure, M.bind_assoc, asBl, List.getElem?_cons_zero, List.getElem?_cons_succ, List.set_cons_zero, List.set_cons_succ, Option.map_some, put, putAll, if_true, if_false, Bool.false_eq_true, Bool.true_eq_false, Bool.not_true, Bool.not_false, Cn.d, partD, List.map_cons, List.map_nil, Ev.wipe, o_add, o_sub, o_mull, o_mulr, o_mod, o_div, o_addt, o_addl, o_lt, o_le, o_gt, o_ge, eq_int, ne_int, u_lenl, u_lent, u_lens, u_max, u_min, u_abs, u_tupl, u_tupt, i_int, i_bool, i_tup, i_rng1, i_lst, i_tupl, len_pic, len_row]) (by rw [List.map_id]; generalize itemsT x = xs at *; rw [isx]; rfl) (fun y hy => by
        have oky := okxs y hy
        have b1 := isi_boolG oky
        have b2 := isi_intG oky
        unfold oneC
        cases y with
        | int j =>
          by_cases j1 : (0 : Int) ≤ j
          · by_cases j2 : j ≤ 4
            · try simp only [e_var, e_pk, e_cst, e_glo, e_bin, e_neg, e_not, e_cmp, e_chn, e_boo, e_ite, e_tup, e_lst, e_ix, e_slc, e_rev, e_call, e_blt, e_isi, e_comp, a_nil, a_cons, b_one, b_cons, t_nil, t_one, s_skip, s_seq, s_asg, s_own, s_frz, s_set, s_app, s_ext, s_expr, s_ret, s_ite, s_loop, M.pure_bind, M.lift_some, M.calm_pure, M.bind_assoc, asBl, List.getElem?_cons_zero, List.getElem?_cons_succ, List.set_cons_zero, List.set_cons_succ, Option.map_some, put, putAll, if_true, if_false, Bool.false_eq_true, Bool.true_eq_false, Bool.not_true, Bool.not_false, Cn.d, partD, List.map_cons, List.map_nil, Ev.wipe, o_add, o_sub, o_mull, o_mulr, o_mod, o_div, o_addt, o_addl, o_lt, o_le, o_gt, o_ge, eq_int, ne_int, u_lenl, u_lent, u_lens, u_max, u_min, u_abs, u_tupl, u_tupt, i_int, i_bool, i_tup, i_rng1, i_lst, i_tupl, len_pic, len_row, id, b1, b2, j1, j2, decide_true]
              exact .pure (by simp [isNumD, j1, j2])
            · try simp only [e_var, e_pk, e_cst, e_glo, e_bin, e_neg, e_not, e_cmp, e_chn, e_boo, e_ite, e_tup, e_lst, e_ix, e_slc, e_rev, e_call, e_blt, e_isi, e_comp, a_nil, a_cons, b_one, b_cons, t_nil, t_one, s_skip, s_seq, s_asg, s_own, s_frz, s_set, s_app, s_ext, s_expr, s_ret, s_ite, s_loop, M.pure_bind, M.lift_some, M.calm_pure, M.bind_assoc, asBl, List.getElem?_cons_zero, List.getElem?_cons_succ, List.set_cons_zero, List.set_cons_succ, Option.map_some, put, putAll, if_true, if_false, Bool.false_eq_true, Bool.true_eq_false, Bool.not_true, Bool.not_false, Cn.d, partD, List.map_cons, List.map_nil, Ev.wipe, o_add, o_sub, o_mull, o_mulr, o_mod, o_div, o_addt, o_addl, o_lt, o_le, o_gt, o_ge, eq_int, ne_int, u_lenl, u_lent, u_lens, u_max, u_min, u_abs, u_tupl, u_tupt, i_int, i_bool, i_tup, i_rng1, i_lst, i_tupl, len_pic, len_row, id, b1, b2, j1, j2, decide_true, decide_false]
              exact .pure (by simp [isNumD, j1, j2])
          · try simp only [e_var, e_pk, e_cst, e_glo, e_bin, e_neg, e_not, e_cmp, e_chn, e_boo, e_ite, e_tup, e_lst, e_ix, e_slc, e_rev, e_call, e_blt, e_isi, e_comp, a_nil, a_cons, b_one, b_cons, t_nil, t_one, s_skip, s_seq, s_asg, s_own, s_frz, s_set, s_app, s_ext, s_expr, s_ret, s_ite, s_loop, M.pure_bind, M.lift_some, M.calm_pure, M.bind_assoc, asBl, List.getElem?_cons_zero, List.getElem?_cons_succ, List.set_cons_zero, List.set_cons_succ, Option.map_some, put, putAll, if_true, if_false, Bool.false_eq_true, Bool.true_eq_false, Bool.not_true, Bool.not_false, Cn.d, partD, List.map_cons, List.map_nil, Ev.wipe, o_add, o_sub, o_mull, o_mulr, o_mod, o_div, o_addt, o_addl, o_lt, o_le, o_gt, o_ge, eq_int, ne_int, u_lenl, u_lent, u_lens, u_max, u_min, u_abs, u_tupl, u_tupt, i_int, i_bool, i_tup, i_rng1, i_lst, i_tupl, len_pic, len_row, id, b1, b2, j1, decide_false]
            exact .pure (by simp [isNumD, j1])
        | _ =>
          try simp only [e_var, e_pk, e_cst, e_glo, e_bin, e_neg, e_not, e_cmp, e_chn, e_boo, e_ite, e_tup, e_lst, e_ix, e_slc, e_rev, e_call, e_blt, e_isi, e_comp, a_nil, a_cons, b_one, b_cons, t_nil, t_one, s_skip, s_seq, s_asg, s_own, s_frz, s_set, s_app, s_ext, s_expr, s_ret, s_ite, s_loop, M.pure_bind, M.lift_some, M.calm_pure, M.bind_assoc, asBl, List.getElem?_cons_zero, List.getElem?_cons_succ, List.set_cons_zero, List.set_cons_succ, Option.map_some, put, putAll, if_true, if_false, Bool.false_eq_true, Bool.true_eq_false, Bool.not_true, Bool.not_false, Cn.d, partD, List.map_cons, List.map_nil, Ev.wipe, o_add, o_sub, o_mull, o_mulr, o_mod, o_div, o_addt, o_addl, o_lt, o_le, o_gt, o_ge, eq_int, ne_int, u_lenl, u_lent, u_lens, u_max, u_min, u_abs, u_tupl, u_tupt, i_int, i_bool, i_tup, i_rng1, i_lst, i_tupl, len_pic, len_row, id, b1, b2]
          exact .pure rfl)
      rw [List.map_id] at cf
      have okf : ((itemsT x).filter fun y => !isNumD 0 4 y).all (okD 49) = true := List.all_eq_true.mpr fun y hy => okD_mono (okxs y (List.mem_filter.mp hy).1) (by omega)
      have key : (okRow (lenT r0) x) = ((itemsT x).filter fun y => !isNumD 0 4 y).isEmpty := by
        simp only [okRow, tx, y1, y2, y3, decide_true, Bool.true_and]
        rw [show (decide (1 ≤ lenT r0) && decide (lenT r0 ≤ 6)) = true by rw [← y3]; simp [y1, y2], Bool.true_and, Bool.true_and, Bool.eq_iff_iff, List.all_eq_true, List.isEmpty_iff, List.filter_eq_nil_iff]
        exact ⟨fun h y hy => by simp [h y hy], fun h y hy => by simpa using h y hy⟩
      have nn := ne_nil (l := (itemsT x).filter fun y => !isNumD 0 4 y) okf
      rw [← key] at nn
      cases q : okRow (lenT r0) x with
      | true =>
        rw [q] at nn
        refine Go.if0 (by try simp only [e_var, e_pk, e_cst, e_glo, e_bin, e_neg, e_not, e_cmp, e_chn, e_boo, e_ite, e_tup, e_lst, e_ix, e_slc, e_rev, e_call, e_blt, e_isi, e_comp, a_nil, a_cons, b_one, b_cons, t_nil, t_one, s_skip, s_seq, s_asg, s_own, s_frz, s_set, s_app, s_ext, s_expr, s_ret, s_ite, s_loop, M.pure_bind, M.lift_some, M.calm_pure, M.bind_assoc, asBl, List.getElem?_cons_zero, List.getElem?_cons_succ, List.set_cons_zero, List.set_cons_succ, Option.map_some, put, putAll, if_true, if_false, Bool.false_eq_true, Bool.true_eq_false, Bool.not_true, Bool.not_false, Cn.d, partD, List.map_cons, List.map_nil, Ev.wipe, o_add, o_sub, o_mull, o_mulr, o_mod, o_div, o_addt, o_addl, o_lt, o_le, o_gt, o_ge, eq_int, ne_int, u_lenl, u_lent, u_lens, u_max, u_min, u_abs, u_tupl, u_tupt, i_int, i_bool, i_tup, i_rng1, i_lst, i_tupl, len_pic, len_row, cf, nn]) ?_
        refine Go.skipS ?_
        rw [if_neg (by decide)]
        exact ⟨rfl, _, _, rfl⟩
      | false =>
        rw [q] at nn
        refine Go.ifRet (d := .bl false) (by try simp only [e_var, e_pk, e_cst, e_glo, e_bin, e_neg, e_not, e_cmp, e_chn, e_boo, e_ite, e_tup, e_lst, e_ix, e_slc, e_rev, e_call, e_blt, e_isi, e_comp, a_nil, a_cons, b_one, b_cons, t_nil, t_one, s_skip, s_seq, s_asg, s_own, s_frz, s_set, s_app, s_ext, s_expr, s_ret, s_ite, s_loop, M.pure_bind, M.lift_some, M.calm_pure, M.bind_assoc, asBl, List.getElem?_cons_zero, List.getElem?_cons_succ, List.set_cons_zero, List.set_cons_succ, Option.map_some, put, putAll, if_true, if_false, Bool.false_eq_true, Bool.true_eq_false, Bool.not_true, Bool.not_false, Cn.d, partD, List.map_cons, List.map_nil, Ev.wipe, o_add, o_sub, o_mull, o_mulr, o_mod, o_div, o_addt, o_addl, o_lt, o_le, o_gt, o_ge, eq_int, ne_int, u_lenl, u_lent, u_lens, u_max, u_min, u_abs, u_tupl, u_tupt, i_int, i_bool, i_tup, i_rng1, i_lst, i_tupl, len_pic, len_row, cf, nn]) (by try simp only [e_var, e_pk, e_cst, e_glo, e_bin, e_neg, e_not, e_cmp, e_chn, e_boo, e_ite, e_tup, e_lst, e_ix, e_slc, e_rev, e_call, e_blt, e_isi, e_comp, a_nil, a_cons, b_one, b_cons, t_nil, t_one, s_skip, s_seq, s_asg, s_own, s_frz, s_set, s_app, s_ext, s_expr, s_ret, s_ite, s_loop, M.pure_bind, M.lift_some, M.calm_pure, M.bind_assoc, asBl, List.getElem?_cons_zero, List.getElem?_cons_succ, List.set_cons_zero, List.set_cons_succ, Option.map_some, put, putAll, if_true, if_false, Bool.false_eq_true, Bool.true_eq_false, Bool.not_true, Bool.not_false, Cn.d, partD, List.map_cons, List.map_nil, Ev.wipe, o_add, o_sub, o_mull, o_mulr, o_mod, o_div, o_addt, o_addl, o_lt, o_le, o_gt, o_ge, eq_int, ne_int, u_lenl, u_lent, u_lens, u_max, u_min, u_abs, u_tupl, u_tupt, i_int, i_bool, i_tup, i_rng1, i_lst, i_tupl, len_pic, len_row]) rfl
    · intro hany ρ'
      have : rows.all (okRow (lenT r0)) = false := by
        rw [← Bool.not_eq_true]
        intro h
        obtain ⟨x, hx, hx2⟩ := List.any_eq_true.mp hany
        rw [List.all_eq_true.mp h x hx] at hx2
        cases hx2
      rw [this]
    · rintro hany ρ' ⟨v1, v2, rfl⟩
      have : rows.all (okRow (lenT r0)) = true := List.all_eq_true.mpr fun x hx => by
        have := List.any_eq_false.mp hany x hx
        simpa using this
      rw [this]
      exact Go.retS (.bl true) (by try simp only [e_var, e_pk, e_cst, e_glo, e_bin, e_neg, e_not, e_cmp, e_chn, e_boo, e_ite, e_tup, e_lst, e_ix, e_slc, e_rev, e_call, e_blt, e_isi, e_comp, a_nil, a_cons, b_one, b_cons, t_nil, t_one, s_skip, s_seq, s_asg, s_own, s_frz, s_set, s_app, s_ext, s_expr, s_ret, s_ite, s_loop, M.pure_bind, M.lift_some, M.calm_pure, M.bind_assoc, asBl, List.getElem?_cons_zero, List.getElem?_cons_succ, List.set_cons_zero, List.set_cons_succ, Option.map_some, put, putAll, if_true, if_false, Bool.false_eq_true, Bool.true_eq_false, Bool.not_true, Bool.not_false, Cn.d, partD, List.map_cons, List.map_nil, Ev.wipe, o_add, o_sub, o_mull, o_mulr, o_mod, o_div, o_addt, o_addl, o_lt, o_le, o_gt, o_ge, eq_int, ne_int, u_lenl, u_lent, u_lens, u_max, u_min, u_abs, u_tupl, u_tupt, i_int, i_bool, i_tup, i_rng1, i_lst, i_tupl, len_pic, len_row]) rfl
  | _ =>
    refine run_go [.val _, .emp, .emp] ?_
    try simp only [e_var, e_pk, e_cst, e_glo, e_bin, e_neg, e_not, e_cmp, e_chn, e_boo, e_ite, e_tup, e_lst, e_ix, e_slc, e_rev, e_call, e_blt, e_isi, e_comp, a_nil, a_cons, b_one, b_cons, t_nil, t_one, s_skip, s_seq, s_asg, s_own, s_frz, s_set, s_app, s_ext, s_expr, s_ret, s_ite, s_loop, M.pure_bind, M.lift_some, M.calm_pure, M.bind_assoc, asBl, List.getElem?_cons_zero, List.getElem?_cons_succ, List.set_cons_zero, List.set_cons_succ, Option.map_some, put, putAll, if_true, if_false, Bool.false_eq_true, Bool.true_eq_false, Bool.not_true, Bool.not_false, Cn.d, partD, List.map_cons, List.map_nil, Ev.wipe, o_add, o_sub, o_mull, o_mulr, o_mod, o_div, o_addt, o_addl, o_lt, o_le, o_gt, o_ge, eq_int, ne_int, u_lenl, u_lent, u_lens, u_max, u_min, u_abs, u_tupl, u_tupt, i_int, i_bool, i_tup, i_rng1, i_lst, i_tupl, len_pic, len_row, fn__law_is_picture, e1]
    exact .pure rfl
/-! ### sizes of any kind -/
theorem isNumD_nat {lo hi : Nat} {i : Nat} : isNumD lo hi (.int (i : Nat)) = (decide (lo ≤ i) && decide (i ≤ hi)) := by
  simp only [isNumD]
  congr 1 <;> exact decide_eq_decide.mpr (by omega)
def S_is_sizeG (Φ : Fns) : Prop := ∀ a b : D, okD 40 a = true → okD 40 b = true → Φ "is_size" [a, b] = M.pure (.bl (isNumD 1 4 a && isNumD 1 6 b))
theorem sp_is_sizeG {Φ : Fns} (hn : S_is_numberG Φ) (a b : D) (ha : okD 40 a = true) (hb : okD 40 b = true) : runFn Φ fn_is_size [a, b] = M.pure (.bl (isNumD 1 4 a && isNumD 1 6 b)) := by
  refine run_go [.val (a), .val (b)] ?_
  cases q : isNumD 1 4 a with
  | true =>
    try simp only [e_var, e_pk, e_cst, e_glo, e_bin, e_neg, e_not, e_cmp, e_chn, e_boo, e_ite, e_tup, e_lst, e_ix, e_slc, e_rev, e_call, e_blt, e_isi, e_comp, a_nil, a_cons, b_one, b_cons, t_nil, t_one, s_skip, s_seq, s_asg, s_own, s_frz, s_set, s_app, s_ext, s_expr, s_ret, s_ite, s_loop, M.pure_bind, M.lift_some, M.calm_pure, M.bind_assoc, asBl, List.getElem?_cons_zero, List.getElem?_cons_succ, List.set_cons_zero, List.set_cons_succ, Option.map_some, put, putAll, if_true, if_false, Bool.false_eq_true, Bool.true_eq_false, Bool.not_true, Bool.not_false, Cn.d, partD, List.map_cons, List.map_nil, Ev.wipe, o_add, o_sub, o_mull, o_mulr, o_mod, o_div, o_addt, o_addl, o_lt, o_le, o_gt, o_ge, eq_int, ne_int, u_lenl, u_lent, u_lens, u_max, u_min, u_abs, u_tupl, u_tupt, i_int, i_bool, i_tup, i_rng1, i_lst, i_tupl, len_pic, len_row, fn_is_size, hn a 1 4 ha, hn b 1 6 hb, q, Bool.true_and]
    exact .pure rfl
  | false =>
    try simp only [e_var, e_pk, e_cst, e_glo, e_bin, e_neg, e_not, e_cmp, e_chn, e_boo, e_ite, e_tup, e_lst, e_ix, e_slc, e_rev, e_call, e_blt, e_isi, e_comp, a_nil, a_cons, b_one, b_cons, t_nil, t_one, s_skip, s_seq, s_asg, s_own, s_frz, s_set, s_app, s_ext, s_expr, s_ret, s_ite, s_loop, M.pure_bind, M.lift_some, M.calm_pure, M.bind_assoc, asBl, List.getElem?_cons_zero, List.getElem?_cons_succ, List.set_cons_zero, List.set_cons_succ, Option.map_some, put, putAll, if_true, if_false, Bool.false_eq_true, Bool.true_eq_false, Bool.not_true, Bool.not_false, Cn.d, partD, List.map_cons, List.map_nil, Ev.wipe, o_add, o_sub, o_mull, o_mulr, o_mod, o_div, o_addt, o_addl, o_lt, o_le, o_gt, o_ge, eq_int, ne_int, u_lenl, u_lent, u_lens, u_max, u_min, u_abs, u_tupl, u_tupt, i_int, i_bool, i_tup, i_rng1, i_lst, i_tupl, len_pic, len_row, fn_is_size, hn a 1 4 ha, q, Bool.false_and]
    exact .pure rfl
def S_need_sizeG (Φ : Fns) : Prop := ∀ a b : D, okD 40 a = true → okD 40 b = true → (isNumD 1 4 a && isNumD 1 6 b) = false → Φ "need_size" [a, b] = thr "NoSize"
theorem sp_need_sizeG {Φ : Fns} (hn : S_is_sizeG Φ) (a b : D) (ha : okD 40 a = true) (hb : okD 40 b = true) (h : (isNumD 1 4 a && isNumD 1 6 b) = false) : runFn Φ fn_need_size [a, b] = thr "NoSize" := by
  refine run_thr [.val (a), .val (b)] ?_
  try simp only [e_var, e_pk, e_cst, e_glo, e_bin, e_neg, e_not, e_cmp, e_chn, e_boo, e_ite, e_tup, e_lst, e_ix, e_slc, e_rev, e_call, e_blt, e_isi, e_comp, a_nil, a_cons, b_one, b_cons, t_nil, t_one, s_skip, s_seq, s_asg, s_own, s_frz, s_set, s_app, s_ext, s_expr, s_ret, s_ite, s_loop, M.pure_bind, M.lift_some, M.calm_pure, M.bind_assoc, asBl, List.getElem?_cons_zero, List.getElem?_cons_succ, List.set_cons_zero, List.set_cons_succ, Option.map_some, put, putAll, if_true, if_false, Bool.false_eq_true, Bool.true_eq_false, Bool.not_true, Bool.not_false, Cn.d, partD, List.map_cons, List.map_nil, Ev.wipe, o_add, o_sub, o_mull, o_mulr, o_mod, o_div, o_addt, o_addl, o_lt, o_le, o_gt, o_ge, eq_int, ne_int, u_lenl, u_lent, u_lens, u_max, u_min, u_abs, u_tupl, u_tupt, i_int, i_bool, i_tup, i_rng1, i_lst, i_tupl, len_pic, len_row, fn_need_size, hn a b ha hb, h, s_raise, thr_bind]
def S_darkG (Φ : Fns) : Prop := ∀ a b : D, okD 40 a = true → okD 40 b = true → (isNumD 1 4 a && isNumD 1 6 b) = false → Φ "dark" [a, b] = thr "NoSize"
theorem sp_darkG {Φ : Fns} (hn : S_need_sizeG Φ) (a b : D) (ha : okD 40 a = true) (hb : okD 40 b = true) (h : (isNumD 1 4 a && isNumD 1 6 b) = false) : runFn Φ fn_dark [a, b] = thr "NoSize" := by
  refine run_thr [.val (a), .val (b)] ?_
  try simp only [e_var, e_pk, e_cst, e_glo, e_bin, e_neg, e_not, e_cmp, e_chn, e_boo, e_ite, e_tup, e_lst, e_ix, e_slc, e_rev, e_call, e_blt, e_isi, e_comp, a_nil, a_cons, b_one, b_cons, t_nil, t_one, s_skip, s_seq, s_asg, s_own, s_frz, s_set, s_app, s_ext, s_expr, s_ret, s_ite, s_loop, M.pure_bind, M.lift_some, M.calm_pure, M.bind_assoc, asBl, List.getElem?_cons_zero, List.getElem?_cons_succ, List.set_cons_zero, List.set_cons_succ, Option.map_some, put, putAll, if_true, if_false, Bool.false_eq_true, Bool.true_eq_false, Bool.not_true, Bool.not_false, Cn.d, partD, List.map_cons, List.map_nil, Ev.wipe, o_add, o_sub, o_mull, o_mulr, o_mod, o_div, o_addt, o_addl, o_lt, o_le, o_gt, o_ge, eq_int, ne_int, u_lenl, u_lent, u_lens, u_max, u_min, u_abs, u_tupl, u_tupt, i_int, i_bool, i_tup, i_rng1, i_lst, i_tupl, len_pic, len_row, fn_dark, hn a b ha hb h, thr_bind]
/-! ### things spoilt -/
def eachD : Nat → D → List D
  | 0, _ => []
  | _ + 1, .int i => [.non, .bl true, .int (i - 1), .int (i + 1), .int 1000]
  | n + 1, .tup l => [.non, .lst l, .tup (l ++ l.drop (l.length - 1)), .tup (l.drop 1)] ++
      (List.range l.length).flatMap fun p => (eachD n (l.getD p .non)).map fun x => .tup (l.take p ++ [x] ++ l.drop (p + 1))
  | _ + 1, _ => [.non, .str "", .str "A"]
/-! ### comparisons -/
theorem eq_bl {a b : Bool} : cop .eq (.bl a) (.bl b) = some (a == b) := by cases a <;> cases b <;> rfl
def rf (k : Int) : D := .tup [.str "refused", .int k]
theorem okD_rf {k : Int} {n : Nat} : okD (n + 3) (rf k) = true := by
  simp only [rf, okD, List.all_cons, List.all_nil, Bool.and_true]
  decide +kernel
end Ev.Vw

end
section
set_option maxRecDepth 100000
set_option maxHeartbeats 4000000
namespace Ev.Vw
open PySem Ev
/-! ### films of any kind -/
def s0 (d : D) : D := (itemsT d).getD 0 .non
def s1 (d : D) : D := (itemsT d).getD 1 .non
def isShotD (d : D) : Bool := isTup d && decide (lenT d = 2) && isPicD (s0 d) && isNumD 1 3 (s1 d)
def szD (p : D) : Nat × Nat := (rD p, cD p)
def isFilmD (d : D) : Bool := isTup d && decide (1 ≤ lenT d) && decide (lenT d ≤ 4) && (itemsT d).all isShotD && (itemsT d).all (fun s => decide (szD (s0 s) = szD (s0 (s0 d))))
theorem shot_at {d : D} (h : isShotD d = true) : d = .tup [pic (rD (s0 d)) (cD (s0 d)) (fD (s0 d)), .int ((intT (s1 d)).toNat : Nat)] ∧ Pc (rD (s0 d)) (cD (s0 d)) (fD (s0 d)) ∧ 1 ≤ (intT (s1 d)).toNat ∧ (intT (s1 d)).toNat ≤ 3 := by
  simp only [isShotD, Bool.and_eq_true, decide_eq_true_eq] at h
  obtain ⟨⟨⟨h1, h2⟩, h3⟩, h4⟩ := h
  obtain ⟨e, p⟩ := pic_at h3
  obtain ⟨i, e2, i1, i3⟩ := numD_iff h4
  have e4 : ((intT (s1 d)).toNat : Int) = i := by rw [e2]; show ((i.toNat : Nat) : Int) = i; omega
  refine ⟨?_, p, by rw [e2]; show 1 ≤ i.toNat; omega, by rw [e2]; show i.toNat ≤ 3; omega⟩
  have t := isTup_iff h1
  rw [← e, e4, ← e2]
  have hl : (itemsT d).length = 2 := by
    rw [t] at h2
    exact h2
  rw [t]
  unfold s0 s1
  show D.tup (itemsT d) = .tup [(itemsT d).getD 0 .non, (itemsT d).getD 1 .non]
  match hm : itemsT d, hl with
  | [a, b], _ => rfl
def shotOf (s : D) : Shot := (fD (s0 s), (intT (s1 s)).toNat)
theorem film_at {d : D} (h : isFilmD d = true) : d = filmD (rD (s0 (s0 d))) (cD (s0 (s0 d))) ((itemsT d).map shotOf) ∧ Fm (rD (s0 (s0 d))) (cD (s0 (s0 d))) ((itemsT d).map shotOf) := by
  simp only [isFilmD, Bool.and_eq_true, decide_eq_true_eq, List.all_eq_true] at h
  obtain ⟨⟨⟨⟨h1, h2⟩, h3⟩, h4⟩, h5⟩ := h
  have t := isTup_iff h1
  have hl : lenT d = (itemsT d).length := by rw [t]; rfl
  rw [hl] at h2 h3
  have m0 : s0 d ∈ itemsT d := by
    unfold s0
    cases q : itemsT d with
    | nil => rw [q] at h2; simp at h2
    | cons a l => simp
  have p0 := (shot_at (h4 _ m0)).2.1
  refine ⟨?_, p0.r1, p0.r4, p0.c1, p0.c6, by simpa using h2, by simpa using h3, fun x hx => ?_⟩
  · rw [filmD, List.map_map]
    conv => lhs; rw [t]
    congr 1
    symm
    refine (List.map_congr_left fun s hs => ?_).trans (List.map_id _)
    obtain ⟨e, _⟩ := shot_at (h4 s hs)
    have e5 := h5 s hs
    simp only [szD, Prod.mk.injEq] at e5
    show shotD _ _ (shotOf s) = s
    conv => rhs; rw [e]
    rw [e5.1, e5.2]
    rfl
  · obtain ⟨s, hs, rfl⟩ := List.mem_map.mp hx
    obtain ⟨_, p, n1, n3⟩ := shot_at (h4 s hs)
    have e5 := h5 s hs
    simp only [szD, Prod.mk.injEq] at e5
    rw [e5.1, e5.2] at p
    exact ⟨p.sh, n1, n3⟩
theorem isShotD_shot {R C : Nat} {x : Shot} (p : Pc R C x.1) (n1 : 1 ≤ x.2) (n3 : x.2 ≤ 3) : isShotD (shotD R C x) = true := by
  have e1 : s0 (shotD R C x) = pic R C x.1 := rfl
  have e2 : s1 (shotD R C x) = .int (x.2 : Nat) := rfl
  have e3 : isTup (shotD R C x) = true := rfl
  have e4 : lenT (shotD R C x) = 2 := rfl
  simp only [isShotD, e1, e2, e3, e4, isPicD_pic p, isNumD, Bool.true_and, decide_true, Bool.and_eq_true, decide_eq_true_eq]
  omega
theorem isFilmD_film {R C : Nat} {fl : List Shot} (p : Fm R C fl) : isFilmD (filmD R C fl) = true := by
  have e1 : itemsT (filmD R C fl) = fl.map (shotD R C) := rfl
  have e2 : isTup (filmD R C fl) = true := rfl
  have e3 : lenT (filmD R C fl) = fl.length := by simp [lenT, filmD]
  have r0 : 0 < R := p.r1
  have sz : ∀ x : Shot, szD (s0 (shotD R C x)) = (R, C) := fun x => by
    show (rD (pic R C x.1), cD (pic R C x.1)) = _
    rw [rD_pic, cD_pic r0]
  simp only [isFilmD, e1, e2, e3, Bool.true_and, Bool.and_eq_true, decide_eq_true_eq, List.all_eq_true]
  refine ⟨⟨⟨p.ne, p.le⟩, fun d hd => ?_⟩, fun d hd => ?_⟩
  · obtain ⟨x, hx, rfl⟩ := List.mem_map.mp hd
    exact isShotD_shot (p.pc hx) (p.ok x hx).2.1 (p.ok x hx).2.2
  · obtain ⟨x, hx, rfl⟩ := List.mem_map.mp hd
    obtain ⟨x0, r, e⟩ := p.head
    have e5 : s0 (filmD R C fl) = shotD R C x0 := by subst e; rfl
    rw [sz, e5, sz]
theorem ixT {l : List D} {i : Nat} (h : i < l.length) : ixD (.tup l) (.int (i : Nat)) = some (l.getD i .non) := by
  simp only [ixD, ixN_nat h, Option.bind_some, List.getD, List.getElem?_eq_getElem h, Option.getD_some]
def S_is_shotG (Φ : Fns) : Prop := ∀ d : D, okD 40 d = true → Φ "is_shot" [d] = M.pure (.bl (isShotD d))
theorem sp_is_shotG {Φ : Fns} (h1 : S_is_pictureG Φ) (h2 : S_is_numberG Φ) (d : D) (ok : okD 40 d = true) : runFn Φ fn_is_shot [d] = M.pure (.bl (isShotD d)) := by
  have e1 := isi_tupG ok
  refine run_go [.val (d)] ?_
  simp only [fn_is_shot]
  by_cases t : isTup d = true
  rotate_left
  · have t : isTup d = false := by simpa using t
    rw [t] at e1
    refine Go.ifRet (d := .bl false) (by try simp only [e_var, e_pk, e_cst, e_glo, e_bin, e_neg, e_not, e_cmp, e_chn, e_boo, e_ite, e_tup, e_lst, e_ix, e_slc, e_rev, e_call, e_blt, e_isi, e_comp, a_nil, a_cons, b_one, b_cons, t_nil, t_one, s_skip, s_seq, s_asg, s_own, s_frz, s_set, s_app, s_ext, s_expr, s_ret, s_ite, s_loop, M.pure_bind, M.lift_some, M.calm_pure, M.bind_assoc, asBl, List.getElem?_cons_zero, List.getElem?_cons_succ, List.set_cons_zero, List.set_cons_succ, Option.map_some, put, putAll, if_true, if_false, Bool.false_eq_true, Bool.true_eq_false, Bool.not_true, Bool.not_false, Cn.d, partD, List.map_cons, List.map_nil, Ev.wipe, o_add, o_sub, o_mull, o_mulr, o_mod, o_div, o_addt, o_addl, o_lt, o_le, o_gt, o_ge, eq_int, ne_int, u_lenl, u_lent, u_lens, u_max, u_min, u_abs, u_tupl, u_tupt, i_int, i_bool, i_tup, i_rng1, i_lst, i_tupl, len_pic, len_row, e1]) (by try simp only [e_var, e_pk, e_cst, e_glo, e_bin, e_neg, e_not, e_cmp, e_chn, e_boo, e_ite, e_tup, e_lst, e_ix, e_slc, e_rev, e_call, e_blt, e_isi, e_comp, a_nil, a_cons, b_one, b_cons, t_nil, t_one, s_skip, s_seq, s_asg, s_own, s_frz, s_set, s_app, s_ext, s_expr, s_ret, s_ite, s_loop, M.pure_bind, M.lift_some, M.calm_pure, M.bind_assoc, asBl, List.getElem?_cons_zero, List.getElem?_cons_succ, List.set_cons_zero, List.set_cons_succ, Option.map_some, put, putAll, if_true, if_false, Bool.false_eq_true, Bool.true_eq_false, Bool.not_true, Bool.not_false, Cn.d, partD, List.map_cons, List.map_nil, Ev.wipe, o_add, o_sub, o_mull, o_mulr, o_mod, o_div, o_addt, o_addl, o_lt, o_le, o_gt, o_ge, eq_int, ne_int, u_lenl, u_lent, u_lens, u_max, u_min, u_abs, u_tupl, u_tupt, i_int, i_bool, i_tup, i_rng1, i_lst, i_tupl, len_pic, len_row]) ?_
    simp [isShotD, t]
  rw [t] at e1
  have ld := len_isTup t
  by_cases l2 : lenT d = 2
  rotate_left
  · have l2' : ¬ ((lenT d : Nat) : Int) = 2 := by omega
    refine Go.ifRet (d := .bl false) (by try simp only [e_var, e_pk, e_cst, e_glo, e_bin, e_neg, e_not, e_cmp, e_chn, e_boo, e_ite, e_tup, e_lst, e_ix, e_slc, e_rev, e_call, e_blt, e_isi, e_comp, a_nil, a_cons, b_one, b_cons, t_nil, t_one, s_skip, s_seq, s_asg, s_own, s_frz, s_set, s_app, s_ext, s_expr, s_ret, s_ite, s_loop, M.pure_bind, M.lift_some, M.calm_pure, M.bind_assoc, asBl, List.getElem?_cons_zero, List.getElem?_cons_succ, List.set_cons_zero, List.set_cons_succ, Option.map_some, put, putAll, if_true, if_false, Bool.false_eq_true, Bool.true_eq_false, Bool.not_true, Bool.not_false, Cn.d, partD, List.map_cons, List.map_nil, Ev.wipe, o_add, o_sub, o_mull, o_mulr, o_mod, o_div, o_addt, o_addl, o_lt, o_le, o_gt, o_ge, eq_int, ne_int, u_lenl, u_lent, u_lens, u_max, u_min, u_abs, u_tupl, u_tupt, i_int, i_bool, i_tup, i_rng1, i_lst, i_tupl, len_pic, len_row, e1, ld, l2', decide_false]) (by try simp only [e_var, e_pk, e_cst, e_glo, e_bin, e_neg, e_not, e_cmp, e_chn, e_boo, e_ite, e_tup, e_lst, e_ix, e_slc, e_rev, e_call, e_blt, e_isi, e_comp, a_nil, a_cons, b_one, b_cons, t_nil, t_one, s_skip, s_seq, s_asg, s_own, s_frz, s_set, s_app, s_ext, s_expr, s_ret, s_ite, s_loop, M.pure_bind, M.lift_some, M.calm_pure, M.bind_assoc, asBl, List.getElem?_cons_zero, List.getElem?_cons_succ, List.set_cons_zero, List.set_cons_succ, Option.map_some, put, putAll, if_true, if_false, Bool.false_eq_true, Bool.true_eq_false, Bool.not_true, Bool.not_false, Cn.d, partD, List.map_cons, List.map_nil, Ev.wipe, o_add, o_sub, o_mull, o_mulr, o_mod, o_div, o_addt, o_addl, o_lt, o_le, o_gt, o_ge, eq_int, ne_int, u_lenl, u_lent, u_lens, u_max, u_min, u_abs, u_tupl, u_tupt, i_int, i_bool, i_tup, i_rng1, i_lst, i_tupl, len_pic, len_row]) ?_
    simp [isShotD, l2]
  rw [l2] at ld
  refine Go.if0 (by try simp only [e_var, e_pk, e_cst, e_glo, e_bin, e_neg, e_not, e_cmp, e_chn, e_boo, e_ite, e_tup, e_lst, e_ix, e_slc, e_rev, e_call, e_blt, e_isi, e_comp, a_nil, a_cons, b_one, b_cons, t_nil, t_one, s_skip, s_seq, s_asg, s_own, s_frz, s_set, s_app, s_ext, s_expr, s_ret, s_ite, s_loop, M.pure_bind, M.lift_some, M.calm_pure, M.bind_assoc, asBl, List.getElem?_cons_zero, List.getElem?_cons_succ, List.set_cons_zero, List.set_cons_succ, Option.map_some, put, putAll, if_true, if_false, Bool.false_eq_true, Bool.true_eq_false, Bool.not_true, Bool.not_false, Cn.d, partD, List.map_cons, List.map_nil, Ev.wipe, o_add, o_sub, o_mull, o_mulr, o_mod, o_div, o_addt, o_addl, o_lt, o_le, o_gt, o_ge, eq_int, ne_int, u_lenl, u_lent, u_lens, u_max, u_min, u_abs, u_tupl, u_tupt, i_int, i_bool, i_tup, i_rng1, i_lst, i_tupl, len_pic, len_row, e1, ld, show ((2 : Nat) : Int) = 2 from rfl, decide_true]) ?_
  have it := isTup_iff t
  have hl : (itemsT d).length = 2 := by rw [it] at l2; exact l2
  have x0 : ixD d (.int 0) = some (s0 d) := by rw [it]; exact ixT (i := 0) (by omega)
  have x1 : ixD d (.int 1) = some (s1 d) := by rw [it]; exact ixT (i := 1) (by omega)
  have ok0 : ∀ x ∈ itemsT d, okD 40 x = true := fun x hx => by
    rw [it] at ok
    exact okD_mono (List.all_eq_true.mp (by simpa only [okD] using ok) x hx) (by omega : 39 ≤ 40)
  have m0 : s0 d ∈ itemsT d := by unfold s0; rw [List.getD, List.getElem?_eq_getElem (by omega)]; exact List.getElem_mem _
  have m1 : s1 d ∈ itemsT d := by unfold s1; rw [List.getD, List.getElem?_eq_getElem (by omega)]; exact List.getElem_mem _
  refine Go.retS (.bl (isShotD d)) ?_ rfl
  have e : isShotD d = (isPicD (s0 d) && isNumD 1 3 (s1 d)) := by simp [isShotD, t, l2]
  rw [e]
  cases q : isPicD (s0 d) with
  | true => try simp only [e_var, e_pk, e_cst, e_glo, e_bin, e_neg, e_not, e_cmp, e_chn, e_boo, e_ite, e_tup, e_lst, e_ix, e_slc, e_rev, e_call, e_blt, e_isi, e_comp, a_nil, a_cons, b_one, b_cons, t_nil, t_one, s_skip, s_seq, s_asg, s_own, s_frz, s_set, s_app, s_ext, s_expr, s_ret, s_ite, s_loop, M.pure_bind, M.lift_some, M.calm_pure, M.bind_assoc, asBl, List.getElem?_cons_zero, List.getElem?_cons_succ, List.set_cons_zero, List.set_cons_succ, Option.map_some, put, putAll, if_true, if_false, Bool.false_eq_true, Bool.true_eq_false, Bool.not_true, Bool.not_false, Cn.d, partD, List.map_cons, List.map_nil, Ev.wipe, o_add, o_sub, o_mull, o_mulr, o_mod, o_div, o_addt, o_addl, o_lt, o_le, o_gt, o_ge, eq_int, ne_int, u_lenl, u_lent, u_lens, u_max, u_min, u_abs, u_tupl, u_tupt, i_int, i_bool, i_tup, i_rng1, i_lst, i_tupl, len_pic, len_row, x0, x1, h1 _ (ok0 _ m0), q, h2 _ 1 3 (ok0 _ m1), Bool.true_and]
  | false => try simp only [e_var, e_pk, e_cst, e_glo, e_bin, e_neg, e_not, e_cmp, e_chn, e_boo, e_ite, e_tup, e_lst, e_ix, e_slc, e_rev, e_call, e_blt, e_isi, e_comp, a_nil, a_cons, b_one, b_cons, t_nil, t_one, s_skip, s_seq, s_asg, s_own, s_frz, s_set, s_app, s_ext, s_expr, s_ret, s_ite, s_loop, M.pure_bind, M.lift_some, M.calm_pure, M.bind_assoc, asBl, List.getElem?_cons_zero, List.getElem?_cons_succ, List.set_cons_zero, List.set_cons_succ, Option.map_some, put, putAll, if_true, if_false, Bool.false_eq_true, Bool.true_eq_false, Bool.not_true, Bool.not_false, Cn.d, partD, List.map_cons, List.map_nil, Ev.wipe, o_add, o_sub, o_mull, o_mulr, o_mod, o_div, o_addt, o_addl, o_lt, o_le, o_gt, o_ge, eq_int, ne_int, u_lenl, u_lent, u_lens, u_max, u_min, u_abs, u_tupl, u_tupt, i_int, i_bool, i_tup, i_rng1, i_lst, i_tupl, len_pic, len_row, x0, h1 _ (ok0 _ m0), q, Bool.false_and]
def S_is_filmG (Φ : Fns) : Prop := ∀ d : D, okD 40 d = true → Φ "is_film" [d] = M.pure (.bl (isFilmD d))
theorem sp_is_filmG {Φ : Fns} (h1 : S_is_shotG Φ) (h2 : S_size_of Φ) (d : D) (ok : okD 40 d = true) : runFn Φ fn_is_film [d] = M.pure (.bl (isFilmD d)) := by
  have e1 := isi_tupG ok
  refine run_go [.val (d), .emp] ?_
  simp only [fn_is_film]
  by_cases t : isTup d = true
  rotate_left
  · have t : isTup d = false := by simpa using t
    rw [t] at e1
    refine Go.ifRet (d := .bl false) (by try simp only [e_var, e_pk, e_cst, e_glo, e_bin, e_neg, e_not, e_cmp, e_chn, e_boo, e_ite, e_tup, e_lst, e_ix, e_slc, e_rev, e_call, e_blt, e_isi, e_comp, a_nil, a_cons, b_one, b_cons, t_nil, t_one, s_skip, s_seq, s_asg, s_own, s_frz, s_set, s_app, s_ext, s_expr, s_ret, s_ite, s_loop, M.pure_bind, M.lift_some, M.calm_pure, M.bind_assoc, asBl, List.getElem?_cons_zero, List.getElem?_cons_succ, List.set_cons_zero, List.set_cons_succ, Option.map_some, put, putAll, if_true, if_false, Bool.false_eq_true, Bool.true_eq_false, Bool.not_true, Bool.not_false, Cn.d, partD, List.map_cons, List.map_nil, Ev.wipe, o_add, o_sub, o_mull, o_mulr, o_mod, o_div, o_addt, o_addl, o_lt, o_le, o_gt, o_ge, eq_int, ne_int, u_lenl, u_lent, u_lens, u_max, u_min, u_abs, u_tupl, u_tupt, i_int, i_bool, i_tup, i_rng1, i_lst, i_tupl, len_pic, len_row, e1]) (by try simp only [e_var, e_pk, e_cst, e_glo, e_bin, e_neg, e_not, e_cmp, e_chn, e_boo, e_ite, e_tup, e_lst, e_ix, e_slc, e_rev, e_call, e_blt, e_isi, e_comp, a_nil, a_cons, b_one, b_cons, t_nil, t_one, s_skip, s_seq, s_asg, s_own, s_frz, s_set, s_app, s_ext, s_expr, s_ret, s_ite, s_loop, M.pure_bind, M.lift_some, M.calm_pure, M.bind_assoc, asBl, List.getElem?_cons_zero, List.getElem?_cons_succ, List.set_cons_zero, List.set_cons_succ, Option.map_some, put, putAll, if_true, if_false, Bool.false_eq_true, Bool.true_eq_false, Bool.not_true, Bool.not_false, Cn.d, partD, List.map_cons, List.map_nil, Ev.wipe, o_add, o_sub, o_mull, o_mulr, o_mod, o_div, o_addt, o_addl, o_lt, o_le, o_gt, o_ge, eq_int, ne_int, u_lenl, u_lent, u_lens, u_max, u_min, u_abs, u_tupl, u_tupt, i_int, i_bool, i_tup, i_rng1, i_lst, i_tupl, len_pic, len_row]) ?_
    simp [isFilmD, t]
  rw [t] at e1
  have ld := len_isTup t
  by_cases c : 1 ≤ lenT d ∧ lenT d ≤ 4
  rotate_left
  · refine Go.ifRet (d := .bl false) ?_ (by try simp only [e_var, e_pk, e_cst, e_glo, e_bin, e_neg, e_not, e_cmp, e_chn, e_boo, e_ite, e_tup, e_lst, e_ix, e_slc, e_rev, e_call, e_blt, e_isi, e_comp, a_nil, a_cons, b_one, b_cons, t_nil, t_one, s_skip, s_seq, s_asg, s_own, s_frz, s_set, s_app, s_ext, s_expr, s_ret, s_ite, s_loop, M.pure_bind, M.lift_some, M.calm_pure, M.bind_assoc, asBl, List.getElem?_cons_zero, List.getElem?_cons_succ, List.set_cons_zero, List.set_cons_succ, Option.map_some, put, putAll, if_true, if_false, Bool.false_eq_true, Bool.true_eq_false, Bool.not_true, Bool.not_false, Cn.d, partD, List.map_cons, List.map_nil, Ev.wipe, o_add, o_sub, o_mull, o_mulr, o_mod, o_div, o_addt, o_addl, o_lt, o_le, o_gt, o_ge, eq_int, ne_int, u_lenl, u_lent, u_lens, u_max, u_min, u_abs, u_tupl, u_tupt, i_int, i_bool, i_tup, i_rng1, i_lst, i_tupl, len_pic, len_row]) ?_
    · by_cases z : (1 : Int) ≤ (lenT d : Nat)
      · have z2 : ¬ ((lenT d : Nat) : Int) ≤ 4 := by omega
        try simp only [e_var, e_pk, e_cst, e_glo, e_bin, e_neg, e_not, e_cmp, e_chn, e_boo, e_ite, e_tup, e_lst, e_ix, e_slc, e_rev, e_call, e_blt, e_isi, e_comp, a_nil, a_cons, b_one, b_cons, t_nil, t_one, s_skip, s_seq, s_asg, s_own, s_frz, s_set, s_app, s_ext, s_expr, s_ret, s_ite, s_loop, M.pure_bind, M.lift_some, M.calm_pure, M.bind_assoc, asBl, List.getElem?_cons_zero, List.getElem?_cons_succ, List.set_cons_zero, List.set_cons_succ, Option.map_some, put, putAll, if_true, if_false, Bool.false_eq_true, Bool.true_eq_false, Bool.not_true, Bool.not_false, Cn.d, partD, List.map_cons, List.map_nil, Ev.wipe, o_add, o_sub, o_mull, o_mulr, o_mod, o_div, o_addt, o_addl, o_lt, o_le, o_gt, o_ge, eq_int, ne_int, u_lenl, u_lent, u_lens, u_max, u_min, u_abs, u_tupl, u_tupt, i_int, i_bool, i_tup, i_rng1, i_lst, i_tupl, len_pic, len_row, e1, ld, z, z2, decide_true, decide_false]
      · try simp only [e_var, e_pk, e_cst, e_glo, e_bin, e_neg, e_not, e_cmp, e_chn, e_boo, e_ite, e_tup, e_lst, e_ix, e_slc, e_rev, e_call, e_blt, e_isi, e_comp, a_nil, a_cons, b_one, b_cons, t_nil, t_one, s_skip, s_seq, s_asg, s_own, s_frz, s_set, s_app, s_ext, s_expr, s_ret, s_ite, s_loop, M.pure_bind, M.lift_some, M.calm_pure, M.bind_assoc, asBl, List.getElem?_cons_zero, List.getElem?_cons_succ, List.set_cons_zero, List.set_cons_succ, Option.map_some, put, putAll, if_true, if_false, Bool.false_eq_true, Bool.true_eq_false, Bool.not_true, Bool.not_false, Cn.d, partD, List.map_cons, List.map_nil, Ev.wipe, o_add, o_sub, o_mull, o_mulr, o_mod, o_div, o_addt, o_addl, o_lt, o_le, o_gt, o_ge, eq_int, ne_int, u_lenl, u_lent, u_lens, u_max, u_min, u_abs, u_tupl, u_tupt, i_int, i_bool, i_tup, i_rng1, i_lst, i_tupl, len_pic, len_row, e1, ld, z, decide_true, decide_false]
    · by_cases z : 1 ≤ lenT d
      · have : ¬ lenT d ≤ 4 := fun z2 => c ⟨z, z2⟩
        simp [isFilmD, this]
      · simp [isFilmD, z]
  obtain ⟨c1, c2⟩ := c
  have z1 : (1 : Int) ≤ (lenT d : Nat) := by omega
  have z2 : ((lenT d : Nat) : Int) ≤ 4 := by omega
  have it := isTup_iff t
  have hl : lenT d = (itemsT d).length := by rw [it]; rfl
  have okx : ∀ x ∈ itemsT d, okD 40 x = true := fun x hx => by
    rw [it] at ok
    exact okD_mono (List.all_eq_true.mp (by simpa only [okD] using ok) x hx) (by omega : 39 ≤ 40)
  have its : itm .seq [d] = some (itemsT d) := by rw [it]; rfl
  have k1 := comp_L (Φ := Φ) (ρ := [.val d, .emp]) (k := .seq) (src := .cons (.var 0) .nil) (cnd := .nil) (elt := .call "is_shot" (.cons (.var 1) .nil)) (tg := .nm 1) (own := [("one", 1)]) (ds := [d]) (fun x => .bl (isShotD x)) (by try simp only [e_var, e_pk, e_cst, e_glo, e_bin, e_neg, e_not, e_cmp, e_chn, e_boo, e_ite, e_tup, e_lst, e_ix, e_slc, e_rev, e_call, e_blt, e_isi, e_comp, a_nil, a_cons, b_one, b_cons, t_nil, t_one, s_skip, s_seq, s_asg, s_own, s_frz, s_set, s_app, s_ext, s_expr, s_ret, s_ite, s_loop, M.pure_bind, M.lift_some, M.calm_pure, M.bind_assoc, asBl, List.getElem?_cons_zero, List.getElem?_cons_succ, List.set_cons_zero, List.set_cons_succ, Option.map_some, put, putAll, if_true, if_false, Bool.false_eq_true, Bool.true_eq_false, Bool.not_true, Bool.not_false, Cn.d, partD, List.map_cons, List.map_nil, Ev.wipe, o_add, o_sub, o_mull, o_mulr, o_mod, o_div, o_addt, o_addl, o_lt, o_le, o_gt, o_ge, eq_int, ne_int, u_lenl, u_lent, u_lens, u_max, u_min, u_abs, u_tupl, u_tupt, i_int, i_bool, i_tup, i_rng1, i_lst, i_tupl, len_pic, len_row]) its (fun x hx => by
    unfold oneC
    try simp only [e_var, e_pk, e_cst, e_glo, e_bin, e_neg, e_not, e_cmp, e_chn, e_boo, e_ite, e_tup, e_lst, e_ix, e_slc, e_rev, e_call, e_blt, e_isi, e_comp, a_nil, a_cons, b_one, b_cons, t_nil, t_one, s_skip, s_seq, s_asg, s_own, s_frz, s_set, s_app, s_ext, s_expr, s_ret, s_ite, s_loop, M.pure_bind, M.lift_some, M.calm_pure, M.bind_assoc, asBl, List.getElem?_cons_zero, List.getElem?_cons_succ, List.set_cons_zero, List.set_cons_succ, Option.map_some, put, putAll, if_true, if_false, Bool.false_eq_true, Bool.true_eq_false, Bool.not_true, Bool.not_false, Cn.d, partD, List.map_cons, List.map_nil, Ev.wipe, o_add, o_sub, o_mull, o_mulr, o_mod, o_div, o_addt, o_addl, o_lt, o_le, o_gt, o_ge, eq_int, ne_int, u_lenl, u_lent, u_lens, u_max, u_min, u_abs, u_tupl, u_tupt, i_int, i_bool, i_tup, i_rng1, i_lst, i_tupl, len_pic, len_row, h1 x (okx x hx)]
    exact .pure rfl)
  by_cases a : (itemsT d).all isShotD = true
  rotate_left
  · have a : (itemsT d).all isShotD = false := by simpa using a
    refine Go.ifRet (d := .bl false) (by try simp only [e_var, e_pk, e_cst, e_glo, e_bin, e_neg, e_not, e_cmp, e_chn, e_boo, e_ite, e_tup, e_lst, e_ix, e_slc, e_rev, e_call, e_blt, e_isi, e_comp, a_nil, a_cons, b_one, b_cons, t_nil, t_one, s_skip, s_seq, s_asg, s_own, s_frz, s_set, s_app, s_ext, s_expr, s_ret, s_ite, s_loop, M.pure_bind, M.lift_some, M.calm_pure, M.bind_assoc, asBl, List.getElem?_cons_zero, List.getElem?_cons_succ, List.set_cons_zero, List.set_cons_succ, Option.map_some, put, putAll, if_true, if_false, Bool.false_eq_true, Bool.true_eq_false, Bool.not_true, Bool.not_false, Cn.d, partD, List.map_cons, List.map_nil, Ev.wipe, o_add, o_sub, o_mull, o_mulr, o_mod, o_div, o_addt, o_addl, o_lt, o_le, o_gt, o_ge, eq_int, ne_int, u_lenl, u_lent, u_lens, u_max, u_min, u_abs, u_tupl, u_tupt, i_int, i_bool, i_tup, i_rng1, i_lst, i_tupl, len_pic, len_row, e1, ld, z1, z2, decide_true, k1, u_all (blsOf_map (f := isShotD) (itemsT d)), all_map_id, a]) (by try simp only [e_var, e_pk, e_cst, e_glo, e_bin, e_neg, e_not, e_cmp, e_chn, e_boo, e_ite, e_tup, e_lst, e_ix, e_slc, e_rev, e_call, e_blt, e_isi, e_comp, a_nil, a_cons, b_one, b_cons, t_nil, t_one, s_skip, s_seq, s_asg, s_own, s_frz, s_set, s_app, s_ext, s_expr, s_ret, s_ite, s_loop, M.pure_bind, M.lift_some, M.calm_pure, M.bind_assoc, asBl, List.getElem?_cons_zero, List.getElem?_cons_succ, List.set_cons_zero, List.set_cons_succ, Option.map_some, put, putAll, if_true, if_false, Bool.false_eq_true, Bool.true_eq_false, Bool.not_true, Bool.not_false, Cn.d, partD, List.map_cons, List.map_nil, Ev.wipe, o_add, o_sub, o_mull, o_mulr, o_mod, o_div, o_addt, o_addl, o_lt, o_le, o_gt, o_ge, eq_int, ne_int, u_lenl, u_lent, u_lens, u_max, u_min, u_abs, u_tupl, u_tupt, i_int, i_bool, i_tup, i_rng1, i_lst, i_tupl, len_pic, len_row]) ?_
    simp [isFilmD, a]
  refine Go.if0 (by try simp only [e_var, e_pk, e_cst, e_glo, e_bin, e_neg, e_not, e_cmp, e_chn, e_boo, e_ite, e_tup, e_lst, e_ix, e_slc, e_rev, e_call, e_blt, e_isi, e_comp, a_nil, a_cons, b_one, b_cons, t_nil, t_one, s_skip, s_seq, s_asg, s_own, s_frz, s_set, s_app, s_ext, s_expr, s_ret, s_ite, s_loop, M.pure_bind, M.lift_some, M.calm_pure, M.bind_assoc, asBl, List.getElem?_cons_zero, List.getElem?_cons_succ, List.set_cons_zero, List.set_cons_succ, Option.map_some, put, putAll, if_true, if_false, Bool.false_eq_true, Bool.true_eq_false, Bool.not_true, Bool.not_false, Cn.d, partD, List.map_cons, List.map_nil, Ev.wipe, o_add, o_sub, o_mull, o_mulr, o_mod, o_div, o_addt, o_addl, o_lt, o_le, o_gt, o_ge, eq_int, ne_int, u_lenl, u_lent, u_lens, u_max, u_min, u_abs, u_tupl, u_tupt, i_int, i_bool, i_tup, i_rng1, i_lst, i_tupl, len_pic, len_row, e1, ld, z1, z2, decide_true, k1, u_all (blsOf_map (f := isShotD) (itemsT d)), all_map_id, a]) ?_
  have x0 : ixD d (.int 0) = some (s0 d) := by rw [it]; exact ixT (i := 0) (by omega)
  have m0 : s0 d ∈ itemsT d := by unfold s0; rw [List.getD, List.getElem?_eq_getElem (by omega)]; exact List.getElem_mem _
  have sh : ∀ s ∈ itemsT d, ixD s (.int 0) = some (s0 s) ∧ Φ "size_of" [s0 s] = M.pure (.tup [.int (rD (s0 s) : Nat), .int (cD (s0 s) : Nat)]) := fun s hs => by
    obtain ⟨e, p, _⟩ := shot_at (List.all_eq_true.mp a s hs)
    have e0 : s0 s = pic (rD (s0 s)) (cD (s0 s)) (fD (s0 s)) := congrArg s0 e
    refine ⟨(congrArg (fun x => ixD x (.int 0)) e).trans (congrArg some e0.symm), ?_⟩
    conv => lhs; rw [e0]
    exact h2 _ _ _ p.r1
  have k2 := comp_L (Φ := Φ) (ρ := [.val d, .emp]) (k := .seq) (src := .cons (.var 0) .nil) (cnd := .nil) (elt := .cmp .eq (.call "size_of" (.cons (.ix (.var 1) (.cst (.int 0))) .nil)) (.call "size_of" (.cons (.ix (.ix (.var 0) (.cst (.int 0))) (.cst (.int 0))) .nil))) (tg := .nm 1) (own := [("one", 1)]) (ds := [d]) (fun s => .bl (decide (szD (s0 s) = szD (s0 (s0 d))))) (by try simp only [e_var, e_pk, e_cst, e_glo, e_bin, e_neg, e_not, e_cmp, e_chn, e_boo, e_ite, e_tup, e_lst, e_ix, e_slc, e_rev, e_call, e_blt, e_isi, e_comp, a_nil, a_cons, b_one, b_cons, t_nil, t_one, s_skip, s_seq, s_asg, s_own, s_frz, s_set, s_app, s_ext, s_expr, s_ret, s_ite, s_loop, M.pure_bind, M.lift_some, M.calm_pure, M.bind_assoc, asBl, List.getElem?_cons_zero, List.getElem?_cons_succ, List.set_cons_zero, List.set_cons_succ, Option.map_some, put, putAll, if_true, if_false, Bool.false_eq_true, Bool.true_eq_false, Bool.not_true, Bool.not_false, Cn.d, partD, List.map_cons, List.map_nil, Ev.wipe, o_add, o_sub, o_mull, o_mulr, o_mod, o_div, o_addt, o_addl, o_lt, o_le, o_gt, o_ge, eq_int, ne_int, u_lenl, u_lent, u_lens, u_max, u_min, u_abs, u_tupl, u_tupt, i_int, i_bool, i_tup, i_rng1, i_lst, i_tupl, len_pic, len_row]) its (fun s hs => by
    unfold oneC
    obtain ⟨g1, g2⟩ := sh s hs
    obtain ⟨g3, g4⟩ := sh _ m0
    have q : cop .eq (.tup [.int (rD (s0 s) : Nat), .int (cD (s0 s) : Nat)]) (.tup [.int (rD (s0 (s0 d)) : Nat), .int (cD (s0 (s0 d)) : Nat)]) = some (decide (szD (s0 s) = szD (s0 (s0 d)))) := by
      simp only [cop, eqD, okD, List.all_cons, List.all_nil, Bool.and_self, if_true, eqv, eqvL, Bool.and_true, szD, Prod.mk.injEq, Option.some.injEq]
      rw [Bool.eq_iff_iff]
      simp only [Bool.and_eq_true, beq_iff_eq, decide_eq_true_eq]
      omega
    try simp only [e_var, e_pk, e_cst, e_glo, e_bin, e_neg, e_not, e_cmp, e_chn, e_boo, e_ite, e_tup, e_lst, e_ix, e_slc, e_rev, e_call, e_blt, e_isi, e_comp, a_nil, a_cons, b_one, b_cons, t_nil, t_one, s_skip, s_seq, s_asg, s_own, s_frz, s_set, s_app, s_ext, s_expr, s_ret, s_ite, s_loop, M.pure_bind, M.lift_some, M.calm_pure, M.bind_assoc, asBl, List.getElem?_cons_zero, List.getElem?_cons_succ, List.set_cons_zero, List.set_cons_succ, Option.map_some, put, putAll, if_true, if_false, Bool.false_eq_true, Bool.true_eq_false, Bool.not_true, Bool.not_false, Cn.d, partD, List.map_cons, List.map_nil, Ev.wipe, o_add, o_sub, o_mull, o_mulr, o_mod, o_div, o_addt, o_addl, o_lt, o_le, o_gt, o_ge, eq_int, ne_int, u_lenl, u_lent, u_lens, u_max, u_min, u_abs, u_tupl, u_tupt, i_int, i_bool, i_tup, i_rng1, i_lst, i_tupl, len_pic, len_row, g1, g2, x0, g3, g4, q]
    exact .pure rfl)
  refine Go.retS (.bl (isFilmD d)) ?_ rfl
  have e : isFilmD d = (itemsT d).all fun s => decide (szD (s0 s) = szD (s0 (s0 d))) := by simp only [isFilmD, t, c1, c2, a, decide_true, Bool.true_and]
  rw [e]
  try simp only [e_var, e_pk, e_cst, e_glo, e_bin, e_neg, e_not, e_cmp, e_chn, e_boo, e_ite, e_tup, e_lst, e_ix, e_slc, e_rev, e_call, e_blt, e_isi, e_comp, a_nil, a_cons, b_one, b_cons, t_nil, t_one, s_skip, s_seq, s_asg, s_own, s_frz, s_set, s_app, s_ext, s_expr, s_ret, s_ite, s_loop, M.pure_bind, M.lift_some, M.calm_pure, M.bind_assoc, asBl, List.getElem?_cons_zero, List.getElem?_cons_succ, List.set_cons_zero, List.set_cons_succ, Option.map_some, put, putAll, if_true, if_false, Bool.false_eq_true, Bool.true_eq_false, Bool.not_true, Bool.not_false, Cn.d, partD, List.map_cons, List.map_nil, Ev.wipe, o_add, o_sub, o_mull, o_mulr, o_mod, o_div, o_addt, o_addl, o_lt, o_le, o_gt, o_ge, eq_int, ne_int, u_lenl, u_lent, u_lens, u_max, u_min, u_abs, u_tupl, u_tupt, i_int, i_bool, i_tup, i_rng1, i_lst, i_tupl, len_pic, len_row, k2, u_all (blsOf_map (f := fun s => decide (szD (s0 s) = szD (s0 (s0 d)))) (itemsT d)), all_map_id]
def S_need_filmG (Φ : Fns) : Prop := ∀ d : D, okD 40 d = true → isFilmD d = false → Φ "need_film" [d] = thr "NoFilm"
theorem sp_need_filmG {Φ : Fns} (hn : S_is_filmG Φ) (d : D) (ok : okD 40 d = true) (h : isFilmD d = false) : runFn Φ fn_need_film [d] = thr "NoFilm" := by
  refine run_thr [.val (d)] ?_
  try simp only [e_var, e_pk, e_cst, e_glo, e_bin, e_neg, e_not, e_cmp, e_chn, e_boo, e_ite, e_tup, e_lst, e_ix, e_slc, e_rev, e_call, e_blt, e_isi, e_comp, a_nil, a_cons, b_one, b_cons, t_nil, t_one, s_skip, s_seq, s_asg, s_own, s_frz, s_set, s_app, s_ext, s_expr, s_ret, s_ite, s_loop, M.pure_bind, M.lift_some, M.calm_pure, M.bind_assoc, asBl, List.getElem?_cons_zero, List.getElem?_cons_succ, List.set_cons_zero, List.set_cons_succ, Option.map_some, put, putAll, if_true, if_false, Bool.false_eq_true, Bool.true_eq_false, Bool.not_true, Bool.not_false, Cn.d, partD, List.map_cons, List.map_nil, Ev.wipe, o_add, o_sub, o_mull, o_mulr, o_mod, o_div, o_addt, o_addl, o_lt, o_le, o_gt, o_ge, eq_int, ne_int, u_lenl, u_lent, u_lens, u_max, u_min, u_abs, u_tupl, u_tupt, i_int, i_bool, i_tup, i_rng1, i_lst, i_tupl, len_pic, len_row, fn_need_film, hn d ok, h, s_raise, thr_bind]
end Ev.Vw

end
section
set_option maxRecDepth 100000
set_option maxHeartbeats 4000000
namespace Ev.Vw
open PySem Ev
theorem Go.setI {Φ : Fns} {ρ : Env} {P : Fl × Env → Prop} {rest : S} {i : Nat} {e : E} {l : List D} {j : E} (d : D) (n : Int) (m : Nat) (h0 : ρ[i]? = some (.own l)) (h : evE Φ e ρ = M.pure d) (h2 : evE Φ j ρ = M.pure (.int n)) (hz : ixN l.length n = some m) (k : Go (evS Φ rest (ρ.set i (.own (l.set m d)))) P) : Go (evS Φ (.seq (.set i j e) rest) ρ) P := by
  rw [s_seq, s_set, h, M.pure_bind, h0]
  simp only []
  rw [h2, M.pure_bind]
  simp only []
  rw [hz]
  exact k
theorem ixN_last {n : Nat} : ixN (n + 1) (-1) = some n := by
  unfold ixN
  rw [if_neg (by omega), if_pos (by omega)]
  congr 1
  omega
theorem ix_lastL {l : List D} {x : D} : ixD (.lst (l ++ [x])) (.int (-1)) = some x := by
  simp only [ixD, List.length_append, List.length_cons, List.length_nil, Nat.zero_add, ixN_last, Option.bind_some]
  simp
theorem ix_lastT {l : List D} {x : D} : ixD (.tup (l ++ [x])) (.int (-1)) = some x := by
  simp only [ixD, List.length_append, List.length_cons, List.length_nil, Nat.zero_add, ixN_last, Option.bind_some]
  simp
theorem ixL {l : List D} {i : Nat} (h : i < l.length) : ixD (.lst l) (.int (i : Nat)) = some (l.getD i .non) := by
  simp only [ixD, ixN_nat h, Option.bind_some, List.getD, List.getElem?_eq_getElem h, Option.getD_some]
/-! ### reels -/
def sh2 (x : D × Int) : D := .tup [x.1, .int x.2]
def stepP (acc : List (D × Int)) (p : D) : List (D × Int) := match acc.getLast? with
  | some (q, n) => if (eqv q p && decide (n < 3)) = true then acc.dropLast ++ [(p, n + 1)] else acc ++ [(p, 1)]
  | none => acc ++ [(p, 1)]
def tightP (l : List D) : List (D × Int) := l.foldl stepP []
theorem stepP_len {acc : List (D × Int)} {p : D} : (stepP acc p).length ≤ acc.length + 1 := by
  unfold stepP
  split
  · split
    · simp
    · simp
  · simp
theorem stepP_ok {acc : List (D × Int)} {p : D} {n : Nat} (ha : ∀ x ∈ acc, okD n x.1 = true) (hp : okD n p = true) : ∀ x ∈ stepP acc p, okD n x.1 = true := by
  intro x hx
  unfold stepP at hx
  split at hx
  · split at hx
    · rcases List.mem_append.mp hx with h | h
      · exact ha x (List.dropLast_subset _ h)
      · simp at h; rw [h]; exact hp
    · rcases List.mem_append.mp hx with h | h
      · exact ha x h
      · simp at h; rw [h]; exact hp
  · rcases List.mem_append.mp hx with h | h
    · exact ha x h
    · simp at h; rw [h]; exact hp
def tightS (m3 : E) : S := .seq (.ite (.boo true (.cons (.cmp .ne (.pk 1) (.lst .nil)) (.cons (.cmp .eq (.ix (.ix (.pk 1) (.neg (.cst (.int 1)))) (.cst (.int 0))) (.var 2)) (.cons (.cmp .lt (.ix (.ix (.pk 1) (.neg (.cst (.int 1)))) (.cst (.int 1))) m3) .nil)))) (.seq (.set 1 (.neg (.cst (.int 1))) (.tup (.cons (.var 2) (.cons (.bin .add (.ix (.ix (.pk 1) (.neg (.cst (.int 1)))) (.cst (.int 1))) (.cst (.int 1))) .nil)))) .skip) (.seq (.app 1 (.tup (.cons (.var 2) (.cons (.cst (.int 1)) .nil)))) .skip)) .skip
theorem go_tight {Φ : Fns} {m3 : E} (hm : ∀ ρ, evE Φ m3 ρ = M.pure (.int 3)) {v0 : Sl} {acc : List (D × Int)} {p : D} (hacc : ∀ x ∈ acc, okD 40 x.1 = true) (hp : okD 40 p = true) (hl : acc.length ≤ 1000) :
    Go (evS Φ (tightS m3) [v0, .own (acc.map sh2), .val p]) fun r => r.1 = .nx ∧ r.2 = [v0, .own ((stepP acc p).map sh2), .val p] := by
  unfold tightS
  have okm : (acc.map sh2).all (okD 49) = true := List.all_eq_true.mpr fun x hx => by
    obtain ⟨y, hy, rfl⟩ := List.mem_map.mp hx
    simp only [sh2, okD, List.all_cons, List.all_nil, Bool.and_true]
    exact okD_mono (hacc y hy) (by omega)
  have nn := ne_nil okm
  have app : ∀ h : stepP acc p = acc ++ [(p, 1)], ∀ c, evE Φ c [v0, .own (acc.map sh2), .val p] = M.pure (.bl false) → ∀ a, Go (evS Φ (.seq (.ite c a (.seq (.app 1 (.tup (.cons (.var 2) (.cons (.cst (.int 1)) .nil)))) .skip)) .skip) [v0, .own (acc.map sh2), .val p]) fun r => r.1 = .nx ∧ r.2 = [v0, .own ((stepP acc p).map sh2), .val p] := fun h c hc a => by
    refine Go.if2 hc (Go.assoc (Go.appS (.tup [p, .int 1]) rfl (by try simp only [e_var, e_pk, e_cst, e_glo, e_bin, e_neg, e_not, e_cmp, e_chn, e_boo, e_ite, e_tup, e_lst, e_ix, e_slc, e_rev, e_call, e_blt, e_isi, e_comp, a_nil, a_cons, b_one, b_cons, t_nil, t_one, s_skip, s_seq, s_asg, s_own, s_frz, s_set, s_app, s_ext, s_expr, s_ret, s_ite, s_loop, M.pure_bind, M.lift_some, M.calm_pure, M.bind_assoc, asBl, List.getElem?_cons_zero, List.getElem?_cons_succ, List.set_cons_zero, List.set_cons_succ, Option.map_some, put, putAll, if_true, if_false, Bool.false_eq_true, Bool.true_eq_false, Bool.not_true, Bool.not_false, Cn.d, partD, List.map_cons, List.map_nil, Ev.wipe, o_add, o_sub, o_mull, o_mulr, o_mod, o_div, o_addt, o_addl, o_lt, o_le, o_gt, o_ge, eq_int, ne_int, u_lenl, u_lent, u_lens, u_max, u_min, u_abs, u_tupl, u_tupt, i_int, i_bool, i_tup, i_rng1, i_lst, i_tupl, len_pic, len_row]) (by rw [List.length_map]; omega) (Go.skip1 (Go.skipS ⟨rfl, ?_⟩))))
    rw [h, List.map_append]
    rfl
  rcases List.eq_nil_or_concat acc with e | ⟨init, ⟨q, n⟩, e⟩
  · subst e
    refine app rfl _ ?_ _
    have nn : cop .ne (.lst []) (.lst []) = some false := nn
    try simp only [e_var, e_pk, e_cst, e_glo, e_bin, e_neg, e_not, e_cmp, e_chn, e_boo, e_ite, e_tup, e_lst, e_ix, e_slc, e_rev, e_call, e_blt, e_isi, e_comp, a_nil, a_cons, b_one, b_cons, t_nil, t_one, s_skip, s_seq, s_asg, s_own, s_frz, s_set, s_app, s_ext, s_expr, s_ret, s_ite, s_loop, M.pure_bind, M.lift_some, M.calm_pure, M.bind_assoc, asBl, List.getElem?_cons_zero, List.getElem?_cons_succ, List.set_cons_zero, List.set_cons_succ, Option.map_some, put, putAll, if_true, if_false, Bool.false_eq_true, Bool.true_eq_false, Bool.not_true, Bool.not_false, Cn.d, partD, List.map_cons, List.map_nil, Ev.wipe, o_add, o_sub, o_mull, o_mulr, o_mod, o_div, o_addt, o_addl, o_lt, o_le, o_gt, o_ge, eq_int, ne_int, u_lenl, u_lent, u_lens, u_max, u_min, u_abs, u_tupl, u_tupt, i_int, i_bool, i_tup, i_rng1, i_lst, i_tupl, len_pic, len_row, nn]
  · rw [List.concat_eq_append] at e
    subst e
    have nn : cop .ne (.lst ((init ++ [(q, n)]).map sh2)) (.lst []) = some true := by rw [nn]; simp
    have xl : ixD (.lst ((init ++ [(q, n)]).map sh2)) (.int (-1)) = some (sh2 (q, n)) := by rw [List.map_append]; exact ix_lastL
    have y0 : ixD (sh2 (q, n)) (.int 0) = some q := rfl
    have y1 : ixD (sh2 (q, n)) (.int 1) = some (.int n) := rfl
    have hq : okD 40 q = true := hacc (q, n) (by simp)
    have eq : cop .eq q p = some (eqv q p) := by
      have h1 := okD_mono hq (show 40 ≤ 50 by omega)
      have h2 := okD_mono hp (show 40 ≤ 50 by omega)
      show eqD q p = _
      unfold eqD
      split
      · simp [okD] at h1
      · rw [h1, h2]; rfl
    have sp : stepP (init ++ [(q, n)]) p = if (eqv q p && decide (n < 3)) = true then init ++ [(p, n + 1)] else init ++ [(q, n)] ++ [(p, 1)] := by
      unfold stepP
      simp
    cases c1 : eqv q p with
    | false =>
      refine app (by rw [sp, c1]; rfl) _ ?_ _
      try simp only [e_var, e_pk, e_cst, e_glo, e_bin, e_neg, e_not, e_cmp, e_chn, e_boo, e_ite, e_tup, e_lst, e_ix, e_slc, e_rev, e_call, e_blt, e_isi, e_comp, a_nil, a_cons, b_one, b_cons, t_nil, t_one, s_skip, s_seq, s_asg, s_own, s_frz, s_set, s_app, s_ext, s_expr, s_ret, s_ite, s_loop, M.pure_bind, M.lift_some, M.calm_pure, M.bind_assoc, asBl, List.getElem?_cons_zero, List.getElem?_cons_succ, List.set_cons_zero, List.set_cons_succ, Option.map_some, put, putAll, if_true, if_false, Bool.false_eq_true, Bool.true_eq_false, Bool.not_true, Bool.not_false, Cn.d, partD, List.map_cons, List.map_nil, Ev.wipe, o_add, o_sub, o_mull, o_mulr, o_mod, o_div, o_addt, o_addl, o_lt, o_le, o_gt, o_ge, eq_int, ne_int, u_lenl, u_lent, u_lens, u_max, u_min, u_abs, u_tupl, u_tupt, i_int, i_bool, i_tup, i_rng1, i_lst, i_tupl, len_pic, len_row, nn, xl, y0, eq, c1]
    | true =>
      by_cases c2 : n < 3
      · refine Go.if1 (by try simp only [e_var, e_pk, e_cst, e_glo, e_bin, e_neg, e_not, e_cmp, e_chn, e_boo, e_ite, e_tup, e_lst, e_ix, e_slc, e_rev, e_call, e_blt, e_isi, e_comp, a_nil, a_cons, b_one, b_cons, t_nil, t_one, s_skip, s_seq, s_asg, s_own, s_frz, s_set, s_app, s_ext, s_expr, s_ret, s_ite, s_loop, M.pure_bind, M.lift_some, M.calm_pure, M.bind_assoc, asBl, List.getElem?_cons_zero, List.getElem?_cons_succ, List.set_cons_zero, List.set_cons_succ, Option.map_some, put, putAll, if_true, if_false, Bool.false_eq_true, Bool.true_eq_false, Bool.not_true, Bool.not_false, Cn.d, partD, List.map_cons, List.map_nil, Ev.wipe, o_add, o_sub, o_mull, o_mulr, o_mod, o_div, o_addt, o_addl, o_lt, o_le, o_gt, o_ge, eq_int, ne_int, u_lenl, u_lent, u_lens, u_max, u_min, u_abs, u_tupl, u_tupt, i_int, i_bool, i_tup, i_rng1, i_lst, i_tupl, len_pic, len_row, nn, xl, y0, y1, eq, c1, hm, c2, decide_true]) (Go.assoc (Go.setI (.tup [p, .int (n + 1)]) (-1) init.length rfl (by try simp only [e_var, e_pk, e_cst, e_glo, e_bin, e_neg, e_not, e_cmp, e_chn, e_boo, e_ite, e_tup, e_lst, e_ix, e_slc, e_rev, e_call, e_blt, e_isi, e_comp, a_nil, a_cons, b_one, b_cons, t_nil, t_one, s_skip, s_seq, s_asg, s_own, s_frz, s_set, s_app, s_ext, s_expr, s_ret, s_ite, s_loop, M.pure_bind, M.lift_some, M.calm_pure, M.bind_assoc, asBl, List.getElem?_cons_zero, List.getElem?_cons_succ, List.set_cons_zero, List.set_cons_succ, Option.map_some, put, putAll, if_true, if_false, Bool.false_eq_true, Bool.true_eq_false, Bool.not_true, Bool.not_false, Cn.d, partD, List.map_cons, List.map_nil, Ev.wipe, o_add, o_sub, o_mull, o_mulr, o_mod, o_div, o_addt, o_addl, o_lt, o_le, o_gt, o_ge, eq_int, ne_int, u_lenl, u_lent, u_lens, u_max, u_min, u_abs, u_tupl, u_tupt, i_int, i_bool, i_tup, i_rng1, i_lst, i_tupl, len_pic, len_row, xl, y1]) (by try simp only [e_var, e_pk, e_cst, e_glo, e_bin, e_neg, e_not, e_cmp, e_chn, e_boo, e_ite, e_tup, e_lst, e_ix, e_slc, e_rev, e_call, e_blt, e_isi, e_comp, a_nil, a_cons, b_one, b_cons, t_nil, t_one, s_skip, s_seq, s_asg, s_own, s_frz, s_set, s_app, s_ext, s_expr, s_ret, s_ite, s_loop, M.pure_bind, M.lift_some, M.calm_pure, M.bind_assoc, asBl, List.getElem?_cons_zero, List.getElem?_cons_succ, List.set_cons_zero, List.set_cons_succ, Option.map_some, put, putAll, if_true, if_false, Bool.false_eq_true, Bool.true_eq_false, Bool.not_true, Bool.not_false, Cn.d, partD, List.map_cons, List.map_nil, Ev.wipe, o_add, o_sub, o_mull, o_mulr, o_mod, o_div, o_addt, o_addl, o_lt, o_le, o_gt, o_ge, eq_int, ne_int, u_lenl, u_lent, u_lens, u_max, u_min, u_abs, u_tupl, u_tupt, i_int, i_bool, i_tup, i_rng1, i_lst, i_tupl, len_pic, len_row]) ?_ (Go.skip1 (Go.skipS ⟨rfl, ?_⟩))))
        · rw [List.length_map, List.length_append]
          exact ixN_last
        · rw [sp, c1]
          simp [c2, sh2]
      · refine app (by rw [sp, c1]; simp [c2]) _ ?_ _
        try simp only [e_var, e_pk, e_cst, e_glo, e_bin, e_neg, e_not, e_cmp, e_chn, e_boo, e_ite, e_tup, e_lst, e_ix, e_slc, e_rev, e_call, e_blt, e_isi, e_comp, a_nil, a_cons, b_one, b_cons, t_nil, t_one, s_skip, s_seq, s_asg, s_own, s_frz, s_set, s_app, s_ext, s_expr, s_ret, s_ite, s_loop, M.pure_bind, M.lift_some, M.calm_pure, M.bind_assoc, asBl, List.getElem?_cons_zero, List.getElem?_cons_succ, List.set_cons_zero, List.set_cons_succ, Option.map_some, put, putAll, if_true, if_false, Bool.false_eq_true, Bool.true_eq_false, Bool.not_true, Bool.not_false, Cn.d, partD, List.map_cons, List.map_nil, Ev.wipe, o_add, o_sub, o_mull, o_mulr, o_mod, o_div, o_addt, o_addl, o_lt, o_le, o_gt, o_ge, eq_int, ne_int, u_lenl, u_lent, u_lens, u_max, u_min, u_abs, u_tupl, u_tupt, i_int, i_bool, i_tup, i_rng1, i_lst, i_tupl, len_pic, len_row, nn, xl, y0, y1, eq, c1, hm, c2, decide_false]
def S_tight (Φ : Fns) : Prop := ∀ (R C : Nat) (fl : List Shot), Fm R C fl → Φ "tight" [filmD R C fl] = M.pure (.tup ((tightP ((fmV fl).map (pic R C))).map sh2))
theorem tight_inv {l : List D} {i : Nat} {x : D} (h : l[i]? = some x) : tightP (l.take (i + 1)) = stepP (tightP (l.take i)) x := by
  unfold tightP
  rw [List.take_add_one, h]
  simp [List.foldl_append]
theorem tight_ok {l : List D} {n : Nat} (h : ∀ x ∈ l, okD n x = true) : (∀ x ∈ tightP l, okD n x.1 = true) ∧ (tightP l).length ≤ l.length := by
  have go : ∀ (l : List D) (acc : List (D × Int)), (∀ x ∈ l, okD n x = true) → (∀ x ∈ acc, okD n x.1 = true) → (∀ x ∈ l.foldl stepP acc, okD n x.1 = true) ∧ (l.foldl stepP acc).length ≤ acc.length + l.length := by
    intro l
    induction l with
    | nil => intro acc _ h; exact ⟨h, Nat.le_refl _⟩
    | cons a l ih =>
      intro acc h1 h2
      obtain ⟨g1, g2⟩ := ih (stepP acc a) (fun x hx => h1 x (List.mem_cons_of_mem _ hx)) (stepP_ok h2 (h1 a List.mem_cons_self))
      have := stepP_len (acc := acc) (p := a)
      exact ⟨g1, by simp only [List.foldl_cons, List.length_cons]; omega⟩
  have := go l [] h (fun x hx => by simp at hx)
  exact ⟨this.1, by have := this.2; simp only [List.length_nil, Nat.zero_add] at this; exact this⟩
theorem sp_tight {Φ : Fns} (h1 : S_need_film Φ) (h2 : S_shown Φ) (R C : Nat) (fl : List Shot) (p : Fm R C fl) : runFn Φ fn_tight [filmD R C fl] = M.pure (.tup ((tightP ((fmV fl).map (pic R C))).map sh2)) := by
  refine run_go [.val (filmD R C fl), .emp, .emp] ?_
  simp only [fn_tight]
  refine Go.exprS .non (by try simp only [e_var, e_pk, e_cst, e_glo, e_bin, e_neg, e_not, e_cmp, e_chn, e_boo, e_ite, e_tup, e_lst, e_ix, e_slc, e_rev, e_call, e_blt, e_isi, e_comp, a_nil, a_cons, b_one, b_cons, t_nil, t_one, s_skip, s_seq, s_asg, s_own, s_frz, s_set, s_app, s_ext, s_expr, s_ret, s_ite, s_loop, M.pure_bind, M.lift_some, M.calm_pure, M.bind_assoc, asBl, List.getElem?_cons_zero, List.getElem?_cons_succ, List.set_cons_zero, List.set_cons_succ, Option.map_some, put, putAll, if_true, if_false, Bool.false_eq_true, Bool.true_eq_false, Bool.not_true, Bool.not_false, Cn.d, partD, List.map_cons, List.map_nil, Ev.wipe, o_add, o_sub, o_mull, o_mulr, o_mod, o_div, o_addt, o_addl, o_lt, o_le, o_gt, o_ge, eq_int, ne_int, u_lenl, u_lent, u_lens, u_max, u_min, u_abs, u_tupl, u_tupt, i_int, i_bool, i_tup, i_rng1, i_lst, i_tupl, len_pic, len_row, h1 R C fl p]) ?_
  refine Go.ownS [] (by try simp only [e_var, e_pk, e_cst, e_glo, e_bin, e_neg, e_not, e_cmp, e_chn, e_boo, e_ite, e_tup, e_lst, e_ix, e_slc, e_rev, e_call, e_blt, e_isi, e_comp, a_nil, a_cons, b_one, b_cons, t_nil, t_one, s_skip, s_seq, s_asg, s_own, s_frz, s_set, s_app, s_ext, s_expr, s_ret, s_ite, s_loop, M.pure_bind, M.lift_some, M.calm_pure, M.bind_assoc, asBl, List.getElem?_cons_zero, List.getElem?_cons_succ, List.set_cons_zero, List.set_cons_succ, Option.map_some, put, putAll, if_true, if_false, Bool.false_eq_true, Bool.true_eq_false, Bool.not_true, Bool.not_false, Cn.d, partD, List.map_cons, List.map_nil, Ev.wipe, o_add, o_sub, o_mull, o_mulr, o_mod, o_div, o_addt, o_addl, o_lt, o_le, o_gt, o_ge, eq_int, ne_int, u_lenl, u_lent, u_lens, u_max, u_min, u_abs, u_tupl, u_tupt, i_int, i_bool, i_tup, i_rng1, i_lst, i_tupl, len_pic, len_row]) ?_; simp only [List.set_cons_succ, List.set_cons_zero]
  have len := p.len
  obtain ⟨l, hl⟩ : ∃ l, (fmV fl).map (pic R C) = l := ⟨_, rfl⟩
  have ll : l.length ≤ 12 := by rw [← hl, List.length_map]; exact len.2
  have okl : ∀ x ∈ l, okD 40 x = true := fun x hx => by
    rw [← hl] at hx
    obtain ⟨f, _, rfl⟩ := List.mem_map.mp hx
    exact okD_pic
  have sh := h2 R C fl p
  rw [hl] at sh ⊢
  refine Go.forS (ds := [.lst l]) (items := l) (by try simp only [e_var, e_pk, e_cst, e_glo, e_bin, e_neg, e_not, e_cmp, e_chn, e_boo, e_ite, e_tup, e_lst, e_ix, e_slc, e_rev, e_call, e_blt, e_isi, e_comp, a_nil, a_cons, b_one, b_cons, t_nil, t_one, s_skip, s_seq, s_asg, s_own, s_frz, s_set, s_app, s_ext, s_expr, s_ret, s_ite, s_loop, M.pure_bind, M.lift_some, M.calm_pure, M.bind_assoc, asBl, List.getElem?_cons_zero, List.getElem?_cons_succ, List.set_cons_zero, List.set_cons_succ, Option.map_some, put, putAll, if_true, if_false, Bool.false_eq_true, Bool.true_eq_false, Bool.not_true, Bool.not_false, Cn.d, partD, List.map_cons, List.map_nil, Ev.wipe, o_add, o_sub, o_mull, o_mulr, o_mod, o_div, o_addt, o_addl, o_lt, o_le, o_gt, o_ge, eq_int, ne_int, u_lenl, u_lent, u_lens, u_max, u_min, u_abs, u_tupl, u_tupt, i_int, i_bool, i_tup, i_rng1, i_lst, i_tupl, len_pic, len_row, sh]) rfl (fun i ρ => ∃ v2, ρ = [.val (filmD R C fl), .own ((tightP (l.take i)).map sh2), v2]) ⟨_, rfl⟩ ?_ ?_
  · rintro i x ρ hx ⟨v2, rfl⟩
    refine ⟨_, rfl, ?_⟩
    simp only [List.set_cons_succ, List.set_cons_zero]
    have tk := tight_ok (l := l.take i) (n := 40) fun y hy => okl y (List.mem_of_mem_take hy)
    have t2 : (tightP (l.take i)).length ≤ 1000 := by have := tk.2; simp at this; omega
    refine Go.imp (go_tight (m3 := .glo "MOST_FRAMES" (.int 3)) (fun ρ => by try simp only [e_var, e_pk, e_cst, e_glo, e_bin, e_neg, e_not, e_cmp, e_chn, e_boo, e_ite, e_tup, e_lst, e_ix, e_slc, e_rev, e_call, e_blt, e_isi, e_comp, a_nil, a_cons, b_one, b_cons, t_nil, t_one, s_skip, s_seq, s_asg, s_own, s_frz, s_set, s_app, s_ext, s_expr, s_ret, s_ite, s_loop, M.pure_bind, M.lift_some, M.calm_pure, M.bind_assoc, asBl, List.getElem?_cons_zero, List.getElem?_cons_succ, List.set_cons_zero, List.set_cons_succ, Option.map_some, put, putAll, if_true, if_false, Bool.false_eq_true, Bool.true_eq_false, Bool.not_true, Bool.not_false, Cn.d, partD, List.map_cons, List.map_nil, Ev.wipe, o_add, o_sub, o_mull, o_mulr, o_mod, o_div, o_addt, o_addl, o_lt, o_le, o_gt, o_ge, eq_int, ne_int, u_lenl, u_lent, u_lens, u_max, u_min, u_abs, u_tupl, u_tupt, i_int, i_bool, i_tup, i_rng1, i_lst, i_tupl, len_pic, len_row]) tk.1 (okl x (List.mem_of_getElem? hx)) t2) fun r hr => ⟨hr.1, ?_⟩
    rw [hr.2, tight_inv hx]
    exact ⟨_, rfl⟩
  · rintro ρ ⟨v2, rfl⟩
    rw [List.take_of_length_le (Nat.le_refl _)]
    exact Go.retS _ (by try simp only [e_var, e_pk, e_cst, e_glo, e_bin, e_neg, e_not, e_cmp, e_chn, e_boo, e_ite, e_tup, e_lst, e_ix, e_slc, e_rev, e_call, e_blt, e_isi, e_comp, a_nil, a_cons, b_one, b_cons, t_nil, t_one, s_skip, s_seq, s_asg, s_own, s_frz, s_set, s_app, s_ext, s_expr, s_ret, s_ite, s_loop, M.pure_bind, M.lift_some, M.calm_pure, M.bind_assoc, asBl, List.getElem?_cons_zero, List.getElem?_cons_succ, List.set_cons_zero, List.set_cons_succ, Option.map_some, put, putAll, if_true, if_false, Bool.false_eq_true, Bool.true_eq_false, Bool.not_true, Bool.not_false, Cn.d, partD, List.map_cons, List.map_nil, Ev.wipe, o_add, o_sub, o_mull, o_mulr, o_mod, o_div, o_addt, o_addl, o_lt, o_le, o_gt, o_ge, eq_int, ne_int, u_lenl, u_lent, u_lens, u_max, u_min, u_abs, u_tupl, u_tupt, i_int, i_bool, i_tup, i_rng1, i_lst, i_tupl, len_pic, len_row]; first | done | exact rfl) rfl
def S_frames_in (Φ : Fns) : Prop := ∀ (R C : Nat) (fl : List Shot), Fm R C fl → Φ "frames_in" [filmD R C fl] = M.pure (.int ((fmV fl).length : Nat))
theorem sp_frames_in {Φ : Fns} (h1 : S_need_film Φ) (h2 : S_shown Φ) (R C : Nat) (fl : List Shot) (p : Fm R C fl) : runFn Φ fn_frames_in [filmD R C fl] = M.pure (.int ((fmV fl).length : Nat)) := by
  refine run_go [.val (filmD R C fl)] ?_
  simp only [fn_frames_in]
  refine Go.exprS .non (by try simp only [e_var, e_pk, e_cst, e_glo, e_bin, e_neg, e_not, e_cmp, e_chn, e_boo, e_ite, e_tup, e_lst, e_ix, e_slc, e_rev, e_call, e_blt, e_isi, e_comp, a_nil, a_cons, b_one, b_cons, t_nil, t_one, s_skip, s_seq, s_asg, s_own, s_frz, s_set, s_app, s_ext, s_expr, s_ret, s_ite, s_loop, M.pure_bind, M.lift_some, M.calm_pure, M.bind_assoc, asBl, List.getElem?_cons_zero, List.getElem?_cons_succ, List.set_cons_zero, List.set_cons_succ, Option.map_some, put, putAll, if_true, if_false, Bool.false_eq_true, Bool.true_eq_false, Bool.not_true, Bool.not_false, Cn.d, partD, List.map_cons, List.map_nil, Ev.wipe, o_add, o_sub, o_mull, o_mulr, o_mod, o_div, o_addt, o_addl, o_lt, o_le, o_gt, o_ge, eq_int, ne_int, u_lenl, u_lent, u_lens, u_max, u_min, u_abs, u_tupl, u_tupt, i_int, i_bool, i_tup, i_rng1, i_lst, i_tupl, len_pic, len_row, h1 R C fl p]) ?_
  exact Go.retS _ (by try simp only [e_var, e_pk, e_cst, e_glo, e_bin, e_neg, e_not, e_cmp, e_chn, e_boo, e_ite, e_tup, e_lst, e_ix, e_slc, e_rev, e_call, e_blt, e_isi, e_comp, a_nil, a_cons, b_one, b_cons, t_nil, t_one, s_skip, s_seq, s_asg, s_own, s_frz, s_set, s_app, s_ext, s_expr, s_ret, s_ite, s_loop, M.pure_bind, M.lift_some, M.calm_pure, M.bind_assoc, asBl, List.getElem?_cons_zero, List.getElem?_cons_succ, List.set_cons_zero, List.set_cons_succ, Option.map_some, put, putAll, if_true, if_false, Bool.false_eq_true, Bool.true_eq_false, Bool.not_true, Bool.not_false, Cn.d, partD, List.map_cons, List.map_nil, Ev.wipe, o_add, o_sub, o_mull, o_mulr, o_mod, o_div, o_addt, o_addl, o_lt, o_le, o_gt, o_ge, eq_int, ne_int, u_lenl, u_lent, u_lens, u_max, u_min, u_abs, u_tupl, u_tupt, i_int, i_bool, i_tup, i_rng1, i_lst, i_tupl, len_pic, len_row, h2 R C fl p, List.length_map]; first | done | exact rfl) rfl
def S_frame (Φ : Fns) : Prop := ∀ (R C : Nat) (fl : List Shot) (k : Nat), Fm R C fl → k < (fmV fl).length → Φ "frame" [filmD R C fl, .int k] = M.pure (pic R C (frm fl k))
theorem sp_frame {Φ : Fns} (h1 : S_need_film Φ) (h2 : S_shown Φ) (h3 : S_is_number Φ) (R C : Nat) (fl : List Shot) (k : Nat) (p : Fm R C fl) (hk : k < (fmV fl).length) : runFn Φ fn_frame [filmD R C fl, .int k] = M.pure (pic R C (frm fl k)) := by
  refine run_go [.val (filmD R C fl), .val (.int k)] ?_
  simp only [fn_frame]
  refine Go.exprS .non (by try simp only [e_var, e_pk, e_cst, e_glo, e_bin, e_neg, e_not, e_cmp, e_chn, e_boo, e_ite, e_tup, e_lst, e_ix, e_slc, e_rev, e_call, e_blt, e_isi, e_comp, a_nil, a_cons, b_one, b_cons, t_nil, t_one, s_skip, s_seq, s_asg, s_own, s_frz, s_set, s_app, s_ext, s_expr, s_ret, s_ite, s_loop, M.pure_bind, M.lift_some, M.calm_pure, M.bind_assoc, asBl, List.getElem?_cons_zero, List.getElem?_cons_succ, List.set_cons_zero, List.set_cons_succ, Option.map_some, put, putAll, if_true, if_false, Bool.false_eq_true, Bool.true_eq_false, Bool.not_true, Bool.not_false, Cn.d, partD, List.map_cons, List.map_nil, Ev.wipe, o_add, o_sub, o_mull, o_mulr, o_mod, o_div, o_addt, o_addl, o_lt, o_le, o_gt, o_ge, eq_int, ne_int, u_lenl, u_lent, u_lens, u_max, u_min, u_abs, u_tupl, u_tupt, i_int, i_bool, i_tup, i_rng1, i_lst, i_tupl, len_pic, len_row, h1 R C fl p]) ?_
  have e := h3 k 0 (((fmV fl).length : Nat) - 1)
  rw [decide_eq_true (show (0 : Int) ≤ (k : Nat) by omega), decide_eq_true (show ((k : Nat) : Int) ≤ ((fmV fl).length : Nat) - 1 by omega)] at e
  refine Go.if0 (by try simp only [e_var, e_pk, e_cst, e_glo, e_bin, e_neg, e_not, e_cmp, e_chn, e_boo, e_ite, e_tup, e_lst, e_ix, e_slc, e_rev, e_call, e_blt, e_isi, e_comp, a_nil, a_cons, b_one, b_cons, t_nil, t_one, s_skip, s_seq, s_asg, s_own, s_frz, s_set, s_app, s_ext, s_expr, s_ret, s_ite, s_loop, M.pure_bind, M.lift_some, M.calm_pure, M.bind_assoc, asBl, List.getElem?_cons_zero, List.getElem?_cons_succ, List.set_cons_zero, List.set_cons_succ, Option.map_some, put, putAll, if_true, if_false, Bool.false_eq_true, Bool.true_eq_false, Bool.not_true, Bool.not_false, Cn.d, partD, List.map_cons, List.map_nil, Ev.wipe, o_add, o_sub, o_mull, o_mulr, o_mod, o_div, o_addt, o_addl, o_lt, o_le, o_gt, o_ge, eq_int, ne_int, u_lenl, u_lent, u_lens, u_max, u_min, u_abs, u_tupl, u_tupt, i_int, i_bool, i_tup, i_rng1, i_lst, i_tupl, len_pic, len_row, h2 R C fl p, List.length_map, e, Bool.and_self]) ?_
  refine Go.retS (pic R C (frm fl k)) ?_ rfl
  have x := ixL (l := (fmV fl).map (pic R C)) (i := k) (by simpa using hk)
  have x2 : ((fmV fl).map (pic R C)).getD k .non = pic R C (frm fl k) := by
    unfold frm
    rw [List.getD, List.getElem?_map, List.getElem?_eq_getElem hk]
    rfl
  rw [x2] at x
  try simp only [e_var, e_pk, e_cst, e_glo, e_bin, e_neg, e_not, e_cmp, e_chn, e_boo, e_ite, e_tup, e_lst, e_ix, e_slc, e_rev, e_call, e_blt, e_isi, e_comp, a_nil, a_cons, b_one, b_cons, t_nil, t_one, s_skip, s_seq, s_asg, s_own, s_frz, s_set, s_app, s_ext, s_expr, s_ret, s_ite, s_loop, M.pure_bind, M.lift_some, M.calm_pure, M.bind_assoc, asBl, List.getElem?_cons_zero, List.getElem?_cons_succ, List.set_cons_zero, List.set_cons_succ, Option.map_some, put, putAll, if_true, if_false, Bool.false_eq_true, Bool.true_eq_false, Bool.not_true, Bool.not_false, Cn.d, partD, List.map_cons, List.map_nil, Ev.wipe, o_add, o_sub, o_mull, o_mulr, o_mod, o_div, o_addt, o_addl, o_lt, o_le, o_gt, o_ge, eq_int, ne_int, u_lenl, u_lent, u_lens, u_max, u_min, u_abs, u_tupl, u_tupt, i_int, i_bool, i_tup, i_rng1, i_lst, i_tupl, len_pic, len_row, h2 R C fl p, x]
def S_frameX (Φ : Fns) : Prop := ∀ (R C : Nat) (fl : List Shot) (d : D), Fm R C fl → okD 40 d = true → isNumD 0 (((fmV fl).length : Nat) - 1) d = false → Φ "frame" [filmD R C fl, d] = thr "NoNumber"
theorem sp_frameX {Φ : Fns} (h1 : S_need_film Φ) (h2 : S_shown Φ) (h3 : S_is_numberG Φ) (R C : Nat) (fl : List Shot) (d : D) (p : Fm R C fl) (ok : okD 40 d = true) (hk : isNumD 0 (((fmV fl).length : Nat) - 1) d = false) : runFn Φ fn_frame [filmD R C fl, d] = thr "NoNumber" := by
  refine run_thr [.val (filmD R C fl), .val (d)] ?_
  try simp only [e_var, e_pk, e_cst, e_glo, e_bin, e_neg, e_not, e_cmp, e_chn, e_boo, e_ite, e_tup, e_lst, e_ix, e_slc, e_rev, e_call, e_blt, e_isi, e_comp, a_nil, a_cons, b_one, b_cons, t_nil, t_one, s_skip, s_seq, s_asg, s_own, s_frz, s_set, s_app, s_ext, s_expr, s_ret, s_ite, s_loop, M.pure_bind, M.lift_some, M.calm_pure, M.bind_assoc, asBl, List.getElem?_cons_zero, List.getElem?_cons_succ, List.set_cons_zero, List.set_cons_succ, Option.map_some, put, putAll, if_true, if_false, Bool.false_eq_true, Bool.true_eq_false, Bool.not_true, Bool.not_false, Cn.d, partD, List.map_cons, List.map_nil, Ev.wipe, o_add, o_sub, o_mull, o_mulr, o_mod, o_div, o_addt, o_addl, o_lt, o_le, o_gt, o_ge, eq_int, ne_int, u_lenl, u_lent, u_lens, u_max, u_min, u_abs, u_tupl, u_tupt, i_int, i_bool, i_tup, i_rng1, i_lst, i_tupl, len_pic, len_row, fn_frame, h1 R C fl p, h2 R C fl p, List.length_map, h3 d 0 (((fmV fl).length : Nat) - 1) ok, hk, s_raise, thr_bind]
def S_backwards (Φ : Fns) : Prop := ∀ (R C : Nat) (fl : List Shot), Fm R C fl → Φ "backwards" [filmD R C fl] = M.pure (filmD R C fl.reverse)
theorem sp_backwards {Φ : Fns} (h1 : S_need_film Φ) (R C : Nat) (fl : List Shot) (p : Fm R C fl) : runFn Φ fn_backwards [filmD R C fl] = M.pure (filmD R C fl.reverse) := by
  refine run_go [.val (filmD R C fl)] ?_
  simp only [fn_backwards]
  refine Go.exprS .non (by try simp only [e_var, e_pk, e_cst, e_glo, e_bin, e_neg, e_not, e_cmp, e_chn, e_boo, e_ite, e_tup, e_lst, e_ix, e_slc, e_rev, e_call, e_blt, e_isi, e_comp, a_nil, a_cons, b_one, b_cons, t_nil, t_one, s_skip, s_seq, s_asg, s_own, s_frz, s_set, s_app, s_ext, s_expr, s_ret, s_ite, s_loop, M.pure_bind, M.lift_some, M.calm_pure, M.bind_assoc, asBl, List.getElem?_cons_zero, List.getElem?_cons_succ, List.set_cons_zero, List.set_cons_succ, Option.map_some, put, putAll, if_true, if_false, Bool.false_eq_true, Bool.true_eq_false, Bool.not_true, Bool.not_false, Cn.d, partD, List.map_cons, List.map_nil, Ev.wipe, o_add, o_sub, o_mull, o_mulr, o_mod, o_div, o_addt, o_addl, o_lt, o_le, o_gt, o_ge, eq_int, ne_int, u_lenl, u_lent, u_lens, u_max, u_min, u_abs, u_tupl, u_tupt, i_int, i_bool, i_tup, i_rng1, i_lst, i_tupl, len_pic, len_row, h1 R C fl p]) ?_
  have e : revD (filmD R C fl) = some (filmD R C fl.reverse) := by simp [filmD, revD]
  exact Go.retS _ (by try simp only [e_var, e_pk, e_cst, e_glo, e_bin, e_neg, e_not, e_cmp, e_chn, e_boo, e_ite, e_tup, e_lst, e_ix, e_slc, e_rev, e_call, e_blt, e_isi, e_comp, a_nil, a_cons, b_one, b_cons, t_nil, t_one, s_skip, s_seq, s_asg, s_own, s_frz, s_set, s_app, s_ext, s_expr, s_ret, s_ite, s_loop, M.pure_bind, M.lift_some, M.calm_pure, M.bind_assoc, asBl, List.getElem?_cons_zero, List.getElem?_cons_succ, List.set_cons_zero, List.set_cons_succ, Option.map_some, put, putAll, if_true, if_false, Bool.false_eq_true, Bool.true_eq_false, Bool.not_true, Bool.not_false, Cn.d, partD, List.map_cons, List.map_nil, Ev.wipe, o_add, o_sub, o_mull, o_mulr, o_mod, o_div, o_addt, o_addl, o_lt, o_le, o_gt, o_ge, eq_int, ne_int, u_lenl, u_lent, u_lens, u_max, u_min, u_abs, u_tupl, u_tupt, i_int, i_bool, i_tup, i_rng1, i_lst, i_tupl, len_pic, len_row, e]; first | done | exact rfl) rfl
theorem addF {R C R' C' : Nat} {fl gl : List Shot} (h1 : fl.length ≤ 100) (h2 : gl.length ≤ 100) : bop .add (filmD R C fl) (filmD R' C' gl) = some (.tup (fl.map (shotD R C) ++ gl.map (shotD R' C'))) := by
  unfold filmD
  exact o_addt (by simp; omega)
def S_joined (Φ : Fns) : Prop := ∀ (R C : Nat) (fl gl : List Shot), Fm R C fl → Fm R C gl → fl.length + gl.length ≤ 4 → Φ "joined" [filmD R C fl, filmD R C gl] = M.pure (filmD R C (fl ++ gl))
theorem Fm.app {R C : Nat} {fl gl : List Shot} (p : Fm R C fl) (q : Fm R C gl) (h : fl.length + gl.length ≤ 4) : Fm R C (fl ++ gl) :=
  ⟨p.r1, p.r4, p.c1, p.c6, by have := p.ne; simp; omega, by simpa using h, fun x hx => (List.mem_append.mp hx).elim (p.ok x) (q.ok x)⟩
theorem sp_joined {Φ : Fns} (h1 : S_need_film Φ) (h2 : S_is_film Φ) (R C : Nat) (fl gl : List Shot) (p : Fm R C fl) (q : Fm R C gl) (h : fl.length + gl.length ≤ 4) : runFn Φ fn_joined [filmD R C fl, filmD R C gl] = M.pure (filmD R C (fl ++ gl)) := by
  refine run_go [.val (filmD R C fl), .val (filmD R C gl)] ?_
  simp only [fn_joined]
  refine Go.exprS .non (by try simp only [e_var, e_pk, e_cst, e_glo, e_bin, e_neg, e_not, e_cmp, e_chn, e_boo, e_ite, e_tup, e_lst, e_ix, e_slc, e_rev, e_call, e_blt, e_isi, e_comp, a_nil, a_cons, b_one, b_cons, t_nil, t_one, s_skip, s_seq, s_asg, s_own, s_frz, s_set, s_app, s_ext, s_expr, s_ret, s_ite, s_loop, M.pure_bind, M.lift_some, M.calm_pure, M.bind_assoc, asBl, List.getElem?_cons_zero, List.getElem?_cons_succ, List.set_cons_zero, List.set_cons_succ, Option.map_some, put, putAll, if_true, if_false, Bool.false_eq_true, Bool.true_eq_false, Bool.not_true, Bool.not_false, Cn.d, partD, List.map_cons, List.map_nil, Ev.wipe, o_add, o_sub, o_mull, o_mulr, o_mod, o_div, o_addt, o_addl, o_lt, o_le, o_gt, o_ge, eq_int, ne_int, u_lenl, u_lent, u_lens, u_max, u_min, u_abs, u_tupl, u_tupt, i_int, i_bool, i_tup, i_rng1, i_lst, i_tupl, len_pic, len_row, h1 R C fl p]) ?_
  refine Go.exprS .non (by try simp only [e_var, e_pk, e_cst, e_glo, e_bin, e_neg, e_not, e_cmp, e_chn, e_boo, e_ite, e_tup, e_lst, e_ix, e_slc, e_rev, e_call, e_blt, e_isi, e_comp, a_nil, a_cons, b_one, b_cons, t_nil, t_one, s_skip, s_seq, s_asg, s_own, s_frz, s_set, s_app, s_ext, s_expr, s_ret, s_ite, s_loop, M.pure_bind, M.lift_some, M.calm_pure, M.bind_assoc, asBl, List.getElem?_cons_zero, List.getElem?_cons_succ, List.set_cons_zero, List.set_cons_succ, Option.map_some, put, putAll, if_true, if_false, Bool.false_eq_true, Bool.true_eq_false, Bool.not_true, Bool.not_false, Cn.d, partD, List.map_cons, List.map_nil, Ev.wipe, o_add, o_sub, o_mull, o_mulr, o_mod, o_div, o_addt, o_addl, o_lt, o_le, o_gt, o_ge, eq_int, ne_int, u_lenl, u_lent, u_lens, u_max, u_min, u_abs, u_tupl, u_tupt, i_int, i_bool, i_tup, i_rng1, i_lst, i_tupl, len_pic, len_row, h1 R C gl q]) ?_
  have e : bop .add (filmD R C fl) (filmD R C gl) = some (filmD R C (fl ++ gl)) := by rw [addF (by omega) (by omega), filmD, List.map_append]
  refine Go.if0 (by try simp only [e_var, e_pk, e_cst, e_glo, e_bin, e_neg, e_not, e_cmp, e_chn, e_boo, e_ite, e_tup, e_lst, e_ix, e_slc, e_rev, e_call, e_blt, e_isi, e_comp, a_nil, a_cons, b_one, b_cons, t_nil, t_one, s_skip, s_seq, s_asg, s_own, s_frz, s_set, s_app, s_ext, s_expr, s_ret, s_ite, s_loop, M.pure_bind, M.lift_some, M.calm_pure, M.bind_assoc, asBl, List.getElem?_cons_zero, List.getElem?_cons_succ, List.set_cons_zero, List.set_cons_succ, Option.map_some, put, putAll, if_true, if_false, Bool.false_eq_true, Bool.true_eq_false, Bool.not_true, Bool.not_false, Cn.d, partD, List.map_cons, List.map_nil, Ev.wipe, o_add, o_sub, o_mull, o_mulr, o_mod, o_div, o_addt, o_addl, o_lt, o_le, o_gt, o_ge, eq_int, ne_int, u_lenl, u_lent, u_lens, u_max, u_min, u_abs, u_tupl, u_tupt, i_int, i_bool, i_tup, i_rng1, i_lst, i_tupl, len_pic, len_row, e, h2 R C _ (p.app q h)]) ?_
  exact Go.retS _ (by try simp only [e_var, e_pk, e_cst, e_glo, e_bin, e_neg, e_not, e_cmp, e_chn, e_boo, e_ite, e_tup, e_lst, e_ix, e_slc, e_rev, e_call, e_blt, e_isi, e_comp, a_nil, a_cons, b_one, b_cons, t_nil, t_one, s_skip, s_seq, s_asg, s_own, s_frz, s_set, s_app, s_ext, s_expr, s_ret, s_ite, s_loop, M.pure_bind, M.lift_some, M.calm_pure, M.bind_assoc, asBl, List.getElem?_cons_zero, List.getElem?_cons_succ, List.set_cons_zero, List.set_cons_succ, Option.map_some, put, putAll, if_true, if_false, Bool.false_eq_true, Bool.true_eq_false, Bool.not_true, Bool.not_false, Cn.d, partD, List.map_cons, List.map_nil, Ev.wipe, o_add, o_sub, o_mull, o_mulr, o_mod, o_div, o_addt, o_addl, o_lt, o_le, o_gt, o_ge, eq_int, ne_int, u_lenl, u_lent, u_lens, u_max, u_min, u_abs, u_tupl, u_tupt, i_int, i_bool, i_tup, i_rng1, i_lst, i_tupl, len_pic, len_row, e]; first | done | exact rfl) rfl
/-- what is refused -/
def S_joinedX (Φ : Fns) : Prop := ∀ (R C R' C' : Nat) (fl gl : List Shot), Fm R C fl → Fm R' C' gl → isFilmD (.tup (fl.map (shotD R C) ++ gl.map (shotD R' C'))) = false → Φ "joined" [filmD R C fl, filmD R' C' gl] = thr "NoFilm"
theorem okD_film {R C : Nat} {fl : List Shot} {n : Nat} : okD (n + 6) (filmD R C fl) = true := by
  simp only [filmD, okD, List.all_map]
  refine List.all_eq_true.mpr fun x _ => ?_
  show okD (n + 5) (shotD R C x) = true
  simp only [shotD, okD, List.all_cons, List.all_nil, Bool.and_true, Bool.and_self]
  exact okD_pic
theorem okD_films {R C R' C' : Nat} {fl gl : List Shot} {n : Nat} : okD (n + 6) (.tup (fl.map (shotD R C) ++ gl.map (shotD R' C'))) = true := by
  have h1 : okD (n + 6) (filmD R C fl) = true := okD_film
  have h2 : okD (n + 6) (filmD R' C' gl) = true := okD_film
  simp only [filmD, okD, List.all_append, Bool.and_eq_true] at h1 h2 ⊢
  exact ⟨h1, h2⟩
theorem sp_joinedX {Φ : Fns} (h1 : S_need_film Φ) (h2 : S_is_filmG Φ) (R C R' C' : Nat) (fl gl : List Shot) (p : Fm R C fl) (q : Fm R' C' gl) (h : isFilmD (.tup (fl.map (shotD R C) ++ gl.map (shotD R' C'))) = false) : runFn Φ fn_joined [filmD R C fl, filmD R' C' gl] = thr "NoFilm" := by
  refine run_thr [.val (filmD R C fl), .val (filmD R' C' gl)] ?_
  have := p.le
  have := q.le
  try simp only [e_var, e_pk, e_cst, e_glo, e_bin, e_neg, e_not, e_cmp, e_chn, e_boo, e_ite, e_tup, e_lst, e_ix, e_slc, e_rev, e_call, e_blt, e_isi, e_comp, a_nil, a_cons, b_one, b_cons, t_nil, t_one, s_skip, s_seq, s_asg, s_own, s_frz, s_set, s_app, s_ext, s_expr, s_ret, s_ite, s_loop, M.pure_bind, M.lift_some, M.calm_pure, M.bind_assoc, asBl, List.getElem?_cons_zero, List.getElem?_cons_succ, List.set_cons_zero, List.set_cons_succ, Option.map_some, put, putAll, if_true, if_false, Bool.false_eq_true, Bool.true_eq_false, Bool.not_true, Bool.not_false, Cn.d, partD, List.map_cons, List.map_nil, Ev.wipe, o_add, o_sub, o_mull, o_mulr, o_mod, o_div, o_addt, o_addl, o_lt, o_le, o_gt, o_ge, eq_int, ne_int, u_lenl, u_lent, u_lens, u_max, u_min, u_abs, u_tupl, u_tupt, i_int, i_bool, i_tup, i_rng1, i_lst, i_tupl, len_pic, len_row, fn_joined, h1 R C fl p, h1 R' C' gl q, addF (R := R) (C := C) (R' := R') (C' := C') (fl := fl) (gl := gl) (by omega) (by omega), h2 _ (okD_films (n := 34)), h, s_raise, thr_bind]
def S_badF1 (f : Str) (Φ : Fns) : Prop := ∀ d : D, okD 40 d = true → isFilmD d = false → Φ f [d] = thr "NoFilm"
def S_badF2 (f : Str) (Φ : Fns) : Prop := ∀ d e : D, okD 40 d = true → isFilmD d = false → Φ f [d, e] = thr "NoFilm"
theorem bad_frames_in {Φ : Fns} (hn : S_need_filmG Φ) (d : D) (ok : okD 40 d = true) (h : isFilmD d = false) : runFn Φ fn_frames_in [d] = thr "NoFilm" := by
  refine run_thr [.val (d)] ?_
  try simp only [e_var, e_pk, e_cst, e_glo, e_bin, e_neg, e_not, e_cmp, e_chn, e_boo, e_ite, e_tup, e_lst, e_ix, e_slc, e_rev, e_call, e_blt, e_isi, e_comp, a_nil, a_cons, b_one, b_cons, t_nil, t_one, s_skip, s_seq, s_asg, s_own, s_frz, s_set, s_app, s_ext, s_expr, s_ret, s_ite, s_loop, M.pure_bind, M.lift_some, M.calm_pure, M.bind_assoc, asBl, List.getElem?_cons_zero, List.getElem?_cons_succ, List.set_cons_zero, List.set_cons_succ, Option.map_some, put, putAll, if_true, if_false, Bool.false_eq_true, Bool.true_eq_false, Bool.not_true, Bool.not_false, Cn.d, partD, List.map_cons, List.map_nil, Ev.wipe, o_add, o_sub, o_mull, o_mulr, o_mod, o_div, o_addt, o_addl, o_lt, o_le, o_gt, o_ge, eq_int, ne_int, u_lenl, u_lent, u_lens, u_max, u_min, u_abs, u_tupl, u_tupt, i_int, i_bool, i_tup, i_rng1, i_lst, i_tupl, len_pic, len_row, fn_frames_in, hn d ok h, thr_bind]
theorem bad_frame {Φ : Fns} (hn : S_need_filmG Φ) (d e : D) (ok : okD 40 d = true) (h : isFilmD d = false) : runFn Φ fn_frame [d, e] = thr "NoFilm" := by
  refine run_thr [.val (d), .val (e)] ?_
  try simp only [e_var, e_pk, e_cst, e_glo, e_bin, e_neg, e_not, e_cmp, e_chn, e_boo, e_ite, e_tup, e_lst, e_ix, e_slc, e_rev, e_call, e_blt, e_isi, e_comp, a_nil, a_cons, b_one, b_cons, t_nil, t_one, s_skip, s_seq, s_asg, s_own, s_frz, s_set, s_app, s_ext, s_expr, s_ret, s_ite, s_loop, M.pure_bind, M.lift_some, M.calm_pure, M.bind_assoc, asBl, List.getElem?_cons_zero, List.getElem?_cons_succ, List.set_cons_zero, List.set_cons_succ, Option.map_some, put, putAll, if_true, if_false, Bool.false_eq_true, Bool.true_eq_false, Bool.not_true, Bool.not_false, Cn.d, partD, List.map_cons, List.map_nil, Ev.wipe, o_add, o_sub, o_mull, o_mulr, o_mod, o_div, o_addt, o_addl, o_lt, o_le, o_gt, o_ge, eq_int, ne_int, u_lenl, u_lent, u_lens, u_max, u_min, u_abs, u_tupl, u_tupt, i_int, i_bool, i_tup, i_rng1, i_lst, i_tupl, len_pic, len_row, fn_frame, hn d ok h, thr_bind]
theorem bad_joined {Φ : Fns} (hn : S_need_filmG Φ) (d e : D) (ok : okD 40 d = true) (h : isFilmD d = false) : runFn Φ fn_joined [d, e] = thr "NoFilm" := by
  refine run_thr [.val (d), .val (e)] ?_
  try simp only [e_var, e_pk, e_cst, e_glo, e_bin, e_neg, e_not, e_cmp, e_chn, e_boo, e_ite, e_tup, e_lst, e_ix, e_slc, e_rev, e_call, e_blt, e_isi, e_comp, a_nil, a_cons, b_one, b_cons, t_nil, t_one, s_skip, s_seq, s_asg, s_own, s_frz, s_set, s_app, s_ext, s_expr, s_ret, s_ite, s_loop, M.pure_bind, M.lift_some, M.calm_pure, M.bind_assoc, asBl, List.getElem?_cons_zero, List.getElem?_cons_succ, List.set_cons_zero, List.set_cons_succ, Option.map_some, put, putAll, if_true, if_false, Bool.false_eq_true, Bool.true_eq_false, Bool.not_true, Bool.not_false, Cn.d, partD, List.map_cons, List.map_nil, Ev.wipe, o_add, o_sub, o_mull, o_mulr, o_mod, o_div, o_addt, o_addl, o_lt, o_le, o_gt, o_ge, eq_int, ne_int, u_lenl, u_lent, u_lens, u_max, u_min, u_abs, u_tupl, u_tupt, i_int, i_bool, i_tup, i_rng1, i_lst, i_tupl, len_pic, len_row, fn_joined, hn d ok h, thr_bind]
theorem bad_backwards {Φ : Fns} (hn : S_need_filmG Φ) (d : D) (ok : okD 40 d = true) (h : isFilmD d = false) : runFn Φ fn_backwards [d] = thr "NoFilm" := by
  refine run_thr [.val (d)] ?_
  try simp only [e_var, e_pk, e_cst, e_glo, e_bin, e_neg, e_not, e_cmp, e_chn, e_boo, e_ite, e_tup, e_lst, e_ix, e_slc, e_rev, e_call, e_blt, e_isi, e_comp, a_nil, a_cons, b_one, b_cons, t_nil, t_one, s_skip, s_seq, s_asg, s_own, s_frz, s_set, s_app, s_ext, s_expr, s_ret, s_ite, s_loop, M.pure_bind, M.lift_some, M.calm_pure, M.bind_assoc, asBl, List.getElem?_cons_zero, List.getElem?_cons_succ, List.set_cons_zero, List.set_cons_succ, Option.map_some, put, putAll, if_true, if_false, Bool.false_eq_true, Bool.true_eq_false, Bool.not_true, Bool.not_false, Cn.d, partD, List.map_cons, List.map_nil, Ev.wipe, o_add, o_sub, o_mull, o_mulr, o_mod, o_div, o_addt, o_addl, o_lt, o_le, o_gt, o_ge, eq_int, ne_int, u_lenl, u_lent, u_lens, u_max, u_min, u_abs, u_tupl, u_tupt, i_int, i_bool, i_tup, i_rng1, i_lst, i_tupl, len_pic, len_row, fn_backwards, hn d ok h, thr_bind]
theorem bad_tight {Φ : Fns} (hn : S_need_filmG Φ) (d : D) (ok : okD 40 d = true) (h : isFilmD d = false) : runFn Φ fn_tight [d] = thr "NoFilm" := by
  refine run_thr [.val (d), .emp, .emp] ?_
  try simp only [e_var, e_pk, e_cst, e_glo, e_bin, e_neg, e_not, e_cmp, e_chn, e_boo, e_ite, e_tup, e_lst, e_ix, e_slc, e_rev, e_call, e_blt, e_isi, e_comp, a_nil, a_cons, b_one, b_cons, t_nil, t_one, s_skip, s_seq, s_asg, s_own, s_frz, s_set, s_app, s_ext, s_expr, s_ret, s_ite, s_loop, M.pure_bind, M.lift_some, M.calm_pure, M.bind_assoc, asBl, List.getElem?_cons_zero, List.getElem?_cons_succ, List.set_cons_zero, List.set_cons_succ, Option.map_some, put, putAll, if_true, if_false, Bool.false_eq_true, Bool.true_eq_false, Bool.not_true, Bool.not_false, Cn.d, partD, List.map_cons, List.map_nil, Ev.wipe, o_add, o_sub, o_mull, o_mulr, o_mod, o_div, o_addt, o_addl, o_lt, o_le, o_gt, o_ge, eq_int, ne_int, u_lenl, u_lent, u_lens, u_max, u_min, u_abs, u_tupl, u_tupt, i_int, i_bool, i_tup, i_rng1, i_lst, i_tupl, len_pic, len_row, fn_tight, hn d ok h, thr_bind]
theorem bad_round_of {Φ : Fns} (hn : S_need_filmG Φ) (d : D) (ok : okD 40 d = true) (h : isFilmD d = false) : runFn Φ fn_round_of [d] = thr "NoFilm" := by
  refine run_thr [.val (d)] ?_
  try simp only [e_var, e_pk, e_cst, e_glo, e_bin, e_neg, e_not, e_cmp, e_chn, e_boo, e_ite, e_tup, e_lst, e_ix, e_slc, e_rev, e_call, e_blt, e_isi, e_comp, a_nil, a_cons, b_one, b_cons, t_nil, t_one, s_skip, s_seq, s_asg, s_own, s_frz, s_set, s_app, s_ext, s_expr, s_ret, s_ite, s_loop, M.pure_bind, M.lift_some, M.calm_pure, M.bind_assoc, asBl, List.getElem?_cons_zero, List.getElem?_cons_succ, List.set_cons_zero, List.set_cons_succ, Option.map_some, put, putAll, if_true, if_false, Bool.false_eq_true, Bool.true_eq_false, Bool.not_true, Bool.not_false, Cn.d, partD, List.map_cons, List.map_nil, Ev.wipe, o_add, o_sub, o_mull, o_mulr, o_mod, o_div, o_addt, o_addl, o_lt, o_le, o_gt, o_ge, eq_int, ne_int, u_lenl, u_lent, u_lens, u_max, u_min, u_abs, u_tupl, u_tupt, i_int, i_bool, i_tup, i_rng1, i_lst, i_tupl, len_pic, len_row, fn_round_of, hn d ok h, thr_bind]
theorem bad_picture_at {Φ : Fns} (hn : S_need_filmG Φ) (d e : D) (ok : okD 40 d = true) (h : isFilmD d = false) : runFn Φ fn_picture_at [d, e] = thr "NoFilm" := by
  refine run_thr [.val (d), .val (e)] ?_
  try simp only [e_var, e_pk, e_cst, e_glo, e_bin, e_neg, e_not, e_cmp, e_chn, e_boo, e_ite, e_tup, e_lst, e_ix, e_slc, e_rev, e_call, e_blt, e_isi, e_comp, a_nil, a_cons, b_one, b_cons, t_nil, t_one, s_skip, s_seq, s_asg, s_own, s_frz, s_set, s_app, s_ext, s_expr, s_ret, s_ite, s_loop, M.pure_bind, M.lift_some, M.calm_pure, M.bind_assoc, asBl, List.getElem?_cons_zero, List.getElem?_cons_succ, List.set_cons_zero, List.set_cons_succ, Option.map_some, put, putAll, if_true, if_false, Bool.false_eq_true, Bool.true_eq_false, Bool.not_true, Bool.not_false, Cn.d, partD, List.map_cons, List.map_nil, Ev.wipe, o_add, o_sub, o_mull, o_mulr, o_mod, o_div, o_addt, o_addl, o_lt, o_le, o_gt, o_ge, eq_int, ne_int, u_lenl, u_lent, u_lens, u_max, u_min, u_abs, u_tupl, u_tupt, i_int, i_bool, i_tup, i_rng1, i_lst, i_tupl, len_pic, len_row, fn_picture_at, hn d ok h, thr_bind]
theorem bad_same_to_eye {Φ : Fns} (hn : S_need_filmG Φ) (d e : D) (ok : okD 40 d = true) (h : isFilmD d = false) : runFn Φ fn_same_to_eye [d, e] = thr "NoFilm" := by
  refine run_thr [.val (d), .val (e), .emp, .emp, .emp] ?_
  try simp only [e_var, e_pk, e_cst, e_glo, e_bin, e_neg, e_not, e_cmp, e_chn, e_boo, e_ite, e_tup, e_lst, e_ix, e_slc, e_rev, e_call, e_blt, e_isi, e_comp, a_nil, a_cons, b_one, b_cons, t_nil, t_one, s_skip, s_seq, s_asg, s_own, s_frz, s_set, s_app, s_ext, s_expr, s_ret, s_ite, s_loop, M.pure_bind, M.lift_some, M.calm_pure, M.bind_assoc, asBl, List.getElem?_cons_zero, List.getElem?_cons_succ, List.set_cons_zero, List.set_cons_succ, Option.map_some, put, putAll, if_true, if_false, Bool.false_eq_true, Bool.true_eq_false, Bool.not_true, Bool.not_false, Cn.d, partD, List.map_cons, List.map_nil, Ev.wipe, o_add, o_sub, o_mull, o_mulr, o_mod, o_div, o_addt, o_addl, o_lt, o_le, o_gt, o_ge, eq_int, ne_int, u_lenl, u_lent, u_lens, u_max, u_min, u_abs, u_tupl, u_tupt, i_int, i_bool, i_tup, i_rng1, i_lst, i_tupl, len_pic, len_row, fn_same_to_eye, hn d ok h, thr_bind]
def S_joinedB (Φ : Fns) : Prop := ∀ (R C : Nat) (fl : List Shot) (d : D), Fm R C fl → okD 40 d = true → isFilmD d = false → Φ "joined" [filmD R C fl, d] = thr "NoFilm"
theorem sp_joinedB {Φ : Fns} (h1 : S_need_film Φ) (hn : S_need_filmG Φ) (R C : Nat) (fl : List Shot) (d : D) (p : Fm R C fl) (ok : okD 40 d = true) (h : isFilmD d = false) : runFn Φ fn_joined [filmD R C fl, d] = thr "NoFilm" := by
  refine run_thr [.val (filmD R C fl), .val (d)] ?_
  try simp only [e_var, e_pk, e_cst, e_glo, e_bin, e_neg, e_not, e_cmp, e_chn, e_boo, e_ite, e_tup, e_lst, e_ix, e_slc, e_rev, e_call, e_blt, e_isi, e_comp, a_nil, a_cons, b_one, b_cons, t_nil, t_one, s_skip, s_seq, s_asg, s_own, s_frz, s_set, s_app, s_ext, s_expr, s_ret, s_ite, s_loop, M.pure_bind, M.lift_some, M.calm_pure, M.bind_assoc, asBl, List.getElem?_cons_zero, List.getElem?_cons_succ, List.set_cons_zero, List.set_cons_succ, Option.map_some, put, putAll, if_true, if_false, Bool.false_eq_true, Bool.true_eq_false, Bool.not_true, Bool.not_false, Cn.d, partD, List.map_cons, List.map_nil, Ev.wipe, o_add, o_sub, o_mull, o_mulr, o_mod, o_div, o_addt, o_addl, o_lt, o_le, o_gt, o_ge, eq_int, ne_int, u_lenl, u_lent, u_lens, u_max, u_min, u_abs, u_tupl, u_tupt, i_int, i_bool, i_tup, i_rng1, i_lst, i_tupl, len_pic, len_row, fn_joined, h1 R C fl p, hn d ok h, thr_bind]
/-! ### a def that tells, or which refusal -/
def wrapH (c : Str) (es : List Str) (h : Hd) (m : M D) : M D := fun S => match m S with
  | .ok d S' => .ok d S'
  | .ex c' S' => if es.contains c' then (if subC c' c then .ok (hdD h c') S' else .ex c' S') else .er
  | .er => .er
theorem wrap_pure {c : Str} {es : List Str} {h : Hd} {d : D} : wrapH c es h (M.pure d) = M.pure d := (rfl)
theorem wrap_thr {c c' : Str} {es : List Str} {h : Hd} (h1 : es.contains c' = true) (h2 : subC c' c = true) : wrapH c es h (thr c') = M.pure (hdD h c') := by
  funext S
  simp only [wrapH, thr, h1, h2, if_true]
  rfl
theorem run_try {Φ : Fns} {F : Fn} {ds : List D} {b : S} {c : Str} {i : Nat} {es : List Str} {h : Hd} {m : M D} (ρ0 : Env) (hb : F.body = .seq (.tryR b c i es h) .skip) (e : evS Φ b ρ0 = m.bind fun d => M.pure (.rt d, ρ0)) (h0 : startE F.N ds = ρ0 := by rfl) (hl : ds.length = F.ps.length := by rfl) :
    runFn Φ F ds = wrapH c es h m := by
  funext S
  unfold runFn
  rw [if_pos hl, h0, hb, s_seq]
  simp only [M.bind, evS, e, wrapH]
  cases m S with
  | ok d S' => rfl
  | er => rfl
  | ex c' S' =>
    simp only
    by_cases q : es.contains c' = true
    · by_cases q2 : subC c' c = true
      · simp only [q, q2, if_true]
        rfl
      · simp only [q, q2, if_true, if_false]
        rfl
    · simp only [q, if_false]
      rfl
def S_law_frames (Φ : Fns) : Prop := ∀ (R C : Nat) (fl : List Shot), Fm R C fl → Φ "_law_frames" [filmD R C fl] = M.pure (.lst ((fmV fl).map (pic R C)))
theorem sp_law_frames {Φ : Fns} (R C : Nat) (fl : List Shot) (p : Fm R C fl) : runFn Φ fn__law_frames [filmD R C fl] = M.pure (.lst ((fmV fl).map (pic R C))) := by
  refine run_go [.val (filmD R C fl), .emp, .emp, .emp] ?_
  simp only [fn__law_frames]
  refine Go.asgS (.lst []) (by try simp only [e_var, e_pk, e_cst, e_glo, e_bin, e_neg, e_not, e_cmp, e_chn, e_boo, e_ite, e_tup, e_lst, e_ix, e_slc, e_rev, e_call, e_blt, e_isi, e_comp, a_nil, a_cons, b_one, b_cons, t_nil, t_one, s_skip, s_seq, s_asg, s_own, s_frz, s_set, s_app, s_ext, s_expr, s_ret, s_ite, s_loop, M.pure_bind, M.lift_some, M.calm_pure, M.bind_assoc, asBl, List.getElem?_cons_zero, List.getElem?_cons_succ, List.set_cons_zero, List.set_cons_succ, Option.map_some, put, putAll, if_true, if_false, Bool.false_eq_true, Bool.true_eq_false, Bool.not_true, Bool.not_false, Cn.d, partD, List.map_cons, List.map_nil, Ev.wipe, o_add, o_sub, o_mull, o_mulr, o_mod, o_div, o_addt, o_addl, o_lt, o_le, o_gt, o_ge, eq_int, ne_int, u_lenl, u_lent, u_lens, u_max, u_min, u_abs, u_tupl, u_tupt, i_int, i_bool, i_tup, i_rng1, i_lst, i_tupl, len_pic, len_row]) rfl ?_; simp only [List.set_cons_succ, List.set_cons_zero]
  refine Go.forS (ds := [filmD R C fl]) (by try simp only [e_var, e_pk, e_cst, e_glo, e_bin, e_neg, e_not, e_cmp, e_chn, e_boo, e_ite, e_tup, e_lst, e_ix, e_slc, e_rev, e_call, e_blt, e_isi, e_comp, a_nil, a_cons, b_one, b_cons, t_nil, t_one, s_skip, s_seq, s_asg, s_own, s_frz, s_set, s_app, s_ext, s_expr, s_ret, s_ite, s_loop, M.pure_bind, M.lift_some, M.calm_pure, M.bind_assoc, asBl, List.getElem?_cons_zero, List.getElem?_cons_succ, List.set_cons_zero, List.set_cons_succ, Option.map_some, put, putAll, if_true, if_false, Bool.false_eq_true, Bool.true_eq_false, Bool.not_true, Bool.not_false, Cn.d, partD, List.map_cons, List.map_nil, Ev.wipe, o_add, o_sub, o_mull, o_mulr, o_mod, o_div, o_addt, o_addl, o_lt, o_le, o_gt, o_ge, eq_int, ne_int, u_lenl, u_lent, u_lens, u_max, u_min, u_abs, u_tupl, u_tupt, i_int, i_bool, i_tup, i_rng1, i_lst, i_tupl, len_pic, len_row]) i_film (fun i ρ => ∃ v2 v3, ρ = [.val (filmD R C fl), .val (.lst ((fmV (fl.take i)).map (pic R C))), v2, v3]) ⟨_, _, rfl⟩ ?_ ?_
  · rintro i x ρ hx ⟨v2, v3, rfl⟩
    rw [List.getElem?_map, Option.map_eq_some_iff] at hx
    obtain ⟨x, hx, rfl⟩ := hx
    have hm := List.mem_of_getElem? hx
    have k3 : x.2 ≤ 1000 := by have := (p.ok x hm).2.2; omega
    have hz : ((fmV (fl.take i)).map (pic R C)).length + ((List.range x.2).map fun _ => pic R C x.1).length ≤ 16777216 := by
      have h1 := fmV_len (fl := fl.take i) fun y hy => (p.ok y (List.mem_of_mem_take hy)).2.2
      have h2 := p.le
      have h3 := (p.ok x hm).2.2
      simp only [List.length_map, List.length_range]
      have : (fl.take i).length ≤ fl.length := by simp; omega
      omega
    refine ⟨_, rfl, ?_⟩
    simp only [List.set_cons_succ, List.set_cons_zero]
    have e : (fmV (fl.take (i + 1))).map (pic R C) = (fmV (fl.take i)).map (pic R C) ++ (List.range x.2).map fun _ => pic R C x.1 := by
      have : fl.take (i + 1) = fl.take i ++ [x] := by rw [List.take_add_one, hx]; rfl
      rw [this, fmV_snoc, List.map_append]
      congr 1
      apply List.ext_getElem
      · simp
      · intro j h1 h2; simp
    refine Go.asgS (.lst ((fmV (fl.take (i + 1))).map (pic R C))) (by rw [e]; try simp only [e_var, e_pk, e_cst, e_glo, e_bin, e_neg, e_not, e_cmp, e_chn, e_boo, e_ite, e_tup, e_lst, e_ix, e_slc, e_rev, e_call, e_blt, e_isi, e_comp, a_nil, a_cons, b_one, b_cons, t_nil, t_one, s_skip, s_seq, s_asg, s_own, s_frz, s_set, s_app, s_ext, s_expr, s_ret, s_ite, s_loop, M.pure_bind, M.lift_some, M.calm_pure, M.bind_assoc, asBl, List.getElem?_cons_zero, List.getElem?_cons_succ, List.set_cons_zero, List.set_cons_succ, Option.map_some, put, putAll, if_true, if_false, Bool.false_eq_true, Bool.true_eq_false, Bool.not_true, Bool.not_false, Cn.d, partD, List.map_cons, List.map_nil, Ev.wipe, o_add, o_sub, o_mull, o_mulr, o_mod, o_div, o_addt, o_addl, o_lt, o_le, o_gt, o_ge, eq_int, ne_int, u_lenl, u_lent, u_lens, u_max, u_min, u_abs, u_tupl, u_tupt, i_int, i_bool, i_tup, i_rng1, i_lst, i_tupl, len_pic, len_row, o_mulL k3, hz]) rfl ?_; simp only [List.set_cons_succ, List.set_cons_zero]
    exact Go.skipS ⟨rfl, _, _, rfl⟩
  · rintro ρ ⟨v2, v3, rfl⟩
    rw [List.take_of_length_le (by simp)]
    exact Go.retS (.lst ((fmV fl).map (pic R C))) (by try simp only [e_var, e_pk, e_cst, e_glo, e_bin, e_neg, e_not, e_cmp, e_chn, e_boo, e_ite, e_tup, e_lst, e_ix, e_slc, e_rev, e_call, e_blt, e_isi, e_comp, a_nil, a_cons, b_one, b_cons, t_nil, t_one, s_skip, s_seq, s_asg, s_own, s_frz, s_set, s_app, s_ext, s_expr, s_ret, s_ite, s_loop, M.pure_bind, M.lift_some, M.calm_pure, M.bind_assoc, asBl, List.getElem?_cons_zero, List.getElem?_cons_succ, List.set_cons_zero, List.set_cons_succ, Option.map_some, put, putAll, if_true, if_false, Bool.false_eq_true, Bool.true_eq_false, Bool.not_true, Bool.not_false, Cn.d, partD, List.map_cons, List.map_nil, Ev.wipe, o_add, o_sub, o_mull, o_mulr, o_mod, o_div, o_addt, o_addl, o_lt, o_le, o_gt, o_ge, eq_int, ne_int, u_lenl, u_lent, u_lens, u_max, u_min, u_abs, u_tupl, u_tupt, i_int, i_bool, i_tup, i_rng1, i_lst, i_tupl, len_pic, len_row]) rfl
theorem compL_nil {one : D → M (Option D)} : compL one [] = M.pure [] := (rfl)
theorem compL_cons {one : D → M (Option D)} {x : D} {xs : List D} : compL one (x :: xs) = (one x).bind fun r => (compL one xs).bind fun rest => M.pure (match r with | some y => y :: rest | none => rest) := (rfl)
theorem szD_shot {R C : Nat} {x : Shot} (h : 0 < R) : szD (s0 (shotD R C x)) = (R, C) := by
  show (rD (pic R C x.1), cD (pic R C x.1)) = _
  rw [rD_pic, cD_pic h]
theorem isFilmD_app {R C R' C' : Nat} {fl gl : List Shot} (p : Fm R C fl) (q : Fm R' C' gl) (h : ¬ (fl.length + gl.length ≤ 4 ∧ R = R' ∧ C = C')) : isFilmD (.tup (fl.map (shotD R C) ++ gl.map (shotD R' C'))) = false := by
  rw [← Bool.not_eq_true]
  intro z
  simp only [isFilmD, Bool.and_eq_true, decide_eq_true_eq, List.all_eq_true] at z
  obtain ⟨⟨⟨⟨_, _⟩, h3⟩, _⟩, h5⟩ := z
  have h3 : (fl.map (shotD R C) ++ gl.map (shotD R' C')).length ≤ 4 := h3
  simp only [List.length_append, List.length_map] at h3
  obtain ⟨x, r, rfl⟩ := p.head
  obtain ⟨y, t, rfl⟩ := q.head
  have e := h5 (shotD R' C' y) (by show shotD R' C' y ∈ _ ++ _; simp)
  rw [szD_shot q.r1] at e
  have e : (R', C') = szD (s0 (shotD R C x)) := e
  rw [szD_shot p.r1, Prod.mk.injEq] at e
  exact h ⟨h3, e.1.symm, e.2.symm⟩
theorem frames_list {R C : Nat} {fl : List Shot} : (List.range (fmV fl).length).map (fun k => pic R C (frm fl k)) = (fmV fl).map (pic R C) := by
  apply List.ext_getElem
  · simp
  · intro k h1 h2
    simp only [List.length_map] at h2
    simp only [List.getElem_map, List.getElem_range, frm, List.getElem?_eq_getElem h2, Option.getD_some]
end Ev.Vw

end
section
set_option maxRecDepth 100000
set_option maxHeartbeats 4000000
namespace Ev
open PySem PySem.Spec PyProof.Rows L2
def top (i : Nat) : Stmt := PySem.Challenge.pw_lamprows_k81_reels.main.body.getD i (.Pass ⟨0, 0, 0, 0⟩)
def fn_law : Fn := ⟨["_law_script"], ["_law_script", "_law_film_here", "_law_k", "_law_pictures", "_law_due", "_law_other", "_law_sizes", "_law_good", "_law_bad", "_law_known", "_law_way", "_law_one"], (.seq (.asg (.nm 1) (.call "_law_film" (.cons (.var 0) (.cons (.cst (.int 0)) (.cons (.cst (.int 4)) .nil))))) (.seq (.loop .rng2 (.cons (.cst (.int 1)) (.cons (.blt .len (.cons (.var 1) .nil)) .nil)) (.nm 2) (.seq (.ite (.cmp .eq (.call "_law_drawn" (.cons (.var 0) (.cons (.bin .add (.cst (.int 190)) (.var 2)) (.cons (.cst (.int 2)) .nil)))) (.cst (.int 0))) (.seq (.asg (.nm 1) (.bin .add (.bin .add (.slc (.var 1) .nil (.cons (.var 2) .nil)) (.tup (.cons (.tup (.cons (.ix (.ix (.var 1) (.bin .sub (.var 2) (.cst (.int 1)))) (.cst (.int 0))) (.cons (.ix (.ix (.var 1) (.var 2)) (.cst (.int 1))) .nil))) .nil))) (.slc (.var 1) (.cons (.bin .add (.var 2) (.cst (.int 1))) .nil) .nil))) .skip) .skip) .skip)) (.seq (.asg (.nm 3) (.call "_law_frames" (.cons (.var 1) .nil))) (.seq (.asg (.nm 4) (.lst (.cons (.blt .len (.cons (.var 3) .nil)) (.cons (.cst .non) (.cons (.cst .non) (.cons (.rev (.var 1)) (.cons (.call "_law_tight" (.cons (.var 3) .nil)) .nil))))))) (.seq (.ite (.cmp .ne (.comp .seq (.cons (.tup (.cons (.cst (.int 0)) (.cons (.cst (.int 3)) (.cons (.cst (.int 4)) .nil)))) .nil) (.nm 10) [("_law_way", 10)] .nil (.call "_law_told" (.cons (.var 10) (.cons (.var 1) (.cons (.cst .non) .nil))))) (.lst (.cons (.ix (.var 4) (.cst (.int 0))) (.cons (.ix (.var 4) (.cst (.int 3))) (.cons (.ix (.var 4) (.cst (.int 4))) .nil))))) (.seq (.ret (.cst (.bl false))) .skip) .skip) (.seq (.ite (.cmp .ne (.comp .rng1 (.cons (.blt .len (.cons (.var 3) .nil)) .nil) (.nm 2) [("_law_k", 2)] .nil (.call "_law_told" (.cons (.cst (.int 1)) (.cons (.var 1) (.cons (.var 2) .nil))))) (.var 3)) (.seq (.ret (.cst (.bl false))) .skip) .skip) (.seq (.asg (.nm 5) (.call "_law_film" (.cons (.var 0) (.cons (.cst (.int 200)) (.cons (.cst (.int 3)) .nil))))) (.seq (.asg (.nm 6) (.comp .seq (.cons (.tup (.cons (.var 1) (.cons (.var 5) .nil))) .nil) (.nm 11) [("_law_one", 11)] .nil (.tup (.cons (.blt .len (.cons (.ix (.ix (.var 11) (.cst (.int 0))) (.cst (.int 0))) .nil)) (.cons (.blt .len (.cons (.ix (.ix (.ix (.var 11) (.cst (.int 0))) (.cst (.int 0))) (.cst (.int 0))) .nil)) .nil))))) (.seq (.asg (.nm 7) (.boo true (.cons (.cmp .lt (.bin .add (.blt .len (.cons (.var 1) .nil)) (.blt .len (.cons (.var 5) .nil))) (.cst (.int 5))) (.cons (.cmp .eq (.ix (.var 6) (.cst (.int 0))) (.ix (.var 6) (.cst (.int 1)))) .nil)))) (.seq (.ite (.cmp .ne (.call "_law_told" (.cons (.cst (.int 2)) (.cons (.var 1) (.cons (.var 5) .nil)))) (.ite (.var 7) (.bin .add (.var 1) (.var 5)) (.tup (.cons (.cst (.str "refused")) (.cons (.cst (.int 0)) .nil))))) (.seq (.ret (.cst (.bl false))) .skip) .skip) (.seq (.ite (.cmp .ne (.call "_law_told" (.cons (.cst (.int 2)) (.cons (.slc (.var 1) .nil (.cons (.cst (.int 2)) .nil)) (.cons (.slc (.var 1) .nil (.cons (.cst (.int 2)) .nil)) .nil)))) (.bin .add (.slc (.var 1) .nil (.cons (.cst (.int 2)) .nil)) (.slc (.var 1) .nil (.cons (.cst (.int 2)) .nil)))) (.seq (.ret (.cst (.bl false))) .skip) .skip) (.seq (.ite (.cmp .ne (.call "_law_told" (.cons (.cst (.int 2)) (.cons (.bin .mul (.slc (.var 1) .nil (.cons (.cst (.int 1)) .nil)) (.cst (.int 2))) (.cons (.bin .mul (.slc (.var 1) .nil (.cons (.cst (.int 1)) .nil)) (.cst (.int 3))) .nil)))) (.tup (.cons (.cst (.str "refused")) (.cons (.cst (.int 0)) .nil)))) (.seq (.ret (.cst (.bl false))) .skip) .skip) (.seq (.loop .seq (.cons (.tup (.cons (.neg (.cst (.int 1))) (.cons (.blt .len (.cons (.var 3) .nil)) (.cons (.cst .non) (.cons (.cst (.bl true)) (.cons (.cst (.str "0")) .nil)))))) .nil) (.nm 8) (.seq (.ite (.cmp .ne (.call "_law_told" (.cons (.cst (.int 1)) (.cons (.var 1) (.cons (.var 8) .nil)))) (.tup (.cons (.cst (.str "refused")) (.cons (.cst (.int 1)) .nil)))) (.seq (.ret (.cst (.bl false))) .skip) .skip) .skip)) (.seq (.loop .seq (.cons (.tup (.cons (.cst .non) (.cons (.tup .nil) (.cons (.tup (.cons (.slc (.ix (.var 1) (.cst (.int 0))) .nil (.cons (.cst (.int 1)) .nil)) .nil)) (.cons (.tup (.cons (.tup (.cons (.ix (.ix (.var 1) (.cst (.int 0))) (.cst (.int 0))) (.cons (.cst (.int 0)) .nil))) .nil)) (.cons (.tup (.cons (.tup (.cons (.ix (.ix (.var 1) (.cst (.int 0))) (.cst (.int 0))) (.cons (.cst (.int 4)) .nil))) .nil)) (.cons (.blt .list (.cons (.var 1) .nil)) (.cons (.tup (.cons (.tup (.cons (.ix (.ix (.var 1) (.cst (.int 0))) (.cst (.int 0))) (.cons (.cst (.bl true)) .nil))) .nil)) .nil)))))))) .nil) (.nm 8) (.seq (.ite (.cmp .ne (.comp .rng1 (.cons (.cst (.int 5)) .nil) (.nm 10) [("_law_way", 10)] .nil (.call "_law_told" (.cons (.var 10) (.cons (.var 8) (.cons (.cst .non) .nil))))) (.bin .mul (.lst (.cons (.tup (.cons (.cst (.str "refused")) (.cons (.cst (.int 0)) .nil))) .nil)) (.cst (.int 5)))) (.seq (.ret (.cst (.bl false))) .skip) .skip) (.seq (.ite (.cmp .ne (.call "_law_told" (.cons (.cst (.int 2)) (.cons (.var 1) (.cons (.var 8) .nil)))) (.tup (.cons (.cst (.str "refused")) (.cons (.cst (.int 0)) .nil)))) (.seq (.ret (.cst (.bl false))) .skip) .skip) .skip))) (.seq (.asg (.nm 9) (.tup (.cons (.tup (.cons (.tup (.cons (.tup (.cons (.cst (.int 1)) .nil)) .nil)) (.cons (.cst (.int 3)) .nil))) (.cons (.tup (.cons (.tup (.cons (.tup (.cons (.cst (.int 1)) .nil)) .nil)) (.cons (.cst (.int 2)) .nil))) (.cons (.tup (.cons (.tup (.cons (.tup (.cons (.cst (.int 0)) .nil)) .nil)) (.cons (.cst (.int 1)) .nil))) (.cons (.tup (.cons (.tup (.cons (.tup (.cons (.cst (.int 1)) .nil)) .nil)) (.cons (.cst (.int 1)) .nil))) .nil)))))) (.seq (.ret (.boo true (.cons (.cmp .eq (.call "_law_told" (.cons (.cst (.int 4)) (.cons (.var 9) (.cons (.cst .non) .nil)))) (.var 9)) (.cons (.cmp .eq (.call "_law_told" (.cons (.cst (.int 4)) (.cons (.bin .mul (.slc (.var 9) (.cons (.cst (.int 1)) .nil) (.cons (.cst (.int 2)) .nil)) (.cst (.int 2))) (.cons (.cst .non) .nil)))) (.tup (.cons (.tup (.cons (.tup (.cons (.tup (.cons (.cst (.int 1)) .nil)) .nil)) (.cons (.cst (.int 3)) .nil))) (.cons (.tup (.cons (.tup (.cons (.tup (.cons (.cst (.int 1)) .nil)) .nil)) (.cons (.cst (.int 1)) .nil))) .nil)))) .nil)))) .skip))))))))))))))))⟩
def fn__law_tight : Fn := ⟨["_law_pictures"], ["_law_pictures", "_law_found", "_law_picture_here"], (.seq (.own 1 (.lst .nil)) (.seq (.loop .seq (.cons (.var 0) .nil) (.nm 2) (.seq (.ite (.boo true (.cons (.cmp .ne (.pk 1) (.lst .nil)) (.cons (.cmp .eq (.ix (.ix (.pk 1) (.neg (.cst (.int 1)))) (.cst (.int 0))) (.var 2)) (.cons (.cmp .lt (.ix (.ix (.pk 1) (.neg (.cst (.int 1)))) (.cst (.int 1))) (.cst (.int 3))) .nil)))) (.seq (.set 1 (.neg (.cst (.int 1))) (.tup (.cons (.var 2) (.cons (.bin .add (.ix (.ix (.pk 1) (.neg (.cst (.int 1)))) (.cst (.int 1))) (.cst (.int 1))) .nil)))) .skip) (.seq (.app 1 (.tup (.cons (.var 2) (.cons (.cst (.int 1)) .nil)))) .skip)) .skip)) (.seq (.ret (.blt .tuple (.cons (.pk 1) .nil))) .skip)))⟩
def fn__law_told : Fn := ⟨["_law_way", "_law_one", "_law_other"], ["_law_way", "_law_one", "_law_other", "_law_e"], (.seq (.tryR (.seq (.ite (.cmp .lt (.var 0) (.cst (.int 2))) (.seq (.ret (.ite (.cmp .eq (.var 0) (.cst (.int 0))) (.call "frames_in" (.cons (.var 1) .nil)) (.call "frame" (.cons (.var 1) (.cons (.var 2) .nil))))) .skip) .skip) (.seq (.ite (.cmp .eq (.var 0) (.cst (.int 2))) (.seq (.ret (.call "joined" (.cons (.var 1) (.cons (.var 2) .nil)))) .skip) .skip) (.seq (.ret (.ite (.cmp .eq (.var 0) (.cst (.int 3))) (.call "backwards" (.cons (.var 1) .nil)) (.call "tight" (.cons (.var 1) .nil)))) .skip))) "LampError" 3 ["NoFilm", "NoNumber"] (.ref "_law_refused" [["NoFilm", "NoNumber"]])) .skip)⟩
def tab : TabS := { fns := [("law", fn_law), ("_law_drawn", fn__law_drawn), ("_law_film", fn__law_film), ("_law_frames", fn__law_frames), ("_law_tight", fn__law_tight), ("_law_told", fn__law_told), ("_law_cell", fn__law_cell), ("_law_picture", fn__law_picture), ("backwards", fn_backwards), ("frame", fn_frame), ("frames_in", fn_frames_in), ("joined", fn_joined), ("tight", fn_tight), ("need_film", fn_need_film), ("is_number", fn_is_number), ("shown", fn_shown), ("is_film", fn_is_film), ("is_shot", fn_is_shot), ("size_of", fn_size_of), ("is_picture", fn_is_picture), ("are_rows", fn_are_rows)], cst := [("MOST_COLUMNS", (.int 6)), ("MOST_FRAMES", (.int 3)), ("MOST_PICTURES", (.int 4)), ("MOST_ROWS", (.int 4)), ("MOST_SHADE", (.int 4))], blt := ["ValueError", "all", "bool", "int", "isinstance", "len", "list", "max", "range", "tuple"], exs := ["NoFilm", "NoNumber"], hot := ["NoFilm", "NoNumber"], cls := ["NoFilm", "NoNumber"], hcl := ["LampError"], rfs := [("_law_refused", [["NoFilm", "NoNumber"]])] }
theorem c_law : chkB tab ⟨fn_law.N, defScope (top 34), none⟩ fn_law.body (defBody (top 34)) = true := by decide +kernel
theorem s_law : FnScope fn_law.N fn_law.ps (defScope (top 34)) := ⟨rfl, rfl, rfl, by decide +kernel, rfl, by decide +kernel, by decide +kernel⟩
theorem c__law_drawn : chkB tab ⟨fn__law_drawn.N, defScope (top 27), none⟩ fn__law_drawn.body (defBody (top 27)) = true := by decide +kernel
theorem s__law_drawn : FnScope fn__law_drawn.N fn__law_drawn.ps (defScope (top 27)) := ⟨rfl, rfl, rfl, by decide +kernel, rfl, by decide +kernel, by decide +kernel⟩
theorem c__law_film : chkB tab ⟨fn__law_film.N, defScope (top 29), none⟩ fn__law_film.body (defBody (top 29)) = true := by decide +kernel
theorem s__law_film : FnScope fn__law_film.N fn__law_film.ps (defScope (top 29)) := ⟨rfl, rfl, rfl, by decide +kernel, rfl, by decide +kernel, by decide +kernel⟩
theorem c__law_frames : chkB tab ⟨fn__law_frames.N, defScope (top 30), none⟩ fn__law_frames.body (defBody (top 30)) = true := by decide +kernel
theorem s__law_frames : FnScope fn__law_frames.N fn__law_frames.ps (defScope (top 30)) := ⟨rfl, rfl, rfl, by decide +kernel, rfl, by decide +kernel, by decide +kernel⟩
theorem c__law_tight : chkB tab ⟨fn__law_tight.N, defScope (top 31), none⟩ fn__law_tight.body (defBody (top 31)) = true := by decide +kernel
theorem s__law_tight : FnScope fn__law_tight.N fn__law_tight.ps (defScope (top 31)) := ⟨rfl, rfl, rfl, by decide +kernel, rfl, by decide +kernel, by decide +kernel⟩
theorem c__law_told : chkB tab ⟨fn__law_told.N, defScope (top 33), none⟩ fn__law_told.body (defBody (top 33)) = true := by decide +kernel
theorem s__law_told : FnScope fn__law_told.N fn__law_told.ps (defScope (top 33)) := ⟨rfl, rfl, rfl, by decide +kernel, rfl, by decide +kernel, by decide +kernel⟩
theorem c__law_cell : chkB tab ⟨fn__law_cell.N, defScope (top 26), none⟩ fn__law_cell.body (defBody (top 26)) = true := by decide +kernel
theorem s__law_cell : FnScope fn__law_cell.N fn__law_cell.ps (defScope (top 26)) := ⟨rfl, rfl, rfl, by decide +kernel, rfl, by decide +kernel, by decide +kernel⟩
theorem c__law_picture : chkB tab ⟨fn__law_picture.N, defScope (top 28), none⟩ fn__law_picture.body (defBody (top 28)) = true := by decide +kernel
theorem s__law_picture : FnScope fn__law_picture.N fn__law_picture.ps (defScope (top 28)) := ⟨rfl, rfl, rfl, by decide +kernel, rfl, by decide +kernel, by decide +kernel⟩
theorem c_backwards : chkB tab ⟨fn_backwards.N, defScope (top 23), none⟩ fn_backwards.body (defBody (top 23)) = true := by decide +kernel
theorem s_backwards : FnScope fn_backwards.N fn_backwards.ps (defScope (top 23)) := ⟨rfl, rfl, rfl, by decide +kernel, rfl, by decide +kernel, by decide +kernel⟩
theorem c_frame : chkB tab ⟨fn_frame.N, defScope (top 21), none⟩ fn_frame.body (defBody (top 21)) = true := by decide +kernel
theorem s_frame : FnScope fn_frame.N fn_frame.ps (defScope (top 21)) := ⟨rfl, rfl, rfl, by decide +kernel, rfl, by decide +kernel, by decide +kernel⟩
theorem c_frames_in : chkB tab ⟨fn_frames_in.N, defScope (top 20), none⟩ fn_frames_in.body (defBody (top 20)) = true := by decide +kernel
theorem s_frames_in : FnScope fn_frames_in.N fn_frames_in.ps (defScope (top 20)) := ⟨rfl, rfl, rfl, by decide +kernel, rfl, by decide +kernel, by decide +kernel⟩
theorem c_joined : chkB tab ⟨fn_joined.N, defScope (top 22), none⟩ fn_joined.body (defBody (top 22)) = true := by decide +kernel
theorem s_joined : FnScope fn_joined.N fn_joined.ps (defScope (top 22)) := ⟨rfl, rfl, rfl, by decide +kernel, rfl, by decide +kernel, by decide +kernel⟩
theorem c_tight : chkB tab ⟨fn_tight.N, defScope (top 24), none⟩ fn_tight.body (defBody (top 24)) = true := by decide +kernel
theorem s_tight : FnScope fn_tight.N fn_tight.ps (defScope (top 24)) := ⟨rfl, rfl, rfl, by decide +kernel, rfl, by decide +kernel, by decide +kernel⟩
theorem c_need_film : chkB tab ⟨fn_need_film.N, defScope (top 17), none⟩ fn_need_film.body (defBody (top 17)) = true := by decide +kernel
theorem s_need_film : FnScope fn_need_film.N fn_need_film.ps (defScope (top 17)) := ⟨rfl, rfl, rfl, by decide +kernel, rfl, by decide +kernel, by decide +kernel⟩
theorem c_is_number : chkB tab ⟨fn_is_number.N, defScope (top 8), none⟩ fn_is_number.body (defBody (top 8)) = true := by decide +kernel
theorem s_is_number : FnScope fn_is_number.N fn_is_number.ps (defScope (top 8)) := ⟨rfl, rfl, rfl, by decide +kernel, rfl, by decide +kernel, by decide +kernel⟩
theorem c_shown : chkB tab ⟨fn_shown.N, defScope (top 18), none⟩ fn_shown.body (defBody (top 18)) = true := by decide +kernel
theorem s_shown : FnScope fn_shown.N fn_shown.ps (defScope (top 18)) := ⟨rfl, rfl, rfl, by decide +kernel, rfl, by decide +kernel, by decide +kernel⟩
theorem c_is_film : chkB tab ⟨fn_is_film.N, defScope (top 16), none⟩ fn_is_film.body (defBody (top 16)) = true := by decide +kernel
theorem s_is_film : FnScope fn_is_film.N fn_is_film.ps (defScope (top 16)) := ⟨rfl, rfl, rfl, by decide +kernel, rfl, by decide +kernel, by decide +kernel⟩
theorem c_is_shot : chkB tab ⟨fn_is_shot.N, defScope (top 15), none⟩ fn_is_shot.body (defBody (top 15)) = true := by decide +kernel
theorem s_is_shot : FnScope fn_is_shot.N fn_is_shot.ps (defScope (top 15)) := ⟨rfl, rfl, rfl, by decide +kernel, rfl, by decide +kernel, by decide +kernel⟩
theorem c_size_of : chkB tab ⟨fn_size_of.N, defScope (top 11), none⟩ fn_size_of.body (defBody (top 11)) = true := by decide +kernel
theorem s_size_of : FnScope fn_size_of.N fn_size_of.ps (defScope (top 11)) := ⟨rfl, rfl, rfl, by decide +kernel, rfl, by decide +kernel, by decide +kernel⟩
theorem c_is_picture : chkB tab ⟨fn_is_picture.N, defScope (top 10), none⟩ fn_is_picture.body (defBody (top 10)) = true := by decide +kernel
theorem s_is_picture : FnScope fn_is_picture.N fn_is_picture.ps (defScope (top 10)) := ⟨rfl, rfl, rfl, by decide +kernel, rfl, by decide +kernel, by decide +kernel⟩
theorem c_are_rows : chkB tab ⟨fn_are_rows.N, defScope (top 9), none⟩ fn_are_rows.body (defBody (top 9)) = true := by decide +kernel
theorem s_are_rows : FnScope fn_are_rows.N fn_are_rows.ps (defScope (top 9)) := ⟨rfl, rfl, rfl, by decide +kernel, rfl, by decide +kernel, by decide +kernel⟩
theorem c__law_refused : chkRf tab.cls ⟨["_law_e", "_law_flags"], defScope (top 32), none⟩ [["NoFilm", "NoNumber"]] (defBody (top 32)) = true := by decide +kernel
theorem s__law_refused : FnScope ["_law_e", "_law_flags"] ["_law_e"] (defScope (top 32)) := ⟨rfl, rfl, rfl, by decide +kernel, rfl, by decide +kernel, by decide +kernel⟩
theorem facts {K : PySem.W.Frag} {h : Heap} {mg : Str → Option Value} (X : K.In h) (G : h.Ns mainGlobals mg) {f0 : Addr} {od0 an0 : Option Addr} {sl0 : Array (Option Value)} {oc0 kV0 dc0 pm0 cd0 ct0 : Value}
    {f1 : Addr} {od1 an1 : Option Addr} {sl1 : Array (Option Value)} {oc1 kV1 dc1 pm1 cd1 ct1 : Value}
    {f2 : Addr} {od2 an2 : Option Addr} {sl2 : Array (Option Value)} {oc2 kV2 dc2 pm2 cd2 ct2 : Value}
    {f3 : Addr} {od3 an3 : Option Addr} {sl3 : Array (Option Value)} {oc3 kV3 dc3 pm3 cd3 ct3 : Value}
    {f4 : Addr} {od4 an4 : Option Addr} {sl4 : Array (Option Value)} {oc4 kV4 dc4 pm4 cd4 ct4 : Value}
    {f5 : Addr} {od5 an5 : Option Addr} {sl5 : Array (Option Value)} {oc5 kV5 dc5 pm5 cd5 ct5 : Value}
    {f6 : Addr} {od6 an6 : Option Addr} {sl6 : Array (Option Value)} {oc6 kV6 dc6 pm6 cd6 ct6 : Value}
    {f7 : Addr} {od7 an7 : Option Addr} {sl7 : Array (Option Value)} {oc7 kV7 dc7 pm7 cd7 ct7 : Value}
    {f8 : Addr} {od8 an8 : Option Addr} {sl8 : Array (Option Value)} {oc8 kV8 dc8 pm8 cd8 ct8 : Value}
    {f9 : Addr} {od9 an9 : Option Addr} {sl9 : Array (Option Value)} {oc9 kV9 dc9 pm9 cd9 ct9 : Value}
    {f10 : Addr} {od10 an10 : Option Addr} {sl10 : Array (Option Value)} {oc10 kV10 dc10 pm10 cd10 ct10 : Value}
    {f11 : Addr} {od11 an11 : Option Addr} {sl11 : Array (Option Value)} {oc11 kV11 dc11 pm11 cd11 ct11 : Value}
    {f12 : Addr} {od12 an12 : Option Addr} {sl12 : Array (Option Value)} {oc12 kV12 dc12 pm12 cd12 ct12 : Value}
    {f13 : Addr} {od13 an13 : Option Addr} {sl13 : Array (Option Value)} {oc13 kV13 dc13 pm13 cd13 ct13 : Value}
    {f14 : Addr} {od14 an14 : Option Addr} {sl14 : Array (Option Value)} {oc14 kV14 dc14 pm14 cd14 ct14 : Value}
    {f15 : Addr} {od15 an15 : Option Addr} {sl15 : Array (Option Value)} {oc15 kV15 dc15 pm15 cd15 ct15 : Value}
    {f16 : Addr} {od16 an16 : Option Addr} {sl16 : Array (Option Value)} {oc16 kV16 dc16 pm16 cd16 ct16 : Value}
    {f17 : Addr} {od17 an17 : Option Addr} {sl17 : Array (Option Value)} {oc17 kV17 dc17 pm17 cd17 ct17 : Value}
    {f18 : Addr} {od18 an18 : Option Addr} {sl18 : Array (Option Value)} {oc18 kV18 dc18 pm18 cd18 ct18 : Value}
    {f19 : Addr} {od19 an19 : Option Addr} {sl19 : Array (Option Value)} {oc19 kV19 dc19 pm19 cd19 ct19 : Value}
    {f20 : Addr} {od20 an20 : Option Addr} {sl20 : Array (Option Value)} {oc20 kV20 dc20 pm20 cd20 ct20 : Value}
    {f21 : Addr} {od21 an21 : Option Addr} {sl21 : Array (Option Value)} {oc21 kV21 dc21 pm21 cd21 ct21 : Value}
    {t0 : Nat}
    {t1 : Nat}
    {t2 : Nat}
    {t3 : Nat}
    {t4 : Nat}
    {x0 : Addr}
    {x1 : Addr}
    {x2 : Addr}
    (a0 : PySem.W.nsIn K mainGlobals "law" = some (some (.ref f0))) (l0 : K.lookup f0 = some ⟨oc0, od0, .func (PySem.W.fnOf "law" "law" (defArgs (top 34)) (defBody (top 34)) (defScope (top 34)) .none kV0 dc0 pm0 an0 cd0 ct0), sl0⟩) (c0 : PySem.W.codeIn K cd0 "law" = true) (k0 : PySem.W.keepIn K (.ref f0) = true)
    (a1 : PySem.W.nsIn K mainGlobals "_law_drawn" = some (some (.ref f1))) (l1 : K.lookup f1 = some ⟨oc1, od1, .func (PySem.W.fnOf "_law_drawn" "_law_drawn" (defArgs (top 27)) (defBody (top 27)) (defScope (top 27)) .none kV1 dc1 pm1 an1 cd1 ct1), sl1⟩) (c1 : PySem.W.codeIn K cd1 "_law_drawn" = true) (k1 : PySem.W.keepIn K (.ref f1) = true)
    (a2 : PySem.W.nsIn K mainGlobals "_law_film" = some (some (.ref f2))) (l2 : K.lookup f2 = some ⟨oc2, od2, .func (PySem.W.fnOf "_law_film" "_law_film" (defArgs (top 29)) (defBody (top 29)) (defScope (top 29)) .none kV2 dc2 pm2 an2 cd2 ct2), sl2⟩) (c2 : PySem.W.codeIn K cd2 "_law_film" = true) (k2 : PySem.W.keepIn K (.ref f2) = true)
    (a3 : PySem.W.nsIn K mainGlobals "_law_frames" = some (some (.ref f3))) (l3 : K.lookup f3 = some ⟨oc3, od3, .func (PySem.W.fnOf "_law_frames" "_law_frames" (defArgs (top 30)) (defBody (top 30)) (defScope (top 30)) .none kV3 dc3 pm3 an3 cd3 ct3), sl3⟩) (c3 : PySem.W.codeIn K cd3 "_law_frames" = true) (k3 : PySem.W.keepIn K (.ref f3) = true)
    (a4 : PySem.W.nsIn K mainGlobals "_law_tight" = some (some (.ref f4))) (l4 : K.lookup f4 = some ⟨oc4, od4, .func (PySem.W.fnOf "_law_tight" "_law_tight" (defArgs (top 31)) (defBody (top 31)) (defScope (top 31)) .none kV4 dc4 pm4 an4 cd4 ct4), sl4⟩) (c4 : PySem.W.codeIn K cd4 "_law_tight" = true) (k4 : PySem.W.keepIn K (.ref f4) = true)
    (a5 : PySem.W.nsIn K mainGlobals "_law_told" = some (some (.ref f5))) (l5 : K.lookup f5 = some ⟨oc5, od5, .func (PySem.W.fnOf "_law_told" "_law_told" (defArgs (top 33)) (defBody (top 33)) (defScope (top 33)) .none kV5 dc5 pm5 an5 cd5 ct5), sl5⟩) (c5 : PySem.W.codeIn K cd5 "_law_told" = true) (k5 : PySem.W.keepIn K (.ref f5) = true)
    (a6 : PySem.W.nsIn K mainGlobals "_law_cell" = some (some (.ref f6))) (l6 : K.lookup f6 = some ⟨oc6, od6, .func (PySem.W.fnOf "_law_cell" "_law_cell" (defArgs (top 26)) (defBody (top 26)) (defScope (top 26)) .none kV6 dc6 pm6 an6 cd6 ct6), sl6⟩) (c6 : PySem.W.codeIn K cd6 "_law_cell" = true) (k6 : PySem.W.keepIn K (.ref f6) = true)
    (a7 : PySem.W.nsIn K mainGlobals "_law_picture" = some (some (.ref f7))) (l7 : K.lookup f7 = some ⟨oc7, od7, .func (PySem.W.fnOf "_law_picture" "_law_picture" (defArgs (top 28)) (defBody (top 28)) (defScope (top 28)) .none kV7 dc7 pm7 an7 cd7 ct7), sl7⟩) (c7 : PySem.W.codeIn K cd7 "_law_picture" = true) (k7 : PySem.W.keepIn K (.ref f7) = true)
    (a8 : PySem.W.nsIn K mainGlobals "backwards" = some (some (.ref f8))) (l8 : K.lookup f8 = some ⟨oc8, od8, .func (PySem.W.fnOf "backwards" "backwards" (defArgs (top 23)) (defBody (top 23)) (defScope (top 23)) .none kV8 dc8 pm8 an8 cd8 ct8), sl8⟩) (c8 : PySem.W.codeIn K cd8 "backwards" = true) (k8 : PySem.W.keepIn K (.ref f8) = true)
    (a9 : PySem.W.nsIn K mainGlobals "frame" = some (some (.ref f9))) (l9 : K.lookup f9 = some ⟨oc9, od9, .func (PySem.W.fnOf "frame" "frame" (defArgs (top 21)) (defBody (top 21)) (defScope (top 21)) .none kV9 dc9 pm9 an9 cd9 ct9), sl9⟩) (c9 : PySem.W.codeIn K cd9 "frame" = true) (k9 : PySem.W.keepIn K (.ref f9) = true)
    (a10 : PySem.W.nsIn K mainGlobals "frames_in" = some (some (.ref f10))) (l10 : K.lookup f10 = some ⟨oc10, od10, .func (PySem.W.fnOf "frames_in" "frames_in" (defArgs (top 20)) (defBody (top 20)) (defScope (top 20)) .none kV10 dc10 pm10 an10 cd10 ct10), sl10⟩) (c10 : PySem.W.codeIn K cd10 "frames_in" = true) (k10 : PySem.W.keepIn K (.ref f10) = true)
    (a11 : PySem.W.nsIn K mainGlobals "joined" = some (some (.ref f11))) (l11 : K.lookup f11 = some ⟨oc11, od11, .func (PySem.W.fnOf "joined" "joined" (defArgs (top 22)) (defBody (top 22)) (defScope (top 22)) .none kV11 dc11 pm11 an11 cd11 ct11), sl11⟩) (c11 : PySem.W.codeIn K cd11 "joined" = true) (k11 : PySem.W.keepIn K (.ref f11) = true)
    (a12 : PySem.W.nsIn K mainGlobals "tight" = some (some (.ref f12))) (l12 : K.lookup f12 = some ⟨oc12, od12, .func (PySem.W.fnOf "tight" "tight" (defArgs (top 24)) (defBody (top 24)) (defScope (top 24)) .none kV12 dc12 pm12 an12 cd12 ct12), sl12⟩) (c12 : PySem.W.codeIn K cd12 "tight" = true) (k12 : PySem.W.keepIn K (.ref f12) = true)
    (a13 : PySem.W.nsIn K mainGlobals "need_film" = some (some (.ref f13))) (l13 : K.lookup f13 = some ⟨oc13, od13, .func (PySem.W.fnOf "need_film" "need_film" (defArgs (top 17)) (defBody (top 17)) (defScope (top 17)) .none kV13 dc13 pm13 an13 cd13 ct13), sl13⟩) (c13 : PySem.W.codeIn K cd13 "need_film" = true) (k13 : PySem.W.keepIn K (.ref f13) = true)
    (a14 : PySem.W.nsIn K mainGlobals "is_number" = some (some (.ref f14))) (l14 : K.lookup f14 = some ⟨oc14, od14, .func (PySem.W.fnOf "is_number" "is_number" (defArgs (top 8)) (defBody (top 8)) (defScope (top 8)) .none kV14 dc14 pm14 an14 cd14 ct14), sl14⟩) (c14 : PySem.W.codeIn K cd14 "is_number" = true) (k14 : PySem.W.keepIn K (.ref f14) = true)
    (a15 : PySem.W.nsIn K mainGlobals "shown" = some (some (.ref f15))) (l15 : K.lookup f15 = some ⟨oc15, od15, .func (PySem.W.fnOf "shown" "shown" (defArgs (top 18)) (defBody (top 18)) (defScope (top 18)) .none kV15 dc15 pm15 an15 cd15 ct15), sl15⟩) (c15 : PySem.W.codeIn K cd15 "shown" = true) (k15 : PySem.W.keepIn K (.ref f15) = true)
    (a16 : PySem.W.nsIn K mainGlobals "is_film" = some (some (.ref f16))) (l16 : K.lookup f16 = some ⟨oc16, od16, .func (PySem.W.fnOf "is_film" "is_film" (defArgs (top 16)) (defBody (top 16)) (defScope (top 16)) .none kV16 dc16 pm16 an16 cd16 ct16), sl16⟩) (c16 : PySem.W.codeIn K cd16 "is_film" = true) (k16 : PySem.W.keepIn K (.ref f16) = true)
    (a17 : PySem.W.nsIn K mainGlobals "is_shot" = some (some (.ref f17))) (l17 : K.lookup f17 = some ⟨oc17, od17, .func (PySem.W.fnOf "is_shot" "is_shot" (defArgs (top 15)) (defBody (top 15)) (defScope (top 15)) .none kV17 dc17 pm17 an17 cd17 ct17), sl17⟩) (c17 : PySem.W.codeIn K cd17 "is_shot" = true) (k17 : PySem.W.keepIn K (.ref f17) = true)
    (a18 : PySem.W.nsIn K mainGlobals "size_of" = some (some (.ref f18))) (l18 : K.lookup f18 = some ⟨oc18, od18, .func (PySem.W.fnOf "size_of" "size_of" (defArgs (top 11)) (defBody (top 11)) (defScope (top 11)) .none kV18 dc18 pm18 an18 cd18 ct18), sl18⟩) (c18 : PySem.W.codeIn K cd18 "size_of" = true) (k18 : PySem.W.keepIn K (.ref f18) = true)
    (a19 : PySem.W.nsIn K mainGlobals "is_picture" = some (some (.ref f19))) (l19 : K.lookup f19 = some ⟨oc19, od19, .func (PySem.W.fnOf "is_picture" "is_picture" (defArgs (top 10)) (defBody (top 10)) (defScope (top 10)) .none kV19 dc19 pm19 an19 cd19 ct19), sl19⟩) (c19 : PySem.W.codeIn K cd19 "is_picture" = true) (k19 : PySem.W.keepIn K (.ref f19) = true)
    (a20 : PySem.W.nsIn K mainGlobals "are_rows" = some (some (.ref f20))) (l20 : K.lookup f20 = some ⟨oc20, od20, .func (PySem.W.fnOf "are_rows" "are_rows" (defArgs (top 9)) (defBody (top 9)) (defScope (top 9)) .none kV20 dc20 pm20 an20 cd20 ct20), sl20⟩) (c20 : PySem.W.codeIn K cd20 "are_rows" = true) (k20 : PySem.W.keepIn K (.ref f20) = true)
    (a21 : PySem.W.nsIn K mainGlobals "_law_refused" = some (some (.ref f21))) (l21 : K.lookup f21 = some ⟨oc21, od21, .func (PySem.W.fnOf "_law_refused" "_law_refused" (defArgs (top 32)) (defBody (top 32)) (defScope (top 32)) .none kV21 dc21 pm21 an21 cd21 ct21), sl21⟩) (c21 : PySem.W.codeIn K cd21 "_law_refused" = true) (k21 : PySem.W.keepIn K (.ref f21) = true)
    (n0 : PySem.W.nsIn K mainGlobals "MOST_COLUMNS" = some (some (.int 6 t0)))
    (n1 : PySem.W.nsIn K mainGlobals "MOST_FRAMES" = some (some (.int 3 t1)))
    (n2 : PySem.W.nsIn K mainGlobals "MOST_PICTURES" = some (some (.int 4 t2)))
    (n3 : PySem.W.nsIn K mainGlobals "MOST_ROWS" = some (some (.int 4 t3)))
    (n4 : PySem.W.nsIn K mainGlobals "MOST_SHADE" = some (some (.int 4 t4)))
    (z0 : PySem.W.nsIn K mainGlobals "ValueError" = some none)
    (z1 : PySem.W.nsIn K mainGlobals "all" = some none)
    (z2 : PySem.W.nsIn K mainGlobals "bool" = some none)
    (z3 : PySem.W.nsIn K mainGlobals "int" = some none)
    (z4 : PySem.W.nsIn K mainGlobals "isinstance" = some none)
    (z5 : PySem.W.nsIn K mainGlobals "len" = some none)
    (z6 : PySem.W.nsIn K mainGlobals "list" = some none)
    (z7 : PySem.W.nsIn K mainGlobals "max" = some none)
    (z8 : PySem.W.nsIn K mainGlobals "range" = some none)
    (z9 : PySem.W.nsIn K mainGlobals "tuple" = some none)
    (e0 : PySem.W.nsIn K mainGlobals "LampError" = some (some (.ref x0)))
    (e1 : PySem.W.nsIn K mainGlobals "NoFilm" = some (some (.ref x1)))
    (e2 : PySem.W.nsIn K mainGlobals "NoNumber" = some (some (.ref x2)))
    (gx1 : PySem.W.excIn K x1 [.type "ValueError", .type "Exception", .type "BaseException", .type "object"] "ValueError.__new__" = true) (h1 : PySem.W.keepIn K (.ref x1) = true) (i1 : PySem.W.subIn K (.ref x1) (.type "BaseException") = some true) (j1 : PySem.W.typeIn K (.ref x1) = some (.type "type"))
    (gx2 : PySem.W.excIn K x2 [.type "ValueError", .type "Exception", .type "BaseException", .type "object"] "ValueError.__new__" = true) (h2 : PySem.W.keepIn K (.ref x2) = true) (i2 : PySem.W.subIn K (.ref x2) (.type "BaseException") = some true) (j2 : PySem.W.typeIn K (.ref x2) = some (.type "type"))
    (wn : PySem.W.specialIn K (.builtin "object.__class__") "__get__" = some (some (.builtin "getset_descriptor.__get__"))) (wt : PySem.W.takesIn K (.builtin "object.__class__") = some true)
    (dk1 : PySem.W.hasDictIn K x1 = true) (ty1 : PySem.W.typeIn K (.ref x1) = some (.type "type"))
    (dk2 : PySem.W.hasDictIn K x2 = true) (ty2 : PySem.W.typeIn K (.ref x2) = some (.type "type"))
    (dk0 : PySem.W.hasDictIn K x0 = true) (ty0 : PySem.W.typeIn K (.ref x0) = some (.type "type"))
    (be0 : PySem.W.subIn K (.ref x0) (.type "BaseException") = some true)
    (u1_0 : PySem.W.findIn K (.ref x1) "__getattribute__" = some (some (.builtin "BaseException.__getattribute__")))
    (u1_1 : PySem.W.findIn K (.ref x1) "__getattr__" = some none)
    (u1_2 : PySem.W.subIn K (.ref x1) (.type "BaseException") = some true)
    (u1_3 : PySem.W.hasDictIn K x1 = true)
    (u1_4 : PySem.W.findIn K (.ref x1) "__class__" = some (some (.builtin "object.__class__")))
    (u1_5 : PySem.W.mroIn K x1 (.type "object") = some true)
    (u1_6 : PySem.W.subIn K (.ref x1) (.type "ValueError") = some true)
    (u1_7 : PySem.W.subIn K (.ref x1) (.ref x1) = some true)
    (v1_2 : PySem.W.subIn K (.ref x1) (.ref x2) = some false)
    (v1_0 : PySem.W.subIn K (.ref x1) (.ref x0) = some true)
    (u2_0 : PySem.W.findIn K (.ref x2) "__getattribute__" = some (some (.builtin "BaseException.__getattribute__")))
    (u2_1 : PySem.W.findIn K (.ref x2) "__getattr__" = some none)
    (u2_2 : PySem.W.subIn K (.ref x2) (.type "BaseException") = some true)
    (u2_3 : PySem.W.hasDictIn K x2 = true)
    (u2_4 : PySem.W.findIn K (.ref x2) "__class__" = some (some (.builtin "object.__class__")))
    (u2_5 : PySem.W.mroIn K x2 (.type "object") = some true)
    (u2_6 : PySem.W.subIn K (.ref x2) (.type "ValueError") = some true)
    (u2_7 : PySem.W.subIn K (.ref x2) (.ref x2) = some true)
    (v2_1 : PySem.W.subIn K (.ref x2) (.ref x1) = some false)
    (v2_0 : PySem.W.subIn K (.ref x2) (.ref x0) = some true) : Facts K mg tab where
  fns := fun f F hF => all_fns (R := FnTxt K mg tab) (List.forall_mem_cons.mpr ⟨⟨⟨f0, _, top 34, PySem.W.mg_of X G a0, fun_mk l0 c0 k0, fun us hl => (match us, hl with | [_], _ => by kernel_rfl), s_law, c_law⟩⟩, (List.forall_mem_cons.mpr ⟨⟨⟨f1, _, top 27, PySem.W.mg_of X G a1, fun_mk l1 c1 k1, fun us hl => (match us, hl with | [_, _, _], _ => by kernel_rfl), s__law_drawn, c__law_drawn⟩⟩, (List.forall_mem_cons.mpr ⟨⟨⟨f2, _, top 29, PySem.W.mg_of X G a2, fun_mk l2 c2 k2, fun us hl => (match us, hl with | [_, _, _], _ => by kernel_rfl), s__law_film, c__law_film⟩⟩, (List.forall_mem_cons.mpr ⟨⟨⟨f3, _, top 30, PySem.W.mg_of X G a3, fun_mk l3 c3 k3, fun us hl => (match us, hl with | [_], _ => by kernel_rfl), s__law_frames, c__law_frames⟩⟩, (List.forall_mem_cons.mpr ⟨⟨⟨f4, _, top 31, PySem.W.mg_of X G a4, fun_mk l4 c4 k4, fun us hl => (match us, hl with | [_], _ => by kernel_rfl), s__law_tight, c__law_tight⟩⟩, (List.forall_mem_cons.mpr ⟨⟨⟨f5, _, top 33, PySem.W.mg_of X G a5, fun_mk l5 c5 k5, fun us hl => (match us, hl with | [_, _, _], _ => by kernel_rfl), s__law_told, c__law_told⟩⟩, (List.forall_mem_cons.mpr ⟨⟨⟨f6, _, top 26, PySem.W.mg_of X G a6, fun_mk l6 c6 k6, fun us hl => (match us, hl with | [_, _], _ => by kernel_rfl), s__law_cell, c__law_cell⟩⟩, (List.forall_mem_cons.mpr ⟨⟨⟨f7, _, top 28, PySem.W.mg_of X G a7, fun_mk l7 c7 k7, fun us hl => (match us, hl with | [_, _, _, _], _ => by kernel_rfl), s__law_picture, c__law_picture⟩⟩, (List.forall_mem_cons.mpr ⟨⟨⟨f8, _, top 23, PySem.W.mg_of X G a8, fun_mk l8 c8 k8, fun us hl => (match us, hl with | [_], _ => by kernel_rfl), s_backwards, c_backwards⟩⟩, (List.forall_mem_cons.mpr ⟨⟨⟨f9, _, top 21, PySem.W.mg_of X G a9, fun_mk l9 c9 k9, fun us hl => (match us, hl with | [_, _], _ => by kernel_rfl), s_frame, c_frame⟩⟩, (List.forall_mem_cons.mpr ⟨⟨⟨f10, _, top 20, PySem.W.mg_of X G a10, fun_mk l10 c10 k10, fun us hl => (match us, hl with | [_], _ => by kernel_rfl), s_frames_in, c_frames_in⟩⟩, (List.forall_mem_cons.mpr ⟨⟨⟨f11, _, top 22, PySem.W.mg_of X G a11, fun_mk l11 c11 k11, fun us hl => (match us, hl with | [_, _], _ => by kernel_rfl), s_joined, c_joined⟩⟩, (List.forall_mem_cons.mpr ⟨⟨⟨f12, _, top 24, PySem.W.mg_of X G a12, fun_mk l12 c12 k12, fun us hl => (match us, hl with | [_], _ => by kernel_rfl), s_tight, c_tight⟩⟩, (List.forall_mem_cons.mpr ⟨⟨⟨f13, _, top 17, PySem.W.mg_of X G a13, fun_mk l13 c13 k13, fun us hl => (match us, hl with | [_], _ => by kernel_rfl), s_need_film, c_need_film⟩⟩, (List.forall_mem_cons.mpr ⟨⟨⟨f14, _, top 8, PySem.W.mg_of X G a14, fun_mk l14 c14 k14, fun us hl => (match us, hl with | [_, _, _], _ => by kernel_rfl), s_is_number, c_is_number⟩⟩, (List.forall_mem_cons.mpr ⟨⟨⟨f15, _, top 18, PySem.W.mg_of X G a15, fun_mk l15 c15 k15, fun us hl => (match us, hl with | [_], _ => by kernel_rfl), s_shown, c_shown⟩⟩, (List.forall_mem_cons.mpr ⟨⟨⟨f16, _, top 16, PySem.W.mg_of X G a16, fun_mk l16 c16 k16, fun us hl => (match us, hl with | [_], _ => by kernel_rfl), s_is_film, c_is_film⟩⟩, (List.forall_mem_cons.mpr ⟨⟨⟨f17, _, top 15, PySem.W.mg_of X G a17, fun_mk l17 c17 k17, fun us hl => (match us, hl with | [_], _ => by kernel_rfl), s_is_shot, c_is_shot⟩⟩, (List.forall_mem_cons.mpr ⟨⟨⟨f18, _, top 11, PySem.W.mg_of X G a18, fun_mk l18 c18 k18, fun us hl => (match us, hl with | [_], _ => by kernel_rfl), s_size_of, c_size_of⟩⟩, (List.forall_mem_cons.mpr ⟨⟨⟨f19, _, top 10, PySem.W.mg_of X G a19, fun_mk l19 c19 k19, fun us hl => (match us, hl with | [_], _ => by kernel_rfl), s_is_picture, c_is_picture⟩⟩, (List.forall_mem_cons.mpr ⟨⟨⟨f20, _, top 9, PySem.W.mg_of X G a20, fun_mk l20 c20 k20, fun us hl => (match us, hl with | [_, _], _ => by kernel_rfl), s_are_rows, c_are_rows⟩⟩, (fun _ h => (List.not_mem_nil h).elim)⟩)⟩)⟩)⟩)⟩)⟩)⟩)⟩)⟩)⟩)⟩)⟩)⟩)⟩)⟩)⟩)⟩)⟩)⟩)⟩)⟩) f F hF
  cst := fun x c hx => all_cst (R := fun x c => ∃ u v, mg x = some u ∧ RelV v u ∧ ∀ w, Rep K w c.d v) (List.forall_mem_cons.mpr ⟨⟨_, .int 6, PySem.W.mg_of X G n0, ⟨_, rfl⟩, fun w => by simp only [Cn.d, Rep]⟩, (List.forall_mem_cons.mpr ⟨⟨_, .int 3, PySem.W.mg_of X G n1, ⟨_, rfl⟩, fun w => by simp only [Cn.d, Rep]⟩, (List.forall_mem_cons.mpr ⟨⟨_, .int 4, PySem.W.mg_of X G n2, ⟨_, rfl⟩, fun w => by simp only [Cn.d, Rep]⟩, (List.forall_mem_cons.mpr ⟨⟨_, .int 4, PySem.W.mg_of X G n3, ⟨_, rfl⟩, fun w => by simp only [Cn.d, Rep]⟩, (List.forall_mem_cons.mpr ⟨⟨_, .int 4, PySem.W.mg_of X G n4, ⟨_, rfl⟩, fun w => by simp only [Cn.d, Rep]⟩, (fun _ h => (List.not_mem_nil h).elim)⟩)⟩)⟩)⟩)⟩) x c hx
  blt := (List.forall_mem_cons.mpr ⟨PySem.W.mg_none_of X G z0, (List.forall_mem_cons.mpr ⟨PySem.W.mg_none_of X G z1, (List.forall_mem_cons.mpr ⟨PySem.W.mg_none_of X G z2, (List.forall_mem_cons.mpr ⟨PySem.W.mg_none_of X G z3, (List.forall_mem_cons.mpr ⟨PySem.W.mg_none_of X G z4, (List.forall_mem_cons.mpr ⟨PySem.W.mg_none_of X G z5, (List.forall_mem_cons.mpr ⟨PySem.W.mg_none_of X G z6, (List.forall_mem_cons.mpr ⟨PySem.W.mg_none_of X G z7, (List.forall_mem_cons.mpr ⟨PySem.W.mg_none_of X G z8, (List.forall_mem_cons.mpr ⟨PySem.W.mg_none_of X G z9, (fun _ h => (List.not_mem_nil h).elim)⟩)⟩)⟩)⟩)⟩)⟩)⟩)⟩)⟩)⟩)
  exs := (List.forall_mem_cons.mpr ⟨⟨x1, _, _, _, _, PySem.W.mg_of X G e1, PySem.F.excBase_ValueError, gx1, h1, i1, j1⟩, (List.forall_mem_cons.mpr ⟨⟨x2, _, _, _, _, PySem.W.mg_of X G e2, PySem.F.excBase_ValueError, gx2, h2, i2, j2⟩, (fun _ h => (List.not_mem_nil h).elim)⟩)⟩)
  hot := (List.forall_mem_cons.mpr ⟨⟨x1, ⟨PySem.W.mg_of X G e1, ⟨u1_0, u1_1, u1_2, u1_3, u1_4, wn, wt, u1_5⟩, (List.forall_mem_cons.mpr ⟨⟨x1, PySem.W.mg_of X G e1, kit_ref dk1 ty1 u1_7 u1_7⟩, (List.forall_mem_cons.mpr ⟨⟨x2, PySem.W.mg_of X G e2, kit_ref dk2 ty2 u1_7 v1_2⟩, (fun _ h => (List.not_mem_nil h).elim)⟩)⟩), kit_ve u1_6⟩, (List.forall_mem_cons.mpr ⟨⟨x0, PySem.W.mg_of X G e0, PySem.W.exm_ref be0 dk0 ty0 v1_0⟩, (fun _ h => (List.not_mem_nil h).elim)⟩)⟩, (List.forall_mem_cons.mpr ⟨⟨x2, ⟨PySem.W.mg_of X G e2, ⟨u2_0, u2_1, u2_2, u2_3, u2_4, wn, wt, u2_5⟩, (List.forall_mem_cons.mpr ⟨⟨x1, PySem.W.mg_of X G e1, kit_ref dk1 ty1 u2_7 v2_1⟩, (List.forall_mem_cons.mpr ⟨⟨x2, PySem.W.mg_of X G e2, kit_ref dk2 ty2 u2_7 u2_7⟩, (fun _ h => (List.not_mem_nil h).elim)⟩)⟩), kit_ve u2_6⟩, (List.forall_mem_cons.mpr ⟨⟨x0, PySem.W.mg_of X G e0, PySem.W.exm_ref be0 dk0 ty0 v2_0⟩, (fun _ h => (List.not_mem_nil h).elim)⟩)⟩, (fun _ h => (List.not_mem_nil h).elim)⟩)⟩)
  rfs := fun f rows hf => all_rfs (R := fun f rows => ∃ (fa : Addr) (fd : FuncData) (st : Stmt) (x y : Str), mg f = some (.ref fa) ∧ Fun K f f st fa fd ∧ (∀ us : List Value, us.length = 1 → bindArgs fd ⟨us, []⟩ = pure ([x].zip us)) ∧ FnScope [x, y] [x] (defScope st) ∧ chkRf tab.cls ⟨[x, y], defScope st, none⟩ rows (defBody st) = true ∧ ("isinstance" : Str) ∈ tab.blt ∧ ("ValueError" : Str) ∈ tab.blt) (List.forall_mem_cons.mpr ⟨⟨f21, _, top 32, "_law_e", "_law_flags", PySem.W.mg_of X G a21, fun_mk l21 c21 k21, fun us hl => (match us, hl with | [_], _ => by kernel_rfl), s__law_refused, c__law_refused, by decide, by decide⟩, (fun _ h => (List.not_mem_nil h).elim)⟩) f rows hf
end Ev

end
section
set_option maxRecDepth 100000
set_option maxHeartbeats 4000000
namespace Ev.Vw
open PySem Ev
theorem L_is_number (n : Nat) : S_is_number (phi tab.toTab (n + 1)) := by
  unfold S_is_number
  intros
  rw [show phi tab.toTab (n + 1) "is_number" = runFn (phi tab.toTab (n + 0)) fn_is_number from lev rfl]
  apply sp_is_number  <;> assumption
theorem L_are_rows (n : Nat) : S_are_rows (phi tab.toTab (n + 2)) := by
  unfold S_are_rows
  intros
  rw [show phi tab.toTab (n + 2) "are_rows" = runFn (phi tab.toTab (n + 1)) fn_are_rows from lev rfl]
  apply sp_are_rows (L_is_number (n + 0)) <;> assumption
theorem L_is_picture (n : Nat) : S_is_picture (phi tab.toTab (n + 3)) := by
  unfold S_is_picture
  intros
  rw [show phi tab.toTab (n + 3) "is_picture" = runFn (phi tab.toTab (n + 2)) fn_is_picture from lev rfl]
  apply sp_is_picture (L_are_rows (n + 0)) <;> assumption
theorem L_is_shot (n : Nat) : S_is_shot (phi tab.toTab (n + 4)) := by
  unfold S_is_shot
  intros
  rw [show phi tab.toTab (n + 4) "is_shot" = runFn (phi tab.toTab (n + 3)) fn_is_shot from lev rfl]
  apply sp_is_shot (L_is_picture (n + 0)) (L_is_number (n + 2)) <;> assumption
theorem L_size_of (n : Nat) : S_size_of (phi tab.toTab (n + 1)) := by
  unfold S_size_of
  intros
  rw [show phi tab.toTab (n + 1) "size_of" = runFn (phi tab.toTab (n + 0)) fn_size_of from lev rfl]
  apply sp_size_of  <;> assumption
theorem L_is_film (n : Nat) : S_is_film (phi tab.toTab (n + 5)) := by
  unfold S_is_film
  intros
  rw [show phi tab.toTab (n + 5) "is_film" = runFn (phi tab.toTab (n + 4)) fn_is_film from lev rfl]
  apply sp_is_film (L_is_shot (n + 0)) (L_size_of (n + 3)) <;> assumption
theorem L_need_film (n : Nat) : S_need_film (phi tab.toTab (n + 6)) := by
  unfold S_need_film
  intros
  rw [show phi tab.toTab (n + 6) "need_film" = runFn (phi tab.toTab (n + 5)) fn_need_film from lev rfl]
  apply sp_need_film (L_is_film (n + 0)) <;> assumption
theorem L_shown (n : Nat) : S_shown (phi tab.toTab (n + 1)) := by
  unfold S_shown
  intros
  rw [show phi tab.toTab (n + 1) "shown" = runFn (phi tab.toTab (n + 0)) fn_shown from lev rfl]
  apply sp_shown  <;> assumption
theorem L_cell (n : Nat) : S_cell (phi tab.toTab (n + 1)) := by
  unfold S_cell
  intros
  rw [show phi tab.toTab (n + 1) "_law_cell" = runFn (phi tab.toTab (n + 0)) fn__law_cell from lev rfl]
  apply sp_cell  <;> assumption
theorem L_drawn (n : Nat) : S_drawn (phi tab.toTab (n + 2)) := by
  unfold S_drawn
  intros
  rw [show phi tab.toTab (n + 2) "_law_drawn" = runFn (phi tab.toTab (n + 1)) fn__law_drawn from lev rfl]
  apply sp_drawn (L_cell (n + 0)) <;> assumption
theorem L_law_picture (n : Nat) : S_law_picture (phi tab.toTab (n + 3)) := by
  unfold S_law_picture
  intros
  rw [show phi tab.toTab (n + 3) "_law_picture" = runFn (phi tab.toTab (n + 2)) fn__law_picture from lev rfl]
  apply sp_law_picture (L_drawn (n + 0)) <;> assumption
theorem L_law_film (n : Nat) : S_law_film (phi tab.toTab (n + 4)) := by
  unfold S_law_film
  intros
  rw [show phi tab.toTab (n + 4) "_law_film" = runFn (phi tab.toTab (n + 3)) fn__law_film from lev rfl]
  apply sp_law_film (L_drawn (n + 1)) (L_law_picture (n + 0)) <;> assumption
theorem L_is_numberG (n : Nat) : S_is_numberG (phi tab.toTab (n + 1)) := by
  unfold S_is_numberG
  intros
  rw [show phi tab.toTab (n + 1) "is_number" = runFn (phi tab.toTab (n + 0)) fn_is_number from lev rfl]
  apply sp_is_numberG  <;> assumption
theorem L_are_rowsG (n : Nat) : S_are_rowsG (phi tab.toTab (n + 2)) := by
  unfold S_are_rowsG
  intros
  rw [show phi tab.toTab (n + 2) "are_rows" = runFn (phi tab.toTab (n + 1)) fn_are_rows from lev rfl]
  apply sp_are_rowsG (L_is_numberG (n + 0)) <;> assumption
theorem L_is_pictureG (n : Nat) : S_is_pictureG (phi tab.toTab (n + 3)) := by
  unfold S_is_pictureG
  intros
  rw [show phi tab.toTab (n + 3) "is_picture" = runFn (phi tab.toTab (n + 2)) fn_is_picture from lev rfl]
  apply sp_is_pictureG (L_are_rowsG (n + 0)) <;> assumption
theorem L_is_shotG (n : Nat) : S_is_shotG (phi tab.toTab (n + 4)) := by
  unfold S_is_shotG
  intros
  rw [show phi tab.toTab (n + 4) "is_shot" = runFn (phi tab.toTab (n + 3)) fn_is_shot from lev rfl]
  apply sp_is_shotG (L_is_pictureG (n + 0)) (L_is_numberG (n + 2)) <;> assumption
theorem L_is_filmG (n : Nat) : S_is_filmG (phi tab.toTab (n + 5)) := by
  unfold S_is_filmG
  intros
  rw [show phi tab.toTab (n + 5) "is_film" = runFn (phi tab.toTab (n + 4)) fn_is_film from lev rfl]
  apply sp_is_filmG (L_is_shotG (n + 0)) (L_size_of (n + 3)) <;> assumption
theorem L_need_filmG (n : Nat) : S_need_filmG (phi tab.toTab (n + 6)) := by
  unfold S_need_filmG
  intros
  rw [show phi tab.toTab (n + 6) "need_film" = runFn (phi tab.toTab (n + 5)) fn_need_film from lev rfl]
  apply sp_need_filmG (L_is_filmG (n + 0)) <;> assumption
theorem L_frameX (n : Nat) : S_frameX (phi tab.toTab (n + 7)) := by
  unfold S_frameX
  intros
  rw [show phi tab.toTab (n + 7) "frame" = runFn (phi tab.toTab (n + 6)) fn_frame from lev rfl]
  apply sp_frameX (L_need_film (n + 0)) (L_shown (n + 5)) (L_is_numberG (n + 5)) <;> assumption
theorem L_joinedX (n : Nat) : S_joinedX (phi tab.toTab (n + 7)) := by
  unfold S_joinedX
  intros
  rw [show phi tab.toTab (n + 7) "joined" = runFn (phi tab.toTab (n + 6)) fn_joined from lev rfl]
  apply sp_joinedX (L_need_film (n + 0)) (L_is_filmG (n + 1)) <;> assumption
theorem L_joinedB (n : Nat) : S_joinedB (phi tab.toTab (n + 7)) := by
  unfold S_joinedB
  intros
  rw [show phi tab.toTab (n + 7) "joined" = runFn (phi tab.toTab (n + 6)) fn_joined from lev rfl]
  apply sp_joinedB (L_need_film (n + 0)) (L_need_filmG (n + 0)) <;> assumption
theorem L_tight (n : Nat) : S_tight (phi tab.toTab (n + 7)) := by
  unfold S_tight
  intros
  rw [show phi tab.toTab (n + 7) "tight" = runFn (phi tab.toTab (n + 6)) fn_tight from lev rfl]
  apply sp_tight (L_need_film (n + 0)) (L_shown (n + 5)) <;> assumption
theorem L_frames_in (n : Nat) : S_frames_in (phi tab.toTab (n + 7)) := by
  unfold S_frames_in
  intros
  rw [show phi tab.toTab (n + 7) "frames_in" = runFn (phi tab.toTab (n + 6)) fn_frames_in from lev rfl]
  apply sp_frames_in (L_need_film (n + 0)) (L_shown (n + 5)) <;> assumption
theorem L_frame (n : Nat) : S_frame (phi tab.toTab (n + 7)) := by
  unfold S_frame
  intros
  rw [show phi tab.toTab (n + 7) "frame" = runFn (phi tab.toTab (n + 6)) fn_frame from lev rfl]
  apply sp_frame (L_need_film (n + 0)) (L_shown (n + 5)) (L_is_number (n + 5)) <;> assumption
theorem L_backwards (n : Nat) : S_backwards (phi tab.toTab (n + 7)) := by
  unfold S_backwards
  intros
  rw [show phi tab.toTab (n + 7) "backwards" = runFn (phi tab.toTab (n + 6)) fn_backwards from lev rfl]
  apply sp_backwards (L_need_film (n + 0)) <;> assumption
theorem L_joined (n : Nat) : S_joined (phi tab.toTab (n + 7)) := by
  unfold S_joined
  intros
  rw [show phi tab.toTab (n + 7) "joined" = runFn (phi tab.toTab (n + 6)) fn_joined from lev rfl]
  apply sp_joined (L_need_film (n + 0)) (L_is_film (n + 1)) <;> assumption
theorem L_law_frames (n : Nat) : S_law_frames (phi tab.toTab (n + 1)) := by
  unfold S_law_frames
  intros
  rw [show phi tab.toTab (n + 1) "_law_frames" = runFn (phi tab.toTab (n + 0)) fn__law_frames from lev rfl]
  apply sp_law_frames  <;> assumption
theorem L_badF_frames_in (n : Nat) : S_badF1 "frames_in" (phi tab.toTab (n + 7)) := by
  unfold S_badF1
  intros
  rw [show phi tab.toTab (n + 7) "frames_in" = runFn (phi tab.toTab (n + 6)) fn_frames_in from lev rfl]
  apply bad_frames_in (L_need_filmG (n + 0)) <;> assumption
theorem L_badF_frame (n : Nat) : S_badF2 "frame" (phi tab.toTab (n + 7)) := by
  unfold S_badF2
  intros
  rw [show phi tab.toTab (n + 7) "frame" = runFn (phi tab.toTab (n + 6)) fn_frame from lev rfl]
  apply bad_frame (L_need_filmG (n + 0)) <;> assumption
theorem L_badF_joined (n : Nat) : S_badF2 "joined" (phi tab.toTab (n + 7)) := by
  unfold S_badF2
  intros
  rw [show phi tab.toTab (n + 7) "joined" = runFn (phi tab.toTab (n + 6)) fn_joined from lev rfl]
  apply bad_joined (L_need_filmG (n + 0)) <;> assumption
theorem L_badF_backwards (n : Nat) : S_badF1 "backwards" (phi tab.toTab (n + 7)) := by
  unfold S_badF1
  intros
  rw [show phi tab.toTab (n + 7) "backwards" = runFn (phi tab.toTab (n + 6)) fn_backwards from lev rfl]
  apply bad_backwards (L_need_filmG (n + 0)) <;> assumption
theorem L_badF_tight (n : Nat) : S_badF1 "tight" (phi tab.toTab (n + 7)) := by
  unfold S_badF1
  intros
  rw [show phi tab.toTab (n + 7) "tight" = runFn (phi tab.toTab (n + 6)) fn_tight from lev rfl]
  apply bad_tight (L_need_filmG (n + 0)) <;> assumption
theorem H_is_number : S_is_number (phi tab.toTab 9) := L_is_number 8
theorem G_is_number : S_is_number (phi tab.toTab 8) := L_is_number 7
theorem H_are_rows : S_are_rows (phi tab.toTab 9) := L_are_rows 7
theorem G_are_rows : S_are_rows (phi tab.toTab 8) := L_are_rows 6
theorem H_is_picture : S_is_picture (phi tab.toTab 9) := L_is_picture 6
theorem G_is_picture : S_is_picture (phi tab.toTab 8) := L_is_picture 5
theorem H_is_shot : S_is_shot (phi tab.toTab 9) := L_is_shot 5
theorem G_is_shot : S_is_shot (phi tab.toTab 8) := L_is_shot 4
theorem H_size_of : S_size_of (phi tab.toTab 9) := L_size_of 8
theorem G_size_of : S_size_of (phi tab.toTab 8) := L_size_of 7
theorem H_is_film : S_is_film (phi tab.toTab 9) := L_is_film 4
theorem G_is_film : S_is_film (phi tab.toTab 8) := L_is_film 3
theorem H_need_film : S_need_film (phi tab.toTab 9) := L_need_film 3
theorem G_need_film : S_need_film (phi tab.toTab 8) := L_need_film 2
theorem H_shown : S_shown (phi tab.toTab 9) := L_shown 8
theorem G_shown : S_shown (phi tab.toTab 8) := L_shown 7
theorem H_cell : S_cell (phi tab.toTab 9) := L_cell 8
theorem G_cell : S_cell (phi tab.toTab 8) := L_cell 7
theorem H_drawn : S_drawn (phi tab.toTab 9) := L_drawn 7
theorem G_drawn : S_drawn (phi tab.toTab 8) := L_drawn 6
theorem H_law_picture : S_law_picture (phi tab.toTab 9) := L_law_picture 6
theorem G_law_picture : S_law_picture (phi tab.toTab 8) := L_law_picture 5
theorem H_law_film : S_law_film (phi tab.toTab 9) := L_law_film 5
theorem G_law_film : S_law_film (phi tab.toTab 8) := L_law_film 4
theorem H_is_numberG : S_is_numberG (phi tab.toTab 9) := L_is_numberG 8
theorem G_is_numberG : S_is_numberG (phi tab.toTab 8) := L_is_numberG 7
theorem H_are_rowsG : S_are_rowsG (phi tab.toTab 9) := L_are_rowsG 7
theorem G_are_rowsG : S_are_rowsG (phi tab.toTab 8) := L_are_rowsG 6
theorem H_is_pictureG : S_is_pictureG (phi tab.toTab 9) := L_is_pictureG 6
theorem G_is_pictureG : S_is_pictureG (phi tab.toTab 8) := L_is_pictureG 5
theorem H_is_shotG : S_is_shotG (phi tab.toTab 9) := L_is_shotG 5
theorem G_is_shotG : S_is_shotG (phi tab.toTab 8) := L_is_shotG 4
theorem H_is_filmG : S_is_filmG (phi tab.toTab 9) := L_is_filmG 4
theorem G_is_filmG : S_is_filmG (phi tab.toTab 8) := L_is_filmG 3
theorem H_need_filmG : S_need_filmG (phi tab.toTab 9) := L_need_filmG 3
theorem G_need_filmG : S_need_filmG (phi tab.toTab 8) := L_need_filmG 2
theorem H_frameX : S_frameX (phi tab.toTab 9) := L_frameX 2
theorem G_frameX : S_frameX (phi tab.toTab 8) := L_frameX 1
theorem H_joinedX : S_joinedX (phi tab.toTab 9) := L_joinedX 2
theorem G_joinedX : S_joinedX (phi tab.toTab 8) := L_joinedX 1
theorem H_joinedB : S_joinedB (phi tab.toTab 9) := L_joinedB 2
theorem G_joinedB : S_joinedB (phi tab.toTab 8) := L_joinedB 1
theorem H_tight : S_tight (phi tab.toTab 9) := L_tight 2
theorem G_tight : S_tight (phi tab.toTab 8) := L_tight 1
theorem H_frames_in : S_frames_in (phi tab.toTab 9) := L_frames_in 2
theorem G_frames_in : S_frames_in (phi tab.toTab 8) := L_frames_in 1
theorem H_frame : S_frame (phi tab.toTab 9) := L_frame 2
theorem G_frame : S_frame (phi tab.toTab 8) := L_frame 1
theorem H_backwards : S_backwards (phi tab.toTab 9) := L_backwards 2
theorem G_backwards : S_backwards (phi tab.toTab 8) := L_backwards 1
theorem H_joined : S_joined (phi tab.toTab 9) := L_joined 2
theorem G_joined : S_joined (phi tab.toTab 8) := L_joined 1
theorem H_law_frames : S_law_frames (phi tab.toTab 9) := L_law_frames 8
theorem G_law_frames : S_law_frames (phi tab.toTab 8) := L_law_frames 7
theorem H_badF_frames_in : S_badF1 "frames_in" (phi tab.toTab 9) := L_badF_frames_in 2
theorem G_badF_frames_in : S_badF1 "frames_in" (phi tab.toTab 8) := L_badF_frames_in 1
theorem H_badF_frame : S_badF2 "frame" (phi tab.toTab 9) := L_badF_frame 2
theorem G_badF_frame : S_badF2 "frame" (phi tab.toTab 8) := L_badF_frame 1
theorem H_badF_joined : S_badF2 "joined" (phi tab.toTab 9) := L_badF_joined 2
theorem G_badF_joined : S_badF2 "joined" (phi tab.toTab 8) := L_badF_joined 1
theorem H_badF_backwards : S_badF1 "backwards" (phi tab.toTab 9) := L_badF_backwards 2
theorem G_badF_backwards : S_badF1 "backwards" (phi tab.toTab 8) := L_badF_backwards 1
theorem H_badF_tight : S_badF1 "tight" (phi tab.toTab 9) := L_badF_tight 2
theorem G_badF_tight : S_badF1 "tight" (phi tab.toTab 8) := L_badF_tight 1
end Ev.Vw

end
section
set_option maxRecDepth 100000
set_option maxHeartbeats 4000000
namespace Ev.Vw
open PySem Ev
abbrev W : M D → M D := wrapH "LampError" ["NoFilm", "NoNumber"] (.ref "_law_refused" [["NoFilm", "NoNumber"]])
theorem w_film : W (thr "NoFilm") = M.pure (rf 0) := by
  show wrapH _ _ _ _ = _
  rw [wrap_thr (by decide) (by decide)]
  exact congrArg M.pure (by kernel_rfl)
theorem w_num : W (thr "NoNumber") = M.pure (rf 1) := by
  show wrapH _ _ _ _ = _
  rw [wrap_thr (by decide) (by decide)]
  exact congrArg M.pure (by kernel_rfl)
theorem w_pure {d : D} : W (M.pure d) = M.pure d := (rfl)
theorem t0 {Φ : Fns} (a b : D) : runFn Φ fn__law_told [.int 0, a, b] = W (Φ "frames_in" [a]) := by
  refine run_try [.val (.int 0), .val (a), .val (b), .emp] rfl ?_
  try simp only [e_var, e_pk, e_cst, e_glo, e_bin, e_neg, e_not, e_cmp, e_chn, e_boo, e_ite, e_tup, e_lst, e_ix, e_slc, e_rev, e_call, e_blt, e_isi, e_comp, a_nil, a_cons, b_one, b_cons, t_nil, t_one, s_skip, s_seq, s_asg, s_own, s_frz, s_set, s_app, s_ext, s_expr, s_ret, s_ite, s_loop, M.pure_bind, M.lift_some, M.calm_pure, M.bind_assoc, asBl, List.getElem?_cons_zero, List.getElem?_cons_succ, List.set_cons_zero, List.set_cons_succ, Option.map_some, put, putAll, if_true, if_false, Bool.false_eq_true, Bool.true_eq_false, Bool.not_true, Bool.not_false, Cn.d, partD, List.map_cons, List.map_nil, Ev.wipe, o_add, o_sub, o_mull, o_mulr, o_mod, o_div, o_addt, o_addl, o_lt, o_le, o_gt, o_ge, eq_int, ne_int, u_lenl, u_lent, u_lens, u_max, u_min, u_abs, u_tupl, u_tupt, i_int, i_bool, i_tup, i_rng1, i_lst, i_tupl, len_pic, len_row, decide_true, decide_false, Int.reduceLT, Int.reduceLE, Int.reduceEq, Int.reduceNeg, Int.reduceAdd, Int.reduceSub, Int.reduceMul, Int.reduceNe, Bool.and_true, Bool.true_and, Bool.and_false, Bool.false_and]
theorem t1 {Φ : Fns} (a b : D) : runFn Φ fn__law_told [.int 1, a, b] = W (Φ "frame" [a, b]) := by
  refine run_try [.val (.int 1), .val (a), .val (b), .emp] rfl ?_
  try simp only [e_var, e_pk, e_cst, e_glo, e_bin, e_neg, e_not, e_cmp, e_chn, e_boo, e_ite, e_tup, e_lst, e_ix, e_slc, e_rev, e_call, e_blt, e_isi, e_comp, a_nil, a_cons, b_one, b_cons, t_nil, t_one, s_skip, s_seq, s_asg, s_own, s_frz, s_set, s_app, s_ext, s_expr, s_ret, s_ite, s_loop, M.pure_bind, M.lift_some, M.calm_pure, M.bind_assoc, asBl, List.getElem?_cons_zero, List.getElem?_cons_succ, List.set_cons_zero, List.set_cons_succ, Option.map_some, put, putAll, if_true, if_false, Bool.false_eq_true, Bool.true_eq_false, Bool.not_true, Bool.not_false, Cn.d, partD, List.map_cons, List.map_nil, Ev.wipe, o_add, o_sub, o_mull, o_mulr, o_mod, o_div, o_addt, o_addl, o_lt, o_le, o_gt, o_ge, eq_int, ne_int, u_lenl, u_lent, u_lens, u_max, u_min, u_abs, u_tupl, u_tupt, i_int, i_bool, i_tup, i_rng1, i_lst, i_tupl, len_pic, len_row, decide_true, decide_false, Int.reduceLT, Int.reduceLE, Int.reduceEq, Int.reduceNeg, Int.reduceAdd, Int.reduceSub, Int.reduceMul, Int.reduceNe, Bool.and_true, Bool.true_and, Bool.and_false, Bool.false_and]
theorem t2 {Φ : Fns} (a b : D) : runFn Φ fn__law_told [.int 2, a, b] = W (Φ "joined" [a, b]) := by
  refine run_try [.val (.int 2), .val (a), .val (b), .emp] rfl ?_
  try simp only [e_var, e_pk, e_cst, e_glo, e_bin, e_neg, e_not, e_cmp, e_chn, e_boo, e_ite, e_tup, e_lst, e_ix, e_slc, e_rev, e_call, e_blt, e_isi, e_comp, a_nil, a_cons, b_one, b_cons, t_nil, t_one, s_skip, s_seq, s_asg, s_own, s_frz, s_set, s_app, s_ext, s_expr, s_ret, s_ite, s_loop, M.pure_bind, M.lift_some, M.calm_pure, M.bind_assoc, asBl, List.getElem?_cons_zero, List.getElem?_cons_succ, List.set_cons_zero, List.set_cons_succ, Option.map_some, put, putAll, if_true, if_false, Bool.false_eq_true, Bool.true_eq_false, Bool.not_true, Bool.not_false, Cn.d, partD, List.map_cons, List.map_nil, Ev.wipe, o_add, o_sub, o_mull, o_mulr, o_mod, o_div, o_addt, o_addl, o_lt, o_le, o_gt, o_ge, eq_int, ne_int, u_lenl, u_lent, u_lens, u_max, u_min, u_abs, u_tupl, u_tupt, i_int, i_bool, i_tup, i_rng1, i_lst, i_tupl, len_pic, len_row, decide_true, decide_false, Int.reduceLT, Int.reduceLE, Int.reduceEq, Int.reduceNeg, Int.reduceAdd, Int.reduceSub, Int.reduceMul, Int.reduceNe, Bool.and_true, Bool.true_and, Bool.and_false, Bool.false_and]
theorem t3 {Φ : Fns} (a b : D) : runFn Φ fn__law_told [.int 3, a, b] = W (Φ "backwards" [a]) := by
  refine run_try [.val (.int 3), .val (a), .val (b), .emp] rfl ?_
  try simp only [e_var, e_pk, e_cst, e_glo, e_bin, e_neg, e_not, e_cmp, e_chn, e_boo, e_ite, e_tup, e_lst, e_ix, e_slc, e_rev, e_call, e_blt, e_isi, e_comp, a_nil, a_cons, b_one, b_cons, t_nil, t_one, s_skip, s_seq, s_asg, s_own, s_frz, s_set, s_app, s_ext, s_expr, s_ret, s_ite, s_loop, M.pure_bind, M.lift_some, M.calm_pure, M.bind_assoc, asBl, List.getElem?_cons_zero, List.getElem?_cons_succ, List.set_cons_zero, List.set_cons_succ, Option.map_some, put, putAll, if_true, if_false, Bool.false_eq_true, Bool.true_eq_false, Bool.not_true, Bool.not_false, Cn.d, partD, List.map_cons, List.map_nil, Ev.wipe, o_add, o_sub, o_mull, o_mulr, o_mod, o_div, o_addt, o_addl, o_lt, o_le, o_gt, o_ge, eq_int, ne_int, u_lenl, u_lent, u_lens, u_max, u_min, u_abs, u_tupl, u_tupt, i_int, i_bool, i_tup, i_rng1, i_lst, i_tupl, len_pic, len_row, decide_true, decide_false, Int.reduceLT, Int.reduceLE, Int.reduceEq, Int.reduceNeg, Int.reduceAdd, Int.reduceSub, Int.reduceMul, Int.reduceNe, Bool.and_true, Bool.true_and, Bool.and_false, Bool.false_and]
theorem t4 {Φ : Fns} (a b : D) : runFn Φ fn__law_told [.int 4, a, b] = W (Φ "tight" [a]) := by
  refine run_try [.val (.int 4), .val (a), .val (b), .emp] rfl ?_
  try simp only [e_var, e_pk, e_cst, e_glo, e_bin, e_neg, e_not, e_cmp, e_chn, e_boo, e_ite, e_tup, e_lst, e_ix, e_slc, e_rev, e_call, e_blt, e_isi, e_comp, a_nil, a_cons, b_one, b_cons, t_nil, t_one, s_skip, s_seq, s_asg, s_own, s_frz, s_set, s_app, s_ext, s_expr, s_ret, s_ite, s_loop, M.pure_bind, M.lift_some, M.calm_pure, M.bind_assoc, asBl, List.getElem?_cons_zero, List.getElem?_cons_succ, List.set_cons_zero, List.set_cons_succ, Option.map_some, put, putAll, if_true, if_false, Bool.false_eq_true, Bool.true_eq_false, Bool.not_true, Bool.not_false, Cn.d, partD, List.map_cons, List.map_nil, Ev.wipe, o_add, o_sub, o_mull, o_mulr, o_mod, o_div, o_addt, o_addl, o_lt, o_le, o_gt, o_ge, eq_int, ne_int, u_lenl, u_lent, u_lens, u_max, u_min, u_abs, u_tupl, u_tupt, i_int, i_bool, i_tup, i_rng1, i_lst, i_tupl, len_pic, len_row, decide_true, decide_false, Int.reduceLT, Int.reduceLE, Int.reduceEq, Int.reduceNeg, Int.reduceAdd, Int.reduceSub, Int.reduceMul, Int.reduceNe, Bool.and_true, Bool.true_and, Bool.and_false, Bool.false_and]
theorem sp_law_tight {Φ : Fns} (l : List D) (ok : ∀ x ∈ l, okD 40 x = true) (hl : l.length ≤ 1000) : runFn Φ fn__law_tight [.lst l] = M.pure (.tup ((tightP l).map sh2)) := by
  refine run_go [.val (.lst l), .emp, .emp] ?_
  simp only [fn__law_tight]
  refine Go.ownS [] (by try simp only [e_var, e_pk, e_cst, e_glo, e_bin, e_neg, e_not, e_cmp, e_chn, e_boo, e_ite, e_tup, e_lst, e_ix, e_slc, e_rev, e_call, e_blt, e_isi, e_comp, a_nil, a_cons, b_one, b_cons, t_nil, t_one, s_skip, s_seq, s_asg, s_own, s_frz, s_set, s_app, s_ext, s_expr, s_ret, s_ite, s_loop, M.pure_bind, M.lift_some, M.calm_pure, M.bind_assoc, asBl, List.getElem?_cons_zero, List.getElem?_cons_succ, List.set_cons_zero, List.set_cons_succ, Option.map_some, put, putAll, if_true, if_false, Bool.false_eq_true, Bool.true_eq_false, Bool.not_true, Bool.not_false, Cn.d, partD, List.map_cons, List.map_nil, Ev.wipe, o_add, o_sub, o_mull, o_mulr, o_mod, o_div, o_addt, o_addl, o_lt, o_le, o_gt, o_ge, eq_int, ne_int, u_lenl, u_lent, u_lens, u_max, u_min, u_abs, u_tupl, u_tupt, i_int, i_bool, i_tup, i_rng1, i_lst, i_tupl, len_pic, len_row]) ?_; simp only [List.set_cons_succ, List.set_cons_zero]
  refine Go.forS (ds := [.lst l]) (items := l) (by try simp only [e_var, e_pk, e_cst, e_glo, e_bin, e_neg, e_not, e_cmp, e_chn, e_boo, e_ite, e_tup, e_lst, e_ix, e_slc, e_rev, e_call, e_blt, e_isi, e_comp, a_nil, a_cons, b_one, b_cons, t_nil, t_one, s_skip, s_seq, s_asg, s_own, s_frz, s_set, s_app, s_ext, s_expr, s_ret, s_ite, s_loop, M.pure_bind, M.lift_some, M.calm_pure, M.bind_assoc, asBl, List.getElem?_cons_zero, List.getElem?_cons_succ, List.set_cons_zero, List.set_cons_succ, Option.map_some, put, putAll, if_true, if_false, Bool.false_eq_true, Bool.true_eq_false, Bool.not_true, Bool.not_false, Cn.d, partD, List.map_cons, List.map_nil, Ev.wipe, o_add, o_sub, o_mull, o_mulr, o_mod, o_div, o_addt, o_addl, o_lt, o_le, o_gt, o_ge, eq_int, ne_int, u_lenl, u_lent, u_lens, u_max, u_min, u_abs, u_tupl, u_tupt, i_int, i_bool, i_tup, i_rng1, i_lst, i_tupl, len_pic, len_row]) rfl (fun i ρ => ∃ v2, ρ = [.val (.lst l), .own ((tightP (l.take i)).map sh2), v2]) ⟨_, rfl⟩ ?_ ?_
  · rintro i x ρ hx ⟨v2, rfl⟩
    refine ⟨_, rfl, ?_⟩
    simp only [List.set_cons_succ, List.set_cons_zero]
    have tk := tight_ok (l := l.take i) (n := 40) fun y hy => ok y (List.mem_of_mem_take hy)
    have t2 : (tightP (l.take i)).length ≤ 1000 := by have := tk.2; simp at this; omega
    refine Go.imp (go_tight (m3 := .cst (.int 3)) (fun ρ => by try simp only [e_var, e_pk, e_cst, e_glo, e_bin, e_neg, e_not, e_cmp, e_chn, e_boo, e_ite, e_tup, e_lst, e_ix, e_slc, e_rev, e_call, e_blt, e_isi, e_comp, a_nil, a_cons, b_one, b_cons, t_nil, t_one, s_skip, s_seq, s_asg, s_own, s_frz, s_set, s_app, s_ext, s_expr, s_ret, s_ite, s_loop, M.pure_bind, M.lift_some, M.calm_pure, M.bind_assoc, asBl, List.getElem?_cons_zero, List.getElem?_cons_succ, List.set_cons_zero, List.set_cons_succ, Option.map_some, put, putAll, if_true, if_false, Bool.false_eq_true, Bool.true_eq_false, Bool.not_true, Bool.not_false, Cn.d, partD, List.map_cons, List.map_nil, Ev.wipe, o_add, o_sub, o_mull, o_mulr, o_mod, o_div, o_addt, o_addl, o_lt, o_le, o_gt, o_ge, eq_int, ne_int, u_lenl, u_lent, u_lens, u_max, u_min, u_abs, u_tupl, u_tupt, i_int, i_bool, i_tup, i_rng1, i_lst, i_tupl, len_pic, len_row]) tk.1 (ok x (List.mem_of_getElem? hx)) t2) fun r hr => ⟨hr.1, ?_⟩
    rw [hr.2, tight_inv hx]
    exact ⟨_, rfl⟩
  · rintro ρ ⟨v2, rfl⟩
    rw [List.take_of_length_le (Nat.le_refl _)]
    exact Go.retS _ (by try simp only [e_var, e_pk, e_cst, e_glo, e_bin, e_neg, e_not, e_cmp, e_chn, e_boo, e_ite, e_tup, e_lst, e_ix, e_slc, e_rev, e_call, e_blt, e_isi, e_comp, a_nil, a_cons, b_one, b_cons, t_nil, t_one, s_skip, s_seq, s_asg, s_own, s_frz, s_set, s_app, s_ext, s_expr, s_ret, s_ite, s_loop, M.pure_bind, M.lift_some, M.calm_pure, M.bind_assoc, asBl, List.getElem?_cons_zero, List.getElem?_cons_succ, List.set_cons_zero, List.set_cons_succ, Option.map_some, put, putAll, if_true, if_false, Bool.false_eq_true, Bool.true_eq_false, Bool.not_true, Bool.not_false, Cn.d, partD, List.map_cons, List.map_nil, Ev.wipe, o_add, o_sub, o_mull, o_mulr, o_mod, o_div, o_addt, o_addl, o_lt, o_le, o_gt, o_ge, eq_int, ne_int, u_lenl, u_lent, u_lens, u_max, u_min, u_abs, u_tupl, u_tupt, i_int, i_bool, i_tup, i_rng1, i_lst, i_tupl, len_pic, len_row]; first | done | exact rfl) rfl
def known : D := .tup [.tup [.tup [.tup [.int 1]], .int 3], .tup [.tup [.tup [.int 1]], .int 2], .tup [.tup [.tup [.int 0]], .int 1], .tup [.tup [.tup [.int 1]], .int 1]]
theorem sp_law {Φ : Fns} (hd : S_drawn Φ) (hfm : S_law_film Φ) (hfr : S_law_frames Φ)
    (hti : ∀ l : List D, (∀ x ∈ l, okD 40 x = true) → l.length ≤ 1000 → Φ "_law_tight" [.lst l] = M.pure (.tup ((tightP l).map sh2)))
    (h0 : ∀ (R C : Nat) (fl : List Shot) (e : D), Fm R C fl → Φ "_law_told" [.int 0, filmD R C fl, e] = M.pure (.int ((fmV fl).length : Nat)))
    (h1 : ∀ (R C : Nat) (fl : List Shot) (k : Nat), Fm R C fl → k < (fmV fl).length → Φ "_law_told" [.int 1, filmD R C fl, .int k] = M.pure (pic R C (frm fl k)))
    (h1x : ∀ (R C : Nat) (fl : List Shot) (d : D), Fm R C fl → okD 40 d = true → isNumD 0 (((fmV fl).length : Nat) - 1) d = false → Φ "_law_told" [.int 1, filmD R C fl, d] = M.pure (rf 1))
    (h2 : ∀ (R C : Nat) (fl gl : List Shot), Fm R C fl → Fm R C gl → fl.length + gl.length ≤ 4 → Φ "_law_told" [.int 2, filmD R C fl, filmD R C gl] = M.pure (filmD R C (fl ++ gl)))
    (h2x : ∀ (R C R' C' : Nat) (fl gl : List Shot), Fm R C fl → Fm R' C' gl → isFilmD (.tup (fl.map (shotD R C) ++ gl.map (shotD R' C'))) = false → Φ "_law_told" [.int 2, filmD R C fl, filmD R' C' gl] = M.pure (rf 0))
    (h2b : ∀ (R C : Nat) (fl : List Shot) (d : D), Fm R C fl → okD 40 d = true → isFilmD d = false → Φ "_law_told" [.int 2, filmD R C fl, d] = M.pure (rf 0))
    (h3 : ∀ (R C : Nat) (fl : List Shot) (e : D), Fm R C fl → Φ "_law_told" [.int 3, filmD R C fl, e] = M.pure (filmD R C fl.reverse))
    (h4 : ∀ (R C : Nat) (fl : List Shot) (e : D), Fm R C fl → Φ "_law_told" [.int 4, filmD R C fl, e] = M.pure (.tup ((tightP ((fmV fl).map (pic R C))).map sh2)))
    (hb : ∀ (w : Nat) (d e : D), w < 5 → okD 40 d = true → isFilmD d = false → Φ "_law_told" [.int w, d, e] = M.pure (rf 0))
    (hk1 : Φ "_law_told" [.int 4, known, .non] = M.pure known)
    (hk2 : Φ "_law_told" [.int 4, .tup [.tup [.tup [.tup [.int 1]], .int 2], .tup [.tup [.tup [.int 1]], .int 2]], .non] = M.pure (.tup [.tup [.tup [.tup [.int 1]], .int 3], .tup [.tup [.tup [.int 1]], .int 1]]))
    (ns : List Int) (h : ns.length ≤ 63) : runFn Φ fn_law [.scr ns] = M.pure (.bl true) := by
  refine run_go [.val (.scr ns), .emp, .emp, .emp, .emp, .emp, .emp, .emp, .emp, .emp, .emp, .emp] ?_
  have a1 : Φ "_law_film" [.scr ns, .int 0, .int 4] = _ := hfm ns 0 4 h (by decide) (by decide)
  have a2 : Φ "_law_film" [.scr ns, .int 200, .int 3] = _ := hfm ns 200 3 h (by decide) (by decide)
  have p0 : Fm (filmR ns 0) (filmC ns 0) (filmV ns 0 4) := fm_law (by decide) (by decide)
  have p2 : Fm (filmR ns 200) (filmC ns 200) (filmV ns 200 3) := fm_law (by decide) (by decide)
  generalize filmR ns 0 = R at *
  generalize filmC ns 0 = C at *
  generalize filmV ns 0 4 = fl0 at *
  generalize filmR ns 200 = R2 at *
  generalize filmC ns 200 = C2 at *
  generalize filmV ns 200 3 = gl at *
  simp only [fn_law]
  refine Go.asgS _ (by try simp only [e_var, e_pk, e_cst, e_glo, e_bin, e_neg, e_not, e_cmp, e_chn, e_boo, e_ite, e_tup, e_lst, e_ix, e_slc, e_rev, e_call, e_blt, e_isi, e_comp, a_nil, a_cons, b_one, b_cons, t_nil, t_one, s_skip, s_seq, s_asg, s_own, s_frz, s_set, s_app, s_ext, s_expr, s_ret, s_ite, s_loop, M.pure_bind, M.lift_some, M.calm_pure, M.bind_assoc, asBl, List.getElem?_cons_zero, List.getElem?_cons_succ, List.set_cons_zero, List.set_cons_succ, Option.map_some, put, putAll, if_true, if_false, Bool.false_eq_true, Bool.true_eq_false, Bool.not_true, Bool.not_false, Cn.d, partD, List.map_cons, List.map_nil, Ev.wipe, o_add, o_sub, o_mull, o_mulr, o_mod, o_div, o_addt, o_addl, o_lt, o_le, o_gt, o_ge, eq_int, ne_int, u_lenl, u_lent, u_lens, u_max, u_min, u_abs, u_tupl, u_tupt, i_int, i_bool, i_tup, i_rng1, i_lst, i_tupl, len_pic, len_row, a1]; first | done | exact rfl) rfl ?_; simp only [List.set_cons_succ, List.set_cons_zero]
  -- alike pictures beside one another
  refine Go.forS (ds := [.int 1, .int (fl0.length : Nat)]) (items := rng 1 (fl0.length : Nat)) (by try simp only [e_var, e_pk, e_cst, e_glo, e_bin, e_neg, e_not, e_cmp, e_chn, e_boo, e_ite, e_tup, e_lst, e_ix, e_slc, e_rev, e_call, e_blt, e_isi, e_comp, a_nil, a_cons, b_one, b_cons, t_nil, t_one, s_skip, s_seq, s_asg, s_own, s_frz, s_set, s_app, s_ext, s_expr, s_ret, s_ite, s_loop, M.pure_bind, M.lift_some, M.calm_pure, M.bind_assoc, asBl, List.getElem?_cons_zero, List.getElem?_cons_succ, List.set_cons_zero, List.set_cons_succ, Option.map_some, put, putAll, if_true, if_false, Bool.false_eq_true, Bool.true_eq_false, Bool.not_true, Bool.not_false, Cn.d, partD, List.map_cons, List.map_nil, Ev.wipe, o_add, o_sub, o_mull, o_mulr, o_mod, o_div, o_addt, o_addl, o_lt, o_le, o_gt, o_ge, eq_int, ne_int, u_lenl, u_lent, u_lens, u_max, u_min, u_abs, u_tupl, u_tupt, i_int, i_bool, i_tup, i_rng1, i_lst, i_tupl, len_pic, len_row, len_film]) ?_
    (fun i ρ => ∃ fl v2, Fm R C fl ∧ fl.length = fl0.length ∧ ρ = [.val (.scr ns), .val (filmD R C fl), v2, .emp, .emp, .emp, .emp, .emp, .emp, .emp, .emp, .emp]) ⟨fl0, _, p0, rfl, rfl⟩ ?_ ?_
  · have := p0.le
    show (if (fl0.length : Int) ≤ 8388608 ∧ -8388608 ≤ (fl0.length : Int) ∧ (1 : Int) ≤ 8388608 ∧ -8388608 ≤ (1 : Int) then some (rng 1 (fl0.length : Nat)) else none) = _
    rw [if_pos (by omega)]
  · rintro i x ρ hx ⟨fl, v2, p, hl, rfl⟩
    obtain ⟨k, k1, k2, rfl⟩ : ∃ k : Nat, 1 ≤ k ∧ k < fl.length ∧ x = .int (k : Nat) := by
      unfold rng at hx
      rw [List.getElem?_map, Option.map_eq_some_iff] at hx
      obtain ⟨j, hj, rfl⟩ := hx
      have := (List.getElem?_eq_some_iff.mp hj).1
      rw [List.getElem?_range (by simpa using this)] at hj
      cases hj
      refine ⟨1 + i, by omega, ?_, ?_⟩
      · simp only [List.length_range] at this
        omega
      · rfl
    refine ⟨_, rfl, ?_⟩
    simp only [List.set_cons_succ, List.set_cons_zero]
    have e1 := hd ns (190 + k) 2 h (by decide)
    have e2 : ((190 + k : Nat) : Int) = 190 + (k : Int) := by omega
    rw [e2] at e1
    have e1 : Φ "_law_drawn" [.scr ns, .int (190 + (k : Int)), .int 2] = _ := e1
    by_cases z : ((drawV ns (190 + k) 2 : Nat) : Int) = 0
    rotate_left
    · refine Go.if2 (by try simp only [e_var, e_pk, e_cst, e_glo, e_bin, e_neg, e_not, e_cmp, e_chn, e_boo, e_ite, e_tup, e_lst, e_ix, e_slc, e_rev, e_call, e_blt, e_isi, e_comp, a_nil, a_cons, b_one, b_cons, t_nil, t_one, s_skip, s_seq, s_asg, s_own, s_frz, s_set, s_app, s_ext, s_expr, s_ret, s_ite, s_loop, M.pure_bind, M.lift_some, M.calm_pure, M.bind_assoc, asBl, List.getElem?_cons_zero, List.getElem?_cons_succ, List.set_cons_zero, List.set_cons_succ, Option.map_some, put, putAll, if_true, if_false, Bool.false_eq_true, Bool.true_eq_false, Bool.not_true, Bool.not_false, Cn.d, partD, List.map_cons, List.map_nil, Ev.wipe, o_add, o_sub, o_mull, o_mulr, o_mod, o_div, o_addt, o_addl, o_lt, o_le, o_gt, o_ge, eq_int, ne_int, u_lenl, u_lent, u_lens, u_max, u_min, u_abs, u_tupl, u_tupt, i_int, i_bool, i_tup, i_rng1, i_lst, i_tupl, len_pic, len_row, e1, z, decide_false]) (Go.skip1 (Go.skipS ⟨rfl, fl, _, p, hl, rfl⟩))
    refine Go.if1 (by try simp only [e_var, e_pk, e_cst, e_glo, e_bin, e_neg, e_not, e_cmp, e_chn, e_boo, e_ite, e_tup, e_lst, e_ix, e_slc, e_rev, e_call, e_blt, e_isi, e_comp, a_nil, a_cons, b_one, b_cons, t_nil, t_one, s_skip, s_seq, s_asg, s_own, s_frz, s_set, s_app, s_ext, s_expr, s_ret, s_ite, s_loop, M.pure_bind, M.lift_some, M.calm_pure, M.bind_assoc, asBl, List.getElem?_cons_zero, List.getElem?_cons_succ, List.set_cons_zero, List.set_cons_succ, Option.map_some, put, putAll, if_true, if_false, Bool.false_eq_true, Bool.true_eq_false, Bool.not_true, Bool.not_false, Cn.d, partD, List.map_cons, List.map_nil, Ev.wipe, o_add, o_sub, o_mull, o_mulr, o_mod, o_div, o_addt, o_addl, o_lt, o_le, o_gt, o_ge, eq_int, ne_int, u_lenl, u_lent, u_lens, u_max, u_min, u_abs, u_tupl, u_tupt, i_int, i_bool, i_tup, i_rng1, i_lst, i_tupl, len_pic, len_row, e1, z, decide_true]) (Go.assoc ?_)
    have x1 : ixD (filmD R C fl) (.int ((k : Int) - 1)) = some (shotD R C (fl[k - 1]'(by omega))) := by
      rw [show (k : Int) - 1 = ((k - 1 : Nat) : Int) by omega]
      unfold filmD
      rw [ixT (by rw [List.length_map]; omega), List.getD, List.getElem?_map, List.getElem?_eq_getElem (by omega)]
      rfl
    have x2 : ixD (filmD R C fl) (.int (k : Nat)) = some (shotD R C (fl[k]'k2)) := by
      unfold filmD
      rw [ixT (by rw [List.length_map]; omega), List.getD, List.getElem?_map, List.getElem?_eq_getElem (by omega)]
      rfl
    have c1 : slcD (filmD R C fl) none (some (k : Int)) = some (.tup ((fl.take k).map (shotD R C))) := by
      show some (D.tup (cut _ _ _)) = _
      unfold cut sIx
      simp only [List.length_map]
      rw [if_neg (by omega)]
      simp only [Int.toNat_natCast, List.drop_zero, Nat.sub_zero, ← List.map_take]
      rw [show min k fl.length = k by omega]
    have c2 : slcD (filmD R C fl) (some ((k : Int) + 1)) none = some (.tup ((fl.drop (k + 1)).map (shotD R C))) := by
      show some (D.tup (cut _ _ _)) = _
      unfold cut sIx
      simp only [List.length_map]
      rw [if_neg (by omega), show ((k : Int) + 1).toNat = k + 1 by omega, show min (k + 1) fl.length = k + 1 by omega, ← List.map_drop, List.take_of_length_le (by simp)]
    have nf : Fm R C (fl.take k ++ [((fl[k - 1]'(by omega)).1, (fl[k]'k2).2)] ++ fl.drop (k + 1)) := by
      refine ⟨p.r1, p.r4, p.c1, p.c6, by simp; omega, by have := p.le; simp; omega, fun y hy => ?_⟩
      rcases List.mem_append.mp hy with hy | hy
      · rcases List.mem_append.mp hy with hy | hy
        · exact p.ok y (List.mem_of_mem_take hy)
        · simp only [List.mem_cons, List.not_mem_nil, or_false] at hy
          subst hy
          exact ⟨(p.ok _ (List.getElem_mem (by omega : k - 1 < fl.length))).1, (p.ok _ (List.getElem_mem k2)).2⟩
      · exact p.ok y (List.mem_of_mem_drop hy)
    refine Go.asgS (filmD R C (fl.take k ++ [((fl[k - 1]'(by omega)).1, (fl[k]'k2).2)] ++ fl.drop (k + 1))) ?_ rfl ?_
    · have := p.le
      have y1 : ∀ a : Shot, ixD (shotD R C a) (.int 0) = some (pic R C a.1) := fun _ => rfl
      have y2 : ∀ a : Shot, ixD (shotD R C a) (.int 1) = some (.int (a.2 : Nat)) := fun _ => rfl
      have z1 : ∀ d : D, bop .add (.tup ((fl.take k).map (shotD R C))) (.tup [d]) = some (.tup ((fl.take k).map (shotD R C) ++ [d])) := fun d => o_addt (by simp; omega)
      have z2 : ∀ d : D, bop .add (.tup ((fl.take k).map (shotD R C) ++ [d])) (.tup ((fl.drop (k + 1)).map (shotD R C))) = some (.tup ((fl.take k).map (shotD R C) ++ [d] ++ (fl.drop (k + 1)).map (shotD R C))) := fun d => o_addt (by simp; omega)
      try simp only [e_var, e_pk, e_cst, e_glo, e_bin, e_neg, e_not, e_cmp, e_chn, e_boo, e_ite, e_tup, e_lst, e_ix, e_slc, e_rev, e_call, e_blt, e_isi, e_comp, a_nil, a_cons, b_one, b_cons, t_nil, t_one, s_skip, s_seq, s_asg, s_own, s_frz, s_set, s_app, s_ext, s_expr, s_ret, s_ite, s_loop, M.pure_bind, M.lift_some, M.calm_pure, M.bind_assoc, asBl, List.getElem?_cons_zero, List.getElem?_cons_succ, List.set_cons_zero, List.set_cons_succ, Option.map_some, put, putAll, if_true, if_false, Bool.false_eq_true, Bool.true_eq_false, Bool.not_true, Bool.not_false, Cn.d, partD, List.map_cons, List.map_nil, Ev.wipe, o_add, o_sub, o_mull, o_mulr, o_mod, o_div, o_addt, o_addl, o_lt, o_le, o_gt, o_ge, eq_int, ne_int, u_lenl, u_lent, u_lens, u_max, u_min, u_abs, u_tupl, u_tupt, i_int, i_bool, i_tup, i_rng1, i_lst, i_tupl, len_pic, len_row, x1, x2, c1, c2, y1, y2, z1, z2]
      refine congrArg M.pure ?_
      simp only [filmD, List.map_append, List.map_cons, List.map_nil]
      rfl
    · simp only [List.set_cons_succ, List.set_cons_zero]
      refine Go.skip1 (Go.skipS ⟨rfl, _, _, nf, ?_, rfl⟩)
      simp
      omega
  rintro ρ ⟨fl, v2, p, hl, rfl⟩
  clear p0 hl a1
  obtain ⟨x0, r0, hx0⟩ := p.head
  obtain ⟨y0, q0, hy0⟩ := p2.head
  have xf : ixD (filmD R C fl) (.int 0) = some (shotD R C x0) := by rw [hx0]; exact ix_film0
  have xg : ixD (filmD R2 C2 gl) (.int 0) = some (shotD R2 C2 y0) := by rw [hy0]; exact ix_film0
  have xr : ∀ (R C : Nat) (f : Nat → Nat → Int), 0 < R → ixD (pic R C f) (.int 0) = some (rowD C (f 0)) := fun R C f hR => ix_pic (r := 0) hR
  have len := p.len
  obtain ⟨l, hll⟩ : ∃ l, (fmV fl).map (pic R C) = l := ⟨_, rfl⟩
  have ll : l.length = (fmV fl).length := by rw [← hll, List.length_map]
  have okl : ∀ x ∈ l, okD 40 x = true := fun x hx => by
    rw [← hll] at hx
    obtain ⟨f, _, rfl⟩ := List.mem_map.mp hx
    exact okD_pic
  have f1 := hfr R C fl p
  have g4 := h4 R C fl .non p
  rw [hll] at f1 g4
  have t1 := hti l okl (by omega)
  obtain ⟨T, hT⟩ : ∃ T, D.tup ((tightP l).map sh2) = T := ⟨_, rfl⟩
  have okT : okD 43 T = true := by
    rw [← hT]
    simp only [okD]
    refine List.all_eq_true.mpr fun x hx => ?_
    obtain ⟨y, hy, rfl⟩ := List.mem_map.mp hx
    simp only [sh2, okD, List.all_cons, List.all_nil, Bool.and_true]
    exact okD_mono ((tight_ok okl).1 y hy) (by omega)
  rw [hT] at t1 g4
  have okF : ∀ gl, okD 40 (filmD R C gl) = true := fun gl => okD_film (n := 34)
  have rv : revD (filmD R C fl) = some (filmD R C fl.reverse) := by simp [filmD, revD]
  have lenL : blt .len [.lst l] = some (.int ((fmV fl).length : Nat)) := by rw [u_lenl, ll]
  refine Go.asgS _ (by try simp only [e_var, e_pk, e_cst, e_glo, e_bin, e_neg, e_not, e_cmp, e_chn, e_boo, e_ite, e_tup, e_lst, e_ix, e_slc, e_rev, e_call, e_blt, e_isi, e_comp, a_nil, a_cons, b_one, b_cons, t_nil, t_one, s_skip, s_seq, s_asg, s_own, s_frz, s_set, s_app, s_ext, s_expr, s_ret, s_ite, s_loop, M.pure_bind, M.lift_some, M.calm_pure, M.bind_assoc, asBl, List.getElem?_cons_zero, List.getElem?_cons_succ, List.set_cons_zero, List.set_cons_succ, Option.map_some, put, putAll, if_true, if_false, Bool.false_eq_true, Bool.true_eq_false, Bool.not_true, Bool.not_false, Cn.d, partD, List.map_cons, List.map_nil, Ev.wipe, o_add, o_sub, o_mull, o_mulr, o_mod, o_div, o_addt, o_addl, o_lt, o_le, o_gt, o_ge, eq_int, ne_int, u_lenl, u_lent, u_lens, u_max, u_min, u_abs, u_tupl, u_tupt, i_int, i_bool, i_tup, i_rng1, i_lst, i_tupl, len_pic, len_row, f1]; first | done | exact rfl) rfl ?_; simp only [List.set_cons_succ, List.set_cons_zero]
  refine Go.asgS _ (by try simp only [e_var, e_pk, e_cst, e_glo, e_bin, e_neg, e_not, e_cmp, e_chn, e_boo, e_ite, e_tup, e_lst, e_ix, e_slc, e_rev, e_call, e_blt, e_isi, e_comp, a_nil, a_cons, b_one, b_cons, t_nil, t_one, s_skip, s_seq, s_asg, s_own, s_frz, s_set, s_app, s_ext, s_expr, s_ret, s_ite, s_loop, M.pure_bind, M.lift_some, M.calm_pure, M.bind_assoc, asBl, List.getElem?_cons_zero, List.getElem?_cons_succ, List.set_cons_zero, List.set_cons_succ, Option.map_some, put, putAll, if_true, if_false, Bool.false_eq_true, Bool.true_eq_false, Bool.not_true, Bool.not_false, Cn.d, partD, List.map_cons, List.map_nil, Ev.wipe, o_add, o_sub, o_mull, o_mulr, o_mod, o_div, o_addt, o_addl, o_lt, o_le, o_gt, o_ge, eq_int, ne_int, u_lenl, u_lent, u_lens, u_max, u_min, u_abs, u_tupl, u_tupt, i_int, i_bool, i_tup, i_rng1, i_lst, i_tupl, len_pic, len_row, lenL, rv, t1]; first | done | exact rfl) rfl ?_; simp only [List.set_cons_succ, List.set_cons_zero]
  have d0 : ∀ a b c d e : D, ixD (.lst [a, b, c, d, e]) (.int 0) = some a := fun _ _ _ _ _ => rfl
  have d3 : ∀ a b c d e : D, ixD (.lst [a, b, c, d, e]) (.int 3) = some d := fun _ _ _ _ _ => rfl
  have d4 : ∀ a b c d e : D, ixD (.lst [a, b, c, d, e]) (.int 4) = some e := fun _ _ _ _ _ => rfl
  have g0 := h0 R C fl .non p
  have g3 := h3 R C fl .non p
  have ne3 : cop .ne (.lst [.int ((fmV fl).length : Nat), filmD R C fl.reverse, T]) (.lst [.int ((fmV fl).length : Nat), filmD R C fl.reverse, T]) = some false := ne_refl (by
    simp only [okD, List.all_cons, List.all_nil, Bool.and_true, Bool.true_and, Bool.and_eq_true]
    exact ⟨okD_mono (okF _) (by omega), okD_mono okT (by omega)⟩)
  refine Go.if0 (by try simp only [e_var, e_pk, e_cst, e_glo, e_bin, e_neg, e_not, e_cmp, e_chn, e_boo, e_ite, e_tup, e_lst, e_ix, e_slc, e_rev, e_call, e_blt, e_isi, e_comp, a_nil, a_cons, b_one, b_cons, t_nil, t_one, s_skip, s_seq, s_asg, s_own, s_frz, s_set, s_app, s_ext, s_expr, s_ret, s_ite, s_loop, M.pure_bind, M.lift_some, M.calm_pure, M.bind_assoc, asBl, List.getElem?_cons_zero, List.getElem?_cons_succ, List.set_cons_zero, List.set_cons_succ, Option.map_some, put, putAll, if_true, if_false, Bool.false_eq_true, Bool.true_eq_false, Bool.not_true, Bool.not_false, Cn.d, partD, List.map_cons, List.map_nil, Ev.wipe, o_add, o_sub, o_mull, o_mulr, o_mod, o_div, o_addt, o_addl, o_lt, o_le, o_gt, o_ge, eq_int, ne_int, u_lenl, u_lent, u_lens, u_max, u_min, u_abs, u_tupl, u_tupt, i_int, i_bool, i_tup, i_rng1, i_lst, i_tupl, len_pic, len_row, compL_nil, compL_cons, oneC, g0, g3, g4, d0, d3, d4, ne3]) ?_
  refine Go.if0 ?_ ?_
  · rw [e_cmp, comp_eqR (n := (fmV fl).length) (ds := [.int ((fmV fl).length : Nat)]) (emb := fun k => .int (k : Nat)) (fun k => pic R C (frm fl k)) (by try simp only [e_var, e_pk, e_cst, e_glo, e_bin, e_neg, e_not, e_cmp, e_chn, e_boo, e_ite, e_tup, e_lst, e_ix, e_slc, e_rev, e_call, e_blt, e_isi, e_comp, a_nil, a_cons, b_one, b_cons, t_nil, t_one, s_skip, s_seq, s_asg, s_own, s_frz, s_set, s_app, s_ext, s_expr, s_ret, s_ite, s_loop, M.pure_bind, M.lift_some, M.calm_pure, M.bind_assoc, asBl, List.getElem?_cons_zero, List.getElem?_cons_succ, List.set_cons_zero, List.set_cons_succ, Option.map_some, put, putAll, if_true, if_false, Bool.false_eq_true, Bool.true_eq_false, Bool.not_true, Bool.not_false, Cn.d, partD, List.map_cons, List.map_nil, Ev.wipe, o_add, o_sub, o_mull, o_mulr, o_mod, o_div, o_addt, o_addl, o_lt, o_le, o_gt, o_ge, eq_int, ne_int, u_lenl, u_lent, u_lens, u_max, u_min, u_abs, u_tupl, u_tupt, i_int, i_bool, i_tup, i_rng1, i_lst, i_tupl, len_pic, len_row, lenL]) (i_rng1 (n := (fmV fl).length) (by omega)) (fun k hk => by
      unfold oneC
      try simp only [e_var, e_pk, e_cst, e_glo, e_bin, e_neg, e_not, e_cmp, e_chn, e_boo, e_ite, e_tup, e_lst, e_ix, e_slc, e_rev, e_call, e_blt, e_isi, e_comp, a_nil, a_cons, b_one, b_cons, t_nil, t_one, s_skip, s_seq, s_asg, s_own, s_frz, s_set, s_app, s_ext, s_expr, s_ret, s_ite, s_loop, M.pure_bind, M.lift_some, M.calm_pure, M.bind_assoc, asBl, List.getElem?_cons_zero, List.getElem?_cons_succ, List.set_cons_zero, List.set_cons_succ, Option.map_some, put, putAll, if_true, if_false, Bool.false_eq_true, Bool.true_eq_false, Bool.not_true, Bool.not_false, Cn.d, partD, List.map_cons, List.map_nil, Ev.wipe, o_add, o_sub, o_mull, o_mulr, o_mod, o_div, o_addt, o_addl, o_lt, o_le, o_gt, o_ge, eq_int, ne_int, u_lenl, u_lent, u_lens, u_max, u_min, u_abs, u_tupl, u_tupt, i_int, i_bool, i_tup, i_rng1, i_lst, i_tupl, len_pic, len_row, h1 R C fl k p hk]
      exact .pure rfl), frames_list, hll]
    have : cop .ne (.lst l) (.lst l) = some false := ne_refl (by
      simp only [okD]
      exact List.all_eq_true.mpr fun x hx => okD_mono (okl x hx) (by omega))
    try simp only [e_var, e_pk, e_cst, e_glo, e_bin, e_neg, e_not, e_cmp, e_chn, e_boo, e_ite, e_tup, e_lst, e_ix, e_slc, e_rev, e_call, e_blt, e_isi, e_comp, a_nil, a_cons, b_one, b_cons, t_nil, t_one, s_skip, s_seq, s_asg, s_own, s_frz, s_set, s_app, s_ext, s_expr, s_ret, s_ite, s_loop, M.pure_bind, M.lift_some, M.calm_pure, M.bind_assoc, asBl, List.getElem?_cons_zero, List.getElem?_cons_succ, List.set_cons_zero, List.set_cons_succ, Option.map_some, put, putAll, if_true, if_false, Bool.false_eq_true, Bool.true_eq_false, Bool.not_true, Bool.not_false, Cn.d, partD, List.map_cons, List.map_nil, Ev.wipe, o_add, o_sub, o_mull, o_mulr, o_mod, o_div, o_addt, o_addl, o_lt, o_le, o_gt, o_ge, eq_int, ne_int, u_lenl, u_lent, u_lens, u_max, u_min, u_abs, u_tupl, u_tupt, i_int, i_bool, i_tup, i_rng1, i_lst, i_tupl, len_pic, len_row, this]
  refine Go.asgS _ (by try simp only [e_var, e_pk, e_cst, e_glo, e_bin, e_neg, e_not, e_cmp, e_chn, e_boo, e_ite, e_tup, e_lst, e_ix, e_slc, e_rev, e_call, e_blt, e_isi, e_comp, a_nil, a_cons, b_one, b_cons, t_nil, t_one, s_skip, s_seq, s_asg, s_own, s_frz, s_set, s_app, s_ext, s_expr, s_ret, s_ite, s_loop, M.pure_bind, M.lift_some, M.calm_pure, M.bind_assoc, asBl, List.getElem?_cons_zero, List.getElem?_cons_succ, List.set_cons_zero, List.set_cons_succ, Option.map_some, put, putAll, if_true, if_false, Bool.false_eq_true, Bool.true_eq_false, Bool.not_true, Bool.not_false, Cn.d, partD, List.map_cons, List.map_nil, Ev.wipe, o_add, o_sub, o_mull, o_mulr, o_mod, o_div, o_addt, o_addl, o_lt, o_le, o_gt, o_ge, eq_int, ne_int, u_lenl, u_lent, u_lens, u_max, u_min, u_abs, u_tupl, u_tupt, i_int, i_bool, i_tup, i_rng1, i_lst, i_tupl, len_pic, len_row, a2]; first | done | exact rfl) rfl ?_; simp only [List.set_cons_succ, List.set_cons_zero]
  refine Go.asgS _ (by try simp only [e_var, e_pk, e_cst, e_glo, e_bin, e_neg, e_not, e_cmp, e_chn, e_boo, e_ite, e_tup, e_lst, e_ix, e_slc, e_rev, e_call, e_blt, e_isi, e_comp, a_nil, a_cons, b_one, b_cons, t_nil, t_one, s_skip, s_seq, s_asg, s_own, s_frz, s_set, s_app, s_ext, s_expr, s_ret, s_ite, s_loop, M.pure_bind, M.lift_some, M.calm_pure, M.bind_assoc, asBl, List.getElem?_cons_zero, List.getElem?_cons_succ, List.set_cons_zero, List.set_cons_succ, Option.map_some, put, putAll, if_true, if_false, Bool.false_eq_true, Bool.true_eq_false, Bool.not_true, Bool.not_false, Cn.d, partD, List.map_cons, List.map_nil, Ev.wipe, o_add, o_sub, o_mull, o_mulr, o_mod, o_div, o_addt, o_addl, o_lt, o_le, o_gt, o_ge, eq_int, ne_int, u_lenl, u_lent, u_lens, u_max, u_min, u_abs, u_tupl, u_tupt, i_int, i_bool, i_tup, i_rng1, i_lst, i_tupl, len_pic, len_row, compL_nil, compL_cons, oneC, xf, xg, ix_shot0, xr R C _ p.r1, xr R2 C2 _ p2.r1]; first | done | exact rfl) rfl ?_; simp only [List.set_cons_succ, List.set_cons_zero]
  have e01 : ∀ a b : D, ixD (.lst [a, b]) (.int 0) = some a := fun _ _ => rfl
  have e02 : ∀ a b : D, ixD (.lst [a, b]) (.int 1) = some b := fun _ _ => rfl
  have eqs : cop .eq (.tup [.int (R : Nat), .int (C : Nat)]) (.tup [.int (R2 : Nat), .int (C2 : Nat)]) = some (decide (R = R2 ∧ C = C2)) := by
    simp only [cop, eqD, okD, List.all_cons, List.all_nil, Bool.and_self, if_true, eqv, eqvL, Bool.and_true, Option.some.injEq]
    rw [Bool.eq_iff_iff]
    simp only [Bool.and_eq_true, beq_iff_eq, decide_eq_true_eq]
    omega
  have ple := p.le
  have p2le := p2.le
  refine Go.asgS (.bl (decide (fl.length + gl.length ≤ 4 ∧ R = R2 ∧ C = C2))) ?_ rfl ?_
  · by_cases z : (fl.length : Int) + (gl.length : Int) < 5
    · have z2 : fl.length + gl.length ≤ 4 := by omega
      try simp only [e_var, e_pk, e_cst, e_glo, e_bin, e_neg, e_not, e_cmp, e_chn, e_boo, e_ite, e_tup, e_lst, e_ix, e_slc, e_rev, e_call, e_blt, e_isi, e_comp, a_nil, a_cons, b_one, b_cons, t_nil, t_one, s_skip, s_seq, s_asg, s_own, s_frz, s_set, s_app, s_ext, s_expr, s_ret, s_ite, s_loop, M.pure_bind, M.lift_some, M.calm_pure, M.bind_assoc, asBl, List.getElem?_cons_zero, List.getElem?_cons_succ, List.set_cons_zero, List.set_cons_succ, Option.map_some, put, putAll, if_true, if_false, Bool.false_eq_true, Bool.true_eq_false, Bool.not_true, Bool.not_false, Cn.d, partD, List.map_cons, List.map_nil, Ev.wipe, o_add, o_sub, o_mull, o_mulr, o_mod, o_div, o_addt, o_addl, o_lt, o_le, o_gt, o_ge, eq_int, ne_int, u_lenl, u_lent, u_lens, u_max, u_min, u_abs, u_tupl, u_tupt, i_int, i_bool, i_tup, i_rng1, i_lst, i_tupl, len_pic, len_row, len_film, z, decide_true, e01, e02, eqs, z2, true_and]
    · have z2 : ¬ (fl.length + gl.length ≤ 4) := by omega
      try simp only [e_var, e_pk, e_cst, e_glo, e_bin, e_neg, e_not, e_cmp, e_chn, e_boo, e_ite, e_tup, e_lst, e_ix, e_slc, e_rev, e_call, e_blt, e_isi, e_comp, a_nil, a_cons, b_one, b_cons, t_nil, t_one, s_skip, s_seq, s_asg, s_own, s_frz, s_set, s_app, s_ext, s_expr, s_ret, s_ite, s_loop, M.pure_bind, M.lift_some, M.calm_pure, M.bind_assoc, asBl, List.getElem?_cons_zero, List.getElem?_cons_succ, List.set_cons_zero, List.set_cons_succ, Option.map_some, put, putAll, if_true, if_false, Bool.false_eq_true, Bool.true_eq_false, Bool.not_true, Bool.not_false, Cn.d, partD, List.map_cons, List.map_nil, Ev.wipe, o_add, o_sub, o_mull, o_mulr, o_mod, o_div, o_addt, o_addl, o_lt, o_le, o_gt, o_ge, eq_int, ne_int, u_lenl, u_lent, u_lens, u_max, u_min, u_abs, u_tupl, u_tupt, i_int, i_bool, i_tup, i_rng1, i_lst, i_tupl, len_pic, len_row, len_film, z, decide_false, z2, false_and]
  simp only [List.set_cons_succ, List.set_cons_zero]
  have ad := addF (R := R) (C := C) (R' := R2) (C' := C2) (fl := fl) (gl := gl) (by omega) (by omega)
  refine Go.if0 ?_ ?_
  · by_cases z : fl.length + gl.length ≤ 4 ∧ R = R2 ∧ C = C2
    · obtain ⟨z1, rfl, rfl⟩ := z
      have k2 := h2 R C fl gl p p2 z1
      have n2 : cop .ne (filmD R C (fl ++ gl)) (.tup (fl.map (shotD R C) ++ gl.map (shotD R C))) = some false := by
        rw [← List.map_append]
        exact ne_refl (okD_mono (okF (fl ++ gl)) (by omega))
      try simp only [e_var, e_pk, e_cst, e_glo, e_bin, e_neg, e_not, e_cmp, e_chn, e_boo, e_ite, e_tup, e_lst, e_ix, e_slc, e_rev, e_call, e_blt, e_isi, e_comp, a_nil, a_cons, b_one, b_cons, t_nil, t_one, s_skip, s_seq, s_asg, s_own, s_frz, s_set, s_app, s_ext, s_expr, s_ret, s_ite, s_loop, M.pure_bind, M.lift_some, M.calm_pure, M.bind_assoc, asBl, List.getElem?_cons_zero, List.getElem?_cons_succ, List.set_cons_zero, List.set_cons_succ, Option.map_some, put, putAll, if_true, if_false, Bool.false_eq_true, Bool.true_eq_false, Bool.not_true, Bool.not_false, Cn.d, partD, List.map_cons, List.map_nil, Ev.wipe, o_add, o_sub, o_mull, o_mulr, o_mod, o_div, o_addt, o_addl, o_lt, o_le, o_gt, o_ge, eq_int, ne_int, u_lenl, u_lent, u_lens, u_max, u_min, u_abs, u_tupl, u_tupt, i_int, i_bool, i_tup, i_rng1, i_lst, i_tupl, len_pic, len_row, k2, z1, and_self, decide_true, ad, n2]
    · have k2 := h2x R C R2 C2 fl gl p p2 (isFilmD_app p p2 z)
      try simp only [e_var, e_pk, e_cst, e_glo, e_bin, e_neg, e_not, e_cmp, e_chn, e_boo, e_ite, e_tup, e_lst, e_ix, e_slc, e_rev, e_call, e_blt, e_isi, e_comp, a_nil, a_cons, b_one, b_cons, t_nil, t_one, s_skip, s_seq, s_asg, s_own, s_frz, s_set, s_app, s_ext, s_expr, s_ret, s_ite, s_loop, M.pure_bind, M.lift_some, M.calm_pure, M.bind_assoc, asBl, List.getElem?_cons_zero, List.getElem?_cons_succ, List.set_cons_zero, List.set_cons_succ, Option.map_some, put, putAll, if_true, if_false, Bool.false_eq_true, Bool.true_eq_false, Bool.not_true, Bool.not_false, Cn.d, partD, List.map_cons, List.map_nil, Ev.wipe, o_add, o_sub, o_mull, o_mulr, o_mod, o_div, o_addt, o_addl, o_lt, o_le, o_gt, o_ge, eq_int, ne_int, u_lenl, u_lent, u_lens, u_max, u_min, u_abs, u_tupl, u_tupt, i_int, i_bool, i_tup, i_rng1, i_lst, i_tupl, len_pic, len_row, k2, z, decide_false, show D.tup [.str "refused", .int 0] = rf 0 from rfl, ne_refl (d := rf 0) okD_rf]
  have sub : ∀ k, 1 ≤ k → Fm R C (fl.take k) := fun k hk => ⟨p.r1, p.r4, p.c1, p.c6, by have := p.ne; simp; omega, by simp; omega, fun x hx => p.ok x (List.mem_of_mem_take hx)⟩
  have sl : ∀ k : Nat, slcD (filmD R C fl) none (some (k : Int)) = some (filmD R C (fl.take k)) := fun k => by
    show some (D.tup (cut _ _ _)) = _
    unfold cut sIx filmD
    simp only [List.length_map]
    rw [if_neg (by omega)]
    simp only [Int.toNat_natCast, List.drop_zero, Nat.sub_zero, ← List.map_take]
    by_cases z : k ≤ fl.length
    · rw [Nat.min_eq_left z]
    · rw [Nat.min_eq_right (by omega), List.take_of_length_le (Nat.le_refl _), List.take_of_length_le (by omega)]
  have sl2 : slcD (filmD R C fl) none (some 2) = some (filmD R C (fl.take 2)) := sl 2
  have sl1 : slcD (filmD R C fl) none (some 1) = some (filmD R C (fl.take 1)) := sl 1
  have k22 := h2 R C _ _ (sub 2 (by decide)) (sub 2 (by decide)) (by simp; omega)
  have ad2 := addF (R := R) (C := C) (R' := R) (C' := C) (fl := fl.take 2) (gl := fl.take 2) (by simp; omega) (by simp; omega)
  have n22 : cop .ne (filmD R C (fl.take 2 ++ fl.take 2)) (.tup ((fl.take 2).map (shotD R C) ++ (fl.take 2).map (shotD R C))) = some false := by
    rw [← List.map_append]
    exact ne_refl (okD_mono (okF _) (by omega))
  refine Go.if0 (by try simp only [e_var, e_pk, e_cst, e_glo, e_bin, e_neg, e_not, e_cmp, e_chn, e_boo, e_ite, e_tup, e_lst, e_ix, e_slc, e_rev, e_call, e_blt, e_isi, e_comp, a_nil, a_cons, b_one, b_cons, t_nil, t_one, s_skip, s_seq, s_asg, s_own, s_frz, s_set, s_app, s_ext, s_expr, s_ret, s_ite, s_loop, M.pure_bind, M.lift_some, M.calm_pure, M.bind_assoc, asBl, List.getElem?_cons_zero, List.getElem?_cons_succ, List.set_cons_zero, List.set_cons_succ, Option.map_some, put, putAll, if_true, if_false, Bool.false_eq_true, Bool.true_eq_false, Bool.not_true, Bool.not_false, Cn.d, partD, List.map_cons, List.map_nil, Ev.wipe, o_add, o_sub, o_mull, o_mulr, o_mod, o_div, o_addt, o_addl, o_lt, o_le, o_gt, o_ge, eq_int, ne_int, u_lenl, u_lent, u_lens, u_max, u_min, u_abs, u_tupl, u_tupt, i_int, i_bool, i_tup, i_rng1, i_lst, i_tupl, len_pic, len_row, sl2, k22, ad2, n22]) ?_
  have t1s : fl.take 1 = [x0] := by rw [hx0]; rfl
  have m2 : bop .mul (filmD R C (fl.take 1)) (.int 2) = some (filmD R C [x0, x0]) := by rw [t1s]; rfl
  have m3 : bop .mul (filmD R C (fl.take 1)) (.int 3) = some (filmD R C [x0, x0, x0]) := by rw [t1s]; rfl
  have fx : ∀ k : Nat, 1 ≤ k → k ≤ 4 → Fm R C (List.replicate k x0) := fun k h1 h4 => ⟨p.r1, p.r4, p.c1, p.c6, by simpa using h1, by simpa using h4, fun x hx => by rw [(List.mem_replicate.mp hx).2]; exact p.ok x0 (by rw [hx0]; exact List.mem_cons_self)⟩
  have k23 := h2x R C R C [x0, x0] [x0, x0, x0] (fx 2 (by decide) (by decide)) (fx 3 (by decide) (by decide)) (isFilmD_app (fx 2 (by decide) (by decide)) (fx 3 (by decide) (by decide)) (by simp))
  refine Go.if0 (by try simp only [e_var, e_pk, e_cst, e_glo, e_bin, e_neg, e_not, e_cmp, e_chn, e_boo, e_ite, e_tup, e_lst, e_ix, e_slc, e_rev, e_call, e_blt, e_isi, e_comp, a_nil, a_cons, b_one, b_cons, t_nil, t_one, s_skip, s_seq, s_asg, s_own, s_frz, s_set, s_app, s_ext, s_expr, s_ret, s_ite, s_loop, M.pure_bind, M.lift_some, M.calm_pure, M.bind_assoc, asBl, List.getElem?_cons_zero, List.getElem?_cons_succ, List.set_cons_zero, List.set_cons_succ, Option.map_some, put, putAll, if_true, if_false, Bool.false_eq_true, Bool.true_eq_false, Bool.not_true, Bool.not_false, Cn.d, partD, List.map_cons, List.map_nil, Ev.wipe, o_add, o_sub, o_mull, o_mulr, o_mod, o_div, o_addt, o_addl, o_lt, o_le, o_gt, o_ge, eq_int, ne_int, u_lenl, u_lent, u_lens, u_max, u_min, u_abs, u_tupl, u_tupt, i_int, i_bool, i_tup, i_rng1, i_lst, i_tupl, len_pic, len_row, sl1, m2, m3, k23, show D.tup [.str "refused", .int 0] = rf 0 from rfl, ne_refl (d := rf 0) okD_rf]) ?_
  -- numbers that are none
  refine Go.forM (ds := [.tup [.int (-1), .int ((fmV fl).length : Nat), .non, .bl true, .str "0"]]) (fun x => okD 40 x = true ∧ isNumD 0 (((fmV fl).length : Nat) - 1) x = false) (by try simp only [e_var, e_pk, e_cst, e_glo, e_bin, e_neg, e_not, e_cmp, e_chn, e_boo, e_ite, e_tup, e_lst, e_ix, e_slc, e_rev, e_call, e_blt, e_isi, e_comp, a_nil, a_cons, b_one, b_cons, t_nil, t_one, s_skip, s_seq, s_asg, s_own, s_frz, s_set, s_app, s_ext, s_expr, s_ret, s_ite, s_loop, M.pure_bind, M.lift_some, M.calm_pure, M.bind_assoc, asBl, List.getElem?_cons_zero, List.getElem?_cons_succ, List.set_cons_zero, List.set_cons_succ, Option.map_some, put, putAll, if_true, if_false, Bool.false_eq_true, Bool.true_eq_false, Bool.not_true, Bool.not_false, Cn.d, partD, List.map_cons, List.map_nil, Ev.wipe, o_add, o_sub, o_mull, o_mulr, o_mod, o_div, o_addt, o_addl, o_lt, o_le, o_gt, o_ge, eq_int, ne_int, u_lenl, u_lent, u_lens, u_max, u_min, u_abs, u_tupl, u_tupt, i_int, i_bool, i_tup, i_rng1, i_lst, i_tupl, len_pic, len_row, lenL]) rfl ?okn (fun ρ => ∃ v5 v6 v7 v8, ρ = [.val (.scr ns), .val (filmD R C fl), v2, .val (.lst l), .val (.lst [.int ((fmV fl).length : Nat), .non, .non, filmD R C fl.reverse, T]), v5, v6, v7, v8, .emp, .emp, .emp]) ⟨_, _, _, _, rfl⟩ ?stn ?fin
  case okn =>
    intro x hx
    simp only [List.mem_cons, List.not_mem_nil, or_false] at hx
    rcases hx with rfl | rfl | rfl | rfl | rfl
    · exact ⟨rfl, by simp [isNumD]⟩
    · exact ⟨rfl, by simp [isNumD]; omega⟩
    · exact ⟨rfl, rfl⟩
    · exact ⟨rfl, rfl⟩
    · exact ⟨by decide +kernel, rfl⟩
  case stn =>
    rintro x ρ ⟨okx, nx⟩ ⟨v5, v6, v7, v8, rfl⟩
    refine ⟨_, rfl, ?_⟩
    simp only [List.set_cons_succ, List.set_cons_zero]
    refine Go.if0 (by try simp only [e_var, e_pk, e_cst, e_glo, e_bin, e_neg, e_not, e_cmp, e_chn, e_boo, e_ite, e_tup, e_lst, e_ix, e_slc, e_rev, e_call, e_blt, e_isi, e_comp, a_nil, a_cons, b_one, b_cons, t_nil, t_one, s_skip, s_seq, s_asg, s_own, s_frz, s_set, s_app, s_ext, s_expr, s_ret, s_ite, s_loop, M.pure_bind, M.lift_some, M.calm_pure, M.bind_assoc, asBl, List.getElem?_cons_zero, List.getElem?_cons_succ, List.set_cons_zero, List.set_cons_succ, Option.map_some, put, putAll, if_true, if_false, Bool.false_eq_true, Bool.true_eq_false, Bool.not_true, Bool.not_false, Cn.d, partD, List.map_cons, List.map_nil, Ev.wipe, o_add, o_sub, o_mull, o_mulr, o_mod, o_div, o_addt, o_addl, o_lt, o_le, o_gt, o_ge, eq_int, ne_int, u_lenl, u_lent, u_lens, u_max, u_min, u_abs, u_tupl, u_tupt, i_int, i_bool, i_tup, i_rng1, i_lst, i_tupl, len_pic, len_row, h1x R C fl x p okx nx, show D.tup [.str "refused", .int 1] = rf 1 from rfl, ne_refl (d := rf 1) okD_rf]) (Go.skipS ⟨rfl, _, _, _, _, rfl⟩)
  rintro ρ ⟨v5, v6, v7, v8, rfl⟩
  -- films that are none
  have sl0 : slcD (shotD R C x0) none (some 1) = some (.tup [pic R C x0.1]) := rfl
  have ll0 : blt .list [filmD R C fl] = some (.lst (fl.map (shotD R C))) := rfl
  refine Go.forM (ds := [.tup [.non, .tup [], .tup [.tup [pic R C x0.1]], .tup [.tup [pic R C x0.1, .int 0]], .tup [.tup [pic R C x0.1, .int 4]], .lst (fl.map (shotD R C)), .tup [.tup [pic R C x0.1, .bl true]]]]) (fun x => okD 40 x = true ∧ isFilmD x = false) (by try simp only [e_var, e_pk, e_cst, e_glo, e_bin, e_neg, e_not, e_cmp, e_chn, e_boo, e_ite, e_tup, e_lst, e_ix, e_slc, e_rev, e_call, e_blt, e_isi, e_comp, a_nil, a_cons, b_one, b_cons, t_nil, t_one, s_skip, s_seq, s_asg, s_own, s_frz, s_set, s_app, s_ext, s_expr, s_ret, s_ite, s_loop, M.pure_bind, M.lift_some, M.calm_pure, M.bind_assoc, asBl, List.getElem?_cons_zero, List.getElem?_cons_succ, List.set_cons_zero, List.set_cons_succ, Option.map_some, put, putAll, if_true, if_false, Bool.false_eq_true, Bool.true_eq_false, Bool.not_true, Bool.not_false, Cn.d, partD, List.map_cons, List.map_nil, Ev.wipe, o_add, o_sub, o_mull, o_mulr, o_mod, o_div, o_addt, o_addl, o_lt, o_le, o_gt, o_ge, eq_int, ne_int, u_lenl, u_lent, u_lens, u_max, u_min, u_abs, u_tupl, u_tupt, i_int, i_bool, i_tup, i_rng1, i_lst, i_tupl, len_pic, len_row, xf, sl0, ix_shot0, ll0]) rfl ?okm (fun ρ => ∃ v5 v6 v7 v8, ρ = [.val (.scr ns), .val (filmD R C fl), v2, .val (.lst l), .val (.lst [.int ((fmV fl).length : Nat), .non, .non, filmD R C fl.reverse, T]), v5, v6, v7, v8, .emp, .emp, .emp]) ⟨_, _, _, _, rfl⟩ ?stm ?fin2
  case okm =>
    have ps : ∀ d : D, okD 38 d = true → okD 40 (.tup [.tup [pic R C x0.1, d]]) = true := fun d hd => by
      simp only [okD, List.all_cons, List.all_nil, Bool.and_true, Bool.and_eq_true]
      exact ⟨okD_pic, hd⟩
    have bs : ∀ d : D, isNumD 1 3 d = false → isFilmD (.tup [.tup [pic R C x0.1, d]]) = false := fun d hd => by
      have : isShotD (.tup [pic R C x0.1, d]) = false := by
        unfold isShotD
        rw [show s1 (.tup [pic R C x0.1, d]) = d from rfl, hd, Bool.and_false]
      simp only [isFilmD, itemsT, List.all_cons, this, Bool.false_and, Bool.and_false]
    intro x hx
    simp only [List.mem_cons, List.not_mem_nil, or_false] at hx
    rcases hx with rfl | rfl | rfl | rfl | rfl | rfl | rfl
    · exact ⟨rfl, rfl⟩
    · exact ⟨rfl, by decide⟩
    · refine ⟨?_, rfl⟩
      simp only [okD, List.all_cons, List.all_nil, Bool.and_true]
      exact okD_pic
    · exact ⟨ps _ rfl, bs _ (by decide)⟩
    · exact ⟨ps _ rfl, bs _ (by decide)⟩
    · exact ⟨okF fl, rfl⟩
    · exact ⟨ps _ rfl, bs _ rfl⟩
  case stm =>
    rintro x ρ ⟨okx, nx⟩ ⟨v5, v6, v7, v8, rfl⟩
    refine ⟨_, rfl, ?_⟩
    simp only [List.set_cons_succ, List.set_cons_zero]
    have m5 : bop .mul (.lst [rf 0]) (.int 5) = some (.lst ((List.range 5).map fun _ => rf 0)) := rfl
    refine Go.if0 ?_ (Go.if0 ?_ (Go.skipS ⟨rfl, _, _, _, _, rfl⟩))
    · rw [e_cmp, comp_eqR (n := 5) (ds := [.int 5]) (emb := fun k => .int (k : Nat)) (fun _ => rf 0) (by try simp only [e_var, e_pk, e_cst, e_glo, e_bin, e_neg, e_not, e_cmp, e_chn, e_boo, e_ite, e_tup, e_lst, e_ix, e_slc, e_rev, e_call, e_blt, e_isi, e_comp, a_nil, a_cons, b_one, b_cons, t_nil, t_one, s_skip, s_seq, s_asg, s_own, s_frz, s_set, s_app, s_ext, s_expr, s_ret, s_ite, s_loop, M.pure_bind, M.lift_some, M.calm_pure, M.bind_assoc, asBl, List.getElem?_cons_zero, List.getElem?_cons_succ, List.set_cons_zero, List.set_cons_succ, Option.map_some, put, putAll, if_true, if_false, Bool.false_eq_true, Bool.true_eq_false, Bool.not_true, Bool.not_false, Cn.d, partD, List.map_cons, List.map_nil, Ev.wipe, o_add, o_sub, o_mull, o_mulr, o_mod, o_div, o_addt, o_addl, o_lt, o_le, o_gt, o_ge, eq_int, ne_int, u_lenl, u_lent, u_lens, u_max, u_min, u_abs, u_tupl, u_tupt, i_int, i_bool, i_tup, i_rng1, i_lst, i_tupl, len_pic, len_row]) (i_rng1 (n := 5) (by decide)) (fun k hk => by
        unfold oneC
        try simp only [e_var, e_pk, e_cst, e_glo, e_bin, e_neg, e_not, e_cmp, e_chn, e_boo, e_ite, e_tup, e_lst, e_ix, e_slc, e_rev, e_call, e_blt, e_isi, e_comp, a_nil, a_cons, b_one, b_cons, t_nil, t_one, s_skip, s_seq, s_asg, s_own, s_frz, s_set, s_app, s_ext, s_expr, s_ret, s_ite, s_loop, M.pure_bind, M.lift_some, M.calm_pure, M.bind_assoc, asBl, List.getElem?_cons_zero, List.getElem?_cons_succ, List.set_cons_zero, List.set_cons_succ, Option.map_some, put, putAll, if_true, if_false, Bool.false_eq_true, Bool.true_eq_false, Bool.not_true, Bool.not_false, Cn.d, partD, List.map_cons, List.map_nil, Ev.wipe, o_add, o_sub, o_mull, o_mulr, o_mod, o_div, o_addt, o_addl, o_lt, o_le, o_gt, o_ge, eq_int, ne_int, u_lenl, u_lent, u_lens, u_max, u_min, u_abs, u_tupl, u_tupt, i_int, i_bool, i_tup, i_rng1, i_lst, i_tupl, len_pic, len_row, hb k x .non hk okx nx]
        exact .pure rfl)]
      have : cop .ne (.lst ((List.range 5).map fun _ => rf 0)) (.lst ((List.range 5).map fun _ => rf 0)) = some false := ne_refl (by decide +kernel)
      try simp only [e_var, e_pk, e_cst, e_glo, e_bin, e_neg, e_not, e_cmp, e_chn, e_boo, e_ite, e_tup, e_lst, e_ix, e_slc, e_rev, e_call, e_blt, e_isi, e_comp, a_nil, a_cons, b_one, b_cons, t_nil, t_one, s_skip, s_seq, s_asg, s_own, s_frz, s_set, s_app, s_ext, s_expr, s_ret, s_ite, s_loop, M.pure_bind, M.lift_some, M.calm_pure, M.bind_assoc, asBl, List.getElem?_cons_zero, List.getElem?_cons_succ, List.set_cons_zero, List.set_cons_succ, Option.map_some, put, putAll, if_true, if_false, Bool.false_eq_true, Bool.true_eq_false, Bool.not_true, Bool.not_false, Cn.d, partD, List.map_cons, List.map_nil, Ev.wipe, o_add, o_sub, o_mull, o_mulr, o_mod, o_div, o_addt, o_addl, o_lt, o_le, o_gt, o_ge, eq_int, ne_int, u_lenl, u_lent, u_lens, u_max, u_min, u_abs, u_tupl, u_tupt, i_int, i_bool, i_tup, i_rng1, i_lst, i_tupl, len_pic, len_row, show D.tup [.str "refused", .int 0] = rf 0 from rfl, m5, this]
    · try simp only [e_var, e_pk, e_cst, e_glo, e_bin, e_neg, e_not, e_cmp, e_chn, e_boo, e_ite, e_tup, e_lst, e_ix, e_slc, e_rev, e_call, e_blt, e_isi, e_comp, a_nil, a_cons, b_one, b_cons, t_nil, t_one, s_skip, s_seq, s_asg, s_own, s_frz, s_set, s_app, s_ext, s_expr, s_ret, s_ite, s_loop, M.pure_bind, M.lift_some, M.calm_pure, M.bind_assoc, asBl, List.getElem?_cons_zero, List.getElem?_cons_succ, List.set_cons_zero, List.set_cons_succ, Option.map_some, put, putAll, if_true, if_false, Bool.false_eq_true, Bool.true_eq_false, Bool.not_true, Bool.not_false, Cn.d, partD, List.map_cons, List.map_nil, Ev.wipe, o_add, o_sub, o_mull, o_mulr, o_mod, o_div, o_addt, o_addl, o_lt, o_le, o_gt, o_ge, eq_int, ne_int, u_lenl, u_lent, u_lens, u_max, u_min, u_abs, u_tupl, u_tupt, i_int, i_bool, i_tup, i_rng1, i_lst, i_tupl, len_pic, len_row, h2b R C fl x p okx nx, show D.tup [.str "refused", .int 0] = rf 0 from rfl, ne_refl (d := rf 0) okD_rf]
  rintro ρ ⟨v5, v6, v7, v8, rfl⟩
  refine Go.asgS known (by try simp only [e_var, e_pk, e_cst, e_glo, e_bin, e_neg, e_not, e_cmp, e_chn, e_boo, e_ite, e_tup, e_lst, e_ix, e_slc, e_rev, e_call, e_blt, e_isi, e_comp, a_nil, a_cons, b_one, b_cons, t_nil, t_one, s_skip, s_seq, s_asg, s_own, s_frz, s_set, s_app, s_ext, s_expr, s_ret, s_ite, s_loop, M.pure_bind, M.lift_some, M.calm_pure, M.bind_assoc, asBl, List.getElem?_cons_zero, List.getElem?_cons_succ, List.set_cons_zero, List.set_cons_succ, Option.map_some, put, putAll, if_true, if_false, Bool.false_eq_true, Bool.true_eq_false, Bool.not_true, Bool.not_false, Cn.d, partD, List.map_cons, List.map_nil, Ev.wipe, o_add, o_sub, o_mull, o_mulr, o_mod, o_div, o_addt, o_addl, o_lt, o_le, o_gt, o_ge, eq_int, ne_int, u_lenl, u_lent, u_lens, u_max, u_min, u_abs, u_tupl, u_tupt, i_int, i_bool, i_tup, i_rng1, i_lst, i_tupl, len_pic, len_row]; first | done | exact rfl) rfl ?_; simp only [List.set_cons_succ, List.set_cons_zero]
  refine Go.retS (.bl true) ?_ rfl
  have eq1 : cop .eq known known = some true := eq_refl (by decide +kernel)
  have sk : slcD known (some 1) (some 2) = some (.tup [.tup [.tup [.tup [.int 1]], .int 2]]) := by kernel_rfl
  have mk : bop .mul (.tup [.tup [.tup [.tup [.int 1]], .int 2]]) (.int 2) = some (.tup [.tup [.tup [.tup [.int 1]], .int 2], .tup [.tup [.tup [.int 1]], .int 2]]) := by kernel_rfl
  have eq2 : cop .eq (.tup [.tup [.tup [.tup [.int 1]], .int 3], .tup [.tup [.tup [.int 1]], .int 1]]) (.tup [.tup [.tup [.tup [.int 1]], .int 3], .tup [.tup [.tup [.int 1]], .int 1]]) = some true := eq_refl (by decide +kernel)
  try simp only [e_var, e_pk, e_cst, e_glo, e_bin, e_neg, e_not, e_cmp, e_chn, e_boo, e_ite, e_tup, e_lst, e_ix, e_slc, e_rev, e_call, e_blt, e_isi, e_comp, a_nil, a_cons, b_one, b_cons, t_nil, t_one, s_skip, s_seq, s_asg, s_own, s_frz, s_set, s_app, s_ext, s_expr, s_ret, s_ite, s_loop, M.pure_bind, M.lift_some, M.calm_pure, M.bind_assoc, asBl, List.getElem?_cons_zero, List.getElem?_cons_succ, List.set_cons_zero, List.set_cons_succ, Option.map_some, put, putAll, if_true, if_false, Bool.false_eq_true, Bool.true_eq_false, Bool.not_true, Bool.not_false, Cn.d, partD, List.map_cons, List.map_nil, Ev.wipe, o_add, o_sub, o_mull, o_mulr, o_mod, o_div, o_addt, o_addl, o_lt, o_le, o_gt, o_ge, eq_int, ne_int, u_lenl, u_lent, u_lens, u_max, u_min, u_abs, u_tupl, u_tupt, i_int, i_bool, i_tup, i_rng1, i_lst, i_tupl, len_pic, len_row, hk1, eq1, sk, mk, hk2, eq2]
end Ev.Vw

end
section
namespace Ev.Vw
open PySem Ev
theorem told_lev : phi tab.toTab 9 "_law_told" = runFn (phi tab.toTab 8) fn__law_told := lev rfl
theorem law_true' (ns : List Int) (h : ns.length ≤ 63) : phi tab.toTab 10 "law" [.scr ns] = M.pure (.bl true) := by
  rw [show phi tab.toTab 10 "law" = runFn (phi tab.toTab 9) fn_law from lev rfl]
  refine sp_law H_drawn H_law_film H_law_frames (fun l ok hl => ?_) (fun R C fl e p => ?_) (fun R C fl k p hk => ?_) (fun R C fl d p ok hk => ?_) (fun R C fl gl p q hh => ?_) (fun R C R' C' fl gl p q hh => ?_) (fun R C fl d p ok hh => ?_) (fun R C fl e p => ?_) (fun R C fl e p => ?_) (fun w d e hw ok hh => ?_) ?_ ?_ ns h
  · rw [show phi tab.toTab 9 "_law_tight" = runFn (phi tab.toTab 8) fn__law_tight from lev rfl]
    exact sp_law_tight l ok hl
  · rw [told_lev, t0, G_frames_in R C fl p, w_pure]
  · rw [told_lev, t1, G_frame R C fl k p hk, w_pure]
  · rw [told_lev, t1, G_frameX R C fl d p ok hk, w_num]
  · rw [told_lev, t2, G_joined R C fl gl p q hh, w_pure]
  · rw [told_lev, t2, G_joinedX R C R' C' fl gl p q hh, w_film]
  · rw [told_lev, t2, G_joinedB R C fl d p ok hh, w_film]
  · rw [told_lev, t3, G_backwards R C fl p, w_pure]
  · rw [told_lev, t4, G_tight R C fl p, w_pure]
  · match w, hw with
    | 0, _ => exact (congrFun told_lev _).trans (by rw [show ((0 : Nat) : Int) = 0 from rfl, t0, G_badF_frames_in d ok hh, w_film])
    | 1, _ => exact (congrFun told_lev _).trans (by rw [show ((1 : Nat) : Int) = 1 from rfl, t1, G_badF_frame d e ok hh, w_film])
    | 2, _ => exact (congrFun told_lev _).trans (by rw [show ((2 : Nat) : Int) = 2 from rfl, t2, G_badF_joined d e ok hh, w_film])
    | 3, _ => exact (congrFun told_lev _).trans (by rw [show ((3 : Nat) : Int) = 3 from rfl, t3, G_badF_backwards d ok hh, w_film])
    | 4, _ => exact (congrFun told_lev _).trans (by rw [show ((4 : Nat) : Int) = 4 from rfl, t4, G_badF_tight d ok hh, w_film])
  · kernel_rfl
  · kernel_rfl
end Ev.Vw
namespace Ev
theorem law_true (ns : List Int) (h : ns.length ≤ 63) : phi tab.toTab 10 "law" [.scr ns] [] = .ok (.bl true) [] := by
  rw [Vw.law_true' ns h]
  rfl
end Ev

end
open PySem PySem.W PyProof.Rows in
set_option maxRecDepth 100000 in
set_option maxHeartbeats 0 in
theorem PySem.Challenge.cw_lamprows_k81_reels_holds : PySem.Challenge.rw_lamprows_k81_reels.Holds := by
  w_on; o_law; k_head; (case hw => w_witness2)
  k_fill
  refine Ev.law_walk (l := PySem.Challenge.rw_lamprows_k81_reels) (Tb := Ev.tab) (n := 10) (F := Ev.fn_law) (x := "_law_script") rfl (by decide) rfl ⟨by decide +kernel, by decide +kernel, by decide +kernel⟩ (fun w h Y => PySem.W.kIn_of Y) rfl rfl ?F Ev.law_true
  case F =>
    intro w mg h KX G
    refine' Ev.facts KX G ?a0 ?l0 ?c0 ?k0 ?a1 ?l1 ?c1 ?k1 ?a2 ?l2 ?c2 ?k2 ?a3 ?l3 ?c3 ?k3 ?a4 ?l4 ?c4 ?k4 ?a5 ?l5 ?c5 ?k5 ?a6 ?l6 ?c6 ?k6 ?a7 ?l7 ?c7 ?k7 ?a8 ?l8 ?c8 ?k8 ?a9 ?l9 ?c9 ?k9 ?a10 ?l10 ?c10 ?k10 ?a11 ?l11 ?c11 ?k11 ?a12 ?l12 ?c12 ?k12 ?a13 ?l13 ?c13 ?k13 ?a14 ?l14 ?c14 ?k14 ?a15 ?l15 ?c15 ?k15 ?a16 ?l16 ?c16 ?k16 ?a17 ?l17 ?c17 ?k17 ?a18 ?l18 ?c18 ?k18 ?a19 ?l19 ?c19 ?k19 ?a20 ?l20 ?c20 ?k20 ?a21 ?l21 ?c21 ?k21 ?n0 ?n1 ?n2 ?n3 ?n4 ?z0 ?z1 ?z2 ?z3 ?z4 ?z5 ?z6 ?z7 ?z8 ?z9 ?e0 ?e1 ?e2 ?gx1 ?h1 ?i1 ?j1 ?gx2 ?h2 ?i2 ?j2 ?wn ?wt ?dk1 ?ty1 ?dk2 ?ty2 ?dk0 ?ty0 ?be0 ?u1_0 ?u1_1 ?u1_2 ?u1_3 ?u1_4 ?u1_5 ?u1_6 ?u1_7 ?v1_2 ?v1_0 ?u2_0 ?u2_1 ?u2_2 ?u2_3 ?u2_4 ?u2_5 ?u2_6 ?u2_7 ?v2_1 ?v2_0
    (case a0 => k_is)
    (case l0 => k_is)
    (case c0 => k_is)
    (case k0 => k_is)
    (case a1 => k_is)
    (case l1 => k_is)
    (case c1 => k_is)
    (case k1 => k_is)
    (case a2 => k_is)
    (case l2 => k_is)
    (case c2 => k_is)
    (case k2 => k_is)
    (case a3 => k_is)
    (case l3 => k_is)
    (case c3 => k_is)
    (case k3 => k_is)
    (case a4 => k_is)
    (case l4 => k_is)
    (case c4 => k_is)
    (case k4 => k_is)
    (case a5 => k_is)
    (case l5 => k_is)
    (case c5 => k_is)
    (case k5 => k_is)
    (case a6 => k_is)
    (case l6 => k_is)
    (case c6 => k_is)
    (case k6 => k_is)
    (case a7 => k_is)
    (case l7 => k_is)
    (case c7 => k_is)
    (case k7 => k_is)
    (case a8 => k_is)
    (case l8 => k_is)
    (case c8 => k_is)
    (case k8 => k_is)
    (case a9 => k_is)
    (case l9 => k_is)
    (case c9 => k_is)
    (case k9 => k_is)
    (case a10 => k_is)
    (case l10 => k_is)
    (case c10 => k_is)
    (case k10 => k_is)
    (case a11 => k_is)
    (case l11 => k_is)
    (case c11 => k_is)
    (case k11 => k_is)
    (case a12 => k_is)
    (case l12 => k_is)
    (case c12 => k_is)
    (case k12 => k_is)
    (case a13 => k_is)
    (case l13 => k_is)
    (case c13 => k_is)
    (case k13 => k_is)
    (case a14 => k_is)
    (case l14 => k_is)
    (case c14 => k_is)
    (case k14 => k_is)
    (case a15 => k_is)
    (case l15 => k_is)
    (case c15 => k_is)
    (case k15 => k_is)
    (case a16 => k_is)
    (case l16 => k_is)
    (case c16 => k_is)
    (case k16 => k_is)
    (case a17 => k_is)
    (case l17 => k_is)
    (case c17 => k_is)
    (case k17 => k_is)
    (case a18 => k_is)
    (case l18 => k_is)
    (case c18 => k_is)
    (case k18 => k_is)
    (case a19 => k_is)
    (case l19 => k_is)
    (case c19 => k_is)
    (case k19 => k_is)
    (case a20 => k_is)
    (case l20 => k_is)
    (case c20 => k_is)
    (case k20 => k_is)
    (case a21 => k_is)
    (case l21 => k_is)
    (case c21 => k_is)
    (case k21 => k_is)
    (case n0 => k_is)
    (case n1 => k_is)
    (case n2 => k_is)
    (case n3 => k_is)
    (case n4 => k_is)
    (case z0 => k_is)
    (case z1 => k_is)
    (case z2 => k_is)
    (case z3 => k_is)
    (case z4 => k_is)
    (case z5 => k_is)
    (case z6 => k_is)
    (case z7 => k_is)
    (case z8 => k_is)
    (case z9 => k_is)
    (case e0 => k_is)
    (case e1 => k_is)
    (case e2 => k_is)
    (case gx1 => k_exc)
    (case h1 => k_is)
    (case i1 => k_is)
    (case j1 => k_is)
    (case gx2 => k_exc)
    (case h2 => k_is)
    (case i2 => k_is)
    (case j2 => k_is)
    (case wn => k_is)
    (case wt => k_is)
    (case dk1 => k_is)
    (case ty1 => k_is)
    (case dk2 => k_is)
    (case ty2 => k_is)
    (case dk0 => k_is)
    (case ty0 => k_is)
    (case be0 => k_is)
    (case u1_0 => k_is)
    (case u1_1 => k_is)
    (case u1_2 => k_is)
    (case u1_3 => k_is)
    (case u1_4 => k_is)
    (case u1_5 => k_is)
    (case u1_6 => k_is)
    (case u1_7 => k_is)
    (case v1_2 => k_is)
    (case v1_0 => k_is)
    (case u2_0 => k_is)
    (case u2_1 => k_is)
    (case u2_2 => k_is)
    (case u2_3 => k_is)
    (case u2_4 => k_is)
    (case u2_5 => k_is)
    (case u2_6 => k_is)
    (case u2_7 => k_is)
    (case v2_1 => k_is)
    (case v2_0 => k_is)

