import PyProof.Rows.All
import Wide.All
import OpenK.AllK
import Wide.FinOn
import HandS.ForMost
import HandS.ForExc
import HandS.Wide
import HandS.TupAny
import HandS.TupMul
import HandS.Zip
import HandS.IsInst
import HandS.ExcField
import HandS.ExcIs
import HandS.TryMany
import HandS.Style
import HandS.WideMore
import HandS.Walk
import KE.KExcIs
import HandS.ExcInit
import HandS.HotCalls
import PyProof.StrLawsRepr
import KE.GoesEnum
import PySem.Challenge.RW_truedrawn_k00_errors_and_limits
/-! ## EvA -/
set_option Elab.async false
set_option linter.all false
set_option maxRecDepth 100000
set_option maxHeartbeats 4000000
/-! An evaluator of plain data for the programs at hand (my own text). -/
namespace Ev
open PySem PySem.Spec PyProof.Rows L2

/-- plain values; a list lives in the store, by its number -/
inductive D where
  | non | bl (b : Bool) | int (i : Int) | str (x : Str) | tup (l : List D) | obj (n : Nat) | fn (k : Nat) | rep (p : PyData)

/-- what lives in the store: a list that may change, a list that is read only -/
inductive MO where
  | lst (l : List D) | ro (l : List D)

abbrev Sto := List MO
abbrev Frm := List (Option D)

inductive R (α : Type) where
  | ok (a : α) (S : Sto) | exc (c : Nat) (fs : List D) (S : Sto) | bad

def R.bind {α β : Type} (r : R α) (f : α → Sto → R β) : R β := match r with
  | .ok a S => f a S
  | .exc c fs S => .exc c fs S
  | .bad => .bad
@[simp] theorem R.bind_ok {α β : Type} (a : α) (S : Sto) (f : α → Sto → R β) : (R.ok a S).bind f = f a S := rfl
@[simp] theorem R.bind_exc {α β : Type} (c : Nat) (fs : List D) (S : Sto) (f : α → Sto → R β) : (R.exc c fs S : R α).bind f = .exc c fs S := rfl
@[simp] theorem R.bind_bad {α β : Type} (f : α → Sto → R β) : (R.bad : R α).bind f = .bad := rfl

/-- the small syntax -/
inductive Ex where
  | loc (i : Nat) | cst (d : D) | gl (k : Nat) | gf (k : Nat)
  | tup (es : List Ex) | lst (es : List Ex)
  | bin (op : Operator) (a b : Ex) | neg (a : Ex) | not (a : Ex)
  | cmp (op : CmpOp) (a b : Ex) | chn (o1 o2 : CmpOp) (a b c : Ex)
  | andd (es : List Ex) | orr (es : List Ex) | ite (c a b : Ex)
  | ix (a i : Ex) | sl (a : Ex) (lo hi : Option Ex) | rev (a : Ex) (lo : Option Ex)
  | call (k : Nat) (es : List Ex) | cav (f : Ex) (es : List Ex)
  | bi (b : String) (es : List Ex) | isi (e : Ex) (t : String)
  | app (a e : Ex)
  | lc (elt : Ex) (tg : List Nat) (one : Bool) (itk : Nat) (its : List Ex) (ifs : List Ex) (own : List Nat)

/-- a part of what a handler returns: a constant, a field of the exception -/
inductive Pt where
  | c (d : D) | f (nm : Str)
/-- except C as e: return (parts) [if isinstance(e, K) else els] -/
structure Hd where
  cls : Nat
  slot : Nat
  tup : List Pt
  isi : Option Nat
  els : D
  kin : Option (List Nat)

inductive Sx where
  | asg (i : Nat) (e : Ex) | asgT (is : List Nat) (e : Ex) | par (i j : Nat) (a b : Ex) | par3 (i j l : Nat) (a b c : Ex)
  | setix (e o i : Ex) | aug (i : Nat) (op : Operator) (e : Ex)
  | ex (e : Ex) | ret (e : Ex) | retN
  | iff (c : Ex) (a b : List Sx) | whl (c : Ex) (b : List Sx)
  | forr (tg : List Nat) (one : Bool) (itk : Nat) (its : List Ex) (b : List Sx)
  | rais (c : Nat) (es : List Ex) | pass | brk | cont
  | tryr (b : List Sx) (hs : List Hd)

structure Ctx where
  fn : Nat → List D → Sto → R D
  cst : Nat → D
  /-- is the first class below the second -/
  sub : Nat → Nat → Bool
  /-- the fields of a class of errors -/
  flds : Nat → List Str

/-! ### data as PyData -/
def optL {α : Type} (f : D → Option α) : List D → Option (List α)
  | [] => some []
  | d :: r => match f d, optL f r with
    | some a, some b => some (a :: b)
    | _, _ => none
def pyd : Nat → Sto → D → Option PyData
  | 0, _, _ => none
  | n + 1, S, d => match d with
    | .non => some .none
    | .bl b => some (.bool b)
    | .int i => some (.int i)
    | .str x => some (.str x)
    | .tup l => (optL (pyd n S) l).map .tuple
    | .obj k => match S[k]? with
      | some (.lst l) => (optL (pyd n S) l).map .list
      | some (.ro l) => (optL (pyd n S) l).map .list
      | none => none
    | .fn _ => none
    | .rep _ => none

/-- the elements of a list in the store -/
def items (S : Sto) (k : Nat) : Option (List D) := match S[k]? with
  | some (.lst l) => some l
  | some (.ro l) => some l
  | none => none

def LIM : Nat := 1000000

def truD (S : Sto) : D → Option Bool
  | .non => some false
  | .bl b => some b
  | .int i => some (i != 0)
  | .str x => if x.length ≤ LIM then some ((x.length : Int) != 0) else none
  | .tup l => some (!l.isEmpty)
  | .obj k => (items S k).map fun l => !l.isEmpty
  | .fn _ => none
  | .rep _ => none

def new (S : Sto) (l : List D) : R D := if l.length ≤ LIM then .ok (.obj S.length) (S ++ [.lst l]) else .bad
def newT (S : Sto) (l : List D) : R D := if l.length ≤ LIM then .ok (.tup l) S else .bad

def binD (op : Operator) (x y : D) (S : Sto) : R D := match op, x, y with
  | .Add, .int i, .int j => .ok (.int (i + j)) S
  | .Add, .str a, .str b => if a.length + b.length ≤ LIM then .ok (.str (a ++ b)) S else .bad
  | .Add, .tup a, .tup b => if a.length + b.length ≤ LIM then .ok (.tup (a ++ b)) S else .bad
  | .Add, .obj a, .obj b => match S[a]?, S[b]? with
    | some (.lst l), some (.lst m) => if l.length + m.length ≤ LIM then new S (l ++ m) else .bad
    | _, _ => .bad
  | .Sub, .int i, .int j => .ok (.int (i - j)) S
  | .Sub, .bl i, .bl j => .ok (.int ((if i then 1 else 0) - (if j then 1 else 0))) S
  | .Mult, .int i, .int j => if i.natAbs.log2 + j.natAbs.log2 < 1000000 then .ok (.int (i * j)) S else .bad
  | .Mult, .tup l, .int k => if l.length ≤ 1000 ∧ k ≤ 1000 ∧ 2 ≤ k ∧ l ≠ [] then .ok (.tup (List.replicate k.toNat l).flatten) S else .bad
  | .Mult, .obj a, .int k => match S[a]? with
    | some (.lst l) => if l.length ≤ 1000 ∧ k ≤ 1000 ∧ -1000 ≤ k then new S (List.replicate k.toNat l).flatten else .bad
    | _ => .bad
  | .FloorDiv, .int i, .int j => if j ≠ 0 ∧ j.natAbs.log2 < 9000 then .ok (.int (i.fdiv j)) S else .bad
  | .Mod, .int i, .int j => if j ≠ 0 then .ok (.int (i.fmod j)) S else .bad
  | .Pow, .int i, .int j => if 0 ≤ j ∧ j ≤ 1000000 ∧ i.natAbs < 2 ^ 64 then .ok (.int (i ^ j.toNat)) S else .bad
  | _, _, _ => .bad

/-- an upper bound of the text's length; above LIM: not told -/
def szD : Nat → PyData → Nat
  | 0, _ => LIM + 1
  | n + 1, p => match p with
    | .none => 4
    | .bool _ => 5
    | .int i => if i.natAbs.log2 < 1920 then i.natAbs.log2 + 3 else LIM + 1
    | .str x => if (x.cps.toList.all fun c => decide (c < 16 ^ 8)) = true then 10 * x.length + 2 else LIM + 1
    | .list xs => 2 + (xs.map fun x => szD n x + 2).sum
    | .tuple xs => 3 + (xs.map fun x => szD n x + 2).sum
    | .dict _ => LIM + 1

/-- the sameD data -/
def allTwo {α : Type} (f : α → α → Bool) : List α → List α → Bool
  | [], [] => true
  | a :: l, b :: m => f a b && allTwo f l m
  | _, _ => false
def sameD : Nat → PyData → PyData → Bool
  | 0, _, _ => false
  | n + 1, p, q => match p, q with
    | .none, .none => true
    | .bool a, .bool b => a == b
    | .int a, .int b => a == b
    | .str a, .str b => a == b
    | .list a, .list b => allTwo (sameD n) a b
    | .tuple a, .tuple b => allTwo (sameD n) a b
    | _, _ => false

/-- x op= y -/
def iopD (op : Operator) (x y : D) (S : Sto) : R D := match op, x, y with
  | .Add, .int i, .int j => .ok (.int (i + j)) S
  | .Add, .str a, .str b => if a.length + b.length ≤ LIM then .ok (.str (a ++ b)) S else .bad
  | .Add, .obj a, .obj b => match S[a]?, S[b]? with
    | some (.lst l), some (.lst m) => if l.length + m.length ≤ LIM then .ok (.obj a) (S.set a (.lst (l ++ m))) else .bad
    | _, _ => .bad
  | .Sub, .int i, .int j => .ok (.int (i - j)) S
  | .Mult, .int i, .int j => if i.natAbs.log2 + j.natAbs.log2 < 1000000 then .ok (.int (i * j)) S else .bad
  | .FloorDiv, .int i, .int j => if 0 < j ∧ j.natAbs.log2 < 9000 then .ok (.int (i / j)) S else .bad
  | _, _, _ => .bad

def eqD (S : Sto) (x y : D) : Option Bool := match x, y with
  | .int i, .int j => some (i == j)
  | .rep p, .rep q => if sameD 60 p q = true then some true else none
  | x, y => match pyd 40 S x, pyd 40 S y with
    | some a, some b => if SeqAt.shaped a = true ∧ SeqAt.shaped b = true then some (PyData.eqv a b) else none
    | _, _ => none

def cmpD (op : CmpOp) (x y : D) (S : Sto) : R D := match op, x, y with
  | .Eq, x, y => match eqD S x y with
    | some b => .ok (.bl b) S
    | none => .bad
  | .NotEq, x, y => match eqD S x y with
    | some b => .ok (.bl (!b)) S
    | none => .bad
  | .Lt, .int i, .int j => .ok (.bl (decide (i < j))) S
  | .LtE, .int i, .int j => .ok (.bl (decide (i ≤ j))) S
  | .Gt, .int i, .int j => .ok (.bl (decide (j < i))) S
  | .GtE, .int i, .int j => .ok (.bl (decide (j ≤ i))) S
  | .Is, x, .non => .ok (.bl (match x with | .non => true | _ => false)) S
  | .IsNot, x, .non => .ok (.bl (match x with | .non => false | _ => true)) S
  | _, _, _ => .bad

def ixD (x i : D) (S : Sto) : R D := match x, i with
  | .tup l, .int k => match atI l k with
    | some d => .ok d S
    | none => .bad
  | .obj a, .int k => match items S a with
    | some l => match atI l k with
      | some d => .ok d S
      | none => .bad
    | none => .bad
  | .str z, .int k => if z.length ≤ LIM then (match atI z.cps.toList k with
    | some c => .ok (.str ⟨#[c]⟩) S
    | none => .bad) else .bad
  | _, _ => .bad

def cutD (xs : List D) (lo hi : Option Int) : List D := (xs.drop (HT.sIx xs.length 0 lo)).take (HT.sIx xs.length xs.length hi - HT.sIx xs.length 0 lo)

def slD (x : D) (lo hi : Option Int) (S : Sto) : R D := match x with
  | .tup l => .ok (.tup (cutD l lo hi)) S
  | .obj a => match items S a with
    | some l => if l.length ≤ LIM then new S (cutD l lo hi) else .bad
    | none => .bad
  | _ => .bad

/-- how many items t[lo::-1] has -/
def revN (n : Nat) : Option Int → Nat
  | none => n
  | some v => if v < 0 then (v + (n : Int) + 1).toNat else min (v.toNat + 1) n
def revD (x : D) (lo : Option Int) (S : Sto) : R D := match x with
  | .tup l => .ok (.tup (l.take (revN l.length lo)).reverse) S
  | .obj k => match lo, items S k with
    | none, some l => if l.length ≤ LIM then new S l.reverse else .bad
    | _, _ => .bad
  | _ => .bad

def tyName (S : Sto) : D → Option String
  | .rep _ => some "str"
  | .non => some "NoneType"
  | .bl _ => some "bool"
  | .int _ => some "int"
  | .str _ => some "str"
  | .tup _ => some "tuple"
  | .obj k => (items S k).map fun _ => "list"
  | .fn _ => none

/-- isinstance(x, t) of built-in names -/
def isiD (S : Sto) (x : D) (t : String) : Option Bool := (tyName S x).bind fun a => if ["int", "bool", "str", "tuple", "list"].contains t then some (a == t || (a == "bool" && t == "int")) else none

def bools : List D → Option (List Bool)
  | [] => some []
  | .bl b :: r => (bools r).map (b :: ·)
  | _ => none

def biD (b : String) (xs : List D) (S : Sto) : R D := match b, xs with
  | "len", [.tup l] => .ok (.int l.length) S
  | "len", [.obj k] => match items S k with
    | some l => .ok (.int l.length) S
    | none => .bad
  | "len", [.str x] => if x.length ≤ LIM then .ok (.int x.length) S else .bad
  | "abs", [.int i] => .ok (.int (if i < 0 then -i else i)) S
  | "int", [.int i] => .ok (.int i) S
  | "int", [.bl b] => .ok (.int (if b then 1 else 0)) S
  | "bool", [.int i] => .ok (.bl (i != 0)) S
  | "bool", [.bl b] => .ok (.bl b) S
  | "all", [.obj k] => match (items S k).bind bools with
    | some l => .ok (.bl (l.all id)) S
    | none => .bad
  | "any", [.obj k] => match (items S k).bind bools with
    | some l => .ok (.bl (l.any id)) S
    | none => .bad
  | "tuple", [.obj k] => match items S k with
    | some l => .ok (.tup l) S
    | none => .bad
  | "tuple", [.tup l] => .ok (.tup l) S
  | "list", [.obj k] => match items S k with
    | some l => if l.length ≤ LIM then new S l else .bad
    | none => .bad
  | "list", [.tup l] => if l.length ≤ LIM then new S l else .bad
  | "repr", [x] => match pyd 60 S x with
    | some p => if szD 60 p ≤ LIM then .ok (.rep p) S else .bad
    | none => .bad
  | _, _ => .bad

/-- what a for or a comprehension walks -/
inductive Src where
  | obj (k : Nat) | items (l : List D) | rng (lo : Int) (n : Nat) | zip (a b : Src) | enum (k : Nat)

/-- a sequence's items -/
def Src.seq (S : Sto) : Src → Option (List D)
  | .obj k => Ev.items S k
  | .items l => some l
  | _ => none
/-- the i-th turn: none: it can't be told; some none: the end -/
def Src.nth (S : Sto) : Src → Nat → Option (Option D)
  | .obj k, i => (Ev.items S k).map fun l => l[i]?
  | .items l, i => some l[i]?
  | .rng lo n, i => some (if i < n then some (.int (lo + i)) else none)
  | .zip a b, i => match a.seq S, b.seq S with
    | some l, some m => if i ≤ l.length ∧ i ≤ m.length then (match l[i]?, m[i]? with
      | some x, some y => some (some (.tup [x, y]))
      | _, _ => some none) else none
    | _, _ => none
  | .enum k, i => (Ev.items S k).map fun l => (l[i]?).map fun d => .tup [.int i, d]

def srcOf (d : D) : Option Src := match d with
  | .obj k => some (.obj k)
  | .tup l => some (.items l)
  | _ => none

/-- kinds: 0 a thing, 1 range(n), 2 range(a, b), 3 zip(a, b), 4 enumerate(a) -/
def mkSrc (S : Sto) (itk : Nat) (xs : List D) : Option Src := match itk, xs with
  | 0, [d] => srcOf d
  | 1, [.int j] => if -(2 ^ 62) ≤ j ∧ j < 2 ^ 62 then some (.rng 0 j.toNat) else none
  | 2, [.int i, .int j] => if -(2 ^ 62) ≤ i ∧ i < 2 ^ 62 ∧ -(2 ^ 62) ≤ j ∧ j < 2 ^ 62 then some (.rng i (j - i).toNat) else none
  | 3, [a, b] => match srcOf a, srcOf b with
    | some x, some y => some (.zip x y)
    | _, _ => none
  | 4, [.obj k] => some (.enum k)
  | _, _ => none

def setAll : List Nat → List D → Frm → Option Frm
  | [], [], fr => some fr
  | i :: is, d :: ds, fr => setAll is ds (fr.set i (some d))
  | _, _, _ => none

/-- a target: one name, or a tuple of names -/
def tgt (one : Bool) (tg : List Nat) (d : D) (fr : Frm) : Option Frm := match one, tg, d with
  | true, [i], d => some (fr.set i (some d))
  | false, is, .tup ds => setAll is ds fr
  | _, _, _ => none

def wipeF (fr : Frm) : List Nat → Frm
  | [] => fr
  | v :: vs => (wipeF fr vs).set v none

/-! ### running -/
def evL (f : Ex → Frm → Sto → R D) : List Ex → Frm → Sto → R (List D)
  | [], _, S => .ok [] S
  | e :: es, fr, S => (f e fr S).bind fun d S1 => (evL f es fr S1).bind fun ds S2 => .ok (d :: ds) S2

def andT (f : Ex → Frm → Sto → R D) : List Ex → Frm → Sto → R D
  | [], _, _ => .bad
  | [e], fr, S => f e fr S
  | e :: es, fr, S => (f e fr S).bind fun d S1 => match d with
    | .bl true => andT f es fr S1
    | .bl false => .ok (.bl false) S1
    | _ => .bad
def orT (f : Ex → Frm → Sto → R D) : List Ex → Frm → Sto → R D
  | [], _, _ => .bad
  | [e], fr, S => f e fr S
  | e :: es, fr, S => (f e fr S).bind fun d S1 => match d with
    | .bl true => .ok (.bl true) S1
    | .bl false => orT f es fr S1
    | _ => .bad

def optI (f : Ex → Frm → Sto → R D) : Option Ex → Frm → Sto → R (Option Int)
  | none, _, S => .ok none S
  | some e, fr, S => (f e fr S).bind fun d S1 => match d with
    | .int i => .ok (some i) S1
    | _ => .bad

/-- all tests of a comprehension hold -/
def ifsT (f : Ex → Frm → Sto → R D) : List Ex → Frm → Sto → R D
  | [], _, S => .ok (.bl true) S
  | [e], fr, S => f e fr S
  | _, _, _ => .bad

/-- what a loop walks, evaluated -/
def itS (f : Ex → Frm → Sto → R D) (itk : Nat) (its : List Ex) (fr : Frm) (S : Sto) : R Src := (evL f its fr S).bind fun xs S1 => match mkSrc S1 itk xs with
  | some src => .ok src S1
  | none => .bad
/-- an exception within a comprehension is not told -/
def noX {α : Type} : R α → R α
  | .exc _ _ _ => .bad
  | r => r

def lcL (src : Src) (tg : D → Frm → Option Frm) (t e : Frm → Sto → R D) (k : Nat) : Nat → Nat → Frm → Sto → R D
  | 0, _, _, _ => .bad
  | n + 1, i, fr, S => match src.nth S i with
    | none => .bad
    | some none => .ok (.obj k) S
    | some (some d) => match tg d fr with
      | none => .bad
      | some fr1 => (noX (t fr1 S)).bind fun b S1 => match b with
        | .bl true => (noX (e fr1 S1)).bind fun y S2 => match S2[k]? with
          | some (.lst acc) => if acc.length < LIM then lcL src tg t e k n (i + 1) fr (S2.set k (.lst (acc ++ [y]))) else .bad
          | _ => .bad
        | .bl false => lcL src tg t e k n (i + 1) fr S1
        | _ => .bad

def evB (Γ : Ctx) : Nat → Bool → Ex → Frm → Sto → R D
  | 0, _, _, _, _ => .bad
  | n + 1, true, e, fr, S => match e with
    | .andd es => andT (evB Γ n true) es fr S
    | .orr es => orT (evB Γ n true) es fr S
    | .not a => (evB Γ n true a fr S).bind fun d S1 => match d with
      | .bl b => .ok (.bl (!b)) S1
      | _ => .bad
    | .cmp op a b => (evB Γ n false a fr S).bind fun x S1 => (evB Γ n false b fr S1).bind fun y S2 => (cmpD op x y S2).bind fun d S3 => match d with
      | .bl b => .ok (.bl b) S3
      | _ => .bad
    | .chn o1 o2 a b c => (evB Γ n false a fr S).bind fun x S1 => (evB Γ n false b fr S1).bind fun y S2 => (cmpD o1 x y S2).bind fun r S3 => match r with
      | .bl true => (evB Γ n false c fr S3).bind fun z S4 => (cmpD o2 y z S4).bind fun d S5 => match d with
        | .bl b => .ok (.bl b) S5
        | _ => .bad
      | .bl false => .ok (.bl false) S3
      | _ => .bad
    | .ite _ _ _ => .bad
    | e => (evB Γ n false e fr S).bind fun d S1 => match truD S1 d with
      | some b => .ok (.bl b) S1
      | none => .bad
  | n + 1, false, e, fr, S => match e with
    | .loc i => match fr[i]? with
      | some (some d) => .ok d S
      | _ => .bad
    | .cst d => .ok d S
    | .gl k => .ok (Γ.cst k) S
    | .gf k => .ok (.fn k) S
    | .tup es => (evL (evB Γ n false) es fr S).bind fun l S1 => newT S1 l
    | .lst es => (evL (evB Γ n false) es fr S).bind fun l S1 => new S1 l
    | .bin op a b => (evB Γ n false a fr S).bind fun x S1 => (evB Γ n false b fr S1).bind fun y S2 => binD op x y S2
    | .neg a => (evB Γ n false a fr S).bind fun x S1 => match x with
      | .int i => .ok (.int (-i)) S1
      | _ => .bad
    | .not a => (evB Γ n false a fr S).bind fun d S1 => match truD S1 d with
      | some b => .ok (.bl (!b)) S1
      | none => .bad
    | .cmp op a b => (evB Γ n false a fr S).bind fun x S1 => (evB Γ n false b fr S1).bind fun y S2 => cmpD op x y S2
    | .chn o1 o2 a b c => (evB Γ n false a fr S).bind fun x S1 => (evB Γ n false b fr S1).bind fun y S2 => (cmpD o1 x y S2).bind fun r S3 => match r with
      | .bl true => (evB Γ n false c fr S3).bind fun z S4 => cmpD o2 y z S4
      | .bl false => .ok (.bl false) S3
      | _ => .bad
    | .andd es => andT (evB Γ n false) es fr S
    | .orr es => orT (evB Γ n false) es fr S
    | .ite c a b => (evB Γ n true c fr S).bind fun d S1 => match d with
      | .bl true => evB Γ n false a fr S1
      | .bl false => evB Γ n false b fr S1
      | _ => .bad
    | .ix a i => (evB Γ n false a fr S).bind fun x S1 => (evB Γ n false i fr S1).bind fun y S2 => ixD x y S2
    | .sl a lo hi => (evB Γ n false a fr S).bind fun x S1 => (optI (evB Γ n false) lo fr S1).bind fun l S2 => (optI (evB Γ n false) hi fr S2).bind fun h S3 => slD x l h S3
    | .rev a lo => (evB Γ n false a fr S).bind fun x S1 => (optI (evB Γ n false) lo fr S1).bind fun l S2 => revD x l S2
    | .call k es => (evL (evB Γ n false) es fr S).bind fun l S1 => Γ.fn k l S1
    | .cav f es => (evB Γ n false f fr S).bind fun x S1 => match x with
      | .fn k => (evL (evB Γ n false) es fr S1).bind fun l S2 => Γ.fn k l S2
      | _ => .bad
    | .bi b es => (evL (evB Γ n false) es fr S).bind fun l S1 => biD b l S1
    | .isi e t => (evB Γ n false e fr S).bind fun x S1 => match isiD S1 x t with
      | some b => .ok (.bl b) S1
      | none => .bad
    | .app a e => (evB Γ n false a fr S).bind fun x S1 => match x with
      | .obj k => match items S1 k with
        | some _ => (evB Γ n false e fr S1).bind fun y S2 => match S2[k]? with
          | some (.lst l) => if l.length < LIM then .ok .non (S2.set k (.lst (l ++ [y]))) else .bad
          | _ => .bad
        | none => .bad
      | _ => .bad
    | .lc elt tg one itk its ifs own => (itS (evB Γ n false) itk its fr S).bind fun src S1 => lcL src (tgt one tg) (ifsT (evB Γ n true) ifs) (evB Γ n false elt) S1.length n 0 (wipeF fr own) (S1 ++ [.lst []])

inductive RS where
  | nx (fr : Frm) (S : Sto) | rt (d : D) (S : Sto) | bk (fr : Frm) (S : Sto) | ct (fr : Frm) (S : Sto) | exc (c : Nat) (fs : List D) (fr : Frm) (S : Sto) | bad

def R.toS {α : Type} (r : R α) (fr : Frm) (f : α → Sto → RS) : RS := match r with
  | .ok a S => f a S
  | .exc c fs S => .exc c fs fr S
  | .bad => .bad
@[simp] theorem R.toS_ok {α : Type} (a : α) (S : Sto) (fr : Frm) (f : α → Sto → RS) : (R.ok a S).toS fr f = f a S := rfl
@[simp] theorem R.toS_exc {α : Type} (c : Nat) (fs : List D) (S : Sto) (fr : Frm) (f : α → Sto → RS) : (R.exc c fs S : R α).toS fr f = .exc c fs fr S := rfl
@[simp] theorem R.toS_bad {α : Type} (fr : Frm) (f : α → Sto → RS) : (R.bad : R α).toS fr f = .bad := rfl

def seqS (f : Sx → Frm → Sto → RS) : List Sx → Frm → Sto → RS
  | [], fr, S => .nx fr S
  | s :: r, fr, S => match f s fr S with
    | .nx fr1 S1 => seqS f r fr1 S1
    | o => o

def whileL (c : Frm → Sto → R D) (b : Frm → Sto → RS) : Nat → Frm → Sto → RS
  | 0, _, _ => .bad
  | n + 1, fr, S => (c fr S).toS fr fun d S1 => match d with
    | .bl true => match b fr S1 with
      | .nx fr2 S2 => whileL c b n fr2 S2
      | .ct fr2 S2 => whileL c b n fr2 S2
      | .bk fr2 S2 => .nx fr2 S2
      | o => o
    | .bl false => .nx fr S1
    | _ => .bad

def forL (src : Src) (tg : D → Frm → Option Frm) (b : Frm → Sto → RS) : Nat → Nat → Frm → Sto → RS
  | 0, _, _, _ => .bad
  | n + 1, i, fr, S => match src.nth S i with
    | none => .bad
    | some none => .nx fr S
    | some (some d) => match tg d fr with
      | none => .bad
      | some fr1 => match b fr1 S with
        | .nx fr2 S2 => forL src tg b n (i + 1) fr2 S2
        | .ct fr2 S2 => forL src tg b n (i + 1) fr2 S2
        | .bk fr2 S2 => .nx fr2 S2
        | o => o

def optP {α β : Type} (f : α → Option β) : List α → Option (List β)
  | [] => some []
  | d :: r => match f d, optP f r with
    | some a, some b => some (a :: b)
    | _, _ => none
def ptV (fl : List Str) (fs : List D) : Pt → Option D
  | .c d => some d
  | .f nm => (fl.zip fs).lookup nm
def hdV (Γ : Ctx) (c : Nat) (fs : List D) (h : Hd) : Option D := match h.isi with
  | none => (optP (ptV (Γ.flds c) fs) h.tup).map .tup
  | some k => if Γ.sub c k = true then (optP (ptV (Γ.flds c) fs) h.tup).map .tup else some h.els
def hdRun (Γ : Ctx) : List Hd → Nat → List D → Frm → Sto → RS
  | [], c, fs, fr, S => .exc c fs fr S
  | h :: r, c, fs, fr, S => if Γ.sub c h.cls = true then (if h.slot < fr.length then (match h.kin with
    | some ks => if ks.length ≤ 1000 then .rt (.obj S.length) (S ++ [.lst (ks.map fun k => .bl (Γ.sub c k))]) else .bad
    | none => match hdV Γ c fs h with
      | some d => .rt d S
      | none => .bad) else .bad) else hdRun Γ r c fs fr S

def evS (Γ : Ctx) : Nat → Sx → Frm → Sto → RS
  | 0, _, _, _ => .bad
  | n + 1, s, fr, S => match s with
    | .asg i e => (evB Γ n false e fr S).toS fr fun d S1 => .nx (fr.set i (some d)) S1
    | .asgT is e => (evB Γ n false e fr S).toS fr fun d S1 => match tgt false is d fr with
      | some fr1 => .nx fr1 S1
      | none => .bad
    | .par i j a b => (evB Γ n false a fr S).toS fr fun x S1 => (evB Γ n false b fr S1).toS fr fun y S2 => .nx ((fr.set i (some x)).set j (some y)) S2
    | .par3 i j l a b c => (evB Γ n false a fr S).toS fr fun x S1 => (evB Γ n false b fr S1).toS fr fun y S2 => (evB Γ n false c fr S2).toS fr fun z S3 => .nx (((fr.set i (some x)).set j (some y)).set l (some z)) S3
    | .setix e o i => (evB Γ n false e fr S).toS fr fun v S1 => (evB Γ n false o fr S1).toS fr fun x S2 => (evB Γ n false i fr S2).toS fr fun y S3 => match x, y with
      | .obj k, .int m => match S3[k]? with
        | some (.lst l) => match ixN l.length m with
          | some j => .nx fr (S3.set k (.lst (l.set j v)))
          | none => .bad
        | _ => .bad
      | _, _ => .bad
    | .aug i op e => match fr[i]? with
      | some (some x) => (evB Γ n false e fr S).toS fr fun y S1 => (iopD op x y S1).toS fr fun z S2 => .nx (fr.set i (some z)) S2
      | _ => .bad
    | .ex e => (evB Γ n false e fr S).toS fr fun _ S1 => .nx fr S1
    | .ret e => (evB Γ n false e fr S).toS fr fun d S1 => .rt d S1
    | .retN => .rt .non S
    | .iff c a b => (evB Γ n true c fr S).toS fr fun d S1 => match d with
      | .bl true => seqS (evS Γ n) a fr S1
      | .bl false => seqS (evS Γ n) b fr S1
      | _ => .bad
    | .whl c b => whileL (evB Γ n true c) (seqS (evS Γ n) b) n fr S
    | .forr tg one itk its b => (itS (evB Γ n false) itk its fr S).toS fr fun src S1 => forL src (tgt one tg) (seqS (evS Γ n) b) n 0 fr S1
    | .rais c es => (evL (evB Γ n false) es fr S).toS fr fun l S1 => .exc c l fr S1
    | .tryr b hs => match seqS (evS Γ n) b fr S with
      | .exc c fs fr1 S1 => hdRun Γ hs c fs fr1 S1
      | o => o
    | .pass => .nx fr S
    | .brk => .bk fr S
    | .cont => .ct fr S

abbrev evSs (Γ : Ctx) (n : Nat) : List Sx → Frm → Sto → RS := seqS (evS Γ n)
/-- a def's answer -/
def RS.back : RS → R D
  | .nx _ S => .ok .non S
  | .rt d S => .ok d S
  | .exc c fs _ S => .exc c fs S
  | _ => .bad
end Ev

/-! ## EvB -/
set_option Elab.async false
set_option linter.all false
set_option maxRecDepth 100000
set_option maxHeartbeats 4000000
/-! What stands for what: plain data and the model's heap; readings by plain functions. -/
namespace Ev
open PySem PySem.Spec PyProof.Rows L2

/-- tables of names: functions, constants, classes of errors with their fields -/
structure Tb where
  fns : List Str
  csts : List Str
  bis : List Str
  cls : List Str
  flds : Nat → List Str
  /-- a def that tells of an exception which kinds it is of -/
  kin : Option (Str × List Nat)

section
variable (K : PySem.W.Frag) (mg : Str → Option Value) (T : Tb)
mutual
inductive Rp (ρ : Nat → Addr) (N : Nat) (H : Hp) : V → D → Prop
  | non : Rp ρ N H .non .non
  | bl (b : Bool) : Rp ρ N H (.bl b) (.bl b)
  | int (i : Int) : Rp ρ N H (.int i) (.int i)
  | str (x : Str) : Rp ρ N H (.str x) (.str x)
  | rep (p : PyData) : Rp ρ N H (.str p.shown) (.rep p)
  | tup {a : Addr} {xs : List V} {ds : List D} : SqT K H a xs → RpL ρ N H xs ds → Rp ρ N H (.ref a) (.tup ds)
  | obj {n : Nat} : n < N → Rp ρ N H (.ref (ρ n)) (.obj n)
  | fn {k : Nat} {x : Str} {f : Addr} : T.fns[k]? = some x → mg x = some (.ref f) → Rp ρ N H (.ref f) (.fn k)
inductive RpL (ρ : Nat → Addr) (N : Nat) (H : Hp) : List V → List D → Prop
  | nil : RpL ρ N H [] []
  | cons {v : V} {vs : List V} {d : D} {ds : List D} : Rp ρ N H v d → RpL ρ N H vs ds → RpL ρ N H (v :: vs) (d :: ds)
end
/-- later: more objects, the old ones where they were, all tuples as they were -/
structure Ext (ρ : Nat → Addr) (N : Nat) (H : Hp) (ρ' : Nat → Addr) (N' : Nat) (H' : Hp) : Prop where
  rho : ∀ n, n < N → ρ' n = ρ n
  le : N ≤ N'
  tup : ∀ a xs, SqT K H a xs → SqT K H' a xs
/-- a list that nobody changes: frozen, or told by the written part -/
def RoL (H : Hp) (a : Addr) (xs : List V) : Prop :=
  (∃ o, H a = some (.frz o (.lst xs))) ∨ ∃ (o : Obj) (its : Array Value) (n : Nat), K.lookup a = some o ∧ o.cls = .type "list" ∧ o.dict = none ∧ o.data = .seq its n ∧ its.size ≤ sizeLine ∧ Vals xs its.toList
/-- the store stands in the heap -/
structure Stt (ρ : Nat → Addr) (H : Hp) (S : Sto) : Prop where
  inj : ∀ n m l l', S[n]? = some (.lst l) → S[m]? = some (.lst l') → ρ n = ρ m → n = m
  lst : ∀ n l, S[n]? = some (.lst l) → ∃ xs, H (ρ n) = some (.lst xs) ∧ RpL K mg T ρ S.length H xs l
  ro : ∀ n l, S[n]? = some (.ro l) → ∃ xs, RoL K H (ρ n) xs ∧ RpL K mg T ρ S.length H xs l
/-- the slots -/
structure Sl (ρ : Nat → Addr) (N : Nat) (H : Hp) (σ : L2.St) (fr : Frm) : Prop where
  len : fr.length = σ.length
  at_ : ∀ (i : Nat) (d : D), fr[i]? = some (some d) → ∃ v, σ[i]? = some (some v) ∧ Rp K mg T ρ N H v d
end
section
variable {K : PySem.W.Frag} {mg : Str → Option Value} {T : Tb} {ρ ρ' ρ'' : Nat → Addr} {N N' N'' : Nat} {H H' H'' : Hp} {S S' : Sto} {σ : L2.St} {fr : Frm}
theorem Ext.refl : Ext K ρ N H ρ N H := ⟨fun _ _ => rfl, Nat.le_refl _, fun _ _ h => h⟩
theorem Ext.trans (a : Ext K ρ N H ρ' N' H') (b : Ext K ρ' N' H' ρ'' N'' H'') : Ext K ρ N H ρ'' N'' H'' :=
  ⟨fun n h => (b.rho n (Nat.lt_of_lt_of_le h a.le)).trans (a.rho n h), Nat.le_trans a.le b.le, fun x xs h => b.tup x xs (a.tup x xs h)⟩
mutual
theorem Rp.mono (x : Ext K ρ N H ρ' N' H') : ∀ {d : D} {v : V}, Rp K mg T ρ N H v d → Rp K mg T ρ' N' H' v d
  | .non, _, h => by cases h; exact .non
  | .bl b, _, h => by cases h; exact .bl b
  | .int b, _, h => by cases h; exact .int b
  | .str b, _, h => by cases h; exact .str b
  | .tup ds, _, h => by
    cases h with
    | tup h1 h2 => exact .tup (x.tup _ _ h1) (RpL.mono x h2)
  | .obj n, _, h => by
    cases h with
    | obj hn =>
      rw [← x.rho n hn]
      exact .obj (Nat.lt_of_lt_of_le hn x.le)
  | .fn k, _, h => by
    cases h with
    | fn h1 h2 => exact .fn h1 h2
  | .rep p, _, h => by cases h; exact .rep p
theorem RpL.mono (x : Ext K ρ N H ρ' N' H') : ∀ {ds : List D} {vs : List V}, RpL K mg T ρ N H vs ds → RpL K mg T ρ' N' H' vs ds
  | [], _, h => by cases h; exact .nil
  | d :: ds, _, h => by
    cases h with
    | cons h1 h2 => exact .cons (Rp.mono x h1) (RpL.mono x h2)
end
theorem Sl.mono (x : Ext K ρ N H ρ' N' H') (h : Sl K mg T ρ N H σ fr) : Sl K mg T ρ' N' H' σ fr :=
  ⟨h.len, fun i d e => let ⟨v, h1, h2⟩ := h.at_ i d e; ⟨v, h1, h2.mono x⟩⟩
theorem Sl.set {i : Nat} {v : V} {d : D} (h : Sl K mg T ρ N H σ fr) (r : Rp K mg T ρ N H v d) : Sl K mg T ρ N H (σ.set i (some v)) (fr.set i (some d)) := by
  refine ⟨by rw [List.length_set, List.length_set]; exact h.len, fun j e he => ?_⟩
  by_cases hij : i = j
  · subst hij
    by_cases hl : i < fr.length
    · rw [List.getElem?_set_self hl] at he
      cases he
      exact ⟨v, by rw [List.getElem?_set_self (by rw [← h.len]; exact hl)], r⟩
    · rw [List.getElem?_eq_none (by rw [List.length_set]; omega)] at he
      cases he
  · rw [List.getElem?_set_ne hij] at he
    obtain ⟨u, h1, h2⟩ := h.at_ j e he
    exact ⟨u, by rw [List.getElem?_set_ne hij]; exact h1, h2⟩
theorem Sl.unset {i : Nat} (h : Sl K mg T ρ N H σ fr) : Sl K mg T ρ N H (σ.set i none) (fr.set i none) := by
  refine ⟨by rw [List.length_set, List.length_set]; exact h.len, fun j e he => ?_⟩
  by_cases hij : i = j
  · subst hij
    by_cases hl : i < fr.length
    · rw [List.getElem?_set_self hl] at he
      cases he
    · rw [List.getElem?_eq_none (by rw [List.length_set]; omega)] at he
      cases he
  · rw [List.getElem?_set_ne hij] at he
    obtain ⟨u, h1, h2⟩ := h.at_ j e he
    exact ⟨u, by rw [List.getElem?_set_ne hij]; exact h1, h2⟩
theorem Sl.wipe (h : Sl K mg T ρ N H σ fr) : ∀ vs : List Nat, Sl K mg T ρ N H (wipe σ vs) (wipeF fr vs)
  | [] => h
  | v :: vs => by
    unfold L2.wipe wipeF
    exact (Sl.wipe h vs).unset
theorem RpL.length : ∀ {ds : List D} {vs : List V}, RpL K mg T ρ N H vs ds → vs.length = ds.length
  | [], _, h => by cases h; rfl
  | d :: ds, _, h => by
    cases h with
    | cons h1 h2 => rw [List.length_cons, List.length_cons, RpL.length h2]
theorem RpL.get : ∀ {ds : List D} {vs : List V} {i : Nat} {d : D}, RpL K mg T ρ N H vs ds → ds[i]? = some d → ∃ v, vs[i]? = some v ∧ Rp K mg T ρ N H v d
  | [], _, i, d, h, e => by simp at e
  | d :: ds, _, 0, d', h, e => by
    cases h with
    | cons h1 h2 =>
      simp at e
      subst e
      exact ⟨_, rfl, h1⟩
  | d :: ds, _, i + 1, d', h, e => by
    cases h with
    | cons h1 h2 =>
      obtain ⟨v, hv, hr⟩ := RpL.get (i := i) h2 (by simpa using e)
      exact ⟨v, by simpa using hv, hr⟩
theorem RpL.getV : ∀ {ds : List D} {vs : List V} {i : Nat} {v : V}, RpL K mg T ρ N H vs ds → vs[i]? = some v → ∃ d, ds[i]? = some d ∧ Rp K mg T ρ N H v d
  | [], _, i, v, h, e => by cases h; simp at e
  | d :: ds, _, 0, v, h, e => by
    cases h with
    | cons h1 h2 =>
      simp at e
      subst e
      exact ⟨_, rfl, h1⟩
  | d :: ds, _, i + 1, v, h, e => by
    cases h with
    | cons h1 h2 =>
      obtain ⟨d', hv, hr⟩ := RpL.getV (i := i) h2 (by simpa using e)
      exact ⟨d', by simpa using hv, hr⟩
theorem RpL.append : ∀ {ds es : List D} {vs us : List V}, RpL K mg T ρ N H vs ds → RpL K mg T ρ N H us es → RpL K mg T ρ N H (vs ++ us) (ds ++ es)
  | [], _, _, _, h, g => by cases h; exact g
  | d :: ds, _, _, _, h, g => by
    cases h with
    | cons h1 h2 => exact .cons h1 (RpL.append h2 g)
theorem RpL.take : ∀ {ds : List D} {vs : List V} (n : Nat), RpL K mg T ρ N H vs ds → RpL K mg T ρ N H (vs.take n) (ds.take n)
  | _, _, 0, _ => by rw [List.take_zero, List.take_zero]; exact .nil
  | [], _, n + 1, h => by cases h; exact .nil
  | d :: ds, _, n + 1, h => by
    cases h with
    | cons h1 h2 => exact .cons h1 (RpL.take n h2)
theorem RpL.drop : ∀ {ds : List D} {vs : List V} (n : Nat), RpL K mg T ρ N H vs ds → RpL K mg T ρ N H (vs.drop n) (ds.drop n)
  | _, _, 0, h => h
  | [], _, n + 1, h => by cases h; exact .nil
  | d :: ds, _, n + 1, h => by
    cases h with
    | cons h1 h2 => exact RpL.drop n h2
theorem RpL.set : ∀ {ds : List D} {vs : List V} {v : V} {d : D} (n : Nat), Rp K mg T ρ N H v d → RpL K mg T ρ N H vs ds → RpL K mg T ρ N H (vs.set n v) (ds.set n d)
  | [], _, _, _, n, r, h => by cases h; exact .nil
  | d :: ds, _, _, _, 0, r, h => by
    cases h with
    | cons h1 h2 => exact .cons r h2
  | d :: ds, _, _, _, n + 1, r, h => by
    cases h with
    | cons h1 h2 => exact .cons h1 (RpL.set n r h2)
theorem RpL.reverse : ∀ {ds : List D} {vs : List V}, RpL K mg T ρ N H vs ds → RpL K mg T ρ N H vs.reverse ds.reverse
  | [], _, h => by cases h; exact .nil
  | d :: ds, _, h => by
    cases h with
    | cons h1 h2 =>
      rw [List.reverse_cons, List.reverse_cons]
      exact RpL.append (RpL.reverse h2) (.cons h1 .nil)
theorem RpL.rep {ds : List D} {vs : List V} (h : RpL K mg T ρ N H vs ds) : ∀ k : Nat, RpL K mg T ρ N H (List.replicate k vs).flatten (List.replicate k ds).flatten
  | 0 => .nil
  | k + 1 => by
    rw [List.replicate_succ, List.replicate_succ, List.flatten_cons, List.flatten_cons]
    exact RpL.append h (RpL.rep h k)
theorem RpL.cut {ds : List D} {vs : List V} (h : RpL K mg T ρ N H vs ds) (lo hi : Option Int) : RpL K mg T ρ N H (cutV vs lo hi) (cutD ds lo hi) := by
  unfold L2.cutV cutD
  rw [h.length]
  exact RpL.take _ (RpL.drop _ h)
theorem RpL.ix {ds : List D} {vs : List V} {k : Int} {d : D} (h : RpL K mg T ρ N H vs ds) (e : atI ds k = some d) : ∃ v, atI vs k = some v ∧ Rp K mg T ρ N H v d := by
  unfold L2.atI at e ⊢
  rw [h.length]
  cases hi : ixN ds.length k with
  | none =>
    rw [hi] at e
    cases e
  | some j =>
    rw [hi] at e
    exact h.get e
theorem RpL.one {d : D} {vs : List V} (h : RpL K mg T ρ N H vs [d]) : ∃ v, vs = [v] ∧ Rp K mg T ρ N H v d := by
  cases h with
  | cons h1 h2 =>
    cases h2
    exact ⟨_, rfl, h1⟩
theorem RpL.two {d e : D} {vs : List V} (h : RpL K mg T ρ N H vs [d, e]) : ∃ v u, vs = [v, u] ∧ Rp K mg T ρ N H v d ∧ Rp K mg T ρ N H u e := by
  cases h with
  | cons h1 h2 =>
    obtain ⟨u, rfl, h3⟩ := h2.one
    exact ⟨_, _, rfl, h1, h3⟩

theorem RoL.seq {a : Addr} {xs : List V} (h : RoL K H a xs) : SqL K H a xs := by
  rcases h with ⟨o, h⟩ | h
  · exact .inl (.inr ⟨o, h⟩)
  · exact .inr h
theorem RoL.upd {a p : Addr} {xs : List V} {o : HO} (h : RoL K H a xs) (n : ∀ ob ys, H p ≠ some (.frz ob (.lst ys))) : RoL K (upd H p o) a xs := by
  rcases h with ⟨ob, h⟩ | h
  · exact .inl ⟨ob, by rw [upd_ne (fun z => by subst z; exact n _ _ h)]; exact h⟩
  · exact .inr h
/-- a list in the store is a list -/
theorem Stt.seq {k : Nat} {l : List D} (h : Stt K mg T ρ H S) (e : items S k = some l) : ∃ xs, SqL K H (ρ k) xs ∧ RpL K mg T ρ S.length H xs l := by
  unfold items at e
  split at e
  · rename_i l' hs
    cases e
    obtain ⟨xs, h1, h2⟩ := h.lst k _ hs
    exact ⟨xs, .inl (.inl h1), h2⟩
  · rename_i l' hs
    cases e
    obtain ⟨xs, h1, h2⟩ := h.ro k _ hs
    exact ⟨xs, h1.seq, h2⟩
  · cases e
theorem items_lt {k : Nat} {l : List D} (e : items S k = some l) : k < S.length := by
  unfold items at e
  cases hs : S[k]? with
  | none =>
    rw [hs] at e
    cases e
  | some o =>
    exact (List.getElem?_eq_some_iff.mp hs).1
/-- SqT is not touched by a store to a thing that is no tuple -/
theorem sqT_upd {a : Addr} {o : HO} (h : ∀ xs, H a ≠ some (.tup xs)) (h2 : ∀ ob xs, H a ≠ some (.frz ob (.tup xs))) : ∀ b xs, SqT K H b xs → SqT K (upd H a o) b xs := by
  intro b xs q
  rcases q with (q | ⟨ob, q⟩) | q
  · refine .inl (.inl ?_)
    rw [upd_ne (fun z => by subst z; exact h xs q)]
    exact q
  · refine .inl (.inr ⟨ob, ?_⟩)
    rw [upd_ne (fun z => by subst z; exact h2 ob xs q)]
    exact q
  · exact .inr q
theorem sqT_new {a : Addr} {o : HO} (h : H a = none) : ∀ b xs, SqT K H b xs → SqT K (upd H a o) b xs :=
  sqT_upd (fun xs e => by rw [h] at e; cases e) (fun ob xs e => by rw [h] at e; cases e)

/-- a new tuple -/
theorem Ext.tupN {p : Addr} {o : HO} (h : H p = none) : Ext K ρ N H ρ N (upd H p o) := ⟨fun _ _ => rfl, Nat.le_refl _, sqT_new h⟩
theorem Stt.other {p : Addr} {o : HO} (s : Stt K mg T ρ H S) (h : H p = none) : Stt K mg T ρ (upd H p o) S := by
  refine ⟨s.inj, fun n l e => ?_, fun n l e => ?_⟩
  · obtain ⟨xs, h1, h2⟩ := s.lst n l e
    exact ⟨xs, by rw [upd_ne (ne_of_none h1 h)]; exact h1, h2.mono (Ext.tupN h)⟩
  · obtain ⟨xs, h1, h2⟩ := s.ro n l e
    exact ⟨xs, h1.upd (fun _ _ z => by rw [h] at z; cases z), h2.mono (Ext.tupN h)⟩
/-- where the new one stands -/
def put (ρ : Nat → Addr) (n : Nat) (p : Addr) : Nat → Addr := fun m => if m = n then p else ρ m
theorem put_same {n : Nat} {p : Addr} : put ρ n p n = p := if_pos rfl
theorem put_lt {n m : Nat} {p : Addr} (h : m < n) : put ρ n p m = ρ m := if_neg (Nat.ne_of_lt h)
theorem Ext.newL {p : Addr} {o : HO} (h : H p = none) : Ext K ρ N H (put ρ N p) (N + 1) (upd H p o) := ⟨fun n hn => put_lt hn, Nat.le_succ _, sqT_new h⟩
theorem Stt.newL {p : Addr} {xs : List V} {l : List D} (s : Stt K mg T ρ H S) (h : H p = none) (r : RpL K mg T ρ S.length H xs l) :
    Stt K mg T (put ρ S.length p) (upd H p (.lst xs)) (S ++ [.lst l]) := by
  have x : Ext K ρ S.length H (put ρ S.length p) (S.length + 1) (upd H p (.lst xs)) := Ext.newL h
  have hl : (S ++ [MO.lst l]).length = S.length + 1 := by simp
  have ne : ∀ n l', S[n]? = some (.lst l') → ρ n ≠ p := fun n l' hn z => by
    obtain ⟨ys, g1, _⟩ := s.lst n l' hn
    rw [z, h] at g1
    cases g1
  have old : ∀ n o, n < S.length → H (ρ n) = some o → (upd H p (.lst xs)) (put ρ S.length p n) = some o := fun n o hn e => by
    rw [put_lt hn, upd_ne (ne_of_none e h)]
    exact e
  have lt : ∀ n l', (S ++ [MO.lst l])[n]? = some (.lst l') → (n < S.length ∧ S[n]? = some (.lst l')) ∨ n = S.length := fun n l' e => by
    by_cases h1 : n < S.length
    · rw [List.getElem?_append_left h1] at e
      exact .inl ⟨h1, e⟩
    · have := (List.getElem?_eq_some_iff.mp e).1
      rw [hl] at this
      exact .inr (by omega)
  refine ⟨fun n m l1 l2 hn hm e => ?_, fun n l' e => ?_, fun n l' e => ?_⟩
  · rcases lt n l1 hn with ⟨h1, q1⟩ | h1
    · rcases lt m l2 hm with ⟨h2, q2⟩ | h2
      · rw [put_lt h1, put_lt h2] at e
        exact s.inj n m l1 l2 q1 q2 e
      · subst h2
        rw [put_lt h1, put_same] at e
        exact absurd e (ne n l1 q1)
    · subst h1
      rcases lt m l2 hm with ⟨h2, q2⟩ | h2
      · rw [put_lt h2, put_same] at e
        exact absurd e.symm (ne m l2 q2)
      · exact h2.symm
  · rw [hl]
    by_cases h1 : n < S.length
    · rw [List.getElem?_append_left h1] at e
      obtain ⟨ys, g1, g2⟩ := s.lst n l' e
      exact ⟨ys, old n _ h1 g1, g2.mono x⟩
    · have h2 : n = S.length := by
        have := (List.getElem?_eq_some_iff.mp e).1
        rw [hl] at this
        omega
      subst h2
      simp at e
      subst e
      exact ⟨xs, by rw [put_same, upd_same], r.mono x⟩
  · rw [hl]
    by_cases h1 : n < S.length
    · rw [List.getElem?_append_left h1] at e
      obtain ⟨ys, g1, g2⟩ := s.ro n l' e
      exact ⟨ys, by rw [put_lt h1]; exact g1.upd (fun _ _ z => by rw [h] at z; cases z), g2.mono x⟩
    · have h2 : n = S.length := by
        have := (List.getElem?_eq_some_iff.mp e).1
        rw [hl] at this
        omega
      subst h2
      simp at e
/-- a list is changed -/
theorem Ext.setL {k : Nat} {l : List D} {o : HO} (s : Stt K mg T ρ H S) (e : S[k]? = some (.lst l)) : Ext K ρ N H ρ N (upd H (ρ k) o) := by
  obtain ⟨xs, h1, _⟩ := s.lst k l e
  exact ⟨fun _ _ => rfl, Nat.le_refl _, sqT_upd (fun ys q => by rw [h1] at q; cases q) (fun ob ys q => by rw [h1] at q; cases q)⟩
theorem Stt.setL {k : Nat} {l l' : List D} {ys : List V} (s : Stt K mg T ρ H S) (e : S[k]? = some (.lst l)) (r : RpL K mg T ρ S.length H ys l') :
    Stt K mg T ρ (upd H (ρ k) (.lst ys)) (S.set k (.lst l')) := by
  have x : Ext K ρ S.length H ρ S.length (upd H (ρ k) (.lst ys)) := Ext.setL s e
  have hk : k < S.length := (List.getElem?_eq_some_iff.mp e).1
  have back : ∀ n l1, (S.set k (MO.lst l'))[n]? = some (MO.lst l1) → ∃ l2, S[n]? = some (MO.lst l2) := fun n l1 e1 => by
    by_cases h : k = n
    · subst h
      exact ⟨l, e⟩
    · rw [List.getElem?_set_ne h] at e1
      exact ⟨l1, e1⟩
  refine ⟨fun n m l1 l2 hn hm => ?_, fun n l2 e2 => ?_, fun n l2 e2 => ?_⟩
  · obtain ⟨_, a⟩ := back n l1 hn
    obtain ⟨_, b⟩ := back m l2 hm
    exact s.inj n m _ _ a b
  · rw [List.length_set]
    by_cases h : k = n
    · subst h
      rw [List.getElem?_set_self hk] at e2
      cases e2
      exact ⟨ys, upd_same, r.mono x⟩
    · rw [List.getElem?_set_ne h] at e2
      have hn : n < S.length := (List.getElem?_eq_some_iff.mp e2).1
      obtain ⟨zs, g1, g2⟩ := s.lst n l2 e2
      exact ⟨zs, by rw [upd_ne (fun z => h (s.inj k n _ _ e e2 z.symm))]; exact g1, g2.mono x⟩
  · rw [List.length_set]
    by_cases h : k = n
    · subst h
      rw [List.getElem?_set_self hk] at e2
      cases e2
    · rw [List.getElem?_set_ne h] at e2
      have hn : n < S.length := (List.getElem?_eq_some_iff.mp e2).1
      obtain ⟨zs, g1, g2⟩ := s.ro n l2 e2
      obtain ⟨us, f1, _⟩ := s.lst k l e
      exact ⟨zs, g1.upd (fun _ _ z => by rw [f1] at z; cases z), g2.mono x⟩
/-- only a part of the store is told -/
theorem Stt.less (s : Stt K mg T ρ H S) (n : Nat) (hr : ∀ m l, m < n → (S[m]? = some (.lst l) ∨ S[m]? = some (.ro l)) → ∀ xs, RpL K mg T ρ S.length H xs l → RpL K mg T ρ n H xs l) (hn : n ≤ S.length) : Stt K mg T ρ H (S.take n) := by
  have hl : (S.take n).length = n := by rw [List.length_take]; omega
  have sub : ∀ m l, (S.take n)[m]? = some (MO.lst l) → S[m]? = some (MO.lst l) := fun m l e => by
    have hm : m < n := by
      have := (List.getElem?_eq_some_iff.mp e).1
      omega
    rw [List.getElem?_take_of_lt hm] at e
    exact e
  refine ⟨fun a b l1 l2 ha hb => s.inj a b l1 l2 (sub a l1 ha) (sub b l2 hb), fun m l e => ?_, fun m l e => ?_⟩
  · have hm : m < n := by
      have := (List.getElem?_eq_some_iff.mp e).1
      omega
    rw [List.getElem?_take_of_lt hm] at e
    obtain ⟨xs, h1, h2⟩ := s.lst m l e
    rw [hl]
    exact ⟨xs, h1, hr m l hm (.inl e) xs h2⟩
  · have hm : m < n := by
      have := (List.getElem?_eq_some_iff.mp e).1
      omega
    rw [List.getElem?_take_of_lt hm] at e
    obtain ⟨xs, h1, h2⟩ := s.ro m l e
    rw [hl]
    exact ⟨xs, h1, hr m l hm (.inr e) xs h2⟩
end

/-! ### readings -/
section
variable (K : PySem.W.Frag) (mg : Str → Option Value) (T : Tb)
/-- an exception of the class number c with its fields -/
structure ExcIs (ρ : Nat → Addr) (N : Nat) (H : Hp) (cls : Value) (d : Option Addr) (c : Nat) (fs : List D) : Prop where
  is : ∃ (x : Str) (C dx : Addr) (vs : List (Str × V)), T.cls[c]? = some x ∧ mg x = some (.ref C) ∧ cls = .ref C ∧ d = some dx ∧ H dx = some (.xd vs) ∧
    ∀ (j : Nat) (f : Str) (e : D), (T.flds c)[j]? = some f → fs[j]? = some e → ∃ v, vs.lookup f = some v ∧ Rp K mg T ρ N H v e
abbrev Rel (α β : Type) := (Nat → Addr) → Nat → Hp → β → α → Prop
def fin {α β : Type} (rel : Rel α β) (ρ : Nat → Addr) (N : Nat) (H : Hp) (r : R α) (Q : β → Hp → Prop) (E : XK) : Prop := match r with
  | .ok a S' => ∀ ρ' H' b, Ext K ρ N H ρ' S'.length H' → Stt K mg T ρ' H' S' → rel ρ' S'.length H' b a → Q b H'
  | .exc c fs S' => ∀ ρ' H' cls d, Ext K ρ N H ρ' S'.length H' → Stt K mg T ρ' H' S' → ExcIs K mg T ρ' S'.length H' cls d c fs → E cls d H'
  | .bad => False
def rdG {α β : Type} (rel : Rel α β) (W : WX) (f : Frm → Sto → R α) : L2.St → Hp → (β → Hp → Prop) → Prop := fun σ H Q =>
  ∃ ρ fr S, Sl K mg T ρ S.length H σ fr ∧ Stt K mg T ρ H S ∧ fin K mg T rel ρ S.length H (f fr S) Q (fun c d H' => W c d σ H')
end
abbrev relT : Rel D Bool := fun _ _ _ b d => d = .bl b
abbrev relO {α : Type} : Rel α α := fun _ _ _ b d => b = d
section
variable {K : PySem.W.Frag} {mg : Str → Option Value} {T : Tb} {α β α' β' : Type} {rel : Rel α β} {rel' : Rel α' β'} {ρ ρ' : Nat → Addr} {N N' : Nat} {H H' : Hp} {r : R α} {Q Q' : β → Hp → Prop} {E : XK} {W : WX} {σ : L2.St} {S : Sto} {fr : Frm}
theorem fin.mono (x : Ext K ρ N H ρ' N' H') (h : fin K mg T rel ρ N H r Q E) : fin K mg T rel ρ' N' H' r Q E := by
  cases r with
  | ok a S' => exact fun ρ2 H2 b x2 s2 r2 => h ρ2 H2 b (x.trans x2) s2 r2
  | exc c fs S' => exact fun ρ2 H2 cls d x2 s2 r2 => h ρ2 H2 cls d (x.trans x2) s2 r2
  | bad => exact h
theorem fin.imp (h : fin K mg T rel ρ N H r Q E) (g : ∀ b H', Q b H' → Q' b H') : fin K mg T rel ρ N H r Q' E := by
  cases r with
  | ok a S' => exact fun ρ2 H2 b x2 s2 r2 => g _ _ (h ρ2 H2 b x2 s2 r2)
  | exc c fs S' => exact h
  | bad => exact h
/-- an answer at once -/
theorem fin.here {a : α} {b : β} (h : fin K mg T rel ρ S.length H (.ok a S) Q E) (s : Stt K mg T ρ H S) (r : rel ρ S.length H b a) : Q b H := h ρ H b Ext.refl s r
theorem fin.at {a : α} {b : β} {S' : Sto} (h : fin K mg T rel ρ N H (.ok a S') Q E) (x : Ext K ρ N H ρ' S'.length H') (s : Stt K mg T ρ' H' S') (r : rel ρ' S'.length H' b a) : Q b H' := h ρ' H' b x s r
/-- first this, then that -/
theorem rd_bind {g : Frm → Sto → R α} {k : α → Frm → Sto → R α'} {Q' : β' → Hp → Prop} {Kt : β → Hp → Prop}
    (h : rdG K mg T rel' W (fun fr S => (g fr S).bind fun a S1 => k a fr S1) σ H Q')
    (n : ∀ b H1 ρ fr S a, Sl K mg T ρ S.length H1 σ fr → Stt K mg T ρ H1 S → rel ρ S.length H1 b a → fin K mg T rel' ρ S.length H1 (k a fr S) Q' (fun c d H' => W c d σ H') → Kt b H1) :
    rdG K mg T rel W g σ H Kt := by
  obtain ⟨ρ, fr, S, hs, ht, hf⟩ := h
  refine ⟨ρ, fr, S, hs, ht, ?_⟩
  dsimp only at hf
  cases hg : g fr S with
  | ok a S1 =>
    rw [hg] at hf
    exact fun ρ1 H1 b x1 s1 r1 => n b H1 ρ1 fr S1 a (hs.mono x1) s1 r1 (hf.mono x1)
  | exc c fs S1 =>
    rw [hg] at hf
    exact hf
  | bad =>
    rw [hg] at hf
    exact hf.elim
theorem rd_of {f : Frm → Sto → R α} (hs : Sl K mg T ρ S.length H σ fr) (ht : Stt K mg T ρ H S) (h : fin K mg T rel ρ S.length H (f fr S) Q (fun c d H' => W c d σ H')) : rdG K mg T rel W f σ H Q := ⟨ρ, fr, S, hs, ht, h⟩
end
end Ev

/-! ## EvC -/
set_option Elab.async false
set_option linter.all false
set_option maxRecDepth 100000
set_option maxHeartbeats 4000000
/-! The values' rules: what the operators, comparisons, subscripts and built-ins answer is what binD, cmpD .. say. -/
namespace Ev
open PySem PySem.Spec PyProof.Rows L2
theorem lim_size {n : Nat} (h : n ≤ LIM) : n ≤ sizeLine := by rw [sizeLine_eq]; unfold LIM at h; omega
theorem lim_lt {n : Nat} (h : n < LIM) : n < sizeLine := by rw [sizeLine_eq]; unfold LIM at h; omega
theorem upd_get {H : Hp} {p : Addr} {o : HO} : (upd H p o) p = some o := upd_same
section
variable {K : PySem.W.Frag} {mg : Str → Option Value} {T : Tb} {α β α' β' : Type} {rel : Rel α β} {rel' : Rel α' β'} {ρ ρ' : Nat → Addr} {N N' : Nat} {H H' : Hp} {S : Sto} {E : XK}
theorem fin.bind {g : R α} {k : α → Sto → R α'} {Q' : β' → Hp → Prop} {Kt : β → Hp → Prop} (h : fin K mg T rel' ρ N H (g.bind k) Q' E)
    (n : ∀ b ρ1 H1 a S1, Ext K ρ N H ρ1 S1.length H1 → Stt K mg T ρ1 H1 S1 → rel ρ1 S1.length H1 b a → fin K mg T rel' ρ1 S1.length H1 (k a S1) Q' E → Kt b H1) :
    fin K mg T rel ρ N H g Kt E := by
  cases g with
  | ok a S1 =>
    have h' : fin K mg T rel' ρ N H (k a S1) Q' E := h
    exact fun ρ1 H1 b x1 s1 r1 => n b ρ1 H1 a S1 x1 s1 r1 (h'.mono x1)
  | exc c fs S1 => exact h
  | bad => exact h
abbrev relV (K : PySem.W.Frag) (mg : Str → Option Value) (T : Tb) : Rel D V := fun ρ N H v d => Rp K mg T ρ N H v d
abbrev relVs (K : PySem.W.Frag) (mg : Str → Option Value) (T : Tb) : Rel (List D) (List V) := fun ρ N H v d => RpL K mg T ρ N H v d
/-- a new tuple is wished for -/
theorem fin.tup {l : List D} {xs : List V} {Q : V → Hp → Prop} (h : fin K mg T (relV K mg T) ρ S.length H (.ok (.tup l) S) Q E) (s : Stt K mg T ρ H S) (r : RpL K mg T ρ S.length H xs l) :
    ∀ p, H p = none → Q (.ref p) (upd H p (.tup xs)) := fun p hp =>
  h.at (Ext.tupN hp) (s.other hp) (.tup (.inl (.inl upd_same)) (r.mono (Ext.tupN hp)))
/-- an old one -/
theorem fin.tupO {l : List D} {xs : List V} {a : Addr} {Q : V → Hp → Prop} (h : fin K mg T (relV K mg T) ρ S.length H (.ok (.tup l) S) Q E) (s : Stt K mg T ρ H S) (q : SqT K H a xs) (r : RpL K mg T ρ S.length H xs l) : Q (.ref a) H :=
  h.here s (.tup q r)
/-- a new list -/
theorem fin.new {l : List D} {xs : List V} {Q : V → Hp → Prop} (h : fin K mg T (relV K mg T) ρ S.length H (new S l) Q E) (s : Stt K mg T ρ H S) (r : RpL K mg T ρ S.length H xs l) :
    xs.length ≤ sizeLine ∧ ∀ p, H p = none → Q (.ref p) (upd H p (.lst xs)) := by
  unfold Ev.new at h
  split at h
  · rename_i hl
    have hl2 : xs.length ≤ LIM := by
      rw [r.length]
      exact hl
    refine ⟨lim_size hl2, fun p hp => ?_⟩
    have e1 : (S ++ [MO.lst l]).length = S.length + 1 := by simp
    have st := s.newL (xs := xs) (p := p) hp r
    refine h (put ρ S.length p) _ (.ref p) ?_ st ?_
    · rw [e1]
      exact Ext.newL hp
    · have q : Rp K mg T (put ρ S.length p) (S ++ [MO.lst l]).length (upd H p (.lst xs)) (.ref (put ρ S.length p S.length)) (.obj S.length) := .obj (by rw [e1]; exact Nat.lt_succ_self _)
      rw [put_same] at q
      exact q
  · exact h.elim
theorem fin.newT {l : List D} {xs : List V} {Q : V → Hp → Prop} (h : fin K mg T (relV K mg T) ρ S.length H (newT S l) Q E) (s : Stt K mg T ρ H S) (r : RpL K mg T ρ S.length H xs l) :
    xs.length ≤ sizeLine ∧ ∀ p, H p = none → Q (.ref p) (upd H p (.tup xs)) := by
  unfold Ev.newT at h
  split at h
  · rename_i hl
    have hl2 : xs.length ≤ LIM := by
      rw [r.length]
      exact hl
    exact ⟨lim_size hl2, h.tup s r⟩
  · exact h.elim
end
/-- by values -/
def rD2 (K : PySem.W.Frag) (mg : Str → Option Value) (T : Tb) (f : D → D → Sto → R D) : R2 := fun x y H Q => ∃ ρ S d e E, Stt K mg T ρ H S ∧ Rp K mg T ρ S.length H x d ∧ Rp K mg T ρ S.length H y e ∧ fin K mg T (relV K mg T) ρ S.length H (f d e S) Q E
def rDs (K : PySem.W.Frag) (mg : Str → Option Value) (T : Tb) (f : List D → Sto → R D) : List V → Hp → VK → Prop := fun xs H Q => ∃ ρ S ds E, Stt K mg T ρ H S ∧ RpL K mg T ρ S.length H xs ds ∧ fin K mg T (relV K mg T) ρ S.length H (f ds S) Q E
section
variable {X : Cx} {T : Tb}
theorem op_fdivAny : OpR X (binaryOp .FloorDiv) (rI (fun _ j => j ≠ 0 ∧ j.natAbs.log2 < 9000) fun i j => .int (i.fdiv j)) :=
  opI fun _ _ _ _ _ _ _ hd z => floordiv_int hd.1 z (.inl (PyProof.noPylong_of_log2 hd.2))
theorem op_D (op : Operator) : OpR X (binaryOp op) (rD2 X.K X.mg T (binD op)) := by
  intro pins s σ H x y v u Q I rx ry h
  obtain ⟨ρ, S, d, e, E, st, r1, r2, hf⟩ := h
  cases op with
  | Add =>
    cases r1 <;> cases r2 <;> try exact hf.elim
    · exact op_add pins s σ H _ _ v u Q I rx ry ⟨_, _, rfl, rfl, hf.here st (.int _)⟩
    · dsimp only [binD] at hf
      split at hf
      · rename_i hl
        exact op_add_str pins s σ H _ _ v u Q I rx ry ⟨_, _, rfl, rfl, lim_size hl, hf.here st (.str _)⟩
      · exact hf.elim
    · rename_i a xs l q1 p1 b ys m q2 p2
      dsimp only [binD] at hf
      split at hf
      · rename_i hl
        refine op_catA pins s σ H _ _ v u Q I rx ry ⟨a, b, xs, ys, rfl, rfl, q1, q2, ?_, fun z => ?_, fun _ z => ?_, fun _ _ => hf.tup st (p1.append p2)⟩
        · rw [p1.length, p2.length]
          exact lim_size hl
        · subst z
          cases p1
          exact hf.tupO st q2 p2
        · subst z
          cases p2
          rw [List.append_nil] at hf
          exact hf.tupO st q1 p1
      · exact hf.elim
    · rename_i n hn m hm
      dsimp only [binD] at hf
      split at hf
      · rename_i l k e1 e2
        split at hf
        · rename_i hl
          obtain ⟨xs, g1, p1⟩ := st.lst _ _ e1
          obtain ⟨ys, g2, p2⟩ := st.lst _ _ e2
          refine op_cat pins s σ H _ _ v u Q I rx ry ⟨_, _, xs, ys, rfl, rfl, g1, g2, ?_, (hf.new st (p1.append p2)).2⟩
          rw [p1.length, p2.length]
          exact lim_size hl
        · exact hf.elim
      · exact hf.elim
  | Sub =>
    cases r1 <;> cases r2 <;> try exact hf.elim
    · rename_i b b'
      cases rx
      cases ry
      refine sub_bool ⟨.int _, H, I.tok _, ⟨_, rfl⟩, ?_⟩
      exact hf.here st (.int _)
    · exact op_sub pins s σ H _ _ v u Q I rx ry ⟨_, _, rfl, rfl, hf.here st (.int _)⟩
  | Mult =>
    cases r1 <;> cases r2 <;> try exact hf.elim
    · dsimp only [binD] at hf
      split at hf
      · rename_i hl
        exact op_mulW pins s σ H _ _ v u Q I rx ry ⟨_, _, rfl, rfl, hl, hf.here st (.int _)⟩
      · exact hf.elim
    · rename_i a xs l q1 p1 k
      dsimp only [binD] at hf
      split at hf
      · rename_i hl
        obtain ⟨h1, h2, h3, h4⟩ := hl
        refine op_repT pins s σ H _ _ v u Q I rx ry ⟨a, k, xs, rfl, rfl, q1, fun z => ?_, h3, h2, ?_, hf.tup st (p1.rep _)⟩
        · subst z
          cases p1
          exact h4 rfl
        · rw [p1.length]
          exact h1
      · exact hf.elim
    · rename_i n hn k
      dsimp only [binD] at hf
      split at hf
      · rename_i l e1
        split at hf
        · rename_i hl
          obtain ⟨h1, h2, h3⟩ := hl
          obtain ⟨xs, g1, p1⟩ := st.lst _ _ e1
          refine op_rep pins s σ H _ _ v u Q I rx ry ⟨_, k, xs, rfl, rfl, g1, by omega, by omega, ?_, (hf.new st (p1.rep _)).2⟩
          rw [p1.length]
          have h5 : k.toNat ≤ 1000 := by omega
          have h6 : l.length * k.toNat ≤ 1000 * 1000 := Nat.mul_le_mul h1 h5
          exact lim_size (by unfold LIM; omega)
        · exact hf.elim
      · exact hf.elim
  | FloorDiv =>
    cases r1 <;> cases r2 <;> try exact hf.elim
    rename_i i j
    dsimp only [binD] at hf
    split at hf
    · rename_i hl
      exact op_fdivAny pins s σ H _ _ v u Q I rx ry ⟨_, _, rfl, rfl, hl, hf.here st (.int _)⟩
    · exact hf.elim
  | Mod =>
    cases r1 <;> cases r2 <;> try exact hf.elim
    dsimp only [binD] at hf
    split at hf
    · rename_i hl
      exact op_modN pins s σ H _ _ v u Q I rx ry ⟨_, _, rfl, rfl, hl, hf.here st (.int _)⟩
    · exact hf.elim
  | Pow =>
    cases r1 <;> cases r2 <;> try exact hf.elim
    dsimp only [binD] at hf
    split at hf
    · rename_i hl
      exact op_pow pins s σ H _ _ v u Q I rx ry ⟨_, _, rfl, rfl, hl, hf.here st (.int _)⟩
    · exact hf.elim
  | _ => cases r1 <;> cases r2 <;> exact hf.elim
end
end Ev

/-! ## EvD -/
set_option Elab.async false
set_option linter.all false
set_option maxRecDepth 100000
set_option maxHeartbeats 4000000
/-! Comparisons, subscripts, built-ins by values. -/
namespace Ev
open PySem PySem.Spec PyProof.Rows L2
/-! ### data -/
section
variable {K : PySem.W.Frag} {mg : Str → Option Value} {T : Tb} {ρ : Nat → Addr} {N : Nat} {H : Hp} {S : Sto}
mutual
theorem optL_some {f : D → Option PyData} (g : ∀ d v p, Rp K mg T ρ N H v d → f d = some p → Dp K H v p) : ∀ {ds : List D} {vs : List V} {ps : List PyData}, RpL K mg T ρ N H vs ds → optL f ds = some ps → DpAll K H vs ps
  | [], _, _, h, e => by
    cases h
    cases e
    exact .nil
  | d :: r, _, _, h, e => by
    cases h with
    | cons h1 h2 =>
      unfold optL at e
      split at e
      · rename_i a b e1 e2
        cases e
        exact .cons (g _ _ _ h1 e1) (optL_some g h2 e2)
      · cases e
end
theorem rp_dp (st : Stt K mg T ρ H S) : ∀ (n : Nat) (d : D) (v : V) (p : PyData), Rp K mg T ρ S.length H v d → pyd n S d = some p → Dp K H v p
  | 0, _, _, _, _, e => by cases e
  | n + 1, d, v, p, r, e => by
    cases r with
    | non => cases e; exact .non
    | bl b => cases e; exact .bl b
    | int i => cases e; exact .int i
    | str x => cases e; exact .str x
    | rep p => cases e
    | fn _ _ => cases e
    | @tup a xs ds q1 q2 =>
      have e : (optL (pyd n S) ds).map PyData.tuple = some p := e
      cases h : optL (pyd n S) ds with
      | none => rw [h] at e; cases e
      | some ps =>
        rw [h] at e
        cases e
        exact .tup q1 (optL_some (fun d v p => rp_dp st n d v p) q2 h)
    | @obj k hk =>
      cases hs : S[k]? with
      | none =>
        have e : (match S[k]? with
          | some (.lst l) => (optL (pyd n S) l).map PyData.list
          | some (.ro l) => (optL (pyd n S) l).map PyData.list
          | none => none) = some p := e
        rw [hs] at e
        cases e
      | some o =>
        have e : (match S[k]? with
          | some (.lst l) => (optL (pyd n S) l).map PyData.list
          | some (.ro l) => (optL (pyd n S) l).map PyData.list
          | none => none) = some p := e
        rw [hs] at e
        cases o with
        | lst l =>
          dsimp only at e
          cases h : optL (pyd n S) l with
          | none => rw [h] at e; cases e
          | some ps =>
            rw [h] at e
            cases e
            obtain ⟨xs, g1, g2⟩ := st.lst _ _ hs
            exact .lst (.inl (.inl g1)) (optL_some (fun d v p => rp_dp st n d v p) g2 h)
        | ro l =>
          dsimp only at e
          cases h : optL (pyd n S) l with
          | none => rw [h] at e; cases e
          | some ps =>
            rw [h] at e
            cases e
            obtain ⟨xs, g1, g2⟩ := st.ro _ _ hs
            exact .lst g1.seq (optL_some (fun d v p => rp_dp st n d v p) g2 h)
theorem allTwo_ok {α : Type} {f : α → α → Bool} (g : ∀ a b, f a b = true → a = b) : ∀ {l m : List α}, allTwo f l m = true → l = m
  | [], [], _ => rfl
  | [], _ :: _, h => by cases h
  | _ :: _, [], h => by cases h
  | a :: l, b :: m, h => by
    have h : (f a b && allTwo f l m) = true := h
    rw [Bool.and_eq_true] at h
    rw [g a b h.1, allTwo_ok g h.2]
theorem same_ok : ∀ (n : Nat) (p q : PyData), sameD n p q = true → p = q
  | 0, _, _, h => by cases h
  | n + 1, p, q, h => by
    cases p <;> cases q <;> first
      | rfl
      | (exact absurd (show false = true from h) Bool.false_ne_true)
      | skip
    · rename_i a b
      rw [eq_of_beq (show (a == b) = true from h)]
    · rename_i a b
      rw [eq_of_beq (show (a == b) = true from h)]
    · rename_i a b
      rw [eq_of_beq (show (a == b) = true from h)]
    · rename_i a b
      rw [allTwo_ok (fun a b => same_ok n a b) (show allTwo (sameD n) a b = true from h)]
    · rename_i a b
      rw [allTwo_ok (fun a b => same_ok n a b) (show allTwo (sameD n) a b = true from h)]
end
/-! ### texts' lengths -/
theorem textFrom_le : ∀ (ts : List Str) (k : Nat) (acc : Str), (textFrom k acc ts).length ≤ acc.length + piled ts
  | [], k, acc => Nat.le_add_right _ _
  | t :: r, k, acc => by
    have h := textFrom_le r (k + 1) (acc ++ (if k > 0 then ", " else "" : String) ++ t)
    show (textFrom (k + 1) (acc ++ (if k > 0 then ", " else "" : String) ++ t) r).length ≤ acc.length + piled (t :: r)
    refine Nat.le_trans h ?_
    have e : piled (t :: r) = t.length + 2 + piled r := by simp [piled]
    rw [e]
    have e2 : (acc ++ (if k > 0 then ", " else "" : String) ++ t).length ≤ acc.length + 2 + t.length := by
      rw [strLen_append, strLen_append]
      have : ((if k > 0 then ", " else "" : String) : Str).length ≤ 2 := by split <;> decide
      omega
    omega
theorem listText_le (ts : List Str) : (listText ts).length ≤ piled ts + 2 := by
  unfold listText
  rw [strLen_append]
  have h := textFrom_le ts 0 "["
  have e1 : (("[" : String) : Str).length = 1 := by decide
  have e2 : (("]" : String) : Str).length = 1 := by decide
  omega
theorem tupleText_le (ts : List Str) : (tupleText ts).length ≤ piled ts + 3 := by
  unfold tupleText
  rw [strLen_append, strLen_append]
  have e1 : (("(" : String) : Str).length = 1 := by decide
  have e2 : ((if ts.length == 1 then ",)" else ")" : String) : Str).length ≤ 2 := by split <;> decide
  have h : (Str.join ", " ts).length ≤ piled ts := by
    cases ts with
    | nil => decide
    | cons t r =>
      have := join_length_add (t :: r) (by simp)
      omega
  omega
theorem int_le {i : Int} (h : i.natAbs.log2 < 1920) : (Str.ofString (toString i)).length ≤ i.natAbs.log2 + 3 := by
  have e := int_text_length_le (a := i) (k := i.natAbs.log2 + 1) (by omega) (by omega)
  rw [PySem.ofString_length]
  omega
theorem szAll {n : Nat} (g : ∀ p, szD n p ≤ LIM → p.showable = true ∧ p.hasDict = false ∧ p.shown.length ≤ szD n p ∧ p.depth ≤ n) : ∀ xs : List PyData, (xs.map fun x => szD n x + 2).sum ≤ LIM →
    PyData.showableAll xs = true ∧ PyData.hasDictAll xs = false ∧ piled (PyData.shownAll xs) ≤ (xs.map fun x => szD n x + 2).sum ∧ PyData.depthAll xs ≤ n
  | [], _ => ⟨by rw [PyData.showableAll], by rw [PyData.hasDictAll], Nat.zero_le _, by rw [PyData.depthAll]; exact Nat.zero_le _⟩
  | x :: xs, h => by
    rw [List.map_cons, List.sum_cons] at h
    obtain ⟨a1, a2, a3, a4⟩ := g x (by omega)
    obtain ⟨b1, b2, b3, b4⟩ := szAll g xs (by omega)
    refine ⟨by rw [PyData.showableAll, a1, b1]; rfl, by rw [PyData.hasDictAll, a2, b2]; rfl, ?_, ?_⟩
    · rw [PyData.shownAll, List.map_cons, List.sum_cons]
      have e : piled (x.shown :: PyData.shownAll xs) = x.shown.length + 2 + piled (PyData.shownAll xs) := by simp [piled]
      rw [e]
      omega
    · rw [PyData.depthAll]
      omega
theorem sz_ok : ∀ (n : Nat) (p : PyData), szD n p ≤ LIM → p.showable = true ∧ p.hasDict = false ∧ p.shown.length ≤ szD n p ∧ p.depth ≤ n
  | 0, p, h => absurd h (by show ¬ LIM + 1 ≤ LIM; omega)
  | n + 1, p, h => by
    cases p with
    | none => exact ⟨by rw [PyData.showable], by rw [PyData.hasDict], by rw [PyData.shown]; show _ ≤ 4; decide, by rw [PyData.depth]; exact Nat.zero_le _⟩
    | bool b => exact ⟨by rw [PyData.showable], by rw [PyData.hasDict], by rw [PyData.shown]; show _ ≤ 5; cases b <;> decide, by rw [PyData.depth]; exact Nat.zero_le _⟩
    | int i =>
      have h : (if i.natAbs.log2 < 1920 then i.natAbs.log2 + 3 else LIM + 1) ≤ LIM := h
      split at h
      · rename_i hl
        refine ⟨by rw [PyData.showable]; exact decide_eq_true hl, by rw [PyData.hasDict], ?_, by rw [PyData.depth]; exact Nat.zero_le _⟩
        rw [PyData.shown]
        show _ ≤ (if i.natAbs.log2 < 1920 then i.natAbs.log2 + 3 else LIM + 1)
        rw [if_pos hl]
        exact int_le hl
      · omega
    | str x =>
      have h : (if (x.cps.toList.all fun c => decide (c < 16 ^ 8)) = true then 10 * x.length + 2 else LIM + 1) ≤ LIM := h
      split at h
      · rename_i hl
        refine ⟨by rw [PyData.showable], by rw [PyData.hasDict], ?_, by rw [PyData.depth]; exact Nat.zero_le _⟩
        rw [PyData.shown]
        show _ ≤ (if (x.cps.toList.all fun c => decide (c < 16 ^ 8)) = true then 10 * x.length + 2 else LIM + 1)
        rw [if_pos hl]
        exact StrLaws.reprText_len x fun c hc => of_decide_eq_true (List.all_eq_true.mp hl c hc)
      · omega
    | list xs =>
      have h : 2 + (xs.map fun x => szD n x + 2).sum ≤ LIM := h
      obtain ⟨a1, a2, a3, a4⟩ := szAll (sz_ok n) xs (by omega)
      refine ⟨by rw [PyData.showable]; exact a1, by rw [PyData.hasDict]; exact a2, ?_, by rw [PyData.depth]; omega⟩
      rw [PyData.shown]
      show _ ≤ 2 + (xs.map fun x => szD n x + 2).sum
      have := listText_le (PyData.shownAll xs)
      omega
    | tuple xs =>
      have h : 3 + (xs.map fun x => szD n x + 2).sum ≤ LIM := h
      obtain ⟨a1, a2, a3, a4⟩ := szAll (sz_ok n) xs (by omega)
      refine ⟨by rw [PyData.showable]; exact a1, by rw [PyData.hasDict]; exact a2, ?_, by rw [PyData.depth]; omega⟩
      rw [PyData.shown]
      show _ ≤ 3 + (xs.map fun x => szD n x + 2).sum
      have := tupleText_le (PyData.shownAll xs)
      omega
    | dict kvs => exact absurd h (by show ¬ LIM + 1 ≤ LIM; omega)
section
variable {X : Cx} {T : Tb}
/-! ### repr -/
theorem repr_dp {p : PyData} {v : V} {u : Value} {pins : List (Addr × Obj)} {σ : L2.St} {H : Hp} {s : Shared} {Q : VK} (hg : X.A.guards = some []) (hu : X.A.units + 64 < cLine) (I : Inv X pins σ H s) (d : Dp X.K H v p) (r : RelV v u) (hz : szD 60 p ≤ LIM)
    (q : Q (.str p.shown) H) : wpAny (model X.prog X.w) X.A (call (.builtin "repr") [u]) (EP X pins σ Q) X.xe s := by
  obtain ⟨h1, h2, h3, h4⟩ := sz_ok 60 p hz
  have h5 : p.shown.length ≤ sizeLine := lim_size (Nat.le_trans h3 hz)
  have fin : ∀ tk, EP X pins σ Q (.str p.shown tk) { s with toks := tk + 1 } := fun tk => ⟨.str _, H, I.tok _, ⟨_, rfl⟩, q⟩
  cases p with
  | none =>
    cases d
    cases r
    rw [PyData.shown] at fin
    exact P.repr_of_none (fin _)
  | bool b =>
    cases d
    cases r
    rw [PyData.shown] at fin
    exact P.repr_of_bool (fin _)
  | int i =>
    cases d
    obtain ⟨t, rfl⟩ := r
    rw [PyData.shown] at fin
    rw [PyData.showable] at h1
    exact P.repr_of_int (of_decide_eq_true h1) (fin _)
  | str x =>
    cases d
    obtain ⟨t, rfl⟩ := r
    rw [PyData.shown] at fin h5
    exact P.repr_of_str (fin _) h5
  | list xs =>
    obtain ⟨as, rd⟩ := Dp.reads I _ _ _ d r
    cases d
    cases r
    refine repr_of_reads' rd h1 (PyData.noDict_hsm h2) hg (by omega) (fun b o e => e) (fun h' uu tk k => ⟨.str _, H, I.kept (t' := tk) k, ⟨_, rfl⟩, q⟩) h5
  | tuple xs =>
    obtain ⟨as, rd⟩ := Dp.reads I _ _ _ d r
    cases d
    cases r
    refine repr_of_reads' rd h1 (PyData.noDict_hsm h2) hg (by omega) (fun b o e => e) (fun h' uu tk k => ⟨.str _, H, I.kept (t' := tk) k, ⟨_, rfl⟩, q⟩) h5
  | dict kvs => cases d
theorem call_repr_D (hg : X.A.guards = some []) (hu : X.A.units + 64 < cLine) : CallR X (.builtin "repr") (rDs X.K X.mg T (biD "repr")) := by
  intro pins s σ H xs us Q I r h
  obtain ⟨ρ, S, ds, E, st, rs, hf⟩ := h
  cases rs with
  | nil => exact hf.elim
  | cons r1 rs =>
    cases rs with
    | cons _ _ => exact hf.elim
    | nil =>
      rename_i v d
      obtain ⟨u, rfl, ru⟩ := vals1 r
      have hf : fin X.K X.mg T (relV X.K X.mg T) ρ S.length H (match pyd 60 S d with
        | some p => if szD 60 p ≤ LIM then .ok (.rep p) S else .bad
        | none => .bad) Q E := hf
      split at hf
      · rename_i p hp
        split at hf
        · rename_i hz
          exact repr_dp hg hu I (rp_dp st 60 _ _ _ r1 hp) ru hz (hf.here st (.rep p))
        · exact hf.elim
      · exact hf.elim
end
end Ev

/-! ## EvS -/
set_option Elab.async false
set_option linter.all false
set_option maxRecDepth 100000
set_option maxHeartbeats 4000000
/-! t[lo::-1] of a tuple, xs[::-1] of a list. -/
namespace Ev
open PySem PySem.Spec PyProof.Rows L2
theorem revN_le (n : Nat) (lo : Option Int) : revN n lo ≤ n := by
  cases lo with
  | none => exact Nat.le_refl _
  | some v =>
    show (if v < 0 then (v + (n : Int) + 1).toNat else min (v.toNat + 1) n) ≤ n
    split <;> omega
theorem adjust_rev (lo : Option Int) (n : Nat) : Builtin.Slice.sliceAdjust lo none (-1) (n : Int) = ((revN n lo : Int) - 1, -1) := by
  unfold Builtin.Slice.sliceAdjust
  have h1 : ((-1 : Int) < 0) := by omega
  simp only [h1, if_true]
  refine Prod.ext ?_ rfl
  cases lo with
  | none => rfl
  | some v =>
    show (if v < 0 then max (v + (n : Int)) (-1) else min v ((n : Int) - 1)) = (((if v < 0 then (v + (n : Int) + 1).toNat else min (v.toNat + 1) n) : Nat) : Int) - 1
    split <;> omega
theorem places_rev (m : Nat) : Builtin.Slice.slicePlaces ((m : Int) - 1) (-1) (-1) = m := by
  unfold Builtin.Slice.slicePlaces
  have h1 : ¬ ((-1 : Int) > 0) := by omega
  have h2 : (-(-1 : Int)) = 1 := by decide
  simp only [h1, if_false, h2, Int.ediv_one]
  split <;> omega
theorem pick_rev {α : Type} (xs : Array α) : ∀ (m : Nat), m ≤ xs.size → (List.range m).filterMap (fun (k : Nat) => xs[(((m : Int) - 1) + (k : Int) * (-1)).toNat]?) = (xs.toList.take m).reverse
  | 0, _ => rfl
  | m + 1, hm => by
    have ih := pick_rev xs m (Nat.le_of_succ_le hm)
    have e0 : xs[((((m + 1 : Nat) : Int) - 1) + ((0 : Nat) : Int) * (-1)).toNat]? = some xs[m] := by
      have : ((((m + 1 : Nat) : Int) - 1) + ((0 : Nat) : Int) * (-1)).toNat = m := by omega
      rw [this]
      exact Array.getElem?_eq_getElem hm
    have ef : ((fun (k : Nat) => xs[((((m + 1 : Nat) : Int) - 1) + (k : Int) * (-1)).toNat]?) ∘ Nat.succ) = fun (k : Nat) => xs[(((m : Int) - 1) + (k : Int) * (-1)).toNat]? := by
      funext k
      show xs[((((m + 1 : Nat) : Int) - 1) + ((k + 1 : Nat) : Int) * (-1)).toNat]? = _
      have : ((((m + 1 : Nat) : Int) - 1) + ((k + 1 : Nat) : Int) * (-1)).toNat = (((m : Int) - 1) + (k : Int) * (-1)).toNat := by omega
      rw [this]
    rw [List.range_succ_eq_map, List.filterMap_cons, e0, List.filterMap_map, ef, ih]
    have e1 : xs.toList.take (m + 1) = xs.toList.take m ++ [xs[m]] := by
      rw [List.take_succ]
      have : xs.toList[m]? = some xs[m] := by rw [Array.getElem?_toList]; exact Array.getElem?_eq_getElem hm
      rw [this]
      rfl
    rw [e1, List.reverse_append]
    rfl
section
variable {prog : Program} {w : World} {A : Around} {E : Value → Shared → Prop} {s : Shared}
theorem applied_rev {sl : Addr} {vl vu vs : Value} {lo : Option Int} {n : Nat} {Q : Int × Int × Nat → Shared → Prop} (hs : s.heap.IsSliceOf sl vl vu vs) (pl : IsPart vl lo) (pu : IsPart vu none) (ps : IsPart vs (some (-1)))
    (h : Q ((revN n lo : Int) - 1, -1, revN n lo) s) : wpAny (model prog w) A (Builtin.Slice.sliceApplied (.ref sl) (pure (n : Int))) Q E s := by
  obtain ⟨os, hos, hcs, hds⟩ := id hs
  unfold Builtin.Slice.sliceApplied Builtin.Slice.sliceFields
  refine wpAny_bind (wpAny_bind (wpAny_field hos hds (x := vl) rfl (wpAny_bind (wpAny_field hos hds (x := vu) rfl (wpAny_bind (wpAny_field hos hds (x := vs) rfl (wpAny_pure ?_)))))))
  refine wpAny_bind (HT.slicePart_ ps ?_)
  show wpAny _ _ (if ((-1 : Int) == 0) = true then _ else _) _ _ s
  rw [if_neg (by decide)]
  refine wpAny_bind (HT.slicePart_ pl (wpAny_bind (HT.slicePart_ pu (wpAny_bind (wpAny_pure ?_)))))
  show wpAny _ _ (match Builtin.Slice.sliceAdjust lo none (-1) (n : Int) with | (lo, hi) => pure (lo, (-1 : Int), Builtin.Slice.slicePlaces lo hi (-1))) _ _ s
  rw [adjust_rev]
  show wpAny _ _ (pure ((revN n lo : Int) - 1, (-1 : Int), Builtin.Slice.slicePlaces ((revN n lo : Int) - 1) (-1) (-1))) _ _ s
  rw [places_rev]
  exact wpAny_pure h
theorem tuple_rev {t sl : Addr} {items : Array Value} {vl vu vs : Value} {lo : Option Int} {Q : Value → Shared → Prop} (ht : IsTup s.heap t items) (hs : s.heap.IsSliceOf sl vl vu vs) (pl : IsPart vl lo) (pu : IsPart vu none) (ps : IsPart vs (some (-1)))
    (h : Q (.ref s.heap.objs.size) { s with heap := s.heap.push { cls := .type "tuple", data := .seq ((items.toList.take (revN items.size lo)).reverse).toArray } })
    (hsz : items.size ≤ sizeLine) : wpAny (model prog w) A (getItem (.ref t) (.ref sl)) Q E s := by
  have htake : sizeOk (.seq ((items.toList.take (revN items.size lo)).reverse).toArray) := by
    show ((items.toList.take (revN items.size lo)).reverse).toArray.size ≤ sizeLine
    rw [List.size_toArray, List.length_reverse, List.length_take, Array.length_toList]
    omega
  obtain ⟨os, hos, hcs, hds⟩ := id hs
  have hTs : s.TypeIs (.ref sl) "slice" := ⟨os, hos, hcs⟩
  unfold getItem
  try with_reducible refine wpAny_holding ?_
  first | refine wpAny_bind (wpAny_pure ?_) | skip
  refine wpAny_bind (wpAny_sequenceKey ht.typeIs (by decide) ?_)
  refine wpAny_bind (wpAny_callSpecial?_slot (name := Str.ofString "__getitem__") ht.typeIs PyProof.Rows.slot_tuple_getitem
    (wpAny_call_entry PyProof.Rows.slot_tuple_getitem ht.typeIs PySem.F.entry_tuple_getitem ?_ (PyProof.Rows.args_tuple_getitem _ _)))
  show wpAny _ _ (Builtin.Tuple.tupleItemsOf (.ref t) >>= _) _ _ s
  refine wpAny_bind (tupleItemsOf_ ht ?_)
  refine wpAny_bind (wpAny_typeOf hTs ?_)
  rw [if_pos (by decide)]
  refine wpAny_bind (applied_rev hs pl pu ps ?_)
  have hno : ¬ ((((revN items.size lo : Int) - 1) == 0 && (-1 : Int) == 1 && revN items.size lo == items.size) = true) := by
    intro q
    rw [Bool.and_eq_true, Bool.and_eq_true] at q
    exact absurd q.1.2 (by decide)
  show wpAny _ _ (if ((((revN items.size lo : Int) - 1) == 0 && (-1 : Int) == 1 && revN items.size lo == items.size) = true) then _ else _) _ _ s
  rw [if_neg hno, pick_rev items _ (revN_le _ _)]
  first
    | exact wpAny_bind (m := Builtin.Tuple.tupleExact _) (wpAny_newObj_type (wpAny_pure ⟨_, rfl, wpAny_pure h⟩) htake)
    | exact wpAny_bind (m := Builtin.Tuple.tupleExact _) (wpAny_newObj_type (wpAny_bind (wpAny_pure (wpAny_pure ⟨_, rfl, wpAny_pure h⟩))) htake)
    | exact wpAny_bind (wpAny_bind (m := Builtin.Tuple.tupleExact _) (wpAny_newObj_type (wpAny_pure (wpAny_pure ⟨_, rfl, wpAny_pure h⟩)) htake))
    | exact wpAny_bind (wpAny_bind (m := Builtin.Tuple.tupleExact _) (wpAny_newObj_type (wpAny_pure ⟨_, rfl, wpAny_pure h⟩) htake))
end
section
variable {X : Cx}
/-- the reading of x[lo::-1] -/
def rRev (K : PySem.W.Frag) : V → Option Int → Hp → VK → Prop := fun x lo H Q => (∃ a xs, x = .ref a ∧ SqT K H a xs ∧ ∀ p, H p = none → Q (.ref p) (upd H p (.tup (xs.take (revN xs.length lo)).reverse))) ∨
  (lo = none ∧ ∃ a xs, x = .ref a ∧ SqL K H a xs ∧ ∀ p, H p = none → Q (.ref p) (upd H p (.lst xs.reverse)))
theorem pe_rev {e : Expr} {lo : Option Expr} {te : TE} {tl : TO} {k : Nat} {p1 p2 p3 pos : Pos} (he : PE X e te) (hl : PO X lo tl) :
    PE X (.Subscript e (.Slice lo none (some (.UnaryOp .USub (.Constant (.int 1) k p1) p2)) p3) pos) (fun σ H Q => te σ H fun x H1 => tl σ H1 fun l H2 => rRev X.K x l H2 Q) := by
  refine ⟨fun pins s σ H Q I h => ?_⟩
  refine Subscript_ (thn (he.run pins s σ H _ I h) fun v s1 ⟨x, H1, I1, r1, q1⟩ => ?_)
  have hst : PO X (some (.UnaryOp .USub (.Constant (.int 1) k p1) p2)) (tPart (tUn (rU fun i => .int (-i)) (tC (.int 1)))) := po_some (pe_un un_neg pe_int)
  refine wpAny_Slice (thn (hl.run pins s1 σ H1 _ I1 q1) fun vl s2 ⟨l, H2, I2, pl, q2⟩ => ?_)
  refine thn (po_none.run pins s2 σ H2 (fun o H3 => o = none ∧ H3 = H2) I2 ⟨rfl, rfl⟩) fun vu s3 ⟨u, H3, I3, pu, eu, e3⟩ => ?_
  subst eu e3
  refine thn (hst.run pins s3 σ H3 (fun o H4 => o = some (-1) ∧ H4 = H3) I3 ⟨1, rfl, -1, rfl, rfl, rfl⟩) fun vs s4 ⟨o, H4, I4, ps, eo, e4⟩ => ?_
  subst eo e4
  have I5 : Inv X pins σ H4 { s4 with heap := s4.heap.push { cls := .type "slice", data := .fields #[vl, vu, vs] } } := I4.kept (t' := s4.toks) fun b ob q => Heap.get?_push_of_some _ q
  show wpAny (model X.prog X.w) X.A (subscriptTail e (.Slice lo none (some (.UnaryOp .USub (.Constant (.int 1) k p1) p2)) p3) v (.ref s4.heap.objs.size)) (EP X pins σ Q) X.xe { s4 with heap := s4.heap.push { cls := .type "slice", data := .fields #[vl, vu, vs] } }
  rcases q2 with ⟨a, xs, ex, hx, q⟩ | ⟨el, a, xs, ex, hx, q⟩
  · subst ex
    cases r1
    obtain ⟨its, r, ht, hz⟩ := I5.tuple hx
    have hlen : its.toArray.size = xs.length := by rw [List.size_toArray]; exact r.length.symm
    refine tail_any (ops := [.ref a, .ref s4.heap.objs.size]) ht.typeIs (PyProof.Rows.slot_tuple_getitem.lookup) ?_ (by with_unfolding_all rfl)
    refine tuple_rev ht (Heap.IsSliceOf.new _ vl vu vs) pl pu ps ?_ (by rw [hlen]; exact hz)
    rw [hlen]
    refine ⟨.ref _, _, I5.laid (t' := s4.toks) (o := .tup (xs.take (revN xs.length l)).reverse) (fun b ob q => Heap.get?_push_of_some _ q) (Nat.le_refl _) ?_, rfl, q _ (I5.hok.fresh (Nat.le_refl _))⟩
    exact ⟨by rw [List.length_reverse, List.length_take]; omega, _, (r.take _).reverse, IsTup.new _ _⟩
  · subst ex el
    cases r1
    obtain ⟨its, r, ht, hz⟩ := I5.list hx
    have hlen := r.length
    refine tail_any (ops := [.ref a, .ref s4.heap.objs.size]) ht.isList.typeIs (PySem.slot_list_getitem.lookup) ?_ (by with_unfolding_all rfl)
    refine wpAny_getItem_list_slice ht.isList (Heap.IsSliceOf.new _ vl vu vs) pl pu ps (by decide) ?_ (by rw [List.size_toArray]; omega)
    rw [PySem.W.krv_pick]
    refine ⟨.ref _, _, I5.laid (t' := s4.toks) (o := .lst xs.reverse) (fun b ob q => Heap.get?_push_of_some _ q) (Nat.le_refl _) ?_, rfl, q _ (I5.hok.fresh (Nat.le_refl _))⟩
    exact ⟨by rw [List.length_reverse]; exact hz, _, 0, r.reverse, Heap.get?_push_size _ rfl⟩
end
end Ev

/-! ## EvE -/
set_option Elab.async false
set_option linter.all false
set_option maxRecDepth 100000
set_option maxHeartbeats 4000000
/-! Comparisons, subscripts, built-ins by values (2). -/
namespace Ev
open PySem PySem.Spec PyProof.Rows L2
theorem Rp.isNon {K : PySem.W.Frag} {mg : Str → Option Value} {T : Tb} {ρ : Nat → Addr} {N : Nat} {H : Hp} {v : V} {d : D} (r : Rp K mg T ρ N H v d) : decide (v = .non) = (match d with | .non => true | _ => false) := by
  cases r <;> first
    | rfl
    | exact decide_eq_false (fun z => by cases z)
section
variable {X : Cx} {T : Tb}
theorem cmp_eq (hu : X.A.units + 64 < cLine) {pins : List (Addr × Obj)} {s : Shared} {σ : L2.St} {H : Hp} {x y : V} {v u : Value} {Q : VK} {ρ : Nat → Addr} {S : Sto} {d e : D} {b : Bool} (I : Inv X pins σ H s) (rx : RelV x v) (ry : RelV y u)
    (st : Stt X.K X.mg T ρ H S) (r1 : Rp X.K X.mg T ρ S.length H x d) (r2 : Rp X.K X.mg T ρ S.length H y e) (h : eqD S d e = some b) :
    (Q (.bl b) H → wpAny (model X.prog X.w) X.A (compareOp .Eq v u) (EP X pins σ Q) X.xe s) ∧ (Q (.bl (!b)) H → wpAny (model X.prog X.w) X.A (compareOp .NotEq v u) (EP X pins σ Q) X.xe s) := by
  unfold eqD at h
  split at h
  · cases r1
    cases r2
    rename_i i j
    cases h
    refine ⟨fun q => op_eq pins s σ H _ _ v u Q I rx ry ⟨rfl, ?_⟩, fun q => op_ne pins s σ H _ _ v u Q I rx ry ⟨rfl, ?_⟩⟩
    · rw [dec_int]
      exact q
    · rw [dec_int]
      exact q
  · cases r1
    cases r2
    rename_i p q
    split at h
    · rename_i hs
      cases h
      have e := same_ok _ _ _ hs
      subst e
      refine ⟨fun q => op_eq pins s σ H _ _ v u Q I rx ry ⟨rfl, ?_⟩, fun q => op_ne pins s σ H _ _ v u Q I rx ry ⟨rfl, ?_⟩⟩
      · rw [decide_eq_true rfl]
        exact q
      · rw [decide_eq_true rfl]
        exact q
    · cases h
  · split at h
    · rename_i a b' ea eb
      split at h
      · rename_i hs
        cases h
        have d1 := rp_dp st 40 _ _ _ r1 ea
        have d2 := rp_dp st 40 _ _ _ r2 eb
        exact ⟨fun q => op_eqD hu pins s σ H _ _ v u Q I rx ry ⟨a, b', d1, d2, hs.1, hs.2, q⟩, fun q => op_neD hu pins s σ H _ _ v u Q I rx ry ⟨a, b', d1, d2, hs.1, hs.2, q⟩⟩
      · cases h
    · cases h
theorem cmp_D (hu : X.A.units + 64 < cLine) (op : CmpOp) : OpR X (compareOp op) (rD2 X.K X.mg T (cmpD op)) := by
  intro pins s σ H x y v u Q I rx ry h
  obtain ⟨ρ, S, d, e, E, st, r1, r2, hf⟩ := h
  cases op with
  | Eq =>
    have hf : fin X.K X.mg T (relV X.K X.mg T) ρ S.length H (match eqD S d e with
      | some b => .ok (.bl b) S
      | none => .bad) Q E := hf
    split at hf
    · rename_i b hb
      exact (cmp_eq hu I rx ry st r1 r2 hb).1 (hf.here st (.bl _))
    · exact hf.elim
  | NotEq =>
    have hf : fin X.K X.mg T (relV X.K X.mg T) ρ S.length H (match eqD S d e with
      | some b => .ok (.bl (!b)) S
      | none => .bad) Q E := hf
    split at hf
    · rename_i b hb
      exact (cmp_eq hu I rx ry st r1 r2 hb).2 (hf.here st (.bl _))
    · exact hf.elim
  | Lt =>
    cases r1 <;> cases r2 <;> try exact hf.elim
    exact op_lt pins s σ H _ _ v u Q I rx ry ⟨_, _, rfl, rfl, hf.here st (.bl _)⟩
  | LtE =>
    cases r1 <;> cases r2 <;> try exact hf.elim
    exact op_le pins s σ H _ _ v u Q I rx ry ⟨_, _, rfl, rfl, hf.here st (.bl _)⟩
  | Gt =>
    cases r1 <;> cases r2 <;> try exact hf.elim
    exact op_gt pins s σ H _ _ v u Q I rx ry ⟨_, _, rfl, rfl, hf.here st (.bl _)⟩
  | GtE =>
    cases r1 <;> cases r2 <;> try exact hf.elim
    exact op_ge pins s σ H _ _ v u Q I rx ry ⟨_, _, rfl, rfl, hf.here st (.bl _)⟩
  | Is =>
    cases r2 <;> try (cases d <;> exact hf.elim)
    refine op_isN pins s σ H _ _ v u Q I rx ry ⟨rfl, ?_⟩
    rw [r1.isNon]
    cases d <;> exact hf.here st (.bl _)
  | IsNot =>
    cases r2 <;> try (cases d <;> exact hf.elim)
    refine op_notN pins s σ H _ _ v u Q I rx ry ⟨rfl, ?_⟩
    rw [r1.isNon]
    cases d <;> exact hf.here st (.bl _)
  | In => cases r1 <;> cases r2 <;> exact hf.elim
  | NotIn => cases r1 <;> cases r2 <;> exact hf.elim
/-! ### subscripts -/
theorem ix_D : IxR X (rD2 X.K X.mg T ixD) := by
  intro value slice pins s σ H x y v u Q I rx ry h hsub
  obtain ⟨ρ, S, d, e, E, st, r1, r2, hf⟩ := h
  cases r1 <;> cases r2 <;> try exact hf.elim
  · rename_i z k
    have hf : fin X.K X.mg T (relV X.K X.mg T) ρ S.length H (if z.length ≤ LIM then (match atI z.cps.toList k with
      | some c => .ok (.str ⟨#[c]⟩) S
      | none => .bad) else .bad) Q E := hf
    split at hf
    · rename_i hz
      split at hf
      · rename_i c hc
        exact ix_str value slice pins s σ H _ _ v u Q I rx ry ⟨z, k, c, rfl, rfl, lim_size hz, hc, hf.here st (.str _)⟩ hsub
      · exact hf.elim
    · exact hf.elim
  · rename_i a xs l q1 p1 k
    have hf : fin X.K X.mg T (relV X.K X.mg T) ρ S.length H (match atI l k with
      | some d => .ok d S
      | none => .bad) Q E := hf
    split at hf
    · rename_i d hd
      obtain ⟨w, hw, rw'⟩ := p1.ix hd
      exact ix_tup value slice pins s σ H _ _ v u Q I rx ry ⟨a, xs, k, w, rfl, rfl, q1, hw, hf.here st rw'⟩ hsub
    · exact hf.elim
  · rename_i n hn k
    have hf : fin X.K X.mg T (relV X.K X.mg T) ρ S.length H (match items S n with
      | some l => match atI l k with
        | some d => .ok d S
        | none => .bad
      | none => .bad) Q E := hf
    split at hf
    · rename_i l hl
      obtain ⟨xs, q1, p1⟩ := st.seq hl
      split at hf
      · rename_i d hd
        obtain ⟨w, hw, rw'⟩ := p1.ix hd
        exact ix_list value slice pins s σ H _ _ v u Q I rx ry ⟨_, xs, k, w, rfl, rfl, q1, hw, hf.here st rw'⟩ hsub
      · exact hf.elim
    · exact hf.elim
def rSlD (K : PySem.W.Frag) (mg : Str → Option Value) (T : Tb) : V → Option Int → Option Int → Hp → VK → Prop := fun x lo hi H Q => ∃ ρ S d E, Stt K mg T ρ H S ∧ Rp K mg T ρ S.length H x d ∧ fin K mg T (relV K mg T) ρ S.length H (slD d lo hi S) Q E
theorem cutV_whole {xs : List V} {lo hi : Option Int} (h : HT.sIx xs.length 0 lo = 0 ∧ HT.sIx xs.length xs.length hi = xs.length) : cutV xs lo hi = xs := by
  unfold cutV
  rw [h.1, h.2, List.drop_zero, Nat.sub_zero, List.take_length]
theorem cutD_len (l : List D) (lo hi : Option Int) : (cutD l lo hi).length ≤ l.length := by
  unfold cutD
  rw [List.length_take, List.length_drop]
  omega
theorem sl_D : SlR X (rSlD X.K X.mg T) := by
  intro pins s σ H x v vl vu lo hi sl Q I rx hs pl pu h
  obtain ⟨ρ, S, d, E, st, r1, hf⟩ := h
  cases r1 <;> try exact hf.elim
  · rename_i a xs l q1 p1
    refine sl_tupA pins s σ H _ v vl vu lo hi sl Q I rx hs pl pu ⟨a, xs, rfl, q1, fun z => ?_, fun _ => ?_⟩
    · have r := p1.cut lo hi
      rw [cutV_whole z] at r
      exact hf.tupO st q1 r
    · exact hf.tup st (p1.cut lo hi)
  · rename_i n hn
    have hf : fin X.K X.mg T (relV X.K X.mg T) ρ S.length H (match items S n with
      | some l => if l.length ≤ LIM then new S (cutD l lo hi) else .bad
      | none => .bad) Q E := hf
    split at hf
    · rename_i l hl
      obtain ⟨xs, q1, p1⟩ := st.seq hl
      split at hf
      · exact sl_list pins s σ H _ v vl vu lo hi sl Q I rx hs pl pu ⟨_, xs, rfl, q1, (hf.new st (p1.cut lo hi)).2⟩
      · exact hf.elim
    · exact hf.elim
theorem rev_D {x : V} {lo : Option Int} {H : Hp} {Q : VK} {ρ : Nat → Addr} {S : Sto} {d : D} {E : XK} (st : Stt X.K X.mg T ρ H S) (r1 : Rp X.K X.mg T ρ S.length H x d) (hf : fin X.K X.mg T (relV X.K X.mg T) ρ S.length H (revD d lo S) Q E) : rRev X.K x lo H Q := by
  cases r1 <;> try exact hf.elim
  · rename_i a xs l q1 p1
    refine .inl ⟨a, xs, rfl, q1, ?_⟩
    have r := (p1.take (revN l.length lo)).reverse
    rw [← p1.length] at r
    have hf : fin X.K X.mg T (relV X.K X.mg T) ρ S.length H (.ok (.tup (l.take (revN l.length lo)).reverse) S) Q E := hf
    rw [← p1.length] at hf
    exact hf.tup st r
  · rename_i n hn
    cases lo with
    | some v => exact hf.elim
    | none =>
      have hf : fin X.K X.mg T (relV X.K X.mg T) ρ S.length H (match (none : Option Int), items S n with
        | none, some l => if l.length ≤ LIM then new S l.reverse else .bad
        | _, _ => .bad) Q E := hf
      cases hi : items S n with
      | none =>
        rw [hi] at hf
        exact hf.elim
      | some l =>
        rw [hi] at hf
        dsimp only at hf
        obtain ⟨xs, q1, p1⟩ := st.seq hi
        split at hf
        · exact .inr ⟨rfl, _, xs, rfl, q1, (hf.new st p1.reverse).2⟩
        · exact hf.elim
/-! ### built-ins -/
theorem len_D : CallR X (.builtin "len") (rDs X.K X.mg T (biD "len")) := by
  intro pins s σ H xs us Q I r h
  obtain ⟨ρ, S, ds, E, st, rs, hf⟩ := h
  cases rs with
  | nil => exact hf.elim
  | cons r1 rs =>
    cases rs with
    | cons _ _ => cases r1 <;> exact hf.elim
    | nil =>
      cases r1 <;> try exact hf.elim
      · rename_i z
        have hf : fin X.K X.mg T (relV X.K X.mg T) ρ S.length H (if z.length ≤ LIM then .ok (.int z.length) S else .bad) Q E := hf
        split at hf
        · rename_i hz
          exact call_len_str pins s σ H _ us Q I r ⟨z, rfl, lim_size hz, hf.here st (.int _)⟩
        · exact hf.elim
      · rename_i a xs l q1 p1
        refine call_len_seq pins s σ H _ us Q I r ⟨a, xs, rfl, .inr q1, ?_⟩
        rw [p1.length]
        exact hf.here st (.int _)
      · rename_i n hn
        have hf : fin X.K X.mg T (relV X.K X.mg T) ρ S.length H (match items S n with
          | some l => .ok (.int l.length) S
          | none => .bad) Q E := hf
        split at hf
        · rename_i l hl
          obtain ⟨xs, q1, p1⟩ := st.seq hl
          refine call_len_seq pins s σ H _ us Q I r ⟨_, xs, rfl, .inl q1, ?_⟩
          rw [p1.length]
          exact hf.here st (.int _)
        · exact hf.elim
theorem abs_D : CallR X (.builtin "abs") (rDs X.K X.mg T (biD "abs")) := by
  intro pins s σ H xs us Q I r h
  obtain ⟨ρ, S, ds, E, st, rs, hf⟩ := h
  cases rs with
  | nil => exact hf.elim
  | cons r1 rs =>
    cases rs with
    | cons _ _ => cases r1 <;> exact hf.elim
    | nil =>
      cases r1 <;> try exact hf.elim
      exact call_abs pins s σ H _ us Q I r ⟨_, rfl, hf.here st (.int _)⟩
theorem int_D : CallR X (.type "int") (rDs X.K X.mg T (biD "int")) := by
  intro pins s σ H xs us Q I r h
  obtain ⟨ρ, S, ds, E, st, rs, hf⟩ := h
  cases rs with
  | nil => exact hf.elim
  | cons r1 rs =>
    cases rs with
    | cons _ _ => cases r1 <;> exact hf.elim
    | nil =>
      cases r1 <;> try exact hf.elim
      · exact call_int1 pins s σ H _ us Q I r (.inr ⟨_, rfl, hf.here st (.int _)⟩)
      · exact call_int1 pins s σ H _ us Q I r (.inl ⟨_, rfl, hf.here st (.int _)⟩)
theorem bool_D : CallR X (.type "bool") (rDs X.K X.mg T (biD "bool")) := by
  intro pins s σ H xs us Q I r h
  obtain ⟨ρ, S, ds, E, st, rs, hf⟩ := h
  cases rs with
  | nil => exact hf.elim
  | cons r1 rs =>
    cases rs with
    | cons _ _ => cases r1 <;> exact hf.elim
    | nil =>
      cases r1 <;> try exact hf.elim
      · exact call_bool1 pins s σ H _ us Q I r (.inr ⟨_, rfl, hf.here st (.bl _)⟩)
      · exact call_bool1 pins s σ H _ us Q I r (.inl ⟨_, rfl, hf.here st (.bl _)⟩)
theorem bools_ok {K : PySem.W.Frag} {mg : Str → Option Value} {ρ : Nat → Addr} {N : Nat} {H : Hp} : ∀ {ds : List D} {vs : List V} {bs : List Bool}, RpL K mg T ρ N H vs ds → bools ds = some bs → vs = bs.map V.bl
  | [], _, _, h, e => by
    cases h
    cases e
    rfl
  | d :: r, _, _, h, e => by
    cases h with
    | cons h1 h2 =>
      cases h1 <;> try exact absurd e (by intro z; cases z)
      rename_i vs b
      have e : (bools r).map (b :: ·) = some _ := e
      cases hb : bools r with
      | none => rw [hb] at e; cases e
      | some bs =>
        rw [hb] at e
        cases e
        rw [bools_ok h2 hb]
        rfl
theorem allany_D (hc : X.calm = true) : CallR X (.builtin "all") (rDs X.K X.mg T (biD "all")) ∧ CallR X (.builtin "any") (rDs X.K X.mg T (biD "any")) := by
  constructor
  all_goals
    intro pins s σ H xs us Q I r h
    obtain ⟨ρ, S, ds, E, st, rs, hf⟩ := h
    cases rs with
    | nil => exact hf.elim
    | cons r1 rs =>
      cases rs with
      | cons _ _ => cases r1 <;> exact hf.elim
      | nil =>
        cases r1 <;> try exact hf.elim
        rename_i n hn
        first
          | (have hf : fin X.K X.mg T (relV X.K X.mg T) ρ S.length H (match (items S n).bind bools with
              | some l => .ok (.bl (l.all id)) S
              | none => .bad) Q E := hf
             split at hf
             · rename_i bs hb
               obtain ⟨l, hl, hb2⟩ := Option.bind_eq_some_iff.mp hb
               obtain ⟨xs, q1, p1⟩ := st.seq hl
               have e := bools_ok p1 hb2
               subst e
               exact cr_all hc pins s σ H _ us Q I r ⟨_, bs, rfl, q1, hf.here st (.bl _)⟩
             · exact hf.elim)
          | (have hf : fin X.K X.mg T (relV X.K X.mg T) ρ S.length H (match (items S n).bind bools with
              | some l => .ok (.bl (l.any id)) S
              | none => .bad) Q E := hf
             split at hf
             · rename_i bs hb
               obtain ⟨l, hl, hb2⟩ := Option.bind_eq_some_iff.mp hb
               obtain ⟨xs, q1, p1⟩ := st.seq hl
               have e := bools_ok p1 hb2
               subst e
               exact cr_any hc pins s σ H _ us Q I r ⟨_, bs, rfl, q1, hf.here st (.bl _)⟩
             · exact hf.elim)
theorem tuple_D : CallR X (.type "tuple") (rDs X.K X.mg T (biD "tuple")) := by
  intro pins s σ H xs us Q I r h
  obtain ⟨ρ, S, ds, E, st, rs, hf⟩ := h
  cases rs with
  | nil => exact hf.elim
  | cons r1 rs =>
    cases rs with
    | cons _ _ => cases r1 <;> exact hf.elim
    | nil =>
      cases r1 <;> try exact hf.elim
      · rename_i a xs l q1 p1
        exact call_tuple_of pins s σ H _ us Q I r ⟨a, xs, rfl, .inr ⟨q1, hf.tupO st q1 p1⟩⟩
      · rename_i n hn
        have hf : fin X.K X.mg T (relV X.K X.mg T) ρ S.length H (match items S n with
          | some l => .ok (.tup l) S
          | none => .bad) Q E := hf
        split at hf
        · rename_i l hl
          obtain ⟨xs, q1, p1⟩ := st.seq hl
          exact call_tuple_of pins s σ H _ us Q I r ⟨_, xs, rfl, .inl ⟨q1, hf.tup st p1⟩⟩
        · exact hf.elim
theorem list_D : CallR X (.type "list") (rDs X.K X.mg T (biD "list")) := by
  intro pins s σ H xs us Q I r h
  obtain ⟨ρ, S, ds, E, st, rs, hf⟩ := h
  cases rs with
  | nil => exact hf.elim
  | cons r1 rs =>
    cases rs with
    | cons _ _ => cases r1 <;> exact hf.elim
    | nil =>
      cases r1 <;> try exact hf.elim
      · rename_i a xs l q1 p1
        have hf : fin X.K X.mg T (relV X.K X.mg T) ρ S.length H (if l.length ≤ LIM then new S l else .bad) Q E := hf
        split at hf
        · exact call_list_of pins s σ H _ us Q I r ⟨a, xs, rfl, .inr q1, (hf.new st p1).2⟩
        · exact hf.elim
      · rename_i n hn
        have hf : fin X.K X.mg T (relV X.K X.mg T) ρ S.length H (match items S n with
          | some l => if l.length ≤ LIM then new S l else .bad
          | none => .bad) Q E := hf
        split at hf
        · rename_i l hl
          obtain ⟨xs, q1, p1⟩ := st.seq hl
          split at hf
          · exact call_list_of pins s σ H _ us Q I r ⟨_, xs, rfl, .inl q1, (hf.new st p1).2⟩
          · exact hf.elim
        · exact hf.elim
end
end Ev

/-! ## EvF -/
set_option Elab.async false
set_option linter.all false
set_option maxRecDepth 100000
set_option maxHeartbeats 4000000
/-! Promises of defs where nothing is being shown by repr around the call (A.guards = some []). -/
namespace Ev
open PySem PySem.Spec PyProof.Rows L2
structure FnG (P : Program) (w : World) (K : PySem.W.Frag) (mg : Str → Option Value) (base : Heap) (k : Nat) (f : Addr) (fd : FuncData) (ps : List Str) (sp : Sp) : Prop where
  len : ∀ vs H Q E, sp vs H Q E → vs.length = ps.length
  run : ∀ (A : Around) (outer : List Env) (s : Shared) (H : Hp) (args : Args) (us : List Value) (vs : List V) (Q : VK) (E : XK), Room k A → A.guards = some [] → Env0 P w K mg base A outer s H → BindsTo s fd args (ps.zip us) → Vals vs us → sp vs H Q E →
    codeAny (model P w) A (.call (.ref f) args) (CR (L2.CX P w) outer P w H s Q E) s
theorem fnG_of {P : Program} {w : World} {K : PySem.W.Frag} {mg : Str → Option Value} {base : Heap} {k : Nat} {f : Addr} {x qual : Str} {st : Stmt} {fd : FuncData} {N ps : List Str} {sp : Sp} (F : L2.Fun K x qual st f fd) (S : FnScope N ps (defScope st))
    (len : ∀ vs H Q E, sp vs H Q E → vs.length = ps.length)
    (hbody : ∀ (cdv : Value) (A : Around) (outer : List Env) (s : Shared) (H : Hp) (vs : List V) (Q : VK) (E : XK), Room k (A.deeper (envOfC qual (defScope st) s.heap.objs.size f cdv)) → (A.deeper (envOfC qual (defScope st) s.heap.objs.size f cdv)).guards = some [] → sp vs H Q E →
      ∃ t, PSs (cxOf (L2.CX P w) P w K mg base N qual (defScope st) f cdv A outer s H E) (defBody st) t ∧ t { nx := fun _ H' => Q .non H', rt := Q } (start N vs) H) :
    FnG P w K mg base (k + 1) f fd ps sp := by
  obtain ⟨oc, od, kV, doc, pm, an, cdv, ct, osl, rfl, lk, hcd⟩ := F.ex
  refine ⟨len, fun A outer s H args us vs Q E hr hg e0 hb r hsp => ?_⟩
  have kept : ∀ b o, base.get? b = some o → s.heap.get? b = some o := fun b o e => (e0.bs b o e).1
  have KX : K.In s.heap := e0.mod.kin.keeps kept
  have lim : s.heap.NoLimit := e0.mod.nolimit.keeps kept
  obtain ⟨t, ht, hq⟩ := hbody cdv A outer s H vs Q E (hr.deeper _) hg hsp
  have kinds : ∀ y ∈ ps.zip us, (defScope st).names.lookup y.1 = some .local ∨ ((defScope st).names.lookup y.1 = some .cell ∧ ((cellsFrom (s.heap.objs.size + 1) (defScope st).names []).lookup y.1).isSome = true) := by
    rintro ⟨n, v⟩ hy
    rcases S.par n (List.of_mem_zip hy).1 with q | q
    · exact .inl q
    · exact .inr ⟨q, PySem.W.cellsFrom_some _ _ _ (.inl q)⟩
  refine codeAny_call_function hr.depth (KX _ _ lk) rfl S.co S.gen rfl (PySem.W.codeRec_of KX hcd) (hb _ _ _ _ (wpAny_newFunctionEnv_cells S.kind kinds fun env he s1 x => ?_))
  subst he
  refine ⟨lim.keeps x.toInCall.keep, codeAny_func (wpAny_mono (ht.run [] s1 (start N vs) H _ (inv_start S hr.hd e0 (len _ _ _ _ hsp) r x) hq) (fun fl s' hs => ?_) fun e s' hs => hs)⟩
  cases fl with
  | ret u =>
    obtain ⟨v, σ', H', J, rv, q⟩ := hs
    exact ⟨v, H', J.os, J.bare, J.base, J.hok, rv, q⟩
  | next =>
    obtain ⟨σ', H', J, q⟩ := hs
    exact ⟨V.non, H', J.os, J.bare, J.base, J.hok, rfl, q⟩
  | brk =>
    obtain ⟨_, _, _, q⟩ := hs
    exact q.elim
  | cont =>
    obtain ⟨_, _, _, q⟩ := hs
    exact q.elim
section
variable {X : Cx} {k : Nat} {f : Addr} {fd : FuncData} {ps : List Str} {sp : Sp} {E : L2.St → XK}
theorem run_G {pins : List (Addr × Obj)} {σ : L2.St} {H : Hp} {s : Shared} {Q : VK} {us : List Value} {vs : List V} (F : FnG X.prog X.w X.K X.mg X.base k f fd ps sp) (hr : Room k X.A) (hg : X.A.guards = some []) (hb : Binds X.K fd ps []) (hx : PassesAt (L2.CX X.prog X.w) X σ (E σ))
    (I : Inv X pins σ H s) (r : Vals vs us) (h : sp vs H Q (E σ)) : wpAny (model X.prog X.w) X.A (call (.ref f) us) (EP X pins σ Q) X.xe s := by
  have b := hb s us I.kIn (by rw [List.append_nil, ← r.length]; exact F.len _ _ _ _ h)
  rw [List.append_nil] at b
  refine wpAny_call (codeAny_mono (F.run X.A X.stack s H ⟨us, []⟩ us vs Q (E σ) hr hg I.env0 b r h) fun r s' hq => ?_)
  cases r with
  | error e => exact hx pins H s e s' I hq
  | ok fl =>
    cases fl with
    | ret u => exact I.after hq
    | next => exact hq.elim
    | brk => exact hq.elim
    | cont => exact hq.elim
end
/-- the law's end -/
theorem law_callG {P : Program} {w : World} {K : PySem.W.Frag} {mg mb : Str → Option Value} {k : Nat} {fa a : Addr} {fd : FuncData} {x : Str} {sp : Sp} {s₁ : Shared} {vs : List Value} {ns : List Int}
    (KX : K.In s₁.heap) (hns : s₁.heap.Ns mainGlobals mg) (hb : s₁.heap.Ns builtinsNs mb) (hbb : ∀ x : Str, x ≠ "__name__" → mb x = bootBuiltins x) (hlim : s₁.heap.NoLimit) (hg : s₁.gens = #[])
    (ha : s₁.heap.get? a = some { cls := .type "list", data := .seq vs.toArray }) (hi : IntsAre vs ns) (hl : ns.length ≤ sizeLine) (hr : Room k callerA)
    (F : ∀ base : Heap, K.In base → base.Ns mainGlobals mg → FnG P w K mg base k fa fd [x] sp) (hbind : ∀ (s : Shared) (u : Value), BindsTo s fd ⟨[u], []⟩ [(x, u)])
    (hsp : ∀ H : Hp, Only H → SqL K H a (ns.map V.int) → sp [.ref a] H (fun v _ => v = .bl true) fun _ _ _ => False) :
    codeAny (model P w) callerA (.call (.ref fa) ⟨[.ref a], []⟩) (fun r s' => r = .ok (.ret (.bool true)) ∧ OldK s₁.heap s'.heap ∧ s'.os = s₁.os ∧ AllBare s'.gens) s₁ := by
  have rv := vals_ints hi
  -- the tracked heap: the script, or nothing at all
  suffices core : ∀ H : Hp, (∀ b u, H b = some u → b = a ∧ u = .frz { cls := .type "list", data := .seq vs.toArray } (.lst (ns.map V.int)) ∧ K.lookup a = none) → SqL K H a (ns.map V.int) →
      codeAny (model P w) callerA (.call (.ref fa) ⟨[.ref a], []⟩) (fun r s' => r = .ok (.ret (.bool true)) ∧ OldK s₁.heap s'.heap ∧ s'.os = s₁.os ∧ AllBare s'.gens) s₁ by
    cases hk : K.lookup a with
    | some o =>
      have e := KX a o hk
      rw [ha] at e
      cases e
      exact core (fun _ => none) (fun b u z => nomatch z) (.inr ⟨_, vs.toArray, _, hk, rfl, rfl, rfl, by rw [List.size_toArray, hi.length]; exact hl, by simpa using rv⟩)
    | none =>
      refine core (upd (fun _ => none) a (.frz { cls := .type "list", data := .seq vs.toArray } (.lst (ns.map V.int)))) (fun b u z => ?_) (.inl (.inr ⟨_, upd_same⟩))
      by_cases hba : b = a
      · subst hba
        rw [upd_same] at z
        exact ⟨rfl, (Option.some.inj z).symm, hk⟩
      · rw [upd_ne hba] at z
        cases z
  intro H hH hS
  have hO : Only H := fun b => by
    cases q : H b with
    | none => exact .inl rfl
    | some u =>
      obtain ⟨_, e, _⟩ := hH b u q
      subst e
      exact .inr ⟨_, _, rfl⟩
  have hok : HOk P w H s₁.heap := fun b u q => by
    obtain ⟨e1, e2, _⟩ := hH b u q
    subst e1 e2
    exact ⟨ha, by rw [List.length_map]; exact hl, vs, _, rv, ha⟩
  have free : ∀ {b : Addr} {o : Obj}, s₁.heap.get? b = some o → (b ≠ a ∨ (K.lookup a).isSome = true) → H b = none := fun {b o} e n => by
    cases q : H b with
    | none => rfl
    | some u =>
      obtain ⟨e1, _, e3⟩ := hH b u q
      rcases n with n | n
      · exact absurd e1 n
      · rw [e3] at n
        cases n
  have nsK : ∀ {b : Addr} {m : Str → Option Value}, s₁.heap.Ns b m → (hidT s₁.heap H).Ns b m := fun {b m} ⟨o, es, ep, e, d, r⟩ =>
    ⟨o, es, ep, hidT_get e (free e (.inl fun z => by subst z; rw [ha] at e; cases e; cases (show Data.seq vs.toArray _ = Data.dict es ep from d))), d, r⟩
  have hKb : K.In (hidT s₁.heap H) := fun b o e => hidT_get (KX b o e) (free (KX b o e) (by
    by_cases hba : b = a
    · subst hba
      exact .inr (by rw [e]; rfl)
    · exact .inl hba))
  have hM : Mod K mg (hidT s₁.heap H) := ⟨hKb, nsK hns, ⟨mb, nsK hb, hbb⟩, let ⟨mc, h1, h2⟩ := hlim; ⟨mc, nsK h1, h2⟩⟩
  have e0 : Env0 P w K mg (hidT s₁.heap H) callerA [] s₁ H := ⟨rfl, hM, fun b o e => of_hidT e, Nat.le_of_eq (hidT_size _ _), trivial, fun b hb => absurd (show b ∈ ([] : List Addr) from hb) (by simp), hok, .of_eq hg⟩
  refine codeAny_mono ((F _ hKb (nsK hns)).run callerA [] s₁ H ⟨[.ref a], []⟩ [.ref a] [.ref a] _ _ hr rfl e0 (hbind s₁ (.ref a)) (.cons rfl .nil) (hsp H hO hS)) fun r s' h => ?_
  cases r with
  | error e =>
    obtain ⟨_, _, _, _, _, _, _, _, _, _, _, _, z⟩ := h
    exact z.elim
  | ok fl =>
    cases fl with
    | next => exact h.elim
    | brk => exact h.elim
    | cont => exact h.elim
    | ret u =>
      obtain ⟨v, H', os, bare, un, hok', r', q⟩ := h
      have q' : v = .bl true := q
      subst q'
      obtain rfl : u = Value.bool true := r'
      refine ⟨rfl, OldK.of_keep fun b o e => ?_, os, bare⟩
      cases q : H b with
      | none => exact un.keep b o e q (fun z => absurd (show b ∈ ([] : List Addr) from z) (by simp)) (by simp)
      | some u =>
        obtain ⟨e1, e2, _⟩ := hH b u q
        subst e1 e2
        obtain ⟨e3, _⟩ := hok' _ _ (un.frzs _ _ _ q)
        rw [ha] at e
        cases e
        exact e3
theorem walk_ofG {l : PySem.W.OpenLaw} {n k : Nat} {q : Program} {loose : List Str} {XP : (Str → Option Value) → Heap → Prop} {YP : World → Heap → Prop} {d : DefRec} {K : Params → PySem.W.Frag} {sp : World → Sp} {x : Str}
    (hn : l.most = some n) (hn2 : n ≤ sizeLine) (hdf : d.params.defaults = []) (hr : Room k callerA)
    (hY : ∀ (w : World) (h : Heap), YP w h → (K w.params).In h)
    (F : ∀ (w : World) (mg : Str → Option Value) (fa : Addr) (h : Heap), (K w.params).In h → h.Ns mainGlobals mg → mg d.name = some (.ref fa) →
      ∃ fd : FuncData, (∀ (s : Shared) (u : Value), BindsTo s fd ⟨[u], []⟩ [(x, u)]) ∧
        ∀ base : Heap, (K w.params).In base → base.Ns mainGlobals mg → FnG l.prog w (K w.params) mg base k fa fd [x] (sp w))
    (hsp : ∀ (w : World) (H : Hp) (a : Addr) (ns : List Int), ns.length ≤ n → Only H → SqL (K w.params) H a (ns.map V.int) → sp w [.ref a] H (fun v _ => v = .bl true) fun _ _ _ => False) :
    PySem.W.WalkO q loose XP YP l.row.toRowW d [] (fun f vs => PySem.call f vs) := by
  refine Att.attach_call hn hdf fun w s₀ s₁ mg mb fa o pm cd doc a vs ns G Y ho hd hcd hmg hobj hints hlen hg => ?_
  have KX := hY w _ Y
  obtain ⟨fd, hb, hF⟩ := F w mg fa _ KX G.T.g hmg
  exact law_callG KX G.T.g G.T.b G.T.builtins G.T.nolimit hg hobj hints (Nat.le_trans hlen hn2) hr hF hb (fun H hO hS => hsp w H a ns hlen hO hS)
end Ev

/-! ## EvG -/
set_option Elab.async false
set_option linter.all false
set_option maxRecDepth 100000
set_option maxHeartbeats 4000000
/-! The expressions' rules. -/
namespace Ev
open PySem PySem.Spec PyProof.Rows L2
/-- a def's promise by a plain function -/
def spF (K : PySem.W.Frag) (mg : Str → Option Value) (T : Tb) (np : Nat) (f : List D → Sto → R D) : Sp := fun vs H Q E => ∃ ρ S ds, vs.length = np ∧ RpL K mg T ρ S.length H vs ds ∧ Stt K mg T ρ H S ∧ fin K mg T (relV K mg T) ρ S.length H (f ds S) Q E
/-- what is true of the program wherever one stands -/
structure Kn (P : Program) (w : World) (K : PySem.W.Frag) (mg : Str → Option Value) (base : Heap) (T : Tb) (Γ : Ctx) (n : Nat) : Prop where
  cst : ∀ k x, T.csts[k]? = some x → ∃ u v, mg x = some u ∧ RelV v u ∧ ∀ ρ N H, Rp K mg T ρ N H v (Γ.cst k)
  fn : ∀ k x, T.fns[k]? = some x → ∃ f fd ps, mg x = some (.ref f) ∧ PySem.W.keepIn K (.ref f) = true ∧ Binds K fd ps [] ∧ (∀ ds S, ds.length ≠ ps.length → Γ.fn k ds S = .bad) ∧ FnG P w K mg base n f fd ps (spF K mg T ps.length (Γ.fn k))
  bis : ∀ x, x ∈ T.bis → mg x = none
/-- what is true of a class of errors -/
structure ClsOk (K : PySem.W.Frag) (C : Addr) (fl : List Str) : Prop where
  xf : XfC K C
  no : ∀ f, f ∈ fl → PySem.W.findIn K (.ref C) f = some none
  nd : fl.Nodup
  cl : (PySem.W.clsIn K C).isSome = true
  ha : PySem.W.findIn K (.ref C) "__class__" = some (some (.builtin "object.__class__"))
  hn : PySem.W.specialIn K (.builtin "object.__class__") "__get__" = some (some (.builtin "getset_descriptor.__get__"))
  ht : PySem.W.takesIn K (.builtin "object.__class__") = some true
  hm : PySem.W.mroIn K C (.type "object") = some true
structure Kc (K : PySem.W.Frag) (mg : Str → Option Value) (T : Tb) (Γ : Ctx) : Prop where
  flds : Γ.flds = T.flds
  cls : ∀ c x, T.cls[c]? = some x → ∃ C, mg x = some (.ref C) ∧ ClsOk K C (T.flds c)
  sub : ∀ c d x y C D, T.cls[c]? = some x → T.cls[d]? = some y → mg x = some (.ref C) → mg y = some (.ref D) → PySem.W.exmOne K (.ref C) (.ref D) = some (Γ.sub c d) ∧ PySem.W.kitOne K (.ref C) (.ref D) = some (Γ.sub c d)
  val : T.kin ≠ none → ∀ (c : Nat) (x : Str) (C : Addr), T.cls[c]? = some x → mg x = some (.ref C) → PySem.W.kitOne K (.ref C) (.type "ValueError") = some true
structure Ok (X : Cx) (T : Tb) (Γ : Ctx) (n : Nat) (N : List Str) (sc : Scope) (fb : Str → Bool) : Prop where
  kn : Kn X.prog X.w X.K X.mg X.base T Γ n
  room : Room n X.A
  gd : X.A.guards = some []
  calm : X.calm = true
  nd : X.N.Nodup
  N : X.N = N
  sc : X.env.scope = sc
  fn : ∀ x, fb x = true → X.fn x = true
abbrev rdE (X : Cx) (T : Tb) (Γ : Ctx) (W : WX) (m : Nat) (x : Ex) : TE := rdG X.K X.mg T (relV X.K X.mg T) W (evB Γ m false x)
def relB : Rel D Bool := fun _ _ _ b d => d = .bl b
abbrev rdT (X : Cx) (T : Tb) (Γ : Ctx) (W : WX) (m : Nat) (x : Ex) : TT := rdG X.K X.mg T relB W (evB Γ m true x)
abbrev rdL (X : Cx) (T : Tb) (Γ : Ctx) (W : WX) (m : Nat) (xs : List Ex) : TA := rdG X.K X.mg T (relVs X.K X.mg T) W (evL (evB Γ m false) xs)
abbrev rdO (X : Cx) (T : Tb) (Γ : Ctx) (W : WX) (m : Nat) (x : Option Ex) : TO := rdG X.K X.mg T relO W (optI (evB Γ m false) x)
theorem PE.imp {X : Cx} {e : Expr} {t t' : TE} (h : PE X e t) (g : ∀ σ H Q, t' σ H Q → t σ H Q) : PE X e t' := ⟨fun pins s σ H Q I q => h.run pins s σ H Q I (g _ _ _ q)⟩
theorem PT.imp {X : Cx} {e : Expr} {t t' : TT} (h : PT X e t) (g : ∀ σ H Q, t' σ H Q → t σ H Q) : PT X e t' := ⟨fun pins s σ H Q I q => h.run pins s σ H Q I (g _ _ _ q)⟩
theorem PW.imp {X : Cx} {e : Expr} {t t' : TT} (h : PW X e t) (g : ∀ σ H Q, t' σ H Q → t σ H Q) : PW X e t' := ⟨fun wh pins s σ H Q I q => h.run wh pins s σ H Q I (g _ _ _ q)⟩
theorem PA.imp {X : Cx} {e : List Expr} {t t' : TA} (h : PA X e t) (g : ∀ σ H Q, t' σ H Q → t σ H Q) : PA X e t' := ⟨fun pos pins s σ H Q I q => h.run pos pins s σ H Q I (g _ _ _ q)⟩
theorem PO.imp {X : Cx} {e : Option Expr} {t t' : TO} (h : PO X e t) (g : ∀ σ H Q, t' σ H Q → t σ H Q) : PO X e t' := ⟨fun pins s σ H Q I q => h.run pins s σ H Q I (g _ _ _ q)⟩
theorem PS.imp {X : Cx} {e : Stmt} {t t' : TS} (h : PS X e t) (g : ∀ D σ H, t' D σ H → t D σ H) : PS X e t' := ⟨fun pins s σ H D I q => h.run pins s σ H D I (g _ _ _ q)⟩
section
variable {X : Cx} {T : Tb} {Γ : Ctx} {W : WX} {m : Nat} {e a b c : Expr} {es : List Expr} {x y z : Ex} {xs : List Ex} {pos p : Pos}
theorem pe_bad (h : ∀ fr S, evB Γ m false x fr S = .bad) : PE X e (rdE X T Γ W m x) := ⟨fun pins s σ H Q I q => by
  obtain ⟨ρ, fr, S, _, _, hf⟩ := q
  rw [h] at hf
  exact hf.elim⟩
theorem pt_bad (h : ∀ fr S, evB Γ m true x fr S = .bad) : PT X e (rdT X T Γ W m x) := ⟨fun pins s σ H Q I q => by
  obtain ⟨ρ, fr, S, _, _, hf⟩ := q
  rw [h] at hf
  exact hf.elim⟩
/-! ### stars -/
def nst : Expr → Bool
  | .Starred _ _ => false
  | _ => true
theorem nst_ok {env : Env} (h : nst e = true) : starEach (e :: es) env = (false, eval e env) :: starEach es env := by
  cases e <;> first
    | rfl
    | exact absurd (show false = true from h) Bool.false_ne_true
theorem nst_plain {env : Env} {pos : Pos} : ∀ {es : List Expr}, es.all nst = true → (backTo pos (starEach es env)).any (·.1) = false
  | [], _ => rfl
  | e :: es, h => by
    rw [List.all_cons, Bool.and_eq_true] at h
    rw [nst_ok h.1]
    show (false || (backTo pos (starEach es env)).any (·.1)) = false
    rw [nst_plain h.2]
    rfl
theorem nst_few {env : Env} {pos : Pos} : ∀ {es : List Expr}, es.all nst = true → (backTo pos (starEach es env)).all (fun x => !x.1) = true
  | [], _ => rfl
  | e :: es, h => by
    rw [List.all_cons, Bool.and_eq_true] at h
    rw [nst_ok h.1]
    show (true && (backTo pos (starEach es env)).all (fun x => !x.1)) = true
    rw [nst_few h.2]
    rfl
/-! ### lists of expressions -/
theorem sl_nil : PA X [] (rdL X T Γ W m []) := PA.imp pa_nil fun σ H Q h => by
  obtain ⟨ρ, fr, S, hs, ht, hf⟩ := h
  exact hf.here ht (show relVs X.K X.mg T ρ S.length H [] [] from .nil)
theorem sl_cons (h : nst e = true) (h1 : PE X e (rdE X T Γ W m x)) (h2 : PA X es (rdL X T Γ W m xs)) : PA X (e :: es) (rdL X T Γ W m (x :: xs)) := PA.imp (pa_cons h1 h2 (nst_ok h)) fun σ H Q h => by
  obtain ⟨ρ, fr, S, hs, ht, hf⟩ := h
  exact rd_of hs ht (fin.bind hf fun v1 ρ1 H1 d1 S1 x1 s1 r1 h1 => rd_of (hs.mono x1) s1 (fin.bind h1 fun v2 ρ2 H2 d2 S2 x2 s2 r2 h2 => h2.here s2 (.cons (r1.mono x2) r2)))
/-! ### names, constants, displays -/
theorem se_loc {i : Nat} {n : Str} (hN : X.N[i]? = some n) (hv : Vis X.env.scope n) (hd : (n == ("__debug__" : Str)) = false) (hcd : (n == ("__classdict__" : Str)) = false) : PE X (.Name n pos) (rdE X T Γ W m (.loc i)) := by
  cases m with
  | zero => exact pe_bad fun _ _ => rfl
  | succ m =>
    refine PE.imp (pe_var hN hv hd hcd) fun σ H Q h => ?_
    obtain ⟨ρ, fr, S, hs, ht, hf⟩ := h
    have hf : fin X.K X.mg T (relV X.K X.mg T) ρ S.length H (match fr[i]? with
      | some (some d) => .ok d S
      | _ => .bad) Q (fun c d H' => W c d σ H') := hf
    split at hf
    · rename_i d hd
      obtain ⟨v, hv, r⟩ := hs.at_ i d hd
      exact ⟨v, hv, hf.here ht r⟩
    · exact hf.elim
theorem se_cst {v : V} {d : D} (h : PE X e (tC v)) (r : ∀ ρ N H, Rp X.K X.mg T ρ N H v d) : PE X e (rdE X T Γ W m (.cst d)) := by
  cases m with
  | zero => exact pe_bad fun _ _ => rfl
  | succ m =>
    refine PE.imp h fun σ H Q h => ?_
    obtain ⟨ρ, fr, S, hs, ht, hf⟩ := h
    exact hf.here ht (r _ _ _)
theorem se_gl {n N : Nat} {sc : Scope} {fb : Str → Bool} {Ns : List Str} {k : Nat} {nm : Str} (ok : Ok X T Γ n Ns sc fb) (hg : Gl X nm) (hk : T.csts[k]? = some nm) (hd : (nm == ("__debug__" : Str)) = false) : PE X (.Name nm pos) (rdE X T Γ W m (.gl k)) := by
  cases m with
  | zero => exact pe_bad fun _ _ => rfl
  | succ m =>
    obtain ⟨u, v, hm, r, hr⟩ := ok.kn.cst k nm hk
    refine PE.imp (pe_glob hg hm r hd) fun σ H Q h => ?_
    obtain ⟨ρ, fr, S, hs, ht, hf⟩ := h
    exact hf.here ht (hr _ _ _)
theorem se_gf {n : Nat} {sc : Scope} {fb : Str → Bool} {Ns : List Str} {k : Nat} {nm : Str} (ok : Ok X T Γ n Ns sc fb) (hg : Gl X nm) (hk : T.fns[k]? = some nm) (hd : (nm == ("__debug__" : Str)) = false) : PE X (.Name nm pos) (rdE X T Γ W m (.gf k)) := by
  cases m with
  | zero => exact pe_bad fun _ _ => rfl
  | succ m =>
    obtain ⟨f, fd, ps, hm, _⟩ := ok.kn.fn k nm hk
    refine PE.imp (pe_glob (v := .ref f) hg hm rfl hd) fun σ H Q h => ?_
    obtain ⟨ρ, fr, S, hs, ht, hf⟩ := h
    exact hf.here ht (.fn hk hm)
theorem se_tup {k : Nat} (h : PA X es (rdL X T Γ W m xs)) : PE X (.Tuple es k pos) (rdE X T Γ W (m + 1) (.tup xs)) := PE.imp (pe_tup h) fun σ H Q h => by
  obtain ⟨ρ, fr, S, hs, ht, hf⟩ := h
  exact rd_of hs ht (fin.bind hf fun v1 ρ1 H1 d1 S1 x1 s1 r1 h1 => h1.newT s1 r1)
theorem se_lst (h : PA X es (rdL X T Γ W m xs)) : PE X (.List es pos) (rdE X T Γ W (m + 1) (.lst xs)) := PE.imp (pe_lst h) fun σ H Q h => by
  obtain ⟨ρ, fr, S, hs, ht, hf⟩ := h
  exact rd_of hs ht (fin.bind hf fun v1 ρ1 H1 d1 S1 x1 s1 r1 h1 => h1.new s1 r1)
/-! ### operators -/
theorem se_bin {op : Operator} (ha : PE X a (rdE X T Γ W m x)) (hb : PE X b (rdE X T Γ W m y)) : PE X (.BinOp a op b pos) (rdE X T Γ W (m + 1) (.bin op x y)) := PE.imp (pe_op (op_D (T := T) op) ha hb) fun σ H Q h => by
  obtain ⟨ρ, fr, S, hs, ht, hf⟩ := h
  exact rd_of hs ht (fin.bind hf fun v1 ρ1 H1 d1 S1 x1 s1 r1 h1 => rd_of (hs.mono x1) s1 (fin.bind h1 fun v2 ρ2 H2 d2 S2 x2 s2 r2 h2 => ⟨ρ2, S2, d1, d2, _, s2, r1.mono x2, r2, h2⟩))
theorem se_neg (ha : PE X a (rdE X T Γ W m x)) : PE X (.UnaryOp .USub a pos) (rdE X T Γ W (m + 1) (.neg x)) := PE.imp (pe_un un_neg ha) fun σ H Q h => by
  obtain ⟨ρ, fr, S, hs, ht, hf⟩ := h
  refine rd_of hs ht (fin.bind hf fun v1 ρ1 H1 d1 S1 x1 s1 r1 h1 => ?_)
  cases r1 <;> try exact h1.elim
  exact ⟨_, rfl, h1.here s1 (.int _)⟩
theorem se_cmp {op : CmpOp} (hu : X.A.units + 64 < cLine) (hm : behindInMarks op b = false) (ha : PE X a (rdE X T Γ W m x)) (hb : PE X b (rdE X T Γ W m y)) : PE X (.Compare a [op] [b] pos) (rdE X T Γ W (m + 1) (.cmp op x y)) := PE.imp (pe_cmpR (cmp_D (T := T) hu op) ha hb hm) fun σ H Q h => by
  obtain ⟨ρ, fr, S, hs, ht, hf⟩ := h
  exact rd_of hs ht (fin.bind hf fun v1 ρ1 H1 d1 S1 x1 s1 r1 h1 => rd_of (hs.mono x1) s1 (fin.bind h1 fun v2 ρ2 H2 d2 S2 x2 s2 r2 h2 => ⟨ρ2, S2, d1, d2, _, s2, r1.mono x2, r2, h2⟩))
theorem se_chn {o1 o2 : CmpOp} (hu : X.A.units + 64 < cLine) (hm : lastMarks [o1, o2] [b, c] = false) (ha : PE X a (rdE X T Γ W m x)) (hb : PE X b (rdE X T Γ W m y)) (hc : PE X c (rdE X T Γ W m z)) : PE X (.Compare a [o1, o2] [b, c] pos) (rdE X T Γ W (m + 1) (.chn o1 o2 x y z)) :=
  PE.imp (pe_chain (cmp_D (T := T) hu o1) (cmp_D (T := T) hu o2) ha hb hc hm) fun σ H Q h => by
    obtain ⟨ρ, fr, S, hs, ht, hf⟩ := h
    refine rd_of hs ht (fin.bind hf fun v1 ρ1 H1 d1 S1 x1 s1 r1 h1 => rd_of (hs.mono x1) s1 (fin.bind h1 fun v2 ρ2 H2 d2 S2 x2 s2 r2 h2 => ⟨ρ2, S2, d1, d2, fun c d H' => W c d σ H', s2, r1.mono x2, r2, fin.bind h2 fun v3 ρ3 H3 d3 S3 x3 s3 r3 h3 => ?_⟩))
    cases r3 <;> try exact h3.elim
    rename_i k
    refine ⟨k, rfl, ?_⟩
    cases k with
    | false => exact h3.here s3 (.bl _)
    | true => exact rd_of ((hs.mono x1).mono (x2.trans x3)) s3 (fin.bind h3 fun v4 ρ4 H4 d4 S4 x4 s4 r4 h4 => ⟨ρ4, S4, d2, d4, _, s4, r2.mono (x3.trans x4), r4, h4⟩)
theorem se_ix (hi : PlainIx b) (ha : PE X a (rdE X T Γ W m x)) (hb : PE X b (rdE X T Γ W m y)) : PE X (.Subscript a b pos) (rdE X T Γ W (m + 1) (.ix x y)) := PE.imp (pe_ix (ix_D (T := T)) ha hb hi) fun σ H Q h => by
  obtain ⟨ρ, fr, S, hs, ht, hf⟩ := h
  exact rd_of hs ht (fin.bind hf fun v1 ρ1 H1 d1 S1 x1 s1 r1 h1 => rd_of (hs.mono x1) s1 (fin.bind h1 fun v2 ρ2 H2 d2 S2 x2 s2 r2 h2 => ⟨ρ2, S2, d1, d2, _, s2, r1.mono x2, r2, h2⟩))
theorem so_none : PO X none (rdO X T Γ W m none) := PO.imp po_none fun σ H Q h => by
  obtain ⟨ρ, fr, S, hs, ht, hf⟩ := h
  exact hf.here ht rfl
theorem so_some (ha : PE X a (rdE X T Γ W m x)) : PO X (some a) (rdO X T Γ W m (some x)) := PO.imp (po_some ha) fun σ H Q h => by
  obtain ⟨ρ, fr, S, hs, ht, hf⟩ := h
  refine rd_of hs ht (fin.bind hf fun v1 ρ1 H1 d1 S1 x1 s1 r1 h1 => ?_)
  cases r1 <;> try exact h1.elim
  exact ⟨_, rfl, h1.here s1 rfl⟩
theorem se_sl {lo hi : Option Expr} {l h' : Option Ex} {p2 : Pos} (ha : PE X a (rdE X T Γ W m x)) (hl : PO X lo (rdO X T Γ W m l)) (hh : PO X hi (rdO X T Γ W m h')) : PE X (.Subscript a (.Slice lo hi none p2) pos) (rdE X T Γ W (m + 1) (.sl x l h')) := PE.imp (pe_slice (sl_D (T := T)) ha hl hh) fun σ H Q h => by
  obtain ⟨ρ, fr, S, hs, ht, hf⟩ := h
  refine rd_of hs ht (fin.bind hf fun v1 ρ1 H1 d1 S1 x1 s1 r1 h1 => rd_of (hs.mono x1) s1 (fin.bind h1 fun v2 ρ2 H2 d2 S2 x2 s2 r2 h2 => rd_of ((hs.mono x1).mono x2) s2 (fin.bind h2 fun v3 ρ3 H3 d3 S3 x3 s3 r3 h3 => ?_)))
  cases r2
  cases r3
  exact ⟨ρ3, S3, d1, _, s3, r1.mono (x2.trans x3), h3⟩
theorem se_rev {lo : Option Expr} {l : Option Ex} {k : Nat} {p1 p2 p3 : Pos} (ha : PE X a (rdE X T Γ W m x)) (hl : PO X lo (rdO X T Γ W m l)) : PE X (.Subscript a (.Slice lo none (some (.UnaryOp .USub (.Constant (.int 1) k p1) p2)) p3) pos) (rdE X T Γ W (m + 1) (.rev x l)) := PE.imp (pe_rev ha hl) fun σ H Q h => by
  obtain ⟨ρ, fr, S, hs, ht, hf⟩ := h
  refine rd_of hs ht (fin.bind hf fun v1 ρ1 H1 d1 S1 x1 s1 r1 h1 => rd_of (hs.mono x1) s1 (fin.bind h1 fun v2 ρ2 H2 d2 S2 x2 s2 r2 h2 => ?_))
  cases r2
  exact rev_D s2 (r1.mono x2) h2
theorem se_ite (hc : PT X c (rdT X T Γ W m z)) (ha : PE X a (rdE X T Γ W m x)) (hb : PE X b (rdE X T Γ W m y)) : PE X (.IfExp c a b pos) (rdE X T Γ W (m + 1) (.ite z x y)) := PE.imp (pe_ifExp hc ha hb) fun σ H Q h => by
  obtain ⟨ρ, fr, S, hs, ht, hf⟩ := h
  refine rd_of hs ht (fin.bind hf fun v1 ρ1 H1 d1 S1 x1 s1 r1 h1 => ?_)
  have r1 : d1 = .bl v1 := r1
  subst r1
  cases v1 with
  | true => exact rd_of (hs.mono x1) s1 h1
  | false => exact rd_of (hs.mono x1) s1 h1
end
end Ev

/-! ## EvH -/
set_option Elab.async false
set_option linter.all false
set_option maxRecDepth 100000
set_option maxHeartbeats 4000000
/-! The expressions' rules (2): tests, calls. -/
namespace Ev
open PySem PySem.Spec PyProof.Rows L2
section
variable {X : Cx} {T : Tb} {Γ : Ctx} {W : WX} {m : Nat} {e a b c : Expr} {es : List Expr} {x y z : Ex} {xs : List Ex} {pos p : Pos}
/-! ### truth -/
theorem truV_D {ρ : Nat → Addr} {H : Hp} {S : Sto} {v : V} {d : D} {k : Bool} (st : Stt X.K X.mg T ρ H S) (r : Rp X.K X.mg T ρ S.length H v d) (h : truD S d = some k) : TruV X.K v H k := by
  cases r with
  | non => cases h; rfl
  | bl b => cases h; rfl
  | int i => cases h; rfl
  | str z =>
    have h : (if z.length ≤ LIM then some ((z.length : Int) != 0) else none) = some k := h
    split at h
    · rename_i hz
      cases h
      exact ⟨lim_size hz, rfl⟩
    · cases h
  | rep p => cases h
  | fn _ _ => cases h
  | @tup a xs ds q1 q2 =>
    cases h
    refine .inr (.inl ⟨xs, q1, ?_⟩)
    have := q2.length
    cases xs <;> cases ds <;> first
      | rfl
      | simp at this
  | @obj n hn =>
    have h : (items S n).map (fun l => !l.isEmpty) = some k := h
    cases hi : items S n with
    | none => rw [hi] at h; cases h
    | some l =>
      rw [hi] at h
      cases h
      obtain ⟨xs, q1, q2⟩ := st.seq hi
      refine .inl ⟨xs, q1, ?_⟩
      have := q2.length
      cases xs <;> cases l <;> first
        | rfl
        | simp at this
/-- an expression without a rule of its own as a test -/
def plainT : Ex → Bool
  | .andd _ => false
  | .orr _ => false
  | .not _ => false
  | .cmp _ _ _ => false
  | .chn _ _ _ _ _ => false
  | .ite _ _ _ => false
  | _ => true
theorem evT_plain (h : plainT x = true) {fr : Frm} {S : Sto} : evB Γ (m + 1) true x fr S = (evB Γ m false x fr S).bind fun d S1 => match truD S1 d with
      | some b => .ok (.bl b) S1
      | none => .bad := by
  cases x <;> first
    | rfl
    | exact absurd (show false = true from h) Bool.false_ne_true
/-- no rule of isTrue -/
def plainE : Expr → Bool
  | .UnaryOp .Not _ _ => false
  | .BoolOp _ _ _ => false
  | .IfExp _ _ _ _ => false
  | .Compare _ _ _ _ => false
  | _ => true
theorem plainE_ok (h : plainE e = true) : ∀ (env : Env) (whole : Sem Value), isTrue e env whole = (do
    let v ← whole
    standAt e.pos
    holding [v] (truthy v)) := by
  intro env whole
  cases e <;> first
    | rfl
    | exact absurd (show false = true from h) Bool.false_ne_true
    | skip
  rename_i op o p
  cases op <;> first
    | rfl
    | exact absurd (show false = true from h) Bool.false_ne_true
theorem st_plain (hp : plainE e = true) (hx : plainT x = true) (ha : PE X e (rdE X T Γ W m x)) : PT X e (rdT X T Γ W (m + 1) x) := PT.imp (pt_truth ha (plainE_ok hp X.env)) fun σ H Q h => by
  obtain ⟨ρ, fr, S, hs, ht, hf⟩ := h
  rw [evT_plain hx] at hf
  refine rd_of hs ht (fin.bind hf fun v1 ρ1 H1 d1 S1 x1 s1 r1 h1 => ?_)
  split at h1
  · rename_i k hk
    exact ⟨k, truV_D s1 r1 hk, h1.here s1 (show relB ρ1 S1.length H1 k (.bl k) from rfl)⟩
  · exact h1.elim
theorem st_cmp {op : CmpOp} (hu : X.A.units + 64 < cLine) (hm : behindInMarks op b = false) (ha : PE X a (rdE X T Γ W m x)) (hb : PE X b (rdE X T Γ W m y)) : PT X (.Compare a [op] [b] pos) (rdT X T Γ W (m + 1) (.cmp op x y)) := PT.imp (pt_cmpR (cmp_D (T := T) hu op) ha hb hm) fun σ H Q h => by
  obtain ⟨ρ, fr, S, hs, ht, hf⟩ := h
  refine rd_of hs ht (fin.bind hf fun v1 ρ1 H1 d1 S1 x1 s1 r1 h1 => rd_of (hs.mono x1) s1 (fin.bind h1 fun v2 ρ2 H2 d2 S2 x2 s2 r2 h2 => ?_))
  refine ⟨ρ2, S2, d1, d2, fun c d H' => W c d σ H', s2, r1.mono x2, r2, fin.bind h2 fun v3 ρ3 H3 d3 S3 x3 s3 r3 h3 => ?_⟩
  cases r3 <;> try exact h3.elim
  rename_i k
  exact ⟨k, rfl, h3.here s3 (show relB ρ3 S3.length H3 k (.bl k) from rfl)⟩
theorem st_chn {o1 o2 : CmpOp} (hu : X.A.units + 64 < cLine) (hm : lastMarks [o1, o2] [b, c] = false) (ha : PE X a (rdE X T Γ W m x)) (hb : PE X b (rdE X T Γ W m y)) (hc : PE X c (rdE X T Γ W m z)) : PT X (.Compare a [o1, o2] [b, c] pos) (rdT X T Γ W (m + 1) (.chn o1 o2 x y z)) :=
  PT.imp (pt_chain (cmp_D (T := T) hu o1) (cmp_D (T := T) hu o2) ha hb hc hm) fun σ H Q h => by
    obtain ⟨ρ, fr, S, hs, ht, hf⟩ := h
    refine rd_of hs ht (fin.bind hf fun v1 ρ1 H1 d1 S1 x1 s1 r1 h1 => rd_of (hs.mono x1) s1 (fin.bind h1 fun v2 ρ2 H2 d2 S2 x2 s2 r2 h2 => ⟨ρ2, S2, d1, d2, fun c d H' => W c d σ H', s2, r1.mono x2, r2, fin.bind h2 fun v3 ρ3 H3 d3 S3 x3 s3 r3 h3 => ?_⟩))
    cases r3 <;> try exact h3.elim
    rename_i k
    refine ⟨k, rfl, ?_⟩
    cases k with
    | false => exact ⟨false, rfl, h3.here s3 (show relB ρ3 S3.length H3 false (.bl false) from rfl)⟩
    | true =>
      refine rd_of ((hs.mono x1).mono (x2.trans x3)) s3 (fin.bind h3 fun v4 ρ4 H4 d4 S4 x4 s4 r4 h4 => ⟨ρ4, S4, d2, d4, fun c d H' => W c d σ H', s4, r2.mono (x3.trans x4), r4, fin.bind h4 fun v5 ρ5 H5 d5 S5 x5 s5 r5 h5 => ?_⟩)
      cases r5 <;> try exact h5.elim
      rename_i k
      exact ⟨k, rfl, h5.here s5 (show relB ρ5 S5.length H5 k (.bl k) from rfl)⟩
/-! ### not, and, or -/
theorem st_not (ha : PT X a (rdT X T Γ W m x)) : PT X (.UnaryOp .Not a pos) (rdT X T Γ W (m + 1) (.not x)) := PT.imp (pt_not ha) fun σ H Q h => by
  obtain ⟨ρ, fr, S, hs, ht, hf⟩ := h
  refine rd_of hs ht (fin.bind hf fun v1 ρ1 H1 d1 S1 x1 s1 r1 h1 => ?_)
  have r1 : d1 = .bl v1 := r1
  subst r1
  exact h1.here s1 rfl
/-- `not` as a value: by truth -/
theorem pe_notT {ta : TE} (ha : PE X a ta) : PE X (.UnaryOp .Not a pos) (fun σ H Q => ta σ H fun x H1 => ∃ k, TruV X.K x H1 k ∧ Q (.bl (!k)) H1) := by
  refine ⟨fun pins s σ H Q I h => ?_⟩
  refine UnaryOp_ (thn (ha.run pins s σ H _ I h) fun v s1 ⟨x, H1, I1, r1, k, hk, q⟩ => ?_)
  exact not_of (thn (tru_ok pins s1 σ H1 x v (fun b H2 => Q (.bl (!b)) H2) I1 r1 ⟨k, hk, q⟩) fun b s2 ⟨H2, I2, q2⟩ => ⟨.bl (!b), H2, I2, rfl, q2⟩)
theorem se_not (ha : PE X a (rdE X T Γ W m x)) : PE X (.UnaryOp .Not a pos) (rdE X T Γ W (m + 1) (.not x)) := PE.imp (pe_notT ha) fun σ H Q h => by
  obtain ⟨ρ, fr, S, hs, ht, hf⟩ := h
  refine rd_of hs ht (fin.bind hf fun v1 ρ1 H1 d1 S1 x1 s1 r1 h1 => ?_)
  split at h1
  · rename_i k hk
    exact ⟨k, truV_D s1 r1 hk, h1.here s1 (.bl _)⟩
  · exact h1.elim
theorem sw_and1 (ha : PT X a (rdT X T Γ W m x)) : PW X (.BoolOp .And [a] pos) (rdG X.K X.mg T relB W (andT (evB Γ m true) [x])) := pw_and1 ha
theorem sw_and (ha : PT X a (rdT X T Γ W m x)) (hb : PW X (.BoolOp .And (b :: es) pos) (rdG X.K X.mg T relB W (andT (evB Γ m true) (y :: xs)))) : PW X (.BoolOp .And (a :: b :: es) pos) (rdG X.K X.mg T relB W (andT (evB Γ m true) (x :: y :: xs))) := PW.imp (pw_and ha hb) fun σ H Q h => by
  obtain ⟨ρ, fr, S, hs, ht, hf⟩ := h
  refine rd_of hs ht (fin.bind hf fun v1 ρ1 H1 d1 S1 x1 s1 r1 h1 => ?_)
  have r1 : d1 = .bl v1 := r1
  subst r1
  cases v1 with
  | true => exact rd_of (hs.mono x1) s1 h1
  | false => exact h1.here s1 rfl
theorem sw_or1 (ha : PT X a (rdT X T Γ W m x)) : PW X (.BoolOp .Or [a] pos) (rdG X.K X.mg T relB W (orT (evB Γ m true) [x])) := pw_or1 ha
theorem sw_or (ha : PT X a (rdT X T Γ W m x)) (hb : PW X (.BoolOp .Or (b :: es) pos) (rdG X.K X.mg T relB W (orT (evB Γ m true) (y :: xs)))) : PW X (.BoolOp .Or (a :: b :: es) pos) (rdG X.K X.mg T relB W (orT (evB Γ m true) (x :: y :: xs))) := PW.imp (pw_or ha hb) fun σ H Q h => by
  obtain ⟨ρ, fr, S, hs, ht, hf⟩ := h
  refine rd_of hs ht (fin.bind hf fun v1 ρ1 H1 d1 S1 x1 s1 r1 h1 => ?_)
  have r1 : d1 = .bl v1 := r1
  subst r1
  cases v1 with
  | true => exact h1.here s1 rfl
  | false => exact rd_of (hs.mono x1) s1 h1
theorem sv_one {op : BoolOp} {g : List Ex → Frm → Sto → R D} (hg : ∀ x, g [x] = evB Γ m false x) (ha : PE X a (rdE X T Γ W m x)) : PE X (.BoolOp op [a] pos) (rdG X.K X.mg T (relV X.K X.mg T) W (g [x])) := by
  rw [hg]
  exact pe_one ha
theorem sv_and (ha : PE X a (rdE X T Γ W m x)) (hb : PE X (.BoolOp .And (b :: es) pos) (rdG X.K X.mg T (relV X.K X.mg T) W (andT (evB Γ m false) (y :: xs)))) : PE X (.BoolOp .And (a :: b :: es) pos) (rdG X.K X.mg T (relV X.K X.mg T) W (andT (evB Γ m false) (x :: y :: xs))) := PE.imp (pe_and ha hb) fun σ H Q h => by
  obtain ⟨ρ, fr, S, hs, ht, hf⟩ := h
  refine rd_of hs ht (fin.bind hf fun v1 ρ1 H1 d1 S1 x1 s1 r1 h1 => ?_)
  cases r1 <;> try exact h1.elim
  rename_i k
  refine ⟨k, rfl, ?_⟩
  cases k with
  | true => exact rd_of (hs.mono x1) s1 h1
  | false => exact h1.here s1 (.bl _)
theorem sv_or (ha : PE X a (rdE X T Γ W m x)) (hb : PE X (.BoolOp .Or (b :: es) pos) (rdG X.K X.mg T (relV X.K X.mg T) W (orT (evB Γ m false) (y :: xs)))) : PE X (.BoolOp .Or (a :: b :: es) pos) (rdG X.K X.mg T (relV X.K X.mg T) W (orT (evB Γ m false) (x :: y :: xs))) := PE.imp (pe_or ha hb) fun σ H Q h => by
  obtain ⟨ρ, fr, S, hs, ht, hf⟩ := h
  refine rd_of hs ht (fin.bind hf fun v1 ρ1 H1 d1 S1 x1 s1 r1 h1 => ?_)
  cases r1 <;> try exact h1.elim
  rename_i k
  refine ⟨k, rfl, ?_⟩
  cases k with
  | true => exact h1.here s1 (.bl _)
  | false => exact rd_of (hs.mono x1) s1 h1
end
end Ev

/-! ## EvI -/
set_option Elab.async false
set_option linter.all false
set_option maxRecDepth 100000
set_option maxHeartbeats 4000000
/-! The expressions' rules (3): calls. -/
namespace Ev
open PySem PySem.Spec PyProof.Rows L2
section
variable {X : Cx} {T : Tb} {Γ : Ctx} {W : WX} {m n k : Nat} {N : List Str} {sc : Scope} {fb : Str → Bool} {e a b c : Expr} {es : List Expr} {x y z : Ex} {xs : List Ex} {pos p : Pos} {nm : Str}
/-- a def called at values -/
theorem run_spF (ok : Ok X T Γ n N sc fb) (tk : Takes X W) {nm : Str} (hk : T.fns[k]? = some nm) : ∃ f, X.mg nm = some (.ref f) ∧ PySem.W.keepIn X.K (.ref f) = true ∧
    ∀ (pins : List (Addr × Obj)) (σ : L2.St) (H : Hp) (s : Shared) (Q : VK) (us : List Value) (vs : List V) (ρ : Nat → Addr) (S : Sto) (ds : List D), Inv X pins σ H s → Vals vs us → RpL X.K X.mg T ρ S.length H vs ds → Stt X.K X.mg T ρ H S →
      fin X.K X.mg T (relV X.K X.mg T) ρ S.length H (Γ.fn k ds S) Q (fun c d H' => W c d σ H') → wpAny (model X.prog X.w) X.A (call (.ref f) us) (EP X pins σ Q) X.xe s := by
  obtain ⟨f, fd, ps, hm, hkeep, hb, har, F⟩ := ok.kn.fn k nm hk
  refine ⟨f, hm, hkeep, fun pins σ H s Q us vs ρ S ds I rv rd st hf => ?_⟩
  have hl : ds.length = ps.length := by
    by_cases h : ds.length = ps.length
    · exact h
    · rw [har ds S h] at hf
      exact hf.elim
  exact run_G (E := WE W) F ok.room ok.gd hb (passAt tk σ) I rv ⟨ρ, S, ds, by rw [rd.length]; exact hl, rd, st, hf⟩
theorem se_call (ok : Ok X T Γ n N sc fb) (tk : Takes X W) (hg : Gl X nm) (hk : T.fns[k]? = some nm) (hd : (nm == ("__debug__" : Str)) = false) (hn : (e :: es).all nst = true) (ha : PA X (e :: es) (rdL X T Γ W m xs)) :
    PE X (.Call (.Name nm p) (e :: es) [] pos) (rdE X T Γ W (m + 1) (.call k xs)) := by
  obtain ⟨f, hm, hkeep, run⟩ := run_spF ok tk hk
  rw [List.all_cons, Bool.and_eq_true] at hn
  refine ⟨fun pins s σ H Q I h => ?_⟩
  obtain ⟨ρ, fr, S, hs, ht, hf⟩ := h
  refine wpAny_Call_Name_kw (ld_glob I hg hm ?_ hd)
  refine PySem.W.callWith_K (h₀ := X.base) I.ok.mod.kin hkeep (thn (ha.run pos pins s σ H _ I (rd_of hs ht (fin.bind hf fun vs ρ1 H1 ds S1 x1 s1 r1 h1 => (show (∃ ρ S ds, RpL X.K X.mg T ρ S.length H1 vs ds ∧ Stt X.K X.mg T ρ H1 S ∧ fin X.K X.mg T (relV X.K X.mg T) ρ S.length H1 (Γ.fn k ds S) Q (fun c d H' => W c d σ H')) from ⟨ρ1, S1, ds, r1, s1, h1⟩)))) fun us s1 ⟨vs, H1, I1, r, ρ1, S1, ds, rd, st, h1⟩ => ⟨I1.kIn, ?_⟩) (nst_ok hn.1) (nst_plain hn.2)
  exact run pins σ H1 s1 Q us vs ρ1 S1 ds I1 r rd st h1
theorem se_call0 (ok : Ok X T Γ n N sc fb) (tk : Takes X W) (hg : Gl X nm) (hk : T.fns[k]? = some nm) (hd : (nm == ("__debug__" : Str)) = false) : PE X (.Call (.Name nm p) [] [] pos) (rdE X T Γ W (m + 1) (.call k [])) := by
  obtain ⟨f, hm, hkeep, run⟩ := run_spF ok tk hk
  refine ⟨fun pins s σ H Q I h => ?_⟩
  obtain ⟨ρ, fr, S, hs, ht, hf⟩ := h
  refine wpAny_Call_Name_kw (ld_glob I hg hm ?_ hd)
  exact PySem.W.callWith_K0 I.kIn hkeep (run pins σ H s Q [] [] ρ S [] I .nil .nil ht hf)
/-- the call of a value: f(e, ..) with f no name -/
theorem se_cav {v i : Expr} {vp : Pos} (ok : Ok X T Γ n N sc fb) (tk : Takes X W) (hn : (e :: es).all nst = true) (hv : PE X (.Subscript v i vp) (rdE X T Γ W m x)) (ha : PA X (e :: es) (rdL X T Γ W m xs)) :
    PE X (.Call (.Subscript v i vp) (e :: es) [] pos) (rdE X T Γ W (m + 1) (.cav x xs)) := by
  rw [List.all_cons, Bool.and_eq_true] at hn
  refine ⟨fun pins s σ H Q I h => ?_⟩
  obtain ⟨ρ, fr, S, hs, ht, hf⟩ := h
  refine Call_ (thn (hv.run pins s σ H (fun v H1 => ∃ ρ1 S1 k f nm, v = .ref f ∧ T.fns[k]? = some nm ∧ X.mg nm = some (.ref f) ∧ Sl X.K X.mg T ρ1 S1.length H1 σ fr ∧ Stt X.K X.mg T ρ1 H1 S1 ∧
    fin X.K X.mg T (relV X.K X.mg T) ρ1 S1.length H1 ((evL (evB Γ m false) xs fr S1).bind fun l S2 => Γ.fn k l S2) Q (fun c d H' => W c d σ H')) I (rd_of hs ht (fin.bind hf fun v1 ρ1 H1 d1 S1 x1 s1 r1 h1 => ?_))) fun fv s1 ⟨v, H1, I1, r1, ρ1, S1, k, f, nm, ev, hk, hm, hs1, st1, h1⟩ => ?_)
  · cases r1 <;> try exact h1.elim
    rename_i k nm f e1 e2
    exact ⟨ρ1, S1, k, f, nm, rfl, e1, e2, hs.mono x1, s1, h1⟩
  · subst ev
    cases r1
    obtain ⟨f', hm', hkeep, run⟩ := run_spF ok tk hk
    rw [hm] at hm'
    cases hm'
    refine PySem.W.callWith_K (h₀ := X.base) I.ok.mod.kin hkeep (thn (ha.run pos pins s1 σ H1 _ I1 (rd_of hs1 st1 (fin.bind h1 fun vs ρ1 H1 ds S1 x1 s1 r1 h1 => (show (∃ ρ S ds, RpL X.K X.mg T ρ S.length H1 vs ds ∧ Stt X.K X.mg T ρ H1 S ∧ fin X.K X.mg T (relV X.K X.mg T) ρ S.length H1 (Γ.fn k ds S) Q (fun c d H' => W c d σ H')) from ⟨ρ1, S1, ds, r1, s1, h1⟩)))) fun us s2 ⟨vs, H2, I2, r, ρ2, S2, ds, rd, st, h2⟩ => ⟨I2.kIn, ?_⟩) (nst_ok hn.1) (nst_plain hn.2)
    exact run pins σ H2 s2 Q us vs ρ2 S2 ds I2 r rd st h2
/-! ### built-ins by name -/
theorem se_bi {id : String} {bn : String} (hc : CallR X (.builtin id) (rDs X.K X.mg T (biD bn))) (hg : Gl X nm) (hm : X.mg nm = none) (hv : bootBuiltins nm = some (.builtin id)) (hn1 : nm ≠ "__name__") (hdb : (nm == ("__debug__" : Str)) = false) (hn : (e :: es).all nst = true) (ha : PA X (e :: es) (rdL X T Γ W m xs)) :
    PE X (.Call (.Name nm p) (e :: es) [] pos) (rdE X T Γ W (m + 1) (.bi bn xs)) := by
  rw [List.all_cons, Bool.and_eq_true] at hn
  refine PE.imp (pe_callB hc hg hm hv ha hn1 hdb (nst_ok hn.1) (nst_plain hn.2)) fun σ H Q h => ?_
  obtain ⟨ρ, fr, S, hs, ht, hf⟩ := h
  exact rd_of hs ht (fin.bind hf fun vs ρ1 H1 ds S1 x1 s1 r1 h1 => ⟨ρ1, S1, ds, _, s1, r1, h1⟩)
theorem se_ty {id : String} {bn : String} (hc : CallR X (.type id) (rDs X.K X.mg T (biD bn))) (hg : Gl X nm) (hm : X.mg nm = none) (hv : bootBuiltins nm = some (.type id)) (hn1 : nm ≠ "__name__") (hdb : (nm == ("__debug__" : Str)) = false) (hn : (e :: es).all nst = true) (ha : PA X (e :: es) (rdL X T Γ W m xs)) :
    PE X (.Call (.Name nm p) (e :: es) [] pos) (rdE X T Γ W (m + 1) (.bi bn xs)) := by
  rw [List.all_cons, Bool.and_eq_true] at hn
  refine PE.imp (pe_callTy hc hg hm hv ha hn1 hdb (nst_ok hn.1) (nst_plain hn.2)) fun σ H Q h => ?_
  obtain ⟨ρ, fr, S, hs, ht, hf⟩ := h
  exact rd_of hs ht (fin.bind hf fun vs ρ1 H1 ds S1 x1 s1 r1 h1 => ⟨ρ1, S1, ds, _, s1, r1, h1⟩)
/-! ### isinstance of a built-in type -/
def tys : List String := ["int", "bool", "str", "tuple", "list"]
theorem kit_tab : (["NoneType", "bool", "int", "str", "tuple", "list"].all fun a => tys.all fun t => decide (kitB a t = some (a == t || (a == "bool" && t == "int")))) = true := by decide +kernel
theorem kit_at {a t : String} (ha : a ∈ ["NoneType", "bool", "int", "str", "tuple", "list"]) (ht : t ∈ tys) : kitB a t = some (a == t || (a == "bool" && t == "int")) := by
  have h := List.all_eq_true.mp kit_tab a ha
  have h2 := List.all_eq_true.mp h t ht
  exact of_decide_eq_true h2
theorem tyX_D {ρ : Nat → Addr} {H : Hp} {S : Sto} {v : V} {d : D} {a : String} (st : Stt X.K X.mg T ρ H S) (r : Rp X.K X.mg T ρ S.length H v d) (h : tyName S d = some a) : TyX X.K H v (.type a) ∧ a ∈ ["NoneType", "bool", "int", "str", "tuple", "list"] := by
  cases r with
  | non => cases h; exact ⟨.base .non, by decide⟩
  | bl b => cases h; exact ⟨.base (.bl b), by decide⟩
  | int i => cases h; exact ⟨.base (.int i), by decide⟩
  | str z => cases h; exact ⟨.base (.str z), by decide⟩
  | rep p => cases h; exact ⟨.base (.str _), by decide⟩
  | fn _ _ => cases h
  | @tup ad xs ds q1 q2 =>
    cases h
    refine ⟨?_, by decide⟩
    rcases q1 with (q1 | ⟨o, q1⟩) | ⟨o, its, n, q1, q2, _⟩
    · exact .base (.tup q1)
    · exact .fTuple q1
    · exact .kTuple q1 q2
  | @obj n hn =>
    have h : (items S n).map (fun _ => "list") = some a := h
    unfold items at h
    split at h
    · rename_i l hs
      cases h
      obtain ⟨xs, g1, _⟩ := st.lst _ _ hs
      exact ⟨.base (.lst g1), by show "list" ∈ _; decide⟩
    · rename_i l hs
      cases h
      obtain ⟨xs, g1, _⟩ := st.ro _ _ hs
      rcases g1 with ⟨o, g1⟩ | ⟨o, its, n, q1, q2, _⟩
      · exact ⟨.base (.frz g1), by show "list" ∈ _; decide⟩
      · exact ⟨.kList q1 q2, by show "list" ∈ _; decide⟩
    · cases h
theorem isiD_ok {ρ : Nat → Addr} {H : Hp} {S : Sto} {v : V} {d : D} {t : String} {k : Bool} (st : Stt X.K X.mg T ρ H S) (r : Rp X.K X.mg T ρ S.length H v d) (h : isiD S d t = some k) : ∃ a, TyX X.K H v (.type a) ∧ PySem.W.kitOne X.K (.type a) (.type t) = some k := by
  unfold isiD at h
  cases ha : tyName S d with
  | none => rw [ha] at h; cases h
  | some a =>
    rw [ha] at h
    have h : (if (["int", "bool", "str", "tuple", "list"].contains t) = true then some (a == t || (a == "bool" && t == "int")) else none) = some k := h
    split at h
    · rename_i hc
      cases h
      obtain ⟨h1, h2⟩ := tyX_D st r ha
      exact ⟨a, h1, kit_ty (kit_at h2 (List.contains_iff_mem.mp hc))⟩
    · cases h
theorem se_isi {tn : Str} {t : String} {tp : Pos} (hg : Gl X "isinstance") (hm : X.mg "isinstance" = none) (hgt : Gl X tn) (hmt : X.mg tn = none) (hvt : bootBuiltins tn = some (.type t)) (hn1 : tn ≠ "__name__") (hdb : (tn == ("__debug__" : Str)) = false) (hn : nst e = true) (ha : PE X e (rdE X T Γ W m x)) :
    PE X (.Call (.Name "isinstance" p) [e, .Name tn tp] [] pos) (rdE X T Γ W (m + 1) (.isi x t)) := by
  refine PE.imp (pe_callB call_isi hg hm boot_isinstance (pa_cons ha (pa_cons (pe_bltn (v := .ty t) hgt hmt hvt rfl hn1 hdb) pa_nil) (nst_ok hn)) (by decide) (by decide) (nst_ok hn) rfl) fun σ H Q h => ?_
  obtain ⟨ρ, fr, S, hs, ht, hf⟩ := h
  refine rd_of hs ht (fin.bind hf fun v1 ρ1 H1 d1 S1 x1 s1 r1 h1 => ?_)
  split at h1
  · rename_i k hk
    obtain ⟨a, h2, h3⟩ := isiD_ok s1 r1 hk
    exact ⟨v1, .ty t, .type a, .type t, k, rfl, .ty t, h2, h3, h1.here s1 (.bl _)⟩
  · exact h1.elim
/-! ### append -/
theorem se_app {apos : Pos} (hbase : attributeBase a "append" X.env (eval a X.env) = eval a X.env) (hline : (apos.endLine == pos.line) = true) (hn : nst e = true) (ha : PE X a (rdE X T Γ W m x)) (he : PE X e (rdE X T Γ W m y)) :
    PE X (.Call (.Attribute a "append" apos) [e] [] pos) (rdE X T Γ W (m + 1) (.app x y)) := by
  have hn' : [e].all nst = true := by rw [List.all_cons, hn]; rfl
  refine PE.imp (pe_bm PySem.F.plainAttrs_list PySem.F.slot_list_append PySem.F.type_list_append mt_append ha (pa_cons he pa_nil (nst_ok hn)) hbase ?_ hline (nst_ok hn) rfl) fun σ H Q h => ?_
  · rw [nst_few hn']
    rfl
  · obtain ⟨ρ, fr, S, hs, ht, hf⟩ := h
    refine rd_of hs ht (fin.bind hf fun v1 ρ1 H1 d1 S1 x1 s1 r1 h1 => ?_)
    cases r1 <;> try exact h1.elim
    rename_i k hk
    have h1 : fin X.K X.mg T (relV X.K X.mg T) ρ1 S1.length H1 (match items S1 k with
        | some _ => (evB Γ m false y fr S1).bind fun y S2 => match S2[k]? with
          | some (.lst l) => if l.length < LIM then .ok .non (S2.set k (.lst (l ++ [y]))) else .bad
          | _ => .bad
        | none => .bad) Q (fun c d H' => W c d σ H') := h1
    split at h1
    · rename_i l hl
      obtain ⟨zs, q1, _⟩ := s1.seq hl
      refine ⟨.inl ⟨rfl, zs, q1⟩, rd_of (hs.mono x1) s1 (fin.bind h1 fun v2 ρ2 H2 d2 S2 x2 s2 r2 h2 => ?_)⟩
      split at h2
      · rename_i l2 hl2
        split at h2
        · rename_i hlen
          obtain ⟨ys, g1, g2⟩ := s2.lst _ _ hl2
          rw [← x2.rho k hk]
          refine ⟨_, ys, v2, rfl, rfl, g1, by rw [g2.length]; exact lim_lt hlen, ?_⟩
          have r := g2.append (.cons r2 .nil)
          refine h2 ρ2 _ _ ?_ (s2.setL hl2 r) .non
          rw [List.length_set]
          exact Ext.setL s2 hl2
        · exact h2.elim
      · exact h2.elim
    · exact h1.elim
end
end Ev

/-! ## EvZ -/
set_option Elab.async false
set_option linter.all false
set_option maxRecDepth 100000
set_option maxHeartbeats 4000000
/-! zip of two sequences, each a list (false) or a tuple (true). -/
namespace Ev
open PySem PySem.Spec PyProof.Rows L2
def SqK (b : Bool) (K : PySem.W.Frag) (H : Hp) (a : Addr) (xs : List V) : Prop := if b = true then SqT K H a xs else SqL K H a xs
def ItK (b : Bool) (h : Heap) (it a : Addr) (i : Nat) : Prop := if b = true then h.IsTupleIter it a i else h.IsListIter it a i
def HeK (b : Bool) (h : Heap) (a : Addr) (its : Array Value) : Prop := if b = true then h.IsTuple a its else h.IsList a its
theorem ItK.obj {b : Bool} {h : Heap} {it a : Addr} {i : Nat} (x : ItK b h it a i) : ∃ o, h.get? it = some o ∧ ∀ v, o.data ≠ .cell v := by
  cases b
  · obtain ⟨o, ho, _, hd⟩ := x
    exact ⟨o, ho, fun v q => by rw [hd] at q; cases q⟩
  · obtain ⟨o, ho, _, hd⟩ := x
    exact ⟨o, ho, fun v q => by rw [hd] at q; cases q⟩
theorem ItK.at {b : Bool} {h h' : Heap} {it a : Addr} {i : Nat} (x : ItK b h it a i) (k : ∀ o, h.get? it = some o → h'.get? it = some o) : ItK b h' it a i := by
  obtain ⟨o, ho, r⟩ := (show ∃ o, h.get? it = some o ∧ o.cls = .type (if b = true then "tuple_iterator" else "list_iterator") ∧ o.data = .fields #[.ref a, .int i 0] from by
    cases b
    · exact x
    · exact x)
  cases b
  · exact ⟨o, k o ho, r⟩
  · exact ⟨o, k o ho, r⟩
theorem seqK {b : Bool} {X : Cx} {pins : List (Addr × Obj)} {σ : L2.St} {H : Hp} {s : Shared} {a : Addr} {xs : List V} (I : Inv X pins σ H s) (h : SqK b X.K H a xs) : ∃ its : List Value, Vals xs its ∧ HeK b s.heap a its.toArray ∧ a < s.heap.objs.size := by
  cases b
  · obtain ⟨its, r, p, _⟩ := I.list h
    exact ⟨its, r, p.isList, p.lt⟩
  · obtain ⟨its, r, p, _⟩ := I.tuple h
    obtain ⟨o, ho, _⟩ := id p
    exact ⟨its, r, p, Heap.lt_size ho⟩
theorem seqK_inj {b : Bool} {X : Cx} {pins : List (Addr × Obj)} {σ : L2.St} {H : Hp} {s : Shared} {a : Addr} {xs ys : List V} (I : Inv X pins σ H s) (h : SqK b X.K H a xs) (h' : SqK b X.K H a ys) : xs = ys := by
  cases b
  · exact I.list_inj h h'
  · exact I.tuple_inj h h'
theorem drawsK {prog : Program} {w : World} {A : Around} (b : Bool) (hh : A.handled = none) {it a : Addr} (hne : a ≠ it) (its : Array Value) :
    Draws prog w A it [it, a] its.size (fun i v => its[i]? = some v) (fun i h => ItK b h it a i ∧ HeK b h a its) := by
  cases b
  · exact Draws.list hh it a hne its
  · exact Draws.tuple hh it a hne its
def objK (b : Bool) (a : Addr) : Obj := { cls := .type (if b = true then "tuple_iterator" else "list_iterator"), data := .fields #[.ref a, .int 0 0] }
theorem beginsK (b : Bool) (a : Addr) (its : Array Value) : Begins (.ref a) (objK b a) fun h => HeK b h a its := by
  cases b
  · exact begins_list a its
  · exact begins_tuple a its
theorem objK_it {b : Bool} {h : Heap} {it a : Addr} (e : h.get? it = some (objK b a)) : ItK b h it a 0 := by
  cases b
  · exact ⟨_, e, rfl, rfl⟩
  · exact ⟨_, e, rfl, rfl⟩
/-- the pairs -/
def ItzK (b1 b2 : Bool) (K : PySem.W.Frag) (a b : Addr) : It :=
  ⟨fun i H => ∃ (xs ys : List V) (x y : V), SqK b1 K H a xs ∧ SqK b2 K H b ys ∧ xs[i]? = some x ∧ ys[i]? = some y,
    fun i H v H' => ∃ T x y, v = .ref T ∧ H T = none ∧ H' = upd H T (.tup [x, y]) ∧ (∀ xs, SqK b1 K H a xs → xs[i]? = some x) ∧ ∀ ys, SqK b2 K H b ys → ys[i]? = some y,
    fun i H => ∃ xs ys : List V, SqK b1 K H a xs ∧ SqK b2 K H b ys ∧ i ≤ xs.length ∧ i ≤ ys.length ∧ (xs.length = i ∨ ys.length = i)⟩
structure Five (z TI TO i1 i2 a b : Addr) : Prop where
  p : [z, TI, TO, i1, i2].Nodup
  a : a ∉ [z, TI, TO, i1, i2]
  b : b ∉ [z, TI, TO, i1, i2]
theorem Five.sep {z TI TO i1 i2 a b : Addr} (f : Five z TI TO i1 i2 a b) : ZipSep2 z TI TO i1 i2 [i1, a] [i2, b] := by
  obtain ⟨p, ha, hb⟩ := f
  simp only [List.nodup_cons, List.mem_cons, List.not_mem_nil, or_false, not_or, List.nodup_nil, and_true] at p ha hb
  obtain ⟨⟨p1, p2, p3, p4⟩, ⟨p5, p6, p7⟩, ⟨p8, p9⟩, p10, _⟩ := p
  obtain ⟨a1, a2, a3, a4, a5⟩ := ha
  obtain ⟨b1, b2, b3, b4, b5⟩ := hb
  exact ⟨Ne.symm p1, Ne.symm p2, p5, p6, by simp, by simp [p3, Ne.symm a1], by simp [p8, Ne.symm a3], p7, by simp, by simp [p4, Ne.symm b1], by simp [p9, Ne.symm b3], by simp [p10, Ne.symm b4], by simp [Ne.symm p10, Ne.symm a5]⟩
theorem turn_zipK {P : Program} {w : World} {K : PySem.W.Frag} {elts : List Expr} {kk : Nat} {tpos : Pos} {b1 b2 : Bool} {a b z TI TO i1 i2 : Addr} (D : Five z TI TO i1 i2 a b) :
    Turn P w K (.Tuple elts kk tpos) (ItzK b1 b2 K a b) [z, TI, TO, i1, i2] z (fun i h => IsZip h z TI TO .none ∧ IsTupOf2 h TI (.ref i1) (.ref i2) ∧ (∃ x y, IsTupOf2 h TO x y) ∧ ItK b1 h i1 a i ∧ ItK b2 h i2 b i) where
  mem := List.mem_cons_self
  obj := fun i h st c hc => by
    obtain ⟨hz, hTI, ⟨x, y, hTO⟩, k1, k2⟩ := st
    simp only [List.mem_cons, List.not_mem_nil, or_false] at hc
    rcases hc with q | q | q | q | q <;> subst q
    · exact ⟨_, hz, fun v q => nomatch q⟩
    · exact ⟨_, hTI, fun v q => nomatch q⟩
    · exact ⟨_, hTO, fun v q => nomatch q⟩
    · exact k1.obj
    · exact k2.obj
  keep := fun i h h' st k => by
    obtain ⟨hz, hTI, ⟨x, y, hTO⟩, k1, k2⟩ := st
    exact ⟨k z (by simp) _ hz, k TI (by simp) _ hTI, ⟨x, y, k TO (by simp) _ hTO⟩, k1.at fun o q => k i1 (by simp) o q, k2.at fun o q => k i2 (by simp) o q⟩
  item := by
    intro X hP hw hK hc i pins s σ H E I hf st hg
    subst hP hw hK
    have S := D.sep
    obtain ⟨hz, hTI, ⟨x0, y0, hTO⟩, k1, k2⟩ := st
    obtain ⟨xs, ys, x, y, hqx, hqy, hx, hy⟩ := hg
    obtain ⟨its, rv, e1, _⟩ := seqK I hqx
    obtain ⟨its2, rv2, e2, _⟩ := seqK I hqy
    obtain ⟨u, hu, ru⟩ := rv.get hx
    obtain ⟨u2, hu2, ru2⟩ := rv2.get hy
    have hne1 : a ≠ i1 := fun e => D.a (by rw [e]; simp)
    have hne2 : b ≠ i2 := fun e => D.b (by rw [e]; simp)
    have l1 : i < its.toArray.size := by rw [List.size_toArray]; exact (List.getElem?_eq_some_iff.mp hu).1
    have l2 : i < its2.toArray.size := by rw [List.size_toArray]; exact (List.getElem?_eq_some_iff.mp hu2).1
    have hh : X.A.in1.handled = none := I.ok.hd hc
    have hzl : z < s.heap.objs.size := Heap.lt_size hz
    refine wpAny_pyNext_zipD2_item S (drawsK b1 hh hne1 its.toArray) (drawsK b2 hh hne2 its2.toArray) hz hTI hTO ⟨k1, e1⟩ ⟨k2, e2⟩ l1 l2 fun w1 w2 h' tk q1 q2 z' TO' d1 d2 hT hsz hk => ?_
    have q1 : w1 = u := by
      have q1 : its.toArray[i]? = some w1 := q1
      rw [List.getElem?_toArray, hu] at q1
      exact (Option.some.inj q1).symm
    have q2 : w2 = u2 := by
      have q2 : its2.toArray[i]? = some w2 := q2
      rw [List.getElem?_toArray, hu2] at q2
      exact (Option.some.inj q2).symm
    subst q1 q2
    refine ⟨_, rfl, wpAny_letOwnedTupleGo_zip (s := { s with heap := h', toks := tk }) z' fun h'' z'' sb => ?_⟩
    have off : ∀ {c : Addr} {o : Obj}, c ≠ z → h'.get? c = some o → h''.get? c = some o := fun {c o} n e => (sb.2 c n).trans e
    have hT2 := off (Nat.ne_of_gt hzl) hT
    have new : ObjOk X.prog X.w (upd H s.heap.objs.size (.tup [x, y])) h'' s.heap.objs.size (.tup [x, y]) := ⟨by show 2 ≤ sizeLine; decide, [w1, w2], .cons ru (.cons ru2 .nil), ⟨_, hT2, rfl, _, rfl⟩⟩
    have I1 : Inv X pins σ (upd H s.heap.objs.size (.tup [x, y])) { s with heap := h'', toks := tk } :=
      I.turnedNew (t' := tk) (ch := [z, TI, TO, i1, i2]) (fun c o hb q => off (fun q' => hb (by simp [q'])) (hk c o (fun q' => hb (by simp [q'])) (fun q' => hb (by simp [q'])) (fun q' => hb (by simp [q'])) (fun q' => hb (by simp [q'])) q)) hf (Nat.le_refl _) new
    refine ⟨.ref s.heap.objs.size, _, I1, rfl, ⟨_, x, y, rfl, I.hok.fresh (Nat.le_refl _), rfl, fun l hl => by rw [seqK_inj I hl hqx]; exact hx, fun l hl => by rw [seqK_inj I hl hqy]; exact hy⟩, ⟨z'', ?_, ⟨w1, w2, off S.TOz TO'⟩, ?_, ?_⟩, fun c hcm => ?_⟩
    · exact off S.TIz (hk _ _ S.TIz S.TITO S.TIi1 S.TIi2 hTI)
    · exact d1.1.at fun o q => off (Ne.symm S.zi1) q
    · exact d2.1.at fun o q => off (Ne.symm S.zi2) q
    · rw [upd_ne (fun e => ?_)]
      · exact (hf c hcm).1
      · subst e
        have lt : ∀ {q : Addr} {o : Obj}, s.heap.get? q = some o → q ≠ s.heap.objs.size := fun {q o} e => Nat.ne_of_lt (Heap.lt_size e)
        obtain ⟨o1, g1, _⟩ := k1.obj
        obtain ⟨o2, g2, _⟩ := k2.obj
        simp only [List.mem_cons, List.not_mem_nil, or_false] at hcm
        rcases hcm with q | q | q | q | q
        · exact lt hz q.symm
        · exact lt hTI q.symm
        · exact lt hTO q.symm
        · exact lt g1 q.symm
        · exact lt g2 q.symm
  done := by
    intro X hP hw hK hc i pins s σ H E I hf st hg
    subst hP hw hK
    have S := D.sep
    obtain ⟨hz, hTI, ⟨x0, y0, hTO⟩, k1, k2⟩ := st
    obtain ⟨xs, ys, hqx, hqy, n1, n2, hend⟩ := hg
    obtain ⟨its, rv, e1, _⟩ := seqK I hqx
    obtain ⟨its2, rv2, e2, _⟩ := seqK I hqy
    have hne1 : a ≠ i1 := fun e => D.a (by rw [e]; simp)
    have hne2 : b ≠ i2 := fun e => D.b (by rw [e]; simp)
    have l1 : its.toArray.size = xs.length := by rw [List.size_toArray]; exact rv.length.symm
    have l2 : its2.toArray.size = ys.length := by rw [List.size_toArray]; exact rv2.length.symm
    have hh : X.A.in1.handled = none := I.ok.hd hc
    exact wpAny_pyNext_zipD2_end S (drawsK b1 hh hne1 its.toArray) (drawsK b2 hh hne2 its2.toArray) hz hTI hTO ⟨k1, e1⟩ ⟨k2, e2⟩ (by rw [l1]; exact n1) (by rw [l2]; exact n2) (by rw [l1, l2]; exact hend.elim (fun q => .inl q.symm) fun q => .inr q.symm) fun h' tk hk =>
      ⟨rfl, I.turnedL (t' := tk) (ch := [z, TI, TO, i1, i2]) (fun c o hb q => hk c o (fun q' => hb (by simp [q'])) (fun q' => hb (by simp [q'])) (fun q' => hb (by simp [q'])) (fun q' => hb (by simp [q'])) q) hf⟩
  self := fun A i s Q E st h => wpAny_pyIter_zip st.1 h
def iZipK (K : PySem.W.Frag) (ta : TA) : TI := fun σ H R => ta σ H fun vs H1 => ∃ a b xs ys b1 b2, vs = [.ref a, .ref b] ∧ SqK b1 K H1 a xs ∧ SqK b2 K H1 b ys ∧ R (ItzK b1 b2 K a b) H1
theorem pi_zipK {X : Cx} {e e2 : Expr} {ta : TA} {p pos tpos : Pos} {elts : List Expr} {kk : Nat} (hg : Gl X "zip") (hm : X.mg "zip" = none) (ha : PA X [e, e2] ta)
    (hs : starEach [e, e2] X.env = (false, eval e X.env) :: starEach [e2] X.env) (hpl : (backTo pos (starEach [e2] X.env)).any (·.1) = false) :
    PI X (.Tuple elts kk tpos) (.Call (.Name "zip" p) [e, e2] [] pos) (iZipK X.K ta) := by
  refine ⟨fun pins s σ H R I h => ?_⟩
  refine Call_ (ld_blt I hg hm PyProof.Rows.boot_zip (PyProof.Rows.callWith_type1 (thn (ha.run pos pins s σ H _ I h) fun us s1 ⟨vs, H1, I1, r1, q1⟩ => ?_) hs hpl))
  obtain ⟨a, b, xs, ys, b1, b2, ex, hqx, hqy, q⟩ := q1
  subst ex
  obtain ⟨u1, u2, rfl, ra, rb⟩ := vals2 r1
  cases ra
  cases rb
  obtain ⟨its, rv, e1, la⟩ := seqK I1 hqx
  obtain ⟨its2, rv2, e2', lb⟩ := seqK I1 hqy
  refine zip_begins2 (beginsK b1 a its.toArray) (beginsK b2 b its2.toArray) e1 e2' fun h' hz hTI hTO g1 g2 hsz hk => wpAny_pyIter_zip hz ?_
  have I2 : Inv X pins σ H1 { s1 with heap := h' } := I1.kept (t' := s1.toks) hk
  have five : Five (s1.heap.objs.size + 4) (s1.heap.objs.size + 2) (s1.heap.objs.size + 3) s1.heap.objs.size (s1.heap.objs.size + 1) a b := by
    have far : ∀ {c : Addr} (k : Nat), c < s1.heap.objs.size → c ≠ s1.heap.objs.size + k := fun {c} k h => Nat.ne_of_lt (Nat.lt_of_lt_of_le h (Nat.le_add_right _ _))
    refine ⟨by simp, fun hm => ?_, fun hm => ?_⟩
    · simp only [List.mem_cons, List.not_mem_nil, or_false] at hm
      rcases hm with q | q | q | q | q
      · exact far 4 la q
      · exact far 2 la q
      · exact far 3 la q
      · exact far 0 la q
      · exact far 1 la q
    · simp only [List.mem_cons, List.not_mem_nil, or_false] at hm
      rcases hm with q | q | q | q | q
      · exact far 4 lb q
      · exact far 2 lb q
      · exact far 3 lb q
      · exact far 0 lb q
      · exact far 1 lb q
  refine ⟨s1.heap.objs.size + 4, [s1.heap.objs.size + 4, s1.heap.objs.size + 2, s1.heap.objs.size + 3, s1.heap.objs.size, s1.heap.objs.size + 1], _, _, H1, rfl, I2, turn_zipK five, ⟨hz, hTI, ⟨_, _, hTO⟩, objK_it g1, objK_it g2⟩, fun c hcm => ?_, q⟩
  have hle : s1.heap.objs.size ≤ c := by
    simp only [List.mem_cons, List.not_mem_nil, or_false] at hcm
    rcases hcm with q | q | q | q | q <;> rw [q]
    · exact Nat.le_add_right _ _
    · exact Nat.le_add_right _ _
    · exact Nat.le_add_right _ _
    · exact Nat.le_refl _
    · exact Nat.le_add_right _ _
  exact I1.fpOk hle (I1.hok.fresh hle)
end Ev

/-! ## EvJ -/
set_option Elab.async false
set_option linter.all false
set_option maxRecDepth 100000
set_option maxHeartbeats 4000000
/-! What a loop walks; targets; comprehensions. -/
namespace Ev
open PySem PySem.Spec PyProof.Rows L2
/-- J walks as src says, in every later state -/
def JOk (K : PySem.W.Frag) (mg : Str → Option Value) (T : Tb) : Rel Src It := fun ρ N H J src => ∀ (ρ' : Nat → Addr) (H' : Hp) (S' : Sto) (i : Nat), Ext K ρ N H ρ' S'.length H' → Stt K mg T ρ' H' S' → match src.nth S' i with
  | none => True
  | some none => J.stop i H'
  | some (some d) => J.go i H' ∧ ∀ x H2, J.yld i H' x H2 → Ext K ρ' S'.length H' ρ' S'.length H2 ∧ Stt K mg T ρ' H2 S' ∧ Rp K mg T ρ' S'.length H2 x d
abbrev rdI (X : Cx) (T : Tb) (Γ : Ctx) (W : WX) (m : Nat) (itk : Nat) (its : List Ex) : TI := rdG X.K X.mg T (JOk X.K X.mg T) W (itS (evB Γ m false) itk its)
section
variable {K : PySem.W.Frag} {mg : Str → Option Value} {T : Tb} {ρ : Nat → Addr} {N : Nat} {H : Hp}
theorem j_list {k : Nat} (hk : k < N) : JOk K mg T ρ N H (Itl K (ρ k)) (.obj k) := by
  intro ρ' H' S' i x st
  have e := x.rho k hk
  rw [Src.nth]
  cases hi : items S' k with
  | none => trivial
  | some l =>
    obtain ⟨xs, q1, q2⟩ := st.seq hi
    rw [e] at q1
    show match (some l[i]? : Option (Option D)) with
      | none => True
      | some none => _
      | some (some d) => _
    cases hd : l[i]? with
    | none =>
      refine ⟨xs, q1, ?_⟩
      rw [q2.length]
      exact List.getElem?_eq_none_iff.mp hd
    | some d =>
      obtain ⟨v, hv, r⟩ := q2.get hd
      refine ⟨⟨xs, v, q1, hv⟩, fun y H2 ⟨e2, hy⟩ => ?_⟩
      subst e2
      have := (hy xs q1).symm.trans hv
      cases this
      exact ⟨Ext.refl, st, r⟩
theorem j_tup {a : Addr} {xs : List V} {l : List D} (q : SqT K H a xs) (r : RpL K mg T ρ N H xs l) : JOk K mg T ρ N H (Itt K a) (.items l) := by
  intro ρ' H' S' i x st
  have q1 := x.tup _ _ q
  have q2 := r.mono x
  show match (some l[i]? : Option (Option D)) with
      | none => True
      | some none => _
      | some (some d) => _
  cases hd : l[i]? with
  | none =>
    refine ⟨xs, q1, ?_⟩
    rw [q2.length]
    exact List.getElem?_eq_none_iff.mp hd
  | some d =>
    obtain ⟨v, hv, r⟩ := q2.get hd
    refine ⟨⟨xs, v, q1, hv⟩, fun y H2 ⟨e2, hy⟩ => ?_⟩
    subst e2
    have := (hy xs q1).symm.trans hv
    cases this
    exact ⟨Ext.refl, st, r⟩
theorem j_rng {lo : Int} {n : Nat} : JOk K mg T ρ N H (Itr lo n) (.rng lo n) := by
  intro ρ' H' S' i x st
  show match (some (if i < n then some (D.int (lo + i)) else none) : Option (Option D)) with
      | none => True
      | some none => _
      | some (some d) => _
  by_cases h : i < n
  · rw [if_pos h]
    refine ⟨h, fun y H2 ⟨e1, e2⟩ => ?_⟩
    subst e1 e2
    exact ⟨Ext.refl, st, .int _⟩
  · rw [if_neg h]
    exact Nat.le_of_not_lt h
/-- a new pair -/
theorem pair_at {S : Sto} {p : Addr} {x y : V} {d e : D} (st : Stt K mg T ρ H S) (hp : H p = none) (r1 : Rp K mg T ρ S.length H x d) (r2 : Rp K mg T ρ S.length H y e) :
    Ext K ρ S.length H ρ S.length (upd H p (.tup [x, y])) ∧ Stt K mg T ρ (upd H p (.tup [x, y])) S ∧ Rp K mg T ρ S.length (upd H p (.tup [x, y])) (.ref p) (.tup [d, e]) :=
  ⟨Ext.tupN hp, st.other hp, .tup (.inl (.inl upd_same)) (.cons (r1.mono (Ext.tupN hp)) (.cons (r2.mono (Ext.tupN hp)) .nil))⟩
/-- a sequence, in every later state -/
def SqOf (K : PySem.W.Frag) (mg : Str → Option Value) (T : Tb) (ρ : Nat → Addr) (N : Nat) (H : Hp) (b : Bool) (a : Addr) (src : Src) : Prop := ∀ (ρ' : Nat → Addr) (H' : Hp) (S' : Sto), Ext K ρ N H ρ' S'.length H' → Stt K mg T ρ' H' S' → ∃ l xs, src.seq S' = some l ∧ SqK b K H' a xs ∧ RpL K mg T ρ' S'.length H' xs l
theorem items_full {S : Sto} {k : Nat} (hk : k < S.length) : ∃ l, items S k = some l := by
  unfold items
  cases hs : S[k]? with
  | none =>
    rw [List.getElem?_eq_none_iff] at hs
    omega
  | some o =>
    cases o with
    | lst l => exact ⟨l, rfl⟩
    | ro l => exact ⟨l, rfl⟩
theorem sqOf_src {v : V} {d : D} {src : Src} (r : Rp K mg T ρ N H v d) (e : srcOf d = some src) : ∃ a b, v = .ref a ∧ SqOf K mg T ρ N H b a src := by
  cases r <;> try cases e
  · rename_i a xs l q r
    exact ⟨a, true, rfl, fun ρ' H' S' x st => ⟨l, xs, rfl, x.tup _ _ q, r.mono x⟩⟩
  · rename_i k hk
    refine ⟨_, false, rfl, fun ρ' H' S' x st => ?_⟩
    obtain ⟨l, hl⟩ := items_full (Nat.lt_of_lt_of_le hk x.le)
    obtain ⟨xs, q1, q2⟩ := st.seq hl
    rw [x.rho k hk] at q1
    exact ⟨l, xs, hl, q1, q2⟩
theorem j_zipK {a b : Addr} {b1 b2 : Bool} {s1 s2 : Src} (h1 : SqOf K mg T ρ N H b1 a s1) (h2 : SqOf K mg T ρ N H b2 b s2) : JOk K mg T ρ N H (ItzK b1 b2 K a b) (.zip s1 s2) := by
  intro ρ' H' S' i x st
  obtain ⟨l, xs, e1, q1, r1⟩ := h1 ρ' H' S' x st
  obtain ⟨l2, ys, e2, p1, r2⟩ := h2 ρ' H' S' x st
  rw [Src.nth]
  rw [e1, e2]
  dsimp only
  by_cases hl : i ≤ l.length ∧ i ≤ l2.length
  · rw [if_pos hl]
    cases hd : l[i]? with
    | none => exact ⟨xs, ys, q1, p1, by rw [r1.length]; exact hl.1, by rw [r2.length]; exact hl.2, .inl (by rw [r1.length]; have := List.getElem?_eq_none_iff.mp hd; omega)⟩
    | some d =>
      cases hd2 : l2[i]? with
      | none => exact ⟨xs, ys, q1, p1, by rw [r1.length]; exact hl.1, by rw [r2.length]; exact hl.2, .inr (by rw [r2.length]; have := List.getElem?_eq_none_iff.mp hd2; omega)⟩
      | some d2 =>
        obtain ⟨v, hv, rv⟩ := r1.get hd
        obtain ⟨u, hu, ru⟩ := r2.get hd2
        refine ⟨⟨xs, ys, v, u, q1, p1, hv, hu⟩, fun y H2 ⟨p, a', b', ey, hp, eH, ha, hb⟩ => ?_⟩
        have z1 := (ha xs q1).symm.trans hv
        have z2 := (hb ys p1).symm.trans hu
        cases z1
        cases z2
        subst ey eH
        exact pair_at st hp rv ru
  · rw [if_neg hl]
    trivial
theorem j_enum {k : Nat} (hk : k < N) : JOk K mg T ρ N H (Ite K (ρ k)) (.enum k) := by
  intro ρ' H' S' i x st
  have e := x.rho k hk
  rw [Src.nth]
  cases hi : items S' k with
  | none => trivial
  | some l =>
    obtain ⟨xs, q1, q2⟩ := st.seq hi
    rw [e] at q1
    show match (some ((l[i]?).map fun d => D.tup [.int i, d]) : Option (Option D)) with
      | none => True
      | some none => _
      | some (some d) => _
    cases hd : l[i]? with
    | none =>
      refine ⟨xs, q1, ?_⟩
      rw [q2.length]
      exact List.getElem?_eq_none_iff.mp hd
    | some d =>
      obtain ⟨v, hv, r⟩ := q2.get hd
      refine ⟨⟨xs, v, q1, hv⟩, fun y H2 ⟨p, a, ey, hp, eH, ha⟩ => ?_⟩
      have z1 := (ha xs q1).symm.trans hv
      cases z1
      subst ey eH
      exact pair_at st hp (.int _) r
end
section
variable {X : Cx} {T : Tb} {Γ : Ctx} {W : WX} {m n k : Nat} {N : List Str} {sc : Scope} {fb : Str → Bool} {tg e a b c : Expr} {es : List Expr} {x y z : Ex} {xs : List Ex} {pos p : Pos} {nm : Str}
theorem evL_one {f : Ex → Frm → Sto → R D} {fr : Frm} {S : Sto} {α : Type} {g : List D → Sto → R α} : (evL f [x] fr S).bind g = (f x fr S).bind fun d S1 => g [d] S1 := by
  show ((f x fr S).bind fun d S1 => (evL f [] fr S1).bind fun ds S2 => R.ok (d :: ds) S2).bind g = _
  cases f x fr S <;> rfl
/-- a thing that is walked -/
theorem si_thing (ha : PE X e (rdE X T Γ W m x)) : PI X tg e (rdI X T Γ W m 0 [x]) := by
  refine ⟨fun pins s σ H R I h => ?_⟩
  obtain ⟨ρ, fr, S, hs, ht, hf⟩ := h
  have hf : fin X.K X.mg T (JOk X.K X.mg T) ρ S.length H ((evL (evB Γ m false) [x] fr S).bind fun xs S1 => match mkSrc S1 0 xs with
    | some src => .ok src S1
    | none => .bad) R (fun c d H' => W c d σ H') := hf
  rw [evL_one] at hf
  cases hg : evB Γ m false x fr S with
  | bad => rw [hg] at hf; exact hf.elim
  | exc c fs S1 =>
    refine (pi_list ha).run pins s σ H R I (rd_of hs ht ?_)
    rw [hg] at hf ⊢
    exact hf
  | ok d S1 =>
    rw [hg] at hf
    cases d with
    | obj k =>
      refine (pi_list ha).run pins s σ H R I (rd_of hs ht ?_)
      rw [hg]
      intro ρ1 H1 b x1 s1 r1
      cases r1 with
      | obj hk =>
        have hk' : items S1 k ≠ none := by
          unfold items
          cases hs : S1[k]? with
          | none =>
            rw [List.getElem?_eq_none_iff] at hs
            omega
          | some o => cases o <;> simp
        obtain ⟨l, hl⟩ := Option.ne_none_iff_exists'.mp hk'
        obtain ⟨xs, q1, _⟩ := s1.seq hl
        exact ⟨_, rfl, ⟨xs, q1⟩, hf.at x1 s1 (j_list hk)⟩
    | tup l =>
      refine (pi_tup ha).run pins s σ H R I (rd_of hs ht ?_)
      rw [hg]
      intro ρ1 H1 b x1 s1 r1
      cases r1 with
      | tup q1 q2 => exact ⟨_, rfl, ⟨_, q1⟩, hf.at x1 s1 (j_tup q1 q2)⟩
    | _ => exact hf.elim
theorem si_rng1 {pp : Pos} (hg : Gl X "range") (hm : X.mg "range" = none) (hn : nst a = true) (ha : PA X [a] (rdL X T Γ W m xs)) : PI X tg (.Call (.Name "range" p) [a] [] pos) (rdI X T Γ W m 1 xs) := by
  refine ⟨fun pins s σ H R I h => ?_⟩
  refine (pi_range1 hg hm ha (nst_ok hn)).run pins s σ H R I ?_
  obtain ⟨ρ, fr, S, hs, ht, hf⟩ := h
  refine rd_of hs ht (fin.bind hf fun vs ρ1 H1 ds S1 x1 s1 r1 h1 => ?_)
  cases r1 with
  | nil => exact h1.elim
  | cons r1 r2 =>
    cases r2 with
    | cons _ _ => cases r1 <;> exact h1.elim
    | nil =>
      cases r1 <;> try exact h1.elim
      rename_i j
      have h1 : fin X.K X.mg T (JOk X.K X.mg T) ρ1 S1.length H1 (match (if -(2 ^ 62) ≤ j ∧ j < 2 ^ 62 then some (Src.rng 0 j.toNat) else none) with
        | some src => Ev.R.ok src S1
        | none => .bad) R (fun c d H' => W c d σ H') := h1
      split at h1
      · rename_i src e
        split at e
        · rename_i hj
          cases e
          exact ⟨j, rfl, hj.1, hj.2, h1.here s1 j_rng⟩
        · cases e
      · exact h1.elim
theorem si_rng2 (hg : Gl X "range") (hm : X.mg "range" = none) (hn : nst a = true) (hn2 : nst b = true) (ha : PA X [a, b] (rdL X T Γ W m xs)) : PI X tg (.Call (.Name "range" p) [a, b] [] pos) (rdI X T Γ W m 2 xs) := by
  refine ⟨fun pins s σ H R I h => ?_⟩
  refine (pi_range2 hg hm ha (by rw [nst_ok hn, nst_ok hn2]; rfl) (by rw [nst_ok hn2]; rfl)).run pins s σ H R I ?_
  obtain ⟨ρ, fr, S, hs, ht, hf⟩ := h
  refine rd_of hs ht (fin.bind hf fun vs ρ1 H1 ds S1 x1 s1 r1 h1 => ?_)
  cases r1 with
  | nil => exact h1.elim
  | cons r1 r2 =>
    cases r2 with
    | nil => cases r1 <;> exact h1.elim
    | cons r2 r3 =>
      cases r3 with
      | cons _ _ => cases r1 <;> cases r2 <;> exact h1.elim
      | nil =>
        cases r1 <;> cases r2 <;> try exact h1.elim
        rename_i i j
        have h1 : fin X.K X.mg T (JOk X.K X.mg T) ρ1 S1.length H1 (match (if -(2 ^ 62) ≤ i ∧ i < 2 ^ 62 ∧ -(2 ^ 62) ≤ j ∧ j < 2 ^ 62 then some (Src.rng i (j - i).toNat) else none) with
          | some src => Ev.R.ok src S1
          | none => .bad) R (fun c d H' => W c d σ H') := h1
        split at h1
        · rename_i src e
          split at e
          · rename_i hj
            cases e
            exact ⟨i, j, rfl, hj, h1.here s1 j_rng⟩
          · cases e
        · exact h1.elim
theorem si_zip {kk : Nat} {elts : List Expr} {tpos : Pos} (hg : Gl X "zip") (hm : X.mg "zip" = none) (hn : nst a = true) (hn2 : nst b = true) (ha : PA X [a, b] (rdL X T Γ W m xs)) : PI X (.Tuple elts kk tpos) (.Call (.Name "zip" p) [a, b] [] pos) (rdI X T Γ W m 3 xs) := by
  refine ⟨fun pins s σ H R I h => ?_⟩
  refine (pi_zipK hg hm ha (nst_ok hn) (nst_plain (by rw [List.all_cons, hn2]; rfl))).run pins s σ H R I ?_
  obtain ⟨ρ, fr, S, hs, ht, hf⟩ := h
  refine rd_of hs ht (fin.bind hf fun vs ρ1 H1 ds S1 x1 s1 r1 h1 => ?_)
  cases r1 with
  | nil => exact h1.elim
  | cons r1 r2 =>
    rename_i v vs d ds
    cases r2 with
    | nil => exact h1.elim
    | cons r2 r3 =>
      rename_i u us e es
      cases r3 with
      | cons _ _ => exact h1.elim
      | nil =>
        have h1 : fin X.K X.mg T (JOk X.K X.mg T) ρ1 S1.length H1 (match (match srcOf d, srcOf e with
            | some x, some y => some (Src.zip x y)
            | _, _ => none) with
          | some src => Ev.R.ok src S1
          | none => .bad) R (fun c d H' => W c d σ H') := h1
        cases e1 : srcOf d with
        | none => rw [e1] at h1; exact h1.elim
        | some sx =>
          cases e2 : srcOf e with
          | none => rw [e1, e2] at h1; exact h1.elim
          | some sy =>
            rw [e1, e2] at h1
            obtain ⟨a, b1, rfl, g1⟩ := sqOf_src r1 e1
            obtain ⟨b, b2, rfl, g2⟩ := sqOf_src r2 e2
            obtain ⟨l, xs', _, q1, _⟩ := g1 ρ1 H1 S1 Ext.refl s1
            obtain ⟨l2, ys', _, q2, _⟩ := g2 ρ1 H1 S1 Ext.refl s1
            exact ⟨a, b, xs', ys', b1, b2, rfl, q1, q2, h1.here s1 (j_zipK g1 g2)⟩
theorem si_enum {kk : Nat} {elts : List Expr} {tpos : Pos} (hg : Gl X "enumerate") (hm : X.mg "enumerate" = none) (hn : nst a = true) (ha : PA X [a] (rdL X T Γ W m xs)) : PI X (.Tuple elts kk tpos) (.Call (.Name "enumerate" p) [a] [] pos) (rdI X T Γ W m 4 xs) := by
  refine ⟨fun pins s σ H R I h => ?_⟩
  refine (pi_enum hg hm ha (nst_ok hn)).run pins s σ H R I ?_
  obtain ⟨ρ, fr, S, hs, ht, hf⟩ := h
  refine rd_of hs ht (fin.bind hf fun vs ρ1 H1 ds S1 x1 s1 r1 h1 => ?_)
  cases r1 with
  | nil => exact h1.elim
  | cons r1 r2 =>
    cases r2 with
    | cons _ _ => cases r1 <;> exact h1.elim
    | nil =>
      cases r1 <;> try exact h1.elim
      rename_i k hk
      have ex : ∃ l, items S1 k = some l := by
        unfold items
        cases hs : S1[k]? with
        | none =>
          rw [List.getElem?_eq_none_iff] at hs
          omega
        | some o =>
          cases o with
          | lst l => exact ⟨l, rfl⟩
          | ro l => exact ⟨l, rfl⟩
      obtain ⟨l, hl⟩ := ex
      obtain ⟨xs, q1, _⟩ := s1.seq hl
      exact ⟨_, xs, rfl, q1, h1.here s1 (j_enum hk)⟩
end
end Ev

/-! ## EvK -/
set_option Elab.async false
set_option linter.all false
set_option maxRecDepth 100000
set_option maxHeartbeats 4000000
/-! Targets, comprehensions. -/
namespace Ev
open PySem PySem.Spec PyProof.Rows L2
/-- the slots with the values set one after another -/
def setV : List Nat → List V → L2.St → L2.St
  | i :: is, v :: vs, σ => setV is vs (σ.set i (some v))
  | _, _, σ => σ
theorem wipe_in {i : Nat} : ∀ {vs : List Nat} {σ : L2.St}, i ∈ vs → (wipe σ vs)[i]? = if i < σ.length then some none else none
  | v :: vs, σ, h => by
    unfold L2.wipe
    by_cases hv : v = i
    · subst hv
      by_cases hl : v < σ.length
      · rw [List.getElem?_set_self (by rw [wipe_length]; exact hl), if_pos hl]
      · rw [List.getElem?_eq_none (by rw [List.length_set, wipe_length]; omega), if_neg hl]
    · rw [List.getElem?_set_ne hv]
      rcases List.mem_cons.mp h with e | e
      · exact absurd e.symm hv
      · exact wipe_in e
theorem wipe_set {σ : L2.St} {i : Nat} {o : Option V} {vs : List Nat} (h : i ∈ vs) : wipe (σ.set i o) vs = wipe σ vs := by
  refine List.ext_getElem? fun j => ?_
  by_cases hj : j ∈ vs
  · rw [wipe_in hj, wipe_in hj, List.length_set]
  · rw [wipe_out hj, wipe_out hj]
    exact List.getElem?_set_ne (fun e => by subst e; exact hj h)
theorem wipe_setV {vs : List Nat} : ∀ {is : List Nat} {us : List V} {σ : L2.St}, (∀ i ∈ is, i ∈ vs) → wipe (setV is us σ) vs = wipe σ vs
  | [], _, _, _ => rfl
  | i :: is, [], _, _ => rfl
  | i :: is, u :: us, σ, h => by
    show wipe (setV is us (σ.set i (some u))) vs = _
    rw [wipe_setV (fun j hj => h j (List.mem_cons_of_mem _ hj)), wipe_set (h i List.mem_cons_self)]
section
variable {K : PySem.W.Frag} {mg : Str → Option Value} {T : Tb} {ρ : Nat → Addr} {N : Nat} {H : Hp}
theorem Sl.setAll {ds : List D} : ∀ {is : List Nat} {ds : List D} {us : List V} {σ : L2.St} {fr fr1 : Frm}, Sl K mg T ρ N H σ fr → RpL K mg T ρ N H us ds → Ev.setAll is ds fr = some fr1 → us.length = is.length ∧ Sl K mg T ρ N H (setV is us σ) fr1
  | [], [], us, σ, fr, fr1, hs, r, h => by
    cases r
    cases h
    exact ⟨rfl, hs⟩
  | i :: is, d :: ds, us, σ, fr, fr1, hs, r, h => by
    cases r with
    | cons r1 r2 =>
      obtain ⟨e, hs'⟩ := Sl.setAll (ds := ds) (hs.set (i := i) r1) r2 h
      exact ⟨by rw [List.length_cons, List.length_cons, e], hs'⟩
  | [], _ :: _, us, σ, fr, fr1, hs, r, h => by cases h
  | _ :: _, [], us, σ, fr, fr1, hs, r, h => by cases h
end
/-- a target's reading -/
def gD (K : PySem.W.Frag) (mg : Str → Option Value) (T : Tb) (one : Bool) (is : List Nat) : TG := fun v σ H Q => ∃ ρ S fr d fr1, Sl K mg T ρ S.length H σ fr ∧ Stt K mg T ρ H S ∧ Rp K mg T ρ S.length H v d ∧ tgt one is d fr = some fr1 ∧
  ∀ σ', Sl K mg T ρ S.length H σ' fr1 → (∃ us, σ' = setV is us σ) → Q σ' H
theorem PG.imp {X : Cx} {e : Expr} {t t' : TG} (h : PG X e t) (g : ∀ v σ H Q, t' v σ H Q → t v σ H Q) : PG X e t' := ⟨fun pins s σ H v u Q I r q => h.run pins s σ H v u Q I r (g _ _ _ _ q)⟩
section
variable {X : Cx} {T : Tb} {Γ : Ctx} {W : WX} {m n k : Nat} {N : List Str} {sc : Scope} {fb : Str → Bool} {tg e a b c : Expr} {es : List Expr} {x y z : Ex} {xs : List Ex} {pos p : Pos} {nm : Str}
theorem sg_one {i : Nat} (hN : X.N.Nodup) (hi : X.N[i]? = some nm) (hx : Loc X.env.scope nm) (hf : X.fn nm = true ∨ X.env.scope.names.lookup nm = some .local) : PG X (.Name nm pos) (gD X.K X.mg T true [i]) := PG.imp (pg_name hN hi hx hf) fun v σ H Q h => by
  obtain ⟨ρ, S, fr, d, fr1, hs, ht, r, e, q⟩ := h
  cases e
  exact q _ (hs.set r) ⟨[v], rfl⟩
/-- names, one after another -/
inductive Nms (X : Cx) : List Expr → List Nat → Prop
  | nil : Nms X [] []
  | cons {i : Nat} {nm : Str} {pos : Pos} {es : List Expr} {is : List Nat} (hi : X.N[i]? = some nm) (hx : Loc X.env.scope nm) (hf : X.fn nm = true ∨ X.env.scope.names.lookup nm = some .local) (r : Nms X es is) : Nms X (.Name nm pos :: es) (i :: is)
theorem sgs (hN : X.N.Nodup) : ∀ {es : List Expr} {is : List Nat}, Nms X es is → PGs X es (fun us σ H Q => us.length = is.length ∧ Q (setV is us σ) H)
  | _, _, .nil => ⟨fun pins s σ H vs us Q I r h => pgs_nil.run pins s σ H vs us Q I r ⟨List.eq_nil_of_length_eq_zero h.1, by
      have e := List.eq_nil_of_length_eq_zero h.1
      subst e
      exact h.2⟩⟩
  | _, _, .cons (i := i) (is := is) hi hx hf r => ⟨fun pins s σ H vs us Q I rv h => (pgs_cons (pg_name hN hi hx hf) (sgs hN r) rfl).run pins s σ H vs us Q I rv (by
      obtain ⟨hl, q⟩ := h
      cases vs with
      | nil => simp at hl
      | cons v vs =>
        refine ⟨v, vs, rfl, ?_, q⟩
        simpa using hl)⟩
theorem Nms.len {es : List Expr} {is : List Nat} (h : Nms X es is) : (assignEach es X.env).length = is.length := by
  induction h with
  | nil => rfl
  | cons hi hx hf r ih =>
    show (assignEach _ X.env).length + 1 = _
    rw [ih]
    rfl
theorem Nms.stars {es : List Expr} {is : List Nat} (h : Nms X es is) : (assignEach es X.env).findIdx? (·.1) = none := by
  rw [List.findIdx?_eq_none_iff]
  induction h with
  | nil => intro x hx; cases hx
  | cons hi hx hf r ih =>
    intro x hx
    rcases List.mem_cons.mp hx with e | e
    · subst e
      rfl
    · exact ih x e
theorem sg_tup {is : List Nat} {kk : Nat} (hc : X.calm = true) (hN : X.N.Nodup) (h : Nms X es is) : PG X (.Tuple es kk pos) (gD X.K X.mg T false is) := PG.imp (pg_tup hc (sgs hN h) h.len h.stars) fun v σ H Q hq => by
  obtain ⟨ρ, S, fr, d, fr1, hs, ht, r, e, q⟩ := hq
  cases r <;> try cases e
  rename_i a us ds q1 q2
  have e : setAll is ds fr = some fr1 := e
  obtain ⟨hl, hs'⟩ := Sl.setAll (ds := ds) hs q2 e
  exact ⟨a, us, rfl, q1, hl, hl, q _ hs' ⟨us, rfl⟩⟩
/-! ### comprehensions -/
theorem fin_noX {α β : Type} {rel : Rel α β} {ρ : Nat → Addr} {N : Nat} {H : Hp} {α' β' : Type} {rel' : Rel α' β'} {g : R α} {k : α → Sto → R α'} {Q' : β' → Hp → Prop} {E E' : XK} {Kt : β → Hp → Prop} (h : fin X.K X.mg T rel' ρ N H ((noX g).bind k) Q' E)
    (n : ∀ b ρ1 H1 a S1, Ext X.K ρ N H ρ1 S1.length H1 → Stt X.K X.mg T ρ1 H1 S1 → rel ρ1 S1.length H1 b a → fin X.K X.mg T rel' ρ1 S1.length H1 (k a S1) Q' E → Kt b H1) : fin X.K X.mg T rel ρ N H g Kt E' := by
  cases g with
  | ok a S1 =>
    have h' : fin X.K X.mg T rel' ρ N H (k a S1) Q' E := h
    exact fun ρ1 H1 b x1 s1 r1 => n b ρ1 H1 a S1 x1 s1 r1 (h'.mono x1)
  | exc c fs S1 => exact h.elim
  | bad => exact h.elim
theorem nth_bad {src : Src} {S : Sto} {i : Nat} {tgf : D → Frm → Option Frm} {t e : Frm → Sto → R D} {f : Nat} {fr : Frm} (h : src.nth S i = none) : lcL src tgf t e k (f + 1) i fr S = .bad := by
  unfold lcL
  rw [h]
theorem lc_go {src : Src} {one : Bool} {is own : List Nat} {J : It} {te' : TE} {tt' : TT} {ifs : List Ex} {D : Addr} {σ : L2.St} {fr : Frm} {Q : VK} {E : XK} {ρ0 : Nat → Addr} {N0 : Nat} {H0 : Hp}
    (hJ : JOk X.K X.mg T ρ0 N0 H0 J src) (hio : ∀ i ∈ is, i ∈ own)
    (hte : ∀ σ H Q, rdG X.K X.mg T (relV X.K X.mg T) (fun _ _ _ _ => False) (evB Γ m false x) σ H Q → te' σ H Q)
    (htt : ∀ σ H Q, rdG X.K X.mg T relB (fun _ _ _ _ => False) (ifsT (evB Γ m true) ifs) σ H Q → tt' σ H Q) :
    ∀ (f i : Nat) (H : Hp), (∃ ρ S, Ext X.K ρ0 N0 H0 ρ S.length H ∧ Stt X.K X.mg T ρ H S ∧ Sl X.K X.mg T ρ S.length H (wipe σ own) (wipeF fr own) ∧ ρ k = D ∧ k < S.length ∧
        fin X.K X.mg T (relV X.K X.mg T) ρ S.length H (lcL src (tgt one is) (ifsT (evB Γ m true) ifs) (evB Γ m false x) k f i (wipeF fr own) S) Q E) →
      (J.stop i H ∧ Q (.ref D) H) ∨ (J.go i H ∧ ∃ Nx : Hp → Prop, (∀ H', Nx H' → ∃ f', f' < f ∧ (∃ ρ S, Ext X.K ρ0 N0 H0 ρ S.length H' ∧ Stt X.K X.mg T ρ H' S ∧ Sl X.K X.mg T ρ S.length H' (wipe σ own) (wipeF fr own) ∧ ρ k = D ∧ k < S.length ∧
        fin X.K X.mg T (relV X.K X.mg T) ρ S.length H' (lcL src (tgt one is) (ifsT (evB Γ m true) ifs) (evB Γ m false x) k f' (i + 1) (wipeF fr own) S) Q E)) ∧
        ∀ y H', J.yld i H y H' → gD X.K X.mg T one is y (wipe σ own) H' fun σ2 H2 => wipe σ2 own = wipe σ own ∧ tt' σ2 H2 fun b H3 =>
          if b = true then te' σ2 H3 fun y H4 => ∃ acc, H4 D = some (.lst acc) ∧ acc.length < sizeLine ∧ Nx (upd H4 D (.lst (acc ++ [y]))) else Nx H3) := by
  intro f i H hW
  obtain ⟨ρ, S, x0, st, hs, hD, hk, hf⟩ := hW
  cases f with
  | zero => exact hf.elim
  | succ f =>
    have hj := hJ ρ H S i x0 st
    unfold lcL at hf
    cases hn : src.nth S i with
    | none =>
      rw [hn] at hf
      exact hf.elim
    | some o =>
      rw [hn] at hj hf
      cases o with
      | none =>
        refine .inl ⟨hj, ?_⟩
        have r : Rp X.K X.mg T ρ S.length H (.ref (ρ k)) (.obj k) := .obj hk
        rw [hD] at r
        exact hf.here st r
      | some d =>
        refine .inr ⟨hj.1, fun H' => ∃ ρ S, Ext X.K ρ0 N0 H0 ρ S.length H' ∧ Stt X.K X.mg T ρ H' S ∧ Sl X.K X.mg T ρ S.length H' (wipe σ own) (wipeF fr own) ∧ ρ k = D ∧ k < S.length ∧
          fin X.K X.mg T (relV X.K X.mg T) ρ S.length H' (lcL src (tgt one is) (ifsT (evB Γ m true) ifs) (evB Γ m false x) k f (i + 1) (wipeF fr own) S) Q E, fun H' h => ⟨f, Nat.lt_succ_self _, h⟩, fun y H' hy => ?_⟩
        obtain ⟨x1, st1, r1⟩ := hj.2 y H' hy
        have hf1 := hf.mono x1
        have hs1 := hs.mono x1
        cases ht : tgt one is d (wipeF fr own) with
        | none =>
          dsimp only at hf1
          rw [ht] at hf1
          exact hf1.elim
        | some fr1 =>
          dsimp only at hf1
          rw [ht] at hf1
          refine ⟨ρ, S, wipeF fr own, d, fr1, hs1, st1, r1, ht, fun σ' hs2 hus => ⟨?_, ?_⟩⟩
          · obtain ⟨us, e⟩ := hus
            subst e
            rw [wipe_setV hio]
            refine List.ext_getElem? fun j => ?_
            by_cases hj : j ∈ own
            · rw [wipe_in hj, wipe_in hj, wipe_length]
            · rw [wipe_out hj]
          · refine htt _ _ _ (rd_of hs2 st1 (fin_noX hf1 fun bb ρ2 H2 db S2 x2 s2 r2 h2 => ?_))
            have r2 : db = .bl bb := r2
            subst r2
            cases bb with
            | false =>
              rw [if_neg Bool.false_ne_true]
              exact ⟨ρ2, S2, x0.trans (x1.trans x2), s2, hs1.mono x2, by rw [x2.rho k hk]; exact hD, Nat.lt_of_lt_of_le hk x2.le, h2⟩
            | true =>
              rw [if_pos rfl]
              refine hte _ _ _ (rd_of (hs2.mono x2) s2 (fin_noX h2 fun v ρ3 H3 dv S3 x3 s3 r3 h3 => ?_))
              cases hsk : S3[k]? with
              | none =>
                rw [hsk] at h3
                exact h3.elim
              | some o =>
                rw [hsk] at h3
                cases o with
                | ro l => exact h3.elim
                | lst acc =>
                  dsimp only at h3
                  split at h3
                  · rename_i hlen
                    obtain ⟨ys, g1, g2⟩ := s3.lst _ _ hsk
                    have hk2 : k < S2.length := Nat.lt_of_lt_of_le hk x2.le
                    have eD : ρ3 k = D := by rw [x3.rho k hk2, x2.rho k hk, hD]
                    rw [eD] at g1
                    refine ⟨ys, g1, by rw [g2.length]; exact lim_lt hlen, ρ3, S3.set k (.lst (acc ++ [dv])), ?_, ?_, ?_, eD, ?_, ?_⟩
                    · rw [List.length_set, ← eD]
                      exact x0.trans (x1.trans (x2.trans (x3.trans (Ext.setL s3 hsk))))
                    · rw [← eD]
                      exact s3.setL hsk (g2.append (.cons r3 .nil))
                    · rw [List.length_set, ← eD]
                      exact hs1.mono (x2.trans (x3.trans (Ext.setL s3 hsk)))
                    · rw [List.length_set]
                      exact Nat.lt_of_lt_of_le hk2 x3.le
                    · rw [List.length_set, ← eD]
                      exact h3.mono (Ext.setL s3 hsk)
                  · exact h3.elim
/-- what is wished of a comprehension -/
theorem lc_read {one : Bool} {is own : List Nat} {te' : TE} {tt' : TT} {itk : Nat} {its ifs : List Ex} (hio : ∀ i ∈ is, i ∈ own)
    (hte : ∀ σ H Q, rdG X.K X.mg T (relV X.K X.mg T) (fun _ _ _ _ => False) (evB Γ m false x) σ H Q → te' σ H Q)
    (htt : ∀ σ H Q, rdG X.K X.mg T relB (fun _ _ _ _ => False) (ifsT (evB Γ m true) ifs) σ H Q → tt' σ H Q) (σ : L2.St) (H : Hp) (Q : VK) (h : rdE X T Γ W (m + 1) (.lc x is one itk its ifs own) σ H Q) :
    tLc (rdI X T Γ W m itk its) (gD X.K X.mg T one is) tt' te' own σ H Q := by
  obtain ⟨ρ, fr, S, hs, ht, hf⟩ := h
  refine rd_of hs ht (fin.bind hf fun J ρ1 H1 src S1 x1 s1 hJ h1 => fun D hD => ?_)
  have e1 : (S1 ++ [MO.lst []]).length = S1.length + 1 := by simp
  have xn : Ext X.K ρ1 S1.length H1 (put ρ1 S1.length D) (S1 ++ [MO.lst []]).length (upd H1 D (.lst [])) := by
    rw [e1]
    exact Ext.newL hD
  have go := lc_go (X := X) (T := T) (Γ := Γ) (m := m) (k := S1.length) (x := x) (one := one) (σ := σ) (fr := fr) (D := D) (Q := Q) (E := fun c d H' => W c d σ H') hJ hio hte htt
  refine ⟨fun i f H => ∃ ρ S, Ext X.K ρ1 S1.length H1 ρ S.length H ∧ Stt X.K X.mg T ρ H S ∧ Sl X.K X.mg T ρ S.length H (wipe σ own) (wipeF fr own) ∧ ρ S1.length = D ∧ S1.length < S.length ∧
        fin X.K X.mg T (relV X.K X.mg T) ρ S.length H (lcL src (tgt one is) (ifsT (evB Γ m true) ifs) (evB Γ m false x) S1.length f i (wipeF fr own) S) Q (fun c d H' => W c d σ H'),
    ⟨m, put ρ1 S1.length D, S1 ++ [.lst []], xn, s1.newL hD .nil, ((hs.mono x1).wipe own).mono xn, put_same, by rw [e1]; exact Nat.lt_succ_self _, h1.mono xn⟩, fun i f H hW => go f i H hW⟩
end
end Ev

/-! ## EvL -/
set_option Elab.async false
set_option linter.all false
set_option maxRecDepth 100000
set_option maxHeartbeats 4000000
/-! The statements' rules. -/
namespace Ev
open PySem PySem.Spec PyProof.Rows L2
section
variable {X : Cx} {T : Tb} {Γ : Ctx} {W : WX} {m n k : Nat} {N : List Str} {sc : Scope} {fb : Str → Bool} {tg e it elt a b c : Expr} {es : List Expr} {x y z : Ex} {xs : List Ex} {pos p : Pos} {nm : Str}
def nset : Expr → Bool
  | .Set _ _ _ => false
  | _ => true
theorem nset_ok {env : Env} (h : nset e = true) : ∀ v, foldedSetIterable e env v = pure v := by
  intro v
  cases e <;> first
    | rfl
    | exact absurd (show false = true from h) Bool.false_ne_true
theorem PTs.imp {ifs : List Expr} {t t' : TT} (h : PTs X ifs t) (g : ∀ σ H Q, t' σ H Q → t σ H Q) : PTs X ifs t' := ⟨fun pins s σ H Q I q => h.run pins s σ H Q I (g _ _ _ q)⟩
theorem sts_nil : PTs X [] (rdG X.K X.mg T relB W (ifsT (evB Γ m true) [])) := PTs.imp pts_nil fun σ H Q h => by
  obtain ⟨ρ, fr, S, hs, ht, hf⟩ := h
  exact hf.here ht (show relB ρ S.length H true (.bl true) from rfl)
theorem sts_one (h : PT X c (rdT X T Γ W m x)) : PTs X [c] (rdG X.K X.mg T relB W (ifsT (evB Γ m true) [x])) := pts_one h
theorem se_lc {scope : Scope} {own : List (Str × Nat)} {ifs : List Expr} {xifs its : List Ex} {itk : Nat} {one : Bool} {is : List Nat} (hc : X.calm = true) (hN : X.N.Nodup) (hi : PI X tg it (rdI X T Γ W m itk its)) (okb : BlkOk X.N X.env.scope scope own) (hio : ∀ i ∈ is, i ∈ own.map (·.2))
    (hg : ∀ (s : Shared) (H : Hp) (C : Addr) (cl : List (Str × Addr)) (fp : List Addr), PG (X.blk s H scope (compEnvC scope cl C X.env) fp) tg (gD X.K X.mg T one is))
    (ht : ∀ (s : Shared) (H : Hp) (C : Addr) (cl : List (Str × Addr)) (fp : List Addr), PTs (X.blk s H scope (compEnvC scope cl C X.env) fp) ifs (rdG X.K X.mg T relB (fun _ _ _ _ => False) (ifsT (evB Γ m true) xifs)))
    (he : ∀ (s : Shared) (H : Hp) (C : Addr) (cl : List (Str × Addr)) (fp : List Addr), PE (X.blk s H scope (compEnvC scope cl C X.env) fp) elt (rdG X.K X.mg T (relV X.K X.mg T) (fun _ _ _ _ => False) (evB Γ m false x)))
    (hns : nset it = true) : PE X (.ListComp elt [⟨tg, it, ifs, 0⟩] scope pos) (rdE X T Γ W (m + 1) (.lc x is one itk its xifs (own.map (·.2)))) :=
  PE.imp (pe_lc hc hN hi okb hg ht he (nset_ok hns)) fun σ H Q h => lc_read hio (fun _ _ _ h => h) (fun _ _ _ h => h) σ H Q h
end
/-! ### what is wished behind a statement -/
def finS (K : PySem.W.Frag) (mg : Str → Option Value) (T : Tb) (ρ : Nat → Addr) (N : Nat) (H : Hp) (r : RS) (D : Ends) (W : WX) : Prop := match r with
  | .nx fr S' => ∀ ρ' H' σ', Ext K ρ N H ρ' S'.length H' → Stt K mg T ρ' H' S' → Sl K mg T ρ' S'.length H' σ' fr → D.nx σ' H'
  | .bk fr S' => ∀ ρ' H' σ', Ext K ρ N H ρ' S'.length H' → Stt K mg T ρ' H' S' → Sl K mg T ρ' S'.length H' σ' fr → D.bk σ' H'
  | .ct fr S' => ∀ ρ' H' σ', Ext K ρ N H ρ' S'.length H' → Stt K mg T ρ' H' S' → Sl K mg T ρ' S'.length H' σ' fr → D.ct σ' H'
  | .rt d S' => ∀ ρ' H' v, Ext K ρ N H ρ' S'.length H' → Stt K mg T ρ' H' S' → Rp K mg T ρ' S'.length H' v d → D.rt v H'
  | .exc c fs fr S' => ∀ ρ' H' σ' cls d, Ext K ρ N H ρ' S'.length H' → Stt K mg T ρ' H' S' → Sl K mg T ρ' S'.length H' σ' fr → ExcIs K mg T ρ' S'.length H' cls d c fs → W cls d σ' H'
  | .bad => False
def rdS (K : PySem.W.Frag) (mg : Str → Option Value) (T : Tb) (W : WX) (f : Frm → Sto → RS) : TS := fun D σ H => ∃ ρ fr S, Sl K mg T ρ S.length H σ fr ∧ Stt K mg T ρ H S ∧ finS K mg T ρ S.length H (f fr S) D W
section
variable {K : PySem.W.Frag} {mg : Str → Option Value} {T : Tb} {ρ ρ' : Nat → Addr} {N N' : Nat} {H H' : Hp} {S : Sto} {fr : Frm} {σ : L2.St} {r : RS} {D D' : Ends} {W : WX} {α β : Type} {rel : Rel α β}
theorem finS.mono (x : Ext K ρ N H ρ' N' H') (h : finS K mg T ρ N H r D W) : finS K mg T ρ' N' H' r D W := by
  cases r with
  | nx fr S' => exact fun ρ2 H2 σ2 x2 s2 l2 => h ρ2 H2 σ2 (x.trans x2) s2 l2
  | bk fr S' => exact fun ρ2 H2 σ2 x2 s2 l2 => h ρ2 H2 σ2 (x.trans x2) s2 l2
  | ct fr S' => exact fun ρ2 H2 σ2 x2 s2 l2 => h ρ2 H2 σ2 (x.trans x2) s2 l2
  | rt d S' => exact fun ρ2 H2 v x2 s2 r2 => h ρ2 H2 v (x.trans x2) s2 r2
  | exc c fs fr S' => exact fun ρ2 H2 σ2 cls d x2 s2 l2 e => h ρ2 H2 σ2 cls d (x.trans x2) s2 l2 e
  | bad => exact h
theorem rs_of {f : Frm → Sto → RS} (hs : Sl K mg T ρ S.length H σ fr) (ht : Stt K mg T ρ H S) (h : finS K mg T ρ S.length H (f fr S) D W) : rdS K mg T W f D σ H := ⟨ρ, fr, S, hs, ht, h⟩
theorem finS.here {fr' : Frm} (h : finS K mg T ρ S.length H (.nx fr' S) D W) (ht : Stt K mg T ρ H S) {σ' : L2.St} (hs : Sl K mg T ρ S.length H σ' fr') : D.nx σ' H := h ρ H σ' Ext.refl ht hs
/-- an expression first -/
theorem finS.toS {g : R α} {k : α → Sto → RS} {Kt : β → Hp → Prop} (hs : Sl K mg T ρ N H σ fr) (h : finS K mg T ρ N H (g.toS fr k) D W)
    (n : ∀ b ρ1 H1 a S1, Ext K ρ N H ρ1 S1.length H1 → Stt K mg T ρ1 H1 S1 → rel ρ1 S1.length H1 b a → finS K mg T ρ1 S1.length H1 (k a S1) D W → Kt b H1) :
    fin K mg T rel ρ N H g Kt (fun c d H' => W c d σ H') := by
  cases g with
  | ok a S1 =>
    have h' : finS K mg T ρ N H (k a S1) D W := h
    exact fun ρ1 H1 b x1 s1 r1 => n b ρ1 H1 a S1 x1 s1 r1 (h'.mono x1)
  | exc c fs S1 =>
    have h' : finS K mg T ρ N H (.exc c fs fr S1) D W := h
    exact fun ρ1 H1 cls d x1 s1 e => h' ρ1 H1 σ cls d x1 s1 (hs.mono x1) e
  | bad => exact h
end
section
variable {X : Cx} {T : Tb} {Γ : Ctx} {W : WX} {m n k : Nat} {N : List Str} {sc : Scope} {fb : Str → Bool} {tg e it elt a b c : Expr} {es : List Expr} {x y z : Ex} {xs : List Ex} {pos p : Pos} {nm : Str} {sts sts2 : List Stmt} {st : Stmt} {s : Sx} {ss ss2 : List Sx}
abbrev rdX (X : Cx) (T : Tb) (Γ : Ctx) (W : WX) (m : Nat) (s : Sx) : TS := rdS X.K X.mg T W (evS Γ m s)
abbrev rdXs (X : Cx) (T : Tb) (Γ : Ctx) (W : WX) (m : Nat) (ss : List Sx) : TS := rdS X.K X.mg T W (seqS (evS Γ m) ss)
theorem PSs.imp {e : List Stmt} {t t' : TS} (h : PSs X e t) (g : ∀ D σ H, t' D σ H → t D σ H) : PSs X e t' := ⟨fun pins s σ H D I q => h.run pins s σ H D I (g _ _ _ q)⟩
theorem ps_bad (h : ∀ fr S, evS Γ m s fr S = .bad) : PS X st (rdX X T Γ W m s) := ⟨fun pins s σ H D I q => by
  obtain ⟨ρ, fr, S, _, _, hf⟩ := q
  rw [h] at hf
  exact hf.elim⟩
theorem ss_nil : PSs X [] (rdXs X T Γ W m []) := PSs.imp pss_nil fun D σ H h => by
  obtain ⟨ρ, fr, S, hs, ht, hf⟩ := h
  exact hf.here ht hs
theorem ss_cons (h1 : PS X st (rdX X T Γ W m s)) (h2 : PSs X sts (rdXs X T Γ W m ss)) : PSs X (st :: sts) (rdXs X T Γ W m (s :: ss)) := PSs.imp (pss_cons h1 h2) fun D σ H h => by
  obtain ⟨ρ, fr, S, hs, ht, hf⟩ := h
  refine rs_of hs ht ?_
  have hf : finS X.K X.mg T ρ S.length H (match evS Γ m s fr S with
    | .nx fr1 S1 => seqS (evS Γ m) ss fr1 S1
    | o => o) D W := hf
  cases hg : evS Γ m s fr S with
  | nx fr1 S1 =>
    rw [hg] at hf
    intro ρ1 H1 σ1 x1 s1 l1
    exact rs_of l1 s1 (hf.mono x1)
  | bk fr1 S1 => rw [hg] at hf; exact hf
  | ct fr1 S1 => rw [hg] at hf; exact hf
  | rt d S1 => rw [hg] at hf; exact hf
  | exc c fs fr1 S1 => rw [hg] at hf; exact hf
  | bad => rw [hg] at hf; exact hf
/-! ### assignments -/
theorem ss_set {i : Nat} {pp : Pos} (hN : X.N.Nodup) (hi : X.N[i]? = some nm) (hx : Loc X.env.scope nm) (hf : X.fn nm = true ∨ X.env.scope.names.lookup nm = some .local) (hsw : swapsWith e (some (.Name nm pp)) pos.line X.env = pure false) (he : PE X e (rdE X T Γ W m x)) :
    PS X (.Assign [.Name nm pp] e pos) (rdX X T Γ W (m + 1) (.asg i x)) := PS.imp (ps_set hN hi hx he hsw hf) fun D σ H h => by
  obtain ⟨ρ, fr, S, hs, ht, hf⟩ := h
  exact rd_of hs ht (finS.toS hs hf fun v1 ρ1 H1 d1 S1 x1 s1 r1 h1 => h1.here s1 ((hs.mono x1).set r1))
theorem ss_asgT {is : List Nat} {kk : Nat} {pp : Pos} (hc : X.calm = true) (hN : X.N.Nodup) (hn : Nms X es is) (hsw : swapsWithSole [.Tuple es kk pp] e pos.line X.env = pure false) (hw : swappedStores [.Tuple es kk pp] e X.env = pure none) (he : PE X e (rdE X T Γ W m x)) :
    PS X (.Assign [.Tuple es kk pp] e pos) (rdX X T Γ W (m + 1) (.asgT is x)) := PS.imp (ps_asg (g := gD X.K X.mg T false is) he (sg_tup hc hN hn) hsw hw rfl) fun D σ H h => by
  obtain ⟨ρ, fr, S, hs, ht, hf⟩ := h
  refine rd_of hs ht (finS.toS hs hf fun v1 ρ1 H1 d1 S1 x1 s1 r1 h1 => ?_)
  split at h1
  · rename_i fr1 e1
    exact ⟨ρ1, S1, fr, d1, fr1, hs.mono x1, s1, r1, e1, fun σ' hs' _ => h1.here s1 hs'⟩
  · exact h1.elim
theorem ss_par {i j : Nat} {u v : Str} {px py pt : Pos} {kt k2 : Nat} {pt2 : Pos} (hc : X.calm = true) (hN : X.N.Nodup) (hi : X.N[i]? = some u) (hj : X.N[j]? = some v) (hij : i ≠ j) (hx : X.env.scope.names.lookup u = some .local) (hy : X.env.scope.names.lookup v = some .local)
    (hw : swappedStores [.Tuple [.Name u px, .Name v py] kt pt] (.Tuple [a, b] k2 pt2) X.env = pure (some [u, v])) (hn : nst a = true) (hn2 : nst b = true) (ha : PE X a (rdE X T Γ W m x)) (hb : PE X b (rdE X T Γ W m y)) :
    PS X (.Assign [.Tuple [.Name u px, .Name v py] kt pt] (.Tuple [a, b] k2 pt2) pos) (rdX X T Γ W (m + 1) (.par i j x y)) := PS.imp (ps_par hc hN hi hj hij hx hy (pa_cons ha (pa_cons hb pa_nil (nst_ok hn2)) (nst_ok hn)) hw rfl) fun D σ H h => by
  obtain ⟨ρ, fr, S, hs, ht, hf⟩ := h
  refine rd_of hs ht (finS.toS hs hf fun v1 ρ1 H1 d1 S1 x1 s1 r1 h1 => rd_of (hs.mono x1) s1 (finS.toS (hs.mono x1) h1 fun v2 ρ2 H2 d2 S2 x2 s2 r2 h2 => ⟨v1, v2, rfl, ?_⟩))
  exact h2.here s2 ((((hs.mono x1).mono x2).set (r1.mono x2)).set r2)
theorem iop_D (op : Operator) : OpR X (inplaceOp op) (rD2 X.K X.mg T (iopD op)) := by
  intro pins s σ H x y v u Q I rx ry h
  obtain ⟨ρ, S, d, e, E, st, r1, r2, hf⟩ := h
  cases op with
  | Add =>
    cases r1 <;> cases r2 <;> try exact hf.elim
    · exact iop_add pins s σ H _ _ v u Q I rx ry ⟨_, _, rfl, rfl, hf.here st (.int _)⟩
    · dsimp only [iopD] at hf
      split at hf
      · rename_i hl
        exact iop_add_str pins s σ H _ _ v u Q I rx ry ⟨_, _, rfl, rfl, lim_size hl, hf.here st (.str _)⟩
      · exact hf.elim
    · rename_i n hn m hm
      dsimp only [iopD] at hf
      split at hf
      · rename_i l k e1 e2
        split at hf
        · rename_i hl
          obtain ⟨xs, g1, p1⟩ := st.lst _ _ e1
          obtain ⟨ys, g2, p2⟩ := st.lst _ _ e2
          refine iop_ext pins s σ H _ _ v u Q I rx ry ⟨_, _, xs, ys, rfl, rfl, g1, g2, ?_, ?_⟩
          · rw [p1.length, p2.length]
            exact lim_size hl
          · refine hf ρ _ _ ?_ (st.setL e1 (p1.append p2)) (.obj ?_)
            · rw [List.length_set]
              exact Ext.setL st e1
            · rw [List.length_set]
              exact hn
        · exact hf.elim
      · exact hf.elim
  | Sub =>
    cases r1 <;> cases r2 <;> try exact hf.elim
    exact iop_sub pins s σ H _ _ v u Q I rx ry ⟨_, _, rfl, rfl, hf.here st (.int _)⟩
  | Mult =>
    cases r1 <;> cases r2 <;> try exact hf.elim
    dsimp only [iopD] at hf
    split at hf
    · rename_i hl
      have hl : CMulW _ _ := hl
      have op : OpR X (inplaceOp .Mult) (rI CMulW fun i j => .int (i * j)) := opI fun _ _ _ _ _ _ _ hc q => imul_int q hc.ok
      exact op pins s σ H _ _ v u Q I rx ry ⟨_, _, rfl, rfl, hl, hf.here st (.int _)⟩
    · exact hf.elim
  | FloorDiv =>
    cases r1 <;> cases r2 <;> try exact hf.elim
    dsimp only [iopD] at hf
    split at hf
    · rename_i hl
      exact iop_fdivW pins s σ H _ _ v u Q I rx ry ⟨_, _, rfl, rfl, hl, hf.here st (.int _)⟩
    · exact hf.elim
  | _ => cases r1 <;> cases r2 <;> exact hf.elim
theorem ss_aug {i : Nat} {op : Operator} {pp : Pos} (hN : X.N.Nodup) (hi : X.N[i]? = some nm) (hx : Loc X.env.scope nm) (hf : X.fn nm = true ∨ X.env.scope.names.lookup nm = some .local) (he : PE X e (rdE X T Γ W m x)) :
    PS X (.AugAssign (.Name nm pp) op e pos) (rdX X T Γ W (m + 1) (.aug i op x)) := PS.imp (ps_aug hN hi hx he (iop_D (T := T) op) hf) fun D σ H h => by
  obtain ⟨ρ, fr, S, hs, ht, hf⟩ := h
  have hf : finS X.K X.mg T ρ S.length H (match fr[i]? with
      | some (some x') => (evB Γ m false x fr S).toS fr fun y S1 => (iopD op x' y S1).toS fr fun z S2 => .nx (fr.set i (some z)) S2
      | _ => .bad) D W := hf
  split at hf
  · rename_i d hd
    obtain ⟨v, hv, r⟩ := hs.at_ i d hd
    refine ⟨v, hv, rd_of hs ht (finS.toS hs hf fun v1 ρ1 H1 d1 S1 x1 s1 r1 h1 => ⟨ρ1, S1, d, d1, _, s1, r.mono x1, r1, finS.toS (hs.mono x1) h1 fun v2 ρ2 H2 d2 S2 x2 s2 r2 h2 => ?_⟩)⟩
    exact h2.here s2 (((hs.mono x1).mono x2).set r2)
  · exact hf.elim
/-! ### others -/
theorem ss_expr (he : PE X e (rdE X T Γ W m x)) (hsw : swapsWith e none pos.line X.env = pure false) : PS X (.Expr e pos) (rdX X T Γ W (m + 1) (.ex x)) := PS.imp (ps_expr he hsw) fun D σ H h => by
  obtain ⟨ρ, fr, S, hs, ht, hf⟩ := h
  exact rd_of hs ht (finS.toS hs hf fun v1 ρ1 H1 d1 S1 x1 s1 r1 h1 => h1.here s1 (hs.mono x1))
theorem ss_ret (he : PE X e (rdE X T Γ W m x)) : PS X (.Return (some e) pos) (rdX X T Γ W (m + 1) (.ret x)) := PS.imp (ps_ret he) fun D σ H h => by
  obtain ⟨ρ, fr, S, hs, ht, hf⟩ := h
  exact rd_of hs ht (finS.toS hs hf fun v1 ρ1 H1 d1 S1 x1 s1 r1 h1 => h1 ρ1 H1 v1 Ext.refl s1 r1)
theorem ss_retN : PS X (.Return none pos) (rdX X T Γ W (m + 1) .retN) := PS.imp ps_retN fun D σ H h => by
  obtain ⟨ρ, fr, S, hs, ht, hf⟩ := h
  exact hf ρ H .non Ext.refl ht .non
theorem ss_pass : PS X (.Pass pos) (rdX X T Γ W (m + 1) .pass) := PS.imp ps_pass fun D σ H h => by
  obtain ⟨ρ, fr, S, hs, ht, hf⟩ := h
  exact hf.here ht hs
theorem ss_break : PS X (.Break pos) (rdX X T Γ W (m + 1) .brk) := PS.imp ps_break fun D σ H h => by
  obtain ⟨ρ, fr, S, hs, ht, hf⟩ := h
  exact hf ρ H σ Ext.refl ht hs
theorem ss_cont : PS X (.Continue pos) (rdX X T Γ W (m + 1) .cont) := PS.imp ps_continue fun D σ H h => by
  obtain ⟨ρ, fr, S, hs, ht, hf⟩ := h
  exact hf ρ H σ Ext.refl ht hs
theorem ss_if (hc : PT X c (rdT X T Γ W m x)) (h1 : PSs X sts (rdXs X T Γ W m ss)) (h2 : PSs X sts2 (rdXs X T Γ W m ss2)) : PS X (.If c sts sts2 pos) (rdX X T Γ W (m + 1) (.iff x ss ss2)) := PS.imp (ps_if hc h1 h2) fun D σ H h => by
  obtain ⟨ρ, fr, S, hs, ht, hf⟩ := h
  refine rd_of hs ht (finS.toS hs hf fun v1 ρ1 H1 d1 S1 x1 s1 r1 h1 => ?_)
  have r1 : d1 = .bl v1 := r1
  subst r1
  cases v1 with
  | true => exact rs_of (hs.mono x1) s1 h1
  | false => exact rs_of (hs.mono x1) s1 h1
/-! ### loops -/
theorem ss_while (hp : PassesOwn (model X.prog X.w) X.A X.env X.xe) (hc : PT X c (rdT X T Γ W m x)) (h1 : PSs X sts (rdXs X T Γ W m ss)) : PS X (.While c sts [] pos) (rdX X T Γ W (m + 1) (.whl x ss)) := PS.imp (ps_while hp hc h1) fun D σ H h => by
  obtain ⟨ρ, fr, S, hs, ht, hf⟩ := h
  refine ⟨fun f σ H => ∃ ρ fr S, Sl X.K X.mg T ρ S.length H σ fr ∧ Stt X.K X.mg T ρ H S ∧ finS X.K X.mg T ρ S.length H (whileL (evB Γ m true x) (seqS (evS Γ m) ss) f fr S) D W, ⟨m, ρ, fr, S, hs, ht, hf⟩, ?_⟩
  rintro f σ H ⟨ρ, fr, S, hs, ht, hf⟩
  cases f with
  | zero => exact hf.elim
  | succ f =>
    refine rd_of hs ht (finS.toS hs hf fun v1 ρ1 H1 d1 S1 x1 s1 r1 h1 => ?_)
    have r1 : d1 = .bl v1 := r1
    subst r1
    cases v1 with
    | false => exact h1.here s1 (hs.mono x1)
    | true =>
      refine ⟨fun σ H => ∃ ρ fr S, Sl X.K X.mg T ρ S.length H σ fr ∧ Stt X.K X.mg T ρ H S ∧ finS X.K X.mg T ρ S.length H (whileL (evB Γ m true x) (seqS (evS Γ m) ss) f fr S) D W, fun σ' H' h => ⟨f, Nat.lt_succ_self _, h⟩, rs_of (hs.mono x1) s1 ?_⟩
      dsimp only at h1
      cases hg : seqS (evS Γ m) ss fr S1 with
      | nx fr2 S2 =>
        rw [hg] at h1
        exact fun ρ2 H2 σ2 x2 s2 l2 => ⟨ρ2, fr2, S2, l2, s2, h1.mono x2⟩
      | ct fr2 S2 =>
        rw [hg] at h1
        exact fun ρ2 H2 σ2 x2 s2 l2 => ⟨ρ2, fr2, S2, l2, s2, h1.mono x2⟩
      | bk fr2 S2 =>
        rw [hg] at h1
        exact h1
      | rt d S2 => rw [hg] at h1; exact h1
      | exc c fs fr2 S2 => rw [hg] at h1; exact h1
      | bad => rw [hg] at h1; exact h1
theorem ss_for {itk : Nat} {its : List Ex} {one : Bool} {is : List Nat} (hp : PassesOwn (model X.prog X.w) X.A X.env X.xe) (hc : X.calm = true) (hi : PI X tg it (rdI X T Γ W m itk its)) (hg : PG X tg (gD X.K X.mg T one is)) (hns : nset it = true) (h1 : PSs X sts (rdXs X T Γ W m ss)) :
    PS X (.For tg it sts [] pos) (rdX X T Γ W (m + 1) (.forr is one itk its ss)) := PS.imp (ps_for hp hc hi hg h1 (nset_ok hns)) fun D σ H h => by
  obtain ⟨ρ, fr, S, hs, ht, hf⟩ := h
  refine rd_of hs ht (finS.toS hs hf fun J ρ0 H0 src S0 x0 s0 hJ h0 => ?_)
  refine ⟨fun i f σ H => ∃ ρ fr S, Ext X.K ρ0 S0.length H0 ρ S.length H ∧ Sl X.K X.mg T ρ S.length H σ fr ∧ Stt X.K X.mg T ρ H S ∧ finS X.K X.mg T ρ S.length H (forL src (tgt one is) (seqS (evS Γ m) ss) f i fr S) D W, ⟨m, ρ0, fr, S0, Ext.refl, hs.mono x0, s0, h0⟩, ?_⟩
  rintro i f σ H ⟨ρ, fr, S, x0, hs, ht, hf⟩
  cases f with
  | zero => exact hf.elim
  | succ f =>
    have hj := hJ ρ H S i x0 ht
    unfold forL at hf
    cases hn : src.nth S i with
    | none => rw [hn] at hf; exact hf.elim
    | some o =>
      rw [hn] at hj hf
      cases o with
      | none => exact .inl ⟨hj, hf.here ht hs⟩
      | some d =>
        dsimp only at hf
        refine .inr ⟨hj.1, fun σ H => ∃ ρ fr S, Ext X.K ρ0 S0.length H0 ρ S.length H ∧ Sl X.K X.mg T ρ S.length H σ fr ∧ Stt X.K X.mg T ρ H S ∧ finS X.K X.mg T ρ S.length H (forL src (tgt one is) (seqS (evS Γ m) ss) f (i + 1) fr S) D W, fun σ' H' h => ⟨f, Nat.lt_succ_self _, h⟩, fun y H' hy => ?_⟩
        obtain ⟨x1, st1, r1⟩ := hj.2 y H' hy
        cases htg : tgt one is d fr with
        | none => rw [htg] at hf; exact hf.elim
        | some fr1 =>
          rw [htg] at hf
          have h1 := hf.mono x1
          dsimp only at h1
          refine ⟨ρ, S, fr, d, fr1, hs.mono x1, st1, r1, htg, fun σ' hs' _ => rs_of hs' st1 ?_⟩
          cases hg : seqS (evS Γ m) ss fr1 S with
          | nx fr2 S2 =>
            rw [hg] at h1
            exact fun ρ2 H2 σ2 x2 s2 l2 => ⟨ρ2, fr2, S2, x0.trans (x1.trans x2), l2, s2, h1.mono x2⟩
          | ct fr2 S2 =>
            rw [hg] at h1
            exact fun ρ2 H2 σ2 x2 s2 l2 => ⟨ρ2, fr2, S2, x0.trans (x1.trans x2), l2, s2, h1.mono x2⟩
          | bk fr2 S2 => rw [hg] at h1; exact h1
          | rt d S2 => rw [hg] at h1; exact h1
          | exc c fs fr2 S2 => rw [hg] at h1; exact h1
          | bad => rw [hg] at h1; exact h1
end
end Ev

/-! ## EvM -/
set_option Elab.async false
set_option linter.all false
set_option maxRecDepth 100000
set_option maxHeartbeats 4000000
/-! Stores into lists, lists of a comprehension, try. -/
namespace Ev
open PySem PySem.Spec PyProof.Rows L2
section
variable {X : Cx} {T : Tb} {Γ : Ctx} {W : WX} {m n k : Nat} {N : List Str} {sc : Scope} {fb : Str → Bool} {tg e it elt a b c o i : Expr} {es : List Expr} {x y z : Ex} {xs : List Ex} {pos p p2 : Pos} {nm : Str} {sts sts2 : List Stmt} {st : Stmt} {s : Sx} {ss ss2 : List Sx}
theorem sw_sub {o i : Expr} {p2 : Pos} {l : Nat} {env : Env} : swapsWithSole [.Subscript o i p2] e l env = pure false := by
  cases e <;> rfl
theorem sw_store {o i : Expr} {p2 : Pos} {env : Env} : swappedStores [.Subscript o i p2] e env = pure none := by
  cases e <;> rfl
def nsl : Expr → Bool
  | .Slice _ _ _ _ => false
  | _ => true
theorem nsl_asg (h : nsl i = true) {env : Env} : ∀ v, assign (.Subscript o i pos) env v = (do
      let ov ← holding [v] (eval o env)
      let iv ← holding [v, ov] (eval i env)
      standAt pos
      holding [v, ov, iv] (setItem ov iv v)
      release [v, ov, iv] []) := by
  intro v
  cases i <;> first
    | rfl
    | exact absurd (show false = true from h) Bool.false_ne_true
theorem nsl_ix (h : nsl i = true) : PlainIx i := by
  intro v u
  cases i <;> first
    | rfl
    | exact absurd (show false = true from h) Bool.false_ne_true
theorem ss_setix (hn : nsl i = true) (ho : PE X o (rdE X T Γ W m y)) (hi : PE X i (rdE X T Γ W m z)) (he : PE X e (rdE X T Γ W m x)) :
    PS X (.Assign [.Subscript o i p2] e pos) (rdX X T Γ W (m + 1) (.setix x y z)) := PS.imp (ps_asg he (pg_sub ho hi set_list (nsl_asg hn)) sw_sub sw_store rfl) fun D σ H h => by
  obtain ⟨ρ, fr, S, hs, ht, hf⟩ := h
  refine rd_of hs ht (finS.toS hs hf fun v1 ρ1 H1 d1 S1 x1 s1 r1 h1 => rd_of (hs.mono x1) s1 (finS.toS (hs.mono x1) h1 fun v2 ρ2 H2 d2 S2 x2 s2 r2 h2 => rd_of ((hs.mono x1).mono x2) s2 (finS.toS ((hs.mono x1).mono x2) h2 fun v3 ρ3 H3 d3 S3 x3 s3 r3 h3 => ?_)))
  have r2 := r2.mono x3
  cases r2 <;> cases r3 <;> try exact h3.elim
  rename_i k hk j
  have h3 : finS X.K X.mg T ρ3 S3.length H3 (match S3[k]? with
        | some (.lst l) => match ixN l.length j with
          | some j => .nx fr (S3.set k (.lst (l.set j d1)))
          | none => .bad
        | _ => .bad) D W := h3
  split at h3
  · rename_i l hl
    split at h3
    · rename_i q hq
      obtain ⟨ys, g1, g2⟩ := s3.lst _ _ hl
      refine ⟨_, ys, j, q, rfl, rfl, g1, by rw [g2.length]; exact hq, ?_⟩
      refine h3 ρ3 _ _ ?_ (s3.setL hl (RpL.set q ((r1.mono x2).mono x3) g2)) ?_
      · rw [List.length_set]
        exact Ext.setL s3 hl
      · rw [List.length_set]
        exact (((hs.mono x1).mono x2).mono x3).mono (Ext.setL s3 hl)
    · exact h3.elim
  · exact h3.elim
theorem ss_setLc {j : Nat} {scope : Scope} {own : List (Str × Nat)} {ifs : List Expr} {xifs its : List Ex} {itk : Nat} {one : Bool} {is : List Nat} {py lp : Pos} (hc : X.calm = true) (hN : X.N.Nodup) (hy : X.N[j]? = some nm) (hyl : X.env.scope.names.lookup nm = some .local)
    (hk : X.env.scope.kind = .function) (hl : (py.line == lp.line) = true) (hsw : (scope.names.any fun (n, k) => n == nm && (k == .local || k == .cell)) = false)
    (hi : PI X tg it (rdI X T Γ W m itk its)) (okb : BlkOk X.N X.env.scope scope own) (hio : ∀ i ∈ is, i ∈ own.map (·.2))
    (hg : ∀ (s : Shared) (H : Hp) (C : Addr) (cl : List (Str × Addr)) (fp : List Addr), PG (X.blk s H scope (compEnvC scope cl C X.env) fp) tg (gD X.K X.mg T one is))
    (ht : ∀ (s : Shared) (H : Hp) (C : Addr) (cl : List (Str × Addr)) (fp : List Addr), PTs (X.blk s H scope (compEnvC scope cl C X.env) fp) ifs (rdG X.K X.mg T relB (fun _ _ _ _ => False) (ifsT (evB Γ m true) xifs)))
    (he : ∀ (s : Shared) (H : Hp) (C : Addr) (cl : List (Str × Addr)) (fp : List Addr), PE (X.blk s H scope (compEnvC scope cl C X.env) fp) elt (rdG X.K X.mg T (relV X.K X.mg T) (fun _ _ _ _ => False) (evB Γ m false x)))
    (hns : nset it = true) : PS X (.Assign [.Name nm py] (.ListComp elt [⟨tg, it, ifs, 0⟩] scope lp) pos) (rdX X T Γ W (m + 2) (.asg j (.lc x is one itk its xifs (own.map (·.2))))) :=
  PS.imp (ps_setLc hc hN hy hyl (sw_true hk hyl hl hsw) hi okb hg ht he (nset_ok hns)) fun D σ H h => by
    obtain ⟨ρ, fr, S, hs, ht, hf⟩ := h
    refine lc_read (W := W) hio (fun _ _ _ h => h) (fun _ _ _ h => h) σ H _ (rd_of hs ht (finS.toS hs hf fun v1 ρ1 H1 d1 S1 x1 s1 r1 h1 => ?_))
    exact h1.here s1 ((hs.mono x1).set r1)
/-! ### raise -/
/-- what the making of an exception comes to -/
def tMk (T : Tb) (c : Nat) (C : Addr) (t : TA) : L2.St → Hp → XK → Prop := fun σ H Q => t σ H fun vs H1 => ∀ dx, H1 dx = none → Q (.ref C) (some dx) (upd H1 dx (.xd ((T.flds c).zip vs)))
theorem zip_at {α : Type} [BEq α] [LawfulBEq α] : ∀ {fs : List α} {vs : List V} {j : Nat} {f : α} {v : V}, fs.Nodup → fs[j]? = some f → vs[j]? = some v → (fs.zip vs).lookup f = some v
  | [], _, _, _, _, _, h, _ => by simp at h
  | _ :: _, [], _, _, _, _, _, h => by simp at h
  | g :: fs, u :: vs, 0, f, v, nd, h1, h2 => by
    simp at h1 h2
    subst h1 h2
    simp [List.zip_cons_cons, List.lookup_cons]
  | g :: fs, u :: vs, j + 1, f, v, nd, h1, h2 => by
    have h1 : fs[j]? = some f := by simpa using h1
    have h2 : vs[j]? = some v := by simpa using h2
    rw [List.zip_cons_cons, List.lookup_cons]
    have hne : (f == g) = false := by
      rw [beq_eq_false_iff_ne]
      intro e
      subst e
      exact (List.nodup_cons.mp nd).1 (List.mem_of_getElem? h1)
    rw [hne]
    exact zip_at (List.nodup_cons.mp nd).2 h1 h2
theorem ss_raise {C : Addr} (hc : X.calm = true) (tk : Takes X W) (hk : T.cls[k]? = some nm) (hC : X.mg nm = some (.ref C)) (nd : (T.flds k).Nodup) (he : PMk X e (tMk T k C (rdL X T Γ W m xs))) : PS X (.Raise (some e) none pos) (rdX X T Γ W (m + 1) (.rais k xs)) :=
  PS.imp (ps_raise hc tk he) fun D σ H h => by
    obtain ⟨ρ, fr, S, hs, ht, hf⟩ := h
    refine rd_of hs ht (finS.toS hs hf fun vs ρ1 H1 ds S1 x1 s1 r1 h1 => fun dx hdx => ?_)
    have xn : Ext X.K ρ1 S1.length H1 ρ1 S1.length (upd H1 dx (.xd ((T.flds k).zip vs))) := Ext.tupN hdx
    refine h1 ρ1 _ σ (.ref C) (some dx) xn (s1.other hdx) ((hs.mono x1).mono xn) ⟨nm, C, dx, _, hk, hC, rfl, rfl, upd_same, fun j f d hf hd => ?_⟩
    obtain ⟨v, hv, r⟩ := r1.get hd
    exact ⟨v, zip_at nd hf hv, r.mono xn⟩
end
/-! ### several clauses, each with a name -/
def wAsL (K : PySem.W.Frag) (Wout : WX) (D : Ends) : List (Value × Nat × (Addr → Value → Option Addr → TS)) → WX
  | [] => Wout
  | (c, i, ts) :: r => fun cls d σ H => ∃ b, PySem.W.exmOne K cls c = some b ∧
    (b = true → ∀ a, H a = none → ts a cls d { nx := fun σ' H' => D.nx (σ'.set i none) H', rt := D.rt, bk := fun σ' H' => D.bk (σ'.set i none) H', ct := fun σ' H' => D.ct (σ'.set i none) H' } (σ.set i (some (.ref a))) H) ∧
    (b = false → wAsL K Wout D r cls d σ H)
inductive HdsAs (X : Cx) : List ExceptHandler → List (Value × Nat × (Addr → Value → Option Addr → TS)) → Prop
  | nil : HdsAs X [] []
  | cons {x n : Str} {c : Value} {i : Nat} {ts : Addr → Value → Option Addr → TS} {b₀ : Stmt} {suite : List Stmt} {np pos' : Pos} {hds : List ExceptHandler} {l : List (Value × Nat × (Addr → Value → Option Addr → TS))} (hi : X.N[i]? = some n) (hln : X.env.kindOf n = some .local) (hc : Names X x c)
      (hsu : ∀ (a : Addr) (oe : Obj) (cls : Value) (d : Option Addr) (pn : List (Addr × Obj)), Zc cls d oe → (∃ vs, oe.data = .fields vs) → PSs (X.suite a ((a, oe) :: pn)) (b₀ :: suite) (ts a cls d)) (r : HdsAs X hds l) :
      HdsAs X (.ExceptHandler (some (.Name x np)) (some n) (b₀ :: suite) pos' :: hds) ((c, i, ts) :: l)
section
variable {X : Cx} {body : List Stmt} {h₀ : ExceptHandler} {hds : List ExceptHandler} {l : List (Value × Nat × (Addr → Value → Option Addr → TS))} {pos : Pos} {tb : WX → TS} {Wout : WX}
theorem ps_try_asL (hs : X.stack = X.env :: X.outer) (hf : X.env.frame = some X.env.locals) (hN : X.N.Nodup) (tk : Takes X Wout)
    (hb : ∀ (W : WX) (pn : List (Addr × Obj)) (xe : Value → Shared → Prop), Takes (X.tr pn xe) W → PassesOwn (model X.prog X.w) X.A X.env xe → PSs (X.tr pn xe) body (tb W))
    (hh : HdsAs X (h₀ :: hds) l) : PS X (.Try body (h₀ :: hds) [] [] pos) (fun D σ H => tb (wAsL X.K Wout D l) D σ H) := by
  refine ⟨fun pins s σ H D I h => ?_⟩
  have ok := I.ok
  have hfr : X.A.frames = some (X.env :: X.outer) := by rw [ok.frames, hs]
  refine wpAny_Try_except ?_
  refine wpAny_mono ((hb (wAsL X.K Wout D l) (X.pn ++ pins) (fun e s₁ => wpAny (model X.prog X.w) X.A (noteFrame e X.env) (fun _ s₂ => wpAny (model X.prog X.w) X.A (setFlight e none) (fun _ s₃ =>
    wpAny (model X.prog X.w) X.A (handleBy e X.env (h₀ :: hds)) (SP X pins D) X.xe s₃) X.xe s₂) X.xe s₁) (fun u s' xx => ?_) PassesOwn.looking).run [] s σ H D (I.toTry _) h) (fun f s1 hsp => ?_) (fun e s1 he => he)
  · obtain ⟨a, B, sI, pins', σ', H', cls, d, rfl, J', nb, up, sky, na, os, ag, w⟩ := xx
    have J : Inv X pins σ' H' sI := J'.ofTry ok
    have sky' : Sky B (X.env :: X.outer) a (Zc cls d) X.env.locals s'.heap := by rw [← hs]; exact sky
    show wpAny (model X.prog X.w) X.A (noteFrame (.ref a) X.env) _ _ _
    refine Sky.land Zc.steady hfr hf sky' fun h3 fl3 up3 => ?_
    have J3 : Inv X pins σ' H' { s' with heap := h3 } := J.landed nb fl3.1 (up.trans up3) os ag
    obtain ⟨oe3, vs3, he3, hz3, hd3⟩ := fl3.there
    have nfr : a ∉ frs (X.env :: X.outer) := fun hm => by
      obtain ⟨_, o', e', hnf⟩ := fl3.2.2.1.mem hm
      rw [he3] at e'
      cases e'
      exact hnf _ hd3
    have nL : a ≠ X.env.locals := fun z => nfr (List.mem_filterMap.mpr ⟨X.env, List.mem_cons_self, by rw [hf, z]⟩)
    have nF : a ∉ X.fs := fun hm => by
      obtain ⟨e, he, q⟩ := List.mem_filterMap.mp hm
      exact nfr (List.mem_filterMap.mpr ⟨e, List.mem_cons_of_mem _ he, q⟩)
    have S3 := J3.suite he3 hd3 na nL nF
    clear hb h
    generalize h₀ :: hds = hall at hh
    induction hh with
    | nil =>
      refine wpAny_handleBy_nil ?_
      obtain ⟨k1, k2, k3, oe, vs, T, oT, ts', he, hz, hd, h1, hr⟩ := id fl3
      unfold PySem.passOn
      refine wpAny_bind (wpAny_field he hd h1 ?_)
      rw [if_neg (show ¬ ((Value.ref T == Value.none) = true) from by simp)]
      have fin : wpAny (model X.prog X.w) X.A (setFlight (.ref a) X.env.frame) (fun _ s4 => wpAny (model X.prog X.w) X.A (throw (.ref a) : Sem Flow) (SP X pins D) X.xe s4) X.xe { s' with heap := h3 } := by
        rw [hf]
        refine HandSPX.setFlight_upZ fl3 fun h4 hh4 up4 => wpAny_throw (tk _ _ ?_)
        exact ⟨a, B, sI, pins, σ', H', cls, d, rfl, J, nb, (up.trans up3).trans up4, .inr (.inr (by rw [hs]; exact hh4)), na, os, ag, w⟩
      first
        | exact wpAny_bind (wpAny_pure (wpAny_bind fin))
        | exact wpAny_bind fin
    | @cons x n c i ts b₀ suite np pos' hds2 l2 hi hln hc hsu r ih =>
      have hloc : Loc X.env.scope n := .inl hln
      obtain ⟨b, hb1, hyes, hno⟩ := w
      refine wpAny_handleBy_cons (codeAny_handlers_test ?_) (by intro q; cases q)
      have LT : PySem.W.Looks (model X.prog X.w) h3 (typeOf (.ref a)) cls := fun A Q E s k q => wpAny_typeOf_ref (k _ _ he3) (by rw [hz3.1]; exact q)
      have LM := PySem.W.exm_one (M := model X.prog X.w) (J3.kIn) LT hb1
      have test : ∀ {Q : Value → Shared → Prop} {E : Value → Shared → Prop}, Q c { s' with heap := h3 } → wpAny (model X.prog X.w) (X.A.mark (some (.ref a))) (eval (.Name x np) X.env) Q E { s' with heap := h3 } := fun {Q E} q => by
        obtain ⟨hg, hdbg, hm | ⟨hm, hv, hnn⟩⟩ := hc
        · exact ld_glob (X := X.suite a ((a, oe3) :: (X.pn ++ pins))) S3 hg hm q hdbg
        · exact ld_blt (X := X.suite a ((a, oe3) :: (X.pn ++ pins))) S3 hg hm hv q hnn hdbg
      refine test (LM.here ?_)
      cases b with
      | true =>
        refine codeAny_handlers_suite_as ?_
        refine HandSPX.lands_againZ fl3 fun h4 fl4 up4 => ?_
        have J4 : Inv X pins σ' H' { s' with heap := h4 } := J.landed nb fl4.1 ((up.trans up3).trans up4) os ag
        obtain ⟨oe4, vs4, he4, hz4, hd4⟩ := fl4.there
        have S4 := J4.suite he4 hd4 na nL nF
        refine store_ok (X := X.suite a ((a, oe4) :: (X.pn ++ pins))) (v := .ref a) S4 hN hi hloc rfl (fun s5 S5 => ?_) (.inr hln)
        refine wpAny_mono ((hsu a oe4 cls d (X.pn ++ pins) hz4 ⟨_, hd4⟩).run [] s5 _ H' _ S5 (hyes rfl a na)) (fun f s6 hsp => ?_) (fun _ _ z => False.elim z)
        have gone : ∀ {σ6 : L2.St} {H6 : Hp} {Q : Shared → Prop}, Inv (X.suite a ((a, oe4) :: (X.pn ++ pins))) [] σ6 H6 s6 → (∀ s7, Inv X pins (σ6.set i none) H6 s7 → Q s7) →
            wpAny (model X.prog X.w) X.A (do bindName X.env n .none; unbindBehindTheSuite X.env n pos') (fun _ s7 => Q s7) X.xe s6 := fun {σ6 H6 Q} S6 hq => gone_ok (S6.unsuite ok) hN hi hln hq
        cases f with
        | next =>
          obtain ⟨σ6, H6, S6, q6⟩ := hsp
          exact gone S6 fun s7 J7 => ⟨_, _, J7, q6⟩
        | brk =>
          obtain ⟨σ6, H6, S6, q6⟩ := hsp
          exact gone S6 fun s7 J7 => ⟨_, _, J7, q6⟩
        | cont =>
          obtain ⟨σ6, H6, S6, q6⟩ := hsp
          exact gone S6 fun s7 J7 => ⟨_, _, J7, q6⟩
        | ret u =>
          obtain ⟨v6, σ6, H6, S6, r6, q6⟩ := hsp
          exact gone S6 fun s7 J7 => ⟨_, _, _, J7, r6, q6⟩
      | false =>
        show wpAny _ X.A (handleBy (.ref a) X.env hds2) _ _ _
        exact ih (hno rfl)
  · cases f with
    | next =>
      obtain ⟨σ', H', J', q⟩ := hsp
      exact wpAny_execs_nil ⟨σ', H', J'.ofTry ok, q⟩
    | brk =>
      obtain ⟨σ', H', J', q⟩ := hsp
      exact ⟨σ', H', J'.ofTry ok, q⟩
    | cont =>
      obtain ⟨σ', H', J', q⟩ := hsp
      exact ⟨σ', H', J'.ofTry ok, q⟩
    | ret u =>
      obtain ⟨v, σ', H', J', r, q⟩ := hsp
      exact ⟨v, σ', H', J'.ofTry ok, r, q⟩
end
end Ev

/-! ## EvN -/
set_option Elab.async false
set_option linter.all false
set_option maxRecDepth 100000
set_option maxHeartbeats 4000000
/-! Handlers. -/
namespace Ev
open PySem PySem.Spec PyProof.Rows L2
section
variable {X : Cx} {a C dx : Addr} {oe : Obj} {cls : Value} {d : Option Addr} {pn : List (Addr × Obj)} {i : Nat} {n : Str}
/-- isinstance(e, K), e the exception that the suite holds (it has a dict) -/
def rIsX (K : PySem.W.Frag) (D a dx : Addr) : List V → Hp → VK → Prop := fun xs H Q => ∃ (c : V) (cv : Value) (b : Bool) (fs : List (Str × V)), xs = [.ref a, c] ∧ (∀ u, RelV c u → u = cv) ∧ PySem.W.kitOne K (.ref D) cv = some b ∧ H dx = some (.xd fs) ∧ Q (.bl b) H
theorem call_isG {fl : List Str} (hm : (a, oe) ∈ X.pn) (O : ClsOk X.K C fl) (hz : Zc (.ref C) (some dx) oe) (hf : ∃ vs, oe.data = .fields vs) : CallR X (.builtin "isinstance") (rIsX X.K C a dx) := by
  intro pins s σ H xs us Q I r h
  obtain ⟨c, cv, b, fs, rfl, hcv, e, hx, q⟩ := h
  obtain ⟨u1, u2, rfl, rx, rt⟩ := vals2 r
  cases rx
  have ec := hcv _ rt
  subst ec
  obtain ⟨hget, _⟩ := I.pin (a, oe) (List.mem_append.mpr (.inl hm))
  obtain ⟨vs, hv⟩ := hf
  have hx : ObjOk X.prog X.w H s.heap dx (.xd fs) := I.hok dx _ hx
  obtain ⟨mA, hns, hr⟩ := hx
  obtain ⟨od, ho, hl⟩ := lookIn_ns hns
  have J : PySem.W.InstAt s.heap a oe C (some od) := ⟨hget, hz.1, by unfold PySem.W.notCls; rw [hv] <;> rfl, by rw [hz.2]; exact ho⟩
  exact PySem.W.kia_one (PySem.W.kitx_exc O.cl O.xf.ga O.xf.gg O.xf.exC O.ha O.hn O.ht O.hm) I.kIn J e (fun z => nomatch z) fun tk => ⟨.bl b, H, I.kept (t' := tk) fun _ _ z => z, rfl, q⟩
theorem call_isX {fl : List Str} (O : ClsOk X.K C fl) (hz : Zc (.ref C) (some dx) oe) (hf : ∃ vs, oe.data = .fields vs) : CallR (X.suite a ((a, oe) :: pn)) (.builtin "isinstance") (rIsX X.K C a dx) :=
  call_isG (X := X.suite a ((a, oe) :: pn)) List.mem_cons_self O hz hf
/-- the parts -/
def cV : D → Option V
  | .non => some .non
  | .bl b => some (.bl b)
  | .int i => some (.int i)
  | .str x => some (.str x)
  | _ => none
inductive CstE : Expr → D → Prop
  | non (k : Nat) (p : Pos) : CstE (.Constant .none k p) .non
  | bl (b : Bool) (k : Nat) (p : Pos) : CstE (.Constant (.bool b) k p) (.bl b)
  | int (i : Int) (k : Nat) (p : Pos) : CstE (.Constant (.int i) k p) (.int i)
  | str (x : Str) (k : Nat) (p : Pos) : CstE (.Constant (.str x) k p) (.str x)
theorem CstE.pe {X : Cx} {e : Expr} {d : D} (h : CstE e d) : ∃ v, cV d = some v ∧ PE X e (tC v) ∧ ∀ {K mg T ρ N H}, Rp K mg T ρ N H v d := by
  cases h with
  | non k p => exact ⟨_, rfl, pe_non, .non⟩
  | bl b k p => exact ⟨_, rfl, pe_bl, .bl _⟩
  | int i k p => exact ⟨_, rfl, pe_int, .int _⟩
  | str x k p => exact ⟨_, rfl, pe_str, .str _⟩
theorem CstE.val {e : Expr} {d : D} (h : CstE e d) : ∃ v, cV d = some v ∧ ∀ {K mg T ρ N H}, Rp K mg T ρ N H v d := by
  cases h with
  | non k p => exact ⟨_, rfl, .non⟩
  | bl b k p => exact ⟨_, rfl, .bl _⟩
  | int i k p => exact ⟨_, rfl, .int _⟩
  | str x k p => exact ⟨_, rfl, .str _⟩
theorem CstE.nst {e : Expr} {d : D} (h : CstE e d) : nst e = true := by cases h <;> rfl
/-- what stands in the handler's tuple: n the exception's name -/
inductive PtsE (n : Str) : List Expr → List Pt → Prop
  | nil : PtsE n [] []
  | c {e : Expr} {d : D} {es : List Expr} {ps : List Pt} (h : CstE e d) (r : PtsE n es ps) : PtsE n (e :: es) (.c d :: ps)
  | f {f : Str} {np p : Pos} {es : List Expr} {ps : List Pt} (r : PtsE n es ps) : PtsE n (.Attribute (.Name n np) f p :: es) (.f f :: ps)
/-- the exception in the suite -/
def InS (a : Addr) (cls : Value) (d : Option Addr) (C dx : Addr) (i : Nat) (vs : List (Str × V)) (σ : L2.St) (H : Hp) : Prop := σ[i]? = some (some (.ref a)) ∧ cls = .ref C ∧ d = some dx ∧ H dx = some (.xd vs)
def ptW (vs : List (Str × V)) : Pt → Option V
  | .c d => cV d
  | .f f => vs.lookup f
theorem pts_ok {fl : List Str} (O : ClsOk X.K C fl) (hi : X.N[i]? = some n) (hv : Vis X.env.scope n) (hd : (n == ("__debug__" : Str)) = false) (hcd : (n == ("__classdict__" : Str)) = false) (hz : Zc cls d oe) (hf : ∃ vs, oe.data = .fields vs) :
    ∀ {es : List Expr} {ps : List Pt}, PtsE n es ps → (∀ f, Pt.f f ∈ ps → f ∈ fl) → PA (X.suite a ((a, oe) :: pn)) es (fun σ H Q => ∃ vs ws, InS a cls d C dx i vs σ H ∧ optP (ptW vs) ps = some ws ∧ Q ws H)
  | _, _, .nil, _ => PA.imp pa_nil fun σ H Q ⟨vs, ws, _, e, q⟩ => by
    cases e
    exact q
  | _, _, .c (e := e) (d := dd) (es := es) (ps := ps) h r, hall => by
    obtain ⟨v, e1, p1, _⟩ := h.pe (X := X.suite a ((a, oe) :: pn))
    refine PA.imp (pa_cons p1 (pts_ok O hi hv hd hcd hz hf r fun f hf => hall f (List.mem_cons_of_mem _ hf)) (nst_ok h.nst)) fun σ H Q ⟨vs, ws, hin, e, q⟩ => ?_
    unfold optP at e
    rw [show ptW vs (.c dd) = cV dd from rfl, e1] at e
    cases h2 : optP (ptW vs) ps with
    | none => rw [h2] at e; cases e
    | some ws2 =>
      rw [h2] at e
      cases e
      exact ⟨vs, ws2, hin, h2, q⟩
  | _, _, .f (f := f) (es := es) (ps := ps) r, hall => by
    have hno := O.no f (hall f List.mem_cons_self)
    refine PA.imp (pa_cons (pe_xf O.xf hno hz hf (pe_var hi hv hd hcd) rfl) (pts_ok O hi hv hd hcd hz hf r fun f hf => hall f (List.mem_cons_of_mem _ hf)) rfl) fun σ H Q ⟨vs, ws, hin, e, q⟩ => ?_
    obtain ⟨h1, h2, h3, h4⟩ := hin
    unfold optP at e
    rw [show ptW vs (.f f) = vs.lookup f from rfl] at e
    cases hl : vs.lookup f with
    | none => rw [hl] at e; cases e
    | some v =>
      rw [hl] at e
      cases h5 : optP (ptW vs) ps with
      | none => rw [h5] at e; cases e
      | some ws2 =>
        rw [h5] at e
        cases e
        exact ⟨.ref a, h1, rfl, h2, dx, vs, v, h3, h4, hl, vs, ws2, ⟨h1, h2, h3, h4⟩, h5, q⟩
end
section
variable {X : Cx} {T : Tb} {Γ : Ctx} {W : WX} {m n' : Nat} {N : List Str} {sc : Scope} {fb : Str → Bool} {i : Nat} {n : Str}
inductive HdE (T : Tb) (n : Str) : Expr → List Pt → Option Nat → D → Prop
  | tup {es : List Expr} {ps : List Pt} {k : Nat} {p : Pos} (els : D) (h : PtsE n es ps) : HdE T n (.Tuple es k p) ps none els
  | isi {es : List Expr} {ps : List Pt} {k kk : Nat} {p1 p2 p3 p4 p5 p6 : Pos} {c : Str} {ec : Expr} {els : D} (h : PtsE n es ps) (hk : T.cls[kk]? = some c) (hd : (c == ("__debug__" : Str)) = false) (he : CstE ec els) :
      HdE T n (.IfExp (.Call (.Name "isinstance" p1) [.Name n p2, .Name c p3] [] p4) (.Tuple es k p5) ec p6) ps (some kk) els
/-- what is wished of a handler -/
def tHd (K : PySem.W.Frag) (mg : Str → Option Value) (T : Tb) (Γ : Ctx) (i : Nat) (h : Hd) (a : Addr) (cls : Value) (d : Option Addr) : TS := fun Dn σ H => ∃ c x C dx vs ρ S fs dv, T.cls[c]? = some x ∧ mg x = some (.ref C) ∧ InS a cls d C dx i vs σ H ∧ Stt K mg T ρ H S ∧
  (∀ (j : Nat) (f : Str) (e : D), (T.flds c)[j]? = some f → fs[j]? = some e → ∃ v, vs.lookup f = some v ∧ Rp K mg T ρ S.length H v e) ∧ hdV Γ c fs h = some dv ∧
  ∀ v H', Ext K ρ S.length H ρ S.length H' → Stt K mg T ρ H' S → Rp K mg T ρ S.length H' v dv → Dn.rt v H'
theorem zip_look {fs : List D} : ∀ {fl : List Str} {fs : List D} {f : Str} {d : D}, (fl.zip fs).lookup f = some d → ∃ j : Nat, fl[j]? = some f ∧ fs[j]? = some d
  | [], _, _, _, h => by simp at h
  | _ :: _, [], _, _, h => by simp at h
  | g :: fl, e :: fs, f, d, h => by
    rw [List.zip_cons_cons, List.lookup_cons] at h
    cases hb : f == g with
    | true =>
      rw [hb] at h
      have := eq_of_beq hb
      subst this
      cases h
      exact ⟨0, rfl, rfl⟩
    | false =>
      rw [hb] at h
      obtain ⟨j, h1, h2⟩ := zip_look (fs := fs) h
      exact ⟨j + 1, by simpa using h1, by simpa using h2⟩
/-- the parts' values -/
theorem parts {K : PySem.W.Frag} {mg : Str → Option Value} {ρ : Nat → Addr} {N : Nat} {H : Hp} {vs : List (Str × V)} {fl : List Str} {fs : List D} (hv : ∀ (j : Nat) (f : Str) (e : D), fl[j]? = some f → fs[j]? = some e → ∃ v, vs.lookup f = some v ∧ Rp K mg T ρ N H v e) :
    ∀ {es : List Expr} {ps : List Pt} {ds : List D}, PtsE n es ps → optP (ptV fl fs) ps = some ds → (∀ f, Pt.f f ∈ ps → f ∈ fl) ∧ ∃ ws, optP (ptW vs) ps = some ws ∧ RpL K mg T ρ N H ws ds
  | _, _, _, .nil, e => by
    cases e
    exact ⟨fun f hf => (by cases hf), [], rfl, .nil⟩
  | _, _, ds, .c (d := dd) (ps := ps) h r, e => by
    unfold optP at e
    rw [show ptV fl fs (.c dd) = some dd from rfl] at e
    cases h2 : optP (ptV fl fs) ps with
    | none => rw [h2] at e; cases e
    | some ds2 =>
      rw [h2] at e
      cases e
      obtain ⟨h3, ws, h4, h5⟩ := parts hv r h2
      obtain ⟨v, e1, e3⟩ := h.val
      refine ⟨fun f hf => ?_, v :: ws, ?_, .cons e3 h5⟩
      · rcases List.mem_cons.mp hf with z | z
        · cases z
        · exact h3 f z
      · unfold optP
        rw [show ptW vs (.c dd) = cV dd from rfl, e1, h4]
  | _, _, ds, .f (f := f) (ps := ps) r, e => by
    unfold optP at e
    rw [show ptV fl fs (.f f) = (fl.zip fs).lookup f from rfl] at e
    cases h1 : (fl.zip fs).lookup f with
    | none => rw [h1] at e; cases e
    | some dd =>
      rw [h1] at e
      cases h2 : optP (ptV fl fs) ps with
      | none => rw [h2] at e; cases e
      | some ds2 =>
        rw [h2] at e
        cases e
        obtain ⟨h3, ws, h4, h5⟩ := parts hv r h2
        obtain ⟨j, g1, g2⟩ := zip_look (fs := fs) h1
        obtain ⟨v, g3, g4⟩ := hv j f dd g1 g2
        refine ⟨fun f' hf => ?_, v :: ws, ?_, .cons g4 h5⟩
        · rcases List.mem_cons.mp hf with z | z
          · cases z
            exact List.mem_of_getElem? g1
          · exact h3 f' z
        · unfold optP
          rw [show ptW vs (.f f) = vs.lookup f from rfl, g3, h4]
theorem optP_len {α β : Type} {f : α → Option β} : ∀ {l : List α} {r : List β}, optP f l = some r → r.length = l.length
  | [], _, h => by cases h; rfl
  | a :: l, r, h => by
    unfold optP at h
    split at h
    · rename_i x y e1 e2
      cases h
      rw [List.length_cons, List.length_cons, optP_len e2]
    · cases h
theorem hd_suite {h : Hd} {ex : Expr} {rp : Pos} (kc : Kc X.K X.mg T Γ) (hE : HdE T n ex h.tup h.isi h.els) (hsz : h.tup.length ≤ 1000) (hi : X.N[i]? = some n) (hln : X.env.kindOf n = some .local) (hd : (n == ("__debug__" : Str)) = false) (hcd : (n == ("__classdict__" : Str)) = false)
    (hgi : h.isi.isSome = true → Gl X "isinstance" ∧ X.mg "isinstance" = none) (hgk : ∀ kk c, h.isi = some kk → T.cls[kk]? = some c → Gl X c)
    {a : Addr} {oe : Obj} {cls : Value} {d : Option Addr} {pn : List (Addr × Obj)} (hz : Zc cls d oe) (hf : ∃ vs, oe.data = .fields vs) :
    PSs (X.suite a ((a, oe) :: pn)) [.Return (some ex) rp] (tHd X.K X.mg T Γ i h a cls d) := by
  refine ⟨fun pins s σ H Dn I hq => ?_⟩
  obtain ⟨c, x, C, dx, vs, ρ, S, fs, dv, hc, hm, hin, st, hv, hdv, q⟩ := hq
  obtain ⟨C', hm', O⟩ := kc.cls c x hc
  rw [hm] at hm'
  cases hm'
  have vis : Vis X.env.scope n := .inl hln
  obtain ⟨h1, h2, h3, h4⟩ := id hin
  subst h2 h3
  have fin : ∀ {es : List Expr} {ds : List D}, PtsE n es h.tup → optP (ptV (T.flds c) fs) h.tup = some ds → dv = .tup ds →
      (∃ vs ws, InS a (.ref C) (some dx) C dx i vs σ H ∧ optP (ptW vs) h.tup = some ws ∧ (ws.length ≤ sizeLine ∧ ∀ p, H p = none → Dn.rt (.ref p) (upd H p (.tup ws)))) := fun {es ds} hp ho e => by
    obtain ⟨g1, ws, g2, g3⟩ := parts hv hp ho
    refine ⟨vs, ws, hin, g2, ?_, fun p hp => q _ _ (Ext.tupN hp) (st.other hp) ?_⟩
    · rw [optP_len g2]
      exact Nat.le_of_lt (small1000 hsz)
    · rw [e]
      exact .tup (.inl (.inl upd_same)) (g3.mono (Ext.tupN hp))
  unfold hdV at hdv
  rw [kc.flds] at hdv
  generalize ei : h.isi = oi at hE hdv hgi hgk
  generalize et : h.tup = tp at *
  generalize el : h.els = ls at *
  cases hE with
  | tup els hp =>
    dsimp only at hdv
    cases ho : optP (ptV (T.flds c) fs) tp with
    | none => rw [ho] at hdv; cases hdv
    | some ds =>
      rw [ho] at hdv
      cases hdv
      obtain ⟨g1, _⟩ := parts hv hp ho
      exact (pss_one (ps_ret (pe_tup (pts_ok (dx := dx) O hi vis hd hcd hz hf hp g1)))).run pins s σ H Dn I (fin hp ho rfl)
  | @isi es ps k kk p1 p2 p3 p4 p5 p6 cn ec els hp hk hdk he =>
    obtain ⟨hgi1, hgi2⟩ := hgi rfl
    obtain ⟨D', hmD, OD⟩ := kc.cls kk cn hk
    have hgl := hgk kk cn rfl hk
    have sub := (kc.sub c kk x cn C D' hc hk hm hmD).2
    obtain ⟨v, e1, e2, e3⟩ := he.pe (X := X.suite a ((a, oe) :: pn))
    dsimp only at hdv
    by_cases hs : Γ.sub c kk = true
    · rw [if_pos hs] at hdv
      cases ho : optP (ptV (T.flds c) fs) tp with
      | none => rw [ho] at hdv; cases hdv
      | some ds =>
        rw [ho] at hdv
        cases hdv
        obtain ⟨g1, _⟩ := parts hv hp ho
        refine (pss_one (ps_ret (pe_ifExp (pt_val (pe_callB (call_isX O hz hf) hgi1 hgi2 boot_isinstance (pa_cons (pe_var hi vis hd hcd) (pa_cons (pe_glob (v := .ref D') hgl hmD rfl hdk) pa_nil))) (fun _ => rfl)) (pe_tup (pts_ok (dx := dx) O hi vis hd hcd hz hf hp g1)) e2))).run pins s σ H Dn I ?_
        refine ⟨.ref a, h1, .ref D', .ref D', true, vs, rfl, fun u r => r, by rw [sub, hs], h4, true, rfl, ?_⟩
        exact fin hp ho rfl
    · rw [if_neg hs] at hdv
      cases hdv
      have hs' : Γ.sub c kk = false := by
        cases hb : Γ.sub c kk with
        | true => exact absurd hb hs
        | false => rfl
      refine (pss_one (ps_ret (pe_ifExp (tb := tC v) (ta := fun _ _ _ => False) (pt_val (pe_callB (call_isX O hz hf) hgi1 hgi2 boot_isinstance (pa_cons (pe_var hi vis hd hcd) (pa_cons (pe_glob (v := .ref D') hgl hmD rfl hdk) pa_nil))) (fun _ => rfl)) ⟨fun _ _ _ _ _ _ h => h.elim⟩ e2))).run pins s σ H Dn I ?_
      refine ⟨.ref a, h1, .ref D', .ref D', false, vs, rfl, fun u r => r, by rw [sub, hs'], h4, false, rfl, ?_⟩
      show tC v σ H Dn.rt
      exact q v H Ext.refl st e3
/-- a def that tells which kinds an exception is of, called where the exception is in hand -/
def KinP (P : Program) (w : World) (K : PySem.W.Frag) (mg : Str → Option Value) (base : Heap) (T : Tb) (sub : Nat → Nat → Bool) (lv : Nat) : Prop := ∀ (X : Cx), X.prog = P → X.w = w → X.K = K → X.mg = mg → X.base = base → L2H.RoomH lv X.A →
  ∀ (nm : Str) (ks : List Nat), T.kin = some (nm, ks) → Gl X nm → ∀ (a : Addr) (oe : Obj) (C dx : Addr) (c : Nat) (x : Str) (e : Expr) (te : TE) (q pos : Pos), (a, oe) ∈ X.pn → T.cls[c]? = some x → mg x = some (.ref C) → Zc (.ref C) (some dx) oe → (∃ vs, oe.data = .fields vs) → PE X e te → nst e = true →
  PE X (.Call (.Name nm q) [e] [] pos) (fun σ H Q => te σ H fun v H1 => v = .ref a ∧ (∃ fs, H1 dx = some (.xd fs)) ∧ ∀ p1 o1 p2 o2 p3, H1 p1 = none → upd H1 p1 o1 p2 = none → upd (upd H1 p1 o1) p2 o2 p3 = none → Q (.ref p3) (upd (upd (upd H1 p1 o1) p2 o2) p3 (.lst (ks.map fun k => .bl (sub c k)))))
def tHdK (K : PySem.W.Frag) (mg : Str → Option Value) (T : Tb) (Γ : Ctx) (i : Nat) (ks : List Nat) (a : Addr) (cls : Value) (d : Option Addr) : TS := fun Dn σ H => ∃ c x C dx vs ρ S, T.cls[c]? = some x ∧ mg x = some (.ref C) ∧ InS a cls d C dx i vs σ H ∧ Stt K mg T ρ H S ∧
  ∀ v ρ' H', Ext K ρ S.length H ρ' (S.length + 1) H' → Stt K mg T ρ' H' (S ++ [.lst (ks.map fun k => .bl (Γ.sub c k))]) → Rp K mg T ρ' (S.length + 1) H' v (.obj S.length) → Dn.rt v H'
theorem rpL_bls {K : PySem.W.Frag} {mg : Str → Option Value} {ρ : Nat → Addr} {N : Nat} {H : Hp} (g : Nat → Bool) : ∀ ks : List Nat, RpL K mg T ρ N H (ks.map fun k => V.bl (g k)) (ks.map fun k => D.bl (g k))
  | [] => .nil
  | _ :: r => .cons (.bl _) (rpL_bls g r)
theorem boot_VE : bootBuiltins "ValueError" = some (.type "ValueError") := by first | boot_by_name | rfl | kernel_rfl
theorem hd_suiteK {nm : Str} {ks : List Nat} {lv : Nat} {p1 p2 p3 p4 p5 p6 q1 q2 q3 rp : Pos} (kc : Kc X.K X.mg T Γ) (kp : KinP X.prog X.w X.K X.mg X.base T Γ.sub lv) (hr : L2H.RoomH lv X.A) (hk : T.kin = some (nm, ks)) (hi : X.N[i]? = some n) (hln : X.env.kindOf n = some .local) (hd : (n == ("__debug__" : Str)) = false) (hcd : (n == ("__classdict__" : Str)) = false)
    (hgi : Gl X "isinstance" ∧ X.mg "isinstance" = none) (hgv : Gl X "ValueError" ∧ X.mg "ValueError" = none) (hgn : Gl X nm) {a : Addr} {oe : Obj} {cls : Value} {d : Option Addr} {pn : List (Addr × Obj)} (hz : Zc cls d oe) (hf : ∃ vs, oe.data = .fields vs) :
    PSs (X.suite a ((a, oe) :: pn)) [.Return (some (.IfExp (.Call (.Name "isinstance" p1) [.Name n p2, .Name "ValueError" p3] [] p4) (.Call (.Name nm q1) [.Name n q2] [] q3) (.List [] p5) p6)) rp] (tHdK X.K X.mg T Γ i ks a cls d) := by
  refine ⟨fun pins s σ H Dn I hq => ?_⟩
  obtain ⟨c, x, C, dx, vs, ρ, S, hc, hm, hin, st, q⟩ := hq
  obtain ⟨C', hm', O⟩ := kc.cls c x hc
  rw [hm] at hm'
  cases hm'
  have vis : Vis X.env.scope n := .inl hln
  obtain ⟨h1, h2, h3, h4⟩ := id hin
  subst h2 h3
  have val := kc.val (by rw [hk]; exact fun z => by cases z) c x C hc hm
  have hr' : L2H.RoomH lv (X.suite a ((a, oe) :: pn)).A := ⟨hr.dp, hr.un⟩
  have call := kp (X.suite a ((a, oe) :: pn)) rfl rfl rfl rfl rfl hr' nm ks hk hgn a oe C dx c x (.Name n q2) (tVar i) q1 q3 List.mem_cons_self hc hm hz hf (pe_var hi vis hd hcd) rfl
  refine (pss_one (ps_ret (pe_ifExp (pt_val (pe_callB (call_isX O hz hf) hgi.1 hgi.2 boot_isinstance (pa_cons (pe_var hi vis hd hcd) (pa_cons (pe_bltn (v := .ty "ValueError") hgv.1 hgv.2 boot_VE rfl) pa_nil))) (fun _ => rfl)) call (pe_lst pa_nil)))).run pins s σ H Dn I ?_
  refine ⟨.ref a, h1, .ty "ValueError", .type "ValueError", true, vs, rfl, fun u r => r, val, h4, true, rfl, ?_⟩
  refine ⟨.ref a, h1, rfl, ⟨vs, h4⟩, fun r1 o1 r2 o2 r3 e1 e2 e3 => ?_⟩
  have s1 := st.other (o := o1) e1
  have s2 := s1.other (o := o2) e2
  have x1 : Ext X.K ρ S.length H ρ S.length (upd H r1 o1) := Ext.tupN e1
  have x2 : Ext X.K ρ S.length (upd H r1 o1) ρ S.length (upd (upd H r1 o1) r2 o2) := Ext.tupN e2
  have s3 := s2.newL (xs := ks.map fun k => V.bl (Γ.sub c k)) (l := ks.map fun k => D.bl (Γ.sub c k)) e3 (rpL_bls (Γ.sub c) ks)
  refine q _ _ _ ((x1.trans x2).trans (Ext.newL e3)) s3 ?_
  have e : Rp X.K X.mg T (put ρ S.length r3) (S.length + 1) (upd (upd (upd H r1 o1) r2 o2) r3 (.lst (ks.map fun k => V.bl (Γ.sub c k)))) (.ref (put ρ S.length r3 S.length)) (.obj S.length) := .obj (Nat.lt_succ_self _)
  rw [put_same] at e
  exact e
inductive HdsE (X : Cx) (T : Tb) : List ExceptHandler → List Hd → Prop
  | nil : HdsE X T [] []
  | cons {x n : Str} {ex : Expr} {np rp pos' : Pos} {hds : List ExceptHandler} {h : Hd} {hs : List Hd} (hi : X.N[h.slot]? = some n) (hln : X.env.kindOf n = some .local) (hd : (n == ("__debug__" : Str)) = false) (hcd : (n == ("__classdict__" : Str)) = false)
      (hx : T.cls[h.cls]? = some x) (hgx : Gl X x) (hdx : (x == ("__debug__" : Str)) = false) (hE : HdE T n ex h.tup h.isi h.els) (hsz : h.tup.length ≤ 1000) (hgi : h.isi.isSome = true → Gl X "isinstance" ∧ X.mg "isinstance" = none) (hgk : ∀ kk c, h.isi = some kk → T.cls[kk]? = some c → Gl X c) (hkn : h.kin = none) (r : HdsE X T hds hs) :
      HdsE X T (.ExceptHandler (some (.Name x np)) (some n) [.Return (some ex) rp] pos' :: hds) (h :: hs)
  | kin {x n nm : Str} {ks : List Nat} {np rp pos' p1 p2 p3 p4 p5 p6 q1 q2 q3 : Pos} {hds : List ExceptHandler} {h : Hd} {hs : List Hd} (hi : X.N[h.slot]? = some n) (hln : X.env.kindOf n = some .local) (hd : (n == ("__debug__" : Str)) = false) (hcd : (n == ("__classdict__" : Str)) = false)
      (hx : T.cls[h.cls]? = some x) (hgx : Gl X x) (hdx : (x == ("__debug__" : Str)) = false) (hk : T.kin = some (nm, ks)) (hkn : h.kin = some ks) (hgi : Gl X "isinstance" ∧ X.mg "isinstance" = none) (hgv : Gl X "ValueError" ∧ X.mg "ValueError" = none) (hgn : Gl X nm) (r : HdsE X T hds hs) :
      HdsE X T (.ExceptHandler (some (.Name x np)) (some n) [.Return (some (.IfExp (.Call (.Name "isinstance" p1) [.Name n p2, .Name "ValueError" p3] [] p4) (.Call (.Name nm q1) [.Name n q2] [] q3) (.List [] p5) p6)) rp] pos' :: hds) (h :: hs)
/-- the clauses as ps_try_asL asks for them, and what they wish -/
theorem hds_as {lv : Nat} (kc : Kc X.K X.mg T Γ) (kp : KinP X.prog X.w X.K X.mg X.base T Γ.sub lv) (hrm : L2H.RoomH lv X.A) {hds : List ExceptHandler} {hs : List Hd} (h : HdsE X T hds hs) : ∃ l, HdsAs X hds l ∧
    ∀ (Wout : WX) (Dn : Ends) (c : Nat) (fs : List D) (fr : Frm) (S : Sto) (ρ : Nat → Addr) (N : Nat) (H0 H : Hp) (σ : L2.St) (cls : Value) (d : Option Addr), finS X.K X.mg T ρ S.length H (hdRun Γ hs c fs fr S) Dn Wout → Stt X.K X.mg T ρ H S → Sl X.K X.mg T ρ S.length H σ fr → ExcIs X.K X.mg T ρ S.length H cls d c fs →
      wAsL X.K Wout Dn l cls d σ H := by
  induction h with
  | nil => exact ⟨[], .nil, fun Wout Dn c fs fr S ρ N H0 H σ cls d hf st hs ex => hf ρ H σ cls d Ext.refl st hs ex⟩
  | @cons x n ex np rp pos' hds h hs hi hln hd hcd hx hgx hdx hE hsz hgi hgk hkn r ih =>
    obtain ⟨l, hl, go⟩ := ih
    obtain ⟨Cx, hmx, _⟩ := kc.cls _ _ hx
    refine ⟨(.ref Cx, h.slot, tHd X.K X.mg T Γ h.slot h) :: l, .cons hi hln ⟨hgx, hdx, .inl hmx⟩ (fun a oe cls d pn hz hf => hd_suite kc hE hsz hi hln hd hcd hgi hgk hz hf) hl, ?_⟩
    intro Wout Dn c fs fr S ρ N H0 H σ cls d hf st hs ex
    obtain ⟨y, C, dx, vs, hy, hmy, ec, ed, hdx2, hv⟩ := ex.is
    subst ec ed
    refine ⟨Γ.sub c h.cls, (kc.sub _ _ _ _ _ _ hy hx hmy hmx).1, fun e a ha => ?_, fun e => ?_⟩
    · unfold hdRun at hf
      rw [if_pos e] at hf
      split at hf
      · rename_i hlt
        rw [hkn] at hf
        dsimp only at hf
        split at hf
        · rename_i dv hdv
          refine ⟨c, y, C, dx, vs, ρ, S, fs, dv, hy, hmy, ⟨?_, rfl, rfl, hdx2⟩, st, hv, hdv, fun v H' x' st' r' => hf ρ H' v x' st' r'⟩
          rw [List.getElem?_set_self (by rw [← hs.len]; exact hlt)]
        · exact hf.elim
      · exact hf.elim
    · unfold hdRun at hf
      rw [if_neg (by rw [e]; exact Bool.false_ne_true)] at hf
      exact go Wout Dn c fs fr S ρ N H0 H σ _ _ hf st hs ⟨y, C, dx, vs, hy, hmy, rfl, rfl, hdx2, hv⟩
  | @kin x n nm ks np rp pos' p1 p2 p3 p4 p5 p6 q1 q2 q3 hds h hs hi hln hd hcd hx hgx hdx hk hkn hgi hgv hgn r ih =>
    obtain ⟨l, hl, go⟩ := ih
    obtain ⟨Cx, hmx, _⟩ := kc.cls _ _ hx
    refine ⟨(.ref Cx, h.slot, tHdK X.K X.mg T Γ h.slot ks) :: l, .cons hi hln ⟨hgx, hdx, .inl hmx⟩ (fun a oe cls d pn hz hf => hd_suiteK kc kp hrm hk hi hln hd hcd hgi hgv hgn hz hf) hl, ?_⟩
    intro Wout Dn c fs fr S ρ N H0 H σ cls d hf st hs ex
    obtain ⟨y, C, dx, vs, hy, hmy, ec, ed, hdx2, hv⟩ := ex.is
    subst ec ed
    refine ⟨Γ.sub c h.cls, (kc.sub _ _ _ _ _ _ hy hx hmy hmx).1, fun e a ha => ?_, fun e => ?_⟩
    · unfold hdRun at hf
      rw [if_pos e] at hf
      split at hf
      · rename_i hlt
        rw [hkn] at hf
        dsimp only at hf
        split at hf
        · refine ⟨c, y, C, dx, vs, ρ, S, hy, hmy, ⟨?_, rfl, rfl, hdx2⟩, st, fun v ρ' H' x' st' r' => ?_⟩
          · rw [List.getElem?_set_self (by rw [← hs.len]; exact hlt)]
          · refine hf ρ' H' v ?_ st' ?_
            · rw [List.length_append]; exact x'
            · rw [List.length_append]; exact r'
        · exact hf.elim
      · exact hf.elim
    · unfold hdRun at hf
      rw [if_neg (by rw [e]; exact Bool.false_ne_true)] at hf
      exact go Wout Dn c fs fr S ρ N H0 H σ _ _ hf st hs ⟨y, C, dx, vs, hy, hmy, rfl, rfl, hdx2, hv⟩
theorem ss_try {sts : List Stmt} {ss : List Sx} {h₀ : ExceptHandler} {hds : List ExceptHandler} {hs : List Hd} {pos : Pos} {lv : Nat} (kc : Kc X.K X.mg T Γ) (kp : KinP X.prog X.w X.K X.mg X.base T Γ.sub lv) (hrm : L2H.RoomH lv X.A) (hst : X.stack = X.env :: X.outer) (hfr : X.env.frame = some X.env.locals) (hN : X.N.Nodup) (tk : Takes X W)
    (hb : ∀ (W : WX) (pn : List (Addr × Obj)) (xe : Value → Shared → Prop), Takes (X.tr pn xe) W → PassesOwn (model X.prog X.w) X.A X.env xe → PSs (X.tr pn xe) sts (rdXs X T Γ W m ss)) (hh : HdsE X T (h₀ :: hds) hs) :
    PS X (.Try sts (h₀ :: hds) [] [] pos) (rdX X T Γ W (m + 1) (.tryr ss hs)) := by
  obtain ⟨l, hl, go⟩ := hds_as (Γ := Γ) kc kp hrm hh
  refine PS.imp (ps_try_asL (tb := fun W => rdXs X T Γ W m ss) hst hfr hN tk hb hl) fun Dn σ H h => ?_
  obtain ⟨ρ, fr, S, hs', ht, hf⟩ := h
  refine rs_of hs' ht ?_
  have hf : finS X.K X.mg T ρ S.length H (match seqS (evS Γ m) ss fr S with
      | .exc c fs fr1 S1 => hdRun Γ hs c fs fr1 S1
      | o => o) Dn W := hf
  cases hg : seqS (evS Γ m) ss fr S with
  | exc c fs fr1 S1 =>
    rw [hg] at hf
    exact fun ρ1 H1 σ1 cls d x1 s1 l1 ex => go W Dn c fs fr1 S1 ρ1 S1.length H1 H1 σ1 cls d (hf.mono x1) s1 l1 ex
  | nx fr1 S1 => rw [hg] at hf; exact hf
  | bk fr1 S1 => rw [hg] at hf; exact hf
  | ct fr1 S1 => rw [hg] at hf; exact hf
  | rt d S1 => rw [hg] at hf; exact hf
  | bad => rw [hg] at hf; exact hf
end
end Ev

/-! ## EvP -/
set_option Elab.async false
set_option linter.all false
set_option maxRecDepth 100000
set_option maxHeartbeats 4000000
/-! From the text to the small syntax, and why it is right (1). -/
namespace Ev
open PySem PySem.Spec PyProof.Rows L2
def ixOf : List Str → Str → Option Nat
  | [], _ => none
  | n :: r, x => if n == x then some 0 else (ixOf r x).map (· + 1)
theorem ixOf_ok : ∀ {N : List Str} {x : Str} {i : Nat}, ixOf N x = some i → N[i]? = some x
  | [], _, _, h => by cases h
  | n :: r, x, i, h => by
    unfold ixOf at h
    split at h
    · rename_i hb
      cases h
      have := eq_of_beq hb
      subst this
      rfl
    · cases hr : ixOf r x with
      | none => rw [hr] at h; cases h
      | some j =>
        rw [hr] at h
        cases h
        simpa using ixOf_ok hr
def visb (sc : Scope) (x : Str) : Bool := match sc.names.lookup x with
  | some .local => true
  | some .cell => true
  | some .free => true
  | _ => false
theorem visb_ok {sc : Scope} {x : Str} (h : visb sc x = true) : Vis sc x := by
  unfold visb at h
  split at h
  · rename_i e; exact .inl e
  · rename_i e; exact .inr (.inl e)
  · rename_i e; exact .inr (.inr e)
  · cases h
def locb (sc : Scope) (x : Str) : Bool := match sc.names.lookup x with
  | some .local => true
  | some .cell => true
  | _ => false
theorem locb_ok {sc : Scope} {x : Str} (h : locb sc x = true) : Loc sc x := by
  unfold locb at h
  split at h
  · rename_i e; exact .inl e
  · rename_i e; exact .inr e
  · cases h
def islb (sc : Scope) (x : Str) : Bool := match sc.names.lookup x with
  | some .local => true
  | _ => false
theorem islb_ok {sc : Scope} {x : Str} (h : islb sc x = true) : sc.names.lookup x = some .local := by
  unfold islb at h
  split at h
  · rename_i e; exact e
  · cases h
def glb (sc : Scope) (x : Str) : Bool := match sc.names.lookup x with
  | some .globalImplicit => true
  | _ => false
theorem glb_ok {X : Cx} {sc : Scope} {x : Str} (e : X.env.scope = sc) (h : glb sc x = true) : Gl X x := by
  unfold glb at h
  split at h
  · rename_i q
    show X.env.scope.names.lookup x = _
    rw [e]
    exact q
  · cases h
/-- names that the model treats apart -/
def odd3 (x : Str) : Bool := x == ("__debug__" : Str) || x == ("__classdict__" : Str) || x == ("__name__" : Str)
theorem odd3_ok {x : Str} (h : odd3 x = false) : (x == ("__debug__" : Str)) = false ∧ (x == ("__classdict__" : Str)) = false ∧ x ≠ "__name__" := by
  unfold odd3 at h
  rw [Bool.or_eq_false_iff, Bool.or_eq_false_iff] at h
  exact ⟨h.1.1, h.1.2, fun e => by rw [e] at h; exact absurd h.2 (by decide)⟩
inductive Bi where
  | len | abs | repr | all | any | tuple | list | int | bool
def Bi.str : Bi → String
  | .len => "len" | .abs => "abs" | .repr => "repr" | .all => "all" | .any => "any" | .tuple => "tuple" | .list => "list" | .int => "int" | .bool => "bool"
def biOf (x : Str) : Option Bi :=
  if x == ("len" : Str) then some .len else if x == ("abs" : Str) then some .abs else if x == ("repr" : Str) then some .repr else if x == ("all" : Str) then some .all else if x == ("any" : Str) then some .any
  else if x == ("tuple" : Str) then some .tuple else if x == ("list" : Str) then some .list else if x == ("int" : Str) then some .int else if x == ("bool" : Str) then some .bool else none
def tyOf (x : Str) : Option String :=
  if x == ("int" : Str) then some "int" else if x == ("bool" : Str) then some "bool" else if x == ("str" : Str) then some "str" else if x == ("tuple" : Str) then some "tuple" else if x == ("list" : Str) then some "list" else none
theorem tyOf_ok {x : Str} {t : String} (h : tyOf x = some t) : bootBuiltins x = some (.type t) ∧ t ∈ tys := by
  unfold tyOf at h
  split at h
  · rename_i e; cases h; rw [eq_of_beq e]; exact ⟨boot_int, by decide⟩
  split at h
  · rename_i e; cases h; rw [eq_of_beq e]; exact ⟨boot_bool, by decide⟩
  split at h
  · rename_i e; cases h; rw [eq_of_beq e]; exact ⟨boot_str, by decide⟩
  split at h
  · rename_i e; cases h; rw [eq_of_beq e]; exact ⟨boot_tuple, by decide⟩
  split at h
  · rename_i e; cases h; rw [eq_of_beq e]; exact ⟨boot_list, by decide⟩
  · cases h
/-! ### what is to be shown -/
abbrev Tr := Scope → (Str → Bool) → Expr → Option Ex
def SndE (T : Tb) (Γ : Ctx) (lv : Nat) (N : List Str) (sc : Scope) (fb : Str → Bool) (e : Expr) (x : Ex) : Prop := ∀ (X : Cx) (W : WX) (m : Nat), Ok X T Γ lv N sc fb → Takes X W → PE X e (rdE X T Γ W m x)
def SndT (T : Tb) (Γ : Ctx) (lv : Nat) (N : List Str) (sc : Scope) (fb : Str → Bool) (e : Expr) (x : Ex) : Prop := ∀ (X : Cx) (W : WX) (m : Nat), Ok X T Γ lv N sc fb → Takes X W → PT X e (rdT X T Γ W m x)
def SndL (T : Tb) (Γ : Ctx) (lv : Nat) (N : List Str) (sc : Scope) (fb : Str → Bool) (es : List Expr) (xs : List Ex) : Prop := ∀ (X : Cx) (W : WX) (m : Nat), Ok X T Γ lv N sc fb → Takes X W → PA X es (rdL X T Γ W m xs)
theorem Ok.units {X : Cx} {T : Tb} {Γ : Ctx} {lv : Nat} {N : List Str} {sc : Scope} {fb : Str → Bool} (ok : Ok X T Γ lv N sc fb) : X.A.units + 64 < cLine := ok.room.units
def RecE (T : Tb) (Γ : Ctx) (lv : Nat) (N : List Str) (r : Tr) : Prop := ∀ sc fb e x, r sc fb e = some x → SndE T Γ lv N sc fb e x
def RecT (T : Tb) (Γ : Ctx) (lv : Nat) (N : List Str) (r : Tr) : Prop := ∀ sc fb e x, r sc fb e = some x → SndT T Γ lv N sc fb e x
/-! ### the layers -/
def trL (r : Expr → Option Ex) : List Expr → Option (List Ex)
  | [] => some []
  | e :: es => if nst e = true then (match r e, trL r es with
    | some x, some xs => some (x :: xs)
    | _, _ => none) else none
def trLT (r : Expr → Option Ex) : List Expr → Option (List Ex)
  | [] => some []
  | e :: es => match r e, trLT r es with
    | some x, some xs => some (x :: xs)
    | _, _ => none
def trO (r : Expr → Option Ex) : Option Expr → Option (Option Ex)
  | none => some none
  | some e => (r e).map some
def trName (T : Tb) (N : List Str) (sc : Scope) (x : Str) : Option Ex :=
  if odd3 x = true then none else if visb sc x = true then (ixOf N x).map .loc else if glb sc x = true then (match ixOf T.fns x with
    | some k => some (.gf k)
    | none => (ixOf T.csts x).map .gl) else none
def trCst : Const → Option Ex
  | .none => some (.cst .non)
  | .bool b => some (.cst (.bl b))
  | .int i => some (.cst (.int i))
  | .str x => some (.cst (.str x))
  | _ => none
section
variable {T : Tb} {Γ : Ctx} {lv : Nat} {N : List Str} {sc : Scope} {fb : Str → Bool} {r t : Tr}
theorem trL_ok (hr : RecE T Γ lv N r) : ∀ {es : List Expr} {xs : List Ex}, trL (r sc fb) es = some xs → es.all nst = true ∧ SndL T Γ lv N sc fb es xs
  | [], _, h => by
    cases h
    exact ⟨rfl, fun X W m ok tk => sl_nil⟩
  | e :: es, xs, h => by
    unfold trL at h
    split at h
    · rename_i hn
      split at h
      · rename_i x xs' e1 e2
        cases h
        obtain ⟨h1, h2⟩ := trL_ok hr e2
        exact ⟨by rw [List.all_cons, hn, h1]; rfl, fun X W m ok tk => sl_cons hn (hr _ _ _ _ e1 X W m ok tk) (h2 X W m ok tk)⟩
      · cases h
    · cases h
theorem trO_ok (hr : RecE T Γ lv N r) {o : Option Expr} {x : Option Ex} (h : trO (r sc fb) o = some x) (X : Cx) (W : WX) (m : Nat) (ok : Ok X T Γ lv N sc fb) (tk : Takes X W) : PO X o (rdO X T Γ W m x) := by
  cases o with
  | none =>
    cases h
    exact so_none
  | some e =>
    have h : (r sc fb e).map some = some x := h
    cases he : r sc fb e with
    | none => rw [he] at h; cases h
    | some y =>
      rw [he] at h
      cases h
      exact so_some (hr _ _ _ _ he X W m ok tk)
theorem trName_ok {nm : Str} {x : Ex} {p : Pos} (h : trName T N sc nm = some x) : SndE T Γ lv N sc fb (.Name nm p) x := by
  intro X W m ok tk
  unfold trName at h
  split at h
  · cases h
  · rename_i ho
    obtain ⟨o1, o2, o3⟩ := odd3_ok (Bool.eq_false_iff.mpr ho)
    split at h
    · rename_i hv
      cases hi : ixOf N nm with
      | none => rw [hi] at h; cases h
      | some i =>
        rw [hi] at h
        cases h
        refine se_loc (by rw [ok.N]; exact ixOf_ok hi) ?_ o1 o2
        rw [ok.sc]
        exact visb_ok hv
    · split at h
      · rename_i hg
        split at h
        · rename_i k hk
          cases h
          exact se_gf ok (glb_ok ok.sc hg) (ixOf_ok hk) o1
        · rename_i hk
          cases hc : ixOf T.csts nm with
          | none => rw [hc] at h; cases h
          | some k =>
            rw [hc] at h
            cases h
            exact se_gl (N := 0) ok (glb_ok ok.sc hg) (ixOf_ok hc) o1
      · cases h
theorem trCst_ok {c : Const} {x : Ex} {k : Nat} {p : Pos} (h : trCst c = some x) : SndE T Γ lv N sc fb (.Constant c k p) x := by
  intro X W m ok tk
  unfold trCst at h
  split at h
  · cases h; exact se_cst pe_non fun _ _ _ => .non
  · cases h; exact se_cst pe_bl fun _ _ _ => .bl _
  · cases h; exact se_cst pe_int fun _ _ _ => .int _
  · cases h; exact se_cst pe_str fun _ _ _ => .str _
  · cases h
end
end Ev

/-! ## EvQ -/
set_option Elab.async false
set_option linter.all false
set_option maxRecDepth 100000
set_option maxHeartbeats 4000000
/-! From the text to the small syntax, and why it is right (2): expressions. -/
namespace Ev
open PySem PySem.Spec PyProof.Rows L2
/-- a comprehension's own names with their slots -/
def ownOf (N : List Str) : List (Str × NameKind) → List (Str × Nat)
  | [] => []
  | (x, k) :: r => match k with
    | .local => (match ixOf N x with
      | some i => (x, i) :: ownOf N r
      | none => ownOf N r)
    | .cell => (match ixOf N x with
      | some i => (x, i) :: ownOf N r
      | none => ownOf N r)
    | _ => ownOf N r
def fbOf (scope : Scope) : Str → Bool := fun x => scope.names.lookup x == some .cell
def trNms (N : List Str) (sc : Scope) (fb : Str → Bool) : List Expr → Option (List Nat)
  | [] => some []
  | .Name x _ :: es => if locb sc x = true ∧ (fb x = true ∨ islb sc x = true) then (match ixOf N x, trNms N sc fb es with
    | some i, some is => some (i :: is)
    | _, _ => none) else none
  | _ => none
def trTg (N : List Str) (sc : Scope) (fb : Str → Bool) : Expr → Option (Bool × List Nat)
  | .Name x _ => if locb sc x = true ∧ (fb x = true ∨ islb sc x = true) then (ixOf N x).map fun i => (true, [i]) else none
  | .Tuple es _ _ => (trNms N sc fb es).map fun is => (false, is)
  | _ => none
def isTup : Expr → Bool
  | .Tuple _ _ _ => true
  | _ => false
def bib (T : Tb) (sc : Scope) (x nm : Str) : Bool := x == nm && (T.bis.any fun y => y == nm) && glb sc nm
/-- what a loop walks -/
def trIt (T : Tb) (sc : Scope) (r : Expr → Option Ex) (tg : Expr) (e : Expr) : Option (Nat × List Ex) := match e with
  | .Call (.Name x p) [a] [] pos => if bib T sc x "range" = true then (trL r [a]).map fun xs => (1, xs) else if bib T sc x "enumerate" = true ∧ isTup tg = true then (trL r [a]).map fun xs => (4, xs) else (r (.Call (.Name x p) [a] [] pos)).map fun y => (0, [y])
  | .Call (.Name x p) [a, b] [] pos => if bib T sc x "range" = true then (trL r [a, b]).map fun xs => (2, xs) else if bib T sc x "zip" = true ∧ isTup tg = true then (trL r [a, b]).map fun xs => (3, xs) else (r (.Call (.Name x p) [a, b] [] pos)).map fun y => (0, [y])
  | e => (r e).map fun y => (0, [y])
/-- a call by a name -/
def trCall (T : Tb) (sc : Scope) (r : Expr → Option Ex) (x : Str) (es : List Expr) : Option Ex :=
  if odd3 x = true ∨ glb sc x = false then none else if (T.bis.any fun y => y == x) = true then
    (if x == ("isinstance" : Str) then (match es with
      | [e, .Name t _] => if odd3 t = false ∧ glb sc t = true ∧ (T.bis.any fun y => y == t) = true ∧ nst e = true then (match r e, tyOf t with
        | some y, some ty => some (.isi y ty)
        | _, _ => none) else none
      | _ => none) else match biOf x, es with
      | some b, e :: es => (trL r (e :: es)).map (.bi b.str)
      | _, _ => none)
  else match ixOf T.fns x, es with
    | some k, [] => some (.call k [])
    | some k, e :: es => (trL r (e :: es)).map (.call k)
    | none, _ => none
def trComp (T : Tb) (N : List Str) (r t : Tr) (sc : Scope) (fb : Str → Bool) (elt tg it : Expr) (ifs : List Expr) (scope : Scope) : Option Ex :=
  if blkC N sc scope (ownOf N scope.names) = true ∧ nset it = true then (match trTg N (relS scope sc) (fbOf scope) tg with
    | some (one, is) => if (is.all fun i => ((ownOf N scope.names).map (·.2)).contains i) = true then (match trIt T sc (r sc fb) tg it, r (relS scope sc) (fbOf scope) elt with
      | some (itk, its), some x => (match ifs with
        | [] => some (.lc x is one itk its [] ((ownOf N scope.names).map (·.2)))
        | [c] => (t (relS scope sc) (fbOf scope) c).map fun y => .lc x is one itk its [y] ((ownOf N scope.names).map (·.2))
        | _ => none)
      | _, _ => none) else none
    | none => none) else none
def trSub (r : Expr → Option Ex) (a i : Expr) : Option Ex := match i with
  | .Slice lo none (some (.UnaryOp .USub (.Constant (.int 1) _ _) _)) _ => (match r a, trO r lo with
    | some x, some l => some (.rev x l)
    | _, _ => none)
  | .Slice lo hi none _ => (match r a, trO r lo, trO r hi with
    | some x, some l, some h => some (.sl x l h)
    | _, _, _ => none)
  | i => if nsl i = true then (match r a, r i with
    | some x, some y => some (.ix x y)
    | _, _ => none) else none
def trE1 (T : Tb) (N : List Str) (r t : Tr) : Tr := fun sc fb e => match e with
  | .Constant c _ _ => trCst c
  | .Name x _ => trName T N sc x
  | .Tuple es _ _ => (trL (r sc fb) es).map .tup
  | .List es _ => (trL (r sc fb) es).map .lst
  | .BinOp a op b _ => (match r sc fb a, r sc fb b with
    | some x, some y => some (.bin op x y)
    | _, _ => none)
  | .UnaryOp .USub a _ => (r sc fb a).map .neg
  | .UnaryOp .Not a _ => (r sc fb a).map .not
  | .Compare a [op] [b] _ => if behindInMarks op b = true then none else (match r sc fb a, r sc fb b with
    | some x, some y => some (.cmp op x y)
    | _, _ => none)
  | .Compare a [o1, o2] [b, c] _ => if lastMarks [o1, o2] [b, c] = true then none else (match r sc fb a, r sc fb b, r sc fb c with
    | some x, some y, some z => some (.chn o1 o2 x y z)
    | _, _, _ => none)
  | .BoolOp .And (e :: es) _ => (trLT (r sc fb) (e :: es)).map .andd
  | .BoolOp .Or (e :: es) _ => (trLT (r sc fb) (e :: es)).map .orr
  | .IfExp c a b _ => (match t sc fb c, r sc fb a, r sc fb b with
    | some z, some x, some y => some (.ite z x y)
    | _, _, _ => none)
  | .Subscript a i _ => trSub (r sc fb) a i
  | .Call (.Name x _) es [] _ => trCall T sc (r sc fb) x es
  | .Call (.Attribute a nm apos) [e] [] pos => if nm == ("append" : Str) ∧ (apos.endLine == pos.line) = true ∧ nst e = true then (match r sc fb a, r sc fb e, a with
    | some x, some y, .Name _ _ => some (.app x y)
    | _, _, _ => none) else none
  | .Call (.Subscript v i vp) (e :: es) [] _ => (match r sc fb (.Subscript v i vp), trL (r sc fb) (e :: es) with
    | some x, some xs => some (.cav x xs)
    | _, _ => none)
  | .ListComp elt [⟨tg, it, ifs, 0⟩] scope _ => trComp T N r t sc fb elt tg it ifs scope
  | _ => none
def trT1 (T : Tb) (N : List Str) (r t : Tr) : Tr := fun sc fb e => match e with
  | .UnaryOp .Not a _ => (t sc fb a).map .not
  | .BoolOp .And (e :: es) _ => (trLT (t sc fb) (e :: es)).map .andd
  | .BoolOp .Or (e :: es) _ => (trLT (t sc fb) (e :: es)).map .orr
  | .Compare a [op] [b] _ => if behindInMarks op b = true then none else (match r sc fb a, r sc fb b with
    | some x, some y => some (.cmp op x y)
    | _, _ => none)
  | .Compare a [o1, o2] [b, c] _ => if lastMarks [o1, o2] [b, c] = true then none else (match r sc fb a, r sc fb b, r sc fb c with
    | some x, some y, some z => some (.chn o1 o2 x y z)
    | _, _, _ => none)
  | e => if plainE e = true then (match r sc fb e with
    | some x => if plainT x = true then some x else none
    | none => none) else none
def trB (T : Tb) (N : List Str) : Nat → Bool → Tr
  | 0, _ => fun _ _ _ => none
  | n + 1, true => trT1 T N (trB T N n false) (trB T N n true)
  | n + 1, false => trE1 T N (trB T N n false) (trB T N n true)
section
variable {T : Tb} {Γ : Ctx} {lv : Nat} {N : List Str} {sc : Scope} {fb : Str → Bool} {r t : Tr}
theorem evm {X : Cx} {W : WX} {e : Expr} {x : Ex} (h : ∀ m, PE X e (rdE X T Γ W (m + 1) x)) : ∀ m, PE X e (rdE X T Γ W m x)
  | 0 => pe_bad fun _ _ => rfl
  | m + 1 => h m
theorem tvm {X : Cx} {W : WX} {e : Expr} {x : Ex} (h : ∀ m, PT X e (rdT X T Γ W (m + 1) x)) : ∀ m, PT X e (rdT X T Γ W m x)
  | 0 => pt_bad fun _ _ => rfl
  | m + 1 => h m
theorem bib_ok {X : Cx} (ok : Ok X T Γ lv N sc fb) {x nm : Str} (h : bib T sc x nm = true) : x = nm ∧ Gl X nm ∧ X.mg nm = none := by
  unfold bib at h
  rw [Bool.and_eq_true, Bool.and_eq_true] at h
  obtain ⟨y, hy, he⟩ := List.any_eq_true.mp h.1.2
  have := eq_of_beq he
  subst this
  exact ⟨eq_of_beq h.1.1, glb_ok ok.sc h.2, ok.kn.bis _ hy⟩
theorem bis_ok {X : Cx} (ok : Ok X T Γ lv N sc fb) {nm : Str} (h : (T.bis.any fun y => y == nm) = true) : X.mg nm = none := by
  obtain ⟨y, hy, he⟩ := List.any_eq_true.mp h
  have := eq_of_beq he
  subst this
  exact ok.kn.bis _ hy
theorem Ok.notSole {X : Cx} (ok : Ok X T Γ lv N sc fb) : X.calm = true := ok.calm
theorem nm_cond {X : Cx} (ok : Ok X T Γ lv N sc fb) {x : Str} (h : locb sc x = true ∧ (fb x = true ∨ islb sc x = true)) : Loc X.env.scope x ∧ (X.fn x = true ∨ X.env.scope.names.lookup x = some .local) := by
  rw [ok.sc]
  exact ⟨locb_ok h.1, h.2.elim (fun q => .inl (ok.fn x q)) fun q => .inr (islb_ok q)⟩
theorem trNms_ok {X : Cx} (ok : Ok X T Γ lv N sc fb) : ∀ {es : List Expr} {is : List Nat}, trNms N sc fb es = some is → Nms X es is
  | [], is, h => by
    cases h
    exact .nil
  | e :: es, is, h => by
    cases e with
    | Name x p =>
      unfold trNms at h
      split at h
      · rename_i hc
        split at h
        · rename_i i is' e1 e2
          cases h
          obtain ⟨c1, c2⟩ := nm_cond ok hc
          exact .cons (by rw [ok.N]; exact ixOf_ok e1) c1 c2 (trNms_ok ok e2)
        · cases h
      · cases h
    | _ =>
      unfold trNms at h
      cases h
theorem trTg_ok {X : Cx} (ok : Ok X T Γ lv N sc fb) {e : Expr} {one : Bool} {is : List Nat} (h : trTg N sc fb e = some (one, is)) : PG X e (gD X.K X.mg T one is) := by
  unfold trTg at h
  split at h
  · split at h
    · rename_i x p hc
      cases hi : ixOf N x with
      | none => rw [hi] at h; cases h
      | some i =>
        rw [hi] at h
        cases h
        obtain ⟨c1, c2⟩ := nm_cond ok hc
        exact sg_one ok.nd (by rw [ok.N]; exact ixOf_ok hi) c1 c2
    · cases h
  · rename_i es k p
    cases hn : trNms N sc fb es with
    | none => rw [hn] at h; cases h
    | some is' =>
      rw [hn] at h
      cases h
      exact sg_tup ok.calm ok.nd (trNms_ok ok hn)
  · cases h
theorem trIt_ok (hr : RecE T Γ lv N r) {tg e : Expr} {itk : Nat} {its : List Ex} (h : trIt T sc (r sc fb) tg e = some (itk, its)) (X : Cx) (W : WX) (m : Nat) (ok : Ok X T Γ lv N sc fb) (tk : Takes X W) : PI X tg e (rdI X T Γ W m itk its) := by
  have thing : ∀ {e : Expr}, (r sc fb e).map (fun y => ((0 : Nat), [y])) = some (itk, its) → PI X tg e (rdI X T Γ W m itk its) := fun {e} h => by
    cases he : r sc fb e with
    | none => rw [he] at h; cases h
    | some y =>
      rw [he] at h
      cases h
      exact si_thing (hr _ _ _ _ he X W m ok tk)
  unfold trIt at h
  split at h
  · rename_i x p a pos
    split at h
    · rename_i hb
      obtain ⟨e1, e2, e3⟩ := bib_ok ok hb
      subst e1
      cases hl : trL (r sc fb) [a] with
      | none => rw [hl] at h; cases h
      | some xs =>
        rw [hl] at h
        cases h
        obtain ⟨h1, h2⟩ := trL_ok hr hl
        rw [List.all_cons, Bool.and_eq_true] at h1
        exact si_rng1 (pp := pos) e2 e3 h1.1 (h2 X W m ok tk)
    · split at h
      · rename_i hb
        obtain ⟨e1, e2, e3⟩ := bib_ok ok hb.1
        subst e1
        cases hl : trL (r sc fb) [a] with
        | none => rw [hl] at h; cases h
        | some xs =>
          rw [hl] at h
          cases h
          obtain ⟨h1, h2⟩ := trL_ok hr hl
          rw [List.all_cons, Bool.and_eq_true] at h1
          have htup := hb.2
          cases tg <;> try exact absurd (show false = true from htup) Bool.false_ne_true
          exact si_enum e2 e3 h1.1 (h2 X W m ok tk)
      · exact thing h
  · rename_i x p a b pos
    split at h
    · rename_i hb
      obtain ⟨e1, e2, e3⟩ := bib_ok ok hb
      subst e1
      cases hl : trL (r sc fb) [a, b] with
      | none => rw [hl] at h; cases h
      | some xs =>
        rw [hl] at h
        cases h
        obtain ⟨h1, h2⟩ := trL_ok hr hl
        rw [List.all_cons, Bool.and_eq_true, List.all_cons, Bool.and_eq_true] at h1
        exact si_rng2 e2 e3 h1.1 h1.2.1 (h2 X W m ok tk)
    · split at h
      · rename_i hb
        obtain ⟨e1, e2, e3⟩ := bib_ok ok hb.1
        subst e1
        cases hl : trL (r sc fb) [a, b] with
        | none => rw [hl] at h; cases h
        | some xs =>
          rw [hl] at h
          cases h
          obtain ⟨h1, h2⟩ := trL_ok hr hl
          rw [List.all_cons, Bool.and_eq_true, List.all_cons, Bool.and_eq_true] at h1
          have htup := hb.2
          cases tg <;> try exact absurd (show false = true from htup) Bool.false_ne_true
          exact si_zip e2 e3 h1.1 h1.2.1 (h2 X W m ok tk)
      · exact thing h
  · exact thing h
theorem bi_ok {X : Cx} (ok : Ok X T Γ lv N sc fb) {x : Str} {b : Bi} (h : biOf x = some b) : (∃ id, bootBuiltins x = some (.builtin id) ∧ CallR X (.builtin id) (rDs X.K X.mg T (biD b.str))) ∨ (∃ id, bootBuiltins x = some (.type id) ∧ CallR X (.type id) (rDs X.K X.mg T (biD b.str))) := by
  unfold biOf at h
  split at h
  · rename_i e; cases h; rw [eq_of_beq e]; exact .inl ⟨_, PySem.boot_len, len_D⟩
  split at h
  · rename_i e; cases h; rw [eq_of_beq e]; exact .inl ⟨_, boot_abs, abs_D⟩
  split at h
  · rename_i e; cases h; rw [eq_of_beq e]; exact .inl ⟨_, boot_repr, call_repr_D ok.gd ok.units⟩
  split at h
  · rename_i e; cases h; rw [eq_of_beq e]; exact .inl ⟨_, boot_all, (allany_D ok.calm).1⟩
  split at h
  · rename_i e; cases h; rw [eq_of_beq e]; exact .inl ⟨_, boot_any, (allany_D ok.calm).2⟩
  split at h
  · rename_i e; cases h; rw [eq_of_beq e]; exact .inr ⟨_, boot_tuple, tuple_D⟩
  split at h
  · rename_i e; cases h; rw [eq_of_beq e]; exact .inr ⟨_, boot_list, list_D⟩
  split at h
  · rename_i e; cases h; rw [eq_of_beq e]; exact .inr ⟨_, boot_int, int_D⟩
  split at h
  · rename_i e; cases h; rw [eq_of_beq e]; exact .inr ⟨_, boot_bool, bool_D⟩
  · cases h
theorem trCall_ok (hr : RecE T Γ lv N r) {nm : Str} {es : List Expr} {x : Ex} {p pos : Pos} (h : trCall T sc (r sc fb) nm es = some x) : SndE T Γ lv N sc fb (.Call (.Name nm p) es [] pos) x := by
  intro X W m ok tk
  revert m
  unfold trCall at h
  split at h
  · cases h
  rename_i h0
  have ho : odd3 nm = false := by
    cases hq : odd3 nm with
    | false => rfl
    | true => exact absurd (.inl hq) h0
  have hg : glb sc nm = true := by
    cases hq : glb sc nm with
    | true => rfl
    | false => exact absurd (.inr hq) h0
  obtain ⟨o1, o2, o3⟩ := odd3_ok ho
  have gl : Gl X nm := glb_ok ok.sc hg
  split at h
  · rename_i hb
    have hm := bis_ok ok hb
    split at h
    · rename_i hi
      have := eq_of_beq hi
      subst this
      split at h
      · rename_i e tn tp
        split at h
        · rename_i hc
          obtain ⟨c1, c2, c3, c4⟩ := hc
          split at h
          · rename_i y ty e1 e2
            cases h
            obtain ⟨q1, q2, q3⟩ := odd3_ok c1
            obtain ⟨b1, _⟩ := tyOf_ok e2
            exact evm fun m => se_isi gl hm (glb_ok ok.sc c2) (bis_ok ok c3) b1 q3 q1 c4 (hr _ _ _ _ e1 X W m ok tk)
          · cases h
        · cases h
      · cases h
    · split at h
      · rename_i b e es e1
        cases hl : trL (r sc fb) (e :: es) with
        | none => rw [hl] at h; cases h
        | some xs =>
          rw [hl] at h
          cases h
          obtain ⟨h1, h2⟩ := trL_ok hr hl
          rcases bi_ok ok e1 with ⟨id, b1, b2⟩ | ⟨id, b1, b2⟩
          · exact evm fun m => se_bi b2 gl hm b1 o3 o1 h1 (h2 X W m ok tk)
          · exact evm fun m => se_ty b2 gl hm b1 o3 o1 h1 (h2 X W m ok tk)
      · cases h
  · split at h
    · rename_i k e1
      cases h
      exact evm fun m => se_call0 ok tk gl (ixOf_ok e1) o1
    · rename_i k e es e1
      cases hl : trL (r sc fb) (e :: es) with
      | none => rw [hl] at h; cases h
      | some xs =>
        rw [hl] at h
        cases h
        obtain ⟨h1, h2⟩ := trL_ok hr hl
        exact evm fun m => se_call ok tk gl (ixOf_ok e1) o1 h1 (h2 X W m ok tk)
    · cases h
end
end Ev

/-! ## EvR -/
set_option Elab.async false
set_option linter.all false
set_option maxRecDepth 100000
set_option maxHeartbeats 4000000
/-! From the text to the small syntax, and why it is right (3): expressions, all. -/
namespace Ev
open PySem PySem.Spec PyProof.Rows L2
section
variable {T : Tb} {Γ : Ctx} {lv : Nat} {N : List Str} {sc : Scope} {fb : Str → Bool} {r t : Tr}
theorem Ok.blk {X : Cx} (ok : Ok X T Γ lv N sc fb) {s : Shared} {H : Hp} {scope : Scope} {cl : List (Str × Addr)} {C : Addr} {fp : List Addr} : Ok (X.blk s H scope (compEnvC scope cl C X.env) fp) T Γ lv N (relS scope sc) (fbOf scope) := by
  refine ⟨ok.kn, ok.room, ok.gd, ok.calm, ok.nd, ok.N, ?_, fun x h => h⟩
  rw [← ok.sc]
  rfl
theorem contains_ok {l is : List Nat} (h : (is.all fun i => l.contains i) = true) : ∀ i ∈ is, i ∈ l := fun i hi => by
  have := List.all_eq_true.mp h i hi
  exact List.contains_iff_mem.mp this
theorem trComp_ok (hr : RecE T Γ lv N r) (ht : RecT T Γ lv N t) {elt tg it : Expr} {ifs : List Expr} {scope : Scope} {pos : Pos} {x : Ex} (h : trComp T N r t sc fb elt tg it ifs scope = some x) : SndE T Γ lv N sc fb (.ListComp elt [⟨tg, it, ifs, 0⟩] scope pos) x := by
  intro X W m ok tk
  revert m
  unfold trComp at h
  split at h
  · rename_i h0
    obtain ⟨hb, hns⟩ := h0
    split at h
    · rename_i one is htg
      split at h
      · rename_i hio
        have hio := contains_ok hio
        split at h
        · rename_i itk its y e1 e2
          have okb : BlkOk X.N X.env.scope scope (ownOf N scope.names) := by
            rw [ok.N, ok.sc]
            exact blkOk_by hb
          have hi : ∀ m, PI X tg it (rdI X T Γ W m itk its) := fun m => trIt_ok hr e1 X W m ok tk
          have he : ∀ (m : Nat) (s : Shared) (H : Hp) (C : Addr) (cl : List (Str × Addr)) (fp : List Addr), PE (X.blk s H scope (compEnvC scope cl C X.env) fp) elt (rdG X.K X.mg T (relV X.K X.mg T) (fun _ _ _ _ => False) (evB Γ m false y)) := fun m s H C cl fp => hr _ _ _ _ e2 _ _ m ok.blk takes0
          have hg : ∀ (s : Shared) (H : Hp) (C : Addr) (cl : List (Str × Addr)) (fp : List Addr), PG (X.blk s H scope (compEnvC scope cl C X.env) fp) tg (gD X.K X.mg T one is) := fun s H C cl fp => trTg_ok (X := X.blk s H scope (compEnvC scope cl C X.env) fp) ok.blk htg
          split at h
          · cases h
            exact evm fun m => se_lc ok.calm ok.nd (hi m) okb hio hg (fun s H C cl fp => sts_nil) (he m) hns
          · rename_i c
            cases hc : t (relS scope sc) (fbOf scope) c with
            | none => rw [hc] at h; cases h
            | some z =>
              rw [hc] at h
              cases h
              exact evm fun m => se_lc ok.calm ok.nd (hi m) okb hio hg (fun s H C cl fp => sts_one (ht _ _ _ _ hc (X.blk s H scope (compEnvC scope cl C X.env) fp) _ m ok.blk takes0)) (he m) hns
          · cases h
        · cases h
      · cases h
    · cases h
  · cases h
theorem trSub_ok (hr : RecE T Γ lv N r) {a i : Expr} {x : Ex} {pos : Pos} (h : trSub (r sc fb) a i = some x) : SndE T Γ lv N sc fb (.Subscript a i pos) x := by
  intro X W m ok tk
  revert m
  unfold trSub at h
  split at h
  · split at h
    · rename_i y l e1 e2
      cases h
      exact evm fun m => se_rev (hr _ _ _ _ e1 X W m ok tk) (trO_ok hr e2 X W m ok tk)
    · cases h
  · split at h
    · rename_i y l hh e1 e2 e3
      cases h
      exact evm fun m => se_sl (hr _ _ _ _ e1 X W m ok tk) (trO_ok hr e2 X W m ok tk) (trO_ok hr e3 X W m ok tk)
    · cases h
  · split at h
    · rename_i hn
      split at h
      · rename_i y z e1 e2
        cases h
        exact evm fun m => se_ix (nsl_ix hn) (hr _ _ _ _ e1 X W m ok tk) (hr _ _ _ _ e2 X W m ok tk)
      · cases h
    · cases h
theorem bool_E {X : Cx} {W : WX} {pos : Pos} (hr : RecE T Γ lv N r) (ok : Ok X T Γ lv N sc fb) (tk : Takes X W) (m : Nat) : ∀ {es : List Expr} {e : Expr} {xs : List Ex}, trLT (r sc fb) (e :: es) = some xs →
    PE X (.BoolOp .And (e :: es) pos) (rdG X.K X.mg T (relV X.K X.mg T) W (andT (evB Γ m false) xs)) ∧ PE X (.BoolOp .Or (e :: es) pos) (rdG X.K X.mg T (relV X.K X.mg T) W (orT (evB Γ m false) xs))
  | [], e, xs, h => by
    unfold trLT at h
    split at h
    · rename_i x xs' e1 e2
      cases e2
      cases h
      exact ⟨sv_one (fun _ => rfl) (hr _ _ _ _ e1 X W m ok tk), sv_one (fun _ => rfl) (hr _ _ _ _ e1 X W m ok tk)⟩
    · cases h
  | b :: es, e, xs, h => by
    unfold trLT at h
    split at h
    · rename_i x xs' e1 e2
      cases h
      obtain ⟨h1, h2⟩ := bool_E (pos := pos) hr ok tk m e2
      have hne : ∃ y ys, xs' = y :: ys := by
        unfold trLT at e2
        split at e2
        · cases e2; exact ⟨_, _, rfl⟩
        · cases e2
      obtain ⟨y, ys, rfl⟩ := hne
      exact ⟨sv_and (hr _ _ _ _ e1 X W m ok tk) h1, sv_or (hr _ _ _ _ e1 X W m ok tk) h2⟩
    · cases h
theorem bool_T {X : Cx} {W : WX} {pos : Pos} (ht : RecT T Γ lv N t) (ok : Ok X T Γ lv N sc fb) (tk : Takes X W) (m : Nat) : ∀ {es : List Expr} {e : Expr} {xs : List Ex}, trLT (t sc fb) (e :: es) = some xs →
    PW X (.BoolOp .And (e :: es) pos) (rdG X.K X.mg T relB W (andT (evB Γ m true) xs)) ∧ PW X (.BoolOp .Or (e :: es) pos) (rdG X.K X.mg T relB W (orT (evB Γ m true) xs))
  | [], e, xs, h => by
    unfold trLT at h
    split at h
    · rename_i x xs' e1 e2
      cases e2
      cases h
      exact ⟨sw_and1 (ht _ _ _ _ e1 X W m ok tk), sw_or1 (ht _ _ _ _ e1 X W m ok tk)⟩
    · cases h
  | b :: es, e, xs, h => by
    unfold trLT at h
    split at h
    · rename_i x xs' e1 e2
      cases h
      obtain ⟨h1, h2⟩ := bool_T (pos := pos) ht ok tk m e2
      have hne : ∃ y ys, xs' = y :: ys := by
        unfold trLT at e2
        split at e2
        · cases e2; exact ⟨_, _, rfl⟩
        · cases e2
      obtain ⟨y, ys, rfl⟩ := hne
      exact ⟨sw_and (ht _ _ _ _ e1 X W m ok tk) h1, sw_or (ht _ _ _ _ e1 X W m ok tk) h2⟩
    · cases h
theorem map_some {α β : Type} {f : α → β} {o : Option α} {y : β} (h : o.map f = some y) : ∃ x, o = some x ∧ y = f x := by
  cases o with
  | none => cases h
  | some x => cases h; exact ⟨x, rfl, rfl⟩
theorem not_mark {b : Bool} (h : ¬ b = true) : b = false := Bool.eq_false_iff.mpr h
theorem trE1_ok (hr : RecE T Γ lv N r) (ht : RecT T Γ lv N t) : RecE T Γ lv N (trE1 T N r t) := by
  intro sc fb e x h
  unfold trE1 at h
  split at h
  · exact trCst_ok h
  · exact trName_ok h
  · obtain ⟨xs, e1, rfl⟩ := map_some h
    obtain ⟨h1, h2⟩ := trL_ok hr e1
    exact fun X W m ok tk => evm (fun m => se_tup (h2 X W m ok tk)) m
  · obtain ⟨xs, e1, rfl⟩ := map_some h
    obtain ⟨h1, h2⟩ := trL_ok hr e1
    exact fun X W m ok tk => evm (fun m => se_lst (h2 X W m ok tk)) m
  · split at h
    · rename_i y z e1 e2
      cases h
      exact fun X W m ok tk => evm (fun m => se_bin (hr _ _ _ _ e1 X W m ok tk) (hr _ _ _ _ e2 X W m ok tk)) m
    · cases h
  · obtain ⟨y, e1, rfl⟩ := map_some h
    exact fun X W m ok tk => evm (fun m => se_neg (hr _ _ _ _ e1 X W m ok tk)) m
  · obtain ⟨y, e1, rfl⟩ := map_some h
    exact fun X W m ok tk => evm (fun m => se_not (hr _ _ _ _ e1 X W m ok tk)) m
  · split at h
    · cases h
    · rename_i hm
      split at h
      · rename_i y z e1 e2
        cases h
        exact fun X W m ok tk => evm (fun m => se_cmp ok.units (not_mark hm) (hr _ _ _ _ e1 X W m ok tk) (hr _ _ _ _ e2 X W m ok tk)) m
      · cases h
  · split at h
    · cases h
    · rename_i hm
      split at h
      · rename_i y z u e1 e2 e3
        cases h
        exact fun X W m ok tk => evm (fun m => se_chn ok.units (not_mark hm) (hr _ _ _ _ e1 X W m ok tk) (hr _ _ _ _ e2 X W m ok tk) (hr _ _ _ _ e3 X W m ok tk)) m
      · cases h
  · obtain ⟨xs, e1, rfl⟩ := map_some h
    exact fun X W m ok tk => evm (fun m => (bool_E hr ok tk m e1).1) m
  · obtain ⟨xs, e1, rfl⟩ := map_some h
    exact fun X W m ok tk => evm (fun m => (bool_E hr ok tk m e1).2) m
  · split at h
    · rename_i z y u e1 e2 e3
      cases h
      exact fun X W m ok tk => evm (fun m => se_ite (ht _ _ _ _ e1 X W m ok tk) (hr _ _ _ _ e2 X W m ok tk) (hr _ _ _ _ e3 X W m ok tk)) m
    · cases h
  · exact trSub_ok hr h
  · exact trCall_ok hr h
  · split at h
    · rename_i hc
      obtain ⟨c1, c2, c3⟩ := hc
      split at h
      · rename_i y z nm p e1 e2
        cases h
        have := eq_of_beq c1
        subst this
        exact fun X W m ok tk => evm (fun m => se_app rfl c2 c3 (hr _ _ _ _ e2 X W m ok tk) (hr _ _ _ _ e1 X W m ok tk)) m
      · cases h
    · cases h
  · split at h
    · rename_i y xs e1 e2
      cases h
      obtain ⟨h1, h2⟩ := trL_ok hr e2
      exact fun X W m ok tk => evm (fun m => se_cav ok tk h1 (hr _ _ _ _ e1 X W m ok tk) (h2 X W m ok tk)) m
    · cases h
  · exact trComp_ok hr ht h
  · cases h
theorem trT1_ok (hr : RecE T Γ lv N r) (ht : RecT T Γ lv N t) : RecT T Γ lv N (trT1 T N r t) := by
  intro sc fb e x h
  unfold trT1 at h
  split at h
  · obtain ⟨y, e1, rfl⟩ := map_some h
    exact fun X W m ok tk => tvm (fun m => st_not (ht _ _ _ _ e1 X W m ok tk)) m
  · obtain ⟨xs, e1, rfl⟩ := map_some h
    exact fun X W m ok tk => tvm (fun m => (bool_T ht ok tk m e1).1.pt) m
  · obtain ⟨xs, e1, rfl⟩ := map_some h
    exact fun X W m ok tk => tvm (fun m => (bool_T ht ok tk m e1).2.pt) m
  · split at h
    · cases h
    · rename_i hm
      split at h
      · rename_i y z e1 e2
        cases h
        exact fun X W m ok tk => tvm (fun m => st_cmp ok.units (not_mark hm) (hr _ _ _ _ e1 X W m ok tk) (hr _ _ _ _ e2 X W m ok tk)) m
      · cases h
  · split at h
    · cases h
    · rename_i hm
      split at h
      · rename_i y z u e1 e2 e3
        cases h
        exact fun X W m ok tk => tvm (fun m => st_chn ok.units (not_mark hm) (hr _ _ _ _ e1 X W m ok tk) (hr _ _ _ _ e2 X W m ok tk) (hr _ _ _ _ e3 X W m ok tk)) m
      · cases h
  · split at h
    · rename_i hp
      split at h
      · rename_i y e1
        split at h
        · rename_i hx
          cases h
          exact fun X W m ok tk => tvm (fun m => st_plain hp hx (hr _ _ _ _ e1 X W m ok tk)) m
        · cases h
      · cases h
    · cases h
theorem trB_ok : ∀ n, RecE T Γ lv N (trB T N n false) ∧ RecT T Γ lv N (trB T N n true)
  | 0 => by
    constructor
    · intro sc fb e x h
      cases h
    · intro sc fb e x h
      cases h
  | n + 1 => ⟨trE1_ok (trB_ok n).1 (trB_ok n).2, trT1_ok (trB_ok n).1 (trB_ok n).2⟩
end
end Ev

/-! ## EvT -/
set_option Elab.async false
set_option linter.all false
set_option maxRecDepth 100000
set_option maxHeartbeats 4000000
/-! From the text to the small syntax, and why it is right (4): statements. -/
namespace Ev
open PySem PySem.Spec PyProof.Rows L2
theorem swap2 {env : Env} {u v : Str} {px py pt pt2 : Pos} {kt k2 : Nat} {a b : Expr} (hk : env.scope.kind = .function) (hu : env.scope.names.lookup u = some .local) (hv : env.scope.names.lookup v = some .local) (hl : (py.line == px.line) = true) (hne : u ≠ v) (h1 : nst a = true) (h2 : nst b = true)
    (hf : [a, b].all (foldedForSure 8) = false) (hc : [a, b].all (constantsAlone 8) = false) : swappedStores [.Tuple [.Name u px, .Name v py] kt pt] (.Tuple [a, b] k2 pt2) env = pure (some [u, v]) := by
  have hb : env.blockKind = .function := by unfold Env.blockKind; rw [hk]; rfl
  have ku : env.kindOf u = some .local := hu
  have kv : env.kindOf v = some .local := hv
  have hne2 : ([u, v] : List Str).eraseDups = [u, v] := by
    rw [List.eraseDups_cons]
    have : List.filter (fun b => !b == u) [v] = [v] := by
      rw [List.filter_cons, if_pos (by simp [Ne.symm hne])]
      rfl
    rw [this]
    rfl
  have hl' : py.line = px.line := eq_of_beq hl
  unfold swappedStores
  simp only [hb]
  simp only [List.length_cons, List.length_nil, List.any_cons, List.any_nil, List.head?_cons, Option.map_some, Option.getD_some, Expr.pos, List.filterMap_cons, List.filterMap_nil, ku, kv, hl', hf, hc]
  simp [hne2]
  intro h
  exfalso
  rcases h with h | h
  · cases a <;> first
      | exact absurd h Bool.false_ne_true
      | exact absurd (show false = true from h1) Bool.false_ne_true
  · cases b <;> first
      | exact absurd h Bool.false_ne_true
      | exact absurd (show false = true from h2) Bool.false_ne_true
theorem swap3 {env : Env} {u v z : Str} {px py pz pt pt2 : Pos} {kt k2 : Nat} {a b c : Expr} (hk : env.scope.kind = .function) (hu : env.scope.names.lookup u = some .local) (hv : env.scope.names.lookup v = some .local) (hz : env.scope.names.lookup z = some .local) (hl : (py.line == px.line) = true) (hl2 : (pz.line == px.line) = true) (hne : u ≠ v) (hne2 : u ≠ z) (hne3 : v ≠ z) (h1 : nst a = true) (h2 : nst b = true) (h3 : nst c = true)
    (hf : [a, b, c].all (foldedForSure 8) = false) (hc : [a, b, c].all (constantsAlone 8) = false) : swappedStores [.Tuple [.Name u px, .Name v py, .Name z pz] kt pt] (.Tuple [a, b, c] k2 pt2) env = pure (some [u, v, z]) := by
  have hb : env.blockKind = .function := by unfold Env.blockKind; rw [hk]; rfl
  have ku : env.kindOf u = some .local := hu
  have kv : env.kindOf v = some .local := hv
  have kz : env.kindOf z = some .local := hz
  have hd : ([u, v, z] : List Str).eraseDups = [u, v, z] := by
    rw [List.eraseDups_cons]
    have : List.filter (fun b => !b == u) [v, z] = [v, z] := by
      rw [List.filter_cons, if_pos (by simp [Ne.symm hne]), List.filter_cons, if_pos (by simp [Ne.symm hne2])]
      rfl
    rw [this, List.eraseDups_cons]
    have : List.filter (fun b => !b == v) [z] = [z] := by
      rw [List.filter_cons, if_pos (by simp [Ne.symm hne3])]
      rfl
    rw [this]
    rfl
  have hl' : py.line = px.line := eq_of_beq hl
  have hl2' : pz.line = px.line := eq_of_beq hl2
  unfold swappedStores
  simp only [hb]
  simp only [List.length_cons, List.length_nil, List.any_cons, List.any_nil, List.head?_cons, Option.map_some, Option.getD_some, Expr.pos, List.filterMap_cons, List.filterMap_nil, ku, kv, kz, hl', hl2', hf, hc]
  simp [hd]
  intro h
  exfalso
  rcases h with h | h | h
  · cases a <;> first
      | exact absurd h Bool.false_ne_true
      | exact absurd (show false = true from h1) Bool.false_ne_true
  · cases b <;> first
      | exact absurd h Bool.false_ne_true
      | exact absurd (show false = true from h2) Bool.false_ne_true
  · cases c <;> first
      | exact absurd h Bool.false_ne_true
      | exact absurd (show false = true from h3) Bool.false_ne_true
/-- a target that is no plain local -/
def cellT (env : Env) : Expr → Bool
  | .Name x _ => !(env.kindOf x == some .local)
  | _ => false
theorem fm_lt {α β : Type} {f : α → Option β} : ∀ {l : List α}, (∃ a, a ∈ l ∧ f a = none) → (l.filterMap f).length < l.length
  | [], ⟨a, h, _⟩ => by cases h
  | b :: l, ⟨a, h, e⟩ => by
    rw [List.filterMap_cons, List.length_cons]
    have hle : (l.filterMap f).length ≤ l.length := List.length_filterMap_le f l
    cases hb : f b with
    | none => exact Nat.lt_succ_of_le hle
    | some c =>
      have hm : a ∈ l := by
        rcases List.mem_cons.mp h with z | z
        · subst z
          rw [e] at hb
          cases hb
        · exact z
      have := fm_lt (f := f) ⟨a, hm, e⟩
      show (c :: l.filterMap f).length < _
      rw [List.length_cons]
      omega
theorem swapC {env : Env} {ts es : List Expr} {k k2 : Nat} {p p2 : Pos} (h : ts.any (cellT env) = true) : swappedStores [.Tuple ts k p] (.Tuple es k2 p2) env = pure none := by
  obtain ⟨t, ht, hc⟩ := List.any_eq_true.mp h
  unfold swappedStores
  simp only []
  have key : ∀ line : Nat, (ts.filterMap fun
    | .Name id pos => if (env.kindOf id == some .local && pos.line == line) = true then some id else none
    | _ => none).length ≠ ts.length := fun line => by
    refine Nat.ne_of_lt (fm_lt ⟨t, ht, ?_⟩)
    cases t with
    | Name x q =>
      have hc : (!(env.kindOf x == some .local)) = true := hc
      have hb : (env.kindOf x == some .local) = false := by simpa using hc
      show (if (env.kindOf x == some .local && q.line == line) = true then some x else none) = none
      rw [hb]
      rfl
    | _ => exact absurd (show false = true from hc) Bool.false_ne_true
  have kb : ∀ line : Nat, (((ts.filterMap fun
    | .Name id pos => if (env.kindOf id == some .local && pos.line == line) = true then some id else none
    | _ => none).length != ts.length) = true) := fun line => by
    rw [bne_iff_ne]
    exact key line
  split
  · rfl
  · split
    · rfl
    · refine if_pos ?_
      rw [Bool.or_eq_true]
      exact .inl (kb _)
end Ev

/-! ## EvU -/
set_option Elab.async false
set_option linter.all false
set_option maxRecDepth 100000
set_option maxHeartbeats 4000000
/-! From the text to the small syntax, and why it is right (5): statements, all. -/
namespace Ev
open PySem PySem.Spec PyProof.Rows L2
def MkP (P : Program) (w : World) (K : PySem.W.Frag) (mg : Str → Option Value) (base : Heap) (T : Tb) (lv : Nat) : Prop := ∀ (X : Cx), X.prog = P → X.w = w → X.K = K → X.mg = mg → X.base = base → Room lv X.A → X.A.guards = some [] → X.calm = true →
  ∀ (k : Nat) (x : Str), T.cls[k]? = some x → Gl X x → ∀ (e : Expr) (es : List Expr) (p pos : Pos) (t : TA), (e :: es).all nst = true → (e :: es).length = (T.flds k).length → PA X (e :: es) t → ∃ C, X.mg x = some (.ref C) ∧ PMk X (.Call (.Name x p) (e :: es) [] pos) (tMk T k C t)
structure OkS (X : Cx) (W : WX) (T : Tb) (Γ : Ctx) (lv : Nat) (N : List Str) (sc : Scope) : Prop where
  ok : Ok X T Γ lv N sc (fun _ => true)
  tk : Takes X W
  po : PassesOwn (model X.prog X.w) X.A X.env X.xe
  st : X.stack = X.env :: X.outer
  fr : X.env.frame = some X.env.locals
  kc : Kc X.K X.mg T Γ
  mkp : MkP X.prog X.w X.K X.mg X.base T lv
  kp : KinP X.prog X.w X.K X.mg X.base T Γ.sub lv
abbrev fbT : Str → Bool := fun _ => true
/-- no comprehension whose list the statement may use -/
def nosw : Expr → Bool
  | .ListComp _ _ _ _ => false
  | .SetComp _ _ _ _ => false
  | .DictComp _ _ _ _ _ => false
  | _ => true
theorem nosw_ok {e : Expr} (h : nosw e = true) (o : Option Expr) (l : Nat) (env : Env) : swapsWith e o l env = pure false := by
  cases e <;> first
    | rfl
    | exact absurd (show false = true from h) Bool.false_ne_true
def ntup : Expr → Bool
  | .Tuple _ _ _ => false
  | _ => true
theorem ntup_ok {e : Expr} (h : ntup e = true) {ts : List Expr} {k : Nat} {p : Pos} {env : Env} : swappedStores [.Tuple ts k p] e env = pure none := by
  cases e <;> first
    | rfl
    | exact absurd (show false = true from h) Bool.false_ne_true
theorem tsole {e : Expr} {ts : List Expr} {k : Nat} {p : Pos} {l : Nat} {env : Env} : swapsWithSole [.Tuple ts k p] e l env = pure false := by
  cases e <;> rfl
def isFn : ScopeKind → Bool
  | .function => true
  | _ => false
theorem isFn_ok {k : ScopeKind} (h : isFn k = true) : k = .function := by cases k <;> first | rfl | exact absurd (show false = true from h) Bool.false_ne_true
/-- a handler's tuple -/
def trPts (n : Str) : List Expr → Option (List Pt)
  | [] => some []
  | .Attribute (.Name m _) f _ :: es => if m == n then (trPts n es).map (.f f :: ·) else none
  | .Constant c _ _ :: es => (match c, trPts n es with
    | .none, some ps => some (.c .non :: ps)
    | .bool b, some ps => some (.c (.bl b) :: ps)
    | .int i, some ps => some (.c (.int i) :: ps)
    | .str x, some ps => some (.c (.str x) :: ps)
    | _, _ => none)
  | _ => none
def cstD : Expr → Option D
  | .Constant c _ _ => (match c with
    | .none => some .non
    | .bool b => some (.bl b)
    | .int i => some (.int i)
    | .str x => some (.str x)
    | _ => none)
  | _ => none
def trHE (T : Tb) (sc : Scope) (n : Str) : Expr → Option (List Pt × Option Nat × D)
  | .Tuple es _ _ => (trPts n es).map fun ps => (ps, none, .non)
  | .IfExp (.Call (.Name f _) [.Name m _, .Name c _] [] _) (.Tuple es _ _) ec _ => if f == ("isinstance" : Str) ∧ m == n ∧ (T.bis.any fun y => y == ("isinstance" : Str)) = true ∧ glb sc "isinstance" = true ∧ glb sc c = true ∧ odd3 c = false then (match trPts n es, ixOf T.cls c, cstD ec with
    | some ps, some k, some d => some (ps, some k, d)
    | _, _, _ => none) else none
  | _ => none
def trKn (T : Tb) (sc : Scope) (n : Str) : Expr → Option (List Nat)
  | .IfExp (.Call (.Name f _) [.Name m _, .Name v _] [] _) (.Call (.Name g _) [.Name m2 _] [] _) (.List [] _) _ => if f == ("isinstance" : Str) ∧ m == n ∧ v == ("ValueError" : Str) ∧ m2 == n ∧ (T.bis.any fun y => y == ("isinstance" : Str)) = true ∧ (T.bis.any fun y => y == ("ValueError" : Str)) = true ∧ glb sc "isinstance" = true ∧ glb sc "ValueError" = true ∧ glb sc g = true then (match T.kin with
    | some (nm, ks) => if nm == g then some ks else none
    | none => none) else none
  | _ => none
def trH (T : Tb) (N : List Str) (sc : Scope) : ExceptHandler → Option Hd
  | .ExceptHandler (some (.Name x _)) (some n) [.Return (some ex) _] _ => if glb sc x = true ∧ odd3 x = false ∧ islb sc n = true ∧ odd3 n = false then (match ixOf T.cls x, ixOf N n with
    | some c, some i => (match trKn T sc n ex with
      | some ks => some ⟨c, i, [], none, .non, some ks⟩
      | none => (match trHE T sc n ex with
        | some (ps, oi, els) => if ps.length ≤ 1000 then some ⟨c, i, ps, oi, els, none⟩ else none
        | none => none))
    | _, _ => none) else none
  | _ => none
def trHs (T : Tb) (N : List Str) (sc : Scope) : List ExceptHandler → Option (List Hd)
  | [] => some []
  | h :: hs => match trH T N sc h, trHs T N sc hs with
    | some x, some xs => some (x :: xs)
    | _, _ => none
def trSs (r : Stmt → Option Sx) : List Stmt → Option (List Sx)
  | [] => some []
  | s :: ss => match r s, trSs r ss with
    | some x, some xs => some (x :: xs)
    | _, _ => none
def trSet (T : Tb) (N : List Str) (r t : Tr) (sc : Scope) (x : Str) (pp : Pos) (e : Expr) : Option Sx := if locb sc x = true then (match ixOf N x with
  | some i => if nosw e = true then (r sc fbT e).map (.asg i) else (match e with
    | .ListComp elt [⟨tg, it, ifs, 0⟩] scope lp => if islb sc x = true ∧ (pp.line == lp.line) = true ∧ (scope.names.any fun (n, k) => n == x && (k == .local || k == .cell)) = false ∧ isFn sc.kind = true then (trComp T N r t sc fbT elt tg it ifs scope).map (.asg i) else none
    | _ => none)
  | none => none) else none
def trPar (N : List Str) (sc : Scope) (r : Expr → Option Ex) (ts es : List Expr) : Option Sx := match ts, es with
  | [.Name u pu, .Name v pv], [a, b] => if isFn sc.kind = true ∧ islb sc u = true ∧ islb sc v = true ∧ (pv.line == pu.line) = true ∧ (u == v) = false ∧ nst a = true ∧ nst b = true ∧ [a, b].all (foldedForSure 8) = false ∧ [a, b].all (constantsAlone 8) = false then (match ixOf N u, ixOf N v, r a, r b with
    | some i, some j, some x, some y => if i ≠ j then some (.par i j x y) else none
    | _, _, _, _ => none) else none
  | [.Name u pu, .Name v pv, .Name z pz], [a, b, c] => if isFn sc.kind = true ∧ islb sc u = true ∧ islb sc v = true ∧ islb sc z = true ∧ (pv.line == pu.line) = true ∧ (pz.line == pu.line) = true ∧ (u == v) = false ∧ (u == z) = false ∧ (v == z) = false ∧ nst a = true ∧ nst b = true ∧ nst c = true ∧ [a, b, c].all (foldedForSure 8) = false ∧ [a, b, c].all (constantsAlone 8) = false then
    (match ixOf N u, ixOf N v, ixOf N z, r a, r b, r c with
    | some i, some j, some l, some x, some y, some w => if i ≠ j ∧ i ≠ l ∧ j ≠ l then some (.par3 i j l x y w) else none
    | _, _, _, _, _, _ => none) else none
  | _, _ => none
def cellS (sc : Scope) : Expr → Bool
  | .Name x _ => !islb sc x
  | _ => false
theorem cellS_ok {env : Env} {sc : Scope} (e : env.scope = sc) {ts : List Expr} (h : ts.any (cellS sc) = true) : ts.any (cellT env) = true := by
  obtain ⟨t, ht, hc⟩ := List.any_eq_true.mp h
  refine List.any_eq_true.mpr ⟨t, ht, ?_⟩
  cases t with
  | Name x q =>
    have hc : (!islb sc x) = true := hc
    show (!(env.kindOf x == some .local)) = true
    cases hb : env.kindOf x == some .local with
    | false => rfl
    | true =>
      have : env.scope.names.lookup x = some .local := eq_of_beq hb
      rw [e] at this
      unfold islb at hc
      rw [this] at hc
      exact absurd hc (by decide)
  | _ => exact absurd (show false = true from hc) Bool.false_ne_true
def trS1 (T : Tb) (N : List Str) (r t : Tr) (q : List Stmt → Option (List Sx)) (sc : Scope) : Stmt → Option Sx
  | .Assign [.Name x pp] e _ => trSet T N r t sc x pp e
  | .Assign [.Tuple ts _ _] (.Tuple es k p) _ => (match trPar N sc (r sc fbT) ts es with
    | some s => some s
    | none => if ts.any (cellS sc) = true then (match trNms N sc fbT ts, r sc fbT (.Tuple es k p) with
      | some is, some x => some (.asgT is x)
      | _, _ => none) else none)
  | .Assign [.Tuple ts _ _] e _ => if ntup e = true then (match trNms N sc fbT ts, r sc fbT e with
    | some is, some x => some (.asgT is x)
    | _, _ => none) else none
  | .Assign [.Subscript o i _] e _ => if nsl i = true then (match r sc fbT e, r sc fbT o, r sc fbT i with
    | some x, some y, some z => some (.setix x y z)
    | _, _, _ => none) else none
  | .AugAssign (.Name x _) op e _ => if locb sc x = true then (match ixOf N x, r sc fbT e with
    | some i, some y => some (.aug i op y)
    | _, _ => none) else none
  | .Expr e _ => if nosw e = true then (r sc fbT e).map .ex else none
  | .Return (some e) _ => (r sc fbT e).map .ret
  | .Return none _ => some .retN
  | .If c a b _ => (match t sc fbT c, q a, q b with
    | some x, some ss, some ss2 => some (.iff x ss ss2)
    | _, _, _ => none)
  | .While c a [] _ => (match t sc fbT c, q a with
    | some x, some ss => some (.whl x ss)
    | _, _ => none)
  | .For tg it a [] _ => if nset it = true then (match trTg N sc fbT tg, trIt T sc (r sc fbT) tg it, q a with
    | some (one, is), some (itk, its), some ss => some (.forr is one itk its ss)
    | _, _, _ => none) else none
  | .Raise (some (.Call (.Name x _) (e :: es) [] _)) none _ => if glb sc x = true ∧ odd3 x = false then (match ixOf T.cls x, trL (r sc fbT) (e :: es) with
    | some k, some xs => if (e :: es).length = (T.flds k).length then some (.rais k xs) else none
    | _, _ => none) else none
  | .Pass _ => some .pass
  | .Break _ => some .brk
  | .Continue _ => some .cont
  | .Try b (h :: hs) [] [] _ => (match q b, trHs T N sc (h :: hs) with
    | some ss, some xs => some (.tryr ss xs)
    | _, _ => none)
  | _ => none
def trS (T : Tb) (N : List Str) (m : Nat) (sc : Scope) : Nat → Stmt → Option Sx
  | 0 => fun _ => none
  | n + 1 => trS1 T N (trB T N m false) (trB T N m true) (trSs (trS T N m sc n)) sc
section
variable {T : Tb} {Γ : Ctx} {lv : Nat} {N : List Str} {sc : Scope} {r t : Tr}
def SndS (T : Tb) (Γ : Ctx) (lv : Nat) (N : List Str) (sc : Scope) (st : Stmt) (s : Sx) : Prop := ∀ (X : Cx) (W : WX) (m : Nat), OkS X W T Γ lv N sc → PS X st (rdX X T Γ W m s)
def SndSs (T : Tb) (Γ : Ctx) (lv : Nat) (N : List Str) (sc : Scope) (st : List Stmt) (s : List Sx) : Prop := ∀ (X : Cx) (W : WX) (m : Nat), OkS X W T Γ lv N sc → PSs X st (rdXs X T Γ W m s)
theorem svm {X : Cx} {W : WX} {st : Stmt} {s : Sx} (h : ∀ m, PS X st (rdX X T Γ W (m + 1) s)) : ∀ m, PS X st (rdX X T Γ W m s)
  | 0 => ps_bad fun _ _ => rfl
  | m + 1 => h m
theorem OkS.tr {X : Cx} {W W' : WX} (o : OkS X W T Γ lv N sc) {pn : List (Addr × Obj)} {xe : Value → Shared → Prop} (tk : Takes (X.tr pn xe) W') (po : PassesOwn (model X.prog X.w) X.A X.env xe) : OkS (X.tr pn xe) W' T Γ lv N sc :=
  ⟨⟨o.ok.kn, o.ok.room, o.ok.gd, o.ok.calm, o.ok.nd, o.ok.N, o.ok.sc, o.ok.fn⟩, tk, po, o.st, o.fr, o.kc, o.mkp, o.kp⟩
theorem trSs_ok {q : Stmt → Option Sx} (hq : ∀ st s, q st = some s → SndS T Γ lv N sc st s) : ∀ {sts : List Stmt} {ss : List Sx}, trSs q sts = some ss → SndSs T Γ lv N sc sts ss
  | [], _, h => by
    cases h
    exact fun X W m o => ss_nil
  | st :: sts, ss, h => by
    unfold trSs at h
    split at h
    · rename_i x xs e1 e2
      cases h
      exact fun X W m o => ss_cons (hq _ _ e1 X W m o) (trSs_ok hq e2 X W m o)
    · cases h
theorem OkS.loc {X : Cx} {W : WX} (o : OkS X W T Γ lv N sc) {x : Str} (h : locb sc x = true) : Loc X.env.scope x ∧ (X.fn x = true ∨ X.env.scope.names.lookup x = some .local) := by
  rw [o.ok.sc]
  exact ⟨locb_ok h, .inl (o.ok.fn x rfl)⟩
theorem OkS.isl {X : Cx} {W : WX} (o : OkS X W T Γ lv N sc) {x : Str} (h : islb sc x = true) : X.env.scope.names.lookup x = some .local := by
  rw [o.ok.sc]
  exact islb_ok h
theorem OkS.at_ {X : Cx} {W : WX} (o : OkS X W T Γ lv N sc) {x : Str} {i : Nat} (h : ixOf N x = some i) : X.N[i]? = some x := by
  rw [o.ok.N]
  exact ixOf_ok h
theorem OkS.isf {X : Cx} {W : WX} (o : OkS X W T Γ lv N sc) (h : isFn sc.kind = true) : X.env.scope.kind = .function := by
  rw [o.ok.sc]
  exact isFn_ok h
theorem trSet_ok (hr : RecE T Γ lv N r) (ht : RecT T Γ lv N t) {x : Str} {pp pos : Pos} {e : Expr} {s : Sx} (h : trSet T N r t sc x pp e = some s) : SndS T Γ lv N sc (.Assign [.Name x pp] e pos) s := by
  intro X W m o
  revert m
  unfold trSet at h
  split at h
  · rename_i hl
    obtain ⟨l1, l2⟩ := o.loc hl
    split at h
    · rename_i i hi
      split at h
      · rename_i hn
        obtain ⟨y, e1, rfl⟩ := map_some h
        exact svm fun m => ss_set o.ok.nd (o.at_ hi) l1 l2 (nosw_ok hn _ _ _) (hr _ _ _ _ e1 X W m o.ok o.tk)
      · split at h
        · rename_i elt tg it ifs scope lp _hx
          split at h
          · rename_i hc
            obtain ⟨c1, c2, c3, c4⟩ := hc
            obtain ⟨y, e1, rfl⟩ := map_some h
            unfold trComp at e1
            split at e1
            · rename_i h0
              obtain ⟨hb, hns⟩ := h0
              split at e1
              · rename_i one is htg
                split at e1
                · rename_i hio
                  have hio := contains_ok hio
                  split at e1
                  · rename_i itk its y' e1' e2
                    have okb : BlkOk X.N X.env.scope scope (ownOf N scope.names) := by
                      rw [o.ok.N, o.ok.sc]
                      exact blkOk_by hb
                    have hi' : ∀ m, PI X tg it (rdI X T Γ W m itk its) := fun m => trIt_ok hr e1' X W m o.ok o.tk
                    have he : ∀ (m : Nat) (s : Shared) (H : Hp) (C : Addr) (cl : List (Str × Addr)) (fp : List Addr), PE (X.blk s H scope (compEnvC scope cl C X.env) fp) elt (rdG X.K X.mg T (relV X.K X.mg T) (fun _ _ _ _ => False) (evB Γ m false y')) := fun m s H C cl fp => hr _ _ _ _ e2 _ _ m o.ok.blk takes0
                    have hg : ∀ (s : Shared) (H : Hp) (C : Addr) (cl : List (Str × Addr)) (fp : List Addr), PG (X.blk s H scope (compEnvC scope cl C X.env) fp) tg (gD X.K X.mg T one is) := fun s H C cl fp => trTg_ok (X := X.blk s H scope (compEnvC scope cl C X.env) fp) o.ok.blk htg
                    have low : ∀ (z : Ex) (h : ∀ m, PS X (.Assign [.Name x pp] (.ListComp elt [⟨tg, it, ifs, 0⟩] scope lp) pos) (rdX X T Γ W (m + 2) (.asg i z))), ∀ m, PS X (.Assign [.Name x pp] (.ListComp elt [⟨tg, it, ifs, 0⟩] scope lp) pos) (rdX X T Γ W m (.asg i z)) := fun z h m => by
                      cases m with
                      | zero => exact ps_bad fun _ _ => rfl
                      | succ m =>
                        cases m with
                        | zero => exact ps_bad fun _ _ => rfl
                        | succ m => exact h m
                    split at e1
                    · cases e1
                      exact low _ fun m => ss_setLc o.ok.calm o.ok.nd (o.at_ hi) (o.isl c1) (o.isf c4) c2 c3 (hi' m) okb hio hg (fun s H C cl fp => sts_nil) (he m) hns
                    · rename_i c
                      obtain ⟨z, hc, rfl⟩ := map_some e1
                      exact low _ fun m => ss_setLc o.ok.calm o.ok.nd (o.at_ hi) (o.isl c1) (o.isf c4) c2 c3 (hi' m) okb hio hg (fun s H C cl fp => sts_one (ht _ _ _ _ hc (X.blk s H scope (compEnvC scope cl C X.env) fp) _ m o.ok.blk takes0)) (he m) hns
                    · cases e1
                  · cases e1
                · cases e1
              · cases e1
            · cases e1
          · cases h
        · cases h
    · cases h
  · cases h
theorem ss_par3 {X : Cx} {W : WX} {m : Nat} {a b c : Expr} {x y w : Ex} {i j l : Nat} {u v z : Str} {px py pz pt pt2 pos : Pos} {kt k2 : Nat} (hc : X.calm = true) (hN : X.N.Nodup) (hi : X.N[i]? = some u) (hj : X.N[j]? = some v) (hl : X.N[l]? = some z) (hij : i ≠ j) (hil : i ≠ l) (hjl : j ≠ l) (hx : X.env.scope.names.lookup u = some .local) (hy : X.env.scope.names.lookup v = some .local) (hz : X.env.scope.names.lookup z = some .local)
    (hw : swappedStores [.Tuple [.Name u px, .Name v py, .Name z pz] kt pt] (.Tuple [a, b, c] k2 pt2) X.env = pure (some [u, v, z])) (hn : nst a = true) (hn2 : nst b = true) (hn3 : nst c = true) (ha : PE X a (rdE X T Γ W m x)) (hb : PE X b (rdE X T Γ W m y)) (hcc : PE X c (rdE X T Γ W m w)) :
    PS X (.Assign [.Tuple [.Name u px, .Name v py, .Name z pz] kt pt] (.Tuple [a, b, c] k2 pt2) pos) (rdX X T Γ W (m + 1) (.par3 i j l x y w)) := PS.imp (ps_par3 hc hN hi hj hl hij hil hjl hx hy hz (pa_cons ha (pa_cons hb (pa_cons hcc pa_nil (nst_ok hn3)) (nst_ok hn2)) (nst_ok hn)) hw rfl) fun D σ H h => by
  obtain ⟨ρ, fr, S, hs, ht, hf⟩ := h
  refine rd_of hs ht (finS.toS hs hf fun v1 ρ1 H1 d1 S1 x1 s1 r1 h1 => rd_of (hs.mono x1) s1 (finS.toS (hs.mono x1) h1 fun v2 ρ2 H2 d2 S2 x2 s2 r2 h2 => rd_of ((hs.mono x1).mono x2) s2 (finS.toS ((hs.mono x1).mono x2) h2 fun v3 ρ3 H3 d3 S3 x3 s3 r3 h3 => ⟨v1, v2, v3, rfl, ?_⟩)))
  exact h3.here s3 (((((hs.mono x1).mono x2).mono x3).set ((r1.mono x2).mono x3)).set (r2.mono x3) |>.set r3)
theorem ne_of_beq' {u v : Str} (h : (u == v) = false) : u ≠ v := beq_eq_false_iff_ne.mp h
theorem trPar_ok (hr : RecE T Γ lv N r) {ts es : List Expr} {k1 k2 : Nat} {p1 p2 pos : Pos} {s : Sx} (h : trPar N sc (r sc fbT) ts es = some s) : SndS T Γ lv N sc (.Assign [.Tuple ts k1 p1] (.Tuple es k2 p2) pos) s := by
  intro X W m o
  revert m
  unfold trPar at h
  split at h
  · split at h
    · rename_i hc
      obtain ⟨c1, c2, c3, c4, c5, c6, c7, c8, c9⟩ := hc
      split at h
      · rename_i i j x y e1 e2 e3 e4
        split at h
        · rename_i hij
          cases h
          exact svm fun m => ss_par o.ok.calm o.ok.nd (o.at_ e1) (o.at_ e2) hij (o.isl c2) (o.isl c3) (swap2 (o.isf c1) (o.isl c2) (o.isl c3) c4 (ne_of_beq' c5) c6 c7 c8 c9) c6 c7 (hr _ _ _ _ e3 X W m o.ok o.tk) (hr _ _ _ _ e4 X W m o.ok o.tk)
        · cases h
      · cases h
    · cases h
  · split at h
    · rename_i hc
      obtain ⟨c1, c2, c3, c4, c5, c6, c7, c8, c9, d1, d2, d3, d4, d5⟩ := hc
      split at h
      · rename_i i j l x y w e1 e2 e3 e4 e5 e6
        split at h
        · rename_i hij
          cases h
          exact svm fun m => ss_par3 o.ok.calm o.ok.nd (o.at_ e1) (o.at_ e2) (o.at_ e3) hij.1 hij.2.1 hij.2.2 (o.isl c2) (o.isl c3) (o.isl c4) (swap3 (o.isf c1) (o.isl c2) (o.isl c3) (o.isl c4) c5 c6 (ne_of_beq' c7) (ne_of_beq' c8) (ne_of_beq' c9) d1 d2 d3 d4 d5) d1 d2 d3 (hr _ _ _ _ e4 X W m o.ok o.tk) (hr _ _ _ _ e5 X W m o.ok o.tk) (hr _ _ _ _ e6 X W m o.ok o.tk)
        · cases h
      · cases h
    · cases h
  · cases h
theorem cstD_ok {e : Expr} {d : D} (h : cstD e = some d) : CstE e d := by
  unfold cstD at h
  split at h
  · split at h
    · cases h; exact .non _ _
    · cases h; exact .bl _ _ _
    · cases h; exact .int _ _ _
    · cases h; exact .str _ _ _
    · cases h
  · cases h
theorem trPts_ok {n : Str} : ∀ {es : List Expr} {ps : List Pt}, trPts n es = some ps → PtsE n es ps
  | [], _, h => by
    cases h
    exact .nil
  | e :: es, ps, h => by
    unfold trPts at h
    split at h
    · rename_i hnil
      cases hnil
    · rename_i m p f q es' heq
      cases heq
      split at h
      · rename_i hm
        have := eq_of_beq hm
        subst this
        obtain ⟨qs, e1, rfl⟩ := map_some h
        exact .f (trPts_ok e1)
      · cases h
    · rename_i c k p es' heq
      cases heq
      split at h
      · rename_i e1
        cases h
        exact .c (.non _ _) (trPts_ok e1)
      · rename_i e1
        cases h
        exact .c (.bl _ _ _) (trPts_ok e1)
      · rename_i e1
        cases h
        exact .c (.int _ _ _) (trPts_ok e1)
      · rename_i e1
        cases h
        exact .c (.str _ _ _) (trPts_ok e1)
      · cases h
    · cases h
theorem trHs_ok {X : Cx} {W : WX} (o : OkS X W T Γ lv N sc) : ∀ {hs : List ExceptHandler} {xs : List Hd}, trHs T N sc hs = some xs → HdsE X T hs xs
  | [], _, h => by
    cases h
    exact .nil
  | hd :: hs, xs, h => by
    unfold trHs at h
    split at h
    · rename_i x xs' e1 e2
      cases h
      unfold trH at e1
      split at e1
      · rename_i nm p n ex p2 p3
        split at e1
        · rename_i hc
          obtain ⟨c1, c2, c3, c4⟩ := hc
          obtain ⟨o1, o2, _⟩ := odd3_ok c2
          obtain ⟨q1, q2, _⟩ := odd3_ok c4
          split at e1
          · rename_i c i g1 g2
            split at e1
            · rename_i ks gk
              cases e1
              unfold trKn at gk
              split at gk
              · split at gk
                · rename_i hd'
                  obtain ⟨d1, d2, d3, d4, d5, d6, d7, d8, d9⟩ := hd'
                  split at gk
                  · rename_i nm' ks' hk
                    split at gk
                    · rename_i e9
                      cases gk
                      have := eq_of_beq d1
                      subst this
                      have := eq_of_beq d2
                      subst this
                      have := eq_of_beq d3
                      subst this
                      have := eq_of_beq d4
                      subst this
                      have := eq_of_beq e9
                      subst this
                      exact .kin (h := ⟨c, i, [], none, .non, some ks⟩) (o.at_ g2) (o.isl c3) q1 q2 (ixOf_ok g1) (glb_ok o.ok.sc c1) o1 hk rfl ⟨glb_ok o.ok.sc d7, bis_ok o.ok d5⟩ ⟨glb_ok o.ok.sc d8, bis_ok o.ok d6⟩ (glb_ok o.ok.sc d9) (trHs_ok o e2)
                    · cases gk
                  · cases gk
                · cases gk
              · cases gk
            · split at e1
              · rename_i ps oi els g3
                split at e1
                · rename_i hsz
                  cases e1
                  have key : HdE T n ex ps oi els ∧ (oi.isSome = true → Gl X "isinstance" ∧ X.mg "isinstance" = none) ∧ (∀ kk c, oi = some kk → T.cls[kk]? = some c → Gl X c) := by
                    unfold trHE at g3
                    split at g3
                    · obtain ⟨qs, e3, e4⟩ := map_some g3
                      cases e4
                      exact ⟨.tup _ (trPts_ok e3), fun z => (by cases z), fun kk c z => (by cases z)⟩
                    · split at g3
                      · rename_i hc
                        obtain ⟨d1, d2, d3, d4, d5, d6⟩ := hc
                        obtain ⟨w1, w2, _⟩ := odd3_ok d6
                        split at g3
                        · rename_i ps' k d f1 f2 f3
                          cases g3
                          have := eq_of_beq d1
                          subst this
                          have := eq_of_beq d2
                          subst this
                          refine ⟨.isi (trPts_ok f1) (ixOf_ok f2) w1 (cstD_ok f3), fun _ => ⟨glb_ok o.ok.sc d4, bis_ok o.ok d3⟩, fun kk c z hk => ?_⟩
                          cases z
                          have e5 := (ixOf_ok f2).symm.trans hk
                          cases e5
                          exact glb_ok o.ok.sc d5
                        · cases g3
                      · cases g3
                    · cases g3
                  exact .cons (h := ⟨c, i, ps, oi, els, none⟩) (o.at_ g2) (o.isl c3) q1 q2 (ixOf_ok g1) (glb_ok o.ok.sc c1) o1 key.1 hsz key.2.1 key.2.2 rfl (trHs_ok o e2)
                · cases e1
              · cases e1
          · cases e1
        · cases e1
      · cases e1
    · cases h
theorem trS1_ok (hr : RecE T Γ lv N r) (ht : RecT T Γ lv N t) {q : List Stmt → Option (List Sx)} (hq : ∀ sts ss, q sts = some ss → SndSs T Γ lv N sc sts ss) {st : Stmt} {s : Sx} (h : trS1 T N r t q sc st = some s) : SndS T Γ lv N sc st s := by
  unfold trS1 at h
  split at h
  · exact trSet_ok hr ht h
  · split at h
    · rename_i s' hp
      cases h
      exact trPar_ok hr hp
    · split at h
      · rename_i hc
        split at h
        · rename_i is x e1 e2
          cases h
          exact fun X W m o => svm (fun m => ss_asgT o.ok.calm o.ok.nd (trNms_ok o.ok e1) tsole (swapC (cellS_ok o.ok.sc hc)) (hr _ _ _ _ e2 X W m o.ok o.tk)) m
        · cases h
      · cases h
  · split at h
    · rename_i hn
      split at h
      · rename_i is x e1 e2
        cases h
        exact fun X W m o => svm (fun m => ss_asgT o.ok.calm o.ok.nd (trNms_ok o.ok e1) tsole (ntup_ok hn) (hr _ _ _ _ e2 X W m o.ok o.tk)) m
      · cases h
    · cases h
  · split at h
    · rename_i hn
      split at h
      · rename_i x y z e1 e2 e3
        cases h
        exact fun X W m o => svm (fun m => ss_setix hn (hr _ _ _ _ e2 X W m o.ok o.tk) (hr _ _ _ _ e3 X W m o.ok o.tk) (hr _ _ _ _ e1 X W m o.ok o.tk)) m
      · cases h
    · cases h
  · split at h
    · rename_i hl
      split at h
      · rename_i i y e1 e2
        cases h
        exact fun X W m o => svm (fun m => ss_aug o.ok.nd (o.at_ e1) (o.loc hl).1 (o.loc hl).2 (hr _ _ _ _ e2 X W m o.ok o.tk)) m
      · cases h
    · cases h
  · split at h
    · rename_i hn
      obtain ⟨y, e1, rfl⟩ := map_some h
      exact fun X W m o => svm (fun m => ss_expr (hr _ _ _ _ e1 X W m o.ok o.tk) (nosw_ok hn _ _ _)) m
    · cases h
  · obtain ⟨y, e1, rfl⟩ := map_some h
    exact fun X W m o => svm (fun m => ss_ret (hr _ _ _ _ e1 X W m o.ok o.tk)) m
  · cases h
    exact fun X W m o => svm (fun m => ss_retN) m
  · split at h
    · rename_i x ss ss2 e1 e2 e3
      cases h
      exact fun X W m o => svm (fun m => ss_if (ht _ _ _ _ e1 X W m o.ok o.tk) (hq _ _ e2 X W m o) (hq _ _ e3 X W m o)) m
    · cases h
  · split at h
    · rename_i x ss e1 e2
      cases h
      exact fun X W m o => svm (fun m => ss_while o.po (ht _ _ _ _ e1 X W m o.ok o.tk) (hq _ _ e2 X W m o)) m
    · cases h
  · split at h
    · rename_i hns
      split at h
      · rename_i one is itk its ss e1 e2 e3
        cases h
        exact fun X W m o => svm (fun m => ss_for o.po o.ok.calm (trIt_ok hr e2 X W m o.ok o.tk) (trTg_ok o.ok e1) hns (hq _ _ e3 X W m o)) m
      · cases h
    · cases h
  · split at h
    · rename_i hc
      split at h
      · rename_i k xs e1 e2
        split at h
        · rename_i hl
          cases h
          obtain ⟨h1, h2⟩ := trL_ok hr e2
          refine fun X W m o => svm (fun m => ?_) m
          obtain ⟨C, hC, pm⟩ := o.mkp X rfl rfl rfl rfl rfl o.ok.room o.ok.gd o.ok.calm k _ (ixOf_ok e1) (glb_ok o.ok.sc hc.1) _ _ _ _ _ h1 hl (h2 X W m o.ok o.tk)
          obtain ⟨C', hC', O⟩ := o.kc.cls k _ (ixOf_ok e1)
          exact ss_raise o.ok.calm o.tk (ixOf_ok e1) hC O.nd pm
        · cases h
      · cases h
    · cases h
  · cases h
    exact fun X W m o => svm (fun m => ss_pass) m
  · cases h
    exact fun X W m o => svm (fun m => ss_break) m
  · cases h
    exact fun X W m o => svm (fun m => ss_cont) m
  · split at h
    · rename_i ss xs e1 e2
      cases h
      exact fun X W m o => svm (fun m => ss_try o.kc o.kp (L2H.roomH_of o.ok.room) o.st o.fr o.ok.nd o.tk (fun W' pn xe tk po => hq _ _ e1 (X.tr pn xe) W' m (o.tr tk po)) (trHs_ok o e2)) m
    · cases h
  · cases h
theorem trS_ok {M : Nat} : ∀ n st s, trS T N M sc n st = some s → SndS T Γ lv N sc st s
  | 0, _, _, h => by cases h
  | n + 1, st, s, h => trS1_ok (trB_ok M).1 (trB_ok M).2 (fun sts ss h => trSs_ok (trS_ok n) h) h
end
end Ev

/-! ## EvK0 -/
set_option Elab.async false
set_option linter.all false
set_option maxRecDepth 100000
set_option maxHeartbeats 4000000
/-! A def that tells which kinds an exception is of. -/
namespace Ev
open PySem PySem.Spec PyProof.Rows L2
/-- isinstance(n, K), .. -/
def trIs (T : Tb) (sc : Scope) (n : Str) : List Expr → Option (List Nat)
  | [] => some []
  | .Call (.Name f _) [.Name m _, .Name c _] [] _ :: es => if f == ("isinstance" : Str) ∧ m == n ∧ odd3 c = false ∧ glb sc c = true then (match ixOf T.cls c, trIs T sc n es with
    | some k, some ks => some (k :: ks)
    | _, _ => none) else none
  | _ => none
/-- pl = [..]; return pl + [..] -/
def trKin (T : Tb) (sc : Scope) (n pl : Str) : List Stmt → Option (List Nat)
  | [.Assign [.Name x _] (.List es _) _, .Return (some (.BinOp (.Name y _) .Add (.List es2 _) _)) _] => if x == pl ∧ y == pl then (match trIs T sc n es, trIs T sc n es2 with
    | some a, some b => if a.length + b.length ≤ 1000 then some (a ++ b) else none
    | _, _ => none) else none
  | _ => none
section
variable {X : Cx} {T : Tb} {Γ : Ctx} {a C dx : Addr} {oe : Obj} {i c : Nat} {n x : Str}
theorem pa_is (hm : (a, oe) ∈ X.pn) (kc : Kc X.K X.mg T Γ) (hc : T.cls[c]? = some x) (hx : X.mg x = some (.ref C)) (hz : Zc (.ref C) (some dx) oe) (hf : ∃ vs, oe.data = .fields vs) (hi : X.N[i]? = some n) (hv : Vis X.env.scope n) (hd : (n == ("__debug__" : Str)) = false) (hcd : (n == ("__classdict__" : Str)) = false)
    (g1 : Gl X "isinstance") (g2 : X.mg "isinstance" = none) {sc : Scope} (g3 : X.env.scope = sc) :
    ∀ {es : List Expr} {ks : List Nat}, trIs T sc n es = some ks → PA X es (fun σ H Q => ∃ fs, σ[i]? = some (some (.ref a)) ∧ H dx = some (.xd fs) ∧ Q (ks.map fun k => V.bl (Γ.sub c k)) H)
  | [], ks, h => by
    cases h
    exact PA.imp pa_nil fun σ H Q ⟨fs, _, _, q⟩ => q
  | e :: es, ks, h => by
    unfold trIs at h
    split at h
    · rename_i heq; cases heq
    · rename_i f p1 m p2 y p3 p4 es' heq
      cases heq
      split at h
      · rename_i hcnd
        obtain ⟨d1, d2, d3, d4⟩ := hcnd
        split at h
        · rename_i k ks' f1 f2
          cases h
          have := eq_of_beq d1
          subst this
          have := (eq_of_beq d2).symm
          subst this
          obtain ⟨o1, _, _⟩ := odd3_ok d3
          obtain ⟨C0, hm0, O⟩ := kc.cls c x hc
          rw [hx] at hm0
          cases hm0
          have hk := ixOf_ok f1
          obtain ⟨D, hD, OD⟩ := kc.cls k y hk
          have sub := (kc.sub c k x y C D hc hk hx hD).2
          refine PA.imp (pa_cons (pe_callB (call_isG hm O hz hf) g1 g2 boot_isinstance (pa_cons (pe_var hi hv hd hcd) (pa_cons (pe_glob (v := .ref D) (glb_ok g3 d4) hD rfl o1) pa_nil))) (pa_is hm kc hc hx hz hf hi hv hd hcd g1 g2 g3 f2)) fun σ H Q ⟨fs, h1, h2, q⟩ => ?_
          exact ⟨.ref a, h1, .ref D, .ref D, Γ.sub c k, fs, rfl, fun u r => r, sub, h2, fs, h1, h2, q⟩
        · cases h
      · cases h
    · cases h
/-- the body -/
theorem kin_body {pl : Str} {body : List Stmt} {ks : List Nat} (hm : (a, oe) ∈ X.pn) (kc : Kc X.K X.mg T Γ) (hc : T.cls[c]? = some x) (hx : X.mg x = some (.ref C)) (hz : Zc (.ref C) (some dx) oe) (hf : ∃ vs, oe.data = .fields vs) (hN : X.N = [n, pl]) (nd : X.N.Nodup) (hv : X.env.scope.names.lookup n = some .local) (hvp : X.env.scope.names.lookup pl = some .local) (ho : odd3 n = false) (hop : odd3 pl = false)
    (g1 : Gl X "isinstance") (g2 : X.mg "isinstance" = none) {sc : Scope} (g3 : X.env.scope = sc) (h : trKin T sc n pl body = some ks) :
    PSs X body (fun Dn σ H => ∃ fs w, σ = [some (.ref a), w] ∧ H dx = some (.xd fs) ∧ ∀ p1 o1 p2 o2 p3, H p1 = none → upd H p1 o1 p2 = none → upd (upd H p1 o1) p2 o2 p3 = none → Dn.rt (.ref p3) (upd (upd (upd H p1 o1) p2 o2) p3 (.lst (ks.map fun k => V.bl (Γ.sub c k))))) := by
  obtain ⟨q1, q2, _⟩ := odd3_ok ho
  obtain ⟨r1, r2, _⟩ := odd3_ok hop
  have i0 : X.N[0]? = some n := by rw [hN]; rfl
  have i1 : X.N[1]? = some pl := by rw [hN]; rfl
  unfold trKin at h
  split at h
  · split at h
    · rename_i hcnd
      obtain ⟨d1, d2⟩ := hcnd
      have := eq_of_beq d1
      subst this
      have := eq_of_beq d2
      subst this
      split at h
      · rename_i k1 k2 f1 f2
        split at h
        · rename_i hl
          cases h
          have A1 := pa_is hm kc hc hx hz hf i0 (.inl hv) q1 q2 g1 g2 g3 f1
          have A2 := pa_is hm kc hc hx hz hf i0 (.inl hv) q1 q2 g1 g2 g3 f2
          refine ⟨fun pins s σ H Dn I ⟨fs, w, hs, hd, q⟩ => ?_⟩
          refine (pss_cons (ps_set nd i1 (.inl hvp) (pe_lst A1) rfl (.inr hvp)) (pss_one (ps_ret (pe_op op_cat (pe_var i1 (.inl hvp) r1 r2) (pe_lst A2))))).run pins s σ H Dn I ?_
          have lz : ∀ {m : Nat}, m ≤ 1000 → m ≤ sizeLine := fun h => Nat.le_of_lt (small1000 h)
          refine ⟨fs, by rw [hs]; rfl, hd, by rw [List.length_map]; exact lz (by omega), fun p1 e1 => ?_⟩
          have n1 : p1 ≠ dx := fun z => by rw [z, hd] at e1; cases e1
          refine ⟨.ref p1, by rw [hs]; rfl, fs, by rw [hs]; rfl, by rw [upd_ne (Ne.symm n1)]; exact hd, by rw [List.length_map]; exact lz (by omega), fun p2 e2 => ?_⟩
          have n2 : p2 ≠ p1 := fun z => by rw [z, upd_same] at e2; cases e2
          refine ⟨p1, p2, _, _, rfl, rfl, by rw [upd_ne (Ne.symm n2), upd_same], upd_same, by rw [List.length_map, List.length_map]; exact lz hl, fun p3 e3 => ?_⟩
          rw [← List.map_append]
          exact q p1 _ p2 _ p3 e1 e2 e3
        · cases h
      · cases h
    · cases h
  · cases h
end
structure KinT (T : Tb) (nm n pl : Str) (ks : List Nat) (st : Stmt) : Prop where
  sc : FnScope [n, pl] [n] (defScope st)
  bind : ∀ (kV doc pm : Value) (an : Option Addr) (cdv ct : Value) (us : List Value), us.length = 1 → bindArgs (PySem.W.fnOf nm nm (defArgs st) (defBody st) (defScope st) .none kV doc pm an cdv ct) ⟨us, []⟩ = pure ([n].zip us)
  code : trKin T (defScope st) n pl (defBody st) = some ks
  l1 : islb (defScope st) n = true
  l2 : islb (defScope st) pl = true
  o1 : odd3 n = false
  o2 : odd3 pl = false
  on : odd3 nm = false
  gi : glb (defScope st) "isinstance" = true
  bi : (T.bis.any fun y => y == ("isinstance" : Str)) = true
theorem kinP_of {P : Program} {w : World} {K : PySem.W.Frag} {mg : Str → Option Value} {base : Heap} {T : Tb} {Γ : Ctx} {lv : Nat} (kc : Kc K mg T Γ) (bis : ∀ x, x ∈ T.bis → mg x = none)
    (h : ∀ (nm : Str) (ks : List Nat), T.kin = some (nm, ks) → ∃ st fa fd n pl, mg nm = some (.ref fa) ∧ L2.Fun K nm nm st fa fd ∧ KinT T nm n pl ks st) (hlv : 1 ≤ lv) : KinP P w K mg base T Γ.sub lv := by
  intro X e1 e2 e3 e4 e5 hr nm ks hk hg a oe C dx c x e te q pos hp hc hm hz hf he hne
  subst e1 e2 e3 e4 e5
  obtain ⟨st, fa, fd, n, pl, hmn, F, KT⟩ := h nm ks hk
  have S := KT.sc
  refine ⟨fun pins s σ H Q I hq => ?_⟩
  refine wpAny_Call_Name_kw (ld_glob I hg hmn ?_ (odd3_ok KT.on).1)
  refine PySem.W.callWith_K (h₀ := X.base) I.ok.mod.kin F.kp (thn ((pa_cons he pa_nil (nst_ok hne)).run pos pins s σ H (fun vs H1 => match vs with
    | [v] => v = .ref a ∧ (∃ fs, H1 dx = some (.xd fs)) ∧ ∀ p1 o1 p2 o2 p3, H1 p1 = none → upd H1 p1 o1 p2 = none → upd (upd H1 p1 o1) p2 o2 p3 = none → Q (.ref p3) (upd (upd (upd H1 p1 o1) p2 o2) p3 (.lst (ks.map fun k => V.bl (Γ.sub c k))))
    | _ => False) I hq) fun us s1 hh => ?_) (nst_ok hne) (by rfl)
  obtain ⟨vs, H1, I1, r1, q1⟩ := hh
  match vs, q1 with
  | [v], ⟨ev, ⟨fs, hfs⟩, q1⟩ =>
    subst ev
    refine ⟨I1.kIn, ?_⟩
    have hl : us.length = 1 := by rw [← r1.length]; rfl
    obtain ⟨oc, od, kV, doc, pm, an, cdv, ct, osl, rfl, lk, hcd⟩ := F.ex
    have hb : BindsTo s1 (PySem.W.fnOf nm nm (defArgs st) (defBody st) (defScope st) .none kV doc pm an cdv ct) ⟨us, []⟩ ([n].zip us) := .of_eq (KT.bind kV doc pm an cdv ct us hl)
    have P1 := I1.pin (a, oe) (List.mem_append_left _ hp)
    have hpin : L2H.PinOk X.stack H1 s1 (a, oe) := ⟨P1.1, P1.2.1, fun hm => (List.mem_cons.mp (I1.stkSub a hm)).elim P1.2.2.1 P1.2.2.2.1, P1.2.2.2.2⟩
    have e0 := I1.env0
    have KX : X.K.In s1.heap := I1.kIn
    have lim : s1.heap.NoLimit := I1.nolimit
    have hkind : ∀ y ∈ [n].zip us, (defScope st).names.lookup y.1 = some .local ∨ ((defScope st).names.lookup y.1 = some .cell ∧ ((cellsFrom (s1.heap.objs.size + 1) (defScope st).names []).lookup y.1).isSome = true) := fun ⟨y, u⟩ hy => by
      rcases S.par y (List.of_mem_zip hy).1 with z | z
      · exact .inl z
      · exact .inr ⟨z, PySem.W.cellsFrom_some _ _ _ (.inl z)⟩
    show wpAny _ _ (call (.ref fa) us) _ _ _
    refine wpAny_call (codeAny_mono (R := CR (L2.CX X.prog X.w) X.stack X.prog X.w H1 s1 Q (fun _ _ _ => False)) ?_ fun r s' hq => ?_)
    · refine codeAny_call_function hr.depth (KX _ _ lk) rfl S.co S.gen rfl (PySem.W.codeRec_of KX hcd) (hb _ _ _ _ ?_)
      refine wpAny_newFunctionEnv_cells S.kind hkind fun env he s2 x => ?_
      subst he
      refine ⟨lim.keeps x.toInCall.keep, codeAny_func ?_⟩
      have I2 : Inv (L2H.cxH (L2.CX X.prog X.w) X.prog X.w X.K X.mg X.base [n, pl] nm (defScope st) fa cdv X.A X.stack s1 H1 (fun _ _ _ => False) (a, oe)) [] (L2.start [n, pl] [.ref a]) H1 s2 := L2H.inv_startH S hpin e0 rfl r1 x
      have B := kin_body (X := L2H.cxH (L2.CX X.prog X.w) X.prog X.w X.K X.mg X.base [n, pl] nm (defScope st) fa cdv X.A X.stack s1 H1 (fun _ _ _ => False) (a, oe)) (T := T) (Γ := Γ) (pl := pl) (ks := ks) List.mem_cons_self kc hc hm hz hf rfl S.nd (islb_ok KT.l1) (islb_ok KT.l2) KT.o1 KT.o2 (glb_ok rfl KT.gi) (bis _ (by
        obtain ⟨y, hy, hye⟩ := List.any_eq_true.mp KT.bi
        rw [← eq_of_beq hye]; exact hy)) rfl KT.code
      refine wpAny_mono (B.run [] s2 (L2.start [n, pl] [.ref a]) H1 { nx := fun _ H' => Q .non H', rt := Q } I2 ⟨fs, none, rfl, hfs, q1⟩) (fun fl s' hs => ?_) fun e s' hs => hs
      cases fl with
      | ret u =>
        obtain ⟨v, σ', H', J, rv, q⟩ := hs
        exact ⟨v, H', J.os, J.bare, J.base, J.hok, rv, q⟩
      | next =>
        obtain ⟨σ', H', J, q⟩ := hs
        exact ⟨V.non, H', J.os, J.bare, J.base, J.hok, rfl, q⟩
      | brk =>
        obtain ⟨_, _, _, q⟩ := hs
        exact q.elim
      | cont =>
        obtain ⟨_, _, _, q⟩ := hs
        exact q.elim
    · cases r with
      | error e =>
        obtain ⟨_, _, _, _, _, _, _, _, _, _, _, _, z⟩ := hq
        exact z.elim
      | ok fl =>
        cases fl with
        | ret u => exact I1.after hq
        | next => exact hq.elim
        | brk => exact hq.elim
        | cont => exact hq.elim
end Ev

/-! ## EvW -/
set_option Elab.async false
set_option linter.all false
set_option maxRecDepth 100000
set_option maxHeartbeats 4000000
/-! A whole program: all defs keep what the evaluator says. -/
namespace Ev
open PySem PySem.Spec PyProof.Rows L2
structure FnD where
  name : Str
  ps : List Str
  N : List Str
  code : List Sx
structure PD where
  T : Tb
  fs : List FnD
  cst : Nat → D
  sub : Nat → Nat → Bool
def PD.run (p : PD) (m : Nat) : Nat → Nat → List D → Sto → R D
  | 0, _, _, _ => .bad
  | n + 1, k, ds, S => match p.fs[k]? with
    | none => .bad
    | some f => if ds.length = f.ps.length then (seqS (evS ⟨p.run m n, p.cst, p.sub, p.T.flds⟩ m) f.code (ds.map some ++ List.replicate (f.N.length - ds.length) none) S).back else .bad
abbrev PD.ctx (p : PD) (m n : Nat) : Ctx := ⟨p.run m n, p.cst, p.sub, p.T.flds⟩
/-- a def of the text as it stands behind the top -/
def DefF (K : PySem.W.Frag) (nm : Str) (st : Stmt) : Prop := ∃ f fd, PySem.W.nsIn K mainGlobals nm = some (some (.ref f)) ∧ L2.Fun K nm nm st f fd
theorem defF_mk {K : PySem.W.Frag} {nm : Str} {st : Stmt} {f : Addr} {oc : Value} {od an : Option Addr} {osl : Array (Option Value)} {kV doc pm cdv ct : Value} (a : PySem.W.nsIn K mainGlobals nm = some (some (.ref f))) (l : K.lookup f = some ⟨oc, od, .func (PySem.W.fnOf nm nm (defArgs st) (defBody st) (defScope st) .none kV doc pm an cdv ct), osl⟩)
    (c : PySem.W.codeIn K cdv nm = true) (k : PySem.W.keepIn K (.ref f) = true) : DefF K nm st := ⟨f, _, a, fun_mk l c k⟩
/-- what is known of the k-th def, by the text alone -/
structure DefT (p : PD) (M : Nat) (f : FnD) (st : Stmt) : Prop where
  sc : FnScope f.N f.ps (defScope st)
  bind : ∀ (kV doc pm : Value) (an : Option Addr) (cdv ct : Value) (us : List Value), us.length = f.ps.length → bindArgs (PySem.W.fnOf f.name f.name (defArgs st) (defBody st) (defScope st) .none kV doc pm an cdv ct) ⟨us, []⟩ = pure (f.ps.zip us)
  code : trSs (trS p.T f.N M (defScope st) M) (defBody st) = some f.code
structure PdOk (p : PD) (M : Nat) (P : Program) (w : World) (K : PySem.W.Frag) (mg : Str → Option Value) (base : Heap) : Prop where
  names : p.T.fns = p.fs.map (·.name)
  defs : ∀ (k : Nat) (f : FnD), p.fs[k]? = some f → ∃ st fa fd, mg f.name = some (.ref fa) ∧ L2.Fun K f.name f.name st fa fd ∧ DefT p M f st
  cst : ∀ (k : Nat) (x : Str), p.T.csts[k]? = some x → ∃ u v, mg x = some u ∧ RelV v u ∧ ∀ ρ N H, Rp K mg p.T ρ N H v (p.cst k)
  bis : ∀ x, x ∈ p.T.bis → mg x = none
  kc : ∀ f, Kc K mg p.T ⟨f, p.cst, p.sub, p.T.flds⟩
  mkp : ∀ lv, 8 ≤ lv → MkP P w K mg base p.T lv
  kin : ∀ (nm : Str) (ks : List Nat), p.T.kin = some (nm, ks) → ∃ st fa fd n pl, mg nm = some (.ref fa) ∧ L2.Fun K nm nm st fa fd ∧ KinT p.T nm n pl ks st
section
variable {K : PySem.W.Frag} {mg : Str → Option Value} {T : Tb} {ρ : Nat → Addr} {N : Nat} {H : Hp}
theorem sl_start : ∀ {ds : List D} {vs : List V} (n : Nat), RpL K mg T ρ N H vs ds → Sl K mg T ρ N H (vs.map some ++ List.replicate n none) (ds.map some ++ List.replicate n none) := by
  intro ds vs n r
  refine ⟨by simp [r.length], fun i d h => ?_⟩
  by_cases hi : i < ds.length
  · rw [List.getElem?_append_left (by simpa using hi), List.getElem?_map] at h
    cases hd : ds[i]? with
    | none => rw [hd] at h; cases h
    | some d' =>
      rw [hd] at h
      cases h
      obtain ⟨v, hv, rv⟩ := r.get hd
      refine ⟨v, ?_, rv⟩
      rw [List.getElem?_append_left (by simpa [r.length] using hi), List.getElem?_map, hv]
      rfl
  · rw [List.getElem?_append_right (by simpa using Nat.le_of_not_lt hi), List.getElem?_replicate] at h
    split at h <;> cases h
theorem fin_back {r : RS} {Q : VK} {E : XK} (h : fin K mg T (relV K mg T) ρ N H r.back Q E) : finS K mg T ρ N H r { nx := fun _ H' => Q .non H', rt := Q } (fun c d _ H' => E c d H') := by
  cases r with
  | nx fr S' => exact fun ρ' H' σ' x s l => h ρ' H' .non x s .non
  | rt d S' => exact fun ρ' H' v x s r => h ρ' H' v x s r
  | bk fr S' => exact h.elim
  | ct fr S' => exact h.elim
  | exc c fs fr S' => exact fun ρ' H' σ' cls d x s l e => h ρ' H' cls d x s e
  | bad => exact h.elim
end
theorem PdOk.kn {p : PD} {M : Nat} {P : Program} {w : World} {K : PySem.W.Frag} {mg : Str → Option Value} {base : Heap} (o : PdOk p M P w K mg base) (m n : Nat)
    (ih : ∀ k f fa fd st, p.fs[k]? = some f → mg f.name = some (.ref fa) → L2.Fun K f.name f.name st fa fd → DefT p M f st → FnG P w K mg base (n + 8) fa fd f.ps (spF K mg p.T f.ps.length (p.run m n k))) : Kn P w K mg base p.T (p.ctx m n) (n + 8) := by
  refine ⟨o.cst, fun k x hk => ?_, o.bis⟩
  rw [o.names, List.getElem?_map] at hk
  cases hf : p.fs[k]? with
  | none => rw [hf] at hk; cases hk
  | some f =>
    rw [hf] at hk
    cases hk
    obtain ⟨st, fa, fd, h1, h2, h3⟩ := o.defs k f hf
    refine ⟨fa, fd, f.ps, h1, h2.kp, h2.binds h3.bind, fun ds S hl => ?_, ih k f fa fd st hf h1 h2 h3⟩
    show p.run m n k ds S = .bad
    cases n with
    | zero => rfl
    | succ n =>
      unfold PD.run
      rw [hf]
      exact if_neg hl
theorem PdOk.all {p : PD} {M : Nat} {P : Program} {w : World} {K : PySem.W.Frag} {mg : Str → Option Value} {base : Heap} (o : PdOk p M P w K mg base) (m : Nat) :
    ∀ (n : Nat) (k : Nat) (f : FnD) (fa : Addr) (fd : FuncData) (st : Stmt), p.fs[k]? = some f → mg f.name = some (.ref fa) → L2.Fun K f.name f.name st fa fd → DefT p M f st → FnG P w K mg base (n + 8) fa fd f.ps (spF K mg p.T f.ps.length (p.run m n k))
  | 0, k, f, fa, fd, st, hf, h1, h2, h3 => ⟨fun vs H Q E ⟨_, _, _, hl, _⟩ => hl, fun A outer s H args us vs Q E _ _ _ _ _ ⟨_, _, _, _, _, _, hz⟩ => hz.elim⟩
  | n + 1, k, f, fa, fd, st, hf, h1, h2, h3 => by
    have kn := o.kn m n (fun k f fa fd st => PdOk.all o m n k f fa fd st)
    refine fnG_of (k := n + 8) h2 h3.sc (fun vs H Q E ⟨_, _, _, hl, _⟩ => hl) fun cdv A outer s H vs Q E hr hg hsp => ?_
    obtain ⟨ρ, S, ds, hl, rd, st', hfin⟩ := hsp
    refine ⟨_, trSs_ok (Γ := p.ctx m n) (lv := n + 8) (trS_ok M) h3.code (cxOf (L2.CX P w) P w K mg base f.N f.name (defScope st) fa cdv A outer s H E) (fun c d _ H' => E c d H') m ?_, ?_⟩
    · exact ⟨⟨kn, hr, hg, rfl, h3.sc.nd, rfl, rfl, fun _ _ => rfl⟩, takes_of rfl rfl rfl rfl, passes_of rfl, rfl, rfl, o.kc _, o.mkp _ (Nat.le_add_left _ _), kinP_of (o.kc (p.run m n)) o.bis o.kin (Nat.le_trans (by decide) (Nat.le_add_left 8 n))⟩
    · refine ⟨ρ, ds.map some ++ List.replicate (f.N.length - vs.length) none, S, sl_start _ rd, st', ?_⟩
      have hdl : ds.length = f.ps.length := by rw [← rd.length]; exact hl
      have e : p.run m (n + 1) k ds S = (seqS (evS (p.ctx m n) m) f.code (ds.map some ++ List.replicate (f.N.length - ds.length) none) S).back := by
        show (match p.fs[k]? with
          | none => R.bad
          | some f => if ds.length = f.ps.length then (seqS (evS ⟨p.run m n, p.cst, p.sub, p.T.flds⟩ m) f.code (ds.map some ++ List.replicate (f.N.length - ds.length) none) S).back else .bad) = _
        rw [hf]
        exact if_pos hdl
      rw [e] at hfin
      rw [rd.length]
      exact fin_back hfin
end Ev

/-! ## EvX -/
set_option Elab.async false
set_option linter.all false
set_option maxRecDepth 100000
set_option maxHeartbeats 4000000
/-! The making of an exception whose __init__ asks super() first and then keeps its one argument. -/
namespace Ev
open PySem PySem.W PySem.Calls PyProof.Rows PySem.HandSPX
section
abbrev rA (f : Str) (p1 p2 : Pos) : Arguments := { posonlyargs := [], args := [{ arg := "self", annotation := none, pos := p1 }, { arg := f, annotation := none, pos := p2 }], vararg := none, kwonlyargs := [], kw_defaults := [], kwarg := none, defaults := [] }
abbrev rB (f : Str) (q1 q2 q3 q4 q5 q6 q7 q8 q9 q10 : Pos) : List Stmt :=
  [.Expr (.Call (.Attribute (.Call (.Name "super" q1) [] [] q2) "__init__" q3) [.Name f q4] [] q5) q6, .Assign [.Attribute (.Name "self" q7) f q8] (.Name f q9) q10]
abbrev rS (f : Str) : Scope := { kind := .function, names := [(PySem.Str.ofString "self", .local), (f, .local), (PySem.Str.ofString "__class__", .free), (PySem.Str.ofString "super", .globalImplicit)], isGenerator := false, isCoroutine := false, more := [] }
/-- what the written part says of the class at C, of the class D that its __init__ stands in, and of that __init__, at fI -/
structure RTxt (P : Program) (K : Frag) (mg : Str → Option Value) (f : Str) (C D fI : Addr) : Prop where
  cls : ∃ nm q N bs bm sn sub ab col dd k0 k1 k2 k3 k5, K.lookup C = some (excClassObj nm q C N bs bm true sn sub ab col dd k0 k1 k2 k3 k5 "ValueError.__new__") ∧ refsVE bm = true
  sa : findIn K (.ref C) "__setattr__" = some (some (.builtin "object.__setattr__"))
  no : findIn K (.ref C) f = some none
  iC : findIn K (.ref C) "__init__" = some (some (.ref fI))
  tC : typeIn K (.ref fI) = some (.type "function")
  kC : keepIn K (.ref C) = true
  exC : subIn K (.ref C) (.type "BaseException") = some true
  tyC : typeIn K (.ref C) = some (.type "type")
  clD : (clsIn K D).isSome = true
  subD : mroIn K C (.ref D) = some true
  sup : ks_superIn K C D "__init__" = some (some (.builtin "ValueError.__init__"))
  opq : nsIn K cStatics "thirdparty.any" = some none
  subB : subIn K (.ref C) (.type "ValueError") = some true
  msup : mg "super" = none
  top : (P.main.scope.names.lookup ("super" : Str)).isSome = false
  fn : ∃ (oc : Value) (od : Option Addr) (qual : Str) (doc pm : Value) (an : Option Addr) (ct : Value) (osl : Array (Option Value)) (cda cc : Addr) (p1 p2 q1 q2 q3 q4 q5 q6 q7 q8 q9 q10 : Pos),
    K.lookup fI = some ⟨oc, od, .func (fnX "__init__" qual (rA f p1 p2) (rB f q1 q2 q3 q4 q5 q6 q7 q8 q9 q10) (rS f) [("__class__", cc)] .none .none doc pm an (.ref cda) ct), osl⟩ ∧ codeIn K (.ref cda) qual = true ∧
    (∃ cl cld csl, K.lookup cc = some ⟨cl, cld, .cell (some (.ref D)), csl⟩) ∧
    (∃ ccl cdd vs ccs file tf, K.lookup cda = some ⟨ccl, cdd, .fields vs, ccs⟩ ∧ vs[2]? = some (.str file tf) ∧ ((P.main.file : Str) == file) = true ∧ (q3.endLine == q5.line) = true)
/-- what __init__ leaves of a new exception at x -/
structure REnd (h h' : Heap) (x C dx : Addr) (f : Str) (v : Value) : Prop where
  keep : ∀ b o, b ≠ x → h.get? b = some o → h'.get? b = some o
  obj : ∃ t1 : Addr, h'.get? x = some { cls := .ref C, dict := some dx, data := .fields #[.ref t1, .none, .none, .none, .bool false, .none] }
  dbig : h.objs.size ≤ dx
  dne : dx ≠ x
  ns : h'.Ns1 dx (fun y => if y = f then some v else none)
theorem keep_but {K : Frag} {h h' : Heap} {x : Addr} (X : K.In h) (hx : K.lookup x = none) (k : ∀ b o, b ≠ x → h.get? b = some o → h'.get? b = some o) : K.In h' := fun a o e =>
  k a o (fun z => by rw [z, hx] at e; cases e) (X a o e)
theorem one_fits (v : Value) : [v].length ≤ sizeLine := by
  rw [sizeLine_eq]
  exact (by decide : 1 ≤ 16777216)
variable {prog : Program} {w : World} {A : Around} {E : Value → Shared → Prop} {R : Result → Shared → Prop} {s : Shared} {K : Frag} {mg : Str → Option Value} {base : Heap} {C D fI : Addr} {f : Str}
/-- the built-in __init__, bound to the exception at e, is called -/
theorem call_vw {h : Heap} {g : Array GenState} {d : Drawn} {t : Nat} {os : OsState} {nm q : Str} {C N : Addr} {bs bm : List Value} {hdct : Bool} {sn : List Str} {sub : List Value} {ab : Bool} {col : Option Bool} {dd : Option Addr} {k0 k1 k2 k3 k5 : Option Value} {u e t0 : Addr} {rest : List Value} {Q : Value → Shared → Prop}
    (hC : h.get? C = some (excClassObj nm q C N bs bm hdct sn sub ab col dd k0 k1 k2 k3 k5 "ValueError.__new__")) (he : h.get? e = some (excO C t0)) (hu : h.get? u = some (kxs_mw "ValueError.__init__" e)) (hz : rest.length ≤ sizeLine)
    (hq : ∀ h' t1, (∀ b o, b ≠ e → h.get? b = some o → h'.get? b = some o) → h'.get? e = some (excO C t1) → Q .none ⟨h', g, d, t, os⟩) :
    wpAny (model prog w) A (call (.ref u) rest) Q E ⟨h, g, d, t, os⟩ := by
  refine wpAny_call (codeAny_of_tree ?_)
  show wpAny _ A.in1 (callAny (.ref u) ⟨rest, []⟩) _ _ _
  simp only [callAny]
  refine wpAny_bind (wpAny_load hu ?_)
  simp only [kxs_mw, show (Value.type "method-wrapper" == Value.type "method" || Value.type "method-wrapper" == Value.type "builtin_function_or_method" || Value.type "method-wrapper" == Value.type "method-wrapper") = true by decide, if_true]
  refine KFB.if_so (by decide) ?_
  refine wpAny_bind (check_bound_init F.excBase_ValueError.toExcCallFacts hC he rfl ?_)
  refine wpAny_bind (wpAny_pure (wpAny_pure ?_))
  refine ⟨plainId_quiet F.excBase_ValueError.init.plain _, codeAny_builtin F.excBase_ValueError.initEntry ?_⟩
  exact exc_init_tree (cls := .ref C) (t0 := t0) (dv := none) (c2 := .none) (c3 := .none) (b4 := .bool false) he hz fun h' k e' _ => hq h' _ k e'
theorem callWith_vw {M : Model} {pos : Pos} {env : Env} {e : PySem.Expr} {u x : Addr} {i : String} {Q : Value → Shared → Prop}
    (h : wpAny M A (spliced (backTo pos (starEach [e] env))) (fun vs s₁ => KxsAt i u x s₁.heap ∧ wpAny M A (call (.ref u) vs) Q E s₁) E s) (he : starEach [e] env = (false, eval e env) :: starEach [] env := by rfl) :
    wpAny M A (callWith pos (.ref u) [] (backTo pos (starEach [e] env)) []) Q E s := by
  rw [he] at h ⊢
  exact kxs_callWith (i := i) (x := x) rfl (evalArgs_plain h)
/-- how its arguments fall -/
def RBind (f : Str) : Prop := ∀ (qual : Str) (p1 p2 : Pos) (body : List Stmt) (cl : List (Str × Addr)) (doc pm : Value) (an : Option Addr) (cdv ct u v : Value), bindArgs (fnX "__init__" qual (rA f p1 p2) body (rS f) cl .none .none doc pm an cdv ct) ⟨[u, v], []⟩ = pure [(("self" : Str), u), (f, v)]
theorem r_eval (f : Str) (qual : Str) (L a : Addr) (cdv : Value) (cl : List (Str × Addr)) (q1 q2 q3 q4 q5 : Pos) (h : (q3.endLine == q5.line) = true) : ∃ pl : Sem Bool,
  eval (.Call (.Attribute (.Call (.Name "super" q1) [] [] q2) "__init__" q3) [.Name f q4] [] q5) (envX qual (rS f) L a cdv cl) = (do
      let ov ← attributeBase (.Call (.Name "super" q1) [] [] q2) "__init__" (envX qual (rS f) L a cdv cl) (eval (.Call (.Name "super" q1) [] [] q2) (envX qual (rS f) L a cdv cl))
      standAt q3.atName
      let (f', first) ← holding [ov] (getMethod ov "__init__" pl)
      callWith q5 f' first (backTo q5 (starEach [.Name f q4] (envX qual (rS f) L a cdv cl))) []) := by
  have e : ∀ (few : Bool) (o : Expr) (env : Env), methodCallPos few o env q3 q5 = pure q5 := fun few o env => by
    unfold methodCallPos
    rw [h, Bool.or_true]
    rfl
  refine ⟨?pl, ?h⟩
  case h =>
    show (do
      let ov ← attributeBase (.Call (.Name "super" q1) [] [] q2) "__init__" (envX qual (rS f) L a cdv cl) (eval (.Call (.Name "super" q1) [] [] q2) (envX qual (rS f) L a cdv cl))
      standAt q3.atName
      methodCall (.Call (.Name "super" q1) [] [] q2) "__init__" q3 q5 (envX qual (rS f) L a cdv cl) ov 1 (backTo q5 (starEach [.Name f q4] (envX qual (rS f) L a cdv cl))) (backToKw q5 (keywordEach [] (envX qual (rS f) L a cdv cl)))) = _
    unfold methodCall
    simp only [e]
    rfl
theorem rbind_reason : RBind "reason" := fun _ _ _ _ _ _ _ _ _ _ _ _ => by first | rfl | with_unfolding_all rfl

theorem r_init (T : RTxt prog K mg f C D fI) (B : RBind f) (nf : f ≠ "self") (ns : f ≠ "super") (nc : f ≠ "__class__") (hdb : (f == ("__debug__" : Str)) = false) (M : L2.Mod K mg base) (hb : ∀ b o, base.get? b = some o → s.heap.get? b = some o) {x t0 : Addr} {v : Value} (hx : s.heap.get? x = some (excO C t0)) (hnx : base.get? x = none)
    (hroom : A.depth < recursionLimit) (hq : ∀ h' tk dx, REnd s.heap h' x C dx f v → R (.ok (.ret .none)) { s with heap := h', toks := tk }) :
    codeAny (model prog w) A (.call (.ref fI) ⟨[.ref x, v], []⟩) R s := by
  obtain ⟨oc, od, qual, doc, pm, an, ct, osl, cda, cc, p1, p2, q1, q2, q3, q4, q5, q6, q7, q8, q9, q10, hfI, hcd, ⟨cl, cld, csl, hcc⟩, ccl, cdd, vs, ccs, file, tf, hcda, hvs, hfile, hpos⟩ := T.fn
  obtain ⟨nm, q, N, bs, bm, sn, sub, ab, col, dd, k0, k1, k2, k3, k5, hC, hbm⟩ := T.cls
  have hcl : clsIn K C = some { name := nm, bases := bs, mro := .ref C :: bm, ns := N, qualname := q, hasDict := true, slotNames := sn, subclasses := sub, abstract := ab, collection := col, hasDel := false } := by unfold clsIn; rw [hC] <;> rfl
  have X0 : K.In s.heap := fun a o e => hb a o (M.kin a o e)
  have hKx : K.lookup x = none := by
    cases e : K.lookup x with
    | none => rfl
    | some o =>
      have z := M.kin _ _ e
      rw [hnx] at z
      cases z
  have e1 : (f == ("self" : Str)) = false := by simpa using nf
  have e2 : (("self" : Str) == f) = false := by simpa using Ne.symm nf
  have e3 : (f == ("__class__" : Str)) = false := by simpa using nc
  have e4 : (("__class__" : Str) == f) = false := by simpa using Ne.symm nc
  have e5 : (("super" : Str) == f) = false := by simpa using Ne.symm ns
  have lkS : (rS f).names.lookup ("self" : Str) = some .local := rfl
  have lkF : (rS f).names.lookup f = some .local := by
    show List.lookup f [(PySem.Str.ofString "self", NameKind.local), (f, .local), (PySem.Str.ofString "__class__", .free), (PySem.Str.ofString "super", .globalImplicit)] = _
    have e1' : (f == PySem.Str.ofString "self") = false := e1
    simp [List.lookup, e1']
  have lkC : (rS f).names.lookup ("__class__" : Str) = some .free := by
    show List.lookup (PySem.Str.ofString "__class__") [(PySem.Str.ofString "self", NameKind.local), (f, .local), (PySem.Str.ofString "__class__", .free), (PySem.Str.ofString "super", .globalImplicit)] = _
    have e4' : (PySem.Str.ofString "__class__" == f) = false := e4
    have e6 : (PySem.Str.ofString "__class__" == PySem.Str.ofString "self") = false := by decide
    simp [List.lookup, e4', e6]
  have lkP : (rS f).names.lookup ("super" : Str) = some .globalImplicit := by
    show List.lookup (PySem.Str.ofString "super") [(PySem.Str.ofString "self", NameKind.local), (f, .local), (PySem.Str.ofString "__class__", .free), (PySem.Str.ofString "super", .globalImplicit)] = _
    have e5' : (PySem.Str.ofString "super" == f) = false := e5
    have e6 : (PySem.Str.ofString "super" == PySem.Str.ofString "self") = false := by decide
    have e7 : (PySem.Str.ofString "super" == PySem.Str.ofString "__class__") = false := by decide
    simp [List.lookup, e5', e6, e7]
  have hbind : BindsTo s (fnX "__init__" qual (rA f p1 p2) (rB f q1 q2 q3 q4 q5 q6 q7 q8 q9 q10) (rS f) [("__class__", cc)] .none .none doc pm an (.ref cda) ct) ⟨[.ref x, v], []⟩ [("self", .ref x), (f, v)] :=
    BindsTo.of_eq (by exact B qual p1 p2 _ _ doc pm an _ ct _ v)
  have hS : List.lookup ("self" : Str) [(f, v), (("self" : Str), Value.ref x)] = some (.ref x) := by simp [List.lookup, e2]
  have hF : List.lookup f [(f, v), (("self" : Str), Value.ref x)] = some v := by simp [List.lookup]
  refine ks_codeAny_call_defAt (fd := fnX "__init__" qual (rA f p1 p2) (rB f q1 q2 q3 q4 q5 q6 q7 q8 q9 q10) (rS f) [("__class__", cc)] .none .none doc pm an (.ref cda) ct) (body := rB f q1 q2 q3 q4 q5 q6 q7 q8 q9 q10) (binds := [("self", .ref x), (f, v)])
    hroom (X0 _ _ hfI) rfl (M.nolimit.keeps hb) (codeRec_of X0 hcd) rfl hbind (fun y hy => by
      rcases List.mem_cons.mp hy with rfl | hy
      · exact nofun
      rcases List.mem_cons.mp hy with rfl | hy
      · exact nofun
      rcases List.mem_cons.mp hy with rfl | hy
      · exact nofun
      rcases List.mem_cons.mp hy with rfl | hy
      · exact nofun
      · cases hy) (fun y hy => by
      rcases List.mem_cons.mp hy with rfl | hy
      · exact lkS
      rcases List.mem_cons.mp hy with rfl | hy
      · exact lkF
      · cases hy) (fun h₁ hns kp => ?_) rfl rfl rfl
  obtain ⟨hp, g, dr, tk, os⟩ := s
  dsimp only at hb X0 hx hns kp hq ⊢
  have X1 : K.In h₁ := X0.keeps kp
  have hx1 := kp _ _ hx
  have hL : hp.objs.size ≠ x := Nat.ne_of_gt (Heap.lt_size hx)
  obtain ⟨oD, hD1, hD2⟩ : ∃ oD, h₁.get? D = some oD ∧ ∃ cd, oD.data = .cls cd := by
    have z := T.clD
    unfold clsIn at z
    split at z
    · rename_i c d cd' sl ho
      exact ⟨_, X1 _ _ ho, _, rfl⟩
    · cases z
  obtain ⟨cdD, hD2⟩ := hD2
  show PySem.wpAt _ _ (.func (rB f q1 q2 q3 q4 q5 q6 q7 q8 q9 q10) (envX qual (rS f) hp.objs.size fI (.ref cda) [("__class__", cc)])) (execs (rB f q1 q2 q3 q4 q5 q6 q7 q8 q9 q10) (envX qual (rS f) hp.objs.size fI (.ref cda) [("__class__", cc)])) _ _ _
  obtain ⟨pl, hev⟩ := r_eval f qual hp.objs.size fI (.ref cda) [("__class__", cc)] q1 q2 q3 q4 q5 hpos
  refine ks_wpAt_execs_cons (ks_wpAt_Expr_any (ks_wpAt_MethodCall (pl := pl) ?_ hev))
  refine ks_wpAt_super_base (env := envX qual (rS f) hp.objs.size fI (.ref cda) [("__class__", cc)]) (s := ⟨h₁, g, dr, _, os⟩) lkP lkC (by decide) rfl (X1 _ _ hfI) rfl rfl rfl (X1 _ _ hcda) rfl hvs hfile T.top ?_
  obtain ⟨mb, b1, b2⟩ := M.blt
  have kb : ∀ b o, base.get? b = some o → h₁.get? b = some o := fun b o e => kp b o (hb b o e)
  refine ks_loadName_global rfl lkP (loadGlobal_builtin (env := envX qual (rS f) hp.objs.size fI (.ref cda) [("__class__", cc)]) (M.glob.keeps kb) T.msup (b1.keeps kb) ((b2 _ (by decide +kernel)).trans (by first | boot_by_name | rfl | kernel_rfl)) ⟨rfl, ?_⟩)
  refine wpAny_loadName_free rfl lkC rfl ⟨_, X1 _ _ hcc, rfl⟩ ?_
  refine wpAny_loadName_local rfl lkS hns hS ?_
  refine ks_wpAny_isType_cls hD1 hD2 ⟨rfl, ?_⟩
  refine ks_wpAny_call_super hD1 hD2 hx1 rfl nofun (looks_mroIn X1 T.subD) (fun h₂ e2' kp2 => ?_)
  have X2 : K.In h₂ := X1.keeps kp2
  have hx2 := kp2 _ _ hx1
  have hm := T.sup
  unfold ks_superIn at hm
  rw [hcl] at hm
  have I2 : InstAt h₂ x (excO C t0) C none := ⟨hx2, rfl, rfl, trivial⟩
  refine kxs_getMethod kxs_ValueError e2' (looks_opaque X2 T.opq) (l₀ := .ref C :: bm) (fun A Q E s k q => wpAny_bind ((looks_clsIn X2 hcl) A _ E s k (wpAny_pure q))) rfl X2 hm (I2.type.andThen (looks_subIn X2 T.subB)) (ks_ne X2 I2 hcl) (by decide) ?_
  have kp3 : ∀ b o, h₂.get? b = some o → (h₂.push (kxs_mw "ValueError.__init__" x)).get? b = some o := fun b o e => Heap.get?_push_of_some _ e
  have hns3 : (h₂.push (kxs_mw "ValueError.__init__" x)).Ns hp.objs.size fun y => List.lookup y ([("self", Value.ref x), (f, v)] : List (Str × Value)).reverse := (hns.keeps kp2).keeps kp3
  refine callWith_vw (i := "ValueError.__init__") (x := x) (env := envX qual (rS f) hp.objs.size fI (.ref cda) [("__class__", cc)]) (e := .Name f q4) (spliced_more ?_)
  show wpAny _ _ (eval (.Name f q4) (envX qual (rS f) hp.objs.size fI (.ref cda) [("__class__", cc)])) _ _ _
  refine wpAny_Name (wpAny_loadName_local rfl lkF hns3 hF ?_) hdb
  refine spliced_none ?_
  refine ⟨Heap.get?_push_at rfl rfl, ?_⟩
  refine call_vw (kp3 _ _ (X2 _ _ hC)) (kp3 _ _ hx2) (Heap.get?_push_at rfl rfl) (one_fits v) fun h₄ t1 kp4 hx4 => ?_
  have hns4 : h₄.Ns hp.objs.size fun y => List.lookup y ([("self", Value.ref x), (f, v)] : List (Str × Value)).reverse := by
    obtain ⟨oL, es, ep, z, r⟩ := hns3
    exact ⟨oL, es, ep, kp4 _ _ hL z, r⟩
  have kk : ∀ b o, b ≠ x → hp.get? b = some o → h₄.get? b = some o := fun b o n e => kp4 b o n (kp3 b o (kp2 b o (kp b o e)))
  have X4 : K.In h₄ := keep_but X0 hKx kk
  refine wpAt_of_wpAny (wpAny_execs_cons (plainObj_wpAny_Assign_Attribute ?_))
  show wpAny _ _ (eval (.Name f q9) (envX qual (rS f) hp.objs.size fI (.ref cda) [("__class__", cc)])) _ _ _
  refine wpAny_Name ?_ hdb
  refine wpAny_loadName_local rfl lkF hns4 hF ?_
  show wpAny _ _ (eval (.Name "self" q7) (envX qual (rS f) hp.objs.size fI (.ref cda) [("__class__", cc)])) _ _ _
  refine wpAny_Name ?_ (by decide)
  refine wpAny_loadName_local rfl lkS hns4 hS ?_
  refine set_plain X4 (ox := excO C t1) (od := none) ⟨hx4, rfl, rfl, trivial⟩ T.sa ?_
  refine exc_osa X4 hx4 hcl (show refsVE (.ref C :: bm) = true from hbm) rfl T.no (fun h₅ tk₅ dx kp5 dn dne hx₅ hn₅ => ?_)
  have z : hp.objs.size < h₄.objs.size := hns4.lt
  exact wpAny_execs_nil (hq h₅ tk₅ dx ⟨fun b o n e => kp5 b o n (kk b o n e), ⟨t1, hx₅⟩, Nat.le_of_lt (Nat.lt_of_lt_of_le z dn), dne, hn₅⟩)
end
end Ev

/-! ## EvY -/
set_option Elab.async false
set_option linter.all false
set_option maxRecDepth 100000
set_option maxHeartbeats 4000000
/-! Exceptions are made as the evaluator says. -/
namespace Ev
open PySem PySem.W PySem.Calls PyProof.Rows PySem.HandSPX
section
variable {prog : Program} {w : World} {A : Around} {E : Value → Shared → Prop} {R : Result → Shared → Prop} {s : Shared} {K : Frag} {mg : Str → Option Value} {base : Heap} {C D fI : Addr} {f : Str}
structure RMade (h h' : Heap) (e C d : Addr) (f : Str) (v : Value) : Prop where
  old : ∀ b o, h.get? b = some o → h'.get? b = some o
  new : h.objs.size ≤ e
  obj : ∃ oe vs, h'.get? e = some oe ∧ oe.cls = .ref C ∧ oe.dict = some d ∧ oe.data = .fields vs ∧ vs[1]? = some .none
  dbig : h.objs.size ≤ d
  dne : d ≠ e
  ns : h'.Ns1 d (fun y => if y = f then some v else none)
theorem r_made (T : RTxt prog K mg f C D fI) (B : RBind f) (nf : f ≠ "self") (ns : f ≠ "super") (nc : f ≠ "__class__") (hdb : (f == ("__debug__" : Str)) = false) (M : L2.Mod K mg base) (hb : ∀ b o, base.get? b = some o → s.heap.get? b = some o) (hsz : base.objs.size ≤ s.heap.objs.size) {v : Value} (hroom : A.depth + 1 < recursionLimit)
    (hq : ∀ h' tk e d, RMade s.heap h' e C d f v → R (.ok (.ret (.ref e))) { s with heap := h', toks := tk }) : codeAny (model prog w) A (.call (.ref C) ⟨[v], []⟩) R s := by
  obtain ⟨nm, q, N, bs, bm, sn, sub, ab, col, dd, k0, k1, k2, k3, k5, hC, hbm⟩ := T.cls
  have X : K.In s.heap := fun a o e => hb a o (M.kin a o e)
  obtain ⟨hp, g, dr, tk, os⟩ := s
  dsimp only at hb hsz X hq
  have k : ∀ b o, hp.get? b = some o → ((hp.push (kdv_tup [v])).push (excO C hp.objs.size)).get? b = some o := fun b o e => Heap.get?_push_of_some _ (Heap.get?_push_of_some _ e)
  have hget : ((hp.push (kdv_tup [v])).push (excO C hp.objs.size)).get? (hp.objs.size + 1) = some (excO C hp.objs.size) := by heap_get
  have hbx : base.get? (hp.objs.size + 1) = none := by
    cases e : base.get? (hp.objs.size + 1) with
    | none => rfl
    | some o =>
      have z := Heap.lt_size e
      exact absurd (Nat.lt_of_lt_of_le z hsz) (Nat.not_lt.mpr (Nat.le_succ _))
  refine call_own F.excBase_ValueError (fun X => refsVE_contains X bm hbm) (X _ _ hC) (looks_findIn X T.iC) (fun self => bind_fn X self T.tC) (one_fits v) ?_
  refine r_init (s := ⟨(hp.push (kdv_tup [v])).push (excO C hp.objs.size), g, dr, tk, os⟩) T B nf ns nc hdb M (fun b o e => k b o (hb b o e)) hget hbx ?_ fun h' tk' dx ⟨k', ⟨t1, hx⟩, dn, dne, hns⟩ => ?_
  · show A.depth + 1 < recursionLimit
    exact hroom
  · have old : ∀ b o, hp.get? b = some o → h'.get? b = some o := fun b o e => k' b o (Nat.ne_of_lt (Nat.lt_succ_of_lt (Heap.lt_size e))) (k b o e)
    have z : hp.objs.size + 1 + 1 ≤ dx := by
      first
        | (simpa only [Heap.size_push] using dn)
        | exact dn
        | (have q := dn; rw [Heap.size_push, Heap.size_push] at q; exact q)
    exact ⟨rfl, hq h' tk' (hp.objs.size + 1) dx ⟨old, Nat.le_succ _, ⟨_, _, hx, rfl, rfl, rfl, rfl⟩, by omega, dne, hns⟩⟩
end
open L2 PySem.Spec
theorem relO_one {f : Str} {v : V} {v' : Value} (r : RelV v v') (g : Str) : RelO (List.lookup g [(f, v)]) (if g = f then some v' else none) := by
  by_cases hw : g = f
  · subst hw
    rw [if_pos rfl]
    have q : List.lookup g [(g, v)] = some v := by simp [List.lookup]
    rw [q]
    exact r
  · rw [if_neg hw]
    have qw : (g == f) = false := by simpa using hw
    have q2 : List.lookup g [(f, v)] = none := by simp [List.lookup, qw]
    rw [q2]
    trivial
/-- what is known of a class of errors with one field, told by its __init__ -/
structure RCls (P : Program) (K : PySem.W.Frag) (mg : Str → Option Value) (x : Str) (fl : List Str) (C D fI : Addr) (f : Str) : Prop where
  fl : fl = [f]
  gC : mg x = some (.ref C)
  txt : RTxt P K mg f C D fI
  bnd : RBind f
  ne1 : f ≠ "self"
  ne2 : f ≠ "super"
  ne3 : f ≠ "__class__"
  ndb : (f == ("__debug__" : Str)) = false
  xdb : (x == ("__debug__" : Str)) = false
theorem pmk_r {X : Cx} {T : Tb} {k : Nat} {x f : Str} {C D fI : Addr} {a : PySem.Expr} {ta : TA} {p pos : Pos} {lv : Nat} (hT : RCls X.prog X.K X.mg x (T.flds k) C D fI f) (hr : Room lv X.A) (hlv : 1 ≤ lv) (ha : PA X [a] ta) (hg : Gl X x) (he : starEach (a :: []) X.env = (false, eval a X.env) :: starEach [] X.env) :
    PMk X (.Call (.Name x p) [a] [] pos) (tMk T k C (fun σ H Q => ta σ H fun vs H1 => vs.length = 1 ∧ Q vs H1)) := by
  intro pins s σ H Q I h
  refine wpAny_Call_Name_kw (ld_glob I hg hT.gC ?_ hT.xdb)
  refine PySem.W.callWith_K (h₀ := X.base) I.ok.mod.kin hT.txt.kC (thn (ha.run pos pins s σ H _ I h) fun us s1 hh => ?_) he (by rfl)
  obtain ⟨vs, H1, I1, r1, e1, q1⟩ := hh
  match vs, e1 with
  | [v], _ =>
    refine ⟨I1.kIn, ?_⟩
    cases r1 with
    | cons rv rn =>
      rename_i v' us'
      cases rn
      show wpAny _ _ (call (.ref C) [v']) _ _ _
      obtain ⟨hp, g, dr, tk, os⟩ := s1
      obtain ⟨mm, hnn, _⟩ := I1.loc
      refine wpAny_call (r_made (base := X.base) hT.txt hT.bnd hT.ne1 hT.ne2 hT.ne3 hT.ndb I1.ok.mod I1.bk (Nat.le_trans (Nat.le_trans I1.ok.bsz I1.ok.above) (Nat.le_of_lt hnn.lt)) (by have := hr.dp; omega) fun h' tk' e d M => ?_)
      show L2.MkP X pins σ Q (.ref e) ⟨h', g, dr, tk', os⟩
      obtain ⟨oe, fv, hoe, hc, hd, hdat, h1⟩ := M.obj
      have hns := M.ns
      obtain ⟨G', g1, g2⟩ := restrict h' fun b => decide (b ≠ e)
      have gk : ∀ b, b ≠ e → G'.get? b = h'.get? b := fun b hb => g1 b (decide_eq_true hb)
      have ge : G'.get? e = none := g2 e (by simp)
      have old : ∀ b o, hp.get? b = some o → G'.get? b = some o := fun b o q => (gk b (Nat.ne_of_lt (Nat.lt_of_lt_of_le (Heap.lt_size q) M.new))).trans (M.old b o q)
      have ob : ObjOk X.prog X.w (upd H1 d (.xd [(f, v)])) G' d (.xd [(f, v)]) :=
        ⟨_, hns.at (fun o q => (gk d M.dne).trans q), fun y => relO_one rv y⟩
      have J : Inv X pins σ (upd H1 d (.xd [(f, v)])) ⟨G', g, dr, tk', os⟩ := I1.laid (t' := tk') old M.dbig ob
      have q2 := q1 d (I1.hok.fresh M.dbig)
      rw [hT.fl] at q2
      refine ⟨e, oe, fv, ⟨G', g, dr, tk', os⟩, _, .ref C, some d, rfl, J, fun b o q => ?_, ge, hoe, ⟨hc, hd⟩, hdat, h1, ?_, rfl, I1.bare, raises_own hT.txt.exC hT.txt.tyC, q2⟩
      · by_cases hb : b = e
        · have q' : G'.get? b = some o := q
          rw [hb, ge] at q'; cases q'
        · exact (gk b hb).symm.trans q
      · rw [upd_ne (Ne.symm M.dne)]
        exact I1.hok.fresh M.new
theorem spliced_one {M : Model} {A : Around} {x : Sem Value} {Q : List Value → Shared → Prop} {E : Value → Shared → Prop} {s : Shared} (h : wpAny M A (spliced [(false, x)]) Q E s) : wpAny M A (spliced [(false, x)]) (fun vs s' => vs.length = 1 ∧ Q vs s') E s := fun Γ p hΓ => by
  have h := h Γ p hΓ
  rw [spliced, spliced] at h ⊢
  simp only [Bool.false_eq_true, if_false, Sem.wp_bind', Sem.wp_pure', Sem.wp_holding] at h ⊢
  exact Sem.wp_mono M Γ _ (fun v p' s' h' => ⟨rfl, h'⟩) (fun _ _ _ h' => h') _ _ h
theorem mkp_of {P : Program} {w : World} {K : PySem.W.Frag} {mg : Str → Option Value} {base : Heap} {T : Tb} (h : ∀ (k : Nat) (x : Str), T.cls[k]? = some x → T.flds k ≠ [] → ∃ (C D fI : Addr) (f : Str), RCls P K mg x (T.flds k) C D fI f) {lv : Nat} (hlv : 1 ≤ lv) : MkP P w K mg base T lv := by
  intro X e1 e2 e3 e4 e5 hr hgd hcalm k x hk hg e es p pos t hst hlen ha
  obtain ⟨C, D, fI, f, R⟩ := h k x hk (fun z => by rw [z] at hlen; exact absurd hlen (by simp))
  subst e1 e2 e3 e4 e5
  refine ⟨C, R.gC, ?_⟩
  have hes : es = [] := by
    rw [R.fl] at hlen
    cases es with
    | nil => rfl
    | cons a l => exact absurd hlen (by simp)
  subst hes
  have hs : nst e = true := by simpa using hst
  have ha' : PA X [e] (fun σ H Q => ∃ Q', t σ H Q' ∧ ∀ vs H', vs.length = 1 → Q' vs H' → Q vs H') := ⟨fun pos' pins s σ H Q I ⟨Q', q, qq⟩ => by
    have z := ha.run pos' pins s σ H Q' I q
    have e0 : backTo pos' (starEach [e] X.env) = [(false, eval e X.env)] := by rw [nst_ok hs]; rfl
    rw [e0] at z ⊢
    refine thn (spliced_one z) fun us s1 ⟨hl, vs, H1, I1, r1, q1⟩ => ⟨vs, H1, I1, r1, qq vs H1 ?_ q1⟩
    rw [← hl]
    exact Paired.length r1⟩
  have key := pmk_r (T := T) (k := k) (pos := pos) (p := p) R hr hlv ha' hg (nst_ok hs)
  intro pins s σ H Q I q
  refine key pins s σ H Q I ?_
  exact ⟨_, q, fun vs H' hl h' => ⟨hl, h'⟩⟩
end Ev

/-! ## EvX2 -/
set_option Elab.async false
set_option linter.all false
set_option maxRecDepth 100000
set_option maxHeartbeats 4000000
/-! The making of an exception whose __init__ asks super() with both arguments and then keeps number and reason. -/
namespace Ev
open PySem PySem.W PySem.Calls PyProof.Rows PySem.HandSPX
section
abbrev tA (p1 p2 p3 : Pos) : Arguments := { posonlyargs := [], args := [{ arg := "self", annotation := none, pos := p1 }, { arg := "number", annotation := none, pos := p2 }, { arg := "reason", annotation := none, pos := p3 }], vararg := none, kwonlyargs := [], kw_defaults := [], kwarg := none, defaults := [] }
abbrev tBd (q1 q2 q3 q4 q5 q6 q7 q8 q9 q10 q11 q12 q13 q14 q15 : Pos) : List Stmt :=
  [.Expr (.Call (.Attribute (.Call (.Name "super" q1) [] [] q2) "__init__" q3) [.Name "number" q4, .Name "reason" q11] [] q5) q6, .Assign [.Attribute (.Name "self" q7) "number" q8] (.Name "number" q9) q10, .Assign [.Attribute (.Name "self" q12) "reason" q13] (.Name "reason" q14) q15]
abbrev tSc : Scope := { kind := .function, names := [(PySem.Str.ofString "self", .local), (PySem.Str.ofString "number", .local), (PySem.Str.ofString "reason", .local), (PySem.Str.ofString "__class__", .free), (PySem.Str.ofString "super", .globalImplicit)], isGenerator := false, isCoroutine := false, more := [] }
structure TTxt (P : Program) (K : Frag) (mg : Str → Option Value) (C D fI : Addr) : Prop where
  cls : ∃ nm q N bs bm sn sub ab col dd k0 k1 k2 k3 k5, K.lookup C = some (excClassObj nm q C N bs bm true sn sub ab col dd k0 k1 k2 k3 k5 "ValueError.__new__") ∧ refsVE bm = true
  sa : findIn K (.ref C) "__setattr__" = some (some (.builtin "object.__setattr__"))
  no1 : findIn K (.ref C) "number" = some none
  no2 : findIn K (.ref C) "reason" = some none
  iC : findIn K (.ref C) "__init__" = some (some (.ref fI))
  tC : typeIn K (.ref fI) = some (.type "function")
  kC : keepIn K (.ref C) = true
  exC : subIn K (.ref C) (.type "BaseException") = some true
  tyC : typeIn K (.ref C) = some (.type "type")
  clD : (clsIn K D).isSome = true
  subD : mroIn K C (.ref D) = some true
  sup : ks_superIn K C D "__init__" = some (some (.builtin "ValueError.__init__"))
  opq : nsIn K cStatics "thirdparty.any" = some none
  subB : subIn K (.ref C) (.type "ValueError") = some true
  msup : mg "super" = none
  top : (P.main.scope.names.lookup ("super" : Str)).isSome = false
  fn : ∃ (oc : Value) (od : Option Addr) (qual : Str) (doc pm : Value) (an : Option Addr) (ct : Value) (osl : Array (Option Value)) (cda cc : Addr) (p1 p2 p3 q1 q2 q3 q4 q5 q6 q7 q8 q9 q10 q11 q12 q13 q14 q15 : Pos),
    K.lookup fI = some ⟨oc, od, .func (fnX "__init__" qual (tA p1 p2 p3) (tBd q1 q2 q3 q4 q5 q6 q7 q8 q9 q10 q11 q12 q13 q14 q15) tSc [("__class__", cc)] .none .none doc pm an (.ref cda) ct), osl⟩ ∧ codeIn K (.ref cda) qual = true ∧
    (∃ cl cld csl, K.lookup cc = some ⟨cl, cld, .cell (some (.ref D)), csl⟩) ∧
    (∃ ccl cdd vs ccs file tf, K.lookup cda = some ⟨ccl, cdd, .fields vs, ccs⟩ ∧ vs[2]? = some (.str file tf) ∧ ((P.main.file : Str) == file) = true ∧ (q3.endLine == q5.line) = true)
def m2 (v u : Value) : Str → Option Value := fun y => if y = ("reason" : Str) then some u else if y = ("number" : Str) then some v else none
structure TEnd (h h' : Heap) (x C dx : Addr) (v u : Value) : Prop where
  keep : ∀ b o, b ≠ x → h.get? b = some o → h'.get? b = some o
  obj : ∃ t1 : Addr, h'.get? x = some { cls := .ref C, dict := some dx, data := .fields #[.ref t1, .none, .none, .none, .bool false, .none] }
  dbig : h.objs.size ≤ dx
  dne : dx ≠ x
  ns : h'.Ns1 dx (m2 v u)
theorem two_fits (v u : Value) : [v, u].length ≤ sizeLine := by
  rw [sizeLine_eq]
  exact (by decide : 2 ≤ 16777216)
variable {prog : Program} {w : World} {A : Around} {E : Value → Shared → Prop} {R : Result → Shared → Prop} {s : Shared} {K : Frag} {mg : Str → Option Value} {base : Heap} {C D fI : Addr}
theorem callWith_vw2 {M : Model} {pos : Pos} {env : Env} {e e2 : PySem.Expr} {u x : Addr} {i : String} {Q : Value → Shared → Prop}
    (h : wpAny M A (spliced (backTo pos (starEach [e, e2] env))) (fun vs s₁ => KxsAt i u x s₁.heap ∧ wpAny M A (call (.ref u) vs) Q E s₁) E s) (he : starEach [e, e2] env = [(false, eval e env), (false, eval e2 env)] := by rfl) :
    wpAny M A (callWith pos (.ref u) [] (backTo pos (starEach [e, e2] env)) []) Q E s := by
  rw [he] at h ⊢
  exact kxs_callWith (i := i) (x := x) rfl (evalArgs_plain h)
def TBind : Prop := ∀ (qual : Str) (p1 p2 p3 : Pos) (body : List Stmt) (cl : List (Str × Addr)) (doc pm : Value) (an : Option Addr) (cdv ct z v u : Value), bindArgs (fnX "__init__" qual (tA p1 p2 p3) body tSc cl .none .none doc pm an cdv ct) ⟨[z, v, u], []⟩ = pure [(("self" : Str), z), ("number", v), ("reason", u)]
theorem tbind : TBind := fun _ _ _ _ _ _ _ _ _ _ _ _ _ _ => by first | rfl | with_unfolding_all rfl
theorem t_eval (qual : Str) (L a : Addr) (cdv : Value) (cl : List (Str × Addr)) (q1 q2 q3 q4 q5 q11 : Pos) (h : (q3.endLine == q5.line) = true) : ∃ pl : Sem Bool,
  eval (.Call (.Attribute (.Call (.Name "super" q1) [] [] q2) "__init__" q3) [.Name "number" q4, .Name "reason" q11] [] q5) (envX qual tSc L a cdv cl) = (do
      let ov ← attributeBase (.Call (.Name "super" q1) [] [] q2) "__init__" (envX qual tSc L a cdv cl) (eval (.Call (.Name "super" q1) [] [] q2) (envX qual tSc L a cdv cl))
      standAt q3.atName
      let (f', first) ← holding [ov] (getMethod ov "__init__" pl)
      callWith q5 f' first (backTo q5 (starEach [.Name "number" q4, .Name "reason" q11] (envX qual tSc L a cdv cl))) []) := by
  have e : ∀ (few : Bool) (o : Expr) (env : Env), methodCallPos few o env q3 q5 = pure q5 := fun few o env => by
    unfold methodCallPos
    rw [h, Bool.or_true]
    rfl
  refine ⟨?pl, ?h⟩
  case h =>
    show (do
      let ov ← attributeBase (.Call (.Name "super" q1) [] [] q2) "__init__" (envX qual tSc L a cdv cl) (eval (.Call (.Name "super" q1) [] [] q2) (envX qual tSc L a cdv cl))
      standAt q3.atName
      methodCall (.Call (.Name "super" q1) [] [] q2) "__init__" q3 q5 (envX qual tSc L a cdv cl) ov 2 (backTo q5 (starEach [.Name "number" q4, .Name "reason" q11] (envX qual tSc L a cdv cl))) (backToKw q5 (keywordEach [] (envX qual tSc L a cdv cl)))) = _
    unfold methodCall
    simp only [e]
    rfl
theorem t_init (T : TTxt prog K mg C D fI) (M : L2.Mod K mg base) (hb : ∀ b o, base.get? b = some o → s.heap.get? b = some o) {x t0 : Addr} {v u : Value} (hx : s.heap.get? x = some (excO C t0)) (hnx : base.get? x = none)
    (hroom : A.depth < recursionLimit) (hq : ∀ h' tk dx, TEnd s.heap h' x C dx v u → R (.ok (.ret .none)) { s with heap := h', toks := tk }) :
    codeAny (model prog w) A (.call (.ref fI) ⟨[.ref x, v, u], []⟩) R s := by
  obtain ⟨oc, od, qual, doc, pm, an, ct, osl, cda, cc, p1, p2, p3, q1, q2, q3, q4, q5, q6, q7, q8, q9, q10, q11, q12, q13, q14, q15, hfI, hcd, ⟨cl, cld, csl, hcc⟩, ccl, cdd, vs, ccs, file, tf, hcda, hvs, hfile, hpos⟩ := T.fn
  obtain ⟨nm, q, N, bs, bm, sn, sub, ab, col, dd, k0, k1, k2, k3, k5, hC, hbm⟩ := T.cls
  have hcl : clsIn K C = some { name := nm, bases := bs, mro := .ref C :: bm, ns := N, qualname := q, hasDict := true, slotNames := sn, subclasses := sub, abstract := ab, collection := col, hasDel := false } := by unfold clsIn; rw [hC] <;> rfl
  have X0 : K.In s.heap := fun a o e => hb a o (M.kin a o e)
  have hKx : K.lookup x = none := by
    cases e : K.lookup x with
    | none => rfl
    | some o =>
      have z := M.kin _ _ e
      rw [hnx] at z
      cases z
  have lkS : tSc.names.lookup ("self" : Str) = some .local := rfl
  have lkF : tSc.names.lookup ("number" : Str) = some .local := rfl
  have lkG : tSc.names.lookup ("reason" : Str) = some .local := rfl
  have lkC : tSc.names.lookup ("__class__" : Str) = some .free := rfl
  have lkP : tSc.names.lookup ("super" : Str) = some .globalImplicit := rfl
  have hbind : BindsTo s (fnX "__init__" qual (tA p1 p2 p3) (tBd q1 q2 q3 q4 q5 q6 q7 q8 q9 q10 q11 q12 q13 q14 q15) tSc [("__class__", cc)] .none .none doc pm an (.ref cda) ct) ⟨[.ref x, v, u], []⟩ [("self", .ref x), ("number", v), ("reason", u)] :=
    BindsTo.of_eq (by exact tbind qual p1 p2 p3 _ _ doc pm an _ ct _ v u)
  have hS : List.lookup ("self" : Str) [(("reason" : Str), u), (("number" : Str), v), (("self" : Str), Value.ref x)] = some (.ref x) := rfl
  have hF : List.lookup ("number" : Str) [(("reason" : Str), u), (("number" : Str), v), (("self" : Str), Value.ref x)] = some v := rfl
  have hG : List.lookup ("reason" : Str) [(("reason" : Str), u), (("number" : Str), v), (("self" : Str), Value.ref x)] = some u := rfl
  refine ks_codeAny_call_defAt (fd := fnX "__init__" qual (tA p1 p2 p3) (tBd q1 q2 q3 q4 q5 q6 q7 q8 q9 q10 q11 q12 q13 q14 q15) tSc [("__class__", cc)] .none .none doc pm an (.ref cda) ct) (body := tBd q1 q2 q3 q4 q5 q6 q7 q8 q9 q10 q11 q12 q13 q14 q15) (binds := [("self", .ref x), ("number", v), ("reason", u)])
    hroom (X0 _ _ hfI) rfl (M.nolimit.keeps hb) (codeRec_of X0 hcd) rfl hbind (fun y hy => by
      rcases List.mem_cons.mp hy with rfl | hy
      · exact nofun
      rcases List.mem_cons.mp hy with rfl | hy
      · exact nofun
      rcases List.mem_cons.mp hy with rfl | hy
      · exact nofun
      rcases List.mem_cons.mp hy with rfl | hy
      · exact nofun
      rcases List.mem_cons.mp hy with rfl | hy
      · exact nofun
      · cases hy) (fun y hy => by
      rcases List.mem_cons.mp hy with rfl | hy
      · exact lkS
      rcases List.mem_cons.mp hy with rfl | hy
      · exact lkF
      rcases List.mem_cons.mp hy with rfl | hy
      · exact lkG
      · cases hy) (fun h₁ hns kp => ?_) rfl rfl rfl
  obtain ⟨hp, g, dr, tk, os⟩ := s
  dsimp only at hb X0 hx hns kp hq ⊢
  have X1 : K.In h₁ := X0.keeps kp
  have hx1 := kp _ _ hx
  have hL : hp.objs.size ≠ x := Nat.ne_of_gt (Heap.lt_size hx)
  obtain ⟨oD, hD1, hD2⟩ : ∃ oD, h₁.get? D = some oD ∧ ∃ cd, oD.data = .cls cd := by
    have z := T.clD
    unfold clsIn at z
    split at z
    · rename_i c d cd' sl ho
      exact ⟨_, X1 _ _ ho, _, rfl⟩
    · cases z
  obtain ⟨cdD, hD2⟩ := hD2
  show PySem.wpAt _ _ (.func (tBd q1 q2 q3 q4 q5 q6 q7 q8 q9 q10 q11 q12 q13 q14 q15) (envX qual tSc hp.objs.size fI (.ref cda) [("__class__", cc)])) (execs (tBd q1 q2 q3 q4 q5 q6 q7 q8 q9 q10 q11 q12 q13 q14 q15) (envX qual tSc hp.objs.size fI (.ref cda) [("__class__", cc)])) _ _ _
  obtain ⟨pl, hev⟩ := t_eval qual hp.objs.size fI (.ref cda) [("__class__", cc)] q1 q2 q3 q4 q5 q11 hpos
  refine ks_wpAt_execs_cons (ks_wpAt_Expr_any (ks_wpAt_MethodCall (pl := pl) ?_ hev))
  refine ks_wpAt_super_base (env := envX qual tSc hp.objs.size fI (.ref cda) [("__class__", cc)]) (s := ⟨h₁, g, dr, _, os⟩) lkP lkC (by decide) rfl (X1 _ _ hfI) rfl rfl rfl (X1 _ _ hcda) rfl hvs hfile T.top ?_
  obtain ⟨mb, b1, b2⟩ := M.blt
  have kb : ∀ b o, base.get? b = some o → h₁.get? b = some o := fun b o e => kp b o (hb b o e)
  refine ks_loadName_global rfl lkP (loadGlobal_builtin (env := envX qual tSc hp.objs.size fI (.ref cda) [("__class__", cc)]) (M.glob.keeps kb) T.msup (b1.keeps kb) ((b2 _ (by decide +kernel)).trans (by first | boot_by_name | rfl | kernel_rfl)) ⟨rfl, ?_⟩)
  refine wpAny_loadName_free rfl lkC rfl ⟨_, X1 _ _ hcc, rfl⟩ ?_
  refine wpAny_loadName_local rfl lkS hns hS ?_
  refine ks_wpAny_isType_cls hD1 hD2 ⟨rfl, ?_⟩
  refine ks_wpAny_call_super hD1 hD2 hx1 rfl nofun (looks_mroIn X1 T.subD) (fun h₂ e2' kp2 => ?_)
  have X2 : K.In h₂ := X1.keeps kp2
  have hx2 := kp2 _ _ hx1
  have hm := T.sup
  unfold ks_superIn at hm
  rw [hcl] at hm
  have I2 : InstAt h₂ x (excO C t0) C none := ⟨hx2, rfl, rfl, trivial⟩
  refine kxs_getMethod kxs_ValueError e2' (looks_opaque X2 T.opq) (l₀ := .ref C :: bm) (fun A Q E s k q => wpAny_bind ((looks_clsIn X2 hcl) A _ E s k (wpAny_pure q))) rfl X2 hm (I2.type.andThen (looks_subIn X2 T.subB)) (ks_ne X2 I2 hcl) (by decide) ?_
  have kp3 : ∀ b o, h₂.get? b = some o → (h₂.push (kxs_mw "ValueError.__init__" x)).get? b = some o := fun b o e => Heap.get?_push_of_some _ e
  have hns3 : (h₂.push (kxs_mw "ValueError.__init__" x)).Ns hp.objs.size fun y => List.lookup y ([("self", Value.ref x), ("number", v), ("reason", u)] : List (Str × Value)).reverse := (hns.keeps kp2).keeps kp3
  refine callWith_vw2 (i := "ValueError.__init__") (x := x) (env := envX qual tSc hp.objs.size fI (.ref cda) [("__class__", cc)]) (e := .Name "number" q4) (e2 := .Name "reason" q11) (spliced_more ?_)
  show wpAny _ _ (eval (.Name "number" q4) (envX qual tSc hp.objs.size fI (.ref cda) [("__class__", cc)])) _ _ _
  refine wpAny_Name (wpAny_loadName_local rfl lkF hns3 hF ?_) (by decide)
  refine spliced_more ?_
  show wpAny _ _ (eval (.Name "reason" q11) (envX qual tSc hp.objs.size fI (.ref cda) [("__class__", cc)])) _ _ _
  refine wpAny_Name (wpAny_loadName_local rfl lkG hns3 hG ?_) (by decide)
  refine spliced_none ?_
  refine ⟨Heap.get?_push_at rfl rfl, ?_⟩
  refine call_vw (kp3 _ _ (X2 _ _ hC)) (kp3 _ _ hx2) (Heap.get?_push_at rfl rfl) (two_fits v u) fun h₄ t1 kp4 hx4 => ?_
  have hns4 : h₄.Ns hp.objs.size fun y => List.lookup y ([("self", Value.ref x), ("number", v), ("reason", u)] : List (Str × Value)).reverse := by
    obtain ⟨oL, es, ep, z, r⟩ := hns3
    exact ⟨oL, es, ep, kp4 _ _ hL z, r⟩
  have kk : ∀ b o, b ≠ x → hp.get? b = some o → h₄.get? b = some o := fun b o n e => kp4 b o n (kp3 b o (kp2 b o (kp b o e)))
  have X4 : K.In h₄ := keep_but X0 hKx kk
  have hmv : refsVE (.ref C :: bm) = true := hbm
  refine wpAt_of_wpAny (wpAny_execs_cons (plainObj_wpAny_Assign_Attribute ?_))
  show wpAny _ _ (eval (.Name "number" q9) (envX qual tSc hp.objs.size fI (.ref cda) [("__class__", cc)])) _ _ _
  refine wpAny_Name ?_ (by decide)
  refine wpAny_loadName_local rfl lkF hns4 hF ?_
  show wpAny _ _ (eval (.Name "self" q7) (envX qual tSc hp.objs.size fI (.ref cda) [("__class__", cc)])) _ _ _
  refine wpAny_Name ?_ (by decide)
  refine wpAny_loadName_local rfl lkS hns4 hS ?_
  refine set_plain X4 (ox := excO C t1) (od := none) ⟨hx4, rfl, rfl, trivial⟩ T.sa ?_
  refine exc_osa X4 hx4 hcl hmv rfl T.no1 (fun h₅ tk₅ dx kp5 dn dne hx₅ hn₅ => ?_)
  have z : hp.objs.size < h₄.objs.size := hns4.lt
  have hns5 : h₅.Ns hp.objs.size fun y => List.lookup y ([("self", Value.ref x), ("number", v), ("reason", u)] : List (Str × Value)).reverse := by
    obtain ⟨oL, es, ep, z, r⟩ := hns4
    exact ⟨oL, es, ep, kp5 _ _ hL z, r⟩
  have kk5 : ∀ b o, b ≠ x → hp.get? b = some o → h₅.get? b = some o := fun b o n e => kp5 b o n (kk b o n e)
  have X5 : K.In h₅ := keep_but X0 hKx kk5
  have hw : Within (fun y => if y = ("number" : Str) then some v else none) ["number"] := fun y hy => by
    by_cases e : y = ("number" : Str)
    · rw [e]; exact List.mem_cons_self
    · exact absurd (if_neg e) hy
  obtain ⟨oD5, _, _, hoD5, _, _⟩ := hn₅.count hw
  refine wpAny_execs_cons (plainObj_wpAny_Assign_Attribute ?_)
  show wpAny _ _ (eval (.Name "reason" q14) (envX qual tSc hp.objs.size fI (.ref cda) [("__class__", cc)])) _ _ _
  refine wpAny_Name ?_ (by decide)
  refine wpAny_loadName_local rfl lkG hns5 hG ?_
  show wpAny _ _ (eval (.Name "self" q12) (envX qual tSc hp.objs.size fI (.ref cda) [("__class__", cc)])) _ _ _
  refine wpAny_Name ?_ (by decide)
  refine wpAny_loadName_local rfl lkS hns5 hS ?_
  refine set_plain X5 (od := some oD5) ⟨hx₅, rfl, rfl, hoD5⟩ T.sa ?_
  refine OEX.osa_old X5 hx₅ hn₅ hw (by decide) hcl hmv rfl T.no2 (fun h₆ tk₆ kp6 hn₆ => ?_)
  have dbig : hp.objs.size ≤ dx := Nat.le_of_lt (Nat.lt_of_lt_of_le z dn)
  exact wpAny_execs_nil (hq h₆ tk₆ dx ⟨fun b o n e => kp6 b o (Nat.ne_of_lt (Nat.lt_of_lt_of_le (Heap.lt_size e) dbig)) (kk5 b o n e), ⟨t1, kp6 x _ (Ne.symm dne) hx₅⟩, dbig, dne, hn₆⟩)
end
end Ev

/-! ## EvY2 -/
set_option Elab.async false
set_option linter.all false
set_option maxRecDepth 100000
set_option maxHeartbeats 4000000
/-! Exceptions with number and reason are made as the evaluator says. -/
namespace Ev
open PySem PySem.W PySem.Calls PyProof.Rows PySem.HandSPX
section
variable {prog : Program} {w : World} {A : Around} {E : Value → Shared → Prop} {R : Result → Shared → Prop} {s : Shared} {K : Frag} {mg : Str → Option Value} {base : Heap} {C D fI : Addr}
structure TMade (h h' : Heap) (e C d : Addr) (v u : Value) : Prop where
  old : ∀ b o, h.get? b = some o → h'.get? b = some o
  new : h.objs.size ≤ e
  obj : ∃ oe vs, h'.get? e = some oe ∧ oe.cls = .ref C ∧ oe.dict = some d ∧ oe.data = .fields vs ∧ vs[1]? = some .none
  dbig : h.objs.size ≤ d
  dne : d ≠ e
  ns : h'.Ns1 d (m2 v u)
theorem t_made (T : TTxt prog K mg C D fI) (M : L2.Mod K mg base) (hb : ∀ b o, base.get? b = some o → s.heap.get? b = some o) (hsz : base.objs.size ≤ s.heap.objs.size) {v u : Value} (hroom : A.depth + 1 < recursionLimit)
    (hq : ∀ h' tk e d, TMade s.heap h' e C d v u → R (.ok (.ret (.ref e))) { s with heap := h', toks := tk }) : codeAny (model prog w) A (.call (.ref C) ⟨[v, u], []⟩) R s := by
  obtain ⟨nm, q, N, bs, bm, sn, sub, ab, col, dd, k0, k1, k2, k3, k5, hC, hbm⟩ := T.cls
  have X : K.In s.heap := fun a o e => hb a o (M.kin a o e)
  obtain ⟨hp, g, dr, tk, os⟩ := s
  dsimp only at hb hsz X hq
  have k : ∀ b o, hp.get? b = some o → ((hp.push (kdv_tup [v, u])).push (excO C hp.objs.size)).get? b = some o := fun b o e => Heap.get?_push_of_some _ (Heap.get?_push_of_some _ e)
  have hget : ((hp.push (kdv_tup [v, u])).push (excO C hp.objs.size)).get? (hp.objs.size + 1) = some (excO C hp.objs.size) := by heap_get
  have hbx : base.get? (hp.objs.size + 1) = none := by
    cases e : base.get? (hp.objs.size + 1) with
    | none => rfl
    | some o =>
      have z := Heap.lt_size e
      exact absurd (Nat.lt_of_lt_of_le z hsz) (Nat.not_lt.mpr (Nat.le_succ _))
  refine call_own F.excBase_ValueError (fun X => refsVE_contains X bm hbm) (X _ _ hC) (looks_findIn X T.iC) (fun self => bind_fn X self T.tC) (two_fits v u) ?_
  refine t_init (s := ⟨(hp.push (kdv_tup [v, u])).push (excO C hp.objs.size), g, dr, tk, os⟩) T M (fun b o e => k b o (hb b o e)) hget hbx ?_ fun h' tk' dx ⟨k', ⟨t1, hx⟩, dn, dne, hns⟩ => ?_
  · show A.depth + 1 < recursionLimit
    exact hroom
  · have old : ∀ b o, hp.get? b = some o → h'.get? b = some o := fun b o e => k' b o (Nat.ne_of_lt (Nat.lt_succ_of_lt (Heap.lt_size e))) (k b o e)
    have z : hp.objs.size + 1 + 1 ≤ dx := by
      first
        | (simpa only [Heap.size_push] using dn)
        | exact dn
        | (have q := dn; rw [Heap.size_push, Heap.size_push] at q; exact q)
    exact ⟨rfl, hq h' tk' (hp.objs.size + 1) dx ⟨old, Nat.le_succ _, ⟨_, _, hx, rfl, rfl, rfl, rfl⟩, by omega, dne, hns⟩⟩
end
open L2 PySem.Spec
theorem relO_two {v u : V} {v' u' : Value} (r : RelV v v') (r' : RelV u u') (g : Str) : RelO (List.lookup g [(("number" : Str), v), (("reason" : Str), u)]) (m2 v' u' g) := by
  unfold m2
  by_cases h1 : g = ("reason" : Str)
  · subst h1
    rw [if_pos rfl]
    exact r'
  · rw [if_neg h1]
    by_cases h2 : g = ("number" : Str)
    · subst h2
      rw [if_pos rfl]
      exact r
    · rw [if_neg h2]
      have q1 : (g == ("number" : Str)) = false := by simpa using h2
      have q2 : (g == ("reason" : Str)) = false := by simpa using h1
      have q3 : List.lookup g [(("number" : Str), v), (("reason" : Str), u)] = none := by simp [List.lookup, q1, q2]
      rw [q3]
      trivial
/-- what is known of a class of errors with number and reason -/
structure TCls (P : Program) (K : PySem.W.Frag) (mg : Str → Option Value) (x : Str) (fl : List Str) (C D fI : Addr) : Prop where
  fl : fl = [("number" : Str), ("reason" : Str)]
  gC : mg x = some (.ref C)
  txt : TTxt P K mg C D fI
  xdb : (x == ("__debug__" : Str)) = false
theorem pmk_t {X : Cx} {T : Tb} {k : Nat} {x : Str} {C D fI : Addr} {a b : PySem.Expr} {ta : TA} {p pos : Pos} {lv : Nat} (hT : TCls X.prog X.K X.mg x (T.flds k) C D fI) (hr : Room lv X.A) (hlv : 1 ≤ lv) (ha : PA X [a, b] ta) (hg : Gl X x) (he : starEach (a :: [b]) X.env = (false, eval a X.env) :: starEach [b] X.env) (hpl : (backTo pos (starEach [b] X.env)).any (·.1) = false) :
    PMk X (.Call (.Name x p) [a, b] [] pos) (tMk T k C (fun σ H Q => ta σ H fun vs H1 => vs.length = 2 ∧ Q vs H1)) := by
  intro pins s σ H Q I h
  refine wpAny_Call_Name_kw (ld_glob I hg hT.gC ?_ hT.xdb)
  refine PySem.W.callWith_K (h₀ := X.base) I.ok.mod.kin hT.txt.kC (thn (ha.run pos pins s σ H _ I h) fun us s1 hh => ?_) he hpl
  obtain ⟨vs, H1, I1, r1, e1, q1⟩ := hh
  match vs, e1 with
  | [v, u], _ =>
    refine ⟨I1.kIn, ?_⟩
    cases r1 with
    | cons rv rn =>
      rename_i v' us'
      cases rn with
      | cons ru rn =>
        rename_i u' us''
        cases rn
        show wpAny _ _ (call (.ref C) [v', u']) _ _ _
        obtain ⟨hp, g, dr, tk, os⟩ := s1
        obtain ⟨mm, hnn, _⟩ := I1.loc
        refine wpAny_call (t_made (base := X.base) hT.txt I1.ok.mod I1.bk (Nat.le_trans (Nat.le_trans I1.ok.bsz I1.ok.above) (Nat.le_of_lt hnn.lt)) (by have := hr.dp; omega) fun h' tk' e d M => ?_)
        show L2.MkP X pins σ Q (.ref e) ⟨h', g, dr, tk', os⟩
        obtain ⟨oe, fv, hoe, hc, hd, hdat, h1⟩ := M.obj
        have hns := M.ns
        obtain ⟨G', g1, g2⟩ := restrict h' fun b => decide (b ≠ e)
        have gk : ∀ b, b ≠ e → G'.get? b = h'.get? b := fun b hb => g1 b (decide_eq_true hb)
        have ge : G'.get? e = none := g2 e (by simp)
        have old : ∀ b o, hp.get? b = some o → G'.get? b = some o := fun b o q => (gk b (Nat.ne_of_lt (Nat.lt_of_lt_of_le (Heap.lt_size q) M.new))).trans (M.old b o q)
        have ob : ObjOk X.prog X.w (upd H1 d (.xd [("number", v), ("reason", u)])) G' d (.xd [("number", v), ("reason", u)]) :=
          ⟨_, hns.at (fun o q => (gk d M.dne).trans q), fun y => relO_two rv ru y⟩
        have J : Inv X pins σ (upd H1 d (.xd [("number", v), ("reason", u)])) ⟨G', g, dr, tk', os⟩ := I1.laid (t' := tk') old M.dbig ob
        have q2 := q1 d (I1.hok.fresh M.dbig)
        rw [hT.fl] at q2
        refine ⟨e, oe, fv, ⟨G', g, dr, tk', os⟩, _, .ref C, some d, rfl, J, fun b o q => ?_, ge, hoe, ⟨hc, hd⟩, hdat, h1, ?_, rfl, I1.bare, raises_own hT.txt.exC hT.txt.tyC, q2⟩
        · by_cases hb : b = e
          · have q' : G'.get? b = some o := q
            rw [hb, ge] at q'; cases q'
          · exact (gk b hb).symm.trans q
        · rw [upd_ne (Ne.symm M.dne)]
          exact I1.hok.fresh M.new
theorem spliced_len2 {M : Model} {A : Around} {x y : Sem Value} {Q : List Value → Shared → Prop} {E : Value → Shared → Prop} {s : Shared} (h : wpAny M A (spliced [(false, x), (false, y)]) Q E s) : wpAny M A (spliced [(false, x), (false, y)]) (fun vs s' => vs.length = 2 ∧ Q vs s') E s := fun Γ p hΓ => by
  have h := h Γ p hΓ
  rw [spliced, spliced, spliced] at h ⊢
  simp only [Bool.false_eq_true, if_false, Sem.wp_bind', Sem.wp_pure', Sem.wp_holding] at h ⊢
  refine Sem.wp_mono M Γ _ (fun v p' s' h' => ?_) (fun _ _ _ h' => h') _ _ h
  exact Sem.wp_mono M Γ _ (fun v p' s' h' => ⟨rfl, h'⟩) (fun _ _ _ h' => h') _ _ h'
theorem mkp_of2 {P : Program} {w : World} {K : PySem.W.Frag} {mg : Str → Option Value} {base : Heap} {T : Tb} (h : ∀ (k : Nat) (x : Str), T.cls[k]? = some x → T.flds k ≠ [] → (∃ (C D fI : Addr) (f : Str), RCls P K mg x (T.flds k) C D fI f) ∨ ∃ (C D fI : Addr), TCls P K mg x (T.flds k) C D fI) {lv : Nat} (hlv : 1 ≤ lv) : MkP P w K mg base T lv := by
  intro X e1 e2 e3 e4 e5 hr hgd hcalm k x hk hg e es p pos t hst hlen ha
  rcases h k x hk (fun z => by rw [z] at hlen; exact absurd hlen (by simp)) with ⟨C, D, fI, f, R⟩ | ⟨C, D, fI, R⟩
  · subst e1 e2 e3 e4 e5
    refine ⟨C, R.gC, ?_⟩
    have hes : es = [] := by
      rw [R.fl] at hlen
      cases es with
      | nil => rfl
      | cons a l => exact absurd hlen (by simp)
    subst hes
    have hs : nst e = true := by simpa using hst
    have ha' : PA X [e] (fun σ H Q => ∃ Q', t σ H Q' ∧ ∀ vs H', vs.length = 1 → Q' vs H' → Q vs H') := ⟨fun pos' pins s σ H Q I ⟨Q', q, qq⟩ => by
      have z := ha.run pos' pins s σ H Q' I q
      have e0 : backTo pos' (starEach [e] X.env) = [(false, eval e X.env)] := by rw [nst_ok hs]; rfl
      rw [e0] at z ⊢
      refine thn (spliced_one z) fun us s1 ⟨hl, vs, H1, I1, r1, q1⟩ => ⟨vs, H1, I1, r1, qq vs H1 ?_ q1⟩
      rw [← hl]
      exact Paired.length r1⟩
    have key := pmk_r (T := T) (k := k) (pos := pos) (p := p) R hr hlv ha' hg (nst_ok hs)
    intro pins s σ H Q I q
    refine key pins s σ H Q I ?_
    exact ⟨_, q, fun vs H' hl h' => ⟨hl, h'⟩⟩
  · subst e1 e2 e3 e4 e5
    refine ⟨C, R.gC, ?_⟩
    obtain ⟨e2, rfl⟩ : ∃ e2, es = [e2] := by
      rw [R.fl] at hlen
      cases es with
      | nil => exact absurd hlen (by simp)
      | cons a l =>
        cases l with
        | nil => exact ⟨a, rfl⟩
        | cons b l => exact absurd hlen (by simp)
    obtain ⟨hs, hs2⟩ : nst e = true ∧ nst e2 = true := by simpa using hst
    have e0 : ∀ pos', backTo pos' (starEach [e, e2] X.env) = backTo pos' [(false, eval e X.env), (false, eval e2 X.env)] := fun pos' => by rw [nst_ok hs, nst_ok hs2]; rfl
    have ha' : PA X [e, e2] (fun σ H Q => ∃ Q', t σ H Q' ∧ ∀ vs H', vs.length = 2 → Q' vs H' → Q vs H') := ⟨fun pos' pins s σ H Q I ⟨Q', q, qq⟩ => by
      have z := ha.run pos' pins s σ H Q' I q
      rw [e0] at z ⊢
      refine thn (spliced_len2 z) fun us s1 ⟨hl, vs, H1, I1, r1, q1⟩ => ⟨vs, H1, I1, r1, qq vs H1 ?_ q1⟩
      rw [← hl]
      exact Paired.length r1⟩
    have key := pmk_t (T := T) (k := k) (pos := pos) (p := p) R hr hlv ha' hg (nst_ok hs) (by rw [nst_ok hs2]; rfl)
    intro pins s σ H Q I q
    refine key pins s σ H Q I ?_
    exact ⟨_, q, fun vs H' hl h' => ⟨hl, h'⟩⟩
end Ev

/-! ## EvV -/
set_option Elab.async false
set_option linter.all false
set_option maxRecDepth 100000
set_option maxHeartbeats 4000000
/-! From what the written part says to PdOk; the end of a law. -/
namespace Ev
open PySem PySem.Spec PyProof.Rows L2
/-- what «except D» and isinstance(e, D) say of an exception of the class C -/
theorem two_ref {K : PySem.W.Frag} {C D : Addr} {b : Bool} (h1 : PySem.W.subIn K (.ref D) (.type "BaseException") = some true) (hdct : PySem.W.hasDictIn K D = true) (ht : PySem.W.typeIn K (.ref D) = some (.type "type")) (h4 : PySem.W.subIn K (.ref C) (.ref D) = some b) (hb : C = D → b = true) :
    PySem.W.exmOne K (.ref C) (.ref D) = some b ∧ PySem.W.kitOne K (.ref C) (.ref D) = some b := by
  have e := PySem.W.exm_ref h1 hdct ht h4
  refine ⟨e, ?_⟩
  have e1 : (PySem.W.subIn K (.ref D) (.type "BaseException") == some true) = true := by rw [h1] <;> rfl
  unfold PySem.W.exmOne at e
  rw [if_pos e1] at e
  unfold PySem.W.kitOne
  by_cases hc : C = D
  · rw [if_pos (by rw [hc]; exact beq_self_eq_true _), hb hc]
  · rw [if_neg (by simpa using hc)]
    exact e
inductive AllF (p : PD) (M : Nat) (K : PySem.W.Frag) : List FnD → Prop
  | nil : AllF p M K []
  | cons {f : FnD} {st : Stmt} {fs : List FnD} : DefF K f.name st → DefT p M f st → AllF p M K fs → AllF p M K (f :: fs)
theorem AllF.get {p : PD} {M : Nat} {K : PySem.W.Frag} : ∀ {fs : List FnD} {k : Nat} {f : FnD}, AllF p M K fs → fs[k]? = some f → ∃ st, DefF K f.name st ∧ DefT p M f st
  | _, 0, _, .cons a b c, h => by
    simp at h
    subst h
    exact ⟨_, a, b⟩
  | _, k + 1, f, .cons a b c, h => AllF.get (k := k) c (by simpa using h)
  | _, _, _, .nil, h => by simp at h
structure ClsF (K : PySem.W.Frag) (x : Str) (fl : List Str) (C : Addr) : Prop where
  ns : PySem.W.nsIn K mainGlobals x = some (some (.ref C))
  ok : ClsOk K C fl
theorem clsF_mk {K : PySem.W.Frag} {x : Str} {fl : List Str} {C : Addr} (ns : PySem.W.nsIn K mainGlobals x = some (some (.ref C))) (ga : PySem.W.findIn K (.ref C) "__getattribute__" = some (some (.builtin "BaseException.__getattribute__"))) (gg : PySem.W.findIn K (.ref C) "__getattr__" = some none)
    (exC : PySem.W.subIn K (.ref C) (.type "BaseException") = some true) (hdC : PySem.W.hasDictIn K C = true) (no : ∀ f, f ∈ fl → PySem.W.findIn K (.ref C) f = some none) (nd : fl.Nodup) (ha : PySem.W.findIn K (.ref C) "__class__" = some (some (.builtin "object.__class__")))
    (hn : PySem.W.specialIn K (.builtin "object.__class__") "__get__" = some (some (.builtin "getset_descriptor.__get__"))) (ht : PySem.W.takesIn K (.builtin "object.__class__") = some true) (hm : PySem.W.mroIn K C (.type "object") = some true) : ClsF K x fl C := by
  obtain ⟨cd, hc, _⟩ := PySem.W.any_some hdC
  exact ⟨ns, ⟨⟨ga, gg, exC, hdC⟩, no, nd, by rw [hc]; rfl, ha, hn, ht, hm⟩⟩
structure MkF (P : Program) (K : PySem.W.Frag) (x : Str) (fl : List Str) (C D fI : Addr) (f : Str) : Prop where
  ns : PySem.W.nsIn K mainGlobals x = some (some (.ref C))
  fl : fl = [f]
  txt : RTxt P K (fun _ => none) f C D fI
  bnd : RBind f
  ne1 : f ≠ "self"
  ne2 : f ≠ "super"
  ne3 : f ≠ "__class__"
  ndb : (f == ("__debug__" : Str)) = false
  xdb : (x == ("__debug__" : Str)) = false
structure MkT (P : Program) (K : PySem.W.Frag) (x : Str) (fl : List Str) (C D fI : Addr) : Prop where
  ns : PySem.W.nsIn K mainGlobals x = some (some (.ref C))
  fl : fl = [("number" : Str), ("reason" : Str)]
  txt : TTxt P K (fun _ => none) C D fI
  xdb : (x == ("__debug__" : Str)) = false
structure Facts (p : PD) (M : Nat) (P : Program) (K : PySem.W.Frag) : Prop where
  names : p.T.fns = p.fs.map (·.name)
  defs : AllF p M K p.fs
  bis : ∀ x, x ∈ p.T.bis → PySem.W.nsIn K mainGlobals x = some none
  sup : PySem.W.nsIn K mainGlobals "super" = some none
  cst : ∀ (k : Nat) (x : Str), p.T.csts[k]? = some x → ∃ u v, PySem.W.nsIn K mainGlobals x = some (some u) ∧ RelV v u ∧ ∀ mg ρ N H, Rp K mg p.T ρ N H v (p.cst k)
  cls : ∀ c x, p.T.cls[c]? = some x → ∃ C, ClsF K x (p.T.flds c) C
  sub : ∀ c d x y C D, p.T.cls[c]? = some x → p.T.cls[d]? = some y → PySem.W.nsIn K mainGlobals x = some (some (.ref C)) → PySem.W.nsIn K mainGlobals y = some (some (.ref D)) → PySem.W.exmOne K (.ref C) (.ref D) = some (p.sub c d) ∧ PySem.W.kitOne K (.ref C) (.ref D) = some (p.sub c d)
  mkF : ∀ c x, p.T.cls[c]? = some x → p.T.flds c ≠ [] → (∃ C D fI f, MkF P K x (p.T.flds c) C D fI f) ∨ ∃ C D fI, MkT P K x (p.T.flds c) C D fI
  val : p.T.kin ≠ none → ∀ (c : Nat) (x : Str) (C : Addr), p.T.cls[c]? = some x → PySem.W.nsIn K mainGlobals x = some (some (.ref C)) → PySem.W.kitOne K (.ref C) (.type "ValueError") = some true
  kin : ∀ (nm : Str) (ks : List Nat), p.T.kin = some (nm, ks) → ∃ st n pl, DefF K nm st ∧ KinT p.T nm n pl ks st
theorem Facts.ok {p : PD} {M : Nat} {P : Program} {w : World} {K : PySem.W.Frag} {mg : Str → Option Value} {base h : Heap} (F : Facts p M P K) (X : K.In h) (G : h.Ns mainGlobals mg) : PdOk p M P w K mg base where
  names := F.names
  defs := fun k f hf => by
    obtain ⟨st, ⟨a, fd, n1, n2⟩, t⟩ := F.defs.get hf
    exact ⟨st, a, fd, PySem.W.mg_of X G n1, n2, t⟩
  cst := fun k x hk => by
    obtain ⟨u, v, n, r, q⟩ := F.cst k x hk
    exact ⟨u, v, PySem.W.mg_of X G n, r, q mg⟩
  bis := fun x hx => PySem.W.mg_none_of X G (F.bis x hx)
  kc := fun f => by
    refine ⟨rfl, fun c x hc => ?_, fun c d x y C D hc hd m1 m2 => ?_, fun hk c x C hc m1 => ?_⟩
    · obtain ⟨C, q⟩ := F.cls c x hc
      exact ⟨C, PySem.W.mg_of X G q.ns, q.ok⟩
    · obtain ⟨C', q1⟩ := F.cls c x hc
      obtain ⟨D', q2⟩ := F.cls d y hd
      have e1 := (PySem.W.mg_of X G q1.ns).symm.trans m1
      have e2 := (PySem.W.mg_of X G q2.ns).symm.trans m2
      cases e1
      cases e2
      exact F.sub c d x y _ _ hc hd q1.ns q2.ns
    · obtain ⟨C', q1⟩ := F.cls c x hc
      have e1 := (PySem.W.mg_of X G q1.ns).symm.trans m1
      cases e1
      exact F.val hk c x _ hc q1.ns
  kin := fun nm ks hk => by
    obtain ⟨st, n, pl, ⟨a, fd, n1, n2⟩, t⟩ := F.kin nm ks hk
    exact ⟨st, a, fd, n, pl, PySem.W.mg_of X G n1, n2, t⟩
  mkp := fun lv hlv => mkp_of2 (fun k x hk hfl => by
    rcases F.mkF k x hk hfl with ⟨C, D, fI, f, m⟩ | ⟨C, D, fI, m⟩
    · exact .inl ⟨C, D, fI, f, m.fl, PySem.W.mg_of X G m.ns, { m.txt with msup := PySem.W.mg_none_of X G F.sup }, m.bnd, m.ne1, m.ne2, m.ne3, m.ndb, m.xdb⟩
    · exact .inr ⟨C, D, fI, m.fl, PySem.W.mg_of X G m.ns, { m.txt with msup := PySem.W.mg_none_of X G F.sup }, m.xdb⟩) (Nat.le_trans (by decide) hlv)
/-- the law's def, entered with the script: the evaluator's answer is the promise -/
theorem pd_walk {p : PD} {M : Nat} {P : Program} {w : World} {K : PySem.W.Frag} {mg : Str → Option Value} {h : Heap} {fa : Addr} {x : Str} {k : Nat} {f : FnD} (m n : Nat) (F : Facts p M P K) (X : K.In h) (G : h.Ns mainGlobals mg) (hfa : mg f.name = some (.ref fa)) (hf : p.fs[k]? = some f) (hp : f.ps = [x]) :
    ∃ fd : FuncData, (∀ (s : Shared) (u : Value), BindsTo s fd ⟨[u], []⟩ [(x, u)]) ∧ ∀ base : Heap, K.In base → base.Ns mainGlobals mg → FnG P w K mg base (n + 8) fa fd [x] (spF K mg p.T 1 (p.run m n k)) := by
  obtain ⟨st, ⟨a, fd, n1, n2⟩, t⟩ := F.defs.get hf
  have e := hfa.symm.trans (PySem.W.mg_of X G n1)
  cases e
  refine ⟨fd, fun s u => ?_, fun base Xb Gb => ?_⟩
  · obtain ⟨oc, od, kV, doc, pm, an, cdv, ct, osl, e, _⟩ := n2.ex
    have z := t.bind kV doc pm an cdv ct [u] (by rw [hp]; rfl)
    rw [← e, hp] at z
    exact .of_eq z
  · have z := PdOk.all (F.ok (w := w) (base := base) Xb Gb) m n k f fa fd st hf hfa n2 t
    rw [hp] at z
    exact z
end Ev

/-! ## EvV2 -/
set_option Elab.async false
set_option linter.all false
set_option maxRecDepth 100000
set_option maxHeartbeats 4000000
/-! The law's own promise, from a run of the evaluator. -/
namespace Ev
open PySem PySem.Spec PyProof.Rows L2
/-- law(script): True -/
def spL (K : PySem.W.Frag) : Sp := fun vs H Q _ => ∃ (a : Addr) (ns : List Int), vs = [.ref a] ∧ ns.length ≤ 63 ∧ SqL K H a (ns.map V.int) ∧ Only H ∧ ∀ H', Q (.bl true) H'
theorem rpL_ints {K : PySem.W.Frag} {mg : Str → Option Value} {T : Tb} {ρ : Nat → Addr} {N : Nat} {H : Hp} : ∀ ns : List Int, RpL K mg T ρ N H (ns.map V.int) (ns.map D.int)
  | [] => .nil
  | i :: r => .cons (.int i) (rpL_ints r)
theorem only_ro {K : PySem.W.Frag} {H : Hp} {a : Addr} {xs : List V} (h : SqL K H a xs) (o : Only H) : RoL K H a xs := by
  rcases h with (h | ⟨ob, h⟩) | h
  · rcases o a with z | ⟨ob, ys, z⟩
    · rw [z] at h
      cases h
    · rw [z] at h
      cases h
  · exact .inl ⟨ob, h⟩
  · exact .inr h
theorem spL_spF {p : PD} {K : PySem.W.Frag} {mg : Str → Option Value} {n k : Nat} (hrun : ∀ ns : List Int, ns.length ≤ 63 → ∃ m S', p.run m n k [.obj 0] [.ro (ns.map D.int)] = .ok (.bl true) S') {vs : List V} {H : Hp} {Q : VK} {E : XK} (h : spL K vs H Q E) :
    ∃ m, spF K mg p.T 1 (p.run m n k) vs H Q E := by
  obtain ⟨a, ns, rfl, hl, hS, hO, hQ⟩ := h
  obtain ⟨m, S', e⟩ := hrun ns hl
  refine ⟨m, fun _ => a, [.ro (ns.map D.int)], [.obj 0], rfl, .cons (.obj (by simp)) .nil, ⟨fun i j l l' hi hj _ => ?_, fun i l hi => ?_, fun i l hi => ?_⟩, ?_⟩
  · cases i with
    | zero => simp at hi
    | succ i => simp at hi
  · cases i with
    | zero => simp at hi
    | succ i => simp at hi
  · cases i with
    | zero =>
      simp at hi
      subst hi
      exact ⟨_, only_ro hS hO, rpL_ints ns⟩
    | succ i => simp at hi
  · rw [e]
    intro ρ' H' b _ _ r
    cases r
    exact hQ H'
theorem pd_law {p : PD} {M : Nat} {P : Program} {w : World} {K : PySem.W.Frag} {mg : Str → Option Value} {h : Heap} {fa : Addr} {x : Str} {n k : Nat} {f : FnD} (hrun : ∀ ns : List Int, ns.length ≤ 63 → ∃ m S', p.run m n k [.obj 0] [.ro (ns.map D.int)] = .ok (.bl true) S')
    (F : Facts p M P K) (X : K.In h) (G : h.Ns mainGlobals mg) (hfa : mg f.name = some (.ref fa)) (hf : p.fs[k]? = some f) (hp : f.ps = [x]) :
    ∃ fd : FuncData, (∀ (s : Shared) (u : Value), BindsTo s fd ⟨[u], []⟩ [(x, u)]) ∧ ∀ base : Heap, K.In base → base.Ns mainGlobals mg → FnG P w K mg base (n + 8) fa fd [x] (spL K) := by
  obtain ⟨st, ⟨a, fd, n1, n2⟩, t⟩ := F.defs.get hf
  have e := hfa.symm.trans (PySem.W.mg_of X G n1)
  cases e
  refine ⟨fd, fun s u => ?_, fun base Xb Gb => ?_⟩
  · obtain ⟨oc, od, kV, doc, pm, an, cdv, ct, osl, e, _⟩ := n2.ex
    have z := t.bind kV doc pm an cdv ct [u] (by rw [hp]; rfl)
    rw [← e, hp] at z
    exact .of_eq z
  · have z : ∀ m, FnG P w K mg base (n + 8) fa fd [x] (spF K mg p.T 1 (p.run m n k)) := fun m => by
      have z := PdOk.all (F.ok (w := w) (base := base) Xb Gb) m n k f fa fd st hf hfa n2 t
      rw [hp] at z
      exact z
    refine ⟨fun vs H Q E hh => ?_, fun A outer s H args us vs Q E h1 h2 h3 h4 h5 hh => ?_⟩
    · obtain ⟨a, ns, rfl, _⟩ := hh
      rfl
    · obtain ⟨m, q⟩ := spL_spF (mg := mg) hrun hh
      exact (z m).run A outer s H args us vs Q E h1 h2 h3 h4 h5 q
theorem spL_of {K : PySem.W.Frag} {H : Hp} {a : Addr} {ns : List Int} (hl : ns.length ≤ 63) (hO : Only H) (hS : SqL K H a (ns.map V.int)) : spL K [.ref a] H (fun v _ => v = .bl true) fun _ _ _ => False := ⟨a, ns, rfl, hl, hS, hO, fun _ => rfl⟩
end Ev

/-! ## EvV3 -/
set_option Elab.async false
set_option linter.all false
set_option maxRecDepth 100000
set_option maxHeartbeats 4000000
/-! Facts of the written part, one by one. -/
namespace Ev
open PySem PySem.Spec PyProof.Rows L2
theorem cst_int {K : PySem.W.Frag} {T : Tb} {x : Str} {i : Int} {t : Tok} {d : D} (n : PySem.W.nsIn K mainGlobals x = some (some (.int i t))) (hc : d = .int i) : ∃ u v, PySem.W.nsIn K mainGlobals x = some (some u) ∧ RelV v u ∧ ∀ mg ρ N H, Rp K mg T ρ N H v d :=
  ⟨_, .int i, n, ⟨t, rfl⟩, fun mg ρ N H => by rw [hc]; exact .int i⟩
theorem sub_of {K : PySem.W.Frag} {x y : Str} {C D C0 D0 : Addr} {b : Bool} (a1 : PySem.W.nsIn K mainGlobals x = some (some (.ref C0))) (a2 : PySem.W.nsIn K mainGlobals y = some (some (.ref D0))) (h1 : PySem.W.subIn K (.ref D0) (.type "BaseException") = some true) (hd : PySem.W.hasDictIn K D0 = true)
    (ht : PySem.W.typeIn K (.ref D0) = some (.type "type")) (h4 : PySem.W.subIn K (.ref C0) (.ref D0) = some b) (hb : C0 = D0 → b = true) (n1 : PySem.W.nsIn K mainGlobals x = some (some (.ref C))) (n2 : PySem.W.nsIn K mainGlobals y = some (some (.ref D))) :
    PySem.W.exmOne K (.ref C) (.ref D) = some b ∧ PySem.W.kitOne K (.ref C) (.ref D) = some b := by
  cases a1.symm.trans n1
  cases a2.symm.trans n2
  exact two_ref h1 hd ht h4 hb
theorem mkF_mk {P : Program} {K : PySem.W.Frag} {x f : Str} {fl : List Str} {C D fI cda cc : Addr} {nm q : Str} {N : Addr} {bs bm : List Value} {sn : List Str} {sub : List Value} {ab : Bool} {col : Option Bool} {dd : Option Addr} {k0 k1 k2 k3 k5 : Option Value}
    {oc : Value} {od : Option Addr} {qual : Str} {doc pm : Value} {an : Option Addr} {ct : Value} {osl : Array (Option Value)} {p1 p2 q1 q2 q3 q4 q5 q6 q7 q8 q9 q10 : Pos} {cl : Value} {cld : Option Addr} {csl : Array (Option Value)} {ccl : Value} {cdd : Option Addr} {vs : Array Value} {ccs : Array (Option Value)} {file : Str} {tf : Tok}
    (ns : PySem.W.nsIn K mainGlobals x = some (some (.ref C)))
    (lC : K.lookup C = some (excClassObj nm q C N bs bm true sn sub ab col dd k0 k1 k2 k3 k5 "ValueError.__new__"))
    (iC : PySem.W.findIn K (.ref C) "__init__" = some (some (.ref fI)))
    (lI : K.lookup fI = some ⟨oc, od, .func (PySem.W.fnX "__init__" qual (rA f p1 p2) (rB f q1 q2 q3 q4 q5 q6 q7 q8 q9 q10) (rS f) [("__class__", cc)] .none .none doc pm an (.ref cda) ct), osl⟩)
    (cI : PySem.W.codeIn K (.ref cda) qual = true)
    (lc : K.lookup cc = some ⟨cl, cld, .cell (some (.ref D)), csl⟩)
    (la : K.lookup cda = some ⟨ccl, cdd, .fields vs, ccs⟩)
    (sa : PySem.W.findIn K (.ref C) "__setattr__" = some (some (.builtin "object.__setattr__"))) (no : PySem.W.findIn K (.ref C) f = some none) (tC : PySem.W.typeIn K (.ref fI) = some (.type "function")) (kC : PySem.W.keepIn K (.ref C) = true)
    (exC : PySem.W.subIn K (.ref C) (.type "BaseException") = some true) (tyC : PySem.W.typeIn K (.ref C) = some (.type "type")) (hD : PySem.W.hasDictIn K D = true) (subD : PySem.W.mroIn K C (.ref D) = some true)
    (sup : PySem.W.ks_superIn K C D "__init__" = some (some (.builtin "ValueError.__init__"))) (opq : PySem.W.nsIn K cStatics "thirdparty.any" = some none) (subB : PySem.W.subIn K (.ref C) (.type "ValueError") = some true)
    (top : (P.main.scope.names.lookup ("super" : Str)).isSome = false) (hbm : PySem.HandSPX.refsVE bm = true) (hvs : vs[2]? = some (.str file tf)) (hfile : ((P.main.file : Str) == file) = true) (hpos : (q3.endLine == q5.line) = true)
    (hfl : fl = [f]) (bnd : RBind f) (ne1 : f ≠ "self") (ne2 : f ≠ "super") (ne3 : f ≠ "__class__") (ndb : (f == ("__debug__" : Str)) = false) (xdb : (x == ("__debug__" : Str)) = false) : ∃ C D fI f, MkF P K x fl C D fI f := by
  obtain ⟨cd, hc, _⟩ := PySem.W.any_some hD
  exact ⟨C, D, fI, f, ns, hfl, ⟨⟨nm, q, N, bs, bm, sn, sub, ab, col, dd, k0, k1, k2, k3, k5, lC, hbm⟩, sa, no, iC, tC, kC, exC, tyC, by rw [hc]; rfl, subD, sup, opq, subB, rfl, top,
    oc, od, qual, doc, pm, an, ct, osl, cda, cc, p1, p2, q1, q2, q3, q4, q5, q6, q7, q8, q9, q10, lI, cI, ⟨cl, cld, csl, lc⟩, ccl, cdd, vs, ccs, file, tf, la, hvs, hfile, hpos⟩, bnd, ne1, ne2, ne3, ndb, xdb⟩
theorem mkT_mk {P : Program} {K : PySem.W.Frag} {x : Str} {fl : List Str} {C D fI cda cc : Addr} {nm q : Str} {N : Addr} {bs bm : List Value} {sn : List Str} {sub : List Value} {ab : Bool} {col : Option Bool} {dd : Option Addr} {k0 k1 k2 k3 k5 : Option Value}
    {oc : Value} {od : Option Addr} {qual : Str} {doc pm : Value} {an : Option Addr} {ct : Value} {osl : Array (Option Value)} {p1 p2 p3 q1 q2 q3 q4 q5 q6 q7 q8 q9 q10 q11 q12 q13 q14 q15 : Pos} {cl : Value} {cld : Option Addr} {csl : Array (Option Value)} {ccl : Value} {cdd : Option Addr} {vs : Array Value} {ccs : Array (Option Value)} {file : Str} {tf : Tok}
    (ns : PySem.W.nsIn K mainGlobals x = some (some (.ref C)))
    (lC : K.lookup C = some (excClassObj nm q C N bs bm true sn sub ab col dd k0 k1 k2 k3 k5 "ValueError.__new__"))
    (iC : PySem.W.findIn K (.ref C) "__init__" = some (some (.ref fI)))
    (lI : K.lookup fI = some ⟨oc, od, .func (PySem.W.fnX "__init__" qual (tA p1 p2 p3) (tBd q1 q2 q3 q4 q5 q6 q7 q8 q9 q10 q11 q12 q13 q14 q15) tSc [("__class__", cc)] .none .none doc pm an (.ref cda) ct), osl⟩)
    (cI : PySem.W.codeIn K (.ref cda) qual = true)
    (lc : K.lookup cc = some ⟨cl, cld, .cell (some (.ref D)), csl⟩)
    (la : K.lookup cda = some ⟨ccl, cdd, .fields vs, ccs⟩)
    (sa : PySem.W.findIn K (.ref C) "__setattr__" = some (some (.builtin "object.__setattr__"))) (no : PySem.W.findIn K (.ref C) "number" = some none) (no2 : PySem.W.findIn K (.ref C) "reason" = some none) (tC : PySem.W.typeIn K (.ref fI) = some (.type "function")) (kC : PySem.W.keepIn K (.ref C) = true)
    (exC : PySem.W.subIn K (.ref C) (.type "BaseException") = some true) (tyC : PySem.W.typeIn K (.ref C) = some (.type "type")) (hD : PySem.W.hasDictIn K D = true) (subD : PySem.W.mroIn K C (.ref D) = some true)
    (sup : PySem.W.ks_superIn K C D "__init__" = some (some (.builtin "ValueError.__init__"))) (opq : PySem.W.nsIn K cStatics "thirdparty.any" = some none) (subB : PySem.W.subIn K (.ref C) (.type "ValueError") = some true)
    (top : (P.main.scope.names.lookup ("super" : Str)).isSome = false) (hbm : PySem.HandSPX.refsVE bm = true) (hvs : vs[2]? = some (.str file tf)) (hfile : ((P.main.file : Str) == file) = true) (hpos : (q3.endLine == q5.line) = true)
    (hfl : fl = [("number" : Str), ("reason" : Str)]) (xdb : (x == ("__debug__" : Str)) = false) : ∃ C D fI, MkT P K x fl C D fI := by
  obtain ⟨cd, hc, _⟩ := PySem.W.any_some hD
  exact ⟨C, D, fI, ns, hfl, ⟨⟨nm, q, N, bs, bm, sn, sub, ab, col, dd, k0, k1, k2, k3, k5, lC, hbm⟩, sa, no, no2, iC, tC, kC, exC, tyC, by rw [hc]; rfl, subD, sup, opq, subB, rfl, top,
    oc, od, qual, doc, pm, an, ct, osl, cda, cc, p1, p2, p3, q1, q2, q3, q4, q5, q6, q7, q8, q9, q10, q11, q12, q13, q14, q15, lI, cI, ⟨cl, cld, csl, lc⟩, ccl, cdd, vs, ccs, file, tf, la, hvs, hfile, hpos⟩, xdb⟩
theorem val_of {K : PySem.W.Frag} {x : Str} {C C0 : Addr} (a1 : PySem.W.nsIn K mainGlobals x = some (some (.ref C0))) (h : PySem.W.subIn K (.ref C0) (.type "ValueError") = some true) (n1 : PySem.W.nsIn K mainGlobals x = some (some (.ref C))) : PySem.W.kitOne K (.ref C) (.type "ValueError") = some true := by
  cases a1.symm.trans n1
  unfold PySem.W.kitOne
  rw [if_neg (by simp)]
  unfold PySem.W.kitCls
  have e : PySem.W.kitMeta "ValueError" = true := by decide +kernel
  dsimp only
  rw [if_pos e]
  exact h
end Ev

/-! ## K00D -/
set_option Elab.async false
set_option linter.all false
set_option maxRecDepth 100000
set_option maxHeartbeats 8000000

/-! The program and the law as data of the small syntax; printed by genlaw.py. -/
namespace K00
open PySem PySem.Spec PyProof.Rows L2 Ev
def topS (i : Nat) : Stmt := PySem.Challenge.pw_truedrawn_k00_errors_and_limits.main.body.getD i (.Pass ⟨0, 0, 0, 0⟩)
def tb : Tb := ⟨[("_law_draws" : Str), ("_law_more" : Str), ("_law_take" : Str), ("_law_one" : Str), ("_law_limits_right" : Str), ("_law_raise" : Str), ("_law_caught" : Str), ("_law_fields" : Str), ("law" : Str)], [("MAX_NUMBER" : Str), ("MAX_LEVELS" : Str), ("MAX_PART" : Str), ("MAX_DIGITS" : Str), ("MAX_STEPS" : Str), ("MAX_TEXT" : Str), ("MAX_LINES" : Str), ("MAX_REACHED" : Str), ("MAX_DEGREE" : Str), ("MAX_HALVES" : Str), ("MAX_RELATED" : Str), ("MAX_NAMED" : Str), ("MAX_LINKS" : Str), ("MAX_CELLS" : Str), ("MAX_TURNS" : Str), ("MAX_CORNERS" : Str), ("MAX_ROOTED" : Str), ("MAX_SPANNED" : Str), ("MAX_BEND" : Str), ("MAX_PACKED" : Str), ("MAX_GIVEN" : Str), ("MAX_RULED" : Str), ("MAX_TRIED" : Str), ("MAX_TERMS" : Str), ("MAX_FREE" : Str), ("MAX_PLACED" : Str), ("MAX_TESTED" : Str)], [("len" : Str), ("abs" : Str), ("repr" : Str), ("int" : Str), ("isinstance" : Str), ("range" : Str), ("ValueError" : Str)], [("DrawnError" : Str), ("ArgumentError" : Str), ("CheckError" : Str), ("PaperError" : Str), ("TooMany" : Str), ("TextError" : Str), ("LogError" : Str), ("CommandError" : Str)], fun k => match k with | 0 => [] | 1 => ["reason"] | 2 => ["reason"] | 3 => ["reason"] | 4 => ["reason"] | 5 => ["at"] | 6 => ["number", "reason"] | 7 => ["line"] | _ => [], some (("_law_kinds" : Str), [1, 3, 4, 2, 5, 6, 7])⟩
def f0 : FnD := ⟨"_law_draws", ["script"], ["script", "draws", "rest", "k", "mixed", "cell"], [
  .asg 1 (.lst []),
  .forr [5] true 0 [(.sl (.loc 0) none (some (.cst (.int 63))))] [.asg 2 (.bi "abs" [(.loc 5)]), .iff (.cmp .GtE (.loc 2) (.bin .Pow (.cst (.int 10)) (.cst (.int 18)))) [.forr [3] true 1 [(.cst (.int 60))] [.iff (.cmp .Gt (.loc 2) (.cst (.int 0))) [.ex (.app (.loc 1) (.bin .Mod (.bi "int" [(.loc 2)]) (.cst (.int 1009)))), .asg 2 (.bin .FloorDiv (.loc 2) (.cst (.int 1009)))] []]] [.asg 4 (.bin .Mod (.bi "int" [(.bin .Add (.bin .Mult (.loc 2) (.cst (.int 48271))) (.cst (.int 11)))]) (.cst (.int 2147483647))), .forr [3] true 1 [(.cst (.int 12))] [.asg 4 (.bin .Mod (.bi "int" [(.bin .Add (.bin .Add (.bin .Mult (.loc 4) (.cst (.int 16807))) (.bin .Mult (.cst (.int 69621)) (.loc 3))) (.cst (.int 5)))]) (.cst (.int 2147483629))), .ex (.app (.loc 1) (.bin .FloorDiv (.loc 4) (.cst (.int 1009))))]]],
  .ret (.loc 1)]⟩
def f1 : FnD := ⟨"_law_more", ["draws", "place"], ["draws", "place", "mixed", "k"], [
  .asg 2 (.bin .Mod (.bi "int" [(.bin .Add (.bin .Add (.bin .Mult (.loc 1) (.cst (.int 48271))) (.bi "len" [(.loc 0)])) (.cst (.int 11)))]) (.cst (.int 2147483629))),
  .forr [3] true 1 [(.cst (.int 3))] [.iff (.loc 0) [.asg 2 (.bin .Add (.loc 2) (.ix (.loc 0) (.bin .Mod (.bi "int" [(.bin .Add (.bin .Mult (.loc 1) (.bin .Add (.loc 3) (.cst (.int 5)))) (.loc 3))]) (.bi "len" [(.loc 0)]))))] [], .asg 2 (.bin .Mod (.bi "int" [(.bin .Add (.bin .Add (.bin .Mult (.loc 2) (.cst (.int 16807))) (.bin .Mult (.cst (.int 69621)) (.loc 3))) (.cst (.int 5)))]) (.cst (.int 2147483629)))],
  .ret (.bin .FloorDiv (.loc 2) (.cst (.int 1009)))]⟩
def f2 : FnD := ⟨"_law_take", ["draws", "at", "many"], ["draws", "at", "many", "place"], [
  .asg 3 (.ix (.loc 1) (.cst (.int 0))),
  .setix (.bin .Add (.loc 3) (.cst (.int 1))) (.loc 1) (.cst (.int 0)),
  .ret (.bin .Mod (.bi "int" [(.ite (.cmp .Lt (.loc 3) (.bi "len" [(.loc 0)])) (.ix (.loc 0) (.loc 3)) (.call 1 [(.loc 0), (.loc 3)]))]) (.loc 2))]⟩
def f3 : FnD := ⟨"_law_one", ["rows", "draws", "at"], ["rows", "draws", "at"], [
  .ret (.ix (.loc 0) (.call 2 [(.loc 1), (.loc 2), (.bi "len" [(.loc 0)])]))]⟩
def f4 : FnD := ⟨"_law_limits_right", [], ["told", "due"], [
  .asg 0 (.lst [(.gl 0), (.gl 1), (.gl 2), (.gl 3), (.gl 4), (.gl 5), (.gl 6), (.gl 7), (.gl 8)]),
  .asg 0 (.bin .Add (.loc 0) (.lst [(.gl 9), (.gl 10), (.gl 11), (.gl 12), (.gl 13), (.gl 14), (.gl 15), (.gl 16), (.gl 17)])),
  .asg 0 (.bin .Add (.loc 0) (.lst [(.gl 18), (.gl 19), (.gl 20), (.gl 21), (.gl 22), (.gl 23), (.gl 24), (.gl 25), (.gl 26)])),
  .asg 1 (.lst [(.cst (.int 1000000)), (.cst (.int 5)), (.cst (.int 1000000000000000000000000000000)), (.cst (.int 60)), (.cst (.int 40)), (.cst (.int 6000)), (.cst (.int 200)), (.cst (.int 3000)), (.cst (.int 8)), (.cst (.int 60)), (.cst (.int 9)), (.cst (.int 16)), (.cst (.int 40)), (.cst (.int 900)), (.cst (.int 1000)), (.cst (.int 60)), (.cst (.int 5)), (.cst (.int 8)), (.cst (.int 100000)), (.cst (.int 20000)), (.cst (.int 6)), (.cst (.int 200))]),
  .asg 1 (.bin .Add (.loc 1) (.lst [(.cst (.int 20000)), (.cst (.int 3000)), (.cst (.int 6)), (.cst (.int 16)), (.cst (.int 20000))])),
  .ret (.cmp .Eq (.bi "repr" [(.loc 0)]) (.bi "repr" [(.loc 1)]))]⟩
def f5 : FnD := ⟨"_law_raise", ["k", "one", "other"], ["k", "one", "other"], [
  .iff (.cmp .Eq (.loc 0) (.cst (.int 0))) [.rais 1 [(.loc 1)]] [],
  .iff (.cmp .Eq (.loc 0) (.cst (.int 1))) [.rais 3 [(.loc 1)]] [],
  .iff (.cmp .Eq (.loc 0) (.cst (.int 2))) [.rais 4 [(.loc 1)]] [],
  .iff (.cmp .Eq (.loc 0) (.cst (.int 3))) [.rais 2 [(.loc 1)]] [],
  .iff (.cmp .Eq (.loc 0) (.cst (.int 4))) [.rais 5 [(.loc 1)]] [],
  .iff (.cmp .Eq (.loc 0) (.cst (.int 5))) [.rais 6 [(.loc 1), (.loc 2)]] [],
  .rais 7 [(.loc 1)]]⟩
def f6 : FnD := ⟨"_law_caught", ["k", "one", "other"], ["k", "one", "other", "e"], [
  .tryr [.ex (.call 5 [(.loc 0), (.loc 1), (.loc 2)])] [⟨0, 3, [], none, .non, some [1, 3, 4, 2, 5, 6, 7]⟩],
  .ret (.lst [])]⟩
def f7 : FnD := ⟨"_law_fields", ["k", "one", "other"], ["k", "one", "other", "e"], [
  .tryr [.ex (.call 5 [(.loc 0), (.loc 1), (.loc 2)])] [⟨1, 3, [.f "reason"], none, .non, none⟩, ⟨3, 3, [.f "reason"], none, .non, none⟩, ⟨4, 3, [.f "reason"], none, .non, none⟩, ⟨2, 3, [.f "reason"], none, .non, none⟩, ⟨5, 3, [.f "at"], none, .non, none⟩, ⟨6, 3, [.f "number", .f "reason"], none, .non, none⟩, ⟨7, 3, [.f "line"], none, .non, none⟩],
  .ret (.cst .non)]⟩
def f8 : FnD := ⟨"law", ["script"], ["script", "draws", "at", "values", "one", "other", "k", "j"], [
  .asg 1 (.call 0 [(.loc 0)]),
  .asg 2 (.lst [(.cst (.int 0))]),
  .iff (.not (.call 4 [])) [.ret (.cst (.bl false))] [],
  .asg 3 (.lst [(.cst (.str "word")), (.cst (.str "")), (.cst (.str "form")), (.cst (.int 0)), (.cst (.int 17)), (.neg (.cst (.int 3))), (.cst .non), (.tup [(.cst (.str "a")), (.cst (.int 5))]), (.cst (.str "a line")), (.cst (.bl true))]),
  .forr [6] true 1 [(.cst (.int 7))] [.par 4 5 (.call 3 [(.loc 3), (.loc 1), (.loc 2)]) (.call 3 [(.loc 3), (.loc 1), (.loc 2)]), .iff (.cmp .NotEq (.call 6 [(.loc 6), (.loc 4), (.loc 5)]) (.lc (.cmp .Eq (.loc 7) (.loc 6)) [7] true 1 [(.cst (.int 7))] [] [7])) [.ret (.cst (.bl false))] [], .iff (.cmp .NotEq (.bi "repr" [(.call 7 [(.loc 6), (.loc 4), (.loc 5)])]) (.bi "repr" [(.ite (.cmp .Eq (.loc 6) (.cst (.int 5))) (.tup [(.loc 4), (.loc 5)]) (.tup [(.loc 4)]))])) [.ret (.cst (.bl false))] []],
  .ret (.cst (.bl true))]⟩
def fsL : List FnD := [f0, f1, f2, f3, f4, f5, f6, f7, f8]
def cstF : Nat → D := fun k => match k with | 0 => .int 1000000 | 1 => .int 5 | 2 => .int 1000000000000000000000000000000 | 3 => .int 60 | 4 => .int 40 | 5 => .int 6000 | 6 => .int 200 | 7 => .int 3000 | 8 => .int 8 | 9 => .int 60 | 10 => .int 9 | 11 => .int 16 | 12 => .int 40 | 13 => .int 900 | 14 => .int 1000 | 15 => .int 60 | 16 => .int 5 | 17 => .int 8 | 18 => .int 100000 | 19 => .int 20000 | 20 => .int 6 | 21 => .int 200 | 22 => .int 20000 | 23 => .int 3000 | 24 => .int 6 | 25 => .int 16 | 26 => .int 20000 | _ => .non
def subF : Nat → Nat → Bool := fun c d => match c, d with | 0, 0 => true | 1, 0 => true | 1, 1 => true | 2, 0 => true | 2, 2 => true | 3, 0 => true | 3, 3 => true | 4, 0 => true | 4, 4 => true | 5, 0 => true | 5, 5 => true | 6, 0 => true | 6, 6 => true | 7, 0 => true | 7, 7 => true | _, _ => false
def pd : PD := ⟨tb, fsL, cstF, subF⟩
abbrev fuel : Nat := 60
theorem t0 : DefT pd fuel f0 (topS 38) := ⟨⟨rfl, rfl, rfl, by decide +kernel, rfl, by decide +kernel, by decide +kernel⟩, fun _ _ _ _ _ _ us hl => match us, hl with | [_], _ => rfl, by kernel_rfl⟩
theorem t1 : DefT pd fuel f1 (topS 39) := ⟨⟨rfl, rfl, rfl, by decide +kernel, rfl, by decide +kernel, by decide +kernel⟩, fun _ _ _ _ _ _ us hl => match us, hl with | [_, _], _ => rfl, by kernel_rfl⟩
theorem t2 : DefT pd fuel f2 (topS 40) := ⟨⟨rfl, rfl, rfl, by decide +kernel, rfl, by decide +kernel, by decide +kernel⟩, fun _ _ _ _ _ _ us hl => match us, hl with | [_, _, _], _ => rfl, by kernel_rfl⟩
theorem t3 : DefT pd fuel f3 (topS 41) := ⟨⟨rfl, rfl, rfl, by decide +kernel, rfl, by decide +kernel, by decide +kernel⟩, fun _ _ _ _ _ _ us hl => match us, hl with | [_, _, _], _ => rfl, by kernel_rfl⟩
theorem t4 : DefT pd fuel f4 (topS 42) := ⟨⟨rfl, rfl, rfl, by decide +kernel, rfl, by decide +kernel, by decide +kernel⟩, fun _ _ _ _ _ _ us hl => match us, hl with | [], _ => rfl, by kernel_rfl⟩
theorem t5 : DefT pd fuel f5 (topS 43) := ⟨⟨rfl, rfl, rfl, by decide +kernel, rfl, by decide +kernel, by decide +kernel⟩, fun _ _ _ _ _ _ us hl => match us, hl with | [_, _, _], _ => rfl, by kernel_rfl⟩
theorem t6 : DefT pd fuel f6 (topS 45) := ⟨⟨rfl, rfl, rfl, by decide +kernel, rfl, by decide +kernel, by decide +kernel⟩, fun _ _ _ _ _ _ us hl => match us, hl with | [_, _, _], _ => rfl, by kernel_rfl⟩
theorem t7 : DefT pd fuel f7 (topS 46) := ⟨⟨rfl, rfl, rfl, by decide +kernel, rfl, by decide +kernel, by decide +kernel⟩, fun _ _ _ _ _ _ us hl => match us, hl with | [_, _, _], _ => rfl, by kernel_rfl⟩
theorem t8 : DefT pd fuel f8 (topS 47) := ⟨⟨rfl, rfl, rfl, by decide +kernel, rfl, by decide +kernel, by decide +kernel⟩, fun _ _ _ _ _ _ us hl => match us, hl with | [_], _ => rfl, by kernel_rfl⟩
theorem kt : KinT tb "_law_kinds" "e" "plain" [1, 3, 4, 2, 5, 6, 7] (topS 44) := ⟨⟨rfl, rfl, rfl, by decide +kernel, rfl, by decide +kernel, by decide +kernel⟩, fun _ _ _ _ _ _ us hl => match us, hl with | [_], _ => rfl, by kernel_rfl, by decide +kernel, by decide +kernel, by decide +kernel, by decide +kernel, by decide +kernel, by decide +kernel, by decide +kernel⟩
end K00

/-! ## K00E -/
set_option Elab.async false
set_option linter.all false
set_option maxRecDepth 100000
set_option maxHeartbeats 4000000
set_option pp.maxSteps 400
/-! Equations of the evaluator, for simp (my own text). -/
namespace K00
open Ev PySem L2

def lk (o : Option (Option D)) (S : Sto) : R D := match o with
  | some (some d) => .ok d S
  | _ => .bad
theorem lk_some (d S) : lk (some (some d)) S = .ok d S := of_eq_true (eq_self _)
def tru (S : Sto) (d : D) : R D := match truD S d with
  | some b => .ok (.bl b) S
  | none => .bad
theorem tru_bl (S b) : tru S (.bl b) = .ok (.bl b) S := of_eq_true (eq_self _)
theorem tru_int (S i) : tru S (.int i) = .ok (.bl (i != 0)) S := of_eq_true (eq_self _)
theorem tru_non (S) : tru S .non = .ok (.bl false) S := of_eq_true (eq_self _)
theorem tru_tup (S l) : tru S (.tup l) = .ok (.bl (!l.isEmpty)) S := of_eq_true (eq_self _)
def isB (S : Sto) (d : D) : R D := match d with
  | .bl b => .ok (.bl b) S
  | _ => .bad
def notB (S : Sto) (d : D) : R D := match d with
  | .bl b => .ok (.bl (!b)) S
  | _ => .bad
def negI (S : Sto) (d : D) : R D := match d with
  | .int i => .ok (.int (-i)) S
  | _ => .bad
def isO (S : Sto) (o : Option Bool) : R D := match o with
  | some b => .ok (.bl b) S
  | none => .bad
theorem isO_some (S b) : isO S (some b) = .ok (.bl b) S := of_eq_true (eq_self _)
def br {α : Type} (d : D) (a b z : α) : α := match d with
  | .bl true => a
  | .bl false => b
  | _ => z
theorem isB_bl (S b) : isB S (.bl b) = .ok (.bl b) S := of_eq_true (eq_self _)
theorem notB_bl (S b) : notB S (.bl b) = .ok (.bl (!b)) S := of_eq_true (eq_self _)
theorem negI_int (S i) : negI S (.int i) = .ok (.int (-i)) S := of_eq_true (eq_self _)

def gtI (S : Sto) (d : D) : R (Option Int) := match d with
  | .int i => .ok (some i) S
  | _ => .bad
theorem gtI_int (S i) : gtI S (.int i) = .ok (some i) S := of_eq_true (eq_self _)

def psh (k : Nat) (y : D) (S2 : Sto) : R D := match S2[k]? with
  | some (.lst l) => if l.length < LIM then .ok .non (S2.set k (.lst (l ++ [y]))) else .bad
  | _ => .bad
theorem psh_ok {k y} {S2 : Sto} {l} (h : S2[k]? = some (.lst l)) (hl : l.length < LIM) : psh k y S2 = .ok .non (S2.set k (.lst (l ++ [y]))) := by
  unfold psh
  rw [h]
  exact if_pos hl
def kT (r : R (List D))  : R D := r.bind fun l S1 => newT S1 l
theorem kT_o0 (l : List D)  (S : Sto) : kT (.ok l S)  = newT S l := of_eq_true (eq_self _)
theorem kT_x (cc : Nat) (fs : List D) (S : Sto)  : kT (.exc cc fs S)  = .exc cc fs S := of_eq_true (eq_self _)
def kL (r : R (List D))  : R D := r.bind fun l S1 => new S1 l
theorem kL_o0 (l : List D)  (S : Sto) : kL (.ok l S)  = new S l := of_eq_true (eq_self _)
theorem kL_x (cc : Nat) (fs : List D) (S : Sto)  : kL (.exc cc fs S)  = .exc cc fs S := of_eq_true (eq_self _)
def kB2 (r : R D) (op : Operator) (x : D) : R D := r.bind fun y S2 => binD op x y S2
theorem kB2_o0 (y : D) (op : Operator) (x : D) (S : Sto) : kB2 (.ok y S) op x = binD op x y S := of_eq_true (eq_self _)
theorem kB2_x (cc : Nat) (fs : List D) (S : Sto) (op : Operator) (x : D) : kB2 (.exc cc fs S) op x = .exc cc fs S := of_eq_true (eq_self _)
def kB1 (r : R D) (Γ : Ev.Ctx) (n : Nat) (op : Operator) (b : Ex) (fr : Frm) : R D := r.bind fun x S1 => kB2 (evB Γ n false b fr S1) op x
theorem kB1_o0 (x : D) (Γ : Ev.Ctx) (n : Nat) (op : Operator) (b : Ex) (fr : Frm) (S : Sto) : kB1 (.ok x S) Γ n op b fr = kB2 (evB Γ n false b fr S) op x := of_eq_true (eq_self _)
theorem kB1_x (cc : Nat) (fs : List D) (S : Sto) (Γ : Ev.Ctx) (n : Nat) (op : Operator) (b : Ex) (fr : Frm) : kB1 (.exc cc fs S) Γ n op b fr = .exc cc fs S := of_eq_true (eq_self _)
def kN (r : R D)  : R D := r.bind fun x S1 => negI S1 x
theorem kN_o0 (x : D)  (S : Sto) : kN (.ok x S)  = negI S x := of_eq_true (eq_self _)
theorem kN_x (cc : Nat) (fs : List D) (S : Sto)  : kN (.exc cc fs S)  = .exc cc fs S := of_eq_true (eq_self _)
def kNb (r : R D)  : R D := r.bind fun x S1 => notB S1 x
theorem kNb_o0 (x : D)  (S : Sto) : kNb (.ok x S)  = notB S x := of_eq_true (eq_self _)
theorem kNb_x (cc : Nat) (fs : List D) (S : Sto)  : kNb (.exc cc fs S)  = .exc cc fs S := of_eq_true (eq_self _)
def kTr (r : R D)  : R D := r.bind fun x S1 => tru S1 x
theorem kTr_o0 (x : D)  (S : Sto) : kTr (.ok x S)  = tru S x := of_eq_true (eq_self _)
theorem kTr_x (cc : Nat) (fs : List D) (S : Sto)  : kTr (.exc cc fs S)  = .exc cc fs S := of_eq_true (eq_self _)
def kIb (r : R D)  : R D := r.bind fun x S1 => isB S1 x
theorem kIb_o0 (x : D)  (S : Sto) : kIb (.ok x S)  = isB S x := of_eq_true (eq_self _)
theorem kIb_x (cc : Nat) (fs : List D) (S : Sto)  : kIb (.exc cc fs S)  = .exc cc fs S := of_eq_true (eq_self _)
def kC2 (r : R D) (op : CmpOp) (x : D) : R D := r.bind fun y S2 => cmpD op x y S2
theorem kC2_o0 (y : D) (op : CmpOp) (x : D) (S : Sto) : kC2 (.ok y S) op x = cmpD op x y S := of_eq_true (eq_self _)
theorem kC2_x (cc : Nat) (fs : List D) (S : Sto) (op : CmpOp) (x : D) : kC2 (.exc cc fs S) op x = .exc cc fs S := of_eq_true (eq_self _)
def kC1 (r : R D) (Γ : Ev.Ctx) (n : Nat) (op : CmpOp) (b : Ex) (fr : Frm) : R D := r.bind fun x S1 => kC2 (evB Γ n false b fr S1) op x
theorem kC1_o0 (x : D) (Γ : Ev.Ctx) (n : Nat) (op : CmpOp) (b : Ex) (fr : Frm) (S : Sto) : kC1 (.ok x S) Γ n op b fr = kC2 (evB Γ n false b fr S) op x := of_eq_true (eq_self _)
theorem kC1_x (cc : Nat) (fs : List D) (S : Sto) (Γ : Ev.Ctx) (n : Nat) (op : CmpOp) (b : Ex) (fr : Frm) : kC1 (.exc cc fs S) Γ n op b fr = .exc cc fs S := of_eq_true (eq_self _)
def kH3 (r : R D) (Γ : Ev.Ctx) (n : Nat) (o2 : CmpOp) (y : D) (c : Ex) (fr : Frm) : R D := r.bind fun r S3 => br r (kC2 (evB Γ n false c fr S3) o2 y) (.ok (.bl false) S3) .bad
theorem kH3_o0  (Γ : Ev.Ctx) (n : Nat) (o2 : CmpOp) (y : D) (c : Ex) (fr : Frm) (S : Sto) : kH3 (.ok (.bl true) S) Γ n o2 y c fr = kC2 (evB Γ n false c fr S) o2 y := of_eq_true (eq_self _)
theorem kH3_o1  (Γ : Ev.Ctx) (n : Nat) (o2 : CmpOp) (y : D) (c : Ex) (fr : Frm) (S : Sto) : kH3 (.ok (.bl false) S) Γ n o2 y c fr = .ok (.bl false) S := of_eq_true (eq_self _)
theorem kH3_x (cc : Nat) (fs : List D) (S : Sto) (Γ : Ev.Ctx) (n : Nat) (o2 : CmpOp) (y : D) (c : Ex) (fr : Frm) : kH3 (.exc cc fs S) Γ n o2 y c fr = .exc cc fs S := of_eq_true (eq_self _)
def kH2 (r : R D) (Γ : Ev.Ctx) (n : Nat) (o1 : CmpOp) (o2 : CmpOp) (x : D) (c : Ex) (fr : Frm) : R D := r.bind fun y S2 => kH3 (cmpD o1 x y S2) Γ n o2 y c fr
theorem kH2_o0 (y : D) (Γ : Ev.Ctx) (n : Nat) (o1 : CmpOp) (o2 : CmpOp) (x : D) (c : Ex) (fr : Frm) (S : Sto) : kH2 (.ok y S) Γ n o1 o2 x c fr = kH3 (cmpD o1 x y S) Γ n o2 y c fr := of_eq_true (eq_self _)
theorem kH2_x (cc : Nat) (fs : List D) (S : Sto) (Γ : Ev.Ctx) (n : Nat) (o1 : CmpOp) (o2 : CmpOp) (x : D) (c : Ex) (fr : Frm) : kH2 (.exc cc fs S) Γ n o1 o2 x c fr = .exc cc fs S := of_eq_true (eq_self _)
def kH1 (r : R D) (Γ : Ev.Ctx) (n : Nat) (o1 : CmpOp) (o2 : CmpOp) (b : Ex) (c : Ex) (fr : Frm) : R D := r.bind fun x S1 => kH2 (evB Γ n false b fr S1) Γ n o1 o2 x c fr
theorem kH1_o0 (x : D) (Γ : Ev.Ctx) (n : Nat) (o1 : CmpOp) (o2 : CmpOp) (b : Ex) (c : Ex) (fr : Frm) (S : Sto) : kH1 (.ok x S) Γ n o1 o2 b c fr = kH2 (evB Γ n false b fr S) Γ n o1 o2 x c fr := of_eq_true (eq_self _)
theorem kH1_x (cc : Nat) (fs : List D) (S : Sto) (Γ : Ev.Ctx) (n : Nat) (o1 : CmpOp) (o2 : CmpOp) (b : Ex) (c : Ex) (fr : Frm) : kH1 (.exc cc fs S) Γ n o1 o2 b c fr = .exc cc fs S := of_eq_true (eq_self _)
def kA (r : R D) (f : Ex → Frm → Sto → R D) (es : List Ex) (fr : Frm) : R D := r.bind fun d S1 => br d (andT f es fr S1) (.ok (.bl false) S1) .bad
theorem kA_o0  (f : Ex → Frm → Sto → R D) (es : List Ex) (fr : Frm) (S : Sto) : kA (.ok (.bl true) S) f es fr = andT f es fr S := of_eq_true (eq_self _)
theorem kA_o1  (f : Ex → Frm → Sto → R D) (es : List Ex) (fr : Frm) (S : Sto) : kA (.ok (.bl false) S) f es fr = .ok (.bl false) S := of_eq_true (eq_self _)
theorem kA_x (cc : Nat) (fs : List D) (S : Sto) (f : Ex → Frm → Sto → R D) (es : List Ex) (fr : Frm) : kA (.exc cc fs S) f es fr = .exc cc fs S := of_eq_true (eq_self _)
def kO (r : R D) (f : Ex → Frm → Sto → R D) (es : List Ex) (fr : Frm) : R D := r.bind fun d S1 => br d (.ok (.bl true) S1) (orT f es fr S1) .bad
theorem kO_o0  (f : Ex → Frm → Sto → R D) (es : List Ex) (fr : Frm) (S : Sto) : kO (.ok (.bl true) S) f es fr = .ok (.bl true) S := of_eq_true (eq_self _)
theorem kO_o1  (f : Ex → Frm → Sto → R D) (es : List Ex) (fr : Frm) (S : Sto) : kO (.ok (.bl false) S) f es fr = orT f es fr S := of_eq_true (eq_self _)
theorem kO_x (cc : Nat) (fs : List D) (S : Sto) (f : Ex → Frm → Sto → R D) (es : List Ex) (fr : Frm) : kO (.exc cc fs S) f es fr = .exc cc fs S := of_eq_true (eq_self _)
def kI (r : R D) (Γ : Ev.Ctx) (n : Nat) (a : Ex) (b : Ex) (fr : Frm) : R D := r.bind fun d S1 => br d (evB Γ n false a fr S1) (evB Γ n false b fr S1) .bad
theorem kI_o0  (Γ : Ev.Ctx) (n : Nat) (a : Ex) (b : Ex) (fr : Frm) (S : Sto) : kI (.ok (.bl true) S) Γ n a b fr = evB Γ n false a fr S := of_eq_true (eq_self _)
theorem kI_o1  (Γ : Ev.Ctx) (n : Nat) (a : Ex) (b : Ex) (fr : Frm) (S : Sto) : kI (.ok (.bl false) S) Γ n a b fr = evB Γ n false b fr S := of_eq_true (eq_self _)
theorem kI_x (cc : Nat) (fs : List D) (S : Sto) (Γ : Ev.Ctx) (n : Nat) (a : Ex) (b : Ex) (fr : Frm) : kI (.exc cc fs S) Γ n a b fr = .exc cc fs S := of_eq_true (eq_self _)
def kX2 (r : R D) (x : D) : R D := r.bind fun y S2 => ixD x y S2
theorem kX2_o0 (y : D) (x : D) (S : Sto) : kX2 (.ok y S) x = ixD x y S := of_eq_true (eq_self _)
theorem kX2_x (cc : Nat) (fs : List D) (S : Sto) (x : D) : kX2 (.exc cc fs S) x = .exc cc fs S := of_eq_true (eq_self _)
def kX1 (r : R D) (Γ : Ev.Ctx) (n : Nat) (i : Ex) (fr : Frm) : R D := r.bind fun x S1 => kX2 (evB Γ n false i fr S1) x
theorem kX1_o0 (x : D) (Γ : Ev.Ctx) (n : Nat) (i : Ex) (fr : Frm) (S : Sto) : kX1 (.ok x S) Γ n i fr = kX2 (evB Γ n false i fr S) x := of_eq_true (eq_self _)
theorem kX1_x (cc : Nat) (fs : List D) (S : Sto) (Γ : Ev.Ctx) (n : Nat) (i : Ex) (fr : Frm) : kX1 (.exc cc fs S) Γ n i fr = .exc cc fs S := of_eq_true (eq_self _)
def kCl (r : R (List D)) (Γ : Ev.Ctx) (k : Nat) : R D := r.bind fun l S1 => Γ.fn k l S1
theorem kCl_o0 (l : List D) (Γ : Ev.Ctx) (k : Nat) (S : Sto) : kCl (.ok l S) Γ k = Γ.fn k l S := of_eq_true (eq_self _)
theorem kCl_x (cc : Nat) (fs : List D) (S : Sto) (Γ : Ev.Ctx) (k : Nat) : kCl (.exc cc fs S) Γ k = .exc cc fs S := of_eq_true (eq_self _)
def kBi (r : R (List D)) (b : String) : R D := r.bind fun l S1 => biD b l S1
theorem kBi_o0 (l : List D) (b : String) (S : Sto) : kBi (.ok l S) b = biD b l S := of_eq_true (eq_self _)
theorem kBi_x (cc : Nat) (fs : List D) (S : Sto) (b : String) : kBi (.exc cc fs S) b = .exc cc fs S := of_eq_true (eq_self _)
def kIs (r : R D) (t : String) : R D := r.bind fun x S1 => isO S1 (isiD S1 x t)
theorem kIs_o0 (x : D) (t : String) (S : Sto) : kIs (.ok x S) t = isO S (isiD S x t) := of_eq_true (eq_self _)
theorem kIs_x (cc : Nat) (fs : List D) (S : Sto) (t : String) : kIs (.exc cc fs S) t = .exc cc fs S := of_eq_true (eq_self _)
def kl2 (r : R (List D)) (d : D) : R (List D) := r.bind fun ds S2 => .ok (d :: ds) S2
theorem kl2_o0 (ds : List D) (d : D) (S : Sto) : kl2 (.ok ds S) d = .ok (d :: ds) S := of_eq_true (eq_self _)
theorem kl2_x (cc : Nat) (fs : List D) (S : Sto) (d : D) : kl2 (.exc cc fs S) d = .exc cc fs S := of_eq_true (eq_self _)
def kl1 (r : R D) (f : Ex → Frm → Sto → R D) (es : List Ex) (fr : Frm) : R (List D) := r.bind fun d S1 => kl2 (evL f es fr S1) d
theorem kl1_o0 (d : D) (f : Ex → Frm → Sto → R D) (es : List Ex) (fr : Frm) (S : Sto) : kl1 (.ok d S) f es fr = kl2 (evL f es fr S) d := of_eq_true (eq_self _)
theorem kl1_x (cc : Nat) (fs : List D) (S : Sto) (f : Ex → Frm → Sto → R D) (es : List Ex) (fr : Frm) : kl1 (.exc cc fs S) f es fr = .exc cc fs S := of_eq_true (eq_self _)
def kS3 (r : R (Option Int)) (x : D) (l : Option Int) : R D := r.bind fun h S3 => slD x l h S3
theorem kS3_o0 (h : Option Int) (x : D) (l : Option Int) (S : Sto) : kS3 (.ok h S) x l = slD x l h S := of_eq_true (eq_self _)
theorem kS3_x (cc : Nat) (fs : List D) (S : Sto) (x : D) (l : Option Int) : kS3 (.exc cc fs S) x l = .exc cc fs S := of_eq_true (eq_self _)
def kS2 (r : R (Option Int)) (Γ : Ev.Ctx) (n : Nat) (x : D) (hi : Option Ex) (fr : Frm) : R D := r.bind fun l S2 => kS3 (optI (evB Γ n false) hi fr S2) x l
theorem kS2_o0 (l : Option Int) (Γ : Ev.Ctx) (n : Nat) (x : D) (hi : Option Ex) (fr : Frm) (S : Sto) : kS2 (.ok l S) Γ n x hi fr = kS3 (optI (evB Γ n false) hi fr S) x l := of_eq_true (eq_self _)
theorem kS2_x (cc : Nat) (fs : List D) (S : Sto) (Γ : Ev.Ctx) (n : Nat) (x : D) (hi : Option Ex) (fr : Frm) : kS2 (.exc cc fs S) Γ n x hi fr = .exc cc fs S := of_eq_true (eq_self _)
def kS1 (r : R D) (Γ : Ev.Ctx) (n : Nat) (lo : Option Ex) (hi : Option Ex) (fr : Frm) : R D := r.bind fun x S1 => kS2 (optI (evB Γ n false) lo fr S1) Γ n x hi fr
theorem kS1_o0 (x : D) (Γ : Ev.Ctx) (n : Nat) (lo : Option Ex) (hi : Option Ex) (fr : Frm) (S : Sto) : kS1 (.ok x S) Γ n lo hi fr = kS2 (optI (evB Γ n false) lo fr S) Γ n x hi fr := of_eq_true (eq_self _)
theorem kS1_x (cc : Nat) (fs : List D) (S : Sto) (Γ : Ev.Ctx) (n : Nat) (lo : Option Ex) (hi : Option Ex) (fr : Frm) : kS1 (.exc cc fs S) Γ n lo hi fr = .exc cc fs S := of_eq_true (eq_self _)
def kR2 (r : R (Option Int)) (x : D) : R D := r.bind fun l S2 => revD x l S2
theorem kR2_o0 (l : Option Int) (x : D) (S : Sto) : kR2 (.ok l S) x = revD x l S := of_eq_true (eq_self _)
theorem kR2_x (cc : Nat) (fs : List D) (S : Sto) (x : D) : kR2 (.exc cc fs S) x = .exc cc fs S := of_eq_true (eq_self _)
def kR1 (r : R D) (Γ : Ev.Ctx) (n : Nat) (lo : Option Ex) (fr : Frm) : R D := r.bind fun x S1 => kR2 (optI (evB Γ n false) lo fr S1) x
theorem kR1_o0 (x : D) (Γ : Ev.Ctx) (n : Nat) (lo : Option Ex) (fr : Frm) (S : Sto) : kR1 (.ok x S) Γ n lo fr = kR2 (optI (evB Γ n false) lo fr S) x := of_eq_true (eq_self _)
theorem kR1_x (cc : Nat) (fs : List D) (S : Sto) (Γ : Ev.Ctx) (n : Nat) (lo : Option Ex) (fr : Frm) : kR1 (.exc cc fs S) Γ n lo fr = .exc cc fs S := of_eq_true (eq_self _)
def kG (r : R D)  : R (Option Int) := r.bind fun d S1 => gtI S1 d
theorem kG_o0 (d : D)  (S : Sto) : kG (.ok d S)  = gtI S d := of_eq_true (eq_self _)
theorem kG_x (cc : Nat) (fs : List D) (S : Sto)  : kG (.exc cc fs S)  = .exc cc fs S := of_eq_true (eq_self _)
def kCv (r : R D) (Γ : Ev.Ctx) (n : Nat) (es : List Ex) (fr : Frm) : R D := r.bind fun x S1 => match x with
  | .fn k => kCl (evL (evB Γ n false) es fr S1) Γ k
  | _ => .bad
theorem kCv_o0 (k : Nat) (Γ : Ev.Ctx) (n : Nat) (es : List Ex) (fr : Frm) (S : Sto) : kCv (.ok (.fn k) S) Γ n es fr = kCl (evL (evB Γ n false) es fr S) Γ k := of_eq_true (eq_self _)
theorem kCv_x (cc : Nat) (fs : List D) (S : Sto) (Γ : Ev.Ctx) (n : Nat) (es : List Ex) (fr : Frm) : kCv (.exc cc fs S) Γ n es fr = .exc cc fs S := of_eq_true (eq_self _)
def kPu (r : R D) (k : Nat) : R D := r.bind fun y S2 => psh k y S2
theorem kPu_o0 (y : D) (k : Nat) (S : Sto) : kPu (.ok y S) k = psh k y S := of_eq_true (eq_self _)
theorem kPu_x (cc : Nat) (fs : List D) (S : Sto) (k : Nat) : kPu (.exc cc fs S) k = .exc cc fs S := of_eq_true (eq_self _)
def apI (Γ : Ev.Ctx) (n k : Nat) (e : Ex) (fr : Frm) (S1 : Sto) (o : Option (List D)) : R D := match o with
  | some _ => kPu (evB Γ n false e fr S1) k
  | none => .bad
theorem apI_some (Γ n k e fr S1 l) : apI Γ n k e fr S1 (some l) = kPu (evB Γ n false e fr S1) k := of_eq_true (eq_self _)
def kAp (r : R D) (Γ : Ev.Ctx) (n : Nat) (e : Ex) (fr : Frm) : R D := r.bind fun x S1 => match x with
  | .obj k => apI Γ n k e fr S1 (items S1 k)
  | _ => .bad
theorem kAp_o0 (k : Nat) (Γ : Ev.Ctx) (n : Nat) (e : Ex) (fr : Frm) (S : Sto) : kAp (.ok (.obj k) S) Γ n e fr = apI Γ n k e fr S (items S k) := of_eq_true (eq_self _)
theorem kAp_x (cc : Nat) (fs : List D) (S : Sto) (Γ : Ev.Ctx) (n : Nat) (e : Ex) (fr : Frm) : kAp (.exc cc fs S) Γ n e fr = .exc cc fs S := of_eq_true (eq_self _)
def sro (o : Option Src) (S : Sto) : R Src := match o with
  | some s => .ok s S
  | none => .bad
theorem sro_some (s S) : sro (some s) S = .ok s S := of_eq_true (eq_self _)
def kIt (r : R (List D)) (itk : Nat) : R Src := r.bind fun xs S1 => sro (mkSrc S1 itk xs) S1
theorem kIt_o0 (xs : List D) (itk : Nat) (S : Sto) : kIt (.ok xs S) itk = sro (mkSrc S itk xs) S := of_eq_true (eq_self _)
theorem kIt_x (cc : Nat) (fs : List D) (S : Sto) (itk : Nat) : kIt (.exc cc fs S) itk = .exc cc fs S := of_eq_true (eq_self _)
def kLc (r : R Src) (Γ : Ev.Ctx) (n : Nat) (elt : Ex) (tg : List Nat) (one : Bool) (ifs : List Ex) (own : List Nat) (fr : Frm) : R D := r.bind fun src S1 => lcL src (tgt one tg) (ifsT (evB Γ n true) ifs) (evB Γ n false elt) S1.length n 0 (wipeF fr own) (S1 ++ [.lst []])
theorem kLc_o0 (src : Src) (Γ : Ev.Ctx) (n : Nat) (elt : Ex) (tg : List Nat) (one : Bool) (ifs : List Ex) (own : List Nat) (fr : Frm) (S : Sto) : kLc (.ok src S) Γ n elt tg one ifs own fr = lcL src (tgt one tg) (ifsT (evB Γ n true) ifs) (evB Γ n false elt) S.length n 0 (wipeF fr own) (S ++ [.lst []]) := of_eq_true (eq_self _)
theorem kLc_x (cc : Nat) (fs : List D) (S : Sto) (Γ : Ev.Ctx) (n : Nat) (elt : Ex) (tg : List Nat) (one : Bool) (ifs : List Ex) (own : List Nat) (fr : Frm) : kLc (.exc cc fs S) Γ n elt tg one ifs own fr = .exc cc fs S := of_eq_true (eq_self _)
def kc4 (r : R D) (src : Src) (tg : D → Frm → Option Frm) (t : Frm → Sto → R D) (e : Frm → Sto → R D) (k : Nat) (n : Nat) (i : Nat) (fr : Frm) : R D := r.bind fun _ S3 => lcL src tg t e k n (i + 1) fr S3
theorem kc4_o0 (d : D) (src : Src) (tg : D → Frm → Option Frm) (t : Frm → Sto → R D) (e : Frm → Sto → R D) (k : Nat) (n : Nat) (i : Nat) (fr : Frm) (S : Sto) : kc4 (.ok d S) src tg t e k n i fr = lcL src tg t e k n (i + 1) fr S := of_eq_true (eq_self _)
theorem kc4_x (cc : Nat) (fs : List D) (S : Sto) (src : Src) (tg : D → Frm → Option Frm) (t : Frm → Sto → R D) (e : Frm → Sto → R D) (k : Nat) (n : Nat) (i : Nat) (fr : Frm) : kc4 (.exc cc fs S) src tg t e k n i fr = .exc cc fs S := of_eq_true (eq_self _)
def kc3 (r : R D) (src : Src) (tg : D → Frm → Option Frm) (t : Frm → Sto → R D) (e : Frm → Sto → R D) (k : Nat) (n : Nat) (i : Nat) (fr : Frm) : R D := r.bind fun y S2 => kc4 (psh k y S2) src tg t e k n i fr
theorem kc3_o0 (y : D) (src : Src) (tg : D → Frm → Option Frm) (t : Frm → Sto → R D) (e : Frm → Sto → R D) (k : Nat) (n : Nat) (i : Nat) (fr : Frm) (S : Sto) : kc3 (.ok y S) src tg t e k n i fr = kc4 (psh k y S) src tg t e k n i fr := of_eq_true (eq_self _)
theorem kc3_x (cc : Nat) (fs : List D) (S : Sto) (src : Src) (tg : D → Frm → Option Frm) (t : Frm → Sto → R D) (e : Frm → Sto → R D) (k : Nat) (n : Nat) (i : Nat) (fr : Frm) : kc3 (.exc cc fs S) src tg t e k n i fr = .exc cc fs S := of_eq_true (eq_self _)
def kc2 (r : R D) (src : Src) (tg : D → Frm → Option Frm) (t : Frm → Sto → R D) (e : Frm → Sto → R D) (k : Nat) (n : Nat) (i : Nat) (fr : Frm) (fr1 : Frm) : R D := r.bind fun b S1 => br b (kc3 (noX (e fr1 S1)) src tg t e k n i fr) (lcL src tg t e k n (i + 1) fr S1) .bad
theorem kc2_o0  (src : Src) (tg : D → Frm → Option Frm) (t : Frm → Sto → R D) (e : Frm → Sto → R D) (k : Nat) (n : Nat) (i : Nat) (fr : Frm) (fr1 : Frm) (S : Sto) : kc2 (.ok (.bl true) S) src tg t e k n i fr fr1 = kc3 (noX (e fr1 S)) src tg t e k n i fr := of_eq_true (eq_self _)
theorem kc2_o1  (src : Src) (tg : D → Frm → Option Frm) (t : Frm → Sto → R D) (e : Frm → Sto → R D) (k : Nat) (n : Nat) (i : Nat) (fr : Frm) (fr1 : Frm) (S : Sto) : kc2 (.ok (.bl false) S) src tg t e k n i fr fr1 = lcL src tg t e k n (i + 1) fr S := of_eq_true (eq_self _)
theorem kc2_x (cc : Nat) (fs : List D) (S : Sto) (src : Src) (tg : D → Frm → Option Frm) (t : Frm → Sto → R D) (e : Frm → Sto → R D) (k : Nat) (n : Nat) (i : Nat) (fr : Frm) (fr1 : Frm) : kc2 (.exc cc fs S) src tg t e k n i fr fr1 = .exc cc fs S := of_eq_true (eq_self _)
def kc1 (o : Option Frm) (src : Src) (tg : D → Frm → Option Frm) (t : Frm → Sto → R D) (e : Frm → Sto → R D) (k : Nat) (n : Nat) (i : Nat) (fr : Frm) (S : Sto) : R D := match o with
  | some fr1 => kc2 (noX (t fr1 S)) src tg t e k n i fr fr1
  | none => .bad
theorem kc1_some (src : Src) (tg : D → Frm → Option Frm) (t : Frm → Sto → R D) (e : Frm → Sto → R D) (k : Nat) (n : Nat) (i : Nat) (fr : Frm) (fr1 : Frm) (S : Sto) : kc1 (some fr1) src tg t e k n i fr S = kc2 (noX (t fr1 S)) src tg t e k n i fr fr1 := of_eq_true (eq_self _)
def kc0 (o : Option (Option D)) (src : Src) (tg : D → Frm → Option Frm) (t : Frm → Sto → R D) (e : Frm → Sto → R D) (k : Nat) (n : Nat) (i : Nat) (fr : Frm) (S : Sto) : R D := match o with
  | some (some d) => kc1 (tg d fr) src tg t e k n i fr S
  | some none => .ok (.obj k) S
  | none => .bad
theorem kc0_some (src : Src) (tg : D → Frm → Option Frm) (t : Frm → Sto → R D) (e : Frm → Sto → R D) (k : Nat) (n : Nat) (i : Nat) (fr : Frm) (d : D) (S : Sto) : kc0 (some (some d)) src tg t e k n i fr S = kc1 (tg d fr) src tg t e k n i fr S := of_eq_true (eq_self _)
theorem kc0_end (src : Src) (tg : D → Frm → Option Frm) (t : Frm → Sto → R D) (e : Frm → Sto → R D) (k : Nat) (n : Nat) (i : Nat) (fr : Frm) (S : Sto) : kc0 (some none) src tg t e k n i fr S = .ok (.obj k) S := of_eq_true (eq_self _)
theorem lc_step (src : Src) (tg : D → Frm → Option Frm) (t : Frm → Sto → R D) (e : Frm → Sto → R D) (k : Nat) (n : Nat) (i : Nat) (fr : Frm) (S : Sto) : lcL src tg t e k (n+1) i fr S = kc0 (src.nth S i) src tg t e k n i fr S := by
  conv => lhs; unfold lcL
  cases h : src.nth S i with
  | none => rfl
  | some od =>
    cases od with
    | none => rfl
    | some d =>
      dsimp only [kc0]
      cases tg d fr with
      | none => rfl
      | some fr1 =>
        refine congrArg (R.bind _) (funext fun b => funext fun S1 => ?_)
        cases b <;> first | rfl | skip
        rename_i b
        cases b <;> first | rfl | skip
        refine congrArg (R.bind _) (funext fun y => funext fun S2 => ?_)
        unfold psh
        cases S2[k]? with
        | none => rfl
        | some mo =>
          cases mo with
          | ro l => rfl
          | lst l =>
            dsimp only
            split <;> rfl
def sA (r : R D) (i : Nat) (fr : Frm) : RS := r.toS fr fun d S1 => .nx (fr.set i (some d)) S1
theorem sA_o0 (d : D) (i : Nat) (fr : Frm) (S : Sto) : sA (.ok d S) i fr = .nx (fr.set i (some d)) S := of_eq_true (eq_self _)
theorem sA_x (cc : Nat) (fs : List D) (S : Sto) (i : Nat) (fr : Frm) : sA (.exc cc fs S) i fr = .exc cc fs fr S := of_eq_true (eq_self _)
def nxO (o : Option Frm) (S : Sto) : RS := match o with
  | some fr1 => .nx fr1 S
  | none => .bad
theorem nxO_some (fr1 S) : nxO (some fr1) S = .nx fr1 S := of_eq_true (eq_self _)
def sT (r : R D) (is : List Nat) (fr : Frm) : RS := r.toS fr fun d S1 => nxO (tgt false is d fr) S1
theorem sT_o0 (d : D) (is : List Nat) (fr : Frm) (S : Sto) : sT (.ok d S) is fr = nxO (tgt false is d fr) S := of_eq_true (eq_self _)
theorem sT_x (cc : Nat) (fs : List D) (S : Sto) (is : List Nat) (fr : Frm) : sT (.exc cc fs S) is fr = .exc cc fs fr S := of_eq_true (eq_self _)
def sP2 (r : R D) (i : Nat) (j : Nat) (x : D) (fr : Frm) : RS := r.toS fr fun y S2 => .nx ((fr.set i (some x)).set j (some y)) S2
theorem sP2_o0 (y : D) (i : Nat) (j : Nat) (x : D) (fr : Frm) (S : Sto) : sP2 (.ok y S) i j x fr = .nx ((fr.set i (some x)).set j (some y)) S := of_eq_true (eq_self _)
theorem sP2_x (cc : Nat) (fs : List D) (S : Sto) (i : Nat) (j : Nat) (x : D) (fr : Frm) : sP2 (.exc cc fs S) i j x fr = .exc cc fs fr S := of_eq_true (eq_self _)
def sP1 (r : R D) (Γ : Ev.Ctx) (n : Nat) (i : Nat) (j : Nat) (b : Ex) (fr : Frm) : RS := r.toS fr fun x S1 => sP2 (evB Γ n false b fr S1) i j x fr
theorem sP1_o0 (x : D) (Γ : Ev.Ctx) (n : Nat) (i : Nat) (j : Nat) (b : Ex) (fr : Frm) (S : Sto) : sP1 (.ok x S) Γ n i j b fr = sP2 (evB Γ n false b fr S) i j x fr := of_eq_true (eq_self _)
theorem sP1_x (cc : Nat) (fs : List D) (S : Sto) (Γ : Ev.Ctx) (n : Nat) (i : Nat) (j : Nat) (b : Ex) (fr : Frm) : sP1 (.exc cc fs S) Γ n i j b fr = .exc cc fs fr S := of_eq_true (eq_self _)
def stx (v x y : D) (fr : Frm) (S3 : Sto) : RS := match x, y with
      | .obj k, .int m => match S3[k]? with
        | some (.lst l) => match ixN l.length m with
          | some j => .nx fr (S3.set k (.lst (l.set j v)))
          | none => .bad
        | _ => .bad
      | _, _ => .bad
def sX3 (r : R D) (v : D) (x : D) (fr : Frm) : RS := r.toS fr fun y S3 => stx v x y fr S3
theorem sX3_o0 (y : D) (v : D) (x : D) (fr : Frm) (S : Sto) : sX3 (.ok y S) v x fr = stx v x y fr S := of_eq_true (eq_self _)
theorem sX3_x (cc : Nat) (fs : List D) (S : Sto) (v : D) (x : D) (fr : Frm) : sX3 (.exc cc fs S) v x fr = .exc cc fs fr S := of_eq_true (eq_self _)
def sX2 (r : R D) (Γ : Ev.Ctx) (n : Nat) (i : Ex) (v : D) (fr : Frm) : RS := r.toS fr fun x S2 => sX3 (evB Γ n false i fr S2) v x fr
theorem sX2_o0 (x : D) (Γ : Ev.Ctx) (n : Nat) (i : Ex) (v : D) (fr : Frm) (S : Sto) : sX2 (.ok x S) Γ n i v fr = sX3 (evB Γ n false i fr S) v x fr := of_eq_true (eq_self _)
theorem sX2_x (cc : Nat) (fs : List D) (S : Sto) (Γ : Ev.Ctx) (n : Nat) (i : Ex) (v : D) (fr : Frm) : sX2 (.exc cc fs S) Γ n i v fr = .exc cc fs fr S := of_eq_true (eq_self _)
def sX1 (r : R D) (Γ : Ev.Ctx) (n : Nat) (o : Ex) (i : Ex) (fr : Frm) : RS := r.toS fr fun v S1 => sX2 (evB Γ n false o fr S1) Γ n i v fr
theorem sX1_o0 (v : D) (Γ : Ev.Ctx) (n : Nat) (o : Ex) (i : Ex) (fr : Frm) (S : Sto) : sX1 (.ok v S) Γ n o i fr = sX2 (evB Γ n false o fr S) Γ n i v fr := of_eq_true (eq_self _)
theorem sX1_x (cc : Nat) (fs : List D) (S : Sto) (Γ : Ev.Ctx) (n : Nat) (o : Ex) (i : Ex) (fr : Frm) : sX1 (.exc cc fs S) Γ n o i fr = .exc cc fs fr S := of_eq_true (eq_self _)
def sG2 (r : R D) (i : Nat) (fr : Frm) : RS := r.toS fr fun z S2 => .nx (fr.set i (some z)) S2
theorem sG2_o0 (z : D) (i : Nat) (fr : Frm) (S : Sto) : sG2 (.ok z S) i fr = .nx (fr.set i (some z)) S := of_eq_true (eq_self _)
theorem sG2_x (cc : Nat) (fs : List D) (S : Sto) (i : Nat) (fr : Frm) : sG2 (.exc cc fs S) i fr = .exc cc fs fr S := of_eq_true (eq_self _)
def sG1 (r : R D) (op : Operator) (i : Nat) (x : D) (fr : Frm) : RS := r.toS fr fun y S1 => sG2 (iopD op x y S1) i fr
theorem sG1_o0 (y : D) (op : Operator) (i : Nat) (x : D) (fr : Frm) (S : Sto) : sG1 (.ok y S) op i x fr = sG2 (iopD op x y S) i fr := of_eq_true (eq_self _)
theorem sG1_x (cc : Nat) (fs : List D) (S : Sto) (op : Operator) (i : Nat) (x : D) (fr : Frm) : sG1 (.exc cc fs S) op i x fr = .exc cc fs fr S := of_eq_true (eq_self _)
def ops (op : Operator) (i : Nat) (e : Ex) (Γ : Ev.Ctx) (n : Nat) (fr : Frm) (S : Sto) (o : Option (Option D)) : RS := match o with
      | some (some x) => sG1 (evB Γ n false e fr S) op i x fr
      | _ => .bad
theorem ops_some (Γ : Ev.Ctx) (n : Nat) (fr : Frm) (S : Sto) (op i e x) : ops op i e Γ n fr S (some (some x)) = sG1 (evB Γ n false e fr S) op i x fr := of_eq_true (eq_self _)
def sE (r : R D) (fr : Frm) : RS := r.toS fr fun _ S1 => .nx fr S1
theorem sE_o0 (d : D) (fr : Frm) (S : Sto) : sE (.ok d S) fr = .nx fr S := of_eq_true (eq_self _)
theorem sE_x (cc : Nat) (fs : List D) (S : Sto) (fr : Frm) : sE (.exc cc fs S) fr = .exc cc fs fr S := of_eq_true (eq_self _)
def sR (r : R D) (fr : Frm) : RS := r.toS fr fun d S1 => .rt d S1
theorem sR_o0 (d : D) (fr : Frm) (S : Sto) : sR (.ok d S) fr = .rt d S := of_eq_true (eq_self _)
theorem sR_x (cc : Nat) (fs : List D) (S : Sto) (fr : Frm) : sR (.exc cc fs S) fr = .exc cc fs fr S := of_eq_true (eq_self _)
def sI (r : R D) (Γ : Ev.Ctx) (n : Nat) (a : List Sx) (b : List Sx) (fr : Frm) : RS := r.toS fr fun d S1 => br d (seqS (evS Γ n) a fr S1) (seqS (evS Γ n) b fr S1) .bad
theorem sI_o0  (Γ : Ev.Ctx) (n : Nat) (a : List Sx) (b : List Sx) (fr : Frm) (S : Sto) : sI (.ok (.bl true) S) Γ n a b fr = seqS (evS Γ n) a fr S := of_eq_true (eq_self _)
theorem sI_o1  (Γ : Ev.Ctx) (n : Nat) (a : List Sx) (b : List Sx) (fr : Frm) (S : Sto) : sI (.ok (.bl false) S) Γ n a b fr = seqS (evS Γ n) b fr S := of_eq_true (eq_self _)
theorem sI_x (cc : Nat) (fs : List D) (S : Sto) (Γ : Ev.Ctx) (n : Nat) (a : List Sx) (b : List Sx) (fr : Frm) : sI (.exc cc fs S) Γ n a b fr = .exc cc fs fr S := of_eq_true (eq_self _)
def sF (r : R Src) (Γ : Ev.Ctx) (n : Nat) (tg : List Nat) (one : Bool) (b : List Sx) (fr : Frm) : RS := r.toS fr fun src S1 => forL src (tgt one tg) (seqS (evS Γ n) b) n 0 fr S1
theorem sF_o0 (src : Src) (Γ : Ev.Ctx) (n : Nat) (tg : List Nat) (one : Bool) (b : List Sx) (fr : Frm) (S : Sto) : sF (.ok src S) Γ n tg one b fr = forL src (tgt one tg) (seqS (evS Γ n) b) n 0 fr S := of_eq_true (eq_self _)
theorem sF_x (cc : Nat) (fs : List D) (S : Sto) (Γ : Ev.Ctx) (n : Nat) (tg : List Nat) (one : Bool) (b : List Sx) (fr : Frm) : sF (.exc cc fs S) Γ n tg one b fr = .exc cc fs fr S := of_eq_true (eq_self _)
def sRa (r : R (List D)) (c : Nat) (fr : Frm) : RS := r.toS fr fun l S1 => .exc c l fr S1
theorem sRa_o0 (l : List D) (c : Nat) (fr : Frm) (S : Sto) : sRa (.ok l S) c fr = .exc c l fr S := of_eq_true (eq_self _)
theorem sRa_x (cc : Nat) (fs : List D) (S : Sto) (c : Nat) (fr : Frm) : sRa (.exc cc fs S) c fr = .exc cc fs fr S := of_eq_true (eq_self _)
def thq (r : RS) (f : Sx → Frm → Sto → RS) (l : List Sx) : RS := match r with
  | .nx fr S => seqS f l fr S
  | o => o
theorem thq_nx (fr S f l) : thq (.nx fr S) f l = seqS f l fr S := of_eq_true (eq_self _)
theorem thq_rt (d S f l) : thq (.rt d S) f l = .rt d S := of_eq_true (eq_self _)
theorem thq_bk (d S f l) : thq (.bk d S) f l = .bk d S := of_eq_true (eq_self _)
theorem thq_ct (d S f l) : thq (.ct d S) f l = .ct d S := of_eq_true (eq_self _)
theorem thq_exc (c fs fr S f l) : thq (.exc c fs fr S) f l = .exc c fs fr S := of_eq_true (eq_self _)
def catS (Γ : Ev.Ctx) (hs : List Hd) (r : RS) : RS := match r with
      | .exc c fs fr1 S1 => hdRun Γ hs c fs fr1 S1
      | o => o
theorem catS_exc (Γ hs c fs fr S) : catS Γ hs (.exc c fs fr S) = hdRun Γ hs c fs fr S := of_eq_true (eq_self _)
theorem catS_rt (Γ hs d S) : catS Γ hs (.rt d S) = .rt d S := of_eq_true (eq_self _)
def bdW (o : RS) (c : Frm → Sto → R D) (b : Frm → Sto → RS) (n : Nat) : RS := match o with
  | .nx fr S => whileL c b n fr S
  | .ct fr S => whileL c b n fr S
  | .bk fr S => .nx fr S
  | o => o
theorem bdW_nx (fr S c b n) : bdW (.nx fr S) c b n = whileL c b n fr S := of_eq_true (eq_self _)
theorem bdW_rt (d S c b n) : bdW (.rt d S) c b n = .rt d S := of_eq_true (eq_self _)
def bdF (o : RS) (src : Src) (tg : D → Frm → Option Frm) (b : Frm → Sto → RS) (n i : Nat) : RS := match o with
  | .nx fr S => forL src tg b n i fr S
  | .ct fr S => forL src tg b n i fr S
  | .bk fr S => .nx fr S
  | o => o
theorem bdF_nx (fr S src tg b n i) : bdF (.nx fr S) src tg b n i = forL src tg b n i fr S := of_eq_true (eq_self _)
theorem bdF_rt (d S src tg b n i) : bdF (.rt d S) src tg b n i = .rt d S := of_eq_true (eq_self _)
def sW (r : R D) (c : Frm → Sto → R D) (b : Frm → Sto → RS) (n : Nat) (fr : Frm) : RS := r.toS fr fun d S1 => br d (bdW (b fr S1) c b n) (.nx fr S1) .bad
theorem sW_o0  (c : Frm → Sto → R D) (b : Frm → Sto → RS) (n : Nat) (fr : Frm) (S : Sto) : sW (.ok (.bl true) S) c b n fr = bdW (b fr S) c b n := of_eq_true (eq_self _)
theorem sW_o1  (c : Frm → Sto → R D) (b : Frm → Sto → RS) (n : Nat) (fr : Frm) (S : Sto) : sW (.ok (.bl false) S) c b n fr = .nx fr S := of_eq_true (eq_self _)
theorem sW_x (cc : Nat) (fs : List D) (S : Sto) (c : Frm → Sto → R D) (b : Frm → Sto → RS) (n : Nat) (fr : Frm) : sW (.exc cc fs S) c b n fr = .exc cc fs fr S := of_eq_true (eq_self _)
def kf1 (o : Option Frm) (src : Src) (tg : D → Frm → Option Frm) (b : Frm → Sto → RS) (n : Nat) (i : Nat) (S : Sto) : RS := match o with
  | some fr1 => bdF (b fr1 S) src tg b n (i + 1)
  | none => .bad
theorem kf1_some (src : Src) (tg : D → Frm → Option Frm) (b : Frm → Sto → RS) (n : Nat) (i : Nat) (fr1 : Frm) (S : Sto) : kf1 (some fr1) src tg b n i S = bdF (b fr1 S) src tg b n (i + 1) := of_eq_true (eq_self _)
def kf0 (o : Option (Option D)) (src : Src) (tg : D → Frm → Option Frm) (b : Frm → Sto → RS) (n : Nat) (i : Nat) (fr : Frm) (S : Sto) : RS := match o with
  | some (some d) => kf1 (tg d fr) src tg b n i S
  | some none => .nx fr S
  | none => .bad
theorem kf0_some (src : Src) (tg : D → Frm → Option Frm) (b : Frm → Sto → RS) (n : Nat) (i : Nat) (d : D) (fr : Frm) (S : Sto) : kf0 (some (some d)) src tg b n i fr S = kf1 (tg d fr) src tg b n i S := of_eq_true (eq_self _)
theorem kf0_end (src : Src) (tg : D → Frm → Option Frm) (b : Frm → Sto → RS) (n : Nat) (i : Nat) (fr : Frm) (S : Sto) : kf0 (some none) src tg b n i fr S = .nx fr S := of_eq_true (eq_self _)
theorem for_step (src : Src) (tg : D → Frm → Option Frm) (b : Frm → Sto → RS) (n : Nat) (i : Nat) (fr : Frm) (S : Sto) : forL src tg b (n+1) i fr S = kf0 (src.nth S i) src tg b n i fr S := by
  conv => lhs; unfold forL
  cases h : src.nth S i with
  | none => rfl
  | some od =>
    cases od with
    | none => rfl
    | some d =>
      dsimp only [kf0]
      cases tg d fr with
      | none => rfl
      | some fr1 =>
        dsimp only [kf1]
        cases b fr1 S <;> rfl
theorem w_step (c : Frm → Sto → R D) (b : Frm → Sto → RS) (n : Nat) (fr : Frm) (S : Sto) : whileL c b (n+1) fr S = sW (c fr S) c b n fr := by
  refine congrArg (R.toS _ _) (funext fun d => funext fun S1 => ?_)
  cases d <;> rfl
section
variable (Γ : Ev.Ctx) (n : Nat) (fr : Frm) (S : Sto)
theorem e_loc (i) : evB Γ (n+1) false (.loc i) fr S = lk fr[i]? S := of_eq_true (eq_self _)
theorem e_cst (d) : evB Γ (n+1) false (.cst d) fr S = .ok d S := of_eq_true (eq_self _)
theorem e_gl (k) : evB Γ (n+1) false (.gl k) fr S = .ok (Γ.cst k) S := of_eq_true (eq_self _)
theorem e_gf (k) : evB Γ (n+1) false (.gf k) fr S = .ok (.fn k) S := of_eq_true (eq_self _)
theorem e_tup (es) : evB Γ (n+1) false (.tup es) fr S = kT (evL (evB Γ n false) es fr S) := of_eq_true (eq_self _)
theorem e_lst (es) : evB Γ (n+1) false (.lst es) fr S = kL (evL (evB Γ n false) es fr S) := of_eq_true (eq_self _)
theorem e_bin (op a b) : evB Γ (n+1) false (.bin op a b) fr S = kB1 (evB Γ n false a fr S) Γ n op b fr := of_eq_true (eq_self _)
theorem e_neg (a) : evB Γ (n+1) false (.neg a) fr S = kN (evB Γ n false a fr S) := of_eq_true (eq_self _)
theorem e_not (a) : evB Γ (n+1) false (.not a) fr S = kNb (kTr (evB Γ n false a fr S)) := by
  show R.bind _ _ = _
  unfold kNb kTr
  cases evB Γ n false a fr S with
  | ok x S1 =>
    dsimp only [R.bind]
    unfold tru
    cases truD S1 x <;> rfl
  | exc c fs S1 => rfl
  | bad => rfl
theorem e_cmp (op a b) : evB Γ (n+1) false (.cmp op a b) fr S = kC1 (evB Γ n false a fr S) Γ n op b fr := of_eq_true (eq_self _)
theorem e_chn (o1 o2 a b c) : evB Γ (n+1) false (.chn o1 o2 a b c) fr S = kH1 (evB Γ n false a fr S) Γ n o1 o2 b c fr := of_eq_true (eq_self _)
theorem e_and (es) : evB Γ (n+1) false (.andd es) fr S = andT (evB Γ n false) es fr S := of_eq_true (eq_self _)
theorem e_or (es) : evB Γ (n+1) false (.orr es) fr S = orT (evB Γ n false) es fr S := of_eq_true (eq_self _)
theorem e_ite (c a b) : evB Γ (n+1) false (.ite c a b) fr S = kI (evB Γ n true c fr S) Γ n a b fr := of_eq_true (eq_self _)
theorem e_ix (a i) : evB Γ (n+1) false (.ix a i) fr S = kX1 (evB Γ n false a fr S) Γ n i fr := of_eq_true (eq_self _)
theorem e_sl (a lo hi) : evB Γ (n+1) false (.sl a lo hi) fr S = kS1 (evB Γ n false a fr S) Γ n lo hi fr := of_eq_true (eq_self _)
theorem e_rev (a lo) : evB Γ (n+1) false (.rev a lo) fr S = kR1 (evB Γ n false a fr S) Γ n lo fr := of_eq_true (eq_self _)
theorem e_call (k es) : evB Γ (n+1) false (.call k es) fr S = kCl (evL (evB Γ n false) es fr S) Γ k := of_eq_true (eq_self _)
theorem e_cav (f es) : evB Γ (n+1) false (.cav f es) fr S = kCv (evB Γ n false f fr S) Γ n es fr := by
  refine congrArg (R.bind _) (funext fun x => funext fun S1 => ?_); cases x <;> rfl
theorem e_bi (b es) : evB Γ (n+1) false (.bi b es) fr S = kBi (evL (evB Γ n false) es fr S) b := of_eq_true (eq_self _)
theorem e_isi (e t) : evB Γ (n+1) false (.isi e t) fr S = kIs (evB Γ n false e fr S) t := by
  refine congrArg (R.bind _) (funext fun x => funext fun S1 => ?_); cases isiD S1 x t <;> rfl
theorem e_app (a e) : evB Γ (n+1) false (.app a e) fr S = kAp (evB Γ n false a fr S) Γ n e fr := by
  refine congrArg (R.bind _) (funext fun x => funext fun S1 => ?_); cases x <;> rfl
theorem it_eq (f itk its) : itS f itk its fr S = kIt (evL f its fr S) itk := by
  refine congrArg (R.bind _) (funext fun x => funext fun S1 => ?_); cases mkSrc S1 itk x <;> rfl
theorem e_lc (elt tg one itk its ifs own) : evB Γ (n+1) false (.lc elt tg one itk its ifs own) fr S = kLc (kIt (evL (evB Γ n false) its fr S) itk) Γ n elt tg one ifs own fr := by
  rw [← it_eq]; rfl
theorem c_and (es) : evB Γ (n+1) true (.andd es) fr S = andT (evB Γ n true) es fr S := of_eq_true (eq_self _)
theorem c_or (es) : evB Γ (n+1) true (.orr es) fr S = orT (evB Γ n true) es fr S := of_eq_true (eq_self _)
theorem c_not (a) : evB Γ (n+1) true (.not a) fr S = kNb (evB Γ n true a fr S) := of_eq_true (eq_self _)
theorem c_cmp (op a b) : evB Γ (n+1) true (.cmp op a b) fr S = kIb (kC1 (evB Γ n false a fr S) Γ n op b fr) := by
  show R.bind _ _ = _
  unfold kIb kC1
  cases evB Γ n false a fr S with
  | ok x S1 =>
    dsimp only [R.bind]
    unfold kC2
    cases evB Γ n false b fr S1 with
    | ok y S2 =>
      dsimp only [R.bind]
      cases cmpD op x y S2 with
      | ok d S3 => cases d <;> rfl
      | exc c fs S1 => rfl
      | bad => rfl
    | exc c fs S1 => rfl
    | bad => rfl
  | exc c fs S1 => rfl
  | bad => rfl
theorem c_chn (o1 o2 a b c) : evB Γ (n+1) true (.chn o1 o2 a b c) fr S = kIb (kH1 (evB Γ n false a fr S) Γ n o1 o2 b c fr) := by
  show R.bind _ _ = _
  unfold kIb kH1
  cases evB Γ n false a fr S with
  | ok x S1 =>
    dsimp only [R.bind]
    unfold kH2
    cases evB Γ n false b fr S1 with
    | ok y S2 =>
      dsimp only [R.bind]
      unfold kH3
      cases cmpD o1 x y S2 with
      | ok d S3 =>
        cases d <;> first | rfl | skip
        rename_i b
        cases b <;> first | rfl | skip
        dsimp only [R.bind, br]
        unfold kC2
        cases evB Γ n false c fr S3 with
        | ok y S2 =>
          dsimp only [R.bind]
          cases cmpD o2 _ y S2 with
          | ok d S3 => cases d <;> rfl
          | exc c fs S1 => rfl
          | bad => rfl
        | exc c fs S1 => rfl
        | bad => rfl
      | exc c fs S1 => rfl
      | bad => rfl
    | exc c fs S1 => rfl
    | bad => rfl
  | exc c fs S1 => rfl
  | bad => rfl
theorem c_loc (i) : evB Γ (n+1) true (.loc i) fr S = kTr (evB Γ n false (.loc i) fr S) := by
  refine congrArg (R.bind _) (funext fun x => funext fun S1 => ?_); unfold tru; cases truD S1 x <;> rfl
theorem c_call (k es) : evB Γ (n+1) true (.call k es) fr S = kTr (evB Γ n false (.call k es) fr S) := by
  refine congrArg (R.bind _) (funext fun x => funext fun S1 => ?_); unfold tru; cases truD S1 x <;> rfl
theorem c_bi (k es) : evB Γ (n+1) true (.bi k es) fr S = kTr (evB Γ n false (.bi k es) fr S) := by
  refine congrArg (R.bind _) (funext fun x => funext fun S1 => ?_); unfold tru; cases truD S1 x <;> rfl
theorem c_isi (k es) : evB Γ (n+1) true (.isi k es) fr S = kTr (evB Γ n false (.isi k es) fr S) := by
  refine congrArg (R.bind _) (funext fun x => funext fun S1 => ?_); unfold tru; cases truD S1 x <;> rfl
theorem s_asg (i e) : evS Γ (n+1) (.asg i e) fr S = sA (evB Γ n false e fr S) i fr := of_eq_true (eq_self _)
theorem s_asgT (is e) : evS Γ (n+1) (.asgT is e) fr S = sT (evB Γ n false e fr S) is fr := by
  refine congrArg (R.toS _ _) (funext fun x => funext fun S1 => ?_); cases tgt false is x fr <;> rfl
theorem s_par (i j a b) : evS Γ (n+1) (.par i j a b) fr S = sP1 (evB Γ n false a fr S) Γ n i j b fr := of_eq_true (eq_self _)
theorem s_setix (e o i) : evS Γ (n+1) (.setix e o i) fr S = sX1 (evB Γ n false e fr S) Γ n o i fr := by
  refine congrArg (R.toS _ _) (funext fun x => funext fun S1 => congrArg (R.toS _ _) (funext fun y => funext fun S2 => congrArg (R.toS _ _) (funext fun d => funext fun S3 => ?_)))
  cases y <;> cases d <;> rfl
theorem s_aug (i op e) : evS Γ (n+1) (.aug i op e) fr S = ops op i e Γ n fr S fr[i]? := of_eq_true (eq_self _)
theorem s_ex (e) : evS Γ (n+1) (.ex e) fr S = sE (evB Γ n false e fr S) fr := of_eq_true (eq_self _)
theorem s_ret (e) : evS Γ (n+1) (.ret e) fr S = sR (evB Γ n false e fr S) fr := of_eq_true (eq_self _)
theorem s_iff (c a b) : evS Γ (n+1) (.iff c a b) fr S = sI (evB Γ n true c fr S) Γ n a b fr := of_eq_true (eq_self _)
theorem s_whl (c b) : evS Γ (n+1) (.whl c b) fr S = whileL (evB Γ n true c) (seqS (evS Γ n) b) n fr S := of_eq_true (eq_self _)
theorem s_forr (tg one itk its b) : evS Γ (n+1) (.forr tg one itk its b) fr S = sF (kIt (evL (evB Γ n false) its fr S) itk) Γ n tg one b fr := by
  rw [← it_eq]; rfl
theorem s_rais (c es) : evS Γ (n+1) (.rais c es) fr S = sRa (evL (evB Γ n false) es fr S) c fr := of_eq_true (eq_self _)
theorem s_try (b hs) : evS Γ (n+1) (.tryr b hs) fr S = catS Γ hs (seqS (evS Γ n) b fr S) := by
  show (match seqS (evS Γ n) b fr S with
      | .exc c fs fr1 S1 => hdRun Γ hs c fs fr1 S1
      | o => o) = _
  unfold catS
  cases seqS (evS Γ n) b fr S <;> rfl
theorem q_nil (f) : seqS f [] fr S = .nx fr S := of_eq_true (eq_self _)
theorem q_cons (f s r) : seqS f (s :: r) fr S = thq (f s fr S) f r := by
  unfold thq
  cases h : f s fr S <;> simp only [seqS, h]
theorem l_nil (f) : evL f [] fr S = .ok [] S := of_eq_true (eq_self _)
theorem l_cons (f e es) : evL f (e :: es) fr S = kl1 (f e fr S) f es fr := of_eq_true (eq_self _)
theorem a_one (f e) : andT f [e] fr S = f e fr S := of_eq_true (eq_self _)
theorem a_cons (f e e' es) : andT f (e :: e' :: es) fr S = kA (f e fr S) f (e' :: es) fr := of_eq_true (eq_self _)
theorem o_one (f e) : orT f [e] fr S = f e fr S := of_eq_true (eq_self _)
theorem o_cons (f e e' es) : orT f (e :: e' :: es) fr S = kO (f e fr S) f (e' :: es) fr := of_eq_true (eq_self _)
theorem i_none (f) : optI f none fr S = .ok none S := of_eq_true (eq_self _)
theorem i_some (f e) : optI f (some e) fr S = kG (f e fr S) := by
  refine congrArg (R.bind _) (funext fun x => funext fun S1 => ?_); cases x <;> rfl
theorem f_nil (f) : ifsT f [] fr S = .ok (.bl true) S := of_eq_true (eq_self _)
theorem f_one (f e) : ifsT f [e] fr S = f e fr S := of_eq_true (eq_self _)
theorem nx_ok (d : D) : noX (R.ok d S) = .ok d S := of_eq_true (eq_self _)
end
/-! ### operations -/
section
variable (S : Sto)
theorem bk_nx (fr : Frm) (S : Sto) : (RS.nx fr S).back = .ok .non S := of_eq_true (eq_self _)
theorem bk_rt (d : D) (S : Sto) : (RS.rt d S).back = .ok d S := of_eq_true (eq_self _)
theorem bk_exc (c fs) (fr : Frm) (S : Sto) : (RS.exc c fs fr S).back = .exc c fs S := of_eq_true (eq_self _)
theorem d_add (i j) : binD .Add (.int i) (.int j) S = .ok (.int (i + j)) S := of_eq_true (eq_self _)
theorem d_sub (i j) : binD .Sub (.int i) (.int j) S = .ok (.int (i - j)) S := of_eq_true (eq_self _)
theorem d_subB (i j) : binD .Sub (.bl i) (.bl j) S = .ok (.int ((if i then 1 else 0) - (if j then 1 else 0))) S := of_eq_true (eq_self _)
/-- a bound by a power of two -/
def B (k : Nat) (i : Int) : Prop := i.natAbs < 2 ^ k
theorem B.mul {j k : Nat} {x y : Int} (h : B j x) (h' : B k y) : B (j + k) (x * y) := L2.wide_lt h h'
theorem B.mono {j k : Nat} {x : Int} (h : B j x) (l : j ≤ k) : B k x := Nat.lt_of_lt_of_le h (Nat.pow_le_pow_right (by decide) l)
theorem B.add {j : Nat} {x y : Int} (h : B j x) (h' : B j y) : B (j + 1) (x + y) := by
  unfold B at *
  rw [Nat.pow_succ]
  omega
theorem B.neg {j : Nat} {x : Int} (h : B j x) : B j (-x) := by
  unfold B at *
  omega
theorem B.log {k : Nat} {x : Int} (h : B k x) (h0 : 0 < k) : x.natAbs.log2 < k := PySem.Flt.log2_lt_of h0 h
theorem d_mul {i j} (h : B 1000 i) (h' : B 1000 j) : binD .Mult (.int i) (.int j) S = .ok (.int (i * j)) S := by
  have a := h.log (by decide)
  have b := h'.log (by decide)
  exact if_pos (by omega)
theorem d_fdiv {i j} (h : j ≠ 0) (h' : B 1000 j) : binD .FloorDiv (.int i) (.int j) S = .ok (.int (i.fdiv j)) S := by
  have b := h'.log (by decide)
  exact if_pos ⟨h, by omega⟩
theorem d_mod {i j} (h : j ≠ 0) : binD .Mod (.int i) (.int j) S = .ok (.int (i.fmod j)) S := if_pos h
theorem c_lt (i j) : cmpD .Lt (.int i) (.int j) S = .ok (.bl (decide (i < j))) S := of_eq_true (eq_self _)
theorem c_le (i j) : cmpD .LtE (.int i) (.int j) S = .ok (.bl (decide (i ≤ j))) S := of_eq_true (eq_self _)
theorem c_gt (i j) : cmpD .Gt (.int i) (.int j) S = .ok (.bl (decide (j < i))) S := of_eq_true (eq_self _)
theorem c_ge (i j) : cmpD .GtE (.int i) (.int j) S = .ok (.bl (decide (j ≤ i))) S := of_eq_true (eq_self _)
theorem c_eqI (i j : Int) : cmpD .Eq (.int i) (.int j) S = .ok (.bl (decide (i = j))) S := of_eq_true (eq_self _)
theorem c_neI (i j : Int) : cmpD .NotEq (.int i) (.int j) S = .ok (.bl (!decide (i = j))) S := of_eq_true (eq_self _)
theorem c_is0 : cmpD .Is .non .non S = .ok (.bl true) S := of_eq_true (eq_self _)
theorem c_isT (l) : cmpD .Is (.tup l) .non S = .ok (.bl false) S := of_eq_true (eq_self _)
theorem b_abs (i) : biD "abs" [.int i] S = .ok (.int i.natAbs) S := by
  show R.ok (D.int (if i < 0 then -i else i)) S = _
  congr 2
  split <;> omega
theorem b_intI (i) : biD "int" [.int i] S = .ok (.int i) S := of_eq_true (eq_self _)
theorem b_intB (i) : biD "int" [.bl i] S = .ok (.int (if i then 1 else 0)) S := of_eq_true (eq_self _)
theorem b_lenT (l) : biD "len" [.tup l] S = .ok (.int l.length) S := of_eq_true (eq_self _)
def onO {α : Type} (f : α → Sto → R D) (o : Option α) (S : Sto) : R D := match o with
  | some l => f l S
  | none => .bad
theorem onO_some {α : Type} (f : α → Sto → R D) (l : α) : onO f (some l) S = f l S := of_eq_true (eq_self _)
def fLen (l : List D) (S : Sto) : R D := .ok (.int l.length) S
def fAll (l : List Bool) (S : Sto) : R D := .ok (.bl (l.all id)) S
def fAny (l : List Bool) (S : Sto) : R D := .ok (.bl (l.any id)) S
def fTup (l : List D) (S : Sto) : R D := .ok (.tup l) S
theorem fLen_e (l) : fLen l S = .ok (.int l.length) S := of_eq_true (eq_self _)
theorem fAll_e (l) : fAll l S = .ok (.bl (l.all id)) S := of_eq_true (eq_self _)
theorem fAny_e (l) : fAny l S = .ok (.bl (l.any id)) S := of_eq_true (eq_self _)
theorem fTup_e (l) : fTup l S = .ok (.tup l) S := of_eq_true (eq_self _)
theorem b_lenO (k) : biD "len" [.obj k] S = onO fLen (items S k) S := by
  show (match items S k with | some l => R.ok (D.int l.length) S | none => .bad) = _
  cases items S k <;> rfl
theorem b_all (k) : biD "all" [.obj k] S = onO fAll ((items S k).bind bools) S := by
  show (match (items S k).bind bools with | some l => R.ok (D.bl (l.all id)) S | none => .bad) = _
  cases (items S k).bind bools <;> rfl
theorem b_any (k) : biD "any" [.obj k] S = onO fAny ((items S k).bind bools) S := by
  show (match (items S k).bind bools with | some l => R.ok (D.bl (l.any id)) S | none => .bad) = _
  cases (items S k).bind bools <;> rfl
theorem b_tupO (k) : biD "tuple" [.obj k] S = onO fTup (items S k) S := by
  show (match items S k with | some l => R.ok (D.tup l) S | none => .bad) = _
  cases items S k <;> rfl
theorem x_at {l : List D} {k : Int} {d : D} (h : atI l k = some d) : ixD (.tup l) (.int k) S = .ok d S := by
  show (match atI l k with | some d => R.ok d S | none => .bad) = _
  rw [h]
theorem x_atO {l : List D} {m : Nat} {k : Int} {d : D} (h0 : items S m = some l) (h : atI l k = some d) : ixD (.obj m) (.int k) S = .ok d S := by
  show (match items S m with
    | some l => match atI l k with
      | some d => R.ok d S
      | none => .bad
    | none => .bad) = _
  rw [h0]
  dsimp only
  rw [h]
def fAt (k : Int) (l : List D) (S : Sto) : R D := match atI l k with
  | some d => .ok d S
  | none => .bad
theorem fAt_e {l : List D} {k : Int} {d : D} (h : atI l k = some d) : fAt k l S = .ok d S := by
  unfold fAt; rw [h]
theorem x_obj (m k) : ixD (.obj m) (.int k) S = onO (fAt k) (items S m) S := by
  show (match items S m with
    | some l => match atI l k with
      | some d => R.ok d S
      | none => .bad
    | none => .bad) = _
  cases items S m <;> rfl
theorem fAt_0 (a r) : fAt 0 (a :: r) S = .ok a S := fAt_e S (atI_nat (j := 0) rfl)
theorem fAt_1 (a b r) : fAt 1 (a :: b :: r) S = .ok b S := fAt_e S (atI_nat (j := 1) rfl)
theorem fAt_2 (a b c r) : fAt 2 (a :: b :: c :: r) S = .ok c S := fAt_e S (atI_nat (j := 2) rfl)
theorem x_0 (a r) : ixD (.tup (a :: r)) (.int 0) S = .ok a S := x_at S (atI_nat (j := 0) rfl)
theorem x_1 (a b r) : ixD (.tup (a :: b :: r)) (.int 1) S = .ok b S := x_at S (atI_nat (j := 1) rfl)
theorem x_2 (a b c r) : ixD (.tup (a :: b :: c :: r)) (.int 2) S = .ok c S := x_at S (atI_nat (j := 2) rfl)
theorem n_T {l : List D} (h : l.length ≤ LIM) : newT S l = .ok (.tup l) S := if_pos h
theorem n_T1 (a) : newT S [a] = .ok (.tup [a]) S := of_eq_true (eq_self _)
theorem n_T2 (a b) : newT S [a, b] = .ok (.tup [a, b]) S := of_eq_true (eq_self _)
theorem n_T3 (a b c) : newT S [a, b, c] = .ok (.tup [a, b, c]) S := of_eq_true (eq_self _)
theorem n_L {l : List D} (h : l.length ≤ LIM) : new S l = .ok (.obj S.length) (S ++ [.lst l]) := if_pos h
theorem n_L0 : new S [] = .ok (.obj S.length) (S ++ [.lst []]) := of_eq_true (eq_self _)
theorem i_int (x : Int) : isiD S (.int x) "int" = some true := of_eq_true (eq_self _)
theorem i_intb (x : Int) : isiD S (.int x) "bool" = some false := of_eq_true (eq_self _)
theorem i_tup (l) : isiD S (.tup l) "tuple" = some true := of_eq_true (eq_self _)
theorem k_0 (d) : mkSrc S 0 [d] = srcOf d := of_eq_true (eq_self _)
theorem k_tup (l) : srcOf (.tup l) = some (.items l) := of_eq_true (eq_self _)
theorem k_obj (k) : srcOf (.obj k) = some (.obj k) := of_eq_true (eq_self _)
theorem k_zip {a b x y} (h : srcOf a = some x) (h' : srcOf b = some y) : mkSrc S 3 [a, b] = some (.zip x y) := by
  show (match srcOf a, srcOf b with | some x, some y => some (Src.zip x y) | _, _ => none) = _
  rw [h, h']
theorem k_rng {j : Int} (h : 0 ≤ j) (h' : j < 4611686018427387904) : mkSrc S 1 [.int j] = some (.rng 0 j.toNat) := if_pos ⟨by omega, by omega⟩
theorem k_rng2 {i j : Int} (h : -4611686018427387904 ≤ i) (h1 : i < 4611686018427387904) (h2 : -4611686018427387904 ≤ j) (h' : j < 4611686018427387904) : mkSrc S 2 [.int i, .int j] = some (.rng i (j - i).toNat) := if_pos ⟨by omega, by omega, by omega, by omega⟩
def zipO (a b : Option Src) : Option Src := match a, b with
  | some x, some y => some (.zip x y)
  | _, _ => none
theorem zipO_s (x y) : zipO (some x) (some y) = some (.zip x y) := of_eq_true (eq_self _)
theorem k_zipE (a b) : mkSrc S 3 [a, b] = zipO (srcOf a) (srcOf b) := of_eq_true (eq_self _)
def zipE (a b : Option D) : Option D := match a, b with
  | some x, some y => some (.tup [x, y])
  | _, _ => none
theorem zipE_s (x y : D) : zipE (some x) (some y) = some (D.tup [x, y]) := of_eq_true (eq_self _)
theorem zipE_n (y) : zipE none y = none := by cases y <;> rfl
def zipN (i : Nat) (a b : Option (List D)) : Option (Option D) := match a, b with
  | some l, some m => if i ≤ l.length ∧ i ≤ m.length then some (zipE l[i]? m[i]?) else none
  | _, _ => none
theorem zipN_s (i l m) : zipN i (some l) (some m) = if i ≤ l.length ∧ i ≤ m.length then some (zipE l[i]? m[i]?) else none := of_eq_true (eq_self _)
theorem h_zip (a b i) : Src.nth S (.zip a b) i = zipN i (a.seq S) (b.seq S) := by
  show (match a.seq S, b.seq S with
    | some l, some m => if i ≤ l.length ∧ i ≤ m.length then (match l[i]?, m[i]? with
      | some x, some y => some (some (D.tup [x, y]))
      | _, _ => some none) else none
    | _, _ => none) = _
  unfold zipN
  cases a.seq S <;> cases b.seq S <;> first | rfl | skip
  rename_i l m
  dsimp only
  split
  · cases l[i]? <;> cases m[i]? <;> rfl
  · rfl
theorem sq_obj (k) : Src.seq S (.obj k) = items S k := of_eq_true (eq_self _)
theorem sq_items (l) : Src.seq S (.items l) = some l := of_eq_true (eq_self _)
theorem h_items (l i) : Src.nth S (.items l) i = some l[i]? := of_eq_true (eq_self _)
theorem h_rng (lo n i) : Src.nth S (.rng lo n) i = some (if i < n then some (.int (lo + i)) else none) := of_eq_true (eq_self _)
theorem h_obj {k l} (h : Ev.items S k = some l) (i) : Src.nth S (.obj k) i = some l[i]? := by
  show (Ev.items S k).map _ = _
  rw [h]; rfl
theorem g_one (i d fr) : tgt true [i] d fr = some (fr.set i (some d)) := by
  cases d <;> rfl
theorem g_tup (is ds fr) : tgt false is (.tup ds) fr = setAll is ds fr := by
  cases is <;> rfl
theorem sa_nil (fr) : setAll [] [] fr = some fr := of_eq_true (eq_self _)
theorem sa_cons (i is d ds fr) : setAll (i :: is) (d :: ds) fr = setAll is ds (fr.set i (some d)) := of_eq_true (eq_self _)
theorem wp_nil (fr) : wipeF fr [] = fr := of_eq_true (eq_self _)
theorem wp_cons (fr v vs) : wipeF fr (v :: vs) = (wipeF fr vs).set v none := of_eq_true (eq_self _)
theorem it_lst {k l} (h : S[k]? = some (.lst l)) : items S k = some l := by unfold items; rw [h]
theorem it_ro {k l} (h : S[k]? = some (.ro l)) : items S k = some l := by unfold items; rw [h]
end
theorem st_get (S T : Sto) (i : Nat) : (S ++ T)[S.length + i]? = T[i]? := by
  rw [List.getElem?_append_right (Nat.le_add_right _ _), Nat.add_sub_cancel_left]
theorem st_get0 (S T : Sto) : (S ++ T)[S.length]? = T[0]? := st_get S T 0
theorem st_set (S T : Sto) (i : Nat) (x : MO) : (S ++ T).set (S.length + i) x = S ++ T.set i x := by
  rw [List.set_append_right _ _ (Nat.le_add_right _ _), Nat.add_sub_cancel_left]
theorem st_set0 (S T : Sto) (x : MO) : (S ++ T).set S.length x = S ++ T.set 0 x := st_set S T 0 x
theorem it_get (S T : Sto) (i : Nat) : items (S ++ T) (S.length + i) = items T i := by unfold items; rw [st_get]
theorem it_get0 (S T : Sto) : items (S ++ T) S.length = items T 0 := it_get S T 0
theorem it_hd (x : List D) (T : Sto) : items (.lst x :: T) 0 = some x := of_eq_true (eq_self _)
theorem it_tl (x : MO) (T : Sto) (i : Nat) : items (x :: T) (i + 1) = items T i := of_eq_true (eq_self _)
theorem ps_get (S T : Sto) (i : Nat) {l} (y) (h : T[i]? = some (.lst l)) (hl : l.length < LIM) : psh (S.length + i) y (S ++ T) = .ok .non (S ++ T.set i (.lst (l ++ [y]))) := by
  rw [psh_ok (by rw [st_get]; exact h) hl, st_set]
theorem ps_get0 (S T : Sto) {l} (y) (h : T[0]? = some (.lst l)) (hl : l.length < LIM) : psh S.length y (S ++ T) = .ok .non (S ++ T.set 0 (.lst (l ++ [y]))) := ps_get S T 0 y h hl
theorem ps_0 (S T : Sto) {l} (y) (hl : l.length < 1000000) : psh S.length y (S ++ .lst l :: T) = .ok .non (S ++ .lst (l ++ [y]) :: T) := ps_get0 S _ y rfl hl
theorem ps_1 (S T : Sto) {l} (y a) (hl : l.length < 1000000) : psh (S.length + 1) y (S ++ a :: .lst l :: T) = .ok .non (S ++ a :: .lst (l ++ [y]) :: T) := ps_get S _ 1 y rfl hl
theorem ps_2 (S T : Sto) {l} (y a b) (hl : l.length < 1000000) : psh (S.length + 2) y (S ++ a :: b :: .lst l :: T) = .ok .non (S ++ a :: b :: .lst (l ++ [y]) :: T) := ps_get S _ 2 y rfl hl
theorem ps_3 (S T : Sto) {l} (y a b c) (hl : l.length < 1000000) : psh (S.length + 3) y (S ++ a :: b :: c :: .lst l :: T) = .ok .non (S ++ a :: b :: c :: .lst (l ++ [y]) :: T) := ps_get S _ 3 y rfl hl
theorem len_app (S T : Sto) : List.length (S ++ T) = S.length + T.length := List.length_append
/-! ### the program -/
def run (n k : Nat) (ds : List D) (S : Sto) : R D := pd.run 3000 n k ds S
def G (n : Nat) : Ev.Ctx := pd.ctx 3000 n
theorem G_fn (n k ds S) : (G n).fn k ds S = run n k ds S := rfl
theorem G_cst (n k) : (G n).cst k = cstF k := of_eq_true (eq_self _)
theorem run_eq {k : Nat} {f : FnD} (n) (ds : List D) (S) (h : fsL[k]? = some f) (hl : ds.length = f.ps.length) : run (n+1) k ds S = (seqS (evS (G n) 3000) f.code (ds.map some ++ List.replicate (f.N.length - ds.length) none) S).back := by
  unfold run G
  generalize (3000 : Nat) = m
  show (match fsL[k]? with
    | none => R.bad
    | some f => if ds.length = f.ps.length then (seqS (evS (pd.ctx m n) m) f.code (ds.map some ++ List.replicate (f.N.length - ds.length) none) S).back else .bad) = _
  rw [h]
  exact if_pos hl
section
variable (n : Nat) (S : Sto) (x y z : D)
theorem r0 : run (n+1) 0 [x] S = (seqS (evS (G n) 3000) f0.code [some x, none, none, none, none, none] S).back := run_eq n [x] S (f := f0) rfl rfl
theorem r1 : run (n+1) 1 [x, y] S = (seqS (evS (G n) 3000) f1.code [some x, some y, none, none] S).back := run_eq n [x, y] S (f := f1) rfl rfl
theorem r2 : run (n+1) 2 [x, y, z] S = (seqS (evS (G n) 3000) f2.code [some x, some y, some z, none] S).back := run_eq n [x, y, z] S (f := f2) rfl rfl
theorem r3 : run (n+1) 3 [x, y, z] S = (seqS (evS (G n) 3000) f3.code [some x, some y, some z] S).back := run_eq n [x, y, z] S (f := f3) rfl rfl
theorem r4 : run (n+1) 4 [] S = (seqS (evS (G n) 3000) f4.code [none, none] S).back := run_eq n [] S (f := f4) rfl rfl
theorem r5 : run (n+1) 5 [x, y, z] S = (seqS (evS (G n) 3000) f5.code [some x, some y, some z] S).back := run_eq n [x, y, z] S (f := f5) rfl rfl
theorem r6 : run (n+1) 6 [x, y, z] S = (seqS (evS (G n) 3000) f6.code [some x, some y, some z, none] S).back := run_eq n [x, y, z] S (f := f6) rfl rfl
theorem r7 : run (n+1) 7 [x, y, z] S = (seqS (evS (G n) 3000) f7.code [some x, some y, some z, none] S).back := run_eq n [x, y, z] S (f := f7) rfl rfl
theorem r8 : run (n+1) 8 [x] S = (seqS (evS (G n) 3000) f8.code [some x, none, none, none, none, none, none, none] S).back := run_eq n [x] S (f := f8) rfl rfl
end
end K00

/-! ## K00N -/
set_option Elab.async false
set_option linter.all false
set_option maxRecDepth 100000
set_option maxHeartbeats 4000000
set_option pp.maxSteps 1500
/-! What the law draws from its script. -/
namespace K00
open Ev PySem L2
theorem B20 {a : Int} (h : -1000000 ≤ a) (h' : a ≤ 1000000) : B 20 a := by
  unfold B
  have : (2 : Nat) ^ 20 = 1048576 := rfl
  omega
theorem Bn {x k : Nat} (h : x < 2 ^ k) : B k (x : Int) := h
theorem B11 {x : Nat} (h : x ≤ 2000) : B 1000 (x : Int) := B.mono (j := 11) (Bn (Nat.lt_of_le_of_lt h (by decide))) (by decide)
theorem B2 : B 1000 2 := B11 (x := 2) (by decide)
theorem fmodP {a b : Int} (h : 0 ≤ b) : a.fmod b = a % b := Int.fmod_eq_emod_of_nonneg _ h
theorem fdivP {a b : Int} (h : 0 ≤ b) : a.fdiv b = a / b := Int.fdiv_eq_ediv_of_nonneg _ h
theorem B1M {a : Int} (h : -1000000 ≤ a) (h' : a ≤ 1000000) : B 1000 a := (B20 h h').mono (by decide)
def iL (l : List Int) : List D := l.map D.int
theorem for_rng {P : Nat → Frm → Sto → Prop} {b : Frm → Sto → RS} {tg : D → Frm → Option Frm} {lo : Int} {cnt : Nat} (h : ∀ i fr S, i < cnt → P i fr S → ∃ fr1 fr2 S2, tg (.int (lo + i)) fr = some fr1 ∧ b fr1 S = .nx fr2 S2 ∧ P (i + 1) fr2 S2) :
    ∀ (k i j : Nat) (fr : Frm) (S : Sto), i + k = cnt → k < j → P i fr S → ∃ fr' S', forL (.rng lo cnt) tg b j i fr S = .nx fr' S' ∧ P cnt fr' S'
  | 0, i, j, fr, S, hi, hj, hp => by
    obtain ⟨j, rfl⟩ : ∃ i, j = i + 1 := ⟨j - 1, by omega⟩
    obtain rfl : i = cnt := by omega
    exact ⟨fr, S, by rw [for_step, h_rng, if_neg (Nat.lt_irrefl _), kf0_end], hp⟩
  | k + 1, i, j, fr, S, hi, hj, hp => by
    obtain ⟨j, rfl⟩ : ∃ i, j = i + 1 := ⟨j - 1, by omega⟩
    obtain ⟨fr1, fr2, S2, h1, h2, h3⟩ := h i fr S (by omega) hp
    obtain ⟨fr', S', e, q⟩ := for_rng h k (i + 1) j fr2 S2 (by omega) (by omega) h3
    exact ⟨fr', S', by rw [for_step, h_rng, if_pos (by omega), kf0_some, h1, kf1_some, h2, bdF_nx, e], q⟩
theorem for_obj {P : Nat → Frm → Sto → Prop} {b : Frm → Sto → RS} {tg : D → Frm → Option Frm} {o : Nat} {l : List D} (hk : ∀ i fr S, P i fr S → items S o = some l) (h : ∀ i d fr S, l[i]? = some d → P i fr S → ∃ fr1 fr2 S2, tg d fr = some fr1 ∧ b fr1 S = .nx fr2 S2 ∧ P (i + 1) fr2 S2) :
    ∀ (k i j : Nat) (fr : Frm) (S : Sto), i + k = l.length → k < j → P i fr S → ∃ fr' S', forL (.obj o) tg b j i fr S = .nx fr' S' ∧ P l.length fr' S'
  | 0, i, j, fr, S, hi, hj, hp => by
    obtain ⟨j, rfl⟩ : ∃ i, j = i + 1 := ⟨j - 1, by omega⟩
    obtain rfl : i = l.length := by omega
    exact ⟨fr, S, by rw [for_step, h_obj S (hk _ _ _ hp), List.getElem?_eq_none (Nat.le_refl _), kf0_end], hp⟩
  | k + 1, i, j, fr, S, hi, hj, hp => by
    obtain ⟨j, rfl⟩ : ∃ i, j = i + 1 := ⟨j - 1, by omega⟩
    have hl : l[i]? = some l[i] := List.getElem?_eq_getElem (by omega)
    obtain ⟨fr1, fr2, S2, h1, h2, h3⟩ := h i _ fr S hl hp
    obtain ⟨fr', S', e, q⟩ := for_obj hk h k (i + 1) j fr2 S2 (by omega) (by omega) h3
    exact ⟨fr', S', by rw [for_step, h_obj S (hk _ _ _ hp), hl, kf0_some, h1, kf1_some, h2, bdF_nx, e], q⟩
/-- draws -/
def Dr (l : List Int) : Prop := ∀ x ∈ l, 0 ≤ x ∧ x < 2147483648
theorem Dr.snoc {l x} (h : Dr l) (h0 : 0 ≤ x) (h1 : x < 2147483648) : Dr (l ++ [x]) := fun y hy => by
  rcases List.mem_append.mp hy with q | q
  · exact h y q
  · rw [List.mem_singleton.mp q]; exact ⟨h0, h1⟩
theorem ps_c1 (a : MO) (T : Sto) {l} (y) (hl : l.length < 1000000) : psh 1 y (a :: .lst l :: T) = .ok .non (a :: .lst (l ++ [y]) :: T) := psh_ok (S2 := a :: .lst l :: T) rfl hl
theorem iLs (l : List Int) (x : Int) : iL l ++ [.int x] = iL (l ++ [x]) := by
  unfold iL; rw [List.map_append]; rfl
theorem iLl (l : List Int) : (iL l).length = l.length := List.length_map ..
def bdA : List Sx := [.iff (.cmp .Gt (.loc 2) (.cst (.int 0))) [.ex (.app (.loc 1) (.bin .Mod (.bi "int" [(.loc 2)]) (.cst (.int 1009)))), .asg 2 (.bin .FloorDiv (.loc 2) (.cst (.int 1009)))] []]
def bdB : List Sx := [.asg 4 (.bin .Mod (.bi "int" [(.bin .Add (.bin .Add (.bin .Mult (.loc 4) (.cst (.int 16807))) (.bin .Mult (.cst (.int 69621)) (.loc 3))) (.cst (.int 5)))]) (.cst (.int 2147483629))), .ex (.app (.loc 1) (.bin .FloorDiv (.loc 4) (.cst (.int 1009))))]
def bdC : List Sx := [.asg 2 (.bi "abs" [(.loc 5)]), .iff (.cmp .GtE (.loc 2) (.bin .Pow (.cst (.int 10)) (.cst (.int 18)))) [.forr [3] true 1 [(.cst (.int 60))] bdA] [.asg 4 (.bin .Mod (.bi "int" [(.bin .Add (.bin .Mult (.loc 2) (.cst (.int 48271))) (.cst (.int 11)))]) (.cst (.int 2147483647))), .forr [3] true 1 [(.cst (.int 12))] bdB]]
def DS (N C : List D) (as : List Int) : Sto := [.ro N, .lst (iL as), .lst C]
theorem lpA (Γ N C s c o4 as0) : ∀ (i : Nat) (fr : Frm) (S : Sto), i < 60 → (∃ (r : Int) (o3 : Option D) (as : List Int), 0 ≤ r ∧ Dr as ∧ as.length ≤ as0 + i ∧ as0 + 60 < 100000 ∧ fr = [s, some (.obj 1), some (.int r), o3, o4, c] ∧ S = DS N C as) →
    ∃ fr1 fr2 S2, tgt true [3] (.int (0 + i)) fr = some fr1 ∧ seqS (evS Γ 2997) bdA fr1 S = .nx fr2 S2 ∧ (∃ (r : Int) (o3 : Option D) (as : List Int), 0 ≤ r ∧ Dr as ∧ as.length ≤ as0 + (i + 1) ∧ as0 + 60 < 100000 ∧ fr2 = [s, some (.obj 1), some (.int r), o3, o4, c] ∧ S2 = DS N C as) := by
  rintro i _ _ hi ⟨r, o3, as, h0, hd, hl, hm, rfl, rfl⟩
  have la : (iL as).length < 1000000 := by rw [iLl]; omega
  have t9 : (1009 : Int) ≠ 0 := by decide
  have b9 : B 1000 1009 := B1M (by decide) (by decide)
  by_cases hr : 0 < r
  · refine ⟨_, _, _, g_one _ _ _, ?_, r / 1009, some (.int (0 + i)), as ++ [r % 1009], Int.ediv_nonneg h0 (by decide), hd.snoc (Int.emod_nonneg _ (by decide)) (Int.lt_trans (Int.emod_lt_of_pos _ (by decide)) (by decide)), by simp only [List.length_append, List.length_cons, List.length_nil]; omega, hm, rfl, rfl⟩
    unfold bdA DS
    simp only [lk_some, tru_bl, tru_int, tru_non, isB_bl, notB_bl, negI_int, isO_some, e_loc, e_cst, e_gl, e_gf, e_tup, e_lst, e_bin, e_neg, e_not, e_cmp, e_chn, e_and, e_or, e_ite, e_ix, e_sl, e_rev, e_call, e_cav, e_bi, e_isi, e_app, e_lc, c_and, c_or, c_not, c_cmp, c_chn, c_loc, c_call, c_bi, c_isi, s_asg, s_asgT, s_par, s_setix, ops_some, s_aug, s_ex, s_ret, s_iff, s_whl, s_forr, s_rais, s_try, q_nil, q_cons, l_nil, l_cons, a_one, a_cons, o_one, o_cons, gtI_int, i_none, i_some, f_nil, f_one, nx_ok, bk_nx, bk_rt, bk_exc, d_add, d_sub, d_subB, c_lt, c_le, c_gt, c_ge, c_eqI, c_neI, c_is0, c_isT, b_abs, b_intI, b_intB, b_lenT, x_0, x_1, x_2, n_T1, n_T2, n_T3, n_L0, i_int, i_intb, i_tup, k_0, k_tup, k_obj, h_items, h_rng, g_one, g_tup, sa_nil, sa_cons, wp_nil, wp_cons, G_fn, G_cst, List.getElem?_cons_zero, List.getElem?_cons_succ, List.set_cons_zero, List.set_cons_succ, Nat.reduceAdd, Bool.not_true, Bool.not_false, decide_true, decide_false, nxO_some, sro_some, apI_some, kT_o0, kT_x, kL_o0, kL_x, kB2_o0, kB2_x, kB1_o0, kB1_x, kN_o0, kN_x, kNb_o0, kNb_x, kTr_o0, kTr_x, kIb_o0, kIb_x, kC2_o0, kC2_x, kC1_o0, kC1_x, kH3_o0, kH3_o1, kH3_x, kH2_o0, kH2_x, kH1_o0, kH1_x, kA_o0, kA_o1, kA_x, kO_o0, kO_o1, kO_x, kI_o0, kI_o1, kI_x, kX2_o0, kX2_x, kX1_o0, kX1_x, kCl_o0, kCl_x, kBi_o0, kBi_x, kIs_o0, kIs_x, kl2_o0, kl2_x, kl1_o0, kl1_x, kS3_o0, kS3_x, kS2_o0, kS2_x, kS1_o0, kS1_x, kR2_o0, kR2_x, kR1_o0, kR1_x, kG_o0, kG_x, kCv_o0, kCv_x, kPu_o0, kPu_x, kAp_o0, kAp_x, kIt_o0, kIt_x, kLc_o0, kLc_x, kc4_o0, kc4_x, kc3_o0, kc3_x, kc2_o0, kc2_o1, kc2_x, kc1_some, kc0_some, kc0_end, sA_o0, sA_x, sT_o0, sT_x, sP2_o0, sP2_x, sP1_o0, sP1_x, sX3_o0, sX3_x, sX2_o0, sX2_x, sX1_o0, sX1_x, sG2_o0, sG2_x, sG1_o0, sG1_x, sE_o0, sE_x, sR_o0, sR_x, sI_o0, sI_o1, sI_x, sF_o0, sF_x, sRa_o0, sRa_x, thq_nx, thq_rt, thq_bk, thq_ct, thq_exc, catS_exc, catS_rt, bdW_nx, bdW_rt, bdF_nx, bdF_rt, sW_o0, sW_o1, sW_x, kf1_some, kf0_some, kf0_end, List.length_cons, List.length_nil, Nat.zero_add, Int.cast_ofNat_Int, Int.natCast_zero, Int.natCast_one, eq_self, Int.reduceLT, Int.reduceLE, Int.reduceEq, Int.reduceNeg, Int.reduceAdd, Int.reduceSub, Int.reduceMul, List.nil_append, List.cons_append, List.append_assoc, bools, Option.bind_some, Option.map_some, List.all_cons, List.all_nil, id, Bool.and_true, Bool.true_and, Bool.and_false, Bool.false_and, it_get0, it_hd, it_get, it_tl, onO_some, fLen_e, fAll_e, fAny_e, fTup_e, b_lenO, b_all, b_any, b_tupO, ps_0, ps_1, ps_2, ps_3, len_app, Nat.reduceLT, List.any_cons, List.any_nil, Bool.or_false, Bool.or_true, Bool.true_or, Bool.false_or, List.getElem?_nil, ↓reduceIte, Int.reduceToNat, k_rng, Int.toNat_natCast, x_obj, fAt_0, fAt_1, fAt_2, zipO_s, k_zipE, zipE_s, zipE_n, zipN_s, h_zip, sq_obj, sq_items, Nat.reduceLeDiff, and_self, and_true, true_and, Nat.zero_le, Nat.le_refl, hr, d_mod, t9, ne_eq, not_false_eq_true, fmodP (show (0 : Int) ≤ 1009 by decide), ps_c1, la, iLs, d_fdiv, b9, fdivP (show (0 : Int) ≤ 1009 by decide)]
  · refine ⟨_, _, _, g_one _ _ _, ?_, r, some (.int (0 + i)), as, h0, hd, by omega, hm, rfl, rfl⟩
    unfold bdA DS
    simp only [lk_some, tru_bl, tru_int, tru_non, isB_bl, notB_bl, negI_int, isO_some, e_loc, e_cst, e_gl, e_gf, e_tup, e_lst, e_bin, e_neg, e_not, e_cmp, e_chn, e_and, e_or, e_ite, e_ix, e_sl, e_rev, e_call, e_cav, e_bi, e_isi, e_app, e_lc, c_and, c_or, c_not, c_cmp, c_chn, c_loc, c_call, c_bi, c_isi, s_asg, s_asgT, s_par, s_setix, ops_some, s_aug, s_ex, s_ret, s_iff, s_whl, s_forr, s_rais, s_try, q_nil, q_cons, l_nil, l_cons, a_one, a_cons, o_one, o_cons, gtI_int, i_none, i_some, f_nil, f_one, nx_ok, bk_nx, bk_rt, bk_exc, d_add, d_sub, d_subB, c_lt, c_le, c_gt, c_ge, c_eqI, c_neI, c_is0, c_isT, b_abs, b_intI, b_intB, b_lenT, x_0, x_1, x_2, n_T1, n_T2, n_T3, n_L0, i_int, i_intb, i_tup, k_0, k_tup, k_obj, h_items, h_rng, g_one, g_tup, sa_nil, sa_cons, wp_nil, wp_cons, G_fn, G_cst, List.getElem?_cons_zero, List.getElem?_cons_succ, List.set_cons_zero, List.set_cons_succ, Nat.reduceAdd, Bool.not_true, Bool.not_false, decide_true, decide_false, nxO_some, sro_some, apI_some, kT_o0, kT_x, kL_o0, kL_x, kB2_o0, kB2_x, kB1_o0, kB1_x, kN_o0, kN_x, kNb_o0, kNb_x, kTr_o0, kTr_x, kIb_o0, kIb_x, kC2_o0, kC2_x, kC1_o0, kC1_x, kH3_o0, kH3_o1, kH3_x, kH2_o0, kH2_x, kH1_o0, kH1_x, kA_o0, kA_o1, kA_x, kO_o0, kO_o1, kO_x, kI_o0, kI_o1, kI_x, kX2_o0, kX2_x, kX1_o0, kX1_x, kCl_o0, kCl_x, kBi_o0, kBi_x, kIs_o0, kIs_x, kl2_o0, kl2_x, kl1_o0, kl1_x, kS3_o0, kS3_x, kS2_o0, kS2_x, kS1_o0, kS1_x, kR2_o0, kR2_x, kR1_o0, kR1_x, kG_o0, kG_x, kCv_o0, kCv_x, kPu_o0, kPu_x, kAp_o0, kAp_x, kIt_o0, kIt_x, kLc_o0, kLc_x, kc4_o0, kc4_x, kc3_o0, kc3_x, kc2_o0, kc2_o1, kc2_x, kc1_some, kc0_some, kc0_end, sA_o0, sA_x, sT_o0, sT_x, sP2_o0, sP2_x, sP1_o0, sP1_x, sX3_o0, sX3_x, sX2_o0, sX2_x, sX1_o0, sX1_x, sG2_o0, sG2_x, sG1_o0, sG1_x, sE_o0, sE_x, sR_o0, sR_x, sI_o0, sI_o1, sI_x, sF_o0, sF_x, sRa_o0, sRa_x, thq_nx, thq_rt, thq_bk, thq_ct, thq_exc, catS_exc, catS_rt, bdW_nx, bdW_rt, bdF_nx, bdF_rt, sW_o0, sW_o1, sW_x, kf1_some, kf0_some, kf0_end, List.length_cons, List.length_nil, Nat.zero_add, Int.cast_ofNat_Int, Int.natCast_zero, Int.natCast_one, eq_self, Int.reduceLT, Int.reduceLE, Int.reduceEq, Int.reduceNeg, Int.reduceAdd, Int.reduceSub, Int.reduceMul, List.nil_append, List.cons_append, List.append_assoc, bools, Option.bind_some, Option.map_some, List.all_cons, List.all_nil, id, Bool.and_true, Bool.true_and, Bool.and_false, Bool.false_and, it_get0, it_hd, it_get, it_tl, onO_some, fLen_e, fAll_e, fAny_e, fTup_e, b_lenO, b_all, b_any, b_tupO, ps_0, ps_1, ps_2, ps_3, len_app, Nat.reduceLT, List.any_cons, List.any_nil, Bool.or_false, Bool.or_true, Bool.true_or, Bool.false_or, List.getElem?_nil, ↓reduceIte, Int.reduceToNat, k_rng, Int.toNat_natCast, x_obj, fAt_0, fAt_1, fAt_2, zipO_s, k_zipE, zipE_s, zipE_n, zipN_s, h_zip, sq_obj, sq_items, Nat.reduceLeDiff, and_self, and_true, true_and, Nat.zero_le, Nat.le_refl, hr]
theorem B32 {x : Int} (h : 0 ≤ x) (h' : x < 2147483648) : B 1000 x := B.mono (j := 31) (by unfold B; have : (2 : Nat) ^ 31 = 2147483648 := rfl; omega) (by decide)
theorem lpB (Γ N C s c r as0) : ∀ (i : Nat) (fr : Frm) (S : Sto), i < 12 → (∃ (m : Int) (o3 : Option D) (as : List Int), (0 ≤ m ∧ m < 2147483648) ∧ Dr as ∧ as.length ≤ as0 + i ∧ as0 + 60 < 100000 ∧ fr = [s, some (.obj 1), r, o3, some (.int m), c] ∧ S = DS N C as) →
    ∃ fr1 fr2 S2, tgt true [3] (.int (0 + i)) fr = some fr1 ∧ seqS (evS Γ 2997) bdB fr1 S = .nx fr2 S2 ∧ (∃ (m : Int) (o3 : Option D) (as : List Int), (0 ≤ m ∧ m < 2147483648) ∧ Dr as ∧ as.length ≤ as0 + (i + 1) ∧ as0 + 60 < 100000 ∧ fr2 = [s, some (.obj 1), r, o3, some (.int m), c] ∧ S2 = DS N C as) := by
  rintro i _ _ hi ⟨m, o3, as, h0, hd, hl, hm, rfl, rfl⟩
  have la : (iL as).length < 1000000 := by rw [iLl]; omega
  have t9 : (1009 : Int) ≠ 0 := by decide
  have b9 : B 1000 1009 := B1M (by decide) (by decide)
  have t8 : (2147483629 : Int) ≠ 0 := by decide
  have b1 := B32 h0.1 h0.2
  have b2 : B 1000 16807 := B1M (by decide) (by decide)
  have b3 : B 1000 69621 := B1M (by decide) (by decide)
  have b4 : B 1000 (0 + i : Int) := B1M (by omega) (by omega)
  obtain ⟨z, hz⟩ : ∃ z, (m * 16807 + 69621 * (0 + (i : Int)) + 5) % 2147483629 = z := ⟨_, rfl⟩
  have z0 : 0 ≤ z := by omega
  have z1 : z < 2147483629 := by omega
  refine ⟨_, _, _, g_one _ _ _, ?_, z, some (.int (0 + i)), as ++ [z / 1009], ⟨z0, by omega⟩, hd.snoc (by omega) (by omega), by simp only [List.length_append, List.length_cons, List.length_nil]; omega, hm, rfl, rfl⟩
  unfold bdB DS
  simp only [lk_some, tru_bl, tru_int, tru_non, isB_bl, notB_bl, negI_int, isO_some, e_loc, e_cst, e_gl, e_gf, e_tup, e_lst, e_bin, e_neg, e_not, e_cmp, e_chn, e_and, e_or, e_ite, e_ix, e_sl, e_rev, e_call, e_cav, e_bi, e_isi, e_app, e_lc, c_and, c_or, c_not, c_cmp, c_chn, c_loc, c_call, c_bi, c_isi, s_asg, s_asgT, s_par, s_setix, ops_some, s_aug, s_ex, s_ret, s_iff, s_whl, s_forr, s_rais, s_try, q_nil, q_cons, l_nil, l_cons, a_one, a_cons, o_one, o_cons, gtI_int, i_none, i_some, f_nil, f_one, nx_ok, bk_nx, bk_rt, bk_exc, d_add, d_sub, d_subB, c_lt, c_le, c_gt, c_ge, c_eqI, c_neI, c_is0, c_isT, b_abs, b_intI, b_intB, b_lenT, x_0, x_1, x_2, n_T1, n_T2, n_T3, n_L0, i_int, i_intb, i_tup, k_0, k_tup, k_obj, h_items, h_rng, g_one, g_tup, sa_nil, sa_cons, wp_nil, wp_cons, G_fn, G_cst, List.getElem?_cons_zero, List.getElem?_cons_succ, List.set_cons_zero, List.set_cons_succ, Nat.reduceAdd, Bool.not_true, Bool.not_false, decide_true, decide_false, nxO_some, sro_some, apI_some, kT_o0, kT_x, kL_o0, kL_x, kB2_o0, kB2_x, kB1_o0, kB1_x, kN_o0, kN_x, kNb_o0, kNb_x, kTr_o0, kTr_x, kIb_o0, kIb_x, kC2_o0, kC2_x, kC1_o0, kC1_x, kH3_o0, kH3_o1, kH3_x, kH2_o0, kH2_x, kH1_o0, kH1_x, kA_o0, kA_o1, kA_x, kO_o0, kO_o1, kO_x, kI_o0, kI_o1, kI_x, kX2_o0, kX2_x, kX1_o0, kX1_x, kCl_o0, kCl_x, kBi_o0, kBi_x, kIs_o0, kIs_x, kl2_o0, kl2_x, kl1_o0, kl1_x, kS3_o0, kS3_x, kS2_o0, kS2_x, kS1_o0, kS1_x, kR2_o0, kR2_x, kR1_o0, kR1_x, kG_o0, kG_x, kCv_o0, kCv_x, kPu_o0, kPu_x, kAp_o0, kAp_x, kIt_o0, kIt_x, kLc_o0, kLc_x, kc4_o0, kc4_x, kc3_o0, kc3_x, kc2_o0, kc2_o1, kc2_x, kc1_some, kc0_some, kc0_end, sA_o0, sA_x, sT_o0, sT_x, sP2_o0, sP2_x, sP1_o0, sP1_x, sX3_o0, sX3_x, sX2_o0, sX2_x, sX1_o0, sX1_x, sG2_o0, sG2_x, sG1_o0, sG1_x, sE_o0, sE_x, sR_o0, sR_x, sI_o0, sI_o1, sI_x, sF_o0, sF_x, sRa_o0, sRa_x, thq_nx, thq_rt, thq_bk, thq_ct, thq_exc, catS_exc, catS_rt, bdW_nx, bdW_rt, bdF_nx, bdF_rt, sW_o0, sW_o1, sW_x, kf1_some, kf0_some, kf0_end, List.length_cons, List.length_nil, Nat.zero_add, Int.cast_ofNat_Int, Int.natCast_zero, Int.natCast_one, eq_self, Int.reduceLT, Int.reduceLE, Int.reduceEq, Int.reduceNeg, Int.reduceAdd, Int.reduceSub, Int.reduceMul, List.nil_append, List.cons_append, List.append_assoc, bools, Option.bind_some, Option.map_some, List.all_cons, List.all_nil, id, Bool.and_true, Bool.true_and, Bool.and_false, Bool.false_and, it_get0, it_hd, it_get, it_tl, onO_some, fLen_e, fAll_e, fAny_e, fTup_e, b_lenO, b_all, b_any, b_tupO, ps_0, ps_1, ps_2, ps_3, len_app, Nat.reduceLT, List.any_cons, List.any_nil, Bool.or_false, Bool.or_true, Bool.true_or, Bool.false_or, List.getElem?_nil, ↓reduceIte, Int.reduceToNat, k_rng, Int.toNat_natCast, x_obj, fAt_0, fAt_1, fAt_2, zipO_s, k_zipE, zipE_s, zipE_n, zipN_s, h_zip, sq_obj, sq_items, Nat.reduceLeDiff, and_self, and_true, true_and, Nat.zero_le, Nat.le_refl, d_mul, b1, b2, b3, b4, d_mod, t8, t9, ne_eq, not_false_eq_true, fmodP (show (0 : Int) ≤ 2147483629 by decide), hz, ps_c1, la, iLs, d_fdiv, b9, fdivP (show (0 : Int) ≤ 1009 by decide)]
theorem d_pow (S : Sto) : binD .Pow (.int 10) (.int 18) S = .ok (.int 1000000000000000000) S := of_eq_true (eq_self _)
theorem lpC (Γ N s) (cs : List Int) : ∀ (i : Nat) (d : D) (fr : Frm) (S : Sto), (iL cs)[i]? = some d → (∃ (o2 o3 o4 o5 : Option D) (as : List Int), Dr as ∧ as.length ≤ 60 * i ∧ i ≤ 63 ∧ cs.length ≤ 63 ∧ fr = [s, some (.obj 1), o2, o3, o4, o5] ∧ S = DS N (iL cs) as) →
    ∃ fr1 fr2 S2, tgt true [5] d fr = some fr1 ∧ seqS (evS Γ 2999) bdC fr1 S = .nx fr2 S2 ∧ (∃ (o2 o3 o4 o5 : Option D) (as : List Int), Dr as ∧ as.length ≤ 60 * (i + 1) ∧ i + 1 ≤ 63 ∧ cs.length ≤ 63 ∧ fr2 = [s, some (.obj 1), o2, o3, o4, o5] ∧ S2 = DS N (iL cs) as) := by
  rintro i d _ _ hg ⟨o2, o3, o4, o5, as, hd, hl, hi, hc, rfl, rfl⟩
  have hic : i < cs.length := by
    have := (List.getElem?_eq_some_iff.mp hg).1
    rwa [iLl] at this
  obtain ⟨c, rfl⟩ : ∃ c, d = .int c := by
    unfold iL at hg
    rw [List.getElem?_map] at hg
    cases h : cs[i]? with
    | none => rw [h] at hg; cases hg
    | some c => rw [h] at hg; cases hg; exact ⟨c, rfl⟩
  by_cases hb : (1000000000000000000 : Int) ≤ (c.natAbs : Int)
  · obtain ⟨fr', S', e, r', p3, as', h0', hd', hl', _, rfl, rfl⟩ := for_rng (lpA Γ N (iL cs) s (some (.int c)) o4 as.length) 60 0 2997 _ _ rfl (by decide) ⟨(c.natAbs : Int), o3, as, by omega, hd, by omega, by omega, rfl, rfl⟩
    refine ⟨_, _, _, g_one _ _ _, ?_, some (.int r'), p3, o4, some (.int c), as', hd', by omega, by omega, hc, rfl, rfl⟩
    unfold bdC
    simp only [lk_some, tru_bl, tru_int, tru_non, isB_bl, notB_bl, negI_int, isO_some, e_loc, e_cst, e_gl, e_gf, e_tup, e_lst, e_bin, e_neg, e_not, e_cmp, e_chn, e_and, e_or, e_ite, e_ix, e_sl, e_rev, e_call, e_cav, e_bi, e_isi, e_app, e_lc, c_and, c_or, c_not, c_cmp, c_chn, c_loc, c_call, c_bi, c_isi, s_asg, s_asgT, s_par, s_setix, ops_some, s_aug, s_ex, s_ret, s_iff, s_whl, s_forr, s_rais, s_try, q_nil, q_cons, l_nil, l_cons, a_one, a_cons, o_one, o_cons, gtI_int, i_none, i_some, f_nil, f_one, nx_ok, bk_nx, bk_rt, bk_exc, d_add, d_sub, d_subB, c_lt, c_le, c_gt, c_ge, c_eqI, c_neI, c_is0, c_isT, b_abs, b_intI, b_intB, b_lenT, x_0, x_1, x_2, n_T1, n_T2, n_T3, n_L0, i_int, i_intb, i_tup, k_0, k_tup, k_obj, h_items, h_rng, g_one, g_tup, sa_nil, sa_cons, wp_nil, wp_cons, G_fn, G_cst, List.getElem?_cons_zero, List.getElem?_cons_succ, List.set_cons_zero, List.set_cons_succ, Nat.reduceAdd, Bool.not_true, Bool.not_false, decide_true, decide_false, nxO_some, sro_some, apI_some, kT_o0, kT_x, kL_o0, kL_x, kB2_o0, kB2_x, kB1_o0, kB1_x, kN_o0, kN_x, kNb_o0, kNb_x, kTr_o0, kTr_x, kIb_o0, kIb_x, kC2_o0, kC2_x, kC1_o0, kC1_x, kH3_o0, kH3_o1, kH3_x, kH2_o0, kH2_x, kH1_o0, kH1_x, kA_o0, kA_o1, kA_x, kO_o0, kO_o1, kO_x, kI_o0, kI_o1, kI_x, kX2_o0, kX2_x, kX1_o0, kX1_x, kCl_o0, kCl_x, kBi_o0, kBi_x, kIs_o0, kIs_x, kl2_o0, kl2_x, kl1_o0, kl1_x, kS3_o0, kS3_x, kS2_o0, kS2_x, kS1_o0, kS1_x, kR2_o0, kR2_x, kR1_o0, kR1_x, kG_o0, kG_x, kCv_o0, kCv_x, kPu_o0, kPu_x, kAp_o0, kAp_x, kIt_o0, kIt_x, kLc_o0, kLc_x, kc4_o0, kc4_x, kc3_o0, kc3_x, kc2_o0, kc2_o1, kc2_x, kc1_some, kc0_some, kc0_end, sA_o0, sA_x, sT_o0, sT_x, sP2_o0, sP2_x, sP1_o0, sP1_x, sX3_o0, sX3_x, sX2_o0, sX2_x, sX1_o0, sX1_x, sG2_o0, sG2_x, sG1_o0, sG1_x, sE_o0, sE_x, sR_o0, sR_x, sI_o0, sI_o1, sI_x, sF_o0, sF_x, sRa_o0, sRa_x, thq_nx, thq_rt, thq_bk, thq_ct, thq_exc, catS_exc, catS_rt, bdW_nx, bdW_rt, bdF_nx, bdF_rt, sW_o0, sW_o1, sW_x, kf1_some, kf0_some, kf0_end, List.length_cons, List.length_nil, Nat.zero_add, Int.cast_ofNat_Int, Int.natCast_zero, Int.natCast_one, eq_self, Int.reduceLT, Int.reduceLE, Int.reduceEq, Int.reduceNeg, Int.reduceAdd, Int.reduceSub, Int.reduceMul, List.nil_append, List.cons_append, List.append_assoc, bools, Option.bind_some, Option.map_some, List.all_cons, List.all_nil, id, Bool.and_true, Bool.true_and, Bool.and_false, Bool.false_and, it_get0, it_hd, it_get, it_tl, onO_some, fLen_e, fAll_e, fAny_e, fTup_e, b_lenO, b_all, b_any, b_tupO, ps_0, ps_1, ps_2, ps_3, len_app, Nat.reduceLT, List.any_cons, List.any_nil, Bool.or_false, Bool.or_true, Bool.true_or, Bool.false_or, List.getElem?_nil, ↓reduceIte, Int.reduceToNat, k_rng, Int.toNat_natCast, x_obj, fAt_0, fAt_1, fAt_2, zipO_s, k_zipE, zipE_s, zipE_n, zipN_s, h_zip, sq_obj, sq_items, Nat.reduceLeDiff, and_self, and_true, true_and, Nat.zero_le, Nat.le_refl, d_pow, hb, e]
  · have b1 : B 1000 (c.natAbs : Int) := B.mono (j := 60) (by unfold B; have : (2 : Nat) ^ 60 = 1152921504606846976 := rfl; omega) (by decide)
    have b2 : B 1000 48271 := B1M (by decide) (by decide)
    have t8 : (2147483647 : Int) ≠ 0 := by decide
    obtain ⟨z, hz⟩ : ∃ z, ((c.natAbs : Int) * 48271 + 11) % 2147483647 = z := ⟨_, rfl⟩
    obtain ⟨fr', S', e, m', p3, as', h0', hd', hl', _, rfl, rfl⟩ := for_rng (lpB Γ N (iL cs) s (some (.int c)) (some (.int (c.natAbs : Int))) as.length) 12 0 2997 _ _ rfl (by decide) ⟨z, o3, as, ⟨by omega, by omega⟩, hd, by omega, by omega, rfl, rfl⟩
    refine ⟨_, _, _, g_one _ _ _, ?_, some (.int (c.natAbs : Int)), p3, some (.int m'), some (.int c), as', hd', by omega, by omega, hc, rfl, rfl⟩
    unfold bdC
    simp only [lk_some, tru_bl, tru_int, tru_non, isB_bl, notB_bl, negI_int, isO_some, e_loc, e_cst, e_gl, e_gf, e_tup, e_lst, e_bin, e_neg, e_not, e_cmp, e_chn, e_and, e_or, e_ite, e_ix, e_sl, e_rev, e_call, e_cav, e_bi, e_isi, e_app, e_lc, c_and, c_or, c_not, c_cmp, c_chn, c_loc, c_call, c_bi, c_isi, s_asg, s_asgT, s_par, s_setix, ops_some, s_aug, s_ex, s_ret, s_iff, s_whl, s_forr, s_rais, s_try, q_nil, q_cons, l_nil, l_cons, a_one, a_cons, o_one, o_cons, gtI_int, i_none, i_some, f_nil, f_one, nx_ok, bk_nx, bk_rt, bk_exc, d_add, d_sub, d_subB, c_lt, c_le, c_gt, c_ge, c_eqI, c_neI, c_is0, c_isT, b_abs, b_intI, b_intB, b_lenT, x_0, x_1, x_2, n_T1, n_T2, n_T3, n_L0, i_int, i_intb, i_tup, k_0, k_tup, k_obj, h_items, h_rng, g_one, g_tup, sa_nil, sa_cons, wp_nil, wp_cons, G_fn, G_cst, List.getElem?_cons_zero, List.getElem?_cons_succ, List.set_cons_zero, List.set_cons_succ, Nat.reduceAdd, Bool.not_true, Bool.not_false, decide_true, decide_false, nxO_some, sro_some, apI_some, kT_o0, kT_x, kL_o0, kL_x, kB2_o0, kB2_x, kB1_o0, kB1_x, kN_o0, kN_x, kNb_o0, kNb_x, kTr_o0, kTr_x, kIb_o0, kIb_x, kC2_o0, kC2_x, kC1_o0, kC1_x, kH3_o0, kH3_o1, kH3_x, kH2_o0, kH2_x, kH1_o0, kH1_x, kA_o0, kA_o1, kA_x, kO_o0, kO_o1, kO_x, kI_o0, kI_o1, kI_x, kX2_o0, kX2_x, kX1_o0, kX1_x, kCl_o0, kCl_x, kBi_o0, kBi_x, kIs_o0, kIs_x, kl2_o0, kl2_x, kl1_o0, kl1_x, kS3_o0, kS3_x, kS2_o0, kS2_x, kS1_o0, kS1_x, kR2_o0, kR2_x, kR1_o0, kR1_x, kG_o0, kG_x, kCv_o0, kCv_x, kPu_o0, kPu_x, kAp_o0, kAp_x, kIt_o0, kIt_x, kLc_o0, kLc_x, kc4_o0, kc4_x, kc3_o0, kc3_x, kc2_o0, kc2_o1, kc2_x, kc1_some, kc0_some, kc0_end, sA_o0, sA_x, sT_o0, sT_x, sP2_o0, sP2_x, sP1_o0, sP1_x, sX3_o0, sX3_x, sX2_o0, sX2_x, sX1_o0, sX1_x, sG2_o0, sG2_x, sG1_o0, sG1_x, sE_o0, sE_x, sR_o0, sR_x, sI_o0, sI_o1, sI_x, sF_o0, sF_x, sRa_o0, sRa_x, thq_nx, thq_rt, thq_bk, thq_ct, thq_exc, catS_exc, catS_rt, bdW_nx, bdW_rt, bdF_nx, bdF_rt, sW_o0, sW_o1, sW_x, kf1_some, kf0_some, kf0_end, List.length_cons, List.length_nil, Nat.zero_add, Int.cast_ofNat_Int, Int.natCast_zero, Int.natCast_one, eq_self, Int.reduceLT, Int.reduceLE, Int.reduceEq, Int.reduceNeg, Int.reduceAdd, Int.reduceSub, Int.reduceMul, List.nil_append, List.cons_append, List.append_assoc, bools, Option.bind_some, Option.map_some, List.all_cons, List.all_nil, id, Bool.and_true, Bool.true_and, Bool.and_false, Bool.false_and, it_get0, it_hd, it_get, it_tl, onO_some, fLen_e, fAll_e, fAny_e, fTup_e, b_lenO, b_all, b_any, b_tupO, ps_0, ps_1, ps_2, ps_3, len_app, Nat.reduceLT, List.any_cons, List.any_nil, Bool.or_false, Bool.or_true, Bool.true_or, Bool.false_or, List.getElem?_nil, ↓reduceIte, Int.reduceToNat, k_rng, Int.toNat_natCast, x_obj, fAt_0, fAt_1, fAt_2, zipO_s, k_zipE, zipE_s, zipE_n, zipN_s, h_zip, sq_obj, sq_items, Nat.reduceLeDiff, and_self, and_true, true_and, Nat.zero_le, Nat.le_refl, d_pow, hb, d_mul, b1, b2, d_mod, t8, ne_eq, not_false_eq_true, fmodP (show (0 : Int) ≤ 2147483647 by decide), hz, e]
theorem cut63 (ns : List Int) : cutD (iL ns) none (some 63) = iL (ns.take 63) := by
  unfold cutD iL
  have h1 : HT.sIx (ns.map D.int).length 0 none = 0 := by simp [HT.sIx]
  have h2 : HT.sIx (ns.map D.int).length (ns.map D.int).length (some 63) = min 63 ns.length := by simp [HT.sIx]
  rw [h1, h2, List.drop_zero, Nat.sub_zero, List.map_take, List.take_eq_take_iff, List.length_map]
  omega
theorem sl_O {S : Sto} {a : Nat} {l : List D} {lo hi : Option Int} (h : items S a = some l) (hl : l.length ≤ 1000000) (hc : (cutD l lo hi).length ≤ 1000000) : slD (.obj a) lo hi S = .ok (.obj S.length) (S ++ [.lst (cutD l lo hi)]) := by
  show (match items S a with
    | some l => if l.length ≤ LIM then new S (cutD l lo hi) else .bad
    | none => .bad) = _
  rw [h]
  exact (if_pos hl).trans (if_pos hc)
theorem p26 (n) (ns : List Int) (hn : ns.length ≤ 63) : ∃ as C, run (n+1) 0 [.obj 0] [.ro (iL ns)] = .ok (.obj 1) (DS (iL ns) C as) ∧ Dr as ∧ as.length ≤ 3780 := by
  have hc : (ns.take 63).length ≤ 63 := List.length_take_le ..
  obtain ⟨fr', S', e, o2, o3, o4, o5, as, hd, hl, _, _, rfl, rfl⟩ := for_obj (o := 2) (l := iL (ns.take 63)) (b := seqS (evS (G n) 2999) bdC) (fun i fr S h => by
    obtain ⟨_, _, _, _, as, _, _, _, _, _, rfl⟩ := h
    rfl) (lpC (G n) (iL ns) (some (.obj 0)) (ns.take 63)) (iL (ns.take 63)).length 0 2999 [some (.obj 0), some (.obj 1), none, none, none, none] _ (by omega) (by rw [iLl]; omega) ⟨none, none, none, none, [], (fun x hx => by cases hx), by simp, by omega, hc, rfl, rfl⟩
  refine ⟨as, iL (ns.take 63), ?_, hd, by rw [iLl] at hl; omega⟩
  rw [r0]
  show (seqS (evS (G n) 3000) [.asg 1 (.lst []), .forr [5] true 0 [(.sl (.loc 0) none (some (.cst (.int 63))))] bdC, .ret (.loc 1)] [some (.obj 0), none, none, none, none, none] [.ro (iL ns)]).back = _
  have hs : slD (.obj 0) none (some 63) [.ro (iL ns), .lst []] = .ok (.obj 2) (DS (iL ns) (iL (ns.take 63)) []) := by
    rw [sl_O (l := iL ns) rfl (by rw [iLl]; omega) (by rw [cut63, iLl]; omega), cut63]
    rfl
  simp only [lk_some, tru_bl, tru_int, tru_non, isB_bl, notB_bl, negI_int, isO_some, e_loc, e_cst, e_gl, e_gf, e_tup, e_lst, e_bin, e_neg, e_not, e_cmp, e_chn, e_and, e_or, e_ite, e_ix, e_sl, e_rev, e_call, e_cav, e_bi, e_isi, e_app, e_lc, c_and, c_or, c_not, c_cmp, c_chn, c_loc, c_call, c_bi, c_isi, s_asg, s_asgT, s_par, s_setix, ops_some, s_aug, s_ex, s_ret, s_iff, s_whl, s_forr, s_rais, s_try, q_nil, q_cons, l_nil, l_cons, a_one, a_cons, o_one, o_cons, gtI_int, i_none, i_some, f_nil, f_one, nx_ok, bk_nx, bk_rt, bk_exc, d_add, d_sub, d_subB, c_lt, c_le, c_gt, c_ge, c_eqI, c_neI, c_is0, c_isT, b_abs, b_intI, b_intB, b_lenT, x_0, x_1, x_2, n_T1, n_T2, n_T3, n_L0, i_int, i_intb, i_tup, k_0, k_tup, k_obj, h_items, h_rng, g_one, g_tup, sa_nil, sa_cons, wp_nil, wp_cons, G_fn, G_cst, List.getElem?_cons_zero, List.getElem?_cons_succ, List.set_cons_zero, List.set_cons_succ, Nat.reduceAdd, Bool.not_true, Bool.not_false, decide_true, decide_false, nxO_some, sro_some, apI_some, kT_o0, kT_x, kL_o0, kL_x, kB2_o0, kB2_x, kB1_o0, kB1_x, kN_o0, kN_x, kNb_o0, kNb_x, kTr_o0, kTr_x, kIb_o0, kIb_x, kC2_o0, kC2_x, kC1_o0, kC1_x, kH3_o0, kH3_o1, kH3_x, kH2_o0, kH2_x, kH1_o0, kH1_x, kA_o0, kA_o1, kA_x, kO_o0, kO_o1, kO_x, kI_o0, kI_o1, kI_x, kX2_o0, kX2_x, kX1_o0, kX1_x, kCl_o0, kCl_x, kBi_o0, kBi_x, kIs_o0, kIs_x, kl2_o0, kl2_x, kl1_o0, kl1_x, kS3_o0, kS3_x, kS2_o0, kS2_x, kS1_o0, kS1_x, kR2_o0, kR2_x, kR1_o0, kR1_x, kG_o0, kG_x, kCv_o0, kCv_x, kPu_o0, kPu_x, kAp_o0, kAp_x, kIt_o0, kIt_x, kLc_o0, kLc_x, kc4_o0, kc4_x, kc3_o0, kc3_x, kc2_o0, kc2_o1, kc2_x, kc1_some, kc0_some, kc0_end, sA_o0, sA_x, sT_o0, sT_x, sP2_o0, sP2_x, sP1_o0, sP1_x, sX3_o0, sX3_x, sX2_o0, sX2_x, sX1_o0, sX1_x, sG2_o0, sG2_x, sG1_o0, sG1_x, sE_o0, sE_x, sR_o0, sR_x, sI_o0, sI_o1, sI_x, sF_o0, sF_x, sRa_o0, sRa_x, thq_nx, thq_rt, thq_bk, thq_ct, thq_exc, catS_exc, catS_rt, bdW_nx, bdW_rt, bdF_nx, bdF_rt, sW_o0, sW_o1, sW_x, kf1_some, kf0_some, kf0_end, List.length_cons, List.length_nil, Nat.zero_add, Int.cast_ofNat_Int, Int.natCast_zero, Int.natCast_one, eq_self, Int.reduceLT, Int.reduceLE, Int.reduceEq, Int.reduceNeg, Int.reduceAdd, Int.reduceSub, Int.reduceMul, List.nil_append, List.cons_append, List.append_assoc, bools, Option.bind_some, Option.map_some, List.all_cons, List.all_nil, id, Bool.and_true, Bool.true_and, Bool.and_false, Bool.false_and, it_get0, it_hd, it_get, it_tl, onO_some, fLen_e, fAll_e, fAny_e, fTup_e, b_lenO, b_all, b_any, b_tupO, ps_0, ps_1, ps_2, ps_3, len_app, Nat.reduceLT, List.any_cons, List.any_nil, Bool.or_false, Bool.or_true, Bool.true_or, Bool.false_or, List.getElem?_nil, ↓reduceIte, Int.reduceToNat, k_rng, Int.toNat_natCast, x_obj, fAt_0, fAt_1, fAt_2, zipO_s, k_zipE, zipE_s, zipE_n, zipN_s, h_zip, sq_obj, sq_items, Nat.reduceLeDiff, and_self, and_true, true_and, Nat.zero_le, Nat.le_refl, hs, e]
/-- the store of the law: the draws at 1, the place at 3; at most p draws are taken -/
def Inv (as : List Int) (S : Sto) (p : Nat) : Prop := Dr as ∧ as.length ≤ 3780 ∧ S[1]? = some (.lst (iL as)) ∧ ∃ q : Nat, q ≤ p ∧ S[3]? = some (.lst [.int q])
/-- all other objects are kept -/
def Kp (S S' : Sto) : Prop := ∀ k x, k ≠ 3 → S[k]? = some x → S'[k]? = some x
theorem Kp.refl (S) : Kp S S := fun _ _ _ h => h
theorem Kp.trans {S S' S''} (h : Kp S S') (h' : Kp S' S'') : Kp S S'' := fun k x hk e => h' k x hk (h k x hk e)
theorem Kp.app (S T : Sto) : Kp S (S ++ T) := fun k x _ e => by
  have := (List.getElem?_eq_some_iff.mp e).1
  rw [List.getElem?_append_left this]; exact e
theorem Kp.set (S : Sto) (x) : Kp S (S.set 3 x) := fun k y hk e => by
  rw [List.getElem?_set_ne (by omega)]; exact e
theorem Inv.mono {as S p p'} (h : Inv as S p) (l : p ≤ p') : Inv as S p' := by
  obtain ⟨a, b, c, q, d, e⟩ := h
  exact ⟨a, b, c, q, by omega, e⟩
theorem Inv.app {as S p} (h : Inv as S p) (T : Sto) : Inv as (S ++ T) p := by
  obtain ⟨a, b, c, q, d, e⟩ := h
  refine ⟨a, b, Kp.app S T 1 _ (by decide) c, q, d, ?_⟩
  have := (List.getElem?_eq_some_iff.mp e).1
  rw [List.getElem?_append_left this]; exact e
def bdM : List Sx := [.iff (.loc 0) [.asg 2 (.bin .Add (.loc 2) (.ix (.loc 0) (.bin .Mod (.bi "int" [(.bin .Add (.bin .Mult (.loc 1) (.bin .Add (.loc 3) (.cst (.int 5)))) (.loc 3))]) (.bi "len" [(.loc 0)]))))] [], .asg 2 (.bin .Mod (.bi "int" [(.bin .Add (.bin .Add (.bin .Mult (.loc 2) (.cst (.int 16807))) (.bin .Mult (.cst (.int 69621)) (.loc 3))) (.cst (.int 5)))]) (.cst (.int 2147483629)))]
theorem tru_obj (S k l) (h : items S k = some l) : tru S (.obj k) = .ok (.bl (!l.isEmpty)) S := by
  show (match (items S k).map (fun l => !l.isEmpty) with | some b => R.ok (D.bl b) S | none => .bad) = _
  rw [h]; rfl
theorem iL_at {as : List Int} {j : Nat} (h : j < as.length) : atI (iL as) (j : Int) = some (.int as[j]) := atI_nat (by unfold iL; rw [List.getElem?_map, List.getElem?_eq_getElem h]; rfl)
theorem lpM (Γ S0) (as : List Int) (pl : Int) (hd : Dr as) (hl : as.length ≤ 3780) (hS : items S0 1 = some (iL as)) (hp : 0 ≤ pl ∧ pl < 100000) : ∀ (i : Nat) (fr : Frm) (S : Sto), i < 3 → (∃ (m : Int) (o3 : Option D), (0 ≤ m ∧ m < 2147483648) ∧ fr = [some (.obj 1), some (.int pl), some (.int m), o3] ∧ S = S0) →
    ∃ fr1 fr2 S2, tgt true [3] (.int (0 + i)) fr = some fr1 ∧ seqS (evS Γ 2999) bdM fr1 S = .nx fr2 S2 ∧ (∃ (m : Int) (o3 : Option D), (0 ≤ m ∧ m < 2147483648) ∧ fr2 = [some (.obj 1), some (.int pl), some (.int m), o3] ∧ S2 = S0) := by
  rintro i _ S hi ⟨m, o3, hm, rfl, rfl⟩
  have t8 : (2147483629 : Int) ≠ 0 := by decide
  have b2 : B 1000 16807 := B1M (by decide) (by decide)
  have b3 : B 1000 69621 := B1M (by decide) (by decide)
  have b4 : B 1000 (0 + i : Int) := B1M (by omega) (by omega)
  by_cases he : as = []
  · subst he
    obtain ⟨z, hz⟩ : ∃ z, (m * 16807 + 69621 * (0 + (i : Int)) + 5) % 2147483629 = z := ⟨_, rfl⟩
    refine ⟨_, _, _, g_one _ _ _, ?_, z, some (.int (0 + i)), ⟨by omega, by omega⟩, rfl, rfl⟩
    have b1 := B32 hm.1 hm.2
    unfold bdM
    have : (iL []).isEmpty = true := rfl
    simp only [lk_some, tru_bl, tru_int, tru_non, isB_bl, notB_bl, negI_int, isO_some, e_loc, e_cst, e_gl, e_gf, e_tup, e_lst, e_bin, e_neg, e_not, e_cmp, e_chn, e_and, e_or, e_ite, e_ix, e_sl, e_rev, e_call, e_cav, e_bi, e_isi, e_app, e_lc, c_and, c_or, c_not, c_cmp, c_chn, c_loc, c_call, c_bi, c_isi, s_asg, s_asgT, s_par, s_setix, ops_some, s_aug, s_ex, s_ret, s_iff, s_whl, s_forr, s_rais, s_try, q_nil, q_cons, l_nil, l_cons, a_one, a_cons, o_one, o_cons, gtI_int, i_none, i_some, f_nil, f_one, nx_ok, bk_nx, bk_rt, bk_exc, d_add, d_sub, d_subB, c_lt, c_le, c_gt, c_ge, c_eqI, c_neI, c_is0, c_isT, b_abs, b_intI, b_intB, b_lenT, x_0, x_1, x_2, n_T1, n_T2, n_T3, n_L0, i_int, i_intb, i_tup, k_0, k_tup, k_obj, h_items, h_rng, g_one, g_tup, sa_nil, sa_cons, wp_nil, wp_cons, G_fn, G_cst, List.getElem?_cons_zero, List.getElem?_cons_succ, List.set_cons_zero, List.set_cons_succ, Nat.reduceAdd, Bool.not_true, Bool.not_false, decide_true, decide_false, nxO_some, sro_some, apI_some, kT_o0, kT_x, kL_o0, kL_x, kB2_o0, kB2_x, kB1_o0, kB1_x, kN_o0, kN_x, kNb_o0, kNb_x, kTr_o0, kTr_x, kIb_o0, kIb_x, kC2_o0, kC2_x, kC1_o0, kC1_x, kH3_o0, kH3_o1, kH3_x, kH2_o0, kH2_x, kH1_o0, kH1_x, kA_o0, kA_o1, kA_x, kO_o0, kO_o1, kO_x, kI_o0, kI_o1, kI_x, kX2_o0, kX2_x, kX1_o0, kX1_x, kCl_o0, kCl_x, kBi_o0, kBi_x, kIs_o0, kIs_x, kl2_o0, kl2_x, kl1_o0, kl1_x, kS3_o0, kS3_x, kS2_o0, kS2_x, kS1_o0, kS1_x, kR2_o0, kR2_x, kR1_o0, kR1_x, kG_o0, kG_x, kCv_o0, kCv_x, kPu_o0, kPu_x, kAp_o0, kAp_x, kIt_o0, kIt_x, kLc_o0, kLc_x, kc4_o0, kc4_x, kc3_o0, kc3_x, kc2_o0, kc2_o1, kc2_x, kc1_some, kc0_some, kc0_end, sA_o0, sA_x, sT_o0, sT_x, sP2_o0, sP2_x, sP1_o0, sP1_x, sX3_o0, sX3_x, sX2_o0, sX2_x, sX1_o0, sX1_x, sG2_o0, sG2_x, sG1_o0, sG1_x, sE_o0, sE_x, sR_o0, sR_x, sI_o0, sI_o1, sI_x, sF_o0, sF_x, sRa_o0, sRa_x, thq_nx, thq_rt, thq_bk, thq_ct, thq_exc, catS_exc, catS_rt, bdW_nx, bdW_rt, bdF_nx, bdF_rt, sW_o0, sW_o1, sW_x, kf1_some, kf0_some, kf0_end, List.length_cons, List.length_nil, Nat.zero_add, Int.cast_ofNat_Int, Int.natCast_zero, Int.natCast_one, eq_self, Int.reduceLT, Int.reduceLE, Int.reduceEq, Int.reduceNeg, Int.reduceAdd, Int.reduceSub, Int.reduceMul, List.nil_append, List.cons_append, List.append_assoc, bools, Option.bind_some, Option.map_some, List.all_cons, List.all_nil, id, Bool.and_true, Bool.true_and, Bool.and_false, Bool.false_and, it_get0, it_hd, it_get, it_tl, onO_some, fLen_e, fAll_e, fAny_e, fTup_e, b_lenO, b_all, b_any, b_tupO, ps_0, ps_1, ps_2, ps_3, len_app, Nat.reduceLT, List.any_cons, List.any_nil, Bool.or_false, Bool.or_true, Bool.true_or, Bool.false_or, List.getElem?_nil, ↓reduceIte, Int.reduceToNat, k_rng, Int.toNat_natCast, x_obj, fAt_0, fAt_1, fAt_2, zipO_s, k_zipE, zipE_s, zipE_n, zipN_s, h_zip, sq_obj, sq_items, Nat.reduceLeDiff, and_self, and_true, true_and, Nat.zero_le, Nat.le_refl, tru_obj S 1 _ hS, this, d_mul, b1, b2, b3, b4, d_mod, t8, ne_eq, not_false_eq_true, fmodP (show (0 : Int) ≤ 2147483629 by decide), hz]
  · have ln : 0 < as.length := List.length_pos_iff.mpr he
    have ln0 : ((as.length : Nat) : Int) ≠ 0 := by omega
    have b5 : B 1000 pl := B1M (by omega) (by omega)
    have b6 : B 1000 (0 + i + 5 : Int) := B1M (by omega) (by omega)
    obtain ⟨y, hy⟩ : ∃ y : Int, pl * (0 + (i : Int) + 5) + (0 + (i : Int)) = y := ⟨_, rfl⟩
    have q0 := Int.emod_nonneg y ln0
    have q1 := Int.emod_lt_of_pos y (show (0 : Int) < (as.length : Int) by omega)
    obtain ⟨w, hw⟩ : ∃ w : Nat, y % (as.length : Int) = (w : Int) := ⟨(y % (as.length : Int)).toNat, by omega⟩
    have hwl : w < as.length := by omega
    have d := hd as[w] (List.getElem_mem hwl)
    obtain ⟨z, hz⟩ : ∃ z, ((m + as[w]) * 16807 + 69621 * (0 + (i : Int)) + 5) % 2147483629 = z := ⟨_, rfl⟩
    refine ⟨_, _, _, g_one _ _ _, ?_, z, some (.int (0 + i)), ⟨by omega, by omega⟩, rfl, rfl⟩
    have b1 : B 1000 (m + as[w]) := B.mono (j := 40) (by unfold B; have : (2 : Nat) ^ 40 = 1099511627776 := rfl; omega) (by decide)
    unfold bdM
    have e1 : (iL as).isEmpty = false := by
      cases as with
      | nil => exact absurd rfl he
      | cons a l => rfl
    simp only [lk_some, tru_bl, tru_int, tru_non, isB_bl, notB_bl, negI_int, isO_some, e_loc, e_cst, e_gl, e_gf, e_tup, e_lst, e_bin, e_neg, e_not, e_cmp, e_chn, e_and, e_or, e_ite, e_ix, e_sl, e_rev, e_call, e_cav, e_bi, e_isi, e_app, e_lc, c_and, c_or, c_not, c_cmp, c_chn, c_loc, c_call, c_bi, c_isi, s_asg, s_asgT, s_par, s_setix, ops_some, s_aug, s_ex, s_ret, s_iff, s_whl, s_forr, s_rais, s_try, q_nil, q_cons, l_nil, l_cons, a_one, a_cons, o_one, o_cons, gtI_int, i_none, i_some, f_nil, f_one, nx_ok, bk_nx, bk_rt, bk_exc, d_add, d_sub, d_subB, c_lt, c_le, c_gt, c_ge, c_eqI, c_neI, c_is0, c_isT, b_abs, b_intI, b_intB, b_lenT, x_0, x_1, x_2, n_T1, n_T2, n_T3, n_L0, i_int, i_intb, i_tup, k_0, k_tup, k_obj, h_items, h_rng, g_one, g_tup, sa_nil, sa_cons, wp_nil, wp_cons, G_fn, G_cst, List.getElem?_cons_zero, List.getElem?_cons_succ, List.set_cons_zero, List.set_cons_succ, Nat.reduceAdd, Bool.not_true, Bool.not_false, decide_true, decide_false, nxO_some, sro_some, apI_some, kT_o0, kT_x, kL_o0, kL_x, kB2_o0, kB2_x, kB1_o0, kB1_x, kN_o0, kN_x, kNb_o0, kNb_x, kTr_o0, kTr_x, kIb_o0, kIb_x, kC2_o0, kC2_x, kC1_o0, kC1_x, kH3_o0, kH3_o1, kH3_x, kH2_o0, kH2_x, kH1_o0, kH1_x, kA_o0, kA_o1, kA_x, kO_o0, kO_o1, kO_x, kI_o0, kI_o1, kI_x, kX2_o0, kX2_x, kX1_o0, kX1_x, kCl_o0, kCl_x, kBi_o0, kBi_x, kIs_o0, kIs_x, kl2_o0, kl2_x, kl1_o0, kl1_x, kS3_o0, kS3_x, kS2_o0, kS2_x, kS1_o0, kS1_x, kR2_o0, kR2_x, kR1_o0, kR1_x, kG_o0, kG_x, kCv_o0, kCv_x, kPu_o0, kPu_x, kAp_o0, kAp_x, kIt_o0, kIt_x, kLc_o0, kLc_x, kc4_o0, kc4_x, kc3_o0, kc3_x, kc2_o0, kc2_o1, kc2_x, kc1_some, kc0_some, kc0_end, sA_o0, sA_x, sT_o0, sT_x, sP2_o0, sP2_x, sP1_o0, sP1_x, sX3_o0, sX3_x, sX2_o0, sX2_x, sX1_o0, sX1_x, sG2_o0, sG2_x, sG1_o0, sG1_x, sE_o0, sE_x, sR_o0, sR_x, sI_o0, sI_o1, sI_x, sF_o0, sF_x, sRa_o0, sRa_x, thq_nx, thq_rt, thq_bk, thq_ct, thq_exc, catS_exc, catS_rt, bdW_nx, bdW_rt, bdF_nx, bdF_rt, sW_o0, sW_o1, sW_x, kf1_some, kf0_some, kf0_end, List.length_cons, List.length_nil, Nat.zero_add, Int.cast_ofNat_Int, Int.natCast_zero, Int.natCast_one, eq_self, Int.reduceLT, Int.reduceLE, Int.reduceEq, Int.reduceNeg, Int.reduceAdd, Int.reduceSub, Int.reduceMul, List.nil_append, List.cons_append, List.append_assoc, bools, Option.bind_some, Option.map_some, List.all_cons, List.all_nil, id, Bool.and_true, Bool.true_and, Bool.and_false, Bool.false_and, it_get0, it_hd, it_get, it_tl, onO_some, fLen_e, fAll_e, fAny_e, fTup_e, b_lenO, b_all, b_any, b_tupO, ps_0, ps_1, ps_2, ps_3, len_app, Nat.reduceLT, List.any_cons, List.any_nil, Bool.or_false, Bool.or_true, Bool.true_or, Bool.false_or, List.getElem?_nil, ↓reduceIte, Int.reduceToNat, k_rng, Int.toNat_natCast, x_obj, fAt_0, fAt_1, fAt_2, zipO_s, k_zipE, zipE_s, zipE_n, zipN_s, h_zip, sq_obj, sq_items, Nat.reduceLeDiff, and_self, and_true, true_and, Nat.zero_le, Nat.le_refl, tru_obj S 1 _ hS, e1, hS, iLl, d_mul, b1, b2, b3, b4, b5, b6, hy, d_mod, ln0, fmodP (show (0 : Int) ≤ (as.length : Int) by omega), hw, fAt_e S (iL_at hwl), t8, ne_eq, not_false_eq_true, fmodP (show (0 : Int) ≤ 2147483629 by decide), hz]
theorem p27 (n S) (as : List Int) (pl : Int) (hd : Dr as) (hl : as.length ≤ 3780) (hS : items S 1 = some (iL as)) (hp : 0 ≤ pl ∧ pl < 100000) : ∃ v : Int, run (n+1) 1 [.obj 1, .int pl] S = .ok (.int v) S := by
  have t8 : (2147483629 : Int) ≠ 0 := by decide
  have t9 : (1009 : Int) ≠ 0 := by decide
  have b9 : B 1000 1009 := B1M (by decide) (by decide)
  have b2 : B 1000 48271 := B1M (by decide) (by decide)
  have b5 : B 1000 pl := B1M (by omega) (by omega)
  obtain ⟨z, hz⟩ : ∃ z, (pl * 48271 + (as.length : Int) + 11) % 2147483629 = z := ⟨_, rfl⟩
  obtain ⟨fr', S', e, m, o3, hm, rfl, rfl⟩ := for_rng (lpM (G n) S as pl hd hl hS hp) 3 0 2999 _ _ rfl (by decide) ⟨z, none, ⟨by omega, by omega⟩, rfl, rfl⟩
  refine ⟨m / 1009, ?_⟩
  rw [r1]
  show (seqS (evS (G n) 3000) [.asg 2 (.bin .Mod (.bi "int" [(.bin .Add (.bin .Add (.bin .Mult (.loc 1) (.cst (.int 48271))) (.bi "len" [(.loc 0)])) (.cst (.int 11)))]) (.cst (.int 2147483629))), .forr [3] true 1 [(.cst (.int 3))] bdM, .ret (.bin .FloorDiv (.loc 2) (.cst (.int 1009)))] [some (.obj 1), some (.int pl), none, none] S').back = _
  simp only [lk_some, tru_bl, tru_int, tru_non, isB_bl, notB_bl, negI_int, isO_some, e_loc, e_cst, e_gl, e_gf, e_tup, e_lst, e_bin, e_neg, e_not, e_cmp, e_chn, e_and, e_or, e_ite, e_ix, e_sl, e_rev, e_call, e_cav, e_bi, e_isi, e_app, e_lc, c_and, c_or, c_not, c_cmp, c_chn, c_loc, c_call, c_bi, c_isi, s_asg, s_asgT, s_par, s_setix, ops_some, s_aug, s_ex, s_ret, s_iff, s_whl, s_forr, s_rais, s_try, q_nil, q_cons, l_nil, l_cons, a_one, a_cons, o_one, o_cons, gtI_int, i_none, i_some, f_nil, f_one, nx_ok, bk_nx, bk_rt, bk_exc, d_add, d_sub, d_subB, c_lt, c_le, c_gt, c_ge, c_eqI, c_neI, c_is0, c_isT, b_abs, b_intI, b_intB, b_lenT, x_0, x_1, x_2, n_T1, n_T2, n_T3, n_L0, i_int, i_intb, i_tup, k_0, k_tup, k_obj, h_items, h_rng, g_one, g_tup, sa_nil, sa_cons, wp_nil, wp_cons, G_fn, G_cst, List.getElem?_cons_zero, List.getElem?_cons_succ, List.set_cons_zero, List.set_cons_succ, Nat.reduceAdd, Bool.not_true, Bool.not_false, decide_true, decide_false, nxO_some, sro_some, apI_some, kT_o0, kT_x, kL_o0, kL_x, kB2_o0, kB2_x, kB1_o0, kB1_x, kN_o0, kN_x, kNb_o0, kNb_x, kTr_o0, kTr_x, kIb_o0, kIb_x, kC2_o0, kC2_x, kC1_o0, kC1_x, kH3_o0, kH3_o1, kH3_x, kH2_o0, kH2_x, kH1_o0, kH1_x, kA_o0, kA_o1, kA_x, kO_o0, kO_o1, kO_x, kI_o0, kI_o1, kI_x, kX2_o0, kX2_x, kX1_o0, kX1_x, kCl_o0, kCl_x, kBi_o0, kBi_x, kIs_o0, kIs_x, kl2_o0, kl2_x, kl1_o0, kl1_x, kS3_o0, kS3_x, kS2_o0, kS2_x, kS1_o0, kS1_x, kR2_o0, kR2_x, kR1_o0, kR1_x, kG_o0, kG_x, kCv_o0, kCv_x, kPu_o0, kPu_x, kAp_o0, kAp_x, kIt_o0, kIt_x, kLc_o0, kLc_x, kc4_o0, kc4_x, kc3_o0, kc3_x, kc2_o0, kc2_o1, kc2_x, kc1_some, kc0_some, kc0_end, sA_o0, sA_x, sT_o0, sT_x, sP2_o0, sP2_x, sP1_o0, sP1_x, sX3_o0, sX3_x, sX2_o0, sX2_x, sX1_o0, sX1_x, sG2_o0, sG2_x, sG1_o0, sG1_x, sE_o0, sE_x, sR_o0, sR_x, sI_o0, sI_o1, sI_x, sF_o0, sF_x, sRa_o0, sRa_x, thq_nx, thq_rt, thq_bk, thq_ct, thq_exc, catS_exc, catS_rt, bdW_nx, bdW_rt, bdF_nx, bdF_rt, sW_o0, sW_o1, sW_x, kf1_some, kf0_some, kf0_end, List.length_cons, List.length_nil, Nat.zero_add, Int.cast_ofNat_Int, Int.natCast_zero, Int.natCast_one, eq_self, Int.reduceLT, Int.reduceLE, Int.reduceEq, Int.reduceNeg, Int.reduceAdd, Int.reduceSub, Int.reduceMul, List.nil_append, List.cons_append, List.append_assoc, bools, Option.bind_some, Option.map_some, List.all_cons, List.all_nil, id, Bool.and_true, Bool.true_and, Bool.and_false, Bool.false_and, it_get0, it_hd, it_get, it_tl, onO_some, fLen_e, fAll_e, fAny_e, fTup_e, b_lenO, b_all, b_any, b_tupO, ps_0, ps_1, ps_2, ps_3, len_app, Nat.reduceLT, List.any_cons, List.any_nil, Bool.or_false, Bool.or_true, Bool.true_or, Bool.false_or, List.getElem?_nil, ↓reduceIte, Int.reduceToNat, k_rng, Int.toNat_natCast, x_obj, fAt_0, fAt_1, fAt_2, zipO_s, k_zipE, zipE_s, zipE_n, zipN_s, h_zip, sq_obj, sq_items, Nat.reduceLeDiff, and_self, and_true, true_and, Nat.zero_le, Nat.le_refl, hS, iLl, d_mul, b2, b5, d_mod, t8, ne_eq, not_false_eq_true, fmodP (show (0 : Int) ≤ 2147483629 by decide), hz, e, d_fdiv, t9, b9, fdivP (show (0 : Int) ≤ 1009 by decide)]
theorem stx_ok {S : Sto} {d v : D} {fr : Frm} (h : S[3]? = some (.lst [d])) : stx v (.obj 3) (.int 0) fr S = .nx fr (S.set 3 (.lst [v])) := by
  show (match S[3]? with
    | some (.lst l) => match ixN l.length 0 with
      | some j => RS.nx fr (S.set 3 (.lst (l.set j v)))
      | none => .bad
    | _ => .bad) = _
  rw [h]; rfl
theorem p28 (n S) (as : List Int) (p : Nat) (many : Int) (I : Inv as S p) (hp : p < 10000) (hm : 0 < many) : ∃ v S', run (n+2) 2 [.obj 1, .obj 3, .int many] S = .ok (.int v) S' ∧ 0 ≤ v ∧ v < many ∧ Inv as S' (p+1) ∧ Kp S S' := by
  obtain ⟨hd, hl, h1, q, hq, h3⟩ := I
  have k := Kp.set S (.lst [.int (q + 1)])
  have h1' := k 1 _ (by decide) h1
  have l3 := (List.getElem?_eq_some_iff.mp h3).1
  have I' : Inv as (S.set 3 (.lst [.int (q + 1)])) (p + 1) := ⟨hd, hl, h1', q + 1, by omega, by rw [List.getElem?_set_self l3]; rfl⟩
  have i1 := it_lst _ h1'
  have i3 := it_lst _ h3
  have hm0 : many ≠ 0 := by omega
  by_cases hc : (q : Int) < (as.length : Int)
  · have hc' : q < as.length := by omega
    refine ⟨as[q] % many, _, ?_, Int.emod_nonneg _ hm0, Int.emod_lt_of_pos _ hm, I', k⟩
    rw [r2]
    simp only [lk_some, tru_bl, tru_int, tru_non, isB_bl, notB_bl, negI_int, isO_some, e_loc, e_cst, e_gl, e_gf, e_tup, e_lst, e_bin, e_neg, e_not, e_cmp, e_chn, e_and, e_or, e_ite, e_ix, e_sl, e_rev, e_call, e_cav, e_bi, e_isi, e_app, e_lc, c_and, c_or, c_not, c_cmp, c_chn, c_loc, c_call, c_bi, c_isi, s_asg, s_asgT, s_par, s_setix, ops_some, s_aug, s_ex, s_ret, s_iff, s_whl, s_forr, s_rais, s_try, q_nil, q_cons, l_nil, l_cons, a_one, a_cons, o_one, o_cons, gtI_int, i_none, i_some, f_nil, f_one, nx_ok, bk_nx, bk_rt, bk_exc, d_add, d_sub, d_subB, c_lt, c_le, c_gt, c_ge, c_eqI, c_neI, c_is0, c_isT, b_abs, b_intI, b_intB, b_lenT, x_0, x_1, x_2, n_T1, n_T2, n_T3, n_L0, i_int, i_intb, i_tup, k_0, k_tup, k_obj, h_items, h_rng, g_one, g_tup, sa_nil, sa_cons, wp_nil, wp_cons, G_fn, G_cst, List.getElem?_cons_zero, List.getElem?_cons_succ, List.set_cons_zero, List.set_cons_succ, Nat.reduceAdd, Bool.not_true, Bool.not_false, decide_true, decide_false, nxO_some, sro_some, apI_some, kT_o0, kT_x, kL_o0, kL_x, kB2_o0, kB2_x, kB1_o0, kB1_x, kN_o0, kN_x, kNb_o0, kNb_x, kTr_o0, kTr_x, kIb_o0, kIb_x, kC2_o0, kC2_x, kC1_o0, kC1_x, kH3_o0, kH3_o1, kH3_x, kH2_o0, kH2_x, kH1_o0, kH1_x, kA_o0, kA_o1, kA_x, kO_o0, kO_o1, kO_x, kI_o0, kI_o1, kI_x, kX2_o0, kX2_x, kX1_o0, kX1_x, kCl_o0, kCl_x, kBi_o0, kBi_x, kIs_o0, kIs_x, kl2_o0, kl2_x, kl1_o0, kl1_x, kS3_o0, kS3_x, kS2_o0, kS2_x, kS1_o0, kS1_x, kR2_o0, kR2_x, kR1_o0, kR1_x, kG_o0, kG_x, kCv_o0, kCv_x, kPu_o0, kPu_x, kAp_o0, kAp_x, kIt_o0, kIt_x, kLc_o0, kLc_x, kc4_o0, kc4_x, kc3_o0, kc3_x, kc2_o0, kc2_o1, kc2_x, kc1_some, kc0_some, kc0_end, sA_o0, sA_x, sT_o0, sT_x, sP2_o0, sP2_x, sP1_o0, sP1_x, sX3_o0, sX3_x, sX2_o0, sX2_x, sX1_o0, sX1_x, sG2_o0, sG2_x, sG1_o0, sG1_x, sE_o0, sE_x, sR_o0, sR_x, sI_o0, sI_o1, sI_x, sF_o0, sF_x, sRa_o0, sRa_x, thq_nx, thq_rt, thq_bk, thq_ct, thq_exc, catS_exc, catS_rt, bdW_nx, bdW_rt, bdF_nx, bdF_rt, sW_o0, sW_o1, sW_x, kf1_some, kf0_some, kf0_end, List.length_cons, List.length_nil, Nat.zero_add, Int.cast_ofNat_Int, Int.natCast_zero, Int.natCast_one, eq_self, Int.reduceLT, Int.reduceLE, Int.reduceEq, Int.reduceNeg, Int.reduceAdd, Int.reduceSub, Int.reduceMul, List.nil_append, List.cons_append, List.append_assoc, bools, Option.bind_some, Option.map_some, List.all_cons, List.all_nil, id, Bool.and_true, Bool.true_and, Bool.and_false, Bool.false_and, it_get0, it_hd, it_get, it_tl, onO_some, fLen_e, fAll_e, fAny_e, fTup_e, b_lenO, b_all, b_any, b_tupO, ps_0, ps_1, ps_2, ps_3, len_app, Nat.reduceLT, List.any_cons, List.any_nil, Bool.or_false, Bool.or_true, Bool.true_or, Bool.false_or, List.getElem?_nil, ↓reduceIte, Int.reduceToNat, k_rng, Int.toNat_natCast, x_obj, fAt_0, fAt_1, fAt_2, zipO_s, k_zipE, zipE_s, zipE_n, zipN_s, h_zip, sq_obj, sq_items, Nat.reduceLeDiff, and_self, and_true, true_and, Nat.zero_le, Nat.le_refl, f2, i3, stx_ok h3, i1, iLl, hc, fAt_e _ (iL_at hc'), d_mod, hm0, ne_eq, not_false_eq_true, fmodP (show 0 ≤ many by omega)]
  · obtain ⟨v, e⟩ := p27 n (S.set 3 (.lst [.int (q + 1)])) as q hd hl i1 (by omega)
    refine ⟨v % many, _, ?_, Int.emod_nonneg _ hm0, Int.emod_lt_of_pos _ hm, I', k⟩
    rw [r2]
    simp only [lk_some, tru_bl, tru_int, tru_non, isB_bl, notB_bl, negI_int, isO_some, e_loc, e_cst, e_gl, e_gf, e_tup, e_lst, e_bin, e_neg, e_not, e_cmp, e_chn, e_and, e_or, e_ite, e_ix, e_sl, e_rev, e_call, e_cav, e_bi, e_isi, e_app, e_lc, c_and, c_or, c_not, c_cmp, c_chn, c_loc, c_call, c_bi, c_isi, s_asg, s_asgT, s_par, s_setix, ops_some, s_aug, s_ex, s_ret, s_iff, s_whl, s_forr, s_rais, s_try, q_nil, q_cons, l_nil, l_cons, a_one, a_cons, o_one, o_cons, gtI_int, i_none, i_some, f_nil, f_one, nx_ok, bk_nx, bk_rt, bk_exc, d_add, d_sub, d_subB, c_lt, c_le, c_gt, c_ge, c_eqI, c_neI, c_is0, c_isT, b_abs, b_intI, b_intB, b_lenT, x_0, x_1, x_2, n_T1, n_T2, n_T3, n_L0, i_int, i_intb, i_tup, k_0, k_tup, k_obj, h_items, h_rng, g_one, g_tup, sa_nil, sa_cons, wp_nil, wp_cons, G_fn, G_cst, List.getElem?_cons_zero, List.getElem?_cons_succ, List.set_cons_zero, List.set_cons_succ, Nat.reduceAdd, Bool.not_true, Bool.not_false, decide_true, decide_false, nxO_some, sro_some, apI_some, kT_o0, kT_x, kL_o0, kL_x, kB2_o0, kB2_x, kB1_o0, kB1_x, kN_o0, kN_x, kNb_o0, kNb_x, kTr_o0, kTr_x, kIb_o0, kIb_x, kC2_o0, kC2_x, kC1_o0, kC1_x, kH3_o0, kH3_o1, kH3_x, kH2_o0, kH2_x, kH1_o0, kH1_x, kA_o0, kA_o1, kA_x, kO_o0, kO_o1, kO_x, kI_o0, kI_o1, kI_x, kX2_o0, kX2_x, kX1_o0, kX1_x, kCl_o0, kCl_x, kBi_o0, kBi_x, kIs_o0, kIs_x, kl2_o0, kl2_x, kl1_o0, kl1_x, kS3_o0, kS3_x, kS2_o0, kS2_x, kS1_o0, kS1_x, kR2_o0, kR2_x, kR1_o0, kR1_x, kG_o0, kG_x, kCv_o0, kCv_x, kPu_o0, kPu_x, kAp_o0, kAp_x, kIt_o0, kIt_x, kLc_o0, kLc_x, kc4_o0, kc4_x, kc3_o0, kc3_x, kc2_o0, kc2_o1, kc2_x, kc1_some, kc0_some, kc0_end, sA_o0, sA_x, sT_o0, sT_x, sP2_o0, sP2_x, sP1_o0, sP1_x, sX3_o0, sX3_x, sX2_o0, sX2_x, sX1_o0, sX1_x, sG2_o0, sG2_x, sG1_o0, sG1_x, sE_o0, sE_x, sR_o0, sR_x, sI_o0, sI_o1, sI_x, sF_o0, sF_x, sRa_o0, sRa_x, thq_nx, thq_rt, thq_bk, thq_ct, thq_exc, catS_exc, catS_rt, bdW_nx, bdW_rt, bdF_nx, bdF_rt, sW_o0, sW_o1, sW_x, kf1_some, kf0_some, kf0_end, List.length_cons, List.length_nil, Nat.zero_add, Int.cast_ofNat_Int, Int.natCast_zero, Int.natCast_one, eq_self, Int.reduceLT, Int.reduceLE, Int.reduceEq, Int.reduceNeg, Int.reduceAdd, Int.reduceSub, Int.reduceMul, List.nil_append, List.cons_append, List.append_assoc, bools, Option.bind_some, Option.map_some, List.all_cons, List.all_nil, id, Bool.and_true, Bool.true_and, Bool.and_false, Bool.false_and, it_get0, it_hd, it_get, it_tl, onO_some, fLen_e, fAll_e, fAny_e, fTup_e, b_lenO, b_all, b_any, b_tupO, ps_0, ps_1, ps_2, ps_3, len_app, Nat.reduceLT, List.any_cons, List.any_nil, Bool.or_false, Bool.or_true, Bool.true_or, Bool.false_or, List.getElem?_nil, ↓reduceIte, Int.reduceToNat, k_rng, Int.toNat_natCast, x_obj, fAt_0, fAt_1, fAt_2, zipO_s, k_zipE, zipE_s, zipE_n, zipN_s, h_zip, sq_obj, sq_items, Nat.reduceLeDiff, and_self, and_true, true_and, Nat.zero_le, Nat.le_refl, f2, i3, stx_ok h3, i1, iLl, hc, e, d_mod, hm0, ne_eq, not_false_eq_true, fmodP (show 0 ≤ many by omega)]
theorem p29 (n S) (as : List Int) (p : Nat) (r : Nat) (l : List D) (I : Inv as S p) (hp : p < 10000) (hr : S[r]? = some (.lst l)) (h3 : r ≠ 3) (hl : l ≠ []) : ∃ d S', run (n+3) 3 [.obj r, .obj 1, .obj 3] S = .ok d S' ∧ d ∈ l ∧ Inv as S' (p+1) ∧ Kp S S' := by
  have ln : 0 < l.length := List.length_pos_iff.mpr hl
  obtain ⟨v, S', e, h0, h1, I', k⟩ := p28 n S as p (l.length : Int) I hp (by omega)
  obtain ⟨w, rfl⟩ : ∃ w : Nat, v = w := ⟨v.toNat, by omega⟩
  have hw : w < l.length := by omega
  refine ⟨l[w], S', ?_, List.getElem_mem hw, I', k⟩
  rw [r3]
  simp only [lk_some, tru_bl, tru_int, tru_non, isB_bl, notB_bl, negI_int, isO_some, e_loc, e_cst, e_gl, e_gf, e_tup, e_lst, e_bin, e_neg, e_not, e_cmp, e_chn, e_and, e_or, e_ite, e_ix, e_sl, e_rev, e_call, e_cav, e_bi, e_isi, e_app, e_lc, c_and, c_or, c_not, c_cmp, c_chn, c_loc, c_call, c_bi, c_isi, s_asg, s_asgT, s_par, s_setix, ops_some, s_aug, s_ex, s_ret, s_iff, s_whl, s_forr, s_rais, s_try, q_nil, q_cons, l_nil, l_cons, a_one, a_cons, o_one, o_cons, gtI_int, i_none, i_some, f_nil, f_one, nx_ok, bk_nx, bk_rt, bk_exc, d_add, d_sub, d_subB, c_lt, c_le, c_gt, c_ge, c_eqI, c_neI, c_is0, c_isT, b_abs, b_intI, b_intB, b_lenT, x_0, x_1, x_2, n_T1, n_T2, n_T3, n_L0, i_int, i_intb, i_tup, k_0, k_tup, k_obj, h_items, h_rng, g_one, g_tup, sa_nil, sa_cons, wp_nil, wp_cons, G_fn, G_cst, List.getElem?_cons_zero, List.getElem?_cons_succ, List.set_cons_zero, List.set_cons_succ, Nat.reduceAdd, Bool.not_true, Bool.not_false, decide_true, decide_false, nxO_some, sro_some, apI_some, kT_o0, kT_x, kL_o0, kL_x, kB2_o0, kB2_x, kB1_o0, kB1_x, kN_o0, kN_x, kNb_o0, kNb_x, kTr_o0, kTr_x, kIb_o0, kIb_x, kC2_o0, kC2_x, kC1_o0, kC1_x, kH3_o0, kH3_o1, kH3_x, kH2_o0, kH2_x, kH1_o0, kH1_x, kA_o0, kA_o1, kA_x, kO_o0, kO_o1, kO_x, kI_o0, kI_o1, kI_x, kX2_o0, kX2_x, kX1_o0, kX1_x, kCl_o0, kCl_x, kBi_o0, kBi_x, kIs_o0, kIs_x, kl2_o0, kl2_x, kl1_o0, kl1_x, kS3_o0, kS3_x, kS2_o0, kS2_x, kS1_o0, kS1_x, kR2_o0, kR2_x, kR1_o0, kR1_x, kG_o0, kG_x, kCv_o0, kCv_x, kPu_o0, kPu_x, kAp_o0, kAp_x, kIt_o0, kIt_x, kLc_o0, kLc_x, kc4_o0, kc4_x, kc3_o0, kc3_x, kc2_o0, kc2_o1, kc2_x, kc1_some, kc0_some, kc0_end, sA_o0, sA_x, sT_o0, sT_x, sP2_o0, sP2_x, sP1_o0, sP1_x, sX3_o0, sX3_x, sX2_o0, sX2_x, sX1_o0, sX1_x, sG2_o0, sG2_x, sG1_o0, sG1_x, sE_o0, sE_x, sR_o0, sR_x, sI_o0, sI_o1, sI_x, sF_o0, sF_x, sRa_o0, sRa_x, thq_nx, thq_rt, thq_bk, thq_ct, thq_exc, catS_exc, catS_rt, bdW_nx, bdW_rt, bdF_nx, bdF_rt, sW_o0, sW_o1, sW_x, kf1_some, kf0_some, kf0_end, List.length_cons, List.length_nil, Nat.zero_add, Int.cast_ofNat_Int, Int.natCast_zero, Int.natCast_one, eq_self, Int.reduceLT, Int.reduceLE, Int.reduceEq, Int.reduceNeg, Int.reduceAdd, Int.reduceSub, Int.reduceMul, List.nil_append, List.cons_append, List.append_assoc, bools, Option.bind_some, Option.map_some, List.all_cons, List.all_nil, id, Bool.and_true, Bool.true_and, Bool.and_false, Bool.false_and, it_get0, it_hd, it_get, it_tl, onO_some, fLen_e, fAll_e, fAny_e, fTup_e, b_lenO, b_all, b_any, b_tupO, ps_0, ps_1, ps_2, ps_3, len_app, Nat.reduceLT, List.any_cons, List.any_nil, Bool.or_false, Bool.or_true, Bool.true_or, Bool.false_or, List.getElem?_nil, ↓reduceIte, Int.reduceToNat, k_rng, Int.toNat_natCast, x_obj, fAt_0, fAt_1, fAt_2, zipO_s, k_zipE, zipE_s, zipE_n, zipN_s, h_zip, sq_obj, sq_items, Nat.reduceLeDiff, and_self, and_true, true_and, Nat.zero_le, Nat.le_refl, f3, it_lst _ hr, e, it_lst _ (k r _ h3 hr), fAt_e _ (atI_nat (List.getElem?_eq_getElem hw))]
theorem n_Lg {S : Sto} {l : List D} (h : l.length ≤ 1000000) : new S l = .ok (.obj S.length) (S ++ [.lst l]) := n_L S h
theorem Inv.len {as S p} (h : Inv as S p) : 3 < S.length := by
  obtain ⟨_, _, _, q, _, e⟩ := h
  exact (List.getElem?_eq_some_iff.mp e).1
theorem last_get (S : Sto) (x : MO) : (S ++ [x])[S.length]? = some x := by rw [st_get0]; rfl
theorem p29n (n S) (as : List Int) (p : Nat) (l : List D) (I : Inv as S p) (hp : p < 10000) (hl : l ≠ []) : ∃ d S', run (n+3) 3 [.obj S.length, .obj 1, .obj 3] (S ++ [.lst l]) = .ok d S' ∧ d ∈ l ∧ Inv as S' (p+1) ∧ Kp S S' := by
  have := I.len
  obtain ⟨d, S', e, h1, h2, h3⟩ := p29 n (S ++ [.lst l]) as p S.length l (I.app _) hp (last_get S _) (by omega) hl
  exact ⟨d, S', e, h1, h2, (Kp.app _ _).trans h3⟩
/-! what repr shows -/
def Py (n : Nat) (S : Sto) (d : D) (p : PyData) (c : Nat) : Prop := pyd n S d = some p ∧ szD n p ≤ c ∧ sameD n p p = true
theorem py_int (n S) {a : Int} (h : B 1000 a) : Py (n+1) S (.int a) (.int a) 1010 := by
  refine ⟨rfl, ?_, ?_⟩
  · show (if a.natAbs.log2 < 1920 then a.natAbs.log2 + 3 else LIM + 1) ≤ 1010
    have := h.log (by decide)
    rw [if_pos (by omega)]; omega
  · show (a == a) = true
    exact beq_self_eq_true a
theorem py_non (n S) : Py (n+1) S .non .none 1010 := ⟨rfl, by show 4 ≤ 1010; decide, rfl⟩
theorem Py.mono {n S d p c c'} (h : Py n S d p c) (l : c ≤ c') : Py n S d p c' := ⟨h.1, Nat.le_trans h.2.1 l, h.2.2⟩
inductive PyL (n : Nat) (S : Sto) (c : Nat) : List D → List PyData → Prop where
  | nil : PyL n S c [] []
  | cons {d p l ps} : Py n S d p c → PyL n S c l ps → PyL n S c (d :: l) (p :: ps)
theorem PyL.opt {n S c l ps} (h : PyL n S c l ps) : optL (pyd n S) l = some ps := by
  induction h with
  | nil => rfl
  | cons h _ ih =>
    rw [optL, h.1, ih]
theorem PyL.sz {n S c l ps} (h : PyL n S c l ps) : (ps.map fun x => szD n x + 2).sum ≤ l.length * (c + 2) := by
  induction h with
  | nil => exact Nat.zero_le _
  | cons h _ ih =>
    rw [List.map_cons, List.sum_cons, List.length_cons, Nat.add_mul]
    have := h.2.1
    omega
theorem PyL.same {n S c l ps} (h : PyL n S c l ps) : allTwo (sameD n) ps ps = true := by
  induction h with
  | nil => rfl
  | cons h _ ih =>
    show (sameD n _ _ && allTwo (sameD n) _ _) = true
    rw [h.2.2, ih]; rfl
theorem py_tup {n S c l ps} (h : PyL n S c l ps) : Py (n+1) S (.tup l) (.tuple ps) (3 + l.length * (c + 2)) := by
  refine ⟨?_, ?_, h.same⟩
  · show (optL (pyd n S) l).map PyData.tuple = _
    rw [h.opt]; rfl
  · show 3 + (ps.map fun x => szD n x + 2).sum ≤ _
    have := h.sz
    omega
theorem py_lst {n S c k l ps} (h : PyL n S c l ps) (hk : S[k]? = some (.lst l)) : Py (n+1) S (.obj k) (.list ps) (3 + l.length * (c + 2)) := by
  refine ⟨?_, ?_, h.same⟩
  · show (match S[k]? with
      | some (.lst l) => (optL (pyd n S) l).map PyData.list
      | some (.ro l) => (optL (pyd n S) l).map PyData.list
      | none => none) = _
    rw [hk]
    dsimp only
    rw [h.opt]; rfl
  · show 2 + (ps.map fun x => szD n x + 2).sum ≤ _
    have := h.sz
    omega
theorem b_repr {S d p c} (h : Py 60 S d p c) (hc : c ≤ 1000000) : biD "repr" [d] S = .ok (.rep p) S := by
  show (match pyd 60 S d with
    | some p => if szD 60 p ≤ LIM then R.ok (D.rep p) S else .bad
    | none => .bad) = _
  rw [h.1]
  exact if_pos (Nat.le_trans h.2.1 hc)
theorem c_rep {S S' d p c} (h : Py 60 S' d p c) : cmpD .NotEq (.rep p) (.rep p) S = .ok (.bl false) S := by
  show (match (if sameD 60 p p = true then some true else none) with
    | some b => R.ok (D.bl (!b)) S
    | none => .bad) = _
  rw [if_pos h.2.2]; rfl
theorem py_str (n S) (x : Str) (h : (x.cps.toList.all fun c => decide (c < 16 ^ 8)) = true) (hl : x.length ≤ 100) : Py (n+1) S (.str x) (.str x) 1010 := by
  refine ⟨rfl, ?_, ?_⟩
  · show (if (x.cps.toList.all fun c => decide (c < 16 ^ 8)) = true then 10 * x.length + 2 else LIM + 1) ≤ 1010
    rw [if_pos h]; omega
  · show (x == x) = true
    exact beq_self_eq_true x
theorem cmp_ne {S : Sto} {k k' : Nat} {p c c'} (h : Py 40 S (.obj k) p c) (h' : Py 40 S (.obj k') p c') (hs : SeqAt.shaped p = true) (he : PyData.eqv p p = true) : cmpD .NotEq (.obj k) (.obj k') S = .ok (.bl false) S := by
  show (match (match pyd 40 S (.obj k), pyd 40 S (.obj k') with
      | some a, some b => if SeqAt.shaped a = true ∧ SeqAt.shaped b = true then some (PyData.eqv a b) else none
      | _, _ => none) with
    | some b => R.ok (D.bl (!b)) S
    | none => .bad) = _
  rw [h.1, h'.1]
  dsimp only
  rw [if_pos ⟨hs, hs⟩, he]
  rfl
theorem get_app {S T : Sto} {k : Nat} {x} (h : S[k]? = some x) : (S ++ T)[k]? = some x := by
  have := (List.getElem?_eq_some_iff.mp h).1
  rw [List.getElem?_append_left this]; exact h
theorem d_addO {S : Sto} {a b : Nat} {l m : List D} (h1 : S[a]? = some (.lst l)) (h2 : S[b]? = some (.lst m)) (h : l.length + m.length ≤ 1000000) : binD .Add (.obj a) (.obj b) S = .ok (.obj S.length) (S ++ [.lst (l ++ m)]) := by
  show (match S[a]?, S[b]? with
    | some (.lst l), some (.lst m) => if l.length + m.length ≤ LIM then new S (l ++ m) else .bad
    | _, _ => .bad) = _
  rw [h1, h2]
  exact (if_pos h).trans (n_Lg (by rw [List.length_append]; exact h))
theorem n_Tg {S : Sto} {l : List D} (h : l.length ≤ 1000000) : newT S l = .ok (.tup l) S := if_pos h
end K00

/-! ## K00Q -/
set_option Elab.async false
set_option linter.all false
set_option maxRecDepth 100000
set_option maxHeartbeats 4000000
set_option pp.maxSteps 2500
/-! Limits, and what is raised. -/
namespace K00
open Ev PySem L2
def LA : List D := [.int 1000000, .int 5, .int 1000000000000000000000000000000, .int 60, .int 40, .int 6000, .int 200, .int 3000, .int 8]
def LB : List D := [.int 60, .int 9, .int 16, .int 40, .int 900, .int 1000, .int 60, .int 5, .int 8]
def LC : List D := [.int 100000, .int 20000, .int 6, .int 200, .int 20000, .int 3000, .int 6, .int 16, .int 20000]
def LD : List D := [.int 1000000, .int 5, .int 1000000000000000000000000000000, .int 60, .int 40, .int 6000, .int 200, .int 3000, .int 8, .int 60, .int 9, .int 16, .int 40, .int 900, .int 1000, .int 60, .int 5, .int 8, .int 100000, .int 20000, .int 6, .int 200]
def LE : List D := [.int 20000, .int 3000, .int 6, .int 16, .int 20000]
def LZ : List Int := [1000000, 5, 1000000000000000000000000000000, 60, 40, 6000, 200, 3000, 8, 60, 9, 16, 40, 900, 1000, 60, 5, 8, 100000, 20000, 6, 200, 20000, 3000, 6, 16, 20000]
theorem py_iL (n S) : ∀ (l : List Int), (∀ x ∈ l, B 1000 x) → PyL (n+1) S 1010 (iL l) (l.map .int)
  | [], _ => .nil
  | x :: l, h => .cons (py_int n S (h x (List.mem_cons_self ..))) (py_iL n S l fun y hy => h y (List.mem_cons_of_mem _ hy))
theorem c_repE {S S' d p c} (h : Py 60 S' d p c) : cmpD .Eq (.rep p) (.rep p) S = .ok (.bl true) S := by
  show (match (if sameD 60 p p = true then some true else none) with
    | some b => R.ok (D.bl b) S
    | none => .bad) = _
  rw [if_pos h.2.2]
theorem lz_B : ∀ x ∈ LZ, B 1000 x := by
  intro x hx
  refine B.mono (j := 100) ?_ (by decide)
  unfold B
  have h : (LZ.all fun x => decide (x.natAbs < 2 ^ 100)) = true := by decide +kernel
  exact of_decide_eq_true (List.all_eq_true.mp h x hx)
theorem q4 (n S) : ∃ T, run (n+1) 4 [] S = .ok (.bl true) (S ++ T) := by
  have e1 : LA ++ LB ++ LC = iL LZ := rfl
  have e2 : LD ++ LE = iL LZ := rfl
  have A1 := d_addO (S := S ++ [.lst LA, .lst LB]) (a := S.length) (b := S.length + 1) (l := LA) (m := LB) (by rw [st_get0]; rfl) (by rw [st_get]; rfl) (by decide)
  have A2 := d_addO (S := S ++ [.lst LA, .lst LB, .lst (LA ++ LB), .lst LC]) (a := S.length + 2) (b := S.length + 3) (l := LA ++ LB) (m := LC) (by rw [st_get]; rfl) (by rw [st_get]; rfl) (by decide)
  have A3 := d_addO (S := S ++ [.lst LA, .lst LB, .lst (LA ++ LB), .lst LC, .lst (iL LZ), .lst LD, .lst LE]) (a := S.length + 5) (b := S.length + 6) (l := LD) (m := LE) (by rw [st_get]; rfl) (by rw [st_get]; rfl) (by decide)
  rw [e1] at A2
  rw [e2] at A3
  have Q1 := py_lst (k := S.length + 4) (S := S ++ [.lst LA, .lst LB, .lst (LA ++ LB), .lst LC, .lst (iL LZ), .lst LD, .lst LE, .lst (iL LZ)]) (py_iL 58 _ LZ lz_B) (by rw [st_get]; rfl)
  have Q2 := py_lst (k := S.length + 7) (S := S ++ [.lst LA, .lst LB, .lst (LA ++ LB), .lst LC, .lst (iL LZ), .lst LD, .lst LE, .lst (iL LZ)]) (py_iL 58 _ LZ lz_B) (by rw [st_get]; rfl)
  have R1 := b_repr Q1 (by rw [iLl]; decide)
  have R2 := b_repr Q2 (by rw [iLl]; decide)
  have C := fun S => c_repE (S := S) Q1
  have nA : ∀ S, new S [.int 1000000, .int 5, .int 1000000000000000000000000000000, .int 60, .int 40, .int 6000, .int 200, .int 3000, .int 8] = .ok (.obj S.length) (S ++ [.lst LA]) := fun S => n_Lg (by decide)
  have nB : ∀ S, new S [.int 60, .int 9, .int 16, .int 40, .int 900, .int 1000, .int 60, .int 5, .int 8] = .ok (.obj S.length) (S ++ [.lst LB]) := fun S => n_Lg (by decide)
  have nC : ∀ S, new S [.int 100000, .int 20000, .int 6, .int 200, .int 20000, .int 3000, .int 6, .int 16, .int 20000] = .ok (.obj S.length) (S ++ [.lst LC]) := fun S => n_Lg (by decide)
  have nD : ∀ S, new S [.int 1000000, .int 5, .int 1000000000000000000000000000000, .int 60, .int 40, .int 6000, .int 200, .int 3000, .int 8, .int 60, .int 9, .int 16, .int 40, .int 900, .int 1000, .int 60, .int 5, .int 8, .int 100000, .int 20000, .int 6, .int 200] = .ok (.obj S.length) (S ++ [.lst LD]) := fun S => n_Lg (by decide)
  have nE : ∀ S, new S [.int 20000, .int 3000, .int 6, .int 16, .int 20000] = .ok (.obj S.length) (S ++ [.lst LE]) := fun S => n_Lg (by decide)
  simp only [len_app, List.append_assoc, List.cons_append, List.nil_append, List.length_cons, List.length_nil, Nat.zero_add, Nat.reduceAdd] at A1 A2 A3
  refine ⟨[.lst LA, .lst LB, .lst (LA ++ LB), .lst LC, .lst (iL LZ), .lst LD, .lst LE, .lst (iL LZ)], ?_⟩
  rw [r4]
  simp only [lk_some, tru_bl, tru_int, tru_non, isB_bl, notB_bl, negI_int, isO_some, e_loc, e_cst, e_gl, e_gf, e_tup, e_lst, e_bin, e_neg, e_not, e_cmp, e_chn, e_and, e_or, e_ite, e_ix, e_sl, e_rev, e_call, e_cav, e_bi, e_isi, e_app, e_lc, c_and, c_or, c_not, c_cmp, c_chn, c_loc, c_call, c_bi, c_isi, s_asg, s_asgT, s_par, s_setix, ops_some, s_aug, s_ex, s_ret, s_iff, s_whl, s_forr, s_rais, s_try, q_nil, q_cons, l_nil, l_cons, a_one, a_cons, o_one, o_cons, gtI_int, i_none, i_some, f_nil, f_one, nx_ok, bk_nx, bk_rt, bk_exc, d_add, d_sub, d_subB, c_lt, c_le, c_gt, c_ge, c_eqI, c_neI, c_is0, c_isT, b_abs, b_intI, b_intB, b_lenT, x_0, x_1, x_2, n_T1, n_T2, n_T3, n_L0, i_int, i_intb, i_tup, k_0, k_tup, k_obj, h_items, h_rng, g_one, g_tup, sa_nil, sa_cons, wp_nil, wp_cons, G_fn, G_cst, List.getElem?_cons_zero, List.getElem?_cons_succ, List.set_cons_zero, List.set_cons_succ, Nat.reduceAdd, Bool.not_true, Bool.not_false, decide_true, decide_false, nxO_some, sro_some, apI_some, kT_o0, kT_x, kL_o0, kL_x, kB2_o0, kB2_x, kB1_o0, kB1_x, kN_o0, kN_x, kNb_o0, kNb_x, kTr_o0, kTr_x, kIb_o0, kIb_x, kC2_o0, kC2_x, kC1_o0, kC1_x, kH3_o0, kH3_o1, kH3_x, kH2_o0, kH2_x, kH1_o0, kH1_x, kA_o0, kA_o1, kA_x, kO_o0, kO_o1, kO_x, kI_o0, kI_o1, kI_x, kX2_o0, kX2_x, kX1_o0, kX1_x, kCl_o0, kCl_x, kBi_o0, kBi_x, kIs_o0, kIs_x, kl2_o0, kl2_x, kl1_o0, kl1_x, kS3_o0, kS3_x, kS2_o0, kS2_x, kS1_o0, kS1_x, kR2_o0, kR2_x, kR1_o0, kR1_x, kG_o0, kG_x, kCv_o0, kCv_x, kPu_o0, kPu_x, kAp_o0, kAp_x, kIt_o0, kIt_x, kLc_o0, kLc_x, kc4_o0, kc4_x, kc3_o0, kc3_x, kc2_o0, kc2_o1, kc2_x, kc1_some, kc0_some, kc0_end, sA_o0, sA_x, sT_o0, sT_x, sP2_o0, sP2_x, sP1_o0, sP1_x, sX3_o0, sX3_x, sX2_o0, sX2_x, sX1_o0, sX1_x, sG2_o0, sG2_x, sG1_o0, sG1_x, sE_o0, sE_x, sR_o0, sR_x, sI_o0, sI_o1, sI_x, sF_o0, sF_x, sRa_o0, sRa_x, thq_nx, thq_rt, thq_bk, thq_ct, thq_exc, catS_exc, catS_rt, bdW_nx, bdW_rt, bdF_nx, bdF_rt, sW_o0, sW_o1, sW_x, kf1_some, kf0_some, kf0_end, List.length_cons, List.length_nil, Nat.zero_add, Int.cast_ofNat_Int, Int.natCast_zero, Int.natCast_one, eq_self, Int.reduceLT, Int.reduceLE, Int.reduceEq, Int.reduceNeg, Int.reduceAdd, Int.reduceSub, Int.reduceMul, List.nil_append, List.cons_append, List.append_assoc, bools, Option.bind_some, Option.map_some, List.all_cons, List.all_nil, id, Bool.and_true, Bool.true_and, Bool.and_false, Bool.false_and, it_get0, it_hd, it_get, it_tl, onO_some, fLen_e, fAll_e, fAny_e, fTup_e, b_lenO, b_all, b_any, b_tupO, ps_0, ps_1, ps_2, ps_3, len_app, Nat.reduceLT, List.any_cons, List.any_nil, Bool.or_false, Bool.or_true, Bool.true_or, Bool.false_or, List.getElem?_nil, ↓reduceIte, Int.reduceToNat, k_rng, Int.toNat_natCast, x_obj, fAt_0, fAt_1, fAt_2, zipO_s, k_zipE, zipE_s, zipE_n, zipN_s, h_zip, sq_obj, sq_items, Nat.reduceLeDiff, and_self, and_true, true_and, Nat.zero_le, Nat.le_refl, f4, cstF, nA, nB, nC, nD, nE, A1, A2, A3, R1, R2, C]
/-- which class number k raises, with which fields -/
def ec (k : Nat) : Nat := [1, 3, 4, 2, 5, 6, 7].getD k 7
def ef (k : Nat) (a b : D) : List D := if k = 5 then [a, b] else [a]
theorem q5 (n S a b) (k : Nat) (hk : k < 7) : run (n+1) 5 [.int k, a, b] S = .exc (ec k) (ef k a b) S := by
  rw [r5]
  obtain rfl | rfl | rfl | rfl | rfl | rfl | rfl : k = 0 ∨ k = 1 ∨ k = 2 ∨ k = 3 ∨ k = 4 ∨ k = 5 ∨ k = 6 := by omega
  all_goals simp only [lk_some, tru_bl, tru_int, tru_non, isB_bl, notB_bl, negI_int, isO_some, e_loc, e_cst, e_gl, e_gf, e_tup, e_lst, e_bin, e_neg, e_not, e_cmp, e_chn, e_and, e_or, e_ite, e_ix, e_sl, e_rev, e_call, e_cav, e_bi, e_isi, e_app, e_lc, c_and, c_or, c_not, c_cmp, c_chn, c_loc, c_call, c_bi, c_isi, s_asg, s_asgT, s_par, s_setix, ops_some, s_aug, s_ex, s_ret, s_iff, s_whl, s_forr, s_rais, s_try, q_nil, q_cons, l_nil, l_cons, a_one, a_cons, o_one, o_cons, gtI_int, i_none, i_some, f_nil, f_one, nx_ok, bk_nx, bk_rt, bk_exc, d_add, d_sub, d_subB, c_lt, c_le, c_gt, c_ge, c_eqI, c_neI, c_is0, c_isT, b_abs, b_intI, b_intB, b_lenT, x_0, x_1, x_2, n_T1, n_T2, n_T3, n_L0, i_int, i_intb, i_tup, k_0, k_tup, k_obj, h_items, h_rng, g_one, g_tup, sa_nil, sa_cons, wp_nil, wp_cons, G_fn, G_cst, List.getElem?_cons_zero, List.getElem?_cons_succ, List.set_cons_zero, List.set_cons_succ, Nat.reduceAdd, Bool.not_true, Bool.not_false, decide_true, decide_false, nxO_some, sro_some, apI_some, kT_o0, kT_x, kL_o0, kL_x, kB2_o0, kB2_x, kB1_o0, kB1_x, kN_o0, kN_x, kNb_o0, kNb_x, kTr_o0, kTr_x, kIb_o0, kIb_x, kC2_o0, kC2_x, kC1_o0, kC1_x, kH3_o0, kH3_o1, kH3_x, kH2_o0, kH2_x, kH1_o0, kH1_x, kA_o0, kA_o1, kA_x, kO_o0, kO_o1, kO_x, kI_o0, kI_o1, kI_x, kX2_o0, kX2_x, kX1_o0, kX1_x, kCl_o0, kCl_x, kBi_o0, kBi_x, kIs_o0, kIs_x, kl2_o0, kl2_x, kl1_o0, kl1_x, kS3_o0, kS3_x, kS2_o0, kS2_x, kS1_o0, kS1_x, kR2_o0, kR2_x, kR1_o0, kR1_x, kG_o0, kG_x, kCv_o0, kCv_x, kPu_o0, kPu_x, kAp_o0, kAp_x, kIt_o0, kIt_x, kLc_o0, kLc_x, kc4_o0, kc4_x, kc3_o0, kc3_x, kc2_o0, kc2_o1, kc2_x, kc1_some, kc0_some, kc0_end, sA_o0, sA_x, sT_o0, sT_x, sP2_o0, sP2_x, sP1_o0, sP1_x, sX3_o0, sX3_x, sX2_o0, sX2_x, sX1_o0, sX1_x, sG2_o0, sG2_x, sG1_o0, sG1_x, sE_o0, sE_x, sR_o0, sR_x, sI_o0, sI_o1, sI_x, sF_o0, sF_x, sRa_o0, sRa_x, thq_nx, thq_rt, thq_bk, thq_ct, thq_exc, catS_exc, catS_rt, bdW_nx, bdW_rt, bdF_nx, bdF_rt, sW_o0, sW_o1, sW_x, kf1_some, kf0_some, kf0_end, List.length_cons, List.length_nil, Nat.zero_add, Int.cast_ofNat_Int, Int.natCast_zero, Int.natCast_one, eq_self, Int.reduceLT, Int.reduceLE, Int.reduceEq, Int.reduceNeg, Int.reduceAdd, Int.reduceSub, Int.reduceMul, List.nil_append, List.cons_append, List.append_assoc, bools, Option.bind_some, Option.map_some, List.all_cons, List.all_nil, id, Bool.and_true, Bool.true_and, Bool.and_false, Bool.false_and, it_get0, it_hd, it_get, it_tl, onO_some, fLen_e, fAll_e, fAny_e, fTup_e, b_lenO, b_all, b_any, b_tupO, ps_0, ps_1, ps_2, ps_3, len_app, Nat.reduceLT, List.any_cons, List.any_nil, Bool.or_false, Bool.or_true, Bool.true_or, Bool.false_or, List.getElem?_nil, ↓reduceIte, Int.reduceToNat, k_rng, Int.toNat_natCast, x_obj, fAt_0, fAt_1, fAt_2, zipO_s, k_zipE, zipE_s, zipE_n, zipN_s, h_zip, sq_obj, sq_items, Nat.reduceLeDiff, and_self, and_true, true_and, Nat.zero_le, Nat.le_refl, f5]
  all_goals rfl
def bsl (k : Nat) : List D := (List.range 7).map fun j => .bl (decide (j = k))
theorem hdc (n S x y z w) (fs : List D) (k : Nat) (hk : k < 7) : hdRun (G n) [⟨0, 3, [], none, .non, some [1, 3, 4, 2, 5, 6, 7]⟩] (ec k) fs [x, y, z, w] S = .rt (.obj S.length) (S ++ [.lst (bsl k)]) := by
  obtain rfl | rfl | rfl | rfl | rfl | rfl | rfl : k = 0 ∨ k = 1 ∨ k = 2 ∨ k = 3 ∨ k = 4 ∨ k = 5 ∨ k = 6 := by omega
  all_goals rfl
theorem q6 (n S a b) (k : Nat) (hk : k < 7) : run (n+2) 6 [.int k, a, b] S = .ok (.obj S.length) (S ++ [.lst (bsl k)]) := by
  rw [r6]
  have e := fun S => q5 n S a b k hk
  have h := fun S x y z w => hdc (n+1) S x y z w (ef k a b) k hk
  simp only [lk_some, tru_bl, tru_int, tru_non, isB_bl, notB_bl, negI_int, isO_some, e_loc, e_cst, e_gl, e_gf, e_tup, e_lst, e_bin, e_neg, e_not, e_cmp, e_chn, e_and, e_or, e_ite, e_ix, e_sl, e_rev, e_call, e_cav, e_bi, e_isi, e_app, e_lc, c_and, c_or, c_not, c_cmp, c_chn, c_loc, c_call, c_bi, c_isi, s_asg, s_asgT, s_par, s_setix, ops_some, s_aug, s_ex, s_ret, s_iff, s_whl, s_forr, s_rais, s_try, q_nil, q_cons, l_nil, l_cons, a_one, a_cons, o_one, o_cons, gtI_int, i_none, i_some, f_nil, f_one, nx_ok, bk_nx, bk_rt, bk_exc, d_add, d_sub, d_subB, c_lt, c_le, c_gt, c_ge, c_eqI, c_neI, c_is0, c_isT, b_abs, b_intI, b_intB, b_lenT, x_0, x_1, x_2, n_T1, n_T2, n_T3, n_L0, i_int, i_intb, i_tup, k_0, k_tup, k_obj, h_items, h_rng, g_one, g_tup, sa_nil, sa_cons, wp_nil, wp_cons, G_fn, G_cst, List.getElem?_cons_zero, List.getElem?_cons_succ, List.set_cons_zero, List.set_cons_succ, Nat.reduceAdd, Bool.not_true, Bool.not_false, decide_true, decide_false, nxO_some, sro_some, apI_some, kT_o0, kT_x, kL_o0, kL_x, kB2_o0, kB2_x, kB1_o0, kB1_x, kN_o0, kN_x, kNb_o0, kNb_x, kTr_o0, kTr_x, kIb_o0, kIb_x, kC2_o0, kC2_x, kC1_o0, kC1_x, kH3_o0, kH3_o1, kH3_x, kH2_o0, kH2_x, kH1_o0, kH1_x, kA_o0, kA_o1, kA_x, kO_o0, kO_o1, kO_x, kI_o0, kI_o1, kI_x, kX2_o0, kX2_x, kX1_o0, kX1_x, kCl_o0, kCl_x, kBi_o0, kBi_x, kIs_o0, kIs_x, kl2_o0, kl2_x, kl1_o0, kl1_x, kS3_o0, kS3_x, kS2_o0, kS2_x, kS1_o0, kS1_x, kR2_o0, kR2_x, kR1_o0, kR1_x, kG_o0, kG_x, kCv_o0, kCv_x, kPu_o0, kPu_x, kAp_o0, kAp_x, kIt_o0, kIt_x, kLc_o0, kLc_x, kc4_o0, kc4_x, kc3_o0, kc3_x, kc2_o0, kc2_o1, kc2_x, kc1_some, kc0_some, kc0_end, sA_o0, sA_x, sT_o0, sT_x, sP2_o0, sP2_x, sP1_o0, sP1_x, sX3_o0, sX3_x, sX2_o0, sX2_x, sX1_o0, sX1_x, sG2_o0, sG2_x, sG1_o0, sG1_x, sE_o0, sE_x, sR_o0, sR_x, sI_o0, sI_o1, sI_x, sF_o0, sF_x, sRa_o0, sRa_x, thq_nx, thq_rt, thq_bk, thq_ct, thq_exc, catS_exc, catS_rt, bdW_nx, bdW_rt, bdF_nx, bdF_rt, sW_o0, sW_o1, sW_x, kf1_some, kf0_some, kf0_end, List.length_cons, List.length_nil, Nat.zero_add, Int.cast_ofNat_Int, Int.natCast_zero, Int.natCast_one, eq_self, Int.reduceLT, Int.reduceLE, Int.reduceEq, Int.reduceNeg, Int.reduceAdd, Int.reduceSub, Int.reduceMul, List.nil_append, List.cons_append, List.append_assoc, bools, Option.bind_some, Option.map_some, List.all_cons, List.all_nil, id, Bool.and_true, Bool.true_and, Bool.and_false, Bool.false_and, it_get0, it_hd, it_get, it_tl, onO_some, fLen_e, fAll_e, fAny_e, fTup_e, b_lenO, b_all, b_any, b_tupO, ps_0, ps_1, ps_2, ps_3, len_app, Nat.reduceLT, List.any_cons, List.any_nil, Bool.or_false, Bool.or_true, Bool.true_or, Bool.false_or, List.getElem?_nil, ↓reduceIte, Int.reduceToNat, k_rng, Int.toNat_natCast, x_obj, fAt_0, fAt_1, fAt_2, zipO_s, k_zipE, zipE_s, zipE_n, zipN_s, h_zip, sq_obj, sq_items, Nat.reduceLeDiff, and_self, and_true, true_and, Nat.zero_le, Nat.le_refl, f6, e, catS_exc, h]
def fd (k : Nat) (a b : D) : D := .tup (ef k a b)
theorem hdf (n S x y z w a b) (k : Nat) (hk : k < 7) : hdRun (G n) [⟨1, 3, [.f "reason"], none, .non, none⟩, ⟨3, 3, [.f "reason"], none, .non, none⟩, ⟨4, 3, [.f "reason"], none, .non, none⟩, ⟨2, 3, [.f "reason"], none, .non, none⟩, ⟨5, 3, [.f "at"], none, .non, none⟩, ⟨6, 3, [.f "number", .f "reason"], none, .non, none⟩, ⟨7, 3, [.f "line"], none, .non, none⟩] (ec k) (ef k a b) [x, y, z, w] S = .rt (fd k a b) S := by
  obtain rfl | rfl | rfl | rfl | rfl | rfl | rfl : k = 0 ∨ k = 1 ∨ k = 2 ∨ k = 3 ∨ k = 4 ∨ k = 5 ∨ k = 6 := by omega
  all_goals rfl
theorem q7 (n S a b) (k : Nat) (hk : k < 7) : run (n+2) 7 [.int k, a, b] S = .ok (fd k a b) S := by
  rw [r7]
  have e := fun S => q5 n S a b k hk
  have h := fun S x y z w => hdf (n+1) S x y z w a b k hk
  simp only [lk_some, tru_bl, tru_int, tru_non, isB_bl, notB_bl, negI_int, isO_some, e_loc, e_cst, e_gl, e_gf, e_tup, e_lst, e_bin, e_neg, e_not, e_cmp, e_chn, e_and, e_or, e_ite, e_ix, e_sl, e_rev, e_call, e_cav, e_bi, e_isi, e_app, e_lc, c_and, c_or, c_not, c_cmp, c_chn, c_loc, c_call, c_bi, c_isi, s_asg, s_asgT, s_par, s_setix, ops_some, s_aug, s_ex, s_ret, s_iff, s_whl, s_forr, s_rais, s_try, q_nil, q_cons, l_nil, l_cons, a_one, a_cons, o_one, o_cons, gtI_int, i_none, i_some, f_nil, f_one, nx_ok, bk_nx, bk_rt, bk_exc, d_add, d_sub, d_subB, c_lt, c_le, c_gt, c_ge, c_eqI, c_neI, c_is0, c_isT, b_abs, b_intI, b_intB, b_lenT, x_0, x_1, x_2, n_T1, n_T2, n_T3, n_L0, i_int, i_intb, i_tup, k_0, k_tup, k_obj, h_items, h_rng, g_one, g_tup, sa_nil, sa_cons, wp_nil, wp_cons, G_fn, G_cst, List.getElem?_cons_zero, List.getElem?_cons_succ, List.set_cons_zero, List.set_cons_succ, Nat.reduceAdd, Bool.not_true, Bool.not_false, decide_true, decide_false, nxO_some, sro_some, apI_some, kT_o0, kT_x, kL_o0, kL_x, kB2_o0, kB2_x, kB1_o0, kB1_x, kN_o0, kN_x, kNb_o0, kNb_x, kTr_o0, kTr_x, kIb_o0, kIb_x, kC2_o0, kC2_x, kC1_o0, kC1_x, kH3_o0, kH3_o1, kH3_x, kH2_o0, kH2_x, kH1_o0, kH1_x, kA_o0, kA_o1, kA_x, kO_o0, kO_o1, kO_x, kI_o0, kI_o1, kI_x, kX2_o0, kX2_x, kX1_o0, kX1_x, kCl_o0, kCl_x, kBi_o0, kBi_x, kIs_o0, kIs_x, kl2_o0, kl2_x, kl1_o0, kl1_x, kS3_o0, kS3_x, kS2_o0, kS2_x, kS1_o0, kS1_x, kR2_o0, kR2_x, kR1_o0, kR1_x, kG_o0, kG_x, kCv_o0, kCv_x, kPu_o0, kPu_x, kAp_o0, kAp_x, kIt_o0, kIt_x, kLc_o0, kLc_x, kc4_o0, kc4_x, kc3_o0, kc3_x, kc2_o0, kc2_o1, kc2_x, kc1_some, kc0_some, kc0_end, sA_o0, sA_x, sT_o0, sT_x, sP2_o0, sP2_x, sP1_o0, sP1_x, sX3_o0, sX3_x, sX2_o0, sX2_x, sX1_o0, sX1_x, sG2_o0, sG2_x, sG1_o0, sG1_x, sE_o0, sE_x, sR_o0, sR_x, sI_o0, sI_o1, sI_x, sF_o0, sF_x, sRa_o0, sRa_x, thq_nx, thq_rt, thq_bk, thq_ct, thq_exc, catS_exc, catS_rt, bdW_nx, bdW_rt, bdF_nx, bdF_rt, sW_o0, sW_o1, sW_x, kf1_some, kf0_some, kf0_end, List.length_cons, List.length_nil, Nat.zero_add, Int.cast_ofNat_Int, Int.natCast_zero, Int.natCast_one, eq_self, Int.reduceLT, Int.reduceLE, Int.reduceEq, Int.reduceNeg, Int.reduceAdd, Int.reduceSub, Int.reduceMul, List.nil_append, List.cons_append, List.append_assoc, bools, Option.bind_some, Option.map_some, List.all_cons, List.all_nil, id, Bool.and_true, Bool.true_and, Bool.and_false, Bool.false_and, it_get0, it_hd, it_get, it_tl, onO_some, fLen_e, fAll_e, fAny_e, fTup_e, b_lenO, b_all, b_any, b_tupO, ps_0, ps_1, ps_2, ps_3, len_app, Nat.reduceLT, List.any_cons, List.any_nil, Bool.or_false, Bool.or_true, Bool.true_or, Bool.false_or, List.getElem?_nil, ↓reduceIte, Int.reduceToNat, k_rng, Int.toNat_natCast, x_obj, fAt_0, fAt_1, fAt_2, zipO_s, k_zipE, zipE_s, zipE_n, zipN_s, h_zip, sq_obj, sq_items, Nat.reduceLeDiff, and_self, and_true, true_and, Nat.zero_le, Nat.le_refl, f7, e, catS_exc, h]
end K00

/-! ## K00R -/
set_option Elab.async false
set_option linter.all false
set_option maxRecDepth 100000
set_option maxHeartbeats 4000000
set_option pp.maxSteps 2500
/-! The law. -/
namespace K00
open Ev PySem L2
def VL : List D := [.str "word", .str "", .str "form", .int 0, .int 17, .int (-3), .non, .tup [.str "a", .int 5], .str "a line", .bl true]
theorem py_bl (n S b) : Py (n+1) S (.bl b) (.bool b) 1010 := ⟨rfl, by show 5 ≤ 1010; decide, by show (b == b) = true; cases b <;> rfl⟩
theorem vl_py (n) (d : D) (h : d ∈ VL) : ∃ P, ∀ S, Py (n+2) S d P 3000 := by
  unfold VL at h
  simp only [List.mem_cons, List.not_mem_nil, or_false] at h
  have s : ∀ x : Str, (x.cps.toList.all fun c => decide (c < 16 ^ 8)) = true → x.length ≤ 100 → ∃ P, ∀ S, Py (n+2) S (.str x) P 3000 := fun x h1 h2 => ⟨_, fun S => (py_str (n+1) S x h1 h2).mono (by decide)⟩
  have i : ∀ x : Int, B 1000 x → ∃ P, ∀ S, Py (n+2) S (.int x) P 3000 := fun x h => ⟨_, fun S => (py_int (n+1) S h).mono (by decide)⟩
  rcases h with rfl | rfl | rfl | rfl | rfl | rfl | rfl | rfl | rfl | rfl
  · exact s _ (by decide +kernel) (by decide +kernel)
  · exact s _ (by decide +kernel) (by decide +kernel)
  · exact s _ (by decide +kernel) (by decide +kernel)
  · exact i _ (B1M (by decide) (by decide))
  · exact i _ (B1M (by decide) (by decide))
  · exact i _ (B1M (by decide) (by decide))
  · exact ⟨_, fun S => (py_non (n+1) S).mono (by decide)⟩
  · exact ⟨_, fun S => (py_tup (.cons (py_str n S "a" (by decide +kernel) (by decide +kernel)) (.cons (py_int n S (B1M (by decide) (by decide))) .nil))).mono (show 3 + 2 * 1012 ≤ 3000 by decide)⟩
  · exact s _ (by decide +kernel) (by decide +kernel)
  · exact ⟨_, fun S => (py_bl (n+1) S true).mono (by decide)⟩
def bsP (k : Nat) : List PyData := (List.range 7).map fun j => .bool (decide (j = k))
theorem py_bsl (n S k) : PyL (n+1) S 1010 (bsl k) (bsP k) := by
  unfold bsl bsP
  have : ∀ l : List Nat, PyL (n+1) S 1010 (l.map fun j => D.bl (decide (j = k))) (l.map fun j => PyData.bool (decide (j = k))) := fun l => by
    induction l with
    | nil => exact .nil
    | cons a l ih => exact .cons (py_bl n S _) ih
  exact this _
theorem bsP_ok (k : Nat) (hk : k < 7) : SeqAt.shaped (.list (bsP k)) = true ∧ PyData.eqv (.list (bsP k)) (.list (bsP k)) = true := by
  obtain rfl | rfl | rfl | rfl | rfl | rfl | rfl : k = 0 ∨ k = 1 ∨ k = 2 ∨ k = 3 ∨ k = 4 ∨ k = 5 ∨ k = 6 := by omega
  all_goals exact ⟨by decide +kernel, by decide +kernel⟩
def body : List Sx := [.par 4 5 (.call 3 [(.loc 3), (.loc 1), (.loc 2)]) (.call 3 [(.loc 3), (.loc 1), (.loc 2)]), .iff (.cmp .NotEq (.call 6 [(.loc 6), (.loc 4), (.loc 5)]) (.lc (.cmp .Eq (.loc 7) (.loc 6)) [7] true 1 [(.cst (.int 7))] [] [7])) [.ret (.cst (.bl false))] [], .iff (.cmp .NotEq (.bi "repr" [(.call 7 [(.loc 6), (.loc 4), (.loc 5)])]) (.bi "repr" [(.ite (.cmp .Eq (.loc 6) (.cst (.int 5))) (.tup [(.loc 4), (.loc 5)]) (.tup [(.loc 4)]))])) [.ret (.cst (.bl false))] []]
def Tn (as : List Int) (vi : Nat) (i : Nat) (fr : Frm) (S : Sto) : Prop := ∃ o4 o5 o6, fr = [some (.obj 0), some (.obj 1), some (.obj 3), some (.obj vi), o4, o5, o6, none] ∧ Inv as S (2 * i) ∧ S[vi]? = some (.lst VL)
theorem turn_ok (as) (vi : Nat) (h3 : vi ≠ 3) : ∀ (i : Nat) (fr : Frm) (S : Sto), i < 7 → Tn as vi i fr S → ∃ fr1 fr2 S2, tgt true [6] (.int (0 + i)) fr = some fr1 ∧ seqS (evS (G 59) 2999) body fr1 S = .nx fr2 S2 ∧ Tn as vi (i + 1) fr2 S2 := by
  rintro i _ S hi ⟨o4, o5, o6, rfl, I, hv⟩
  obtain ⟨a, S1, e1, ha, I1, k1⟩ := p29 56 S as (2 * i) vi VL I (by omega) hv h3 (by decide)
  have hv1 := k1 vi _ h3 hv
  obtain ⟨b, S2, e2, hb, I2, k2⟩ := p29 56 S1 as (2 * i + 1) vi VL I1 (by omega) hv1 h3 (by decide)
  have hv2 := k2 vi _ h3 hv1
  obtain ⟨PA', ya⟩ := vl_py 57 a ha
  obtain ⟨PB', yb⟩ := vl_py 57 b hb
  have e6 := fun S => q6 57 S a b i hi
  have e7 := fun S => q7 57 S a b i hi
  have Y1 := py_lst (k := S2.length) (S := S2 ++ [.lst (bsl i), .lst (bsl i)]) (py_bsl 38 _ i) (by rw [st_get0]; rfl)
  have Y2 := py_lst (k := S2.length + 1) (S := S2 ++ [.lst (bsl i), .lst (bsl i)]) (py_bsl 38 _ i) (by rw [st_get]; rfl)
  have C := cmp_ne Y1 Y2 (bsP_ok i hi).1 (bsP_ok i hi).2
  have YF : ∃ P, ∀ S, Py 60 S (fd i a b) P 10000 := by
    unfold fd ef
    by_cases h5 : i = 5
    · rw [if_pos h5]
      exact ⟨_, fun S => (py_tup (.cons (ya S) (.cons (yb S) .nil))).mono (show 3 + 2 * 3002 ≤ 10000 by decide)⟩
    · rw [if_neg h5]
      exact ⟨_, fun S => (py_tup (.cons (ya S) .nil)).mono (show 3 + 1 * 3002 ≤ 10000 by decide)⟩
  obtain ⟨P, yf⟩ := YF
  have R := fun S => b_repr (yf S) (by decide)
  have C2 := fun S => c_rep (S := S) (yf S)
  refine ⟨_, _, S2 ++ [.lst (bsl i), .lst (bsl i)], g_one _ _ _, ?_, some a, some b, some (.int (0 + i)), rfl, (I2.app _).mono (by omega), get_app hv2⟩
  have z : (0 : Int) + (i : Int) = (i : Int) := Int.zero_add _
  unfold body
  obtain rfl | rfl | rfl | rfl | rfl | rfl | rfl : i = 0 ∨ i = 1 ∨ i = 2 ∨ i = 3 ∨ i = 4 ∨ i = 5 ∨ i = 6 := by omega
  · have eb : bsl 0 = [.bl true, .bl false, .bl false, .bl false, .bl false, .bl false, .bl false] := rfl
    have efd : fd 0 a b = .tup [a] := rfl
    simp only [eb, efd, Int.natCast_zero, Int.natCast_one, Int.cast_ofNat_Int] at e6 e7 C R C2 ⊢
    simp only [lk_some, tru_bl, tru_int, tru_non, isB_bl, notB_bl, negI_int, isO_some, e_loc, e_cst, e_gl, e_gf, e_tup, e_lst, e_bin, e_neg, e_not, e_cmp, e_chn, e_and, e_or, e_ite, e_ix, e_sl, e_rev, e_call, e_cav, e_bi, e_isi, e_app, e_lc, c_and, c_or, c_not, c_cmp, c_chn, c_loc, c_call, c_bi, c_isi, s_asg, s_asgT, s_par, s_setix, ops_some, s_aug, s_ex, s_ret, s_iff, s_whl, s_forr, s_rais, s_try, q_nil, q_cons, l_nil, l_cons, a_one, a_cons, o_one, o_cons, gtI_int, i_none, i_some, f_nil, f_one, nx_ok, bk_nx, bk_rt, bk_exc, d_add, d_sub, d_subB, c_lt, c_le, c_gt, c_ge, c_eqI, c_neI, c_is0, c_isT, b_abs, b_intI, b_intB, b_lenT, x_0, x_1, x_2, n_T1, n_T2, n_T3, n_L0, i_int, i_intb, i_tup, k_0, k_tup, k_obj, h_items, h_rng, g_one, g_tup, sa_nil, sa_cons, wp_nil, wp_cons, G_fn, G_cst, List.getElem?_cons_zero, List.getElem?_cons_succ, List.set_cons_zero, List.set_cons_succ, Nat.reduceAdd, Bool.not_true, Bool.not_false, decide_true, decide_false, nxO_some, sro_some, apI_some, kT_o0, kT_x, kL_o0, kL_x, kB2_o0, kB2_x, kB1_o0, kB1_x, kN_o0, kN_x, kNb_o0, kNb_x, kTr_o0, kTr_x, kIb_o0, kIb_x, kC2_o0, kC2_x, kC1_o0, kC1_x, kH3_o0, kH3_o1, kH3_x, kH2_o0, kH2_x, kH1_o0, kH1_x, kA_o0, kA_o1, kA_x, kO_o0, kO_o1, kO_x, kI_o0, kI_o1, kI_x, kX2_o0, kX2_x, kX1_o0, kX1_x, kCl_o0, kCl_x, kBi_o0, kBi_x, kIs_o0, kIs_x, kl2_o0, kl2_x, kl1_o0, kl1_x, kS3_o0, kS3_x, kS2_o0, kS2_x, kS1_o0, kS1_x, kR2_o0, kR2_x, kR1_o0, kR1_x, kG_o0, kG_x, kCv_o0, kCv_x, kPu_o0, kPu_x, kAp_o0, kAp_x, kIt_o0, kIt_x, kLc_o0, kLc_x, kc4_o0, kc4_x, kc3_o0, kc3_x, kc2_o0, kc2_o1, kc2_x, kc1_some, kc0_some, kc0_end, sA_o0, sA_x, sT_o0, sT_x, sP2_o0, sP2_x, sP1_o0, sP1_x, sX3_o0, sX3_x, sX2_o0, sX2_x, sX1_o0, sX1_x, sG2_o0, sG2_x, sG1_o0, sG1_x, sE_o0, sE_x, sR_o0, sR_x, sI_o0, sI_o1, sI_x, sF_o0, sF_x, sRa_o0, sRa_x, thq_nx, thq_rt, thq_bk, thq_ct, thq_exc, catS_exc, catS_rt, bdW_nx, bdW_rt, bdF_nx, bdF_rt, sW_o0, sW_o1, sW_x, kf1_some, kf0_some, kf0_end, List.length_cons, List.length_nil, Nat.zero_add, Int.cast_ofNat_Int, Int.natCast_zero, Int.natCast_one, eq_self, Int.reduceLT, Int.reduceLE, Int.reduceEq, Int.reduceNeg, Int.reduceAdd, Int.reduceSub, Int.reduceMul, List.nil_append, List.cons_append, List.append_assoc, bools, Option.bind_some, Option.map_some, List.all_cons, List.all_nil, id, Bool.and_true, Bool.true_and, Bool.and_false, Bool.false_and, it_get0, it_hd, it_get, it_tl, onO_some, fLen_e, fAll_e, fAny_e, fTup_e, b_lenO, b_all, b_any, b_tupO, ps_0, ps_1, ps_2, ps_3, len_app, Nat.reduceLT, List.any_cons, List.any_nil, Bool.or_false, Bool.or_true, Bool.true_or, Bool.false_or, List.getElem?_nil, ↓reduceIte, Int.reduceToNat, k_rng, Int.toNat_natCast, x_obj, fAt_0, fAt_1, fAt_2, zipO_s, k_zipE, zipE_s, zipE_n, zipN_s, h_zip, sq_obj, sq_items, Nat.reduceLeDiff, and_self, and_true, true_and, Nat.zero_le, Nat.le_refl, e1, e2, e6, lc_step, Int.zero_add, C, e7, R, C2, n_Tg]
  · have eb : bsl 1 = [.bl false, .bl true, .bl false, .bl false, .bl false, .bl false, .bl false] := rfl
    have efd : fd 1 a b = .tup [a] := rfl
    simp only [eb, efd, Int.natCast_zero, Int.natCast_one, Int.cast_ofNat_Int] at e6 e7 C R C2 ⊢
    simp only [lk_some, tru_bl, tru_int, tru_non, isB_bl, notB_bl, negI_int, isO_some, e_loc, e_cst, e_gl, e_gf, e_tup, e_lst, e_bin, e_neg, e_not, e_cmp, e_chn, e_and, e_or, e_ite, e_ix, e_sl, e_rev, e_call, e_cav, e_bi, e_isi, e_app, e_lc, c_and, c_or, c_not, c_cmp, c_chn, c_loc, c_call, c_bi, c_isi, s_asg, s_asgT, s_par, s_setix, ops_some, s_aug, s_ex, s_ret, s_iff, s_whl, s_forr, s_rais, s_try, q_nil, q_cons, l_nil, l_cons, a_one, a_cons, o_one, o_cons, gtI_int, i_none, i_some, f_nil, f_one, nx_ok, bk_nx, bk_rt, bk_exc, d_add, d_sub, d_subB, c_lt, c_le, c_gt, c_ge, c_eqI, c_neI, c_is0, c_isT, b_abs, b_intI, b_intB, b_lenT, x_0, x_1, x_2, n_T1, n_T2, n_T3, n_L0, i_int, i_intb, i_tup, k_0, k_tup, k_obj, h_items, h_rng, g_one, g_tup, sa_nil, sa_cons, wp_nil, wp_cons, G_fn, G_cst, List.getElem?_cons_zero, List.getElem?_cons_succ, List.set_cons_zero, List.set_cons_succ, Nat.reduceAdd, Bool.not_true, Bool.not_false, decide_true, decide_false, nxO_some, sro_some, apI_some, kT_o0, kT_x, kL_o0, kL_x, kB2_o0, kB2_x, kB1_o0, kB1_x, kN_o0, kN_x, kNb_o0, kNb_x, kTr_o0, kTr_x, kIb_o0, kIb_x, kC2_o0, kC2_x, kC1_o0, kC1_x, kH3_o0, kH3_o1, kH3_x, kH2_o0, kH2_x, kH1_o0, kH1_x, kA_o0, kA_o1, kA_x, kO_o0, kO_o1, kO_x, kI_o0, kI_o1, kI_x, kX2_o0, kX2_x, kX1_o0, kX1_x, kCl_o0, kCl_x, kBi_o0, kBi_x, kIs_o0, kIs_x, kl2_o0, kl2_x, kl1_o0, kl1_x, kS3_o0, kS3_x, kS2_o0, kS2_x, kS1_o0, kS1_x, kR2_o0, kR2_x, kR1_o0, kR1_x, kG_o0, kG_x, kCv_o0, kCv_x, kPu_o0, kPu_x, kAp_o0, kAp_x, kIt_o0, kIt_x, kLc_o0, kLc_x, kc4_o0, kc4_x, kc3_o0, kc3_x, kc2_o0, kc2_o1, kc2_x, kc1_some, kc0_some, kc0_end, sA_o0, sA_x, sT_o0, sT_x, sP2_o0, sP2_x, sP1_o0, sP1_x, sX3_o0, sX3_x, sX2_o0, sX2_x, sX1_o0, sX1_x, sG2_o0, sG2_x, sG1_o0, sG1_x, sE_o0, sE_x, sR_o0, sR_x, sI_o0, sI_o1, sI_x, sF_o0, sF_x, sRa_o0, sRa_x, thq_nx, thq_rt, thq_bk, thq_ct, thq_exc, catS_exc, catS_rt, bdW_nx, bdW_rt, bdF_nx, bdF_rt, sW_o0, sW_o1, sW_x, kf1_some, kf0_some, kf0_end, List.length_cons, List.length_nil, Nat.zero_add, Int.cast_ofNat_Int, Int.natCast_zero, Int.natCast_one, eq_self, Int.reduceLT, Int.reduceLE, Int.reduceEq, Int.reduceNeg, Int.reduceAdd, Int.reduceSub, Int.reduceMul, List.nil_append, List.cons_append, List.append_assoc, bools, Option.bind_some, Option.map_some, List.all_cons, List.all_nil, id, Bool.and_true, Bool.true_and, Bool.and_false, Bool.false_and, it_get0, it_hd, it_get, it_tl, onO_some, fLen_e, fAll_e, fAny_e, fTup_e, b_lenO, b_all, b_any, b_tupO, ps_0, ps_1, ps_2, ps_3, len_app, Nat.reduceLT, List.any_cons, List.any_nil, Bool.or_false, Bool.or_true, Bool.true_or, Bool.false_or, List.getElem?_nil, ↓reduceIte, Int.reduceToNat, k_rng, Int.toNat_natCast, x_obj, fAt_0, fAt_1, fAt_2, zipO_s, k_zipE, zipE_s, zipE_n, zipN_s, h_zip, sq_obj, sq_items, Nat.reduceLeDiff, and_self, and_true, true_and, Nat.zero_le, Nat.le_refl, e1, e2, e6, lc_step, Int.zero_add, C, e7, R, C2, n_Tg]
  · have eb : bsl 2 = [.bl false, .bl false, .bl true, .bl false, .bl false, .bl false, .bl false] := rfl
    have efd : fd 2 a b = .tup [a] := rfl
    simp only [eb, efd, Int.natCast_zero, Int.natCast_one, Int.cast_ofNat_Int] at e6 e7 C R C2 ⊢
    simp only [lk_some, tru_bl, tru_int, tru_non, isB_bl, notB_bl, negI_int, isO_some, e_loc, e_cst, e_gl, e_gf, e_tup, e_lst, e_bin, e_neg, e_not, e_cmp, e_chn, e_and, e_or, e_ite, e_ix, e_sl, e_rev, e_call, e_cav, e_bi, e_isi, e_app, e_lc, c_and, c_or, c_not, c_cmp, c_chn, c_loc, c_call, c_bi, c_isi, s_asg, s_asgT, s_par, s_setix, ops_some, s_aug, s_ex, s_ret, s_iff, s_whl, s_forr, s_rais, s_try, q_nil, q_cons, l_nil, l_cons, a_one, a_cons, o_one, o_cons, gtI_int, i_none, i_some, f_nil, f_one, nx_ok, bk_nx, bk_rt, bk_exc, d_add, d_sub, d_subB, c_lt, c_le, c_gt, c_ge, c_eqI, c_neI, c_is0, c_isT, b_abs, b_intI, b_intB, b_lenT, x_0, x_1, x_2, n_T1, n_T2, n_T3, n_L0, i_int, i_intb, i_tup, k_0, k_tup, k_obj, h_items, h_rng, g_one, g_tup, sa_nil, sa_cons, wp_nil, wp_cons, G_fn, G_cst, List.getElem?_cons_zero, List.getElem?_cons_succ, List.set_cons_zero, List.set_cons_succ, Nat.reduceAdd, Bool.not_true, Bool.not_false, decide_true, decide_false, nxO_some, sro_some, apI_some, kT_o0, kT_x, kL_o0, kL_x, kB2_o0, kB2_x, kB1_o0, kB1_x, kN_o0, kN_x, kNb_o0, kNb_x, kTr_o0, kTr_x, kIb_o0, kIb_x, kC2_o0, kC2_x, kC1_o0, kC1_x, kH3_o0, kH3_o1, kH3_x, kH2_o0, kH2_x, kH1_o0, kH1_x, kA_o0, kA_o1, kA_x, kO_o0, kO_o1, kO_x, kI_o0, kI_o1, kI_x, kX2_o0, kX2_x, kX1_o0, kX1_x, kCl_o0, kCl_x, kBi_o0, kBi_x, kIs_o0, kIs_x, kl2_o0, kl2_x, kl1_o0, kl1_x, kS3_o0, kS3_x, kS2_o0, kS2_x, kS1_o0, kS1_x, kR2_o0, kR2_x, kR1_o0, kR1_x, kG_o0, kG_x, kCv_o0, kCv_x, kPu_o0, kPu_x, kAp_o0, kAp_x, kIt_o0, kIt_x, kLc_o0, kLc_x, kc4_o0, kc4_x, kc3_o0, kc3_x, kc2_o0, kc2_o1, kc2_x, kc1_some, kc0_some, kc0_end, sA_o0, sA_x, sT_o0, sT_x, sP2_o0, sP2_x, sP1_o0, sP1_x, sX3_o0, sX3_x, sX2_o0, sX2_x, sX1_o0, sX1_x, sG2_o0, sG2_x, sG1_o0, sG1_x, sE_o0, sE_x, sR_o0, sR_x, sI_o0, sI_o1, sI_x, sF_o0, sF_x, sRa_o0, sRa_x, thq_nx, thq_rt, thq_bk, thq_ct, thq_exc, catS_exc, catS_rt, bdW_nx, bdW_rt, bdF_nx, bdF_rt, sW_o0, sW_o1, sW_x, kf1_some, kf0_some, kf0_end, List.length_cons, List.length_nil, Nat.zero_add, Int.cast_ofNat_Int, Int.natCast_zero, Int.natCast_one, eq_self, Int.reduceLT, Int.reduceLE, Int.reduceEq, Int.reduceNeg, Int.reduceAdd, Int.reduceSub, Int.reduceMul, List.nil_append, List.cons_append, List.append_assoc, bools, Option.bind_some, Option.map_some, List.all_cons, List.all_nil, id, Bool.and_true, Bool.true_and, Bool.and_false, Bool.false_and, it_get0, it_hd, it_get, it_tl, onO_some, fLen_e, fAll_e, fAny_e, fTup_e, b_lenO, b_all, b_any, b_tupO, ps_0, ps_1, ps_2, ps_3, len_app, Nat.reduceLT, List.any_cons, List.any_nil, Bool.or_false, Bool.or_true, Bool.true_or, Bool.false_or, List.getElem?_nil, ↓reduceIte, Int.reduceToNat, k_rng, Int.toNat_natCast, x_obj, fAt_0, fAt_1, fAt_2, zipO_s, k_zipE, zipE_s, zipE_n, zipN_s, h_zip, sq_obj, sq_items, Nat.reduceLeDiff, and_self, and_true, true_and, Nat.zero_le, Nat.le_refl, e1, e2, e6, lc_step, Int.zero_add, C, e7, R, C2, n_Tg]
  · have eb : bsl 3 = [.bl false, .bl false, .bl false, .bl true, .bl false, .bl false, .bl false] := rfl
    have efd : fd 3 a b = .tup [a] := rfl
    simp only [eb, efd, Int.natCast_zero, Int.natCast_one, Int.cast_ofNat_Int] at e6 e7 C R C2 ⊢
    simp only [lk_some, tru_bl, tru_int, tru_non, isB_bl, notB_bl, negI_int, isO_some, e_loc, e_cst, e_gl, e_gf, e_tup, e_lst, e_bin, e_neg, e_not, e_cmp, e_chn, e_and, e_or, e_ite, e_ix, e_sl, e_rev, e_call, e_cav, e_bi, e_isi, e_app, e_lc, c_and, c_or, c_not, c_cmp, c_chn, c_loc, c_call, c_bi, c_isi, s_asg, s_asgT, s_par, s_setix, ops_some, s_aug, s_ex, s_ret, s_iff, s_whl, s_forr, s_rais, s_try, q_nil, q_cons, l_nil, l_cons, a_one, a_cons, o_one, o_cons, gtI_int, i_none, i_some, f_nil, f_one, nx_ok, bk_nx, bk_rt, bk_exc, d_add, d_sub, d_subB, c_lt, c_le, c_gt, c_ge, c_eqI, c_neI, c_is0, c_isT, b_abs, b_intI, b_intB, b_lenT, x_0, x_1, x_2, n_T1, n_T2, n_T3, n_L0, i_int, i_intb, i_tup, k_0, k_tup, k_obj, h_items, h_rng, g_one, g_tup, sa_nil, sa_cons, wp_nil, wp_cons, G_fn, G_cst, List.getElem?_cons_zero, List.getElem?_cons_succ, List.set_cons_zero, List.set_cons_succ, Nat.reduceAdd, Bool.not_true, Bool.not_false, decide_true, decide_false, nxO_some, sro_some, apI_some, kT_o0, kT_x, kL_o0, kL_x, kB2_o0, kB2_x, kB1_o0, kB1_x, kN_o0, kN_x, kNb_o0, kNb_x, kTr_o0, kTr_x, kIb_o0, kIb_x, kC2_o0, kC2_x, kC1_o0, kC1_x, kH3_o0, kH3_o1, kH3_x, kH2_o0, kH2_x, kH1_o0, kH1_x, kA_o0, kA_o1, kA_x, kO_o0, kO_o1, kO_x, kI_o0, kI_o1, kI_x, kX2_o0, kX2_x, kX1_o0, kX1_x, kCl_o0, kCl_x, kBi_o0, kBi_x, kIs_o0, kIs_x, kl2_o0, kl2_x, kl1_o0, kl1_x, kS3_o0, kS3_x, kS2_o0, kS2_x, kS1_o0, kS1_x, kR2_o0, kR2_x, kR1_o0, kR1_x, kG_o0, kG_x, kCv_o0, kCv_x, kPu_o0, kPu_x, kAp_o0, kAp_x, kIt_o0, kIt_x, kLc_o0, kLc_x, kc4_o0, kc4_x, kc3_o0, kc3_x, kc2_o0, kc2_o1, kc2_x, kc1_some, kc0_some, kc0_end, sA_o0, sA_x, sT_o0, sT_x, sP2_o0, sP2_x, sP1_o0, sP1_x, sX3_o0, sX3_x, sX2_o0, sX2_x, sX1_o0, sX1_x, sG2_o0, sG2_x, sG1_o0, sG1_x, sE_o0, sE_x, sR_o0, sR_x, sI_o0, sI_o1, sI_x, sF_o0, sF_x, sRa_o0, sRa_x, thq_nx, thq_rt, thq_bk, thq_ct, thq_exc, catS_exc, catS_rt, bdW_nx, bdW_rt, bdF_nx, bdF_rt, sW_o0, sW_o1, sW_x, kf1_some, kf0_some, kf0_end, List.length_cons, List.length_nil, Nat.zero_add, Int.cast_ofNat_Int, Int.natCast_zero, Int.natCast_one, eq_self, Int.reduceLT, Int.reduceLE, Int.reduceEq, Int.reduceNeg, Int.reduceAdd, Int.reduceSub, Int.reduceMul, List.nil_append, List.cons_append, List.append_assoc, bools, Option.bind_some, Option.map_some, List.all_cons, List.all_nil, id, Bool.and_true, Bool.true_and, Bool.and_false, Bool.false_and, it_get0, it_hd, it_get, it_tl, onO_some, fLen_e, fAll_e, fAny_e, fTup_e, b_lenO, b_all, b_any, b_tupO, ps_0, ps_1, ps_2, ps_3, len_app, Nat.reduceLT, List.any_cons, List.any_nil, Bool.or_false, Bool.or_true, Bool.true_or, Bool.false_or, List.getElem?_nil, ↓reduceIte, Int.reduceToNat, k_rng, Int.toNat_natCast, x_obj, fAt_0, fAt_1, fAt_2, zipO_s, k_zipE, zipE_s, zipE_n, zipN_s, h_zip, sq_obj, sq_items, Nat.reduceLeDiff, and_self, and_true, true_and, Nat.zero_le, Nat.le_refl, e1, e2, e6, lc_step, Int.zero_add, C, e7, R, C2, n_Tg]
  · have eb : bsl 4 = [.bl false, .bl false, .bl false, .bl false, .bl true, .bl false, .bl false] := rfl
    have efd : fd 4 a b = .tup [a] := rfl
    simp only [eb, efd, Int.natCast_zero, Int.natCast_one, Int.cast_ofNat_Int] at e6 e7 C R C2 ⊢
    simp only [lk_some, tru_bl, tru_int, tru_non, isB_bl, notB_bl, negI_int, isO_some, e_loc, e_cst, e_gl, e_gf, e_tup, e_lst, e_bin, e_neg, e_not, e_cmp, e_chn, e_and, e_or, e_ite, e_ix, e_sl, e_rev, e_call, e_cav, e_bi, e_isi, e_app, e_lc, c_and, c_or, c_not, c_cmp, c_chn, c_loc, c_call, c_bi, c_isi, s_asg, s_asgT, s_par, s_setix, ops_some, s_aug, s_ex, s_ret, s_iff, s_whl, s_forr, s_rais, s_try, q_nil, q_cons, l_nil, l_cons, a_one, a_cons, o_one, o_cons, gtI_int, i_none, i_some, f_nil, f_one, nx_ok, bk_nx, bk_rt, bk_exc, d_add, d_sub, d_subB, c_lt, c_le, c_gt, c_ge, c_eqI, c_neI, c_is0, c_isT, b_abs, b_intI, b_intB, b_lenT, x_0, x_1, x_2, n_T1, n_T2, n_T3, n_L0, i_int, i_intb, i_tup, k_0, k_tup, k_obj, h_items, h_rng, g_one, g_tup, sa_nil, sa_cons, wp_nil, wp_cons, G_fn, G_cst, List.getElem?_cons_zero, List.getElem?_cons_succ, List.set_cons_zero, List.set_cons_succ, Nat.reduceAdd, Bool.not_true, Bool.not_false, decide_true, decide_false, nxO_some, sro_some, apI_some, kT_o0, kT_x, kL_o0, kL_x, kB2_o0, kB2_x, kB1_o0, kB1_x, kN_o0, kN_x, kNb_o0, kNb_x, kTr_o0, kTr_x, kIb_o0, kIb_x, kC2_o0, kC2_x, kC1_o0, kC1_x, kH3_o0, kH3_o1, kH3_x, kH2_o0, kH2_x, kH1_o0, kH1_x, kA_o0, kA_o1, kA_x, kO_o0, kO_o1, kO_x, kI_o0, kI_o1, kI_x, kX2_o0, kX2_x, kX1_o0, kX1_x, kCl_o0, kCl_x, kBi_o0, kBi_x, kIs_o0, kIs_x, kl2_o0, kl2_x, kl1_o0, kl1_x, kS3_o0, kS3_x, kS2_o0, kS2_x, kS1_o0, kS1_x, kR2_o0, kR2_x, kR1_o0, kR1_x, kG_o0, kG_x, kCv_o0, kCv_x, kPu_o0, kPu_x, kAp_o0, kAp_x, kIt_o0, kIt_x, kLc_o0, kLc_x, kc4_o0, kc4_x, kc3_o0, kc3_x, kc2_o0, kc2_o1, kc2_x, kc1_some, kc0_some, kc0_end, sA_o0, sA_x, sT_o0, sT_x, sP2_o0, sP2_x, sP1_o0, sP1_x, sX3_o0, sX3_x, sX2_o0, sX2_x, sX1_o0, sX1_x, sG2_o0, sG2_x, sG1_o0, sG1_x, sE_o0, sE_x, sR_o0, sR_x, sI_o0, sI_o1, sI_x, sF_o0, sF_x, sRa_o0, sRa_x, thq_nx, thq_rt, thq_bk, thq_ct, thq_exc, catS_exc, catS_rt, bdW_nx, bdW_rt, bdF_nx, bdF_rt, sW_o0, sW_o1, sW_x, kf1_some, kf0_some, kf0_end, List.length_cons, List.length_nil, Nat.zero_add, Int.cast_ofNat_Int, Int.natCast_zero, Int.natCast_one, eq_self, Int.reduceLT, Int.reduceLE, Int.reduceEq, Int.reduceNeg, Int.reduceAdd, Int.reduceSub, Int.reduceMul, List.nil_append, List.cons_append, List.append_assoc, bools, Option.bind_some, Option.map_some, List.all_cons, List.all_nil, id, Bool.and_true, Bool.true_and, Bool.and_false, Bool.false_and, it_get0, it_hd, it_get, it_tl, onO_some, fLen_e, fAll_e, fAny_e, fTup_e, b_lenO, b_all, b_any, b_tupO, ps_0, ps_1, ps_2, ps_3, len_app, Nat.reduceLT, List.any_cons, List.any_nil, Bool.or_false, Bool.or_true, Bool.true_or, Bool.false_or, List.getElem?_nil, ↓reduceIte, Int.reduceToNat, k_rng, Int.toNat_natCast, x_obj, fAt_0, fAt_1, fAt_2, zipO_s, k_zipE, zipE_s, zipE_n, zipN_s, h_zip, sq_obj, sq_items, Nat.reduceLeDiff, and_self, and_true, true_and, Nat.zero_le, Nat.le_refl, e1, e2, e6, lc_step, Int.zero_add, C, e7, R, C2, n_Tg]
  · have eb : bsl 5 = [.bl false, .bl false, .bl false, .bl false, .bl false, .bl true, .bl false] := rfl
    have efd : fd 5 a b = .tup [a, b] := rfl
    simp only [eb, efd, Int.natCast_zero, Int.natCast_one, Int.cast_ofNat_Int] at e6 e7 C R C2 ⊢
    simp only [lk_some, tru_bl, tru_int, tru_non, isB_bl, notB_bl, negI_int, isO_some, e_loc, e_cst, e_gl, e_gf, e_tup, e_lst, e_bin, e_neg, e_not, e_cmp, e_chn, e_and, e_or, e_ite, e_ix, e_sl, e_rev, e_call, e_cav, e_bi, e_isi, e_app, e_lc, c_and, c_or, c_not, c_cmp, c_chn, c_loc, c_call, c_bi, c_isi, s_asg, s_asgT, s_par, s_setix, ops_some, s_aug, s_ex, s_ret, s_iff, s_whl, s_forr, s_rais, s_try, q_nil, q_cons, l_nil, l_cons, a_one, a_cons, o_one, o_cons, gtI_int, i_none, i_some, f_nil, f_one, nx_ok, bk_nx, bk_rt, bk_exc, d_add, d_sub, d_subB, c_lt, c_le, c_gt, c_ge, c_eqI, c_neI, c_is0, c_isT, b_abs, b_intI, b_intB, b_lenT, x_0, x_1, x_2, n_T1, n_T2, n_T3, n_L0, i_int, i_intb, i_tup, k_0, k_tup, k_obj, h_items, h_rng, g_one, g_tup, sa_nil, sa_cons, wp_nil, wp_cons, G_fn, G_cst, List.getElem?_cons_zero, List.getElem?_cons_succ, List.set_cons_zero, List.set_cons_succ, Nat.reduceAdd, Bool.not_true, Bool.not_false, decide_true, decide_false, nxO_some, sro_some, apI_some, kT_o0, kT_x, kL_o0, kL_x, kB2_o0, kB2_x, kB1_o0, kB1_x, kN_o0, kN_x, kNb_o0, kNb_x, kTr_o0, kTr_x, kIb_o0, kIb_x, kC2_o0, kC2_x, kC1_o0, kC1_x, kH3_o0, kH3_o1, kH3_x, kH2_o0, kH2_x, kH1_o0, kH1_x, kA_o0, kA_o1, kA_x, kO_o0, kO_o1, kO_x, kI_o0, kI_o1, kI_x, kX2_o0, kX2_x, kX1_o0, kX1_x, kCl_o0, kCl_x, kBi_o0, kBi_x, kIs_o0, kIs_x, kl2_o0, kl2_x, kl1_o0, kl1_x, kS3_o0, kS3_x, kS2_o0, kS2_x, kS1_o0, kS1_x, kR2_o0, kR2_x, kR1_o0, kR1_x, kG_o0, kG_x, kCv_o0, kCv_x, kPu_o0, kPu_x, kAp_o0, kAp_x, kIt_o0, kIt_x, kLc_o0, kLc_x, kc4_o0, kc4_x, kc3_o0, kc3_x, kc2_o0, kc2_o1, kc2_x, kc1_some, kc0_some, kc0_end, sA_o0, sA_x, sT_o0, sT_x, sP2_o0, sP2_x, sP1_o0, sP1_x, sX3_o0, sX3_x, sX2_o0, sX2_x, sX1_o0, sX1_x, sG2_o0, sG2_x, sG1_o0, sG1_x, sE_o0, sE_x, sR_o0, sR_x, sI_o0, sI_o1, sI_x, sF_o0, sF_x, sRa_o0, sRa_x, thq_nx, thq_rt, thq_bk, thq_ct, thq_exc, catS_exc, catS_rt, bdW_nx, bdW_rt, bdF_nx, bdF_rt, sW_o0, sW_o1, sW_x, kf1_some, kf0_some, kf0_end, List.length_cons, List.length_nil, Nat.zero_add, Int.cast_ofNat_Int, Int.natCast_zero, Int.natCast_one, eq_self, Int.reduceLT, Int.reduceLE, Int.reduceEq, Int.reduceNeg, Int.reduceAdd, Int.reduceSub, Int.reduceMul, List.nil_append, List.cons_append, List.append_assoc, bools, Option.bind_some, Option.map_some, List.all_cons, List.all_nil, id, Bool.and_true, Bool.true_and, Bool.and_false, Bool.false_and, it_get0, it_hd, it_get, it_tl, onO_some, fLen_e, fAll_e, fAny_e, fTup_e, b_lenO, b_all, b_any, b_tupO, ps_0, ps_1, ps_2, ps_3, len_app, Nat.reduceLT, List.any_cons, List.any_nil, Bool.or_false, Bool.or_true, Bool.true_or, Bool.false_or, List.getElem?_nil, ↓reduceIte, Int.reduceToNat, k_rng, Int.toNat_natCast, x_obj, fAt_0, fAt_1, fAt_2, zipO_s, k_zipE, zipE_s, zipE_n, zipN_s, h_zip, sq_obj, sq_items, Nat.reduceLeDiff, and_self, and_true, true_and, Nat.zero_le, Nat.le_refl, e1, e2, e6, lc_step, Int.zero_add, C, e7, R, C2, n_Tg]
  · have eb : bsl 6 = [.bl false, .bl false, .bl false, .bl false, .bl false, .bl false, .bl true] := rfl
    have efd : fd 6 a b = .tup [a] := rfl
    simp only [eb, efd, Int.natCast_zero, Int.natCast_one, Int.cast_ofNat_Int] at e6 e7 C R C2 ⊢
    simp only [lk_some, tru_bl, tru_int, tru_non, isB_bl, notB_bl, negI_int, isO_some, e_loc, e_cst, e_gl, e_gf, e_tup, e_lst, e_bin, e_neg, e_not, e_cmp, e_chn, e_and, e_or, e_ite, e_ix, e_sl, e_rev, e_call, e_cav, e_bi, e_isi, e_app, e_lc, c_and, c_or, c_not, c_cmp, c_chn, c_loc, c_call, c_bi, c_isi, s_asg, s_asgT, s_par, s_setix, ops_some, s_aug, s_ex, s_ret, s_iff, s_whl, s_forr, s_rais, s_try, q_nil, q_cons, l_nil, l_cons, a_one, a_cons, o_one, o_cons, gtI_int, i_none, i_some, f_nil, f_one, nx_ok, bk_nx, bk_rt, bk_exc, d_add, d_sub, d_subB, c_lt, c_le, c_gt, c_ge, c_eqI, c_neI, c_is0, c_isT, b_abs, b_intI, b_intB, b_lenT, x_0, x_1, x_2, n_T1, n_T2, n_T3, n_L0, i_int, i_intb, i_tup, k_0, k_tup, k_obj, h_items, h_rng, g_one, g_tup, sa_nil, sa_cons, wp_nil, wp_cons, G_fn, G_cst, List.getElem?_cons_zero, List.getElem?_cons_succ, List.set_cons_zero, List.set_cons_succ, Nat.reduceAdd, Bool.not_true, Bool.not_false, decide_true, decide_false, nxO_some, sro_some, apI_some, kT_o0, kT_x, kL_o0, kL_x, kB2_o0, kB2_x, kB1_o0, kB1_x, kN_o0, kN_x, kNb_o0, kNb_x, kTr_o0, kTr_x, kIb_o0, kIb_x, kC2_o0, kC2_x, kC1_o0, kC1_x, kH3_o0, kH3_o1, kH3_x, kH2_o0, kH2_x, kH1_o0, kH1_x, kA_o0, kA_o1, kA_x, kO_o0, kO_o1, kO_x, kI_o0, kI_o1, kI_x, kX2_o0, kX2_x, kX1_o0, kX1_x, kCl_o0, kCl_x, kBi_o0, kBi_x, kIs_o0, kIs_x, kl2_o0, kl2_x, kl1_o0, kl1_x, kS3_o0, kS3_x, kS2_o0, kS2_x, kS1_o0, kS1_x, kR2_o0, kR2_x, kR1_o0, kR1_x, kG_o0, kG_x, kCv_o0, kCv_x, kPu_o0, kPu_x, kAp_o0, kAp_x, kIt_o0, kIt_x, kLc_o0, kLc_x, kc4_o0, kc4_x, kc3_o0, kc3_x, kc2_o0, kc2_o1, kc2_x, kc1_some, kc0_some, kc0_end, sA_o0, sA_x, sT_o0, sT_x, sP2_o0, sP2_x, sP1_o0, sP1_x, sX3_o0, sX3_x, sX2_o0, sX2_x, sX1_o0, sX1_x, sG2_o0, sG2_x, sG1_o0, sG1_x, sE_o0, sE_x, sR_o0, sR_x, sI_o0, sI_o1, sI_x, sF_o0, sF_x, sRa_o0, sRa_x, thq_nx, thq_rt, thq_bk, thq_ct, thq_exc, catS_exc, catS_rt, bdW_nx, bdW_rt, bdF_nx, bdF_rt, sW_o0, sW_o1, sW_x, kf1_some, kf0_some, kf0_end, List.length_cons, List.length_nil, Nat.zero_add, Int.cast_ofNat_Int, Int.natCast_zero, Int.natCast_one, eq_self, Int.reduceLT, Int.reduceLE, Int.reduceEq, Int.reduceNeg, Int.reduceAdd, Int.reduceSub, Int.reduceMul, List.nil_append, List.cons_append, List.append_assoc, bools, Option.bind_some, Option.map_some, List.all_cons, List.all_nil, id, Bool.and_true, Bool.true_and, Bool.and_false, Bool.false_and, it_get0, it_hd, it_get, it_tl, onO_some, fLen_e, fAll_e, fAny_e, fTup_e, b_lenO, b_all, b_any, b_tupO, ps_0, ps_1, ps_2, ps_3, len_app, Nat.reduceLT, List.any_cons, List.any_nil, Bool.or_false, Bool.or_true, Bool.true_or, Bool.false_or, List.getElem?_nil, ↓reduceIte, Int.reduceToNat, k_rng, Int.toNat_natCast, x_obj, fAt_0, fAt_1, fAt_2, zipO_s, k_zipE, zipE_s, zipE_n, zipN_s, h_zip, sq_obj, sq_items, Nat.reduceLeDiff, and_self, and_true, true_and, Nat.zero_le, Nat.le_refl, e1, e2, e6, lc_step, Int.zero_add, C, e7, R, C2, n_Tg]
theorem law_ok (ns : List Int) (hn : ns.length ≤ 63) : ∃ S', run 60 8 [.obj 0] [.ro (iL ns)] = .ok (.bl true) S' := by
  obtain ⟨as, C, e, hd, hl⟩ := p26 58 ns hn
  have I0 : Inv as (DS (iL ns) C as ++ [.lst [.int 0]]) 0 := ⟨hd, hl, rfl, 0, Nat.le_refl _, rfl⟩
  obtain ⟨T, e4⟩ := q4 58 (DS (iL ns) C as ++ [.lst [.int 0]])
  have I1 := I0.app T
  have n3 : new (DS (iL ns) C as) [.int 0] = .ok (.obj 3) (DS (iL ns) C as ++ [.lst [.int 0]]) := n_Lg (show 1 ≤ 1000000 by decide)
  generalize hS0 : DS (iL ns) C as ++ [.lst [.int 0]] = S0 at *
  generalize hS1 : S0 ++ T = S1 at *
  have h3 := I1.len
  have nV : new S1 [.str "word", .str "", .str "form", .int 0, .int 17, .int (-3), .non, .tup [.str "a", .int 5], .str "a line", .bl true] = .ok (.obj S1.length) (S1 ++ [.lst VL]) := n_Lg (by decide)
  obtain ⟨fr', S2, e1, o4, o5, o6, rfl, I2, hv⟩ := for_rng (turn_ok as S1.length (Nat.ne_of_gt h3)) 7 0 2999 [some (.obj 0), some (.obj 1), some (.obj 3), some (.obj S1.length), none, none, none, none] (S1 ++ [.lst VL]) rfl (by decide) ⟨_, _, _, rfl, (I1.app _).mono (by omega), last_get _ _⟩
  refine ⟨S2, ?_⟩
  rw [show (60 : Nat) = 59 + 1 from rfl, r8]
  show (seqS (evS (G 59) 3000) [.asg 1 (.call 0 [(.loc 0)]), .asg 2 (.lst [(.cst (.int 0))]), .iff (.not (.call 4 [])) [.ret (.cst (.bl false))] [], .asg 3 (.lst [(.cst (.str "word")), (.cst (.str "")), (.cst (.str "form")), (.cst (.int 0)), (.cst (.int 17)), (.neg (.cst (.int 3))), (.cst .non), (.tup [(.cst (.str "a")), (.cst (.int 5))]), (.cst (.str "a line")), (.cst (.bl true))]), .forr [6] true 1 [(.cst (.int 7))] body, .ret (.cst (.bl true))] [some (.obj 0), none, none, none, none, none, none, none] [.ro (iL ns)]).back = _
  simp only [lk_some, tru_bl, tru_int, tru_non, isB_bl, notB_bl, negI_int, isO_some, e_loc, e_cst, e_gl, e_gf, e_tup, e_lst, e_bin, e_neg, e_not, e_cmp, e_chn, e_and, e_or, e_ite, e_ix, e_sl, e_rev, e_call, e_cav, e_bi, e_isi, e_app, e_lc, c_and, c_or, c_not, c_cmp, c_chn, c_loc, c_call, c_bi, c_isi, s_asg, s_asgT, s_par, s_setix, ops_some, s_aug, s_ex, s_ret, s_iff, s_whl, s_forr, s_rais, s_try, q_nil, q_cons, l_nil, l_cons, a_one, a_cons, o_one, o_cons, gtI_int, i_none, i_some, f_nil, f_one, nx_ok, bk_nx, bk_rt, bk_exc, d_add, d_sub, d_subB, c_lt, c_le, c_gt, c_ge, c_eqI, c_neI, c_is0, c_isT, b_abs, b_intI, b_intB, b_lenT, x_0, x_1, x_2, n_T1, n_T2, n_T3, n_L0, i_int, i_intb, i_tup, k_0, k_tup, k_obj, h_items, h_rng, g_one, g_tup, sa_nil, sa_cons, wp_nil, wp_cons, G_fn, G_cst, List.getElem?_cons_zero, List.getElem?_cons_succ, List.set_cons_zero, List.set_cons_succ, Nat.reduceAdd, Bool.not_true, Bool.not_false, decide_true, decide_false, nxO_some, sro_some, apI_some, kT_o0, kT_x, kL_o0, kL_x, kB2_o0, kB2_x, kB1_o0, kB1_x, kN_o0, kN_x, kNb_o0, kNb_x, kTr_o0, kTr_x, kIb_o0, kIb_x, kC2_o0, kC2_x, kC1_o0, kC1_x, kH3_o0, kH3_o1, kH3_x, kH2_o0, kH2_x, kH1_o0, kH1_x, kA_o0, kA_o1, kA_x, kO_o0, kO_o1, kO_x, kI_o0, kI_o1, kI_x, kX2_o0, kX2_x, kX1_o0, kX1_x, kCl_o0, kCl_x, kBi_o0, kBi_x, kIs_o0, kIs_x, kl2_o0, kl2_x, kl1_o0, kl1_x, kS3_o0, kS3_x, kS2_o0, kS2_x, kS1_o0, kS1_x, kR2_o0, kR2_x, kR1_o0, kR1_x, kG_o0, kG_x, kCv_o0, kCv_x, kPu_o0, kPu_x, kAp_o0, kAp_x, kIt_o0, kIt_x, kLc_o0, kLc_x, kc4_o0, kc4_x, kc3_o0, kc3_x, kc2_o0, kc2_o1, kc2_x, kc1_some, kc0_some, kc0_end, sA_o0, sA_x, sT_o0, sT_x, sP2_o0, sP2_x, sP1_o0, sP1_x, sX3_o0, sX3_x, sX2_o0, sX2_x, sX1_o0, sX1_x, sG2_o0, sG2_x, sG1_o0, sG1_x, sE_o0, sE_x, sR_o0, sR_x, sI_o0, sI_o1, sI_x, sF_o0, sF_x, sRa_o0, sRa_x, thq_nx, thq_rt, thq_bk, thq_ct, thq_exc, catS_exc, catS_rt, bdW_nx, bdW_rt, bdF_nx, bdF_rt, sW_o0, sW_o1, sW_x, kf1_some, kf0_some, kf0_end, List.length_cons, List.length_nil, Nat.zero_add, Int.cast_ofNat_Int, Int.natCast_zero, Int.natCast_one, eq_self, Int.reduceLT, Int.reduceLE, Int.reduceEq, Int.reduceNeg, Int.reduceAdd, Int.reduceSub, Int.reduceMul, List.nil_append, List.cons_append, List.append_assoc, bools, Option.bind_some, Option.map_some, List.all_cons, List.all_nil, id, Bool.and_true, Bool.true_and, Bool.and_false, Bool.false_and, it_get0, it_hd, it_get, it_tl, onO_some, fLen_e, fAll_e, fAny_e, fTup_e, b_lenO, b_all, b_any, b_tupO, ps_0, ps_1, ps_2, ps_3, len_app, Nat.reduceLT, List.any_cons, List.any_nil, Bool.or_false, Bool.or_true, Bool.true_or, Bool.false_or, List.getElem?_nil, ↓reduceIte, Int.reduceToNat, k_rng, Int.toNat_natCast, x_obj, fAt_0, fAt_1, fAt_2, zipO_s, k_zipE, zipE_s, zipE_n, zipN_s, h_zip, sq_obj, sq_items, Nat.reduceLeDiff, and_self, and_true, true_and, Nat.zero_le, Nat.le_refl, e, n3, e4, nV, n_Tg, e1]
theorem hrun_ok : ∀ ns : List Int, ns.length ≤ 63 → ∃ m S', Ev.PD.run K00.pd m 60 8 [.obj 0] [.ro (ns.map Ev.D.int)] = .ok (.bl true) S' := fun ns hn => ⟨3000, law_ok ns hn⟩
end K00

/-! ## K00T -/
set_option Elab.async false
set_option linter.all false
set_option maxRecDepth 100000
set_option maxHeartbeats 0
set_option pp.maxSteps 150

/-! The top of the law; printed by genlaw.py. -/
open PySem PySem.W PyProof.Rows
theorem PySem.Challenge.cw_truedrawn_k00_errors_and_limits_holds : PySem.Challenge.rw_truedrawn_k00_errors_and_limits.Holds := by
  w_on; o_law; k_head; (case hw => w_witness2)
  k_fill
  refine Ev.walk_ofG (l := PySem.Challenge.rw_truedrawn_k00_errors_and_limits) (n := 63) (k := 68) (x := "script") (sp := fun w => Ev.spL _) rfl (by decide) rfl ⟨rfl, by decide, by decide⟩ (fun w h Y => PySem.W.kIn_of Y) ?F (fun _ H a ns hl hO hS => Ev.spL_of hl hO hS)
  case F =>
    intro w mg fa h KX G hmg
    refine Ev.pd_law (p := K00.pd) (M := K00.fuel) (f := K00.f8) (k := 8) (n := 60) K00.hrun_ok ?facts KX G hmg rfl rfl
    refine' ⟨rfl, ?defs, ?bis, ?sup, ?cst, ?cls, ?sub, ?mk, ?val, ?kin⟩
    case defs =>
      refine Ev.AllF.cons (f := K00.f0) (st := K00.topS 38) ?_ K00.t0 ?_
      · show Ev.DefF _ ("_law_draws" : Str) _
        refine' Ev.defF_mk ?a ?l ?c ?k; (case a => k_is); (case l => k_is); (case c => k_is); (case k => k_is)
      refine Ev.AllF.cons (f := K00.f1) (st := K00.topS 39) ?_ K00.t1 ?_
      · show Ev.DefF _ ("_law_more" : Str) _
        refine' Ev.defF_mk ?a ?l ?c ?k; (case a => k_is); (case l => k_is); (case c => k_is); (case k => k_is)
      refine Ev.AllF.cons (f := K00.f2) (st := K00.topS 40) ?_ K00.t2 ?_
      · show Ev.DefF _ ("_law_take" : Str) _
        refine' Ev.defF_mk ?a ?l ?c ?k; (case a => k_is); (case l => k_is); (case c => k_is); (case k => k_is)
      refine Ev.AllF.cons (f := K00.f3) (st := K00.topS 41) ?_ K00.t3 ?_
      · show Ev.DefF _ ("_law_one" : Str) _
        refine' Ev.defF_mk ?a ?l ?c ?k; (case a => k_is); (case l => k_is); (case c => k_is); (case k => k_is)
      refine Ev.AllF.cons (f := K00.f4) (st := K00.topS 42) ?_ K00.t4 ?_
      · show Ev.DefF _ ("_law_limits_right" : Str) _
        refine' Ev.defF_mk ?a ?l ?c ?k; (case a => k_is); (case l => k_is); (case c => k_is); (case k => k_is)
      refine Ev.AllF.cons (f := K00.f5) (st := K00.topS 43) ?_ K00.t5 ?_
      · show Ev.DefF _ ("_law_raise" : Str) _
        refine' Ev.defF_mk ?a ?l ?c ?k; (case a => k_is); (case l => k_is); (case c => k_is); (case k => k_is)
      refine Ev.AllF.cons (f := K00.f6) (st := K00.topS 45) ?_ K00.t6 ?_
      · show Ev.DefF _ ("_law_caught" : Str) _
        refine' Ev.defF_mk ?a ?l ?c ?k; (case a => k_is); (case l => k_is); (case c => k_is); (case k => k_is)
      refine Ev.AllF.cons (f := K00.f7) (st := K00.topS 46) ?_ K00.t7 ?_
      · show Ev.DefF _ ("_law_fields" : Str) _
        refine' Ev.defF_mk ?a ?l ?c ?k; (case a => k_is); (case l => k_is); (case c => k_is); (case k => k_is)
      refine Ev.AllF.cons (f := K00.f8) (st := K00.topS 47) ?_ K00.t8 ?_
      · show Ev.DefF _ ("law" : Str) _
        refine' Ev.defF_mk ?a ?l ?c ?k; (case a => k_is); (case l => k_is); (case c => k_is); (case k => k_is)
      exact .nil
    case sup => k_is
    case bis =>
      intro x hx
      rcases List.mem_cons.mp hx with rfl | hx; (show PySem.W.nsIn _ mainGlobals ("len" : Str) = _; k_is)
      rcases List.mem_cons.mp hx with rfl | hx; (show PySem.W.nsIn _ mainGlobals ("abs" : Str) = _; k_is)
      rcases List.mem_cons.mp hx with rfl | hx; (show PySem.W.nsIn _ mainGlobals ("repr" : Str) = _; k_is)
      rcases List.mem_cons.mp hx with rfl | hx; (show PySem.W.nsIn _ mainGlobals ("int" : Str) = _; k_is)
      rcases List.mem_cons.mp hx with rfl | hx; (show PySem.W.nsIn _ mainGlobals ("isinstance" : Str) = _; k_is)
      rcases List.mem_cons.mp hx with rfl | hx; (show PySem.W.nsIn _ mainGlobals ("range" : Str) = _; k_is)
      rcases List.mem_cons.mp hx with rfl | hx; (show PySem.W.nsIn _ mainGlobals ("ValueError" : Str) = _; k_is)
      cases hx
    case cst =>
      intro k x hk
      match k, hk with
      | 0, e =>
        cases e
        refine' Ev.cst_int (i := 1000000) ?n ?h
        case n => show PySem.W.nsIn _ mainGlobals ("MAX_NUMBER" : Str) = _; k_is
        case h => rfl
      | 1, e =>
        cases e
        refine' Ev.cst_int (i := 5) ?n ?h
        case n => show PySem.W.nsIn _ mainGlobals ("MAX_LEVELS" : Str) = _; k_is
        case h => rfl
      | 2, e =>
        cases e
        refine' Ev.cst_int (i := 1000000000000000000000000000000) ?n ?h
        case n => show PySem.W.nsIn _ mainGlobals ("MAX_PART" : Str) = _; k_is
        case h => rfl
      | 3, e =>
        cases e
        refine' Ev.cst_int (i := 60) ?n ?h
        case n => show PySem.W.nsIn _ mainGlobals ("MAX_DIGITS" : Str) = _; k_is
        case h => rfl
      | 4, e =>
        cases e
        refine' Ev.cst_int (i := 40) ?n ?h
        case n => show PySem.W.nsIn _ mainGlobals ("MAX_STEPS" : Str) = _; k_is
        case h => rfl
      | 5, e =>
        cases e
        refine' Ev.cst_int (i := 6000) ?n ?h
        case n => show PySem.W.nsIn _ mainGlobals ("MAX_TEXT" : Str) = _; k_is
        case h => rfl
      | 6, e =>
        cases e
        refine' Ev.cst_int (i := 200) ?n ?h
        case n => show PySem.W.nsIn _ mainGlobals ("MAX_LINES" : Str) = _; k_is
        case h => rfl
      | 7, e =>
        cases e
        refine' Ev.cst_int (i := 3000) ?n ?h
        case n => show PySem.W.nsIn _ mainGlobals ("MAX_REACHED" : Str) = _; k_is
        case h => rfl
      | 8, e =>
        cases e
        refine' Ev.cst_int (i := 8) ?n ?h
        case n => show PySem.W.nsIn _ mainGlobals ("MAX_DEGREE" : Str) = _; k_is
        case h => rfl
      | 9, e =>
        cases e
        refine' Ev.cst_int (i := 60) ?n ?h
        case n => show PySem.W.nsIn _ mainGlobals ("MAX_HALVES" : Str) = _; k_is
        case h => rfl
      | 10, e =>
        cases e
        refine' Ev.cst_int (i := 9) ?n ?h
        case n => show PySem.W.nsIn _ mainGlobals ("MAX_RELATED" : Str) = _; k_is
        case h => rfl
      | 11, e =>
        cases e
        refine' Ev.cst_int (i := 16) ?n ?h
        case n => show PySem.W.nsIn _ mainGlobals ("MAX_NAMED" : Str) = _; k_is
        case h => rfl
      | 12, e =>
        cases e
        refine' Ev.cst_int (i := 40) ?n ?h
        case n => show PySem.W.nsIn _ mainGlobals ("MAX_LINKS" : Str) = _; k_is
        case h => rfl
      | 13, e =>
        cases e
        refine' Ev.cst_int (i := 900) ?n ?h
        case n => show PySem.W.nsIn _ mainGlobals ("MAX_CELLS" : Str) = _; k_is
        case h => rfl
      | 14, e =>
        cases e
        refine' Ev.cst_int (i := 1000) ?n ?h
        case n => show PySem.W.nsIn _ mainGlobals ("MAX_TURNS" : Str) = _; k_is
        case h => rfl
      | 15, e =>
        cases e
        refine' Ev.cst_int (i := 60) ?n ?h
        case n => show PySem.W.nsIn _ mainGlobals ("MAX_CORNERS" : Str) = _; k_is
        case h => rfl
      | 16, e =>
        cases e
        refine' Ev.cst_int (i := 5) ?n ?h
        case n => show PySem.W.nsIn _ mainGlobals ("MAX_ROOTED" : Str) = _; k_is
        case h => rfl
      | 17, e =>
        cases e
        refine' Ev.cst_int (i := 8) ?n ?h
        case n => show PySem.W.nsIn _ mainGlobals ("MAX_SPANNED" : Str) = _; k_is
        case h => rfl
      | 18, e =>
        cases e
        refine' Ev.cst_int (i := 100000) ?n ?h
        case n => show PySem.W.nsIn _ mainGlobals ("MAX_BEND" : Str) = _; k_is
        case h => rfl
      | 19, e =>
        cases e
        refine' Ev.cst_int (i := 20000) ?n ?h
        case n => show PySem.W.nsIn _ mainGlobals ("MAX_PACKED" : Str) = _; k_is
        case h => rfl
      | 20, e =>
        cases e
        refine' Ev.cst_int (i := 6) ?n ?h
        case n => show PySem.W.nsIn _ mainGlobals ("MAX_GIVEN" : Str) = _; k_is
        case h => rfl
      | 21, e =>
        cases e
        refine' Ev.cst_int (i := 200) ?n ?h
        case n => show PySem.W.nsIn _ mainGlobals ("MAX_RULED" : Str) = _; k_is
        case h => rfl
      | 22, e =>
        cases e
        refine' Ev.cst_int (i := 20000) ?n ?h
        case n => show PySem.W.nsIn _ mainGlobals ("MAX_TRIED" : Str) = _; k_is
        case h => rfl
      | 23, e =>
        cases e
        refine' Ev.cst_int (i := 3000) ?n ?h
        case n => show PySem.W.nsIn _ mainGlobals ("MAX_TERMS" : Str) = _; k_is
        case h => rfl
      | 24, e =>
        cases e
        refine' Ev.cst_int (i := 6) ?n ?h
        case n => show PySem.W.nsIn _ mainGlobals ("MAX_FREE" : Str) = _; k_is
        case h => rfl
      | 25, e =>
        cases e
        refine' Ev.cst_int (i := 16) ?n ?h
        case n => show PySem.W.nsIn _ mainGlobals ("MAX_PLACED" : Str) = _; k_is
        case h => rfl
      | 26, e =>
        cases e
        refine' Ev.cst_int (i := 20000) ?n ?h
        case n => show PySem.W.nsIn _ mainGlobals ("MAX_TESTED" : Str) = _; k_is
        case h => rfl
    case cls =>
      intro c x hc
      match c, hc with
      | 0, e =>
        cases e
        refine' ⟨_, Ev.clsF_mk ?ns ?ga ?gg ?ex ?hd ?no ?nd ?ha ?hn ?ht ?hm⟩
        case ns => show PySem.W.nsIn _ mainGlobals ("DrawnError" : Str) = _; k_is
        case ga => first | k_is | rfl | kernel_rfl
        case gg => first | k_is | rfl | kernel_rfl
        case ex => first | k_is | rfl | kernel_rfl
        case hd => first | k_is | rfl | kernel_rfl
        case ha => first | k_is | rfl | kernel_rfl
        case hn => first | k_is | rfl | kernel_rfl
        case ht => first | k_is | rfl | kernel_rfl
        case hm => first | k_is | rfl | kernel_rfl
        case no =>
          intro f hf
          cases hf
        case nd => decide
      | 1, e =>
        cases e
        refine' ⟨_, Ev.clsF_mk ?ns ?ga ?gg ?ex ?hd ?no ?nd ?ha ?hn ?ht ?hm⟩
        case ns => show PySem.W.nsIn _ mainGlobals ("ArgumentError" : Str) = _; k_is
        case ga => first | k_is | rfl | kernel_rfl
        case gg => first | k_is | rfl | kernel_rfl
        case ex => first | k_is | rfl | kernel_rfl
        case hd => first | k_is | rfl | kernel_rfl
        case ha => first | k_is | rfl | kernel_rfl
        case hn => first | k_is | rfl | kernel_rfl
        case ht => first | k_is | rfl | kernel_rfl
        case hm => first | k_is | rfl | kernel_rfl
        case no =>
          intro f hf
          rcases List.mem_cons.mp hf with rfl | hf; (show PySem.W.findIn _ _ ("reason" : Str) = _; k_is)
          cases hf
        case nd => decide
      | 2, e =>
        cases e
        refine' ⟨_, Ev.clsF_mk ?ns ?ga ?gg ?ex ?hd ?no ?nd ?ha ?hn ?ht ?hm⟩
        case ns => show PySem.W.nsIn _ mainGlobals ("CheckError" : Str) = _; k_is
        case ga => first | k_is | rfl | kernel_rfl
        case gg => first | k_is | rfl | kernel_rfl
        case ex => first | k_is | rfl | kernel_rfl
        case hd => first | k_is | rfl | kernel_rfl
        case ha => first | k_is | rfl | kernel_rfl
        case hn => first | k_is | rfl | kernel_rfl
        case ht => first | k_is | rfl | kernel_rfl
        case hm => first | k_is | rfl | kernel_rfl
        case no =>
          intro f hf
          rcases List.mem_cons.mp hf with rfl | hf; (show PySem.W.findIn _ _ ("reason" : Str) = _; k_is)
          cases hf
        case nd => decide
      | 3, e =>
        cases e
        refine' ⟨_, Ev.clsF_mk ?ns ?ga ?gg ?ex ?hd ?no ?nd ?ha ?hn ?ht ?hm⟩
        case ns => show PySem.W.nsIn _ mainGlobals ("PaperError" : Str) = _; k_is
        case ga => first | k_is | rfl | kernel_rfl
        case gg => first | k_is | rfl | kernel_rfl
        case ex => first | k_is | rfl | kernel_rfl
        case hd => first | k_is | rfl | kernel_rfl
        case ha => first | k_is | rfl | kernel_rfl
        case hn => first | k_is | rfl | kernel_rfl
        case ht => first | k_is | rfl | kernel_rfl
        case hm => first | k_is | rfl | kernel_rfl
        case no =>
          intro f hf
          rcases List.mem_cons.mp hf with rfl | hf; (show PySem.W.findIn _ _ ("reason" : Str) = _; k_is)
          cases hf
        case nd => decide
      | 4, e =>
        cases e
        refine' ⟨_, Ev.clsF_mk ?ns ?ga ?gg ?ex ?hd ?no ?nd ?ha ?hn ?ht ?hm⟩
        case ns => show PySem.W.nsIn _ mainGlobals ("TooMany" : Str) = _; k_is
        case ga => first | k_is | rfl | kernel_rfl
        case gg => first | k_is | rfl | kernel_rfl
        case ex => first | k_is | rfl | kernel_rfl
        case hd => first | k_is | rfl | kernel_rfl
        case ha => first | k_is | rfl | kernel_rfl
        case hn => first | k_is | rfl | kernel_rfl
        case ht => first | k_is | rfl | kernel_rfl
        case hm => first | k_is | rfl | kernel_rfl
        case no =>
          intro f hf
          rcases List.mem_cons.mp hf with rfl | hf; (show PySem.W.findIn _ _ ("reason" : Str) = _; k_is)
          cases hf
        case nd => decide
      | 5, e =>
        cases e
        refine' ⟨_, Ev.clsF_mk ?ns ?ga ?gg ?ex ?hd ?no ?nd ?ha ?hn ?ht ?hm⟩
        case ns => show PySem.W.nsIn _ mainGlobals ("TextError" : Str) = _; k_is
        case ga => first | k_is | rfl | kernel_rfl
        case gg => first | k_is | rfl | kernel_rfl
        case ex => first | k_is | rfl | kernel_rfl
        case hd => first | k_is | rfl | kernel_rfl
        case ha => first | k_is | rfl | kernel_rfl
        case hn => first | k_is | rfl | kernel_rfl
        case ht => first | k_is | rfl | kernel_rfl
        case hm => first | k_is | rfl | kernel_rfl
        case no =>
          intro f hf
          rcases List.mem_cons.mp hf with rfl | hf; (show PySem.W.findIn _ _ ("at" : Str) = _; k_is)
          cases hf
        case nd => decide
      | 6, e =>
        cases e
        refine' ⟨_, Ev.clsF_mk ?ns ?ga ?gg ?ex ?hd ?no ?nd ?ha ?hn ?ht ?hm⟩
        case ns => show PySem.W.nsIn _ mainGlobals ("LogError" : Str) = _; k_is
        case ga => first | k_is | rfl | kernel_rfl
        case gg => first | k_is | rfl | kernel_rfl
        case ex => first | k_is | rfl | kernel_rfl
        case hd => first | k_is | rfl | kernel_rfl
        case ha => first | k_is | rfl | kernel_rfl
        case hn => first | k_is | rfl | kernel_rfl
        case ht => first | k_is | rfl | kernel_rfl
        case hm => first | k_is | rfl | kernel_rfl
        case no =>
          intro f hf
          rcases List.mem_cons.mp hf with rfl | hf; (show PySem.W.findIn _ _ ("number" : Str) = _; k_is)
          rcases List.mem_cons.mp hf with rfl | hf; (show PySem.W.findIn _ _ ("reason" : Str) = _; k_is)
          cases hf
        case nd => decide
      | 7, e =>
        cases e
        refine' ⟨_, Ev.clsF_mk ?ns ?ga ?gg ?ex ?hd ?no ?nd ?ha ?hn ?ht ?hm⟩
        case ns => show PySem.W.nsIn _ mainGlobals ("CommandError" : Str) = _; k_is
        case ga => first | k_is | rfl | kernel_rfl
        case gg => first | k_is | rfl | kernel_rfl
        case ex => first | k_is | rfl | kernel_rfl
        case hd => first | k_is | rfl | kernel_rfl
        case ha => first | k_is | rfl | kernel_rfl
        case hn => first | k_is | rfl | kernel_rfl
        case ht => first | k_is | rfl | kernel_rfl
        case hm => first | k_is | rfl | kernel_rfl
        case no =>
          intro f hf
          rcases List.mem_cons.mp hf with rfl | hf; (show PySem.W.findIn _ _ ("line" : Str) = _; k_is)
          cases hf
        case nd => decide
    case sub =>
      intro c d x y C D hc hd n1 n2
      match c, hc, d, hd with
      | 0, e1, 0, e2 =>
        cases e1; cases e2
        refine' Ev.sub_of (x := "DrawnError") (y := "DrawnError") ?a1 ?a2 ?h1 ?hd ?ht ?h4 ?hb n1 n2
        case a1 => k_is
        case a2 => k_is
        case h1 => k_is
        case hd => k_is
        case ht => k_is
        case h4 => first | rfl | k_is
        case hb => first | exact fun _ => rfl | exact fun z => absurd z (by decide)
      | 0, e1, 1, e2 =>
        cases e1; cases e2
        refine' Ev.sub_of (x := "DrawnError") (y := "ArgumentError") ?a1 ?a2 ?h1 ?hd ?ht ?h4 ?hb n1 n2
        case a1 => k_is
        case a2 => k_is
        case h1 => k_is
        case hd => k_is
        case ht => k_is
        case h4 => first | rfl | k_is
        case hb => first | exact fun _ => rfl | exact fun z => absurd z (by decide)
      | 0, e1, 2, e2 =>
        cases e1; cases e2
        refine' Ev.sub_of (x := "DrawnError") (y := "CheckError") ?a1 ?a2 ?h1 ?hd ?ht ?h4 ?hb n1 n2
        case a1 => k_is
        case a2 => k_is
        case h1 => k_is
        case hd => k_is
        case ht => k_is
        case h4 => first | rfl | k_is
        case hb => first | exact fun _ => rfl | exact fun z => absurd z (by decide)
      | 0, e1, 3, e2 =>
        cases e1; cases e2
        refine' Ev.sub_of (x := "DrawnError") (y := "PaperError") ?a1 ?a2 ?h1 ?hd ?ht ?h4 ?hb n1 n2
        case a1 => k_is
        case a2 => k_is
        case h1 => k_is
        case hd => k_is
        case ht => k_is
        case h4 => first | rfl | k_is
        case hb => first | exact fun _ => rfl | exact fun z => absurd z (by decide)
      | 0, e1, 4, e2 =>
        cases e1; cases e2
        refine' Ev.sub_of (x := "DrawnError") (y := "TooMany") ?a1 ?a2 ?h1 ?hd ?ht ?h4 ?hb n1 n2
        case a1 => k_is
        case a2 => k_is
        case h1 => k_is
        case hd => k_is
        case ht => k_is
        case h4 => first | rfl | k_is
        case hb => first | exact fun _ => rfl | exact fun z => absurd z (by decide)
      | 0, e1, 5, e2 =>
        cases e1; cases e2
        refine' Ev.sub_of (x := "DrawnError") (y := "TextError") ?a1 ?a2 ?h1 ?hd ?ht ?h4 ?hb n1 n2
        case a1 => k_is
        case a2 => k_is
        case h1 => k_is
        case hd => k_is
        case ht => k_is
        case h4 => first | rfl | k_is
        case hb => first | exact fun _ => rfl | exact fun z => absurd z (by decide)
      | 0, e1, 6, e2 =>
        cases e1; cases e2
        refine' Ev.sub_of (x := "DrawnError") (y := "LogError") ?a1 ?a2 ?h1 ?hd ?ht ?h4 ?hb n1 n2
        case a1 => k_is
        case a2 => k_is
        case h1 => k_is
        case hd => k_is
        case ht => k_is
        case h4 => first | rfl | k_is
        case hb => first | exact fun _ => rfl | exact fun z => absurd z (by decide)
      | 0, e1, 7, e2 =>
        cases e1; cases e2
        refine' Ev.sub_of (x := "DrawnError") (y := "CommandError") ?a1 ?a2 ?h1 ?hd ?ht ?h4 ?hb n1 n2
        case a1 => k_is
        case a2 => k_is
        case h1 => k_is
        case hd => k_is
        case ht => k_is
        case h4 => first | rfl | k_is
        case hb => first | exact fun _ => rfl | exact fun z => absurd z (by decide)
      | 1, e1, 0, e2 =>
        cases e1; cases e2
        refine' Ev.sub_of (x := "ArgumentError") (y := "DrawnError") ?a1 ?a2 ?h1 ?hd ?ht ?h4 ?hb n1 n2
        case a1 => k_is
        case a2 => k_is
        case h1 => k_is
        case hd => k_is
        case ht => k_is
        case h4 => first | rfl | k_is
        case hb => first | exact fun _ => rfl | exact fun z => absurd z (by decide)
      | 1, e1, 1, e2 =>
        cases e1; cases e2
        refine' Ev.sub_of (x := "ArgumentError") (y := "ArgumentError") ?a1 ?a2 ?h1 ?hd ?ht ?h4 ?hb n1 n2
        case a1 => k_is
        case a2 => k_is
        case h1 => k_is
        case hd => k_is
        case ht => k_is
        case h4 => first | rfl | k_is
        case hb => first | exact fun _ => rfl | exact fun z => absurd z (by decide)
      | 1, e1, 2, e2 =>
        cases e1; cases e2
        refine' Ev.sub_of (x := "ArgumentError") (y := "CheckError") ?a1 ?a2 ?h1 ?hd ?ht ?h4 ?hb n1 n2
        case a1 => k_is
        case a2 => k_is
        case h1 => k_is
        case hd => k_is
        case ht => k_is
        case h4 => first | rfl | k_is
        case hb => first | exact fun _ => rfl | exact fun z => absurd z (by decide)
      | 1, e1, 3, e2 =>
        cases e1; cases e2
        refine' Ev.sub_of (x := "ArgumentError") (y := "PaperError") ?a1 ?a2 ?h1 ?hd ?ht ?h4 ?hb n1 n2
        case a1 => k_is
        case a2 => k_is
        case h1 => k_is
        case hd => k_is
        case ht => k_is
        case h4 => first | rfl | k_is
        case hb => first | exact fun _ => rfl | exact fun z => absurd z (by decide)
      | 1, e1, 4, e2 =>
        cases e1; cases e2
        refine' Ev.sub_of (x := "ArgumentError") (y := "TooMany") ?a1 ?a2 ?h1 ?hd ?ht ?h4 ?hb n1 n2
        case a1 => k_is
        case a2 => k_is
        case h1 => k_is
        case hd => k_is
        case ht => k_is
        case h4 => first | rfl | k_is
        case hb => first | exact fun _ => rfl | exact fun z => absurd z (by decide)
      | 1, e1, 5, e2 =>
        cases e1; cases e2
        refine' Ev.sub_of (x := "ArgumentError") (y := "TextError") ?a1 ?a2 ?h1 ?hd ?ht ?h4 ?hb n1 n2
        case a1 => k_is
        case a2 => k_is
        case h1 => k_is
        case hd => k_is
        case ht => k_is
        case h4 => first | rfl | k_is
        case hb => first | exact fun _ => rfl | exact fun z => absurd z (by decide)
      | 1, e1, 6, e2 =>
        cases e1; cases e2
        refine' Ev.sub_of (x := "ArgumentError") (y := "LogError") ?a1 ?a2 ?h1 ?hd ?ht ?h4 ?hb n1 n2
        case a1 => k_is
        case a2 => k_is
        case h1 => k_is
        case hd => k_is
        case ht => k_is
        case h4 => first | rfl | k_is
        case hb => first | exact fun _ => rfl | exact fun z => absurd z (by decide)
      | 1, e1, 7, e2 =>
        cases e1; cases e2
        refine' Ev.sub_of (x := "ArgumentError") (y := "CommandError") ?a1 ?a2 ?h1 ?hd ?ht ?h4 ?hb n1 n2
        case a1 => k_is
        case a2 => k_is
        case h1 => k_is
        case hd => k_is
        case ht => k_is
        case h4 => first | rfl | k_is
        case hb => first | exact fun _ => rfl | exact fun z => absurd z (by decide)
      | 2, e1, 0, e2 =>
        cases e1; cases e2
        refine' Ev.sub_of (x := "CheckError") (y := "DrawnError") ?a1 ?a2 ?h1 ?hd ?ht ?h4 ?hb n1 n2
        case a1 => k_is
        case a2 => k_is
        case h1 => k_is
        case hd => k_is
        case ht => k_is
        case h4 => first | rfl | k_is
        case hb => first | exact fun _ => rfl | exact fun z => absurd z (by decide)
      | 2, e1, 1, e2 =>
        cases e1; cases e2
        refine' Ev.sub_of (x := "CheckError") (y := "ArgumentError") ?a1 ?a2 ?h1 ?hd ?ht ?h4 ?hb n1 n2
        case a1 => k_is
        case a2 => k_is
        case h1 => k_is
        case hd => k_is
        case ht => k_is
        case h4 => first | rfl | k_is
        case hb => first | exact fun _ => rfl | exact fun z => absurd z (by decide)
      | 2, e1, 2, e2 =>
        cases e1; cases e2
        refine' Ev.sub_of (x := "CheckError") (y := "CheckError") ?a1 ?a2 ?h1 ?hd ?ht ?h4 ?hb n1 n2
        case a1 => k_is
        case a2 => k_is
        case h1 => k_is
        case hd => k_is
        case ht => k_is
        case h4 => first | rfl | k_is
        case hb => first | exact fun _ => rfl | exact fun z => absurd z (by decide)
      | 2, e1, 3, e2 =>
        cases e1; cases e2
        refine' Ev.sub_of (x := "CheckError") (y := "PaperError") ?a1 ?a2 ?h1 ?hd ?ht ?h4 ?hb n1 n2
        case a1 => k_is
        case a2 => k_is
        case h1 => k_is
        case hd => k_is
        case ht => k_is
        case h4 => first | rfl | k_is
        case hb => first | exact fun _ => rfl | exact fun z => absurd z (by decide)
      | 2, e1, 4, e2 =>
        cases e1; cases e2
        refine' Ev.sub_of (x := "CheckError") (y := "TooMany") ?a1 ?a2 ?h1 ?hd ?ht ?h4 ?hb n1 n2
        case a1 => k_is
        case a2 => k_is
        case h1 => k_is
        case hd => k_is
        case ht => k_is
        case h4 => first | rfl | k_is
        case hb => first | exact fun _ => rfl | exact fun z => absurd z (by decide)
      | 2, e1, 5, e2 =>
        cases e1; cases e2
        refine' Ev.sub_of (x := "CheckError") (y := "TextError") ?a1 ?a2 ?h1 ?hd ?ht ?h4 ?hb n1 n2
        case a1 => k_is
        case a2 => k_is
        case h1 => k_is
        case hd => k_is
        case ht => k_is
        case h4 => first | rfl | k_is
        case hb => first | exact fun _ => rfl | exact fun z => absurd z (by decide)
      | 2, e1, 6, e2 =>
        cases e1; cases e2
        refine' Ev.sub_of (x := "CheckError") (y := "LogError") ?a1 ?a2 ?h1 ?hd ?ht ?h4 ?hb n1 n2
        case a1 => k_is
        case a2 => k_is
        case h1 => k_is
        case hd => k_is
        case ht => k_is
        case h4 => first | rfl | k_is
        case hb => first | exact fun _ => rfl | exact fun z => absurd z (by decide)
      | 2, e1, 7, e2 =>
        cases e1; cases e2
        refine' Ev.sub_of (x := "CheckError") (y := "CommandError") ?a1 ?a2 ?h1 ?hd ?ht ?h4 ?hb n1 n2
        case a1 => k_is
        case a2 => k_is
        case h1 => k_is
        case hd => k_is
        case ht => k_is
        case h4 => first | rfl | k_is
        case hb => first | exact fun _ => rfl | exact fun z => absurd z (by decide)
      | 3, e1, 0, e2 =>
        cases e1; cases e2
        refine' Ev.sub_of (x := "PaperError") (y := "DrawnError") ?a1 ?a2 ?h1 ?hd ?ht ?h4 ?hb n1 n2
        case a1 => k_is
        case a2 => k_is
        case h1 => k_is
        case hd => k_is
        case ht => k_is
        case h4 => first | rfl | k_is
        case hb => first | exact fun _ => rfl | exact fun z => absurd z (by decide)
      | 3, e1, 1, e2 =>
        cases e1; cases e2
        refine' Ev.sub_of (x := "PaperError") (y := "ArgumentError") ?a1 ?a2 ?h1 ?hd ?ht ?h4 ?hb n1 n2
        case a1 => k_is
        case a2 => k_is
        case h1 => k_is
        case hd => k_is
        case ht => k_is
        case h4 => first | rfl | k_is
        case hb => first | exact fun _ => rfl | exact fun z => absurd z (by decide)
      | 3, e1, 2, e2 =>
        cases e1; cases e2
        refine' Ev.sub_of (x := "PaperError") (y := "CheckError") ?a1 ?a2 ?h1 ?hd ?ht ?h4 ?hb n1 n2
        case a1 => k_is
        case a2 => k_is
        case h1 => k_is
        case hd => k_is
        case ht => k_is
        case h4 => first | rfl | k_is
        case hb => first | exact fun _ => rfl | exact fun z => absurd z (by decide)
      | 3, e1, 3, e2 =>
        cases e1; cases e2
        refine' Ev.sub_of (x := "PaperError") (y := "PaperError") ?a1 ?a2 ?h1 ?hd ?ht ?h4 ?hb n1 n2
        case a1 => k_is
        case a2 => k_is
        case h1 => k_is
        case hd => k_is
        case ht => k_is
        case h4 => first | rfl | k_is
        case hb => first | exact fun _ => rfl | exact fun z => absurd z (by decide)
      | 3, e1, 4, e2 =>
        cases e1; cases e2
        refine' Ev.sub_of (x := "PaperError") (y := "TooMany") ?a1 ?a2 ?h1 ?hd ?ht ?h4 ?hb n1 n2
        case a1 => k_is
        case a2 => k_is
        case h1 => k_is
        case hd => k_is
        case ht => k_is
        case h4 => first | rfl | k_is
        case hb => first | exact fun _ => rfl | exact fun z => absurd z (by decide)
      | 3, e1, 5, e2 =>
        cases e1; cases e2
        refine' Ev.sub_of (x := "PaperError") (y := "TextError") ?a1 ?a2 ?h1 ?hd ?ht ?h4 ?hb n1 n2
        case a1 => k_is
        case a2 => k_is
        case h1 => k_is
        case hd => k_is
        case ht => k_is
        case h4 => first | rfl | k_is
        case hb => first | exact fun _ => rfl | exact fun z => absurd z (by decide)
      | 3, e1, 6, e2 =>
        cases e1; cases e2
        refine' Ev.sub_of (x := "PaperError") (y := "LogError") ?a1 ?a2 ?h1 ?hd ?ht ?h4 ?hb n1 n2
        case a1 => k_is
        case a2 => k_is
        case h1 => k_is
        case hd => k_is
        case ht => k_is
        case h4 => first | rfl | k_is
        case hb => first | exact fun _ => rfl | exact fun z => absurd z (by decide)
      | 3, e1, 7, e2 =>
        cases e1; cases e2
        refine' Ev.sub_of (x := "PaperError") (y := "CommandError") ?a1 ?a2 ?h1 ?hd ?ht ?h4 ?hb n1 n2
        case a1 => k_is
        case a2 => k_is
        case h1 => k_is
        case hd => k_is
        case ht => k_is
        case h4 => first | rfl | k_is
        case hb => first | exact fun _ => rfl | exact fun z => absurd z (by decide)
      | 4, e1, 0, e2 =>
        cases e1; cases e2
        refine' Ev.sub_of (x := "TooMany") (y := "DrawnError") ?a1 ?a2 ?h1 ?hd ?ht ?h4 ?hb n1 n2
        case a1 => k_is
        case a2 => k_is
        case h1 => k_is
        case hd => k_is
        case ht => k_is
        case h4 => first | rfl | k_is
        case hb => first | exact fun _ => rfl | exact fun z => absurd z (by decide)
      | 4, e1, 1, e2 =>
        cases e1; cases e2
        refine' Ev.sub_of (x := "TooMany") (y := "ArgumentError") ?a1 ?a2 ?h1 ?hd ?ht ?h4 ?hb n1 n2
        case a1 => k_is
        case a2 => k_is
        case h1 => k_is
        case hd => k_is
        case ht => k_is
        case h4 => first | rfl | k_is
        case hb => first | exact fun _ => rfl | exact fun z => absurd z (by decide)
      | 4, e1, 2, e2 =>
        cases e1; cases e2
        refine' Ev.sub_of (x := "TooMany") (y := "CheckError") ?a1 ?a2 ?h1 ?hd ?ht ?h4 ?hb n1 n2
        case a1 => k_is
        case a2 => k_is
        case h1 => k_is
        case hd => k_is
        case ht => k_is
        case h4 => first | rfl | k_is
        case hb => first | exact fun _ => rfl | exact fun z => absurd z (by decide)
      | 4, e1, 3, e2 =>
        cases e1; cases e2
        refine' Ev.sub_of (x := "TooMany") (y := "PaperError") ?a1 ?a2 ?h1 ?hd ?ht ?h4 ?hb n1 n2
        case a1 => k_is
        case a2 => k_is
        case h1 => k_is
        case hd => k_is
        case ht => k_is
        case h4 => first | rfl | k_is
        case hb => first | exact fun _ => rfl | exact fun z => absurd z (by decide)
      | 4, e1, 4, e2 =>
        cases e1; cases e2
        refine' Ev.sub_of (x := "TooMany") (y := "TooMany") ?a1 ?a2 ?h1 ?hd ?ht ?h4 ?hb n1 n2
        case a1 => k_is
        case a2 => k_is
        case h1 => k_is
        case hd => k_is
        case ht => k_is
        case h4 => first | rfl | k_is
        case hb => first | exact fun _ => rfl | exact fun z => absurd z (by decide)
      | 4, e1, 5, e2 =>
        cases e1; cases e2
        refine' Ev.sub_of (x := "TooMany") (y := "TextError") ?a1 ?a2 ?h1 ?hd ?ht ?h4 ?hb n1 n2
        case a1 => k_is
        case a2 => k_is
        case h1 => k_is
        case hd => k_is
        case ht => k_is
        case h4 => first | rfl | k_is
        case hb => first | exact fun _ => rfl | exact fun z => absurd z (by decide)
      | 4, e1, 6, e2 =>
        cases e1; cases e2
        refine' Ev.sub_of (x := "TooMany") (y := "LogError") ?a1 ?a2 ?h1 ?hd ?ht ?h4 ?hb n1 n2
        case a1 => k_is
        case a2 => k_is
        case h1 => k_is
        case hd => k_is
        case ht => k_is
        case h4 => first | rfl | k_is
        case hb => first | exact fun _ => rfl | exact fun z => absurd z (by decide)
      | 4, e1, 7, e2 =>
        cases e1; cases e2
        refine' Ev.sub_of (x := "TooMany") (y := "CommandError") ?a1 ?a2 ?h1 ?hd ?ht ?h4 ?hb n1 n2
        case a1 => k_is
        case a2 => k_is
        case h1 => k_is
        case hd => k_is
        case ht => k_is
        case h4 => first | rfl | k_is
        case hb => first | exact fun _ => rfl | exact fun z => absurd z (by decide)
      | 5, e1, 0, e2 =>
        cases e1; cases e2
        refine' Ev.sub_of (x := "TextError") (y := "DrawnError") ?a1 ?a2 ?h1 ?hd ?ht ?h4 ?hb n1 n2
        case a1 => k_is
        case a2 => k_is
        case h1 => k_is
        case hd => k_is
        case ht => k_is
        case h4 => first | rfl | k_is
        case hb => first | exact fun _ => rfl | exact fun z => absurd z (by decide)
      | 5, e1, 1, e2 =>
        cases e1; cases e2
        refine' Ev.sub_of (x := "TextError") (y := "ArgumentError") ?a1 ?a2 ?h1 ?hd ?ht ?h4 ?hb n1 n2
        case a1 => k_is
        case a2 => k_is
        case h1 => k_is
        case hd => k_is
        case ht => k_is
        case h4 => first | rfl | k_is
        case hb => first | exact fun _ => rfl | exact fun z => absurd z (by decide)
      | 5, e1, 2, e2 =>
        cases e1; cases e2
        refine' Ev.sub_of (x := "TextError") (y := "CheckError") ?a1 ?a2 ?h1 ?hd ?ht ?h4 ?hb n1 n2
        case a1 => k_is
        case a2 => k_is
        case h1 => k_is
        case hd => k_is
        case ht => k_is
        case h4 => first | rfl | k_is
        case hb => first | exact fun _ => rfl | exact fun z => absurd z (by decide)
      | 5, e1, 3, e2 =>
        cases e1; cases e2
        refine' Ev.sub_of (x := "TextError") (y := "PaperError") ?a1 ?a2 ?h1 ?hd ?ht ?h4 ?hb n1 n2
        case a1 => k_is
        case a2 => k_is
        case h1 => k_is
        case hd => k_is
        case ht => k_is
        case h4 => first | rfl | k_is
        case hb => first | exact fun _ => rfl | exact fun z => absurd z (by decide)
      | 5, e1, 4, e2 =>
        cases e1; cases e2
        refine' Ev.sub_of (x := "TextError") (y := "TooMany") ?a1 ?a2 ?h1 ?hd ?ht ?h4 ?hb n1 n2
        case a1 => k_is
        case a2 => k_is
        case h1 => k_is
        case hd => k_is
        case ht => k_is
        case h4 => first | rfl | k_is
        case hb => first | exact fun _ => rfl | exact fun z => absurd z (by decide)
      | 5, e1, 5, e2 =>
        cases e1; cases e2
        refine' Ev.sub_of (x := "TextError") (y := "TextError") ?a1 ?a2 ?h1 ?hd ?ht ?h4 ?hb n1 n2
        case a1 => k_is
        case a2 => k_is
        case h1 => k_is
        case hd => k_is
        case ht => k_is
        case h4 => first | rfl | k_is
        case hb => first | exact fun _ => rfl | exact fun z => absurd z (by decide)
      | 5, e1, 6, e2 =>
        cases e1; cases e2
        refine' Ev.sub_of (x := "TextError") (y := "LogError") ?a1 ?a2 ?h1 ?hd ?ht ?h4 ?hb n1 n2
        case a1 => k_is
        case a2 => k_is
        case h1 => k_is
        case hd => k_is
        case ht => k_is
        case h4 => first | rfl | k_is
        case hb => first | exact fun _ => rfl | exact fun z => absurd z (by decide)
      | 5, e1, 7, e2 =>
        cases e1; cases e2
        refine' Ev.sub_of (x := "TextError") (y := "CommandError") ?a1 ?a2 ?h1 ?hd ?ht ?h4 ?hb n1 n2
        case a1 => k_is
        case a2 => k_is
        case h1 => k_is
        case hd => k_is
        case ht => k_is
        case h4 => first | rfl | k_is
        case hb => first | exact fun _ => rfl | exact fun z => absurd z (by decide)
      | 6, e1, 0, e2 =>
        cases e1; cases e2
        refine' Ev.sub_of (x := "LogError") (y := "DrawnError") ?a1 ?a2 ?h1 ?hd ?ht ?h4 ?hb n1 n2
        case a1 => k_is
        case a2 => k_is
        case h1 => k_is
        case hd => k_is
        case ht => k_is
        case h4 => first | rfl | k_is
        case hb => first | exact fun _ => rfl | exact fun z => absurd z (by decide)
      | 6, e1, 1, e2 =>
        cases e1; cases e2
        refine' Ev.sub_of (x := "LogError") (y := "ArgumentError") ?a1 ?a2 ?h1 ?hd ?ht ?h4 ?hb n1 n2
        case a1 => k_is
        case a2 => k_is
        case h1 => k_is
        case hd => k_is
        case ht => k_is
        case h4 => first | rfl | k_is
        case hb => first | exact fun _ => rfl | exact fun z => absurd z (by decide)
      | 6, e1, 2, e2 =>
        cases e1; cases e2
        refine' Ev.sub_of (x := "LogError") (y := "CheckError") ?a1 ?a2 ?h1 ?hd ?ht ?h4 ?hb n1 n2
        case a1 => k_is
        case a2 => k_is
        case h1 => k_is
        case hd => k_is
        case ht => k_is
        case h4 => first | rfl | k_is
        case hb => first | exact fun _ => rfl | exact fun z => absurd z (by decide)
      | 6, e1, 3, e2 =>
        cases e1; cases e2
        refine' Ev.sub_of (x := "LogError") (y := "PaperError") ?a1 ?a2 ?h1 ?hd ?ht ?h4 ?hb n1 n2
        case a1 => k_is
        case a2 => k_is
        case h1 => k_is
        case hd => k_is
        case ht => k_is
        case h4 => first | rfl | k_is
        case hb => first | exact fun _ => rfl | exact fun z => absurd z (by decide)
      | 6, e1, 4, e2 =>
        cases e1; cases e2
        refine' Ev.sub_of (x := "LogError") (y := "TooMany") ?a1 ?a2 ?h1 ?hd ?ht ?h4 ?hb n1 n2
        case a1 => k_is
        case a2 => k_is
        case h1 => k_is
        case hd => k_is
        case ht => k_is
        case h4 => first | rfl | k_is
        case hb => first | exact fun _ => rfl | exact fun z => absurd z (by decide)
      | 6, e1, 5, e2 =>
        cases e1; cases e2
        refine' Ev.sub_of (x := "LogError") (y := "TextError") ?a1 ?a2 ?h1 ?hd ?ht ?h4 ?hb n1 n2
        case a1 => k_is
        case a2 => k_is
        case h1 => k_is
        case hd => k_is
        case ht => k_is
        case h4 => first | rfl | k_is
        case hb => first | exact fun _ => rfl | exact fun z => absurd z (by decide)
      | 6, e1, 6, e2 =>
        cases e1; cases e2
        refine' Ev.sub_of (x := "LogError") (y := "LogError") ?a1 ?a2 ?h1 ?hd ?ht ?h4 ?hb n1 n2
        case a1 => k_is
        case a2 => k_is
        case h1 => k_is
        case hd => k_is
        case ht => k_is
        case h4 => first | rfl | k_is
        case hb => first | exact fun _ => rfl | exact fun z => absurd z (by decide)
      | 6, e1, 7, e2 =>
        cases e1; cases e2
        refine' Ev.sub_of (x := "LogError") (y := "CommandError") ?a1 ?a2 ?h1 ?hd ?ht ?h4 ?hb n1 n2
        case a1 => k_is
        case a2 => k_is
        case h1 => k_is
        case hd => k_is
        case ht => k_is
        case h4 => first | rfl | k_is
        case hb => first | exact fun _ => rfl | exact fun z => absurd z (by decide)
      | 7, e1, 0, e2 =>
        cases e1; cases e2
        refine' Ev.sub_of (x := "CommandError") (y := "DrawnError") ?a1 ?a2 ?h1 ?hd ?ht ?h4 ?hb n1 n2
        case a1 => k_is
        case a2 => k_is
        case h1 => k_is
        case hd => k_is
        case ht => k_is
        case h4 => first | rfl | k_is
        case hb => first | exact fun _ => rfl | exact fun z => absurd z (by decide)
      | 7, e1, 1, e2 =>
        cases e1; cases e2
        refine' Ev.sub_of (x := "CommandError") (y := "ArgumentError") ?a1 ?a2 ?h1 ?hd ?ht ?h4 ?hb n1 n2
        case a1 => k_is
        case a2 => k_is
        case h1 => k_is
        case hd => k_is
        case ht => k_is
        case h4 => first | rfl | k_is
        case hb => first | exact fun _ => rfl | exact fun z => absurd z (by decide)
      | 7, e1, 2, e2 =>
        cases e1; cases e2
        refine' Ev.sub_of (x := "CommandError") (y := "CheckError") ?a1 ?a2 ?h1 ?hd ?ht ?h4 ?hb n1 n2
        case a1 => k_is
        case a2 => k_is
        case h1 => k_is
        case hd => k_is
        case ht => k_is
        case h4 => first | rfl | k_is
        case hb => first | exact fun _ => rfl | exact fun z => absurd z (by decide)
      | 7, e1, 3, e2 =>
        cases e1; cases e2
        refine' Ev.sub_of (x := "CommandError") (y := "PaperError") ?a1 ?a2 ?h1 ?hd ?ht ?h4 ?hb n1 n2
        case a1 => k_is
        case a2 => k_is
        case h1 => k_is
        case hd => k_is
        case ht => k_is
        case h4 => first | rfl | k_is
        case hb => first | exact fun _ => rfl | exact fun z => absurd z (by decide)
      | 7, e1, 4, e2 =>
        cases e1; cases e2
        refine' Ev.sub_of (x := "CommandError") (y := "TooMany") ?a1 ?a2 ?h1 ?hd ?ht ?h4 ?hb n1 n2
        case a1 => k_is
        case a2 => k_is
        case h1 => k_is
        case hd => k_is
        case ht => k_is
        case h4 => first | rfl | k_is
        case hb => first | exact fun _ => rfl | exact fun z => absurd z (by decide)
      | 7, e1, 5, e2 =>
        cases e1; cases e2
        refine' Ev.sub_of (x := "CommandError") (y := "TextError") ?a1 ?a2 ?h1 ?hd ?ht ?h4 ?hb n1 n2
        case a1 => k_is
        case a2 => k_is
        case h1 => k_is
        case hd => k_is
        case ht => k_is
        case h4 => first | rfl | k_is
        case hb => first | exact fun _ => rfl | exact fun z => absurd z (by decide)
      | 7, e1, 6, e2 =>
        cases e1; cases e2
        refine' Ev.sub_of (x := "CommandError") (y := "LogError") ?a1 ?a2 ?h1 ?hd ?ht ?h4 ?hb n1 n2
        case a1 => k_is
        case a2 => k_is
        case h1 => k_is
        case hd => k_is
        case ht => k_is
        case h4 => first | rfl | k_is
        case hb => first | exact fun _ => rfl | exact fun z => absurd z (by decide)
      | 7, e1, 7, e2 =>
        cases e1; cases e2
        refine' Ev.sub_of (x := "CommandError") (y := "CommandError") ?a1 ?a2 ?h1 ?hd ?ht ?h4 ?hb n1 n2
        case a1 => k_is
        case a2 => k_is
        case h1 => k_is
        case hd => k_is
        case ht => k_is
        case h4 => first | rfl | k_is
        case hb => first | exact fun _ => rfl | exact fun z => absurd z (by decide)
    case mk =>
      intro c x hc hfl
      match c, hc, hfl with
      | 0, e, z => exact absurd rfl z
      | 1, e, z =>
        cases e
        refine .inl ?_
        refine' Ev.mkF_mk (x := "ArgumentError") (f := "reason") ?ns ?lC ?iC ?lI ?cI ?lc ?la ?sa ?no ?tC ?kC ?exC ?tyC ?hD ?subD ?sup ?opq ?subB ?top ?hbm ?hvs ?hfile ?hpos rfl (fun _ _ _ _ _ _ _ _ _ _ _ _ => by first | rfl | with_unfolding_all rfl) (by decide) (by decide) (by decide) (by decide) (by decide)
        case ns => k_is
        case lC => k_is
        case iC => k_is
        case lI => k_is
        case cI => k_is
        case lc => k_is
        case la => k_is
        case sa => k_is
        case no => k_is
        case tC => k_is
        case kC => k_is
        case exC => k_is
        case tyC => k_is
        case hD => k_is
        case subD => k_is
        case opq => k_is
        case subB => k_is
        case sup => ks_is
        case top => first | rfl | decide +kernel
        case hbm => decide +kernel
        case hvs => rfl
        case hfile => first | rfl | decide +kernel
        case hpos => rfl
      | 2, e, z =>
        cases e
        refine .inl ?_
        refine' Ev.mkF_mk (x := "CheckError") (f := "reason") ?ns ?lC ?iC ?lI ?cI ?lc ?la ?sa ?no ?tC ?kC ?exC ?tyC ?hD ?subD ?sup ?opq ?subB ?top ?hbm ?hvs ?hfile ?hpos rfl (fun _ _ _ _ _ _ _ _ _ _ _ _ => by first | rfl | with_unfolding_all rfl) (by decide) (by decide) (by decide) (by decide) (by decide)
        case ns => k_is
        case lC => k_is
        case iC => k_is
        case lI => k_is
        case cI => k_is
        case lc => k_is
        case la => k_is
        case sa => k_is
        case no => k_is
        case tC => k_is
        case kC => k_is
        case exC => k_is
        case tyC => k_is
        case hD => k_is
        case subD => k_is
        case opq => k_is
        case subB => k_is
        case sup => ks_is
        case top => first | rfl | decide +kernel
        case hbm => decide +kernel
        case hvs => rfl
        case hfile => first | rfl | decide +kernel
        case hpos => rfl
      | 3, e, z =>
        cases e
        refine .inl ?_
        refine' Ev.mkF_mk (x := "PaperError") (f := "reason") ?ns ?lC ?iC ?lI ?cI ?lc ?la ?sa ?no ?tC ?kC ?exC ?tyC ?hD ?subD ?sup ?opq ?subB ?top ?hbm ?hvs ?hfile ?hpos rfl (fun _ _ _ _ _ _ _ _ _ _ _ _ => by first | rfl | with_unfolding_all rfl) (by decide) (by decide) (by decide) (by decide) (by decide)
        case ns => k_is
        case lC => k_is
        case iC => k_is
        case lI => k_is
        case cI => k_is
        case lc => k_is
        case la => k_is
        case sa => k_is
        case no => k_is
        case tC => k_is
        case kC => k_is
        case exC => k_is
        case tyC => k_is
        case hD => k_is
        case subD => k_is
        case opq => k_is
        case subB => k_is
        case sup => ks_is
        case top => first | rfl | decide +kernel
        case hbm => decide +kernel
        case hvs => rfl
        case hfile => first | rfl | decide +kernel
        case hpos => rfl
      | 4, e, z =>
        cases e
        refine .inl ?_
        refine' Ev.mkF_mk (x := "TooMany") (f := "reason") ?ns ?lC ?iC ?lI ?cI ?lc ?la ?sa ?no ?tC ?kC ?exC ?tyC ?hD ?subD ?sup ?opq ?subB ?top ?hbm ?hvs ?hfile ?hpos rfl (fun _ _ _ _ _ _ _ _ _ _ _ _ => by first | rfl | with_unfolding_all rfl) (by decide) (by decide) (by decide) (by decide) (by decide)
        case ns => k_is
        case lC => k_is
        case iC => k_is
        case lI => k_is
        case cI => k_is
        case lc => k_is
        case la => k_is
        case sa => k_is
        case no => k_is
        case tC => k_is
        case kC => k_is
        case exC => k_is
        case tyC => k_is
        case hD => k_is
        case subD => k_is
        case opq => k_is
        case subB => k_is
        case sup => ks_is
        case top => first | rfl | decide +kernel
        case hbm => decide +kernel
        case hvs => rfl
        case hfile => first | rfl | decide +kernel
        case hpos => rfl
      | 5, e, z =>
        cases e
        refine .inl ?_
        refine' Ev.mkF_mk (x := "TextError") (f := "at") ?ns ?lC ?iC ?lI ?cI ?lc ?la ?sa ?no ?tC ?kC ?exC ?tyC ?hD ?subD ?sup ?opq ?subB ?top ?hbm ?hvs ?hfile ?hpos rfl (fun _ _ _ _ _ _ _ _ _ _ _ _ => by first | rfl | with_unfolding_all rfl) (by decide) (by decide) (by decide) (by decide) (by decide)
        case ns => k_is
        case lC => k_is
        case iC => k_is
        case lI => k_is
        case cI => k_is
        case lc => k_is
        case la => k_is
        case sa => k_is
        case no => k_is
        case tC => k_is
        case kC => k_is
        case exC => k_is
        case tyC => k_is
        case hD => k_is
        case subD => k_is
        case opq => k_is
        case subB => k_is
        case sup => ks_is
        case top => first | rfl | decide +kernel
        case hbm => decide +kernel
        case hvs => rfl
        case hfile => first | rfl | decide +kernel
        case hpos => rfl
      | 6, e, z =>
        cases e
        refine .inr ?_
        refine' Ev.mkT_mk (x := "LogError") ?ns ?lC ?iC ?lI ?cI ?lc ?la ?sa ?no ?no2 ?tC ?kC ?exC ?tyC ?hD ?subD ?sup ?opq ?subB ?top ?hbm ?hvs ?hfile ?hpos rfl (by decide)
        case ns => k_is
        case lC => k_is
        case iC => k_is
        case lI => k_is
        case cI => k_is
        case lc => k_is
        case la => k_is
        case sa => k_is
        case no => k_is
        case tC => k_is
        case kC => k_is
        case exC => k_is
        case tyC => k_is
        case hD => k_is
        case subD => k_is
        case opq => k_is
        case subB => k_is
        case no2 => k_is
        case sup => ks_is
        case top => first | rfl | decide +kernel
        case hbm => decide +kernel
        case hvs => rfl
        case hfile => first | rfl | decide +kernel
        case hpos => rfl
      | 7, e, z =>
        cases e
        refine .inl ?_
        refine' Ev.mkF_mk (x := "CommandError") (f := "line") ?ns ?lC ?iC ?lI ?cI ?lc ?la ?sa ?no ?tC ?kC ?exC ?tyC ?hD ?subD ?sup ?opq ?subB ?top ?hbm ?hvs ?hfile ?hpos rfl (fun _ _ _ _ _ _ _ _ _ _ _ _ => by first | rfl | with_unfolding_all rfl) (by decide) (by decide) (by decide) (by decide) (by decide)
        case ns => k_is
        case lC => k_is
        case iC => k_is
        case lI => k_is
        case cI => k_is
        case lc => k_is
        case la => k_is
        case sa => k_is
        case no => k_is
        case tC => k_is
        case kC => k_is
        case exC => k_is
        case tyC => k_is
        case hD => k_is
        case subD => k_is
        case opq => k_is
        case subB => k_is
        case sup => ks_is
        case top => first | rfl | decide +kernel
        case hbm => decide +kernel
        case hvs => rfl
        case hfile => first | rfl | decide +kernel
        case hpos => rfl
    case val =>
      intro _ c x C hc n1
      match c, hc with
      | 0, e =>
        cases e
        refine' Ev.val_of (x := "DrawnError") ?a1 ?h n1
        case a1 => k_is
        case h => k_is
      | 1, e =>
        cases e
        refine' Ev.val_of (x := "ArgumentError") ?a1 ?h n1
        case a1 => k_is
        case h => k_is
      | 2, e =>
        cases e
        refine' Ev.val_of (x := "CheckError") ?a1 ?h n1
        case a1 => k_is
        case h => k_is
      | 3, e =>
        cases e
        refine' Ev.val_of (x := "PaperError") ?a1 ?h n1
        case a1 => k_is
        case h => k_is
      | 4, e =>
        cases e
        refine' Ev.val_of (x := "TooMany") ?a1 ?h n1
        case a1 => k_is
        case h => k_is
      | 5, e =>
        cases e
        refine' Ev.val_of (x := "TextError") ?a1 ?h n1
        case a1 => k_is
        case h => k_is
      | 6, e =>
        cases e
        refine' Ev.val_of (x := "LogError") ?a1 ?h n1
        case a1 => k_is
        case h => k_is
      | 7, e =>
        cases e
        refine' Ev.val_of (x := "CommandError") ?a1 ?h n1
        case a1 => k_is
        case h => k_is
    case kin =>
      intro nm ks hk
      cases hk
      refine ⟨K00.topS 44, _, _, ?_, K00.kt⟩
      refine' Ev.defF_mk ?a ?l ?c ?k; (case a => k_is); (case l => k_is); (case c => k_is); (case k => k_is)
