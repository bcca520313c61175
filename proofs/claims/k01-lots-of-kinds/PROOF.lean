import PyProof.Rows.All
import Wide.All
import OpenK.AllK
import Wide.FinOn
import HandS.ExcCtx
import HandS.Exc
import HandS.ForMost
import HandS.ForExc
import HandS.Deep
import HandS.Wide
import HandS.Conv
import HandS.Star
import HandS.IterVal
import HandS.Sort
import HandS.Strs
import HandS.Text
import HandS.TupAny
import HandS.IsInst
import HandS.OwnIter
import HandS.SetFor
import HandS.ClsMeth
import HandS.StrMore
import HandS.HotCalls
import HandS.ExcIs
import KE.KExcIs
import HandS.HeadHook1
import HandS.ExcField
import HandS.ExcInit
import KE.KExcSuper
import KE.KSuper
import HandS.Nested
import HandS.Base
import HandS.Ends
import HandS.Words
import HandS.WordsExc
import HandS.Defaults
import HandS.Head0
import HandS.Head1
import HandS.Head2
import HandS.HeadEnd
import HandS.EndBits
import PySem.Challenge.RW_siftshares_k01_lots_of_kinds
set_option Elab.async false
section
set_option linter.all false
/-! Sf.Core: pure data, a small code language, its big-step meaning. -/
namespace Sf
open PySem

/-- data: immutable values as trees; loc n is the n-th mutable list -/
inductive D where
  | non | bl (b : Bool) | int (i : Int) | str (x : Str)
  | tup (l : List D) | lst (l : List D) | scr (l : List D) | obj (c : Nat) (l : List D) | loc (n : Nat) | cls (c : Nat)
  deriving Inhabited
abbrev Hs := List (List D)
/-- an expression's value: data, a new list, the list that a slot owns -/
inductive Val where
  | d (x : D) | fr (l : List D) | ow (i : Nat)
/-- a slot -/
inductive Sl where
  | no | va (x : D) | ac (l : List D) | ini (c : Nat) (l : List D)
abbrev Rho := List Sl
inductive Res (α : Type) where
  | ok (a : α) (S : Hs) | ex (c : Nat) (fs : List D) (S : Hs) | bad
def Res.bind {α β : Type} : Res α → (α → Hs → Res β) → Res β
  | .ok a S, f => f a S
  | .ex c fs S, _ => .ex c fs S
  | .bad, _ => .bad
@[simp] theorem Res.bind_ok {α β : Type} {a : α} {S : Hs} {f : α → Hs → Res β} : (Res.ok a S).bind f = f a S := rfl
@[simp] theorem Res.bind_ex {α β : Type} {c : Nat} {fs : List D} {S : Hs} {f : α → Hs → Res β} : (Res.ex c fs S).bind f = .ex c fs S := rfl
@[simp] theorem Res.bind_bad {α β : Type} {f : α → Hs → Res β} : (Res.bad).bind f = .bad := rfl
def Res.of {α : Type} (o : Option α) (S : Hs) : Res α := match o with
  | some a => .ok a S
  | none => .bad
@[simp] theorem Res.of_some {α : Type} {a : α} {S : Hs} : Res.of (some a) S = .ok a S := rfl
@[simp] theorem Res.of_none {α : Type} {S : Hs} : Res.of (none : Option α) S = .bad := rfl
inductive Out where
  | nx (ρ : Rho) (S : Hs) | rt (v : Val) (S : Hs) | bk (ρ : Rho) (S : Hs) | ct (ρ : Rho) (S : Hs) | ex (c : Nat) (fs : List D) (S : Hs) | bad
abbrev Fn := List D → Hs → Res Val
abbrev Cand := List (Nat × Fn)

/-- the longest list that is made here -/
def big : Nat := 65536

/-! ### values -/
def Val.toD : Val → Option D
  | .d x => some x
  | .fr l => some (.lst l)
  | .ow _ => none
@[simp] theorem toD_d {x : D} : (Val.d x).toD = some x := rfl
@[simp] theorem toD_fr {l : List D} : (Val.fr l).toD = some (.lst l) := rfl
/-- the items of a list -/
def contL (ρ : Rho) (S : Hs) : Val → Option (List D)
  | .d (.lst l) => some l
  | .d (.loc n) => S[n]?
  | .fr l => some l
  | .ow i => match ρ[i]? with
    | some (.ac l) => some l
    | _ => none
  | _ => none
/-- the items of a tuple -/
def contT : Val → Option (List D)
  | .d (.tup l) => some l
  | _ => none
/-- the items of a list or a tuple -/
def cont (ρ : Rho) (S : Hs) (v : Val) : Option (List D) := match contT v with
  | some l => some l
  | none => contL ρ S v
/-- data that == takes: nothing but flat values, lists and tuples, at most n deep -/
def dOk : Nat → D → Bool
  | _, .non => true
  | _, .bl _ => true
  | _, .int _ => true
  | _, .str x => PyData.strOk x
  | n + 1, .tup l => l.all (dOk n)
  | n + 1, .lst l => l.all (dOk n)
  | _, _ => false
mutual
def dEq : D → D → Bool
  | .non, .non => true
  | .bl a, .bl b => a == b
  | .bl a, .int j => (if a then 1 else 0) == j
  | .int i, .bl b => i == (if b then 1 else 0)
  | .int i, .int j => i == j
  | .str x, .str y => x == y
  | .lst xs, .lst ys => dEqs xs ys
  | .tup xs, .tup ys => dEqs xs ys
  | _, _ => false
def dEqs : List D → List D → Bool
  | [], [] => true
  | x :: xs, y :: ys => dEq x y && dEqs xs ys
  | _, _ => false
end
/-- the depth that is allowed -/
def deep : Nat := 20
/-- the value as data for ==: a list is told by its items -/
def Val.toE (ρ : Rho) (S : Hs) (v : Val) : Option D := match contL ρ S v with
  | some l => some (.lst l)
  | none => v.toD
def eqV (ρ : Rho) (S : Hs) (a b : Val) : Option Bool := match a.toE ρ S, b.toE ρ S with
  | some x, some y => if (dOk deep x && dOk deep y) = true then some (dEq x y) else none
  | _, _ => none
/-- flat data -/
def dFlat : D → Bool
  | .non => true
  | .bl _ => true
  | .int _ => true
  | .str _ => true
  | _ => false
/-- x in xs -/
def inV (ρ : Rho) (S : Hs) (a b : Val) : Option Bool := match contT b with
  | some ys => match a with
    | .d x => if (dFlat x && ys.all dFlat) = true then some (ys.any fun y => dEq y x) else none
    | _ => none
  | none => match a.toE ρ S, contL ρ S b with
    | some x, some ys => if (dOk deep x && ys.all (dOk deep)) = true then some (ys.any fun y => dEq y x) else none
    | _, _ => none
/-- a product that is small enough -/
def mulOk (i j : Int) : Bool := decide (i.natAbs.log2 + j.natAbs.log2 < 1000000)
/-- a divisor that is small enough -/
def divOk (j : Int) : Bool := decide (j ≠ 0) && decide (j.natAbs.log2 < 9000)
/-- two values by an operator -/
def binV (op : Operator) (ρ : Rho) (S : Hs) (a b : Val) : Option Val := match op, a, b with
  | .Add, .d (.int i), .d (.int j) => some (.d (.int (i + j)))
  | .Sub, .d (.int i), .d (.int j) => some (.d (.int (i - j)))
  | .Mult, .d (.int i), .d (.int j) => if mulOk i j = true then some (.d (.int (i * j))) else none
  | .FloorDiv, .d (.int i), .d (.int j) => if divOk j = true then some (.d (.int (i.fdiv j))) else none
  | .Mod, .d (.int i), .d (.int j) => if j ≠ 0 then some (.d (.int (i.fmod j))) else none
  | .Pow, .d (.int i), .d (.int j) => if 0 ≤ j ∧ j ≤ 1000000 ∧ i.natAbs < 2 ^ 64 then some (.d (.int (i ^ j.toNat))) else none
  | .Mult, .d (.str x), .d (.int n) => if 2 ≤ n ∧ n ≤ 1000 ∧ 1 ≤ x.length ∧ x.length ≤ 1000 then some (.d (.str ⟨(List.replicate n.toNat x.cps).foldl (· ++ ·) #[]⟩)) else none
  | .Add, .d (.str x), .d (.str y) => if x.length + y.length ≤ big then some (.d (.str (x ++ y))) else none
  | .Add, .d (.tup x), .d (.tup y) => if x.length + y.length ≤ big then some (.d (.tup (x ++ y))) else none
  | .Add, a, b => match contL ρ S a, contL ρ S b with
    | some x, some y => if x.length + y.length ≤ big then some (.fr (x ++ y)) else none
    | _, _ => none
  | _, _, _ => none
def cmpV (op : CmpOp) (ρ : Rho) (S : Hs) (a b : Val) : Option Bool := match op with
  | .Eq => eqV ρ S a b
  | .NotEq => (eqV ρ S a b).map (!·)
  | .In => inV ρ S a b
  | .NotIn => (inV ρ S a b).map (!·)
  | .Lt => match a, b with
    | .d (.int i), .d (.int j) => some (decide (i < j))
    | _, _ => none
  | .LtE => match a, b with
    | .d (.int i), .d (.int j) => some (decide (i ≤ j))
    | _, _ => none
  | .Gt => match a, b with
    | .d (.int i), .d (.int j) => some (decide (j < i))
    | _, _ => none
  | .GtE => match a, b with
    | .d (.int i), .d (.int j) => some (decide (j ≤ i))
    | _, _ => none
  | _ => none
/-- an item by its place, counted from either end -/
def ixV (ρ : Rho) (S : Hs) (a b : Val) : Option Val := match b with
  | .d (.int i) => match a with
    | .d (.str x) => if x.length ≤ big then (L2.atI x.cps.toList i).map fun c => .d (.str ⟨#[c]⟩) else none
    | _ => match cont ρ S a with
      | some l => (L2.atI l i).map .d
      | none => none
  | _ => none
/-- built-in functions and types that are called -/
inductive Bf where
  | len | int | abs | list | tuple | sum | all | any
/-- methods of texts -/
inductive Sm where
  | isalpha | islower
def smV : Sm → Str → Bool
  | .isalpha, x => PySem.Txt.isalpha x
  | .islower, x => PySem.Txt.islower x
/-- ints, bools of a list -/
def intsD : List D → Option (List Int)
  | [] => some []
  | .int i :: r => (intsD r).map (i :: ·)
  | _ :: _ => none
def boolsD : List D → Option (List Bool)
  | [] => some []
  | .bl i :: r => (boolsD r).map (i :: ·)
  | _ :: _ => none
def strsD : List D → Option (List Str)
  | [] => some []
  | .str x :: r => (strsD r).map (x :: ·)
  | _ :: _ => none
/-- how many different ones -/
def dcnt (xs : List Str) : Nat → Nat
  | 0 => 0
  | i + 1 => if (xs.take i).any (· == xs.getD i Str.empty) = true then dcnt xs i else dcnt xs i + 1
def lenSetV (ρ : Rho) (S : Hs) (v : Val) : Option Val := ((contL ρ S v).bind strsD).bind fun l => if l.length ≤ 1000 then some (.d (.int (dcnt l l.length))) else none
/-- x put in its place, once -/
def insI (x : Int) : List Int → List Int
  | [] => [x]
  | y :: r => if x < y then x :: y :: r else if x = y then y :: r else y :: insI x r
def srtI (l : List Int) : List Int := l.foldr insI []
def srtSetV (v : Val) : Option Val := ((contT v).bind intsD).bind fun l => if l.length < 64 then some (.fr ((srtI l).map .int)) else none
def joinV (ρ : Rho) (S : Hs) (a b : Val) : Option Val := match a with
  | .d (.str x) => ((contL ρ S b).bind strsD).bind fun ys => if (ys.map (·.length)).sum + ys.length * x.length ≤ 16777216 then some (.d (.str (PySem.Txt.join x ys))) else none
  | _ => none
def bltV (f : Bf) (ρ : Rho) (S : Hs) (vs : List Val) : Option Val := match f, vs with
  | .len, [.d (.str x)] => if x.length ≤ big then some (.d (.int x.length)) else none
  | .len, [v] => (cont ρ S v).map fun l => .d (.int l.length)
  | .int, [.d (.int i)] => some (.d (.int i))
  | .int, [.d (.bl b)] => some (.d (.int (if b then 1 else 0)))
  | .abs, [.d (.int i)] => some (.d (.int (if i < 0 then -i else i)))
  | .list, [.d (.scr l)] => some (.fr l)
  | .list, [v] => (cont ρ S v).map .fr
  | .tuple, [.d (.tup l)] => some (.d (.tup l))
  | .tuple, [v] => (contL ρ S v).map fun l => .d (.tup l)
  | .sum, [v] => ((contL ρ S v).bind intsD).map fun l => .d (.int l.sum)
  | .all, [v] => ((contL ρ S v).bind boolsD).map fun l => .d (.bl (l.all id))
  | .any, [v] => ((contL ρ S v).bind boolsD).map fun l => .d (.bl (l.any id))
  | _, _ => none
def isNon : Val → Option Bool
  | .d .non => some true
  | .ow _ => none
  | _ => some false
/-- kinds of values that isinstance asks for -/
inductive Tk where
  | int | bool | str | list | tuple | own (c : Nat)
/-- kinds of values -/
inductive Kd where
  | non | bl | int | str | tup | lst | obj (c : Nat)
def kind : Val → Option Kd
  | .d .non => some .non
  | .d (.bl _) => some .bl
  | .d (.int _) => some .int
  | .d (.str _) => some .str
  | .d (.tup _) => some .tup
  | .d (.lst _) => some .lst
  | .d (.obj c _) => some (.obj c)
  | .fr _ => some .lst
  | _ => none
def kdIn (cs : List Nat) : Kd → Bool
  | .obj c => cs.contains c
  | _ => true
def isK : Tk → Kd → Bool
  | .int, .int => true
  | .int, .bl => true
  | .bool, .bl => true
  | .str, .str => true
  | .list, .lst => true
  | .tuple, .tup => true
  | .own c, .obj k => c == k
  | _, _ => false
/-! ### targets -/
inductive Tg where
  | one (i : Nat) | tup (l : List Nat)
def setAll : List Nat → List D → Rho → Option Rho
  | [], [], ρ => some ρ
  | i :: is, x :: xs, ρ => setAll is xs (ρ.set i (.va x))
  | _, _, _ => none
def setTg : Tg → D → Rho → Option Rho
  | .one i, x, ρ => some (ρ.set i (.va x))
  | .tup is, .tup l, ρ => setAll is l ρ
  | .tup _, _, _ => none
def wipeR (ρ : Rho) : List Nat → Rho
  | [] => ρ
  | v :: vs => (wipeR ρ vs).set v .no
/-- the mutable list that is walked stays as it was -/
def held (gd : Option Nat) (S S' : Hs) : Prop := ∀ n, gd = some n → S'[n]? = S[n]?
open Classical in
/-- a comprehension's turns -/
noncomputable def compGo (gd : Option Nat) (f : D → Hs → Res (Option D)) : List D → Hs → List D → Res Val
  | [], S, acc => .ok (.fr acc) S
  | x :: xs, S, acc => match f x S with
    | .ok o S' => if held gd S S' then (match o with
      | some y => compGo gd f xs S' (acc ++ [y])
      | none => compGo gd f xs S' acc) else .bad
    | _ => .bad
/-- the ints lo, lo + 1, .. -/
def rngL (lo : Int) (n : Nat) : List D := (List.range n).map fun (i : Nat) => .int (lo + (i : Int))
def rng (lo hi : Int) : Option (List D) := if -(2 ^ 62) ≤ lo ∧ lo < 2 ^ 62 ∧ -(2 ^ 62) ≤ hi ∧ hi < 2 ^ 62 ∧ (hi - lo).toNat ≤ big then some (rngL lo (hi - lo).toNat) else none

/-! ### code -/
mutual
inductive C where
  | var (i : Nat) | int (i : Int) | bl (b : Bool) | non | str (x : Str) | gint (x : Str) (i : Int)
  | bin (op : Operator) (a b : C) | neg (a : C) | not (a : C) | and (a b : C) | or (a b : C)
  | cmp (op : CmpOp) (a b : C) | isN (a : C) | notN (a : C) | ite (c a b : C)
  | fld (f : Str) (cs : List (Nat × Nat)) (e : C)
  | ix (a b : C) | slc (a : C) (lo hi : Oc)
  | tup (as : Cs) | lst (as : Cs)
  | call (k : Nat) (as : Cs) | meth (k : Nat) (o : C) (as : Cs) | opm (k : Nat) (R : List (Option Nat)) (a b : C) | unm (k : Nat) (a : C)
  | make (k : Nat) (as : Cs) | blt (f : Bf) (as : Cs) | isi (t : Tk) (cs : List Nat) (e : C)
  | gcon (x f : Str) (i : Int) | chn (op op' : CmpOp) (a b c : C) | inO (neg : Bool) (k : Nat) (a b : C) | lenO (k : Nat) (a : C)
  | lstO (cs : List (Nat × Nat)) (a : C) | cmeth (k c : Nat) (as : Cs) | mkv (i k : Nat) (as : Cs)
  | lenSet (a : C) | srtSet (a : C) | strm (m : Sm) (a : C) | join (a b : C) | lrg (a : C)
  | comp (t : Tg) (own : List Nat) (it : I) (elt : C) | compIf (t : Tg) (own : List Nat) (it : I) (c elt : C)
inductive Cs where
  | nil | cons (a : C) (r : Cs)
inductive Oc where
  | no | so (a : C)
inductive I where
  | seq (e : C) | rng1 (a : C) | rng2 (a b : C) | itm (cs : List (Nat × Nat)) (e : C) | enm (e : C)
end
structure Sg where
  fn : List Fn := []
  me : List Cand := []
  ma : List (Nat × Fn) := []
  cm : List Fn := []
def pick (c : Cand) (k : Nat) : Option Fn := c.lookup k
/-- a method, by the receiver's class -/
def meL (G : Sg) (k : Nat) (o : D) : Option Fn := match o with
  | .obj c _ => (G.me[k]?).bind (pick · c)
  | _ => none
/-- a call by the receiver's class -/
def meR (G : Sg) (k : Nat) (o : D) (ds : List D) (S : Hs) : Res Val := match meL G k o with
  | some f => f (o :: ds) S
  | none => .bad
/-- what may stand behind the operator -/
def rhsB (R : List (Option Nat)) : D → Bool
  | .int _ => R.contains none
  | .obj c _ => R.contains (some c)
  | _ => false
def cutD (xs : List D) (lo hi : Option Int) : List D := (xs.drop (HT.sIx xs.length 0 lo)).take (HT.sIx xs.length xs.length hi - HT.sIx xs.length 0 lo)
/-- x[lo:hi] -/
def slcV (ρ : Rho) (S : Hs) (x : Val) (p q : Option Int) : Option Val := match x with
  | .d (.str z) => if z.length ≤ big then some (.d (.str (L2.cutS z p q))) else none
  | x => (contL ρ S x).map fun l => .fr (cutD l p q)
/-- the items that are walked, and the mutable list they stand in -/
def walkV (fx : Bool) (ρ : Rho) (S : Hs) (v : Val) : Option (List D × Option Nat) := match v with
  | .d (.loc n) => (S[n]?).map fun l => (l, some n)
  | .ow i => if fx = true then (cont ρ S (.ow i)).map fun l => (l, none) else none
  | v => (cont ρ S v).map fun l => (l, none)
/-- enumerate -/
def enumL (l : List D) : List D := l.zipIdx.map fun p => .tup [.int (p.2 : Int), p.1]
def enumV (fx : Bool) (ρ : Rho) (S : Hs) (v : Val) : Option (List D × Option Nat) := match contT v with
  | some _ => none
  | none => (walkV fx ρ S v).map fun w => (enumL w.1, w.2)
/-- the field that an own object's walk walks, as a new list -/
def lstF (cs : List (Nat × Nat)) (ρ : Rho) (S : Hs) (v : Val) : Option Val := match v with
  | .d (.obj c l) => ((cs.lookup c).bind fun p => l[p]?).bind fun d => (contL ρ S (.d d)).map .fr
  | _ => none
mutual
noncomputable def ev (G : Sg) : C → Rho → Hs → Res Val
  | .var i, ρ, S => match ρ[i]? with
    | some (.va x) => .ok (.d x) S
    | some (.ac _) => .ok (.ow i) S
    | _ => .bad
  | .int i, _, S => .ok (.d (.int i)) S
  | .bl b, _, S => .ok (.d (.bl b)) S
  | .non, _, S => .ok (.d .non) S
  | .str x, _, S => .ok (.d (.str x)) S
  | .gint _ i, _, S => .ok (.d (.int i)) S
  | .bin op a b, ρ, S => (ev G a ρ S).bind fun x S => (ev G b ρ S).bind fun y S => Res.of (binV op ρ S x y) S
  | .neg a, ρ, S => (ev G a ρ S).bind fun x S => match x with
    | .d (.int i) => .ok (.d (.int (-i))) S
    | _ => .bad
  | .not a, ρ, S => (ev G a ρ S).bind fun x S => match x with
    | .d (.bl b) => .ok (.d (.bl (!b))) S
    | _ => .bad
  | .and a b, ρ, S => (ev G a ρ S).bind fun x S => match x with
    | .d (.bl true) => ev G b ρ S
    | .d (.bl false) => .ok (.d (.bl false)) S
    | _ => .bad
  | .or a b, ρ, S => (ev G a ρ S).bind fun x S => match x with
    | .d (.bl false) => ev G b ρ S
    | .d (.bl true) => .ok (.d (.bl true)) S
    | _ => .bad
  | .cmp op a b, ρ, S => (ev G a ρ S).bind fun x S => (ev G b ρ S).bind fun y S => Res.of ((cmpV op ρ S x y).map fun c => .d (.bl c)) S
  | .isN a, ρ, S => (ev G a ρ S).bind fun x S => Res.of ((isNon x).map fun b => .d (.bl b)) S
  | .notN a, ρ, S => (ev G a ρ S).bind fun x S => Res.of ((isNon x).map fun b => .d (.bl (!b))) S
  | .ite c a b, ρ, S => (ev G c ρ S).bind fun x S => match x with
    | .d (.bl true) => ev G a ρ S
    | .d (.bl false) => ev G b ρ S
    | _ => .bad
  | .fld _ cs e, ρ, S => (ev G e ρ S).bind fun x S => match x with
    | .d (.obj c l) => Res.of (((cs.lookup c).bind fun p => l[p]?).map .d) S
    | _ => .bad
  | .ix a b, ρ, S => (ev G a ρ S).bind fun x S => (ev G b ρ S).bind fun y S => Res.of (ixV ρ S x y) S
  | .slc a lo hi, ρ, S => (ev G a ρ S).bind fun x S => (evO G lo ρ S).bind fun p S => (evO G hi ρ S).bind fun q S => Res.of (slcV ρ S x p q) S
  | .tup as, ρ, S => (evs G as ρ S).bind fun ds S => .ok (.d (.tup ds)) S
  | .lst as, ρ, S => (evs G as ρ S).bind fun ds S => .ok (.fr ds) S
  | .call k as, ρ, S => (evs G as ρ S).bind fun ds S => match G.fn[k]? with
    | some f => f ds S
    | none => .bad
  | .meth k o as, ρ, S => (ev G o ρ S).bind fun x S => match x with
    | .d o => (match meL G k o with
      | some f => (evs G as ρ S).bind fun ds S => f (o :: ds) S
      | none => .bad)
    | _ => .bad
  | .opm k R a b, ρ, S => (ev G a ρ S).bind fun x S => (ev G b ρ S).bind fun y S => match x, y with
    | .d o, .d y => if rhsB R y = true then meR G k o [y] S else .bad
    | _, _ => .bad
  | .unm k a, ρ, S => (ev G a ρ S).bind fun x S => match x with
    | .d o => meR G k o [] S
    | _ => .bad
  | .make k as, ρ, S => (evs G as ρ S).bind fun ds S => match G.ma[k]? with
    | some (_, f) => f ds S
    | none => .bad
  | .blt f as, ρ, S => (evv G as ρ S).bind fun vs S => Res.of (bltV f ρ S vs) S
  | .isi t cs e, ρ, S => (ev G e ρ S).bind fun x S => Res.of ((kind x).bind fun k => if kdIn cs k = true then some (.d (.bl (isK t k))) else none) S
  | .gcon _ _ i, _, S => .ok (.d (.int i)) S
  | .chn op op' a b c, ρ, S => (ev G a ρ S).bind fun x S => (ev G b ρ S).bind fun y S => match cmpV op ρ S x y with
    | some true => (ev G c ρ S).bind fun z S => Res.of ((cmpV op' ρ S y z).map fun c => .d (.bl c)) S
    | some false => .ok (.d (.bl false)) S
    | none => .bad
  | .inO neg k a b, ρ, S => (ev G a ρ S).bind fun x S => (ev G b ρ S).bind fun y S => match x, y with
    | .d x, .d o => (meR G k o [x] S).bind fun r S => match r with
        | .d (.bl q) => .ok (.d (.bl (neg ^^ q))) S
        | _ => .bad
    | _, _ => .bad
  | .lenO k a, ρ, S => (ev G a ρ S).bind fun x S => match x with
    | .d o => (meR G k o [] S).bind fun r S => match r with
      | .d (.int n) => if 0 ≤ n ∧ n < 2 ^ 63 then .ok (.d (.int n)) S else .bad
      | _ => .bad
    | _ => .bad
  | .lstO cs a, ρ, S => (ev G a ρ S).bind fun x S => Res.of (lstF cs ρ S x) S
  | .cmeth k c as, ρ, S => (evs G as ρ S).bind fun ds S => match G.cm[k]? with
    | some f => f (.cls c :: ds) S
    | none => .bad
  | .mkv i k as, ρ, S => match ρ[i]? with
    | some (.va (.cls c)) => (match G.ma[k]? with
      | some (q, f) => if q = c then (evs G as ρ S).bind fun ds S => f ds S else .bad
      | none => .bad)
    | _ => .bad
  | .lenSet a, ρ, S => (ev G a ρ S).bind fun x S => Res.of (lenSetV ρ S x) S
  | .srtSet a, ρ, S => (ev G a ρ S).bind fun x S => Res.of (srtSetV x) S
  | .strm m a, ρ, S => (ev G a ρ S).bind fun x S => match x with
    | .d (.str x) => .ok (.d (.bl (smV m x))) S
    | _ => .bad
  | .join a b, ρ, S => (ev G a ρ S).bind fun x S => match x with
    | .d (.str _) => (ev G b ρ S).bind fun y S => Res.of (joinV ρ S x y) S
    | _ => .bad
  | .lrg a, ρ, S => (ev G a ρ S).bind fun x S => match x with
    | .d (.int n) => Res.of ((rng 0 n).map fun l => .fr l) S
    | _ => .bad
  | .comp t own it elt, ρ, S => (evI G true it ρ S).bind fun w S => compGo w.2 (fun x S => match setTg t x (wipeR ρ own) with
    | some ρ' => (ev G elt ρ' S).bind fun y S => match y.toD with
      | some y => .ok (some y) S
      | none => .bad
    | none => .bad) w.1 S []
  | .compIf t own it c elt, ρ, S => (evI G true it ρ S).bind fun w S => compGo w.2 (fun x S => match setTg t x (wipeR ρ own) with
    | some ρ' => (ev G c ρ' S).bind fun b S => match b with
      | .d (.bl true) => (ev G elt ρ' S).bind fun y S => match y.toD with
        | some y => .ok (some y) S
        | none => .bad
      | .d (.bl false) => .ok none S
      | _ => .bad
    | none => .bad) w.1 S []
/-- arguments as data -/
noncomputable def evs (G : Sg) : Cs → Rho → Hs → Res (List D)
  | .nil, _, S => .ok [] S
  | .cons a r, ρ, S => (ev G a ρ S).bind fun x S => match x.toD with
    | some x => (evs G r ρ S).bind fun xs S => .ok (x :: xs) S
    | none => .bad
/-- arguments as values -/
noncomputable def evv (G : Sg) : Cs → Rho → Hs → Res (List Val)
  | .nil, _, S => .ok [] S
  | .cons a r, ρ, S => (ev G a ρ S).bind fun x S => (evv G r ρ S).bind fun xs S => .ok (x :: xs) S
noncomputable def evO (G : Sg) : Oc → Rho → Hs → Res (Option Int)
  | .no, _, S => .ok none S
  | .so a, ρ, S => (ev G a ρ S).bind fun x S => match x with
    | .d (.int i) => .ok (some i) S
    | _ => .bad
/-- what is walked -/
noncomputable def evI (G : Sg) (fx : Bool) : I → Rho → Hs → Res (List D × Option Nat)
  | .seq e, ρ, S => (ev G e ρ S).bind fun x S => Res.of (walkV fx ρ S x) S
  | .rng1 a, ρ, S => (ev G a ρ S).bind fun x S => match x with
    | .d (.int n) => Res.of ((rng 0 n).map fun l => (l, none)) S
    | _ => .bad
  | .rng2 a b, ρ, S => (ev G a ρ S).bind fun x S => (ev G b ρ S).bind fun y S => match x, y with
    | .d (.int m), .d (.int n) => Res.of ((rng m n).map fun l => (l, none)) S
    | _, _ => .bad
  | .itm cs e, ρ, S => (ev G e ρ S).bind fun x S => match x with
    | .d (.obj c l) => Res.of (((cs.lookup c).bind fun p => l[p]?).bind fun d => walkV fx ρ S (.d d)) S
    | _ => .bad
  | .enm e, ρ, S => (ev G e ρ S).bind fun x S => Res.of (enumV fx ρ S x) S
end
/-! ### the except suite -/
/-- what _law_one(e, n) answers: the marks are those of n alone -/
def oneB (bs : List Bool) (n : Int) : Bool := dEq (.lst (bs.map D.bl)) (.lst ((rngL 0 10).map fun x => .bl (dEq x (.int n))))
/-- the parts of an except suite's answer -/
inductive Ha where
  | pur (c : C) | one (n : C) | isi (t : Tk) (f : Str) (cs : List (Nat × Nat)) | int (f : Str) (cs : List (Nat × Nat)) | feq (f : Str) (cs : List (Nat × Nat)) (c : C)
def kdB : Kd → Bool
  | .obj _ => false
  | _ => true
def isInt : Kd → Bool
  | .int => true
  | _ => false
/-- the caught exception's field -/
def xfl (cs : List (Nat × Nat)) (c : Nat) (fs : List D) : Option D := (cs.lookup c).bind fun p => fs[p]?
noncomputable def haV (G : Sg) (ms : List (Nat × List Bool)) (c : Nat) (fs : List D) : Ha → Rho → Hs → Res Bool
  | .pur e, ρ, S => (ev G e ρ S).bind fun x S => match x with
    | .d (.bl b) => .ok b S
    | _ => .bad
  | .one e, ρ, S => (ev G e ρ S).bind fun x S => match x with
    | .d (.int n) => (match ms.lookup c with
      | some bs => .ok (oneB bs n) S
      | none => .bad)
    | _ => .bad
  | .isi t _ cs, _, S => match xfl cs c fs with
    | some d => (match kind (.d d) with
      | some k => if kdB k = true then .ok (isK t k) S else .bad
      | none => .bad)
    | none => .bad
  | .int _ cs, _, S => match xfl cs c fs with
    | some d => (match kind (.d d) with
      | some k => if kdB k = true then .ok (isInt k) S else .bad
      | none => .bad)
    | none => .bad
  | .feq _ cs e, ρ, S => match xfl cs c fs with
    | some d => (ev G e ρ S).bind fun y S => match eqV ρ S (.d d) y with
      | some b => .ok b S
      | none => .bad
    | none => .bad
/-- all of them, from the left -/
noncomputable def hdV (G : Sg) (ms : List (Nat × List Bool)) (c : Nat) (fs : List D) : List Ha → Rho → Hs → Res Bool
  | [], _, _ => .bad
  | [a], ρ, S => haV G ms c fs a ρ S
  | a :: r, ρ, S => (haV G ms c fs a ρ S).bind fun b S => if b = true then hdV G ms c fs r ρ S else .ok false S
/-! ### statements -/
mutual
inductive Sx where
  | set (i : Nat) (e : C) | setA (i : Nat) (e : C) | setC (i : Nat) (e : C)
  | unp (is : List Nat) (e : C) | par (i j : Nat) (a b : C)
  | app (i : Nat) (e : C) | setIx (i : Nat) (k e : C) | setLoc (o k e : C)
  | aug (op : Operator) (i : Nat) (e : C)
  | drop (e : C) | ret (e : C) | retN | fldS (i c p : Nat) (f : Str) (e : C)
  | ite (c : C) (a b : Ss) | forS (t : Tg) (it : I) (b : Ss) | whileS (m : Rho → Nat) (c : C) (b : Ss)
  | setO (k : Nat) (o i e : C) | fldC (i c p : Nat) (f : Str) (e : C)
  | brk | cnt | pass | raise (k : Nat) (as : Cs)
  | fz (i : Nat) | never | tryF (i k : Nat) (as : Cs) (ie : Nat) (ms : List (Nat × List Bool)) (h : List Ha)
inductive Ss where
  | nil | cons (s : Sx) (r : Ss)
end
open Classical in
/-- a for's turns -/
noncomputable def forGo (gd : Option Nat) (f : D → Rho → Hs → Out) : List D → Rho → Hs → Out
  | [], ρ, S => .nx ρ S
  | x :: xs, ρ, S => match f x ρ S with
    | .nx ρ' S' => if held gd S S' then forGo gd f xs ρ' S' else .bad
    | .ct ρ' S' => if held gd S S' then forGo gd f xs ρ' S' else .bad
    | .bk ρ' S' => .nx ρ' S'
    | o => o
/-- a while's turns -/
def whileGo (c : Rho → Hs → Res Val) (f : Rho → Hs → Out) : Nat → Rho → Hs → Out
  | 0, _, _ => .bad
  | n + 1, ρ, S => match c ρ S with
    | .ok (.d (.bl true)) S' => match f ρ S' with
      | .nx ρ' S' => whileGo c f n ρ' S'
      | .ct ρ' S' => whileGo c f n ρ' S'
      | .bk ρ' S' => .nx ρ' S'
      | o => o
    | .ok (.d (.bl false)) S' => .nx ρ S'
    | .ok _ _ => .bad
    | .ex k fs S' => .ex k fs S'
    | .bad => .bad
def Res.out {α : Type} : Res α → (α → Hs → Out) → Out
  | .ok a S, f => f a S
  | .ex c fs S, _ => .ex c fs S
  | .bad, _ => .bad
@[simp] theorem Res.out_ok {α : Type} {a : α} {S : Hs} {f : α → Hs → Out} : (Res.ok a S).out f = f a S := rfl
@[simp] theorem Res.out_ex {α : Type} {c : Nat} {fs : List D} {S : Hs} {f : α → Hs → Out} : (Res.ex c fs S).out f = .ex c fs S := rfl
@[simp] theorem Res.out_bad {α : Type} {f : α → Hs → Out} : (Res.bad).out f = .bad := rfl
mutual
noncomputable def exec (G : Sg) : Sx → Rho → Hs → Out
  | .set i e, ρ, S => (ev G e ρ S).out fun x S => match x.toD with
    | some d => .nx (ρ.set i (.va d)) S
    | none => .bad
  | .setA i e, ρ, S => (ev G e ρ S).out fun x S => match x with
    | .fr l => .nx (ρ.set i (.ac l)) S
    | _ => .bad
  | .setC i e, ρ, S => (ev G e ρ S).out fun x S => match x with
    | .fr l => .nx (ρ.set i (.va (.loc S.length))) (S ++ [l])
    | _ => .bad
  | .unp is e, ρ, S => (ev G e ρ S).out fun x S => match x with
    | .d (.tup l) => (match setAll is l ρ with
      | some ρ' => .nx ρ' S
      | none => .bad)
    | _ => .bad
  | .par i j a b, ρ, S => (ev G a ρ S).out fun x S => match x.toD with
    | some x => (ev G b ρ S).out fun y S => match y.toD with
      | some y => .nx ((ρ.set i (.va x)).set j (.va y)) S
      | none => .bad
    | none => .bad
  | .app i e, ρ, S => match ρ[i]? with
    | some (.ac l) => (ev G e ρ S).out fun x S => match x.toD with
      | some d => if l.length < big then .nx (ρ.set i (.ac (l ++ [d]))) S else .bad
      | none => .bad
    | _ => .bad
  | .setIx i k e, ρ, S => match ρ[i]? with
    | some (.ac l) => (ev G e ρ S).out fun x S => match x.toD with
      | some d => (ev G k ρ S).out fun y S => match y with
        | .d (.int n) => (match L2.ixN l.length n with
          | some j => .nx (ρ.set i (.ac (l.set j d))) S
          | none => .bad)
        | _ => .bad
      | none => .bad
    | _ => .bad
  | .setLoc o k e, ρ, S => (ev G e ρ S).out fun x S => match x.toD with
    | some d => (ev G o ρ S).out fun y S => match y with
      | .d (.loc n) => (ev G k ρ S).out fun z S => match z with
        | .d (.int m) => (match S[n]? with
          | some l => (match L2.ixN l.length m with
            | some j => .nx ρ (S.set n (l.set j d))
            | none => .bad)
          | none => .bad)
        | _ => .bad
      | _ => .bad
    | none => .bad
  | .aug op i e, ρ, S => match ρ[i]? with
    | some (.va x) => (ev G e ρ S).out fun y S => match x, y with
      | .int a, .d (.int b) => (match binV op ρ S (.d (.int a)) (.d (.int b)) with
        | some (.d z) => .nx (ρ.set i (.va z)) S
        | _ => .bad)
      | _, _ => .bad
    | _ => .bad
  | .drop e, ρ, S => (ev G e ρ S).out fun _ S => .nx ρ S
  | .ret e, ρ, S => (ev G e ρ S).out fun x S => match x with
    | .ow i => (match ρ[i]? with
      | some (.ac l) => .rt (.fr l) S
      | _ => .bad)
    | v => .rt v S
  | .retN, _, S => .rt (.d .non) S
  | .fldS i c p _ e, ρ, S => match ρ[i]? with
    | some (.ini k l) => if k = c ∧ l.length = p then (ev G e ρ S).out fun x S => match x.toD with
      | some d => .nx (ρ.set i (.ini c (l ++ [d]))) S
      | none => .bad
      else .bad
    | _ => .bad
  | .setO k o i e, ρ, S => (ev G e ρ S).out fun x S => match x.toD with
    | some x => (ev G o ρ S).out fun y S => match y with
      | .d o => (ev G i ρ S).out fun z S => match z with
        | .d z => (meR G k o [z, x] S).out fun _ S => .nx ρ S
        | _ => .bad
      | _ => .bad
    | none => .bad
  | .fldC i c p _ e, ρ, S => match ρ[i]? with
    | some (.ini k l) => if k = c ∧ l.length = p then (ev G e ρ S).out fun x S => match x with
      | .fr xs => .nx (ρ.set i (.ini c (l ++ [.loc S.length]))) (S ++ [xs])
      | _ => .bad
      else .bad
    | _ => .bad
  | .ite c a b, ρ, S => (ev G c ρ S).out fun x S => match x with
    | .d (.bl true) => execs G a ρ S
    | .d (.bl false) => execs G b ρ S
    | _ => .bad
  | .forS t it b, ρ, S => (evI G false it ρ S).out fun w S => forGo w.2 (fun x ρ S => match setTg t x ρ with
    | some ρ' => execs G b ρ' S
    | none => .bad) w.1 ρ S
  | .whileS m c b, ρ, S => whileGo (ev G c) (execs G b) (m ρ + 1) ρ S
  | .brk, ρ, S => .bk ρ S
  | .cnt, ρ, S => .ct ρ S
  | .pass, ρ, S => .nx ρ S
  | .raise k as, ρ, S => (evs G as ρ S).out fun ds S => .ex k ds S
  | .fz i, ρ, S => match ρ[i]? with
    | some (.ac l) => .nx (ρ.set i (.va (.lst l))) S
    | _ => .bad
  | .never, _, _ => .bad
  | .tryF i k as ie ms h, ρ, S => match evs G as ρ S with
    | .ok ds S => (match G.fn[k]? with
      | some f => (match f ds S with
        | .ok x S => (match x.toD with
          | some d => .nx (ρ.set i (.va d)) S
          | none => .bad)
        | .ex c fs S => (match (ρ[ie]? : Option Sl), ms.lookup c with
          | some .no, some _ => (match hdV G ms c fs h ρ S with
            | .ok b S => .rt (.d (.bl b)) S
            | _ => .bad)
          | _, _ => .bad)
        | .bad => .bad)
      | none => .bad)
    | _ => .bad
noncomputable def execs (G : Sg) : Ss → Rho → Hs → Out
  | .nil, ρ, S => .nx ρ S
  | .cons s r, ρ, S => match exec G s ρ S with
    | .nx ρ' S' => execs G r ρ' S'
    | o => o
end
/-- a def: its number of parameters, of slots, its body -/
noncomputable def runDef (G : Sg) (np n : Nat) (b : Ss) : Fn := fun ds S => if ds.length = np then (match execs G b (ds.map .va ++ List.replicate (n - np) .no) S with
  | .rt v S' => .ok v S'
  | .nx _ S' => .ok (.d .non) S'
  | .ex c fs S' => .ex c fs S'
  | _ => .bad) else .bad
/-- a def with a star parameter behind np others -/
noncomputable def runStar (G : Sg) (np n : Nat) (b : Ss) : Fn := fun ds S => if np ≤ ds.length ∧ ds.length ≤ big then runDef G (np + 1) n b (ds.take np ++ [.tup (ds.drop np)]) S else .bad
/-- an __init__: the fields -/
noncomputable def runInit (G : Sg) (np n c nf : Nat) (b : Ss) : List D → Hs → Res (List D) := fun ds S => if ds.length = np then (match execs G b (.ini c [] :: (ds.map .va ++ List.replicate (n - np) .no)) S with
  | .nx ρ S' => (match (ρ[0]? : Option Sl) with
    | some (.ini k l) => if k = c ∧ l.length = nf then .ok l S' else .bad
    | _ => .bad)
  | .ex c fs S' => .ex c fs S'
  | _ => .bad) else .bad
noncomputable def runInitStar (G : Sg) (np n c nf : Nat) (b : Ss) : List D → Hs → Res (List D) := fun ds S => if np ≤ ds.length ∧ ds.length ≤ big then runInit G (np + 1) n c nf b (ds.take np ++ [.tup (ds.drop np)]) S else .bad
theorem runInit_len {G : Sg} {np n c nf : Nat} {b : Ss} {ds : List D} {S S' : Hs} {l : List D} (h : runInit G np n c nf b ds S = .ok l S') : l.length = nf := by
  unfold runInit at h
  split at h
  · split at h
    · split at h
      · split at h
        · rename_i q
          cases h
          exact q.2
        · cases h
      · cases h
    · cases h
    · cases h
  · cases h
theorem runInitStar_len {G : Sg} {np n c nf : Nat} {b : Ss} {ds : List D} {S S' : Hs} {l : List D} (h : runInitStar G np n c nf b ds S = .ok l S') : l.length = nf := by
  unfold runInitStar at h
  split at h
  · exact runInit_len h
  · cases h
/-- C(..) -/
def makeF (c : Nat) (F : List D → Hs → Res (List D)) : Fn := fun ds S => (F ds S).bind fun fs S => .ok (.d (.obj c fs)) S
end Sf
end
section
set_option linter.all false
/-! Sf.Srt: insI, srtI. -/
namespace Sf
open PySem
/-! ### srtI -/
theorem insI_mem {x k : Int} : ∀ {l : List Int}, k ∈ insI x l ↔ k = x ∨ k ∈ l
  | [] => by simp [insI]
  | y :: r => by
    unfold insI
    split
    · simp
    · split
      · rename_i e; subst e; simp
      · rw [List.mem_cons, insI_mem (l := r), List.mem_cons]
        constructor
        · rintro (h | h | h) <;> simp [h]
        · rintro (h | h | h) <;> simp [h]
theorem insI_srt {x : Int} : ∀ {l : List Int}, l.Pairwise (· < ·) → (insI x l).Pairwise (· < ·)
  | [], _ => by simp [insI]
  | y :: r, h => by
    obtain ⟨h1, h2⟩ := List.pairwise_cons.mp h
    unfold insI
    split
    · rename_i lt
      refine List.pairwise_cons.mpr ⟨fun z hz => ?_, h⟩
      rcases List.mem_cons.mp hz with rfl | hz
      · exact lt
      · exact Int.lt_trans lt (h1 z hz)
    · split
      · exact h
      · refine List.pairwise_cons.mpr ⟨fun z hz => ?_, insI_srt h2⟩
        rcases insI_mem.mp hz with rfl | hz
        · omega
        · exact h1 z hz
theorem srtI_mem {k : Int} : ∀ {l : List Int}, k ∈ srtI l ↔ k ∈ l
  | [] => by simp [srtI]
  | x :: r => by
    show k ∈ insI x (srtI r) ↔ _
    rw [insI_mem, srtI_mem (l := r), List.mem_cons]
theorem srtI_srt : ∀ (l : List Int), (srtI l).Pairwise (· < ·)
  | [] => List.Pairwise.nil
  | x :: r => insI_srt (srtI_srt r)
theorem insI_len (y : Int) : ∀ l : List Int, (insI y l).length ≤ l.length + 1
  | [] => Nat.le_refl _
  | z :: q => by
    have := insI_len y q
    unfold insI
    split
    · simp
    · split
      · simp
      · simp only [List.length_cons]; omega
theorem srtI_len : ∀ l : List Int, (srtI l).length ≤ l.length
  | [] => Nat.le_refl _
  | y :: r => by
    have h1 := insI_len y (srtI r)
    have h2 := srtI_len r
    show (insI y (srtI r)).length ≤ _
    rw [List.length_cons]; omega
theorem srt_uniq : ∀ {a b : List Int}, a.Pairwise (· < ·) → b.Pairwise (· < ·) → (∀ k, k ∈ a ↔ k ∈ b) → a = b
  | [], [], _, _, _ => rfl
  | [], y :: r, _, _, h => by have := (h y).mpr (by simp); simp at this
  | x :: r, [], _, _, h => by have := (h x).mp (by simp); simp at this
  | x :: r, y :: q, ha, hb, h => by
    obtain ⟨a1, a2⟩ := List.pairwise_cons.mp ha
    obtain ⟨b1, b2⟩ := List.pairwise_cons.mp hb
    have exy : x = y := by
      have hx := List.mem_cons.mp ((h x).mp (by simp))
      have hy := List.mem_cons.mp ((h y).mpr (by simp))
      rcases hx with e | hx
      · exact e
      · rcases hy with e | hy
        · exact e.symm
        · have := b1 x hx; have := a1 y hy; omega
    subst exy
    congr 1
    refine srt_uniq a2 b2 fun k => ?_
    have hk := h k
    rw [List.mem_cons, List.mem_cons] at hk
    constructor
    · intro m
      rcases hk.mp (.inr m) with e | m'
      · subst e; have := a1 k m; omega
      · exact m'
    · intro m
      rcases hk.mpr (.inr m) with e | m'
      · subst e; have := b1 k m; omega
      · exact m'
end Sf
end
section
set_option linter.all false
set_option maxRecDepth 100000
/-! Sf.Rel: how data stand in the abstract heap. -/
namespace Sf
open PySem L2

/-- the written part, the classes -/
structure Tab where
  K : PySem.W.Frag
  cad : Nat → Addr
  cfl : Nat → List Str

mutual
/-- a value that stands for data: G what never changes, ι where the mutable lists are -/
inductive Rep (T : Tab) (G : Hp) (ι : List Addr) : V → D → Prop
  | non : Rep T G ι .non .non
  | bl (b : Bool) : Rep T G ι (.bl b) (.bl b)
  | int (i : Int) : Rep T G ι (.int i) (.int i)
  | str (x : Str) : Rep T G ι (.str x) (.str x)
  | tup {a : Addr} {vs : List V} {ds : List D} : SqT T.K G a vs → vs.length ≤ sizeLine → Reps T G ι vs ds → Rep T G ι (.ref a) (.tup ds)
  | lst {a : Addr} {vs : List V} {ds : List D} : G a = some (.lst vs) → vs.length ≤ sizeLine → Reps T G ι vs ds → Rep T G ι (.ref a) (.lst ds)
  | scr {a : Addr} {vs : List V} {ds : List D} : SqL T.K G a vs → vs.length ≤ sizeLine → Reps T G ι vs ds → Rep T G ι (.ref a) (.scr ds)
  | obj {a dx : Addr} {c : Nat} {fs : List (Str × V)} {ds : List D} : G a = some (.ins (T.cad c) dx fs) → fs.map (·.1) = T.cfl c → Reps T G ι (fs.map (·.2)) ds → Rep T G ι (.ref a) (.obj c ds)
  | loc {a : Addr} {n : Nat} : ι[n]? = some a → Rep T G ι (.ref a) (.loc n)
  | cls (c : Nat) : Rep T G ι (.ref (T.cad c)) (.cls c)
inductive Reps (T : Tab) (G : Hp) (ι : List Addr) : List V → List D → Prop
  | nil : Reps T G ι [] []
  | cons {v : V} {vs : List V} {d : D} {ds : List D} : Rep T G ι v d → Reps T G ι vs ds → Reps T G ι (v :: vs) (d :: ds)
end

/-- G grows -/
def Le (G G' : Hp) : Prop := ∀ a o, G a = some o → G' a = some o
theorem Le.refl (G : Hp) : Le G G := fun _ _ h => h
theorem Le.trans {G G1 G2 : Hp} (a : Le G G1) (b : Le G1 G2) : Le G G2 := fun x o h => b x o (a x o h)
theorem Le.none {G G' : Hp} (l : Le G G') {a : Addr} (h : G' a = none) : G a = none := by
  cases e : G a with
  | none => rfl
  | some o => rw [l a o e] at h; cases h
theorem le_rd {G G' : Hp} {a : Addr} {u : HO} (e : Le G G') (h : Rd G a u) : Rd G' a u := by
  rcases h with h | ⟨o, h⟩
  · exact Or.inl (e a _ h)
  · exact Or.inr ⟨o, e a _ h⟩
theorem le_l {K : PySem.W.Frag} {G G' : Hp} {a : Addr} {xs : List V} (e : Le G G') (h : SqL K G a xs) : SqL K G' a xs := by
  rcases h with h | h
  · exact Or.inl (le_rd e h)
  · exact Or.inr h
theorem le_t {K : PySem.W.Frag} {G G' : Hp} {a : Addr} {xs : List V} (e : Le G G') (h : SqT K G a xs) : SqT K G' a xs := by
  rcases h with h | h
  · exact Or.inl (le_rd e h)
  · exact Or.inr h
/-- ι grows at its end -/
def Pre (ι ι' : List Addr) : Prop := ∀ (n : Nat) (a : Addr), ι[n]? = some a → ι'[n]? = some a
theorem Pre.refl (ι : List Addr) : Pre ι ι := fun _ _ h => h
theorem Pre.trans {ι ι1 ι2 : List Addr} (a : Pre ι ι1) (b : Pre ι1 ι2) : Pre ι ι2 := fun n x h => b n x (a n x h)
theorem Pre.mem {ι ι' : List Addr} (p : Pre ι ι') {a : Addr} (h : a ∈ ι) : a ∈ ι' := by
  obtain ⟨n, h1, h2⟩ := List.mem_iff_getElem.mp h
  exact List.mem_of_getElem? (p n a (by rw [List.getElem?_eq_getElem h1, h2]))

mutual
theorem Rep.mono {T : Tab} {G G' : Hp} {ι ι' : List Addr} (l : Le G G') (p : Pre ι ι') {v : V} {d : D} : Rep T G ι v d → Rep T G' ι' v d
  | .non => .non
  | .bl b => .bl b
  | .int i => .int i
  | .str x => .str x
  | .tup h z r => .tup (le_t l h) z (Reps.mono l p r)
  | .lst h z r => .lst (l _ _ h) z (Reps.mono l p r)
  | .scr h z r => .scr (le_l l h) z (Reps.mono l p r)
  | .obj h n r => .obj (l _ _ h) n (Reps.mono l p r)
  | .loc h => .loc (p _ _ h)
  | .cls c => .cls c
theorem Reps.mono {T : Tab} {G G' : Hp} {ι ι' : List Addr} (l : Le G G') (p : Pre ι ι') {vs : List V} {ds : List D} : Reps T G ι vs ds → Reps T G' ι' vs ds
  | .nil => .nil
  | .cons h r => .cons (Rep.mono l p h) (Reps.mono l p r)
end
section
variable {T : Tab} {G : Hp} {ι : List Addr}
theorem Reps.length : ∀ {vs : List V} {ds : List D}, Reps T G ι vs ds → vs.length = ds.length
  | _, _, .nil => rfl
  | _, _, .cons _ r => by rw [List.length_cons, List.length_cons, Reps.length r]
theorem Reps.get : ∀ {vs : List V} {ds : List D} {i : Nat} {d : D}, Reps T G ι vs ds → ds[i]? = some d → ∃ v, vs[i]? = some v ∧ Rep T G ι v d
  | _, _, _, _, .nil, e => by simp at e
  | _, _, 0, _, .cons h _, e => by simp at e; subst e; exact ⟨_, rfl, h⟩
  | _, _, i + 1, d, .cons _ r, e => by
    obtain ⟨v, h1, h2⟩ := Reps.get (i := i) (d := d) r (by simpa using e)
    exact ⟨v, by simpa using h1, h2⟩
theorem Reps.getV : ∀ {vs : List V} {ds : List D} {i : Nat} {v : V}, Reps T G ι vs ds → vs[i]? = some v → ∃ d, ds[i]? = some d ∧ Rep T G ι v d
  | _, _, _, _, .nil, e => by simp at e
  | _, _, 0, _, .cons h _, e => by simp at e; subst e; exact ⟨_, rfl, h⟩
  | _, _, i + 1, d, .cons _ r, e => by
    obtain ⟨v, h1, h2⟩ := Reps.getV (i := i) r (by simpa using e)
    exact ⟨v, by simpa using h1, h2⟩
theorem Reps.append : ∀ {vs ws : List V} {ds es : List D}, Reps T G ι vs ds → Reps T G ι ws es → Reps T G ι (vs ++ ws) (ds ++ es)
  | _, _, _, _, .nil, s => s
  | _, _, _, _, .cons h r, s => .cons h (Reps.append r s)
theorem Reps.take : ∀ {vs : List V} {ds : List D} (n : Nat), Reps T G ι vs ds → Reps T G ι (vs.take n) (ds.take n)
  | _, _, 0, _ => .nil
  | _, _, _ + 1, .nil => .nil
  | _, _, n + 1, .cons h r => .cons h (Reps.take n r)
theorem Reps.drop : ∀ {vs : List V} {ds : List D} (n : Nat), Reps T G ι vs ds → Reps T G ι (vs.drop n) (ds.drop n)
  | _, _, 0, r => r
  | _, _, _ + 1, .nil => .nil
  | _, _, n + 1, .cons _ r => Reps.drop n r
theorem Reps.set {v : V} {d : D} (h : Rep T G ι v d) : ∀ {vs : List V} {ds : List D} (n : Nat), Reps T G ι vs ds → Reps T G ι (vs.set n v) (ds.set n d)
  | _, _, _, .nil => .nil
  | _, _, 0, .cons _ r => .cons h r
  | _, _, n + 1, .cons h' r => .cons h' (Reps.set h n r)
theorem Reps.ints {is : List Int} : Reps T G ι (is.map V.int) (is.map D.int) := by
  induction is with
  | nil => exact .nil
  | cons i r ih => exact .cons (.int i) ih
theorem Reps.ints_of : ∀ {vs : List V} {ds : List D} {is : List Int}, Reps T G ι vs ds → intsD ds = some is → vs = is.map V.int
  | _, _, is, .nil, e => by
    cases (show some [] = some is from e)
    rfl
  | _, _, is, .cons h r, e => by
    cases h with
    | int i =>
      unfold intsD at e
      rw [Option.map_eq_some_iff] at e
      obtain ⟨js, e1, rfl⟩ := e
      rw [Reps.ints_of r e1]; rfl
    | _ => cases e
theorem Reps.bools_of : ∀ {vs : List V} {ds : List D} {is : List Bool}, Reps T G ι vs ds → boolsD ds = some is → vs = is.map V.bl
  | _, _, is, .nil, e => by
    cases (show some [] = some is from e)
    rfl
  | _, _, is, .cons h r, e => by
    cases h with
    | bl i =>
      unfold boolsD at e
      rw [Option.map_eq_some_iff] at e
      obtain ⟨js, e1, rfl⟩ := e
      rw [Reps.bools_of r e1]; rfl
    | _ => cases e
end

/-! ### the heap, a step -/
structure GRel (T : Tab) (H : Hp) (S : Hs) (G : Hp) (ι : List Addr) : Prop where
  sub : Le G H
  len : ι.length = S.length
  nd : ι.Nodup
  cell : ∀ (n : Nat) (l : List D), S[n]? = some l → ∃ a vs, ι[n]? = some a ∧ H a = some (.lst vs) ∧ vs.length ≤ sizeLine ∧ Reps T G ι vs l
  off : ∀ a ∈ ι, G a = none
structure Step (H G : Hp) (ι : List Addr) (H' G' : Hp) (ι' : List Addr) : Prop where
  frame : ∀ a o, H a = some o → a ∉ ι → H' a = some o
  dom : ∀ a, H' a = none → H a = none
  ext : Le G G'
  pre : Pre ι ι'
  newG : ∀ a, G a = none → H a ≠ none → G' a = none
  newI : ∀ a, a ∉ ι → H a ≠ none → a ∉ ι'
section
variable {T : Tab} {H H' H1 H2 G G' G1 G2 : Hp} {ι ι' ι1 ι2 : List Addr} {S S' : Hs}
theorem Step.refl (H G : Hp) (ι : List Addr) : Step H G ι H G ι := ⟨fun _ _ h _ => h, fun _ h => h, Le.refl _, Pre.refl _, fun _ h _ => h, fun _ h _ => h⟩
theorem Step.trans (a : Step H G ι H1 G1 ι1) (b : Step H1 G1 ι1 H2 G2 ι2) : Step H G ι H2 G2 ι2 where
  frame := fun x o h n => b.frame x o (a.frame x o h n) (a.newI x n (by rw [h]; exact fun z => nomatch z))
  dom := fun x h => a.dom x (b.dom x h)
  ext := a.ext.trans b.ext
  pre := a.pre.trans b.pre
  newG := fun x h n => b.newG x (a.newG x h n) fun z => n (a.dom x z)
  newI := fun x h n => b.newI x (a.newI x h n) fun z => n (a.dom x z)
/-- a new object that never changes -/
theorem Step.new {p : Addr} {o : HO} (hp : H p = none) (le : Le G H) : Step H G ι (upd H p o) (upd G p o) ι where
  frame := fun a u h _ => by rw [upd_ne (ne_of_none h hp)]; exact h
  dom := fun a h => by
    by_cases e : a = p
    · rw [e]; exact hp
    · rw [upd_ne e] at h; exact h
  ext := fun a u h => by rw [upd_ne (ne_of_none h (le.none hp))]; exact h
  pre := Pre.refl _
  newG := fun a h n => by
    have e : a ≠ p := fun e => n (by rw [e]; exact hp)
    rw [upd_ne e]; exact h
  newI := fun _ h _ => h
/-- a new object whose fate is open -/
theorem Step.open' {p : Addr} {o : HO} (hp : H p = none) : Step H G ι (upd H p o) G ι where
  frame := fun a u h _ => by rw [upd_ne (ne_of_none h hp)]; exact h
  dom := fun a h => by
    by_cases e : a = p
    · rw [e]; exact hp
    · rw [upd_ne e] at h; exact h
  ext := Le.refl _
  pre := Pre.refl _
  newG := fun _ h _ => h
  newI := fun _ h _ => h
theorem GRel.mem {a : Addr} (g : GRel T H S G ι) (h : a ∈ ι) : H a ≠ none := by
  obtain ⟨n, h1, h2⟩ := List.mem_iff_getElem.mp h
  have hs : n < S.length := by rw [← g.len]; exact h1
  obtain ⟨b, vs, e1, e2, _⟩ := g.cell n S[n] (List.getElem?_eq_getElem hs)
  rw [List.getElem?_eq_getElem h1, h2] at e1
  cases e1
  rw [e2]; exact fun z => nomatch z
theorem GRel.new {p : Addr} {o : HO} (g : GRel T H S G ι) (hp : H p = none) : GRel T (upd H p o) S (upd G p o) ι where
  sub := fun a u h => by
    by_cases e : a = p
    · subst e; rw [upd_same] at h ⊢; exact h
    · rw [upd_ne e] at h ⊢; exact g.sub a u h
  len := g.len
  nd := g.nd
  cell := fun n l h => by
    obtain ⟨a, vs, e1, e2, e3, e4⟩ := g.cell n l h
    exact ⟨a, vs, e1, by rw [upd_ne (ne_of_none e2 hp)]; exact e2, e3, e4.mono (Step.new (ι := ι) (o := o) hp g.sub).ext (Pre.refl _)⟩
  off := fun a h => by
    have e : a ≠ p := fun e => g.mem h (by rw [e]; exact hp)
    rw [upd_ne e]; exact g.off a h
theorem GRel.open' {p : Addr} {o : HO} (g : GRel T H S G ι) (hp : H p = none) : GRel T (upd H p o) S G ι where
  sub := fun a u h => by rw [upd_ne (ne_of_none (g.sub a u h) hp)]; exact g.sub a u h
  len := g.len
  nd := g.nd
  cell := fun n l h => by
    obtain ⟨a, vs, e1, e2, e3, e4⟩ := g.cell n l h
    exact ⟨a, vs, e1, by rw [upd_ne (ne_of_none e2 hp)]; exact e2, e3, e4⟩
  off := g.off
/-- an object that is in H already and no cell is held to be unchanging -/
theorem GRel.freeze {a : Addr} {o : HO} (g : GRel T H S G ι) (h : H a = some o) (hG : G a = none) (hi : a ∉ ι) : GRel T H S (upd G a o) ι where
  sub := fun b u e => by
    by_cases q : b = a
    · subst q; rw [upd_same] at e; cases e; exact h
    · rw [upd_ne q] at e; exact g.sub b u e
  len := g.len
  nd := g.nd
  cell := fun n l e => by
    obtain ⟨b, vs, e1, e2, e3, e4⟩ := g.cell n l e
    exact ⟨b, vs, e1, e2, e3, e4.mono (fun c u e => by rw [upd_ne (ne_of_none e hG)]; exact e) (Pre.refl _)⟩
  off := fun b hb => by
    have q : b ≠ a := fun q => hi (q ▸ hb)
    rw [upd_ne q]; exact g.off b hb
theorem le_upd {a : Addr} {o : HO} (hG : G a = none) : Le G (upd G a o) := fun c u e => by rw [upd_ne (ne_of_none e hG)]; exact e
/-- a mutable list is written -/
theorem GRel.write {n : Nat} {a : Addr} {vs : List V} {l : List D} (g : GRel T H S G ι) (hn : ι[n]? = some a) (hz : vs.length ≤ sizeLine) (r : Reps T G ι vs l) : GRel T (upd H a (.lst vs)) (S.set n l) G ι where
  sub := fun b u e => by
    have q : b ≠ a := fun q => by
      have := g.off a (List.mem_of_getElem? hn)
      rw [q, this] at e; cases e
    rw [upd_ne q]; exact g.sub b u e
  len := by rw [List.length_set]; exact g.len
  nd := g.nd
  cell := fun m l' e => by
    by_cases q : m = n
    · subst q
      have hs : m < S.length := by
        have := (List.getElem?_eq_some_iff.mp e).1
        rwa [List.length_set] at this
      rw [List.getElem?_set_self hs] at e
      cases e
      exact ⟨a, vs, hn, upd_same, hz, r⟩
    · rw [List.getElem?_set_ne (Ne.symm q)] at e
      obtain ⟨b, ws, e1, e2, e3, e4⟩ := g.cell m l' e
      have qb : b ≠ a := fun qb => q (nd_ix g.nd e1 (qb ▸ hn))
      exact ⟨b, ws, e1, by rw [upd_ne qb]; exact e2, e3, e4⟩
  off := g.off
theorem Step.write {n : Nat} {a : Addr} {o u : HO} (hn : ι[n]? = some a) (h : H a = some u) : Step H G ι (upd H a o) G ι where
  frame := fun b x e nb => by
    have q : b ≠ a := fun q => nb (q ▸ List.mem_of_getElem? hn)
    rw [upd_ne q]; exact e
  dom := fun b e => by
    by_cases q : b = a
    · subst q; rw [upd_same] at e; cases e
    · rw [upd_ne q] at e; exact e
  ext := Le.refl _
  pre := Pre.refl _
  newG := fun _ h _ => h
  newI := fun _ h _ => h
/-- a list that is in H already becomes a mutable cell -/
theorem GRel.cellify {a : Addr} {vs : List V} {l : List D} (g : GRel T H S G ι) (h : H a = some (.lst vs)) (hz : vs.length ≤ sizeLine) (r : Reps T G ι vs l) (hG : G a = none) (hi : a ∉ ι) : GRel T H (S ++ [l]) G (ι ++ [a]) where
  sub := g.sub
  len := by rw [List.length_append, List.length_append, g.len]; rfl
  nd := List.nodup_append.mpr ⟨g.nd, by simp, fun x hx y hy => by
    have : y = a := by simpa using hy
    subst this
    exact fun q => hi (q ▸ hx)⟩
  cell := fun n l' e => by
    have pre : Pre ι (ι ++ [a]) := fun m b q => by
      have := (List.getElem?_eq_some_iff.mp q).1
      rw [List.getElem?_append_left this]; exact q
    by_cases q : n < S.length
    · rw [List.getElem?_append_left q] at e
      obtain ⟨b, ws, e1, e2, e3, e4⟩ := g.cell n l' e
      exact ⟨b, ws, pre _ _ e1, e2, e3, e4.mono (Le.refl _) pre⟩
    · rw [List.getElem?_append_right (by omega)] at e
      have q0 : n - S.length = 0 := by
        cases z : n - S.length with
        | zero => rfl
        | succ k => rw [z] at e; simp at e
      rw [q0] at e
      have el : l = l' := by simpa using e
      subst el
      refine ⟨a, vs, ?_, h, hz, r.mono (Le.refl _) pre⟩
      rw [List.getElem?_append_right (by rw [g.len]; omega), show n - ι.length = 0 by rw [g.len]; omega]
      rfl
  off := fun b hb => by
    rcases List.mem_append.mp hb with hb | hb
    · exact g.off b hb
    · have : b = a := by simpa using hb
      rw [this]; exact hG
end

/-! ### slots -/
structure SRel (T : Tab) (σ : St) (ρ : Rho) (H G : Hp) (ι : List Addr) : Prop where
  len : σ.length = ρ.length
  va : ∀ (i : Nat) (x : D), ρ[i]? = some (.va x) → ∃ v, σ[i]? = some (some v) ∧ Rep T G ι v x
  ac : ∀ (i : Nat) (l : List D), ρ[i]? = some (.ac l) → ∃ a vs, σ[i]? = some (some (.ref a)) ∧ H a = some (.lst vs) ∧ vs.length ≤ sizeLine ∧ Reps T G ι vs l ∧ G a = none ∧ a ∉ ι
  di : ∀ (i j : Nat) (l k : List D) (a : Addr), ρ[i]? = some (.ac l) → ρ[j]? = some (.ac k) → σ[i]? = some (some (.ref a)) → σ[j]? = some (some (.ref a)) → i = j
  ii : ∀ (i c : Nat) (l : List D), ρ[i]? = some (.ini c l) → ∃ a dx fs, σ[i]? = some (some (.ref a)) ∧ H a = some (.ins (T.cad c) dx fs) ∧ fs.map (·.1) = (T.cfl c).take l.length ∧ Reps T G ι (fs.map (·.2)) l ∧ G a = none ∧ a ∉ ι
section
variable {T : Tab} {σ : St} {ρ : Rho} {H H' H0 H1 H2 G G' G1 G2 : Hp} {ι ι' ι1 ι2 : List Addr} {S S' : Hs}
theorem SRel.step (s : SRel T σ ρ H G ι) (t : Step H G ι H' G' ι') : SRel T σ ρ H' G' ι' where
  len := s.len
  va := fun i x h => let ⟨v, e, r⟩ := s.va i x h; ⟨v, e, r.mono t.ext t.pre⟩
  ac := fun i l h => by
    obtain ⟨a, vs, e1, e2, e3, e4, e5, e6⟩ := s.ac i l h
    have ne : H a ≠ none := by rw [e2]; exact fun z => nomatch z
    exact ⟨a, vs, e1, t.frame a _ e2 e6, e3, e4.mono t.ext t.pre, t.newG a e5 ne, t.newI a e6 ne⟩
  di := s.di
  ii := fun i c l h => by
    obtain ⟨a, dx, fs, e1, e2, e3, e4, e5, e6⟩ := s.ii i c l h
    have ne : H a ≠ none := by rw [e2]; exact fun z => nomatch z
    exact ⟨a, dx, fs, e1, t.frame a _ e2 e6, e3, e4.mono t.ext t.pre, t.newG a e5 ne, t.newI a e6 ne⟩
/-- a value, H0 the heap in which its evaluation began -/
def VRel (T : Tab) (σ : St) (H0 H G : Hp) (ι : List Addr) (v : V) : Val → Prop
  | .d x => Rep T G ι v x
  | .fr l => ∃ a vs, v = .ref a ∧ H a = some (.lst vs) ∧ vs.length ≤ sizeLine ∧ Reps T G ι vs l ∧ G a = none ∧ a ∉ ι ∧ H0 a = none
  | .ow i => σ[i]? = some (some v)
theorem VRel.step {v : V} {x : Val} (h : VRel T σ H0 H1 G1 ι1 v x) (t : Step H1 G1 ι1 H2 G2 ι2) : VRel T σ H0 H2 G2 ι2 v x := by
  cases x with
  | d x => exact Rep.mono t.ext t.pre h
  | fr l =>
    obtain ⟨a, vs, e0, e1, e2, e3, e4, e5, e6⟩ := h
    have ne : H1 a ≠ none := by rw [e1]; exact fun z => nomatch z
    exact ⟨a, vs, e0, t.frame a _ e1 e5, e2, e3.mono t.ext t.pre, t.newG a e4 ne, t.newI a e5 ne, e6⟩
  | ow i => exact h
theorem VRel.back {v : V} {x : Val} (h : VRel T σ H1 H G ι v x) (d : ∀ a, H1 a = none → H0 a = none) : VRel T σ H0 H G ι v x := by
  cases x with
  | d x => exact h
  | fr l =>
    obtain ⟨a, vs, e0, e1, e2, e3, e4, e5, e6⟩ := h
    exact ⟨a, vs, e0, e1, e2, e3, e4, e5, d a e6⟩
  | ow i => exact h

/-! ### what must hold behind a result -/
/-- E: what is wanted of an exception of the class c with these fields -/
def XPost (T : Tab) (H G : Hp) (ι : List Addr) (E : XK) (c : Nat) (fs : List D) (S' : Hs) : Prop :=
  ∀ H' G' ι', Step H G ι H' G' ι' → GRel T H' S' G' ι' → ∀ (d : Option Addr), ((d = none ∧ fs = []) ∨ ∃ a fv, d = some a ∧ H' a = some (.xd fv) ∧ fv.map (·.1) = T.cfl c ∧ Reps T G' ι' (fv.map (·.2)) fs) → E (.ref (T.cad c)) d H'
def Post (T : Tab) (σ : St) (H G : Hp) (ι : List Addr) (Q : VK) (E : XK) : Res Val → Prop
  | .ok v S' => ∀ x H' G' ι', Step H G ι H' G' ι' → GRel T H' S' G' ι' → VRel T σ H H' G' ι' x v → Q x H'
  | .ex c fs S' => XPost T H G ι E c fs S'
  | .bad => False
/-- the same of any kind of result -/
def PostG {α β : Type} (T : Tab) (H G : Hp) (ι : List Addr) (R : α → Hp → Hp → Hp → List Addr → β → Prop) (Q : β → Hp → Prop) (E : XK) : Res α → Prop
  | .ok v S' => ∀ x H' G' ι', Step H G ι H' G' ι' → GRel T H' S' G' ι' → R v H H' G' ι' x → Q x H'
  | .ex c fs S' => XPost T H G ι E c fs S'
  | .bad => False
theorem XPost.mono {E : XK} {c : Nat} {fs : List D} (t : Step H G ι H1 G1 ι1) (h : XPost T H G ι E c fs S) : XPost T H1 G1 ι1 E c fs S := fun H' G' ι' u g d hd => h H' G' ι' (t.trans u) g d hd
theorem Post.mono {Q : VK} {E : XK} {r : Res Val} (t : Step H G ι H1 G1 ι1) (h : Post T σ H G ι Q E r) : Post T σ H1 G1 ι1 Q E r := by
  cases r with
  | ok v S' => exact fun x H' G' ι' u g vr => h x H' G' ι' (t.trans u) g (vr.back t.dom)
  | ex c fs S' => exact XPost.mono t h
  | bad => exact h
/-- a value that is data: it is frozen where it was new -/
theorem toD_rel {v : V} {x : Val} {d : D} {ι0 : List Addr} {G0 : Hp} (st : Step H0 G0 ι0 H G ι) (g : GRel T H S G ι) (h : VRel T σ H0 H G ι v x) (e : x.toD = some d) :
    ∃ G', Step H0 G0 ι0 H G' ι ∧ GRel T H S G' ι ∧ Le G G' ∧ Rep T G' ι v d := by
  cases x with
  | d y =>
    cases e
    exact ⟨G, st, g, Le.refl _, h⟩
  | fr l =>
    cases e
    obtain ⟨a, vs, rfl, e1, e2, e3, e4, e5, e6⟩ := h
    refine ⟨upd G a (.lst vs), ⟨st.frame, st.dom, st.ext.trans (le_upd e4), st.pre, fun b hb nb => ?_, st.newI⟩, g.freeze e1 e4 e5, le_upd e4, .lst upd_same e2 (e3.mono (le_upd e4) (Pre.refl _))⟩
    have q : b ≠ a := fun q => nb (q ▸ e6)
    rw [upd_ne q]; exact st.newG b hb nb
  | ow i => cases e
end
/-- x.toD at the state behind -/
theorem Post.toD {T : Tab} {σ : St} {H G : Hp} {ι : List Addr} {S : Hs} {Q : VK} {E : XK} {v : V} {x : Val} {H0 G0 : Hp} {ι0 : List Addr} (st : Step H0 G0 ι0 H G ι) (g : GRel T H S G ι) (h : VRel T σ H0 H G ι v x) (k : ∀ d, x.toD = some d → ∀ G', Step H0 G0 ι0 H G' ι → GRel T H S G' ι → Rep T G' ι v d → Q v H) (hx : ∃ d, x.toD = some d) : Q v H := by
  obtain ⟨d, e⟩ := hx
  obtain ⟨G', a, b, _, c⟩ := toD_rel st g h e
  exact k d e G' a b c
end Sf
end
section
set_option linter.all false
set_option maxRecDepth 100000
set_option maxHeartbeats 1000000
/-! Sf.Snd: what a reading must show, per construct. -/
namespace Sf
open PySem L2
section
variable (T : Tab) (E : XK)
/-- an expression's reading follows its meaning -/
def Snd (t : TE) (m : Rho → Hs → Res Val) : Prop := ∀ (σ : St) (ρ : Rho) (H G : Hp) (ι : List Addr) (S : Hs) (Q : VK), GRel T H S G ι → SRel T σ ρ H G ι → Post T σ H G ι Q E (m ρ S) → t σ H Q
def PostB (H G : Hp) (ι : List Addr) (Q : Bool → Hp → Prop) : Res Val → Prop
  | .ok (.d (.bl b)) S' => ∀ H' G' ι', Step H G ι H' G' ι' → GRel T H' S' G' ι' → Q b H'
  | .ok _ _ => False
  | .ex c fs S' => XPost T H G ι E c fs S'
  | .bad => False
def SndT (t : TT) (m : Rho → Hs → Res Val) : Prop := ∀ (σ : St) (ρ : Rho) (H G : Hp) (ι : List Addr) (S : Hs) (Q : Bool → Hp → Prop), GRel T H S G ι → SRel T σ ρ H G ι → PostB T E H G ι Q (m ρ S) → t σ H Q
def PostA (H G : Hp) (ι : List Addr) (Q : List V → Hp → Prop) : Res (List D) → Prop
  | .ok ds S' => ∀ vs H' G' ι', Step H G ι H' G' ι' → GRel T H' S' G' ι' → Reps T G' ι' vs ds → Q vs H'
  | .ex c fs S' => XPost T H G ι E c fs S'
  | .bad => False
def SndA (t : TA) (m : Rho → Hs → Res (List D)) : Prop := ∀ (σ : St) (ρ : Rho) (H G : Hp) (ι : List Addr) (S : Hs) (Q : List V → Hp → Prop), GRel T H S G ι → SRel T σ ρ H G ι → PostA T E H G ι Q (m ρ S) → t σ H Q
inductive VRels (σ : St) (H0 H G : Hp) (ι : List Addr) : List V → List Val → Prop
  | nil : VRels σ H0 H G ι [] []
  | cons {v : V} {vs : List V} {x : Val} {xs : List Val} : VRel T σ H0 H G ι v x → VRels σ H0 H G ι vs xs → VRels σ H0 H G ι (v :: vs) (x :: xs)
def PostV (σ : St) (H G : Hp) (ι : List Addr) (Q : List V → Hp → Prop) : Res (List Val) → Prop
  | .ok xs S' => ∀ vs H' G' ι', Step H G ι H' G' ι' → GRel T H' S' G' ι' → VRels T σ H H' G' ι' vs xs → Q vs H'
  | .ex c fs S' => XPost T H G ι E c fs S'
  | .bad => False
def SndV (t : TA) (m : Rho → Hs → Res (List Val)) : Prop := ∀ (σ : St) (ρ : Rho) (H G : Hp) (ι : List Addr) (S : Hs) (Q : List V → Hp → Prop), GRel T H S G ι → SRel T σ ρ H G ι → PostV T E σ H G ι Q (m ρ S) → t σ H Q
end
section
variable {T : Tab} {E : XK} {ta tb tc : TE} {ma mb mc : Rho → Hs → Res Val}
theorem snd_var {G : Sg} (i : Nat) : Snd T E (tVar i) (ev G (.var i)) := by
  intro σ ρ H G ι S Q g s p
  try dsimp only at p
  unfold ev at p
  cases e : ρ[i]? with
  | none => rw [e] at p; exact p.elim
  | some sl =>
    rw [e] at p
    cases sl with
    | no => exact p.elim
    | ini c l => exact p.elim
    | va x =>
      obtain ⟨v, e1, r⟩ := s.va i x e
      exact ⟨v, e1, p v H G ι (Step.refl _ _ _) g r⟩
    | ac l =>
      obtain ⟨a, vs, e1, _⟩ := s.ac i l e
      exact ⟨.ref a, e1, p (.ref a) H G ι (Step.refl _ _ _) g e1⟩
theorem snd_c {v : V} {d : D} {m : Rho → Hs → Res Val} (hm : ∀ ρ S, m ρ S = .ok (.d d) S) (r : ∀ G ι, Rep T G ι v d) : Snd T E (tC v) m := by
  intro σ ρ H G ι S Q g s p
  try dsimp only at p
  rw [hm] at p
  exact p v H G ι (Step.refl _ _ _) g (r G ι)
/-- two parts, then an operation on values -/
theorem snd_two {r : R2} {f : Rho → Val → Val → Hs → Res Val} (ha : Snd T E ta ma) (hb : Snd T E tb mb)
    (k : ∀ (σ : St) (ρ : Rho) (H0 H1 H G : Hp) (ι : List Addr) (S : Hs) (Q : VK) (x y : V) (v u : Val), GRel T H S G ι → SRel T σ ρ H G ι → VRel T σ H0 H G ι x v → VRel T σ H1 H G ι y u → Post T σ H G ι Q E (f ρ v u S) → r x y H Q) :
    Snd T E (tOp r ta tb) fun ρ S => (ma ρ S).bind fun v S => (mb ρ S).bind fun u S => f ρ v u S := by
  intro σ ρ H G ι S Q g s p
  try dsimp only at p
  refine ha σ ρ H G ι S _ g s ?_
  cases ea : ma ρ S with
  | bad => rw [ea] at p; exact p.elim
  | ex c fs S' => rw [ea] at p; exact p
  | ok v S1 =>
    rw [ea] at p
    intro x H1 G1 ι1 st1 g1 vx
    refine hb σ ρ H1 G1 ι1 S1 _ g1 (s.step st1) ?_
    have p : Post T σ H G ι Q E ((mb ρ S1).bind fun u S => f ρ v u S) := p
    cases eb : mb ρ S1 with
    | bad => rw [eb] at p; exact p.elim
    | ex c fs S' => rw [eb] at p; exact XPost.mono st1 p
    | ok u S2 =>
      rw [eb] at p
      intro y H2 G2 ι2 st2 g2 vy
      exact k σ ρ H H1 H2 G2 ι2 S2 Q x y v u g2 ((s.step st1).step st2) (vx.step st2) vy (Post.mono (st1.trans st2) p)
theorem snd_one {r : V → Hp → VK → Prop} {f : Rho → Val → Hs → Res Val} (ha : Snd T E ta ma)
    (k : ∀ (σ : St) (ρ : Rho) (H0 H G : Hp) (ι : List Addr) (S : Hs) (Q : VK) (x : V) (v : Val), GRel T H S G ι → SRel T σ ρ H G ι → VRel T σ H0 H G ι x v → Post T σ H G ι Q E (f ρ v S) → r x H Q) :
    Snd T E (fun σ H Q => ta σ H fun x H1 => r x H1 Q) fun ρ S => (ma ρ S).bind fun v S => f ρ v S := by
  intro σ ρ H G ι S Q g s p
  try dsimp only at p
  refine ha σ ρ H G ι S _ g s ?_
  cases ea : ma ρ S with
  | bad => rw [ea] at p; exact p.elim
  | ex c fs S' => rw [ea] at p; exact p
  | ok v S1 =>
    rw [ea] at p
    intro x H1 G1 ι1 st1 g1 vx
    exact k σ ρ H H1 G1 ι1 S1 Q x v g1 (s.step st1) vx (Post.mono st1 p)
/-- a part whose value is a bool, then one of two -/
theorem snd_if {m : Rho → Hs → Res Val} {tt : TT} (ht : SndT T E tt m) (ha : Snd T E ta ma) (hb : Snd T E tb mb) :
    Snd T E (tIf tt ta tb) fun ρ S => (m ρ S).bind fun x S => match x with
      | .d (.bl true) => ma ρ S
      | .d (.bl false) => mb ρ S
      | _ => .bad := by
  intro σ ρ H G ι S Q g s p
  try dsimp only at p
  refine ht σ ρ H G ι S _ g s ?_
  cases ea : m ρ S with
  | bad => rw [ea] at p; exact p.elim
  | ex c fs S' => rw [ea] at p; exact p
  | ok v S1 =>
    rw [ea] at p
    cases v with
    | d x =>
      cases x with
      | bl b =>
        intro H1 G1 ι1 st1 g1
        cases b with
        | true => exact ha σ ρ H1 G1 ι1 S1 Q g1 (s.step st1) (Post.mono st1 p)
        | false => exact hb σ ρ H1 G1 ι1 S1 Q g1 (s.step st1) (Post.mono st1 p)
      | _ => exact p.elim
    | _ => exact p.elim
/-- a bool as a test -/
theorem sndT_val (ha : Snd T E ta ma) : SndT T E (tB ta) ma := by
  intro σ ρ H G ι S Q g s p
  try dsimp only at p
  refine ha σ ρ H G ι S _ g s ?_
  cases ea : ma ρ S with
  | bad => rw [ea] at p; exact p.elim
  | ex c fs S' => rw [ea] at p; exact p
  | ok v S1 =>
    rw [ea] at p
    cases v with
    | d x =>
      cases x with
      | bl b =>
        intro y H1 G1 ι1 st1 g1 vy
        cases vy with
        | bl => exact ⟨b, rfl, p H1 G1 ι1 st1 g1⟩
      | _ => exact p.elim
    | _ => exact p.elim
theorem PostB.mono {H G H1 G1 : Hp} {ι ι1 : List Addr} {Q : Bool → Hp → Prop} {r : Res Val} (t : Step H G ι H1 G1 ι1) (h : PostB T E H G ι Q r) : PostB T E H1 G1 ι1 Q r := by
  cases r with
  | ok v S' =>
    cases v with
    | d x =>
      cases x with
      | bl b => exact fun H' G' ι' u g => h H' G' ι' (t.trans u) g
      | _ => exact h.elim
    | _ => exact h.elim
  | ex c fs S' => exact XPost.mono t h
  | bad => exact h
theorem sndT_and {t u : TT} (ha : SndT T E t ma) (hb : SndT T E u mb) : SndT T E (tAnd t u) fun ρ S => (ma ρ S).bind fun x S => match x with
    | .d (.bl true) => mb ρ S
    | .d (.bl false) => .ok (.d (.bl false)) S
    | _ => .bad := by
  intro σ ρ H G ι S Q g s p
  try dsimp only at p
  refine ha σ ρ H G ι S _ g s ?_
  cases ea : ma ρ S with
  | bad => rw [ea] at p; exact p.elim
  | ex c fs S' => rw [ea] at p; exact p
  | ok v S1 =>
    rw [ea] at p
    cases v with
    | d x =>
      cases x with
      | bl b =>
        intro H1 G1 ι1 st1 g1
        cases b with
        | true => exact hb σ ρ H1 G1 ι1 S1 Q g1 (s.step st1) (PostB.mono st1 p)
        | false => exact p H1 G1 ι1 st1 g1
      | _ => exact p.elim
    | _ => exact p.elim
theorem sndT_or {t u : TT} (ha : SndT T E t ma) (hb : SndT T E u mb) : SndT T E (tOr t u) fun ρ S => (ma ρ S).bind fun x S => match x with
    | .d (.bl false) => mb ρ S
    | .d (.bl true) => .ok (.d (.bl true)) S
    | _ => .bad := by
  intro σ ρ H G ι S Q g s p
  try dsimp only at p
  refine ha σ ρ H G ι S _ g s ?_
  cases ea : ma ρ S with
  | bad => rw [ea] at p; exact p.elim
  | ex c fs S' => rw [ea] at p; exact p
  | ok v S1 =>
    rw [ea] at p
    cases v with
    | d x =>
      cases x with
      | bl b =>
        intro H1 G1 ι1 st1 g1
        cases b with
        | true => exact p H1 G1 ι1 st1 g1
        | false => exact hb σ ρ H1 G1 ι1 S1 Q g1 (s.step st1) (PostB.mono st1 p)
      | _ => exact p.elim
    | _ => exact p.elim
theorem sndT_not {t : TT} (ha : SndT T E t ma) : SndT T E (tNot t) fun ρ S => (ma ρ S).bind fun x S => match x with
    | .d (.bl b) => .ok (.d (.bl (!b))) S
    | _ => .bad := by
  intro σ ρ H G ι S Q g s p
  try dsimp only at p
  refine ha σ ρ H G ι S _ g s ?_
  cases ea : ma ρ S with
  | bad => rw [ea] at p; exact p.elim
  | ex c fs S' => rw [ea] at p; exact p
  | ok v S1 =>
    rw [ea] at p
    cases v with
    | d x =>
      cases x with
      | bl b => exact fun H1 G1 ι1 st1 g1 => p H1 G1 ι1 st1 g1
      | _ => exact p.elim
    | _ => exact p.elim
/-- and, or, not as values -/
theorem snd_and (ha : Snd T E ta ma) (hb : Snd T E tb mb) : Snd T E (tAndV ta tb) fun ρ S => (ma ρ S).bind fun x S => match x with
    | .d (.bl true) => mb ρ S
    | .d (.bl false) => .ok (.d (.bl false)) S
    | _ => .bad := by
  intro σ ρ H G ι S Q g s p
  try dsimp only at p
  refine ha σ ρ H G ι S _ g s ?_
  cases ea : ma ρ S with
  | bad => rw [ea] at p; exact p.elim
  | ex c fs S' => rw [ea] at p; exact p
  | ok v S1 =>
    rw [ea] at p
    cases v with
    | d x =>
      cases x with
      | bl b =>
        intro y H1 G1 ι1 st1 g1 vy
        cases vy with
        | bl =>
          refine ⟨b, rfl, ?_⟩
          cases b with
          | true => exact hb σ ρ H1 G1 ι1 S1 Q g1 (s.step st1) (Post.mono st1 p)
          | false => exact p _ H1 G1 ι1 st1 g1 (.bl false)
      | _ => exact p.elim
    | _ => exact p.elim
theorem snd_or (ha : Snd T E ta ma) (hb : Snd T E tb mb) : Snd T E (tOrV ta tb) fun ρ S => (ma ρ S).bind fun x S => match x with
    | .d (.bl false) => mb ρ S
    | .d (.bl true) => .ok (.d (.bl true)) S
    | _ => .bad := by
  intro σ ρ H G ι S Q g s p
  try dsimp only at p
  refine ha σ ρ H G ι S _ g s ?_
  cases ea : ma ρ S with
  | bad => rw [ea] at p; exact p.elim
  | ex c fs S' => rw [ea] at p; exact p
  | ok v S1 =>
    rw [ea] at p
    cases v with
    | d x =>
      cases x with
      | bl b =>
        intro y H1 G1 ι1 st1 g1 vy
        cases vy with
        | bl =>
          refine ⟨b, rfl, ?_⟩
          cases b with
          | true => exact p _ H1 G1 ι1 st1 g1 (.bl true)
          | false => exact hb σ ρ H1 G1 ι1 S1 Q g1 (s.step st1) (Post.mono st1 p)
      | _ => exact p.elim
    | _ => exact p.elim
theorem snd_not (ha : Snd T E ta ma) : Snd T E (tNotV ta) fun ρ S => (ma ρ S).bind fun x S => match x with
    | .d (.bl b) => .ok (.d (.bl (!b))) S
    | _ => .bad := by
  intro σ ρ H G ι S Q g s p
  try dsimp only at p
  refine ha σ ρ H G ι S _ g s ?_
  cases ea : ma ρ S with
  | bad => rw [ea] at p; exact p.elim
  | ex c fs S' => rw [ea] at p; exact p
  | ok v S1 =>
    rw [ea] at p
    cases v with
    | d x =>
      cases x with
      | bl b =>
        intro y H1 G1 ι1 st1 g1 vy
        cases vy with
        | bl => exact ⟨b, rfl, p _ H1 G1 ι1 st1 g1 (.bl (!b))⟩
      | _ => exact p.elim
    | _ => exact p.elim
/-! ### arguments -/
theorem sndA_nil {G : Sg} : SndA T E tNil (evs G .nil) := fun _ _ H G ι _ _ g _ p => p [] H G ι (Step.refl _ _ _) g .nil
theorem sndA_cons {t : TA} {ms : Rho → Hs → Res (List D)} (ha : Snd T E ta ma) (hr : SndA T E t ms) : SndA T E (tCons ta t) fun ρ S => (ma ρ S).bind fun x S => match x.toD with
    | some x => (ms ρ S).bind fun xs S => .ok (x :: xs) S
    | none => .bad := by
  intro σ ρ H G ι S Q g s p
  try dsimp only at p
  refine ha σ ρ H G ι S _ g s ?_
  cases ea : ma ρ S with
  | bad => rw [ea] at p; exact p.elim
  | ex c fs S' => rw [ea] at p; exact p
  | ok v S1 =>
    rw [ea] at p
    intro x H1 G1 ι1 st1 g1 vx
    have p : PostA T E H G ι Q (match v.toD with
      | some x => (ms ρ S1).bind fun xs S => .ok (x :: xs) S
      | none => .bad) := p
    cases ed : v.toD with
    | none => rw [ed] at p; exact p.elim
    | some d =>
      rw [ed] at p
      obtain ⟨G1', st1', g1', _, rx⟩ := toD_rel st1 g1 vx ed
      refine hr σ ρ H1 G1' ι1 S1 _ g1' (s.step st1') ?_
      have p : PostA T E H G ι Q ((ms ρ S1).bind fun xs S => .ok (d :: xs) S) := p
      cases es : ms ρ S1 with
      | bad => rw [es] at p; exact p.elim
      | ex c fs S' => rw [es] at p; exact XPost.mono st1' p
      | ok ds S2 =>
        rw [es] at p
        exact fun vs H2 G2 ι2 st2 g2 rs => p _ H2 G2 ι2 (st1'.trans st2) g2 (.cons (rx.mono st2.ext st2.pre) rs)
theorem VRels.step {σ : St} {H0 H1 G1 H2 G2 : Hp} {ι1 ι2 : List Addr} {vs : List V} {xs : List Val} (h : VRels T σ H0 H1 G1 ι1 vs xs) (t : Step H1 G1 ι1 H2 G2 ι2) : VRels T σ H0 H2 G2 ι2 vs xs := by
  induction h with
  | nil => exact .nil
  | cons h _ ih => exact .cons (h.step t) ih
theorem VRels.back {σ : St} {H0 H1 H G : Hp} {ι : List Addr} {vs : List V} {xs : List Val} (h : VRels T σ H1 H G ι vs xs) (d : ∀ a, H1 a = none → H0 a = none) : VRels T σ H0 H G ι vs xs := by
  induction h with
  | nil => exact .nil
  | cons h _ ih => exact .cons (h.back d) ih
theorem sndV_nil {G : Sg} : SndV T E tNil (evv G .nil) := fun _ _ H G ι _ _ g _ p => p [] H G ι (Step.refl _ _ _) g .nil
theorem sndV_cons {t : TA} {ms : Rho → Hs → Res (List Val)} (ha : Snd T E ta ma) (hr : SndV T E t ms) : SndV T E (tCons ta t) fun ρ S => (ma ρ S).bind fun x S => (ms ρ S).bind fun xs S => .ok (x :: xs) S := by
  intro σ ρ H G ι S Q g s p
  try dsimp only at p
  refine ha σ ρ H G ι S _ g s ?_
  cases ea : ma ρ S with
  | bad => rw [ea] at p; exact p.elim
  | ex c fs S' => rw [ea] at p; exact p
  | ok v S1 =>
    rw [ea] at p
    intro x H1 G1 ι1 st1 g1 vx
    refine hr σ ρ H1 G1 ι1 S1 _ g1 (s.step st1) ?_
    have p : PostV T E σ H G ι Q ((ms ρ S1).bind fun xs S => .ok (v :: xs) S) := p
    cases es : ms ρ S1 with
    | bad => rw [es] at p; exact p.elim
    | ex c fs S' => rw [es] at p; exact XPost.mono st1 p
    | ok ds S2 =>
      rw [es] at p
      exact fun vs H2 G2 ι2 st2 g2 rs => p _ H2 G2 ι2 (st1.trans st2) g2 (.cons (vx.step st2) (rs.back st1.dom))
/-! ### displays -/
theorem snd_tup {t : TA} {ms : Rho → Hs → Res (List D)} (hr : SndA T E t ms) (n : Nat) (hn : n ≤ 1000) (hl : ∀ ρ S ds S', ms ρ S = .ok ds S' → ds.length = n) : Snd T E (tTup t) fun ρ S => (ms ρ S).bind fun ds S => .ok (.d (.tup ds)) S := by
  intro σ ρ H G ι S Q g s p
  try dsimp only at p
  refine hr σ ρ H G ι S _ g s ?_
  cases es : ms ρ S with
  | bad => rw [es] at p; exact p.elim
  | ex c fs S' => rw [es] at p; exact p
  | ok ds S1 =>
    rw [es] at p
    intro vs H1 G1 ι1 st1 g1 rs
    have hz : vs.length ≤ sizeLine := by rw [rs.length, hl ρ S ds S1 es]; exact Nat.le_of_lt (small1000 hn)
    refine ⟨hz, fun q hq => ?_⟩
    exact p _ _ _ _ (st1.trans (Step.new (o := .tup vs) hq g1.sub)) (g1.new hq) (.tup (SqT.of upd_same) hz (rs.mono (le_upd (g1.sub.none hq)) (Pre.refl _)))
theorem snd_lst {t : TA} {ms : Rho → Hs → Res (List D)} (hr : SndA T E t ms) (n : Nat) (hn : n ≤ 1000) (hl : ∀ ρ S ds S', ms ρ S = .ok ds S' → ds.length = n) : Snd T E (tLst t) fun ρ S => (ms ρ S).bind fun ds S => .ok (.fr ds) S := by
  intro σ ρ H G ι S Q g s p
  try dsimp only at p
  refine hr σ ρ H G ι S _ g s ?_
  cases es : ms ρ S with
  | bad => rw [es] at p; exact p.elim
  | ex c fs S' => rw [es] at p; exact p
  | ok ds S1 =>
    rw [es] at p
    intro vs H1 G1 ι1 st1 g1 rs
    have hz : vs.length ≤ sizeLine := by rw [rs.length, hl ρ S ds S1 es]; exact Nat.le_of_lt (small1000 hn)
    refine ⟨hz, fun q hq => ?_⟩
    refine p _ _ _ _ (st1.trans (Step.open' (G := G1) (ι := ι1) (o := .lst vs) hq)) (g1.open' hq) ⟨q, vs, rfl, upd_same, hz, rs, g1.sub.none hq, fun hm => g1.mem hm hq, st1.dom q hq⟩
end
end Sf
end
section
set_option linter.all false
set_option maxRecDepth 100000
set_option maxHeartbeats 1000000
/-! Sf.Ops: operators, comparisons, subscripts, built-ins, by values. -/
namespace Sf
open PySem L2
section
variable {T : Tab} {E : XK} {σ : St} {ρ : Rho} {H H0 H1 G : Hp} {ι : List Addr} {S : Hs} {Q : VK} {v u : V} {x y : Val}
/-- the end of a reading: data that stands -/
theorem Post.fin {d : D} (p : Post T σ H G ι Q E (.ok (.d d) S)) (g : GRel T H S G ι) (r : Rep T G ι v d) : Q v H := p v H G ι (Step.refl _ _ _) g r
theorem Post.fin_tup {ds : List D} {vs : List V} (p : Post T σ H G ι Q E (.ok (.d (.tup ds)) S)) (g : GRel T H S G ι) (hz : vs.length ≤ sizeLine) (r : Reps T G ι vs ds) {q : Addr} (hq : H q = none) : Q (.ref q) (upd H q (.tup vs)) :=
  p _ _ _ _ (Step.new (o := .tup vs) hq g.sub) (g.new hq) (.tup (SqT.of upd_same) hz (r.mono (le_upd (g.sub.none hq)) (Pre.refl _)))
theorem Post.fin_lst {ds : List D} {vs : List V} (p : Post T σ H G ι Q E (.ok (.fr ds) S)) (g : GRel T H S G ι) (hz : vs.length ≤ sizeLine) (r : Reps T G ι vs ds) {q : Addr} (hq : H q = none) : Q (.ref q) (upd H q (.lst vs)) :=
  p _ _ _ _ (Step.open' (o := .lst vs) hq) (g.open' hq) ⟨q, vs, rfl, upd_same, hz, r, g.sub.none hq, fun hm => g.mem hm hq, hq⟩
/-- the items of a list value -/
theorem contL_rel {l : List D} (g : GRel T H S G ι) (s : SRel T σ ρ H G ι) (h : VRel T σ H0 H G ι v x) (e : contL ρ S x = some l) : ∃ a vs, v = .ref a ∧ H a = some (.lst vs) ∧ vs.length ≤ sizeLine ∧ Reps T G ι vs l := by
  cases x with
  | d y =>
    cases h with
    | lst h1 h2 h3 => cases e; exact ⟨_, _, rfl, g.sub _ _ h1, h2, h3⟩
    | loc h1 =>
      obtain ⟨a, vs, e1, e2, e3, e4⟩ := g.cell _ _ e
      rw [h1] at e1; cases e1
      exact ⟨_, vs, rfl, e2, e3, e4⟩
    | _ => cases e
  | fr k =>
    cases e
    obtain ⟨a, vs, rfl, e1, e2, e3, _⟩ := h
    exact ⟨a, vs, rfl, e1, e2, e3⟩
  | ow i =>
    have e : (match ρ[i]? with
      | some (.ac l) => some l
      | _ => none) = some l := e
    cases er : ρ[i]? with
    | none => rw [er] at e; cases e
    | some sl =>
      rw [er] at e
      cases sl with
      | ac k =>
        cases e
        obtain ⟨a, vs, e1, e2, e3, e4, _⟩ := s.ac i _ er
        have h : σ[i]? = some (some v) := h
        rw [e1] at h; cases h
        exact ⟨a, vs, rfl, e2, e3, e4⟩
      | _ => cases e
theorem contT_rel {l : List D} (g : GRel T H S G ι) (h : VRel T σ H0 H G ι v x) (e : contT x = some l) : ∃ a vs, v = .ref a ∧ SqT T.K H a vs ∧ vs.length ≤ sizeLine ∧ Reps T G ι vs l := by
  cases x with
  | d y =>
    cases h with
    | tup h1 h2 h3 => cases e; exact ⟨_, _, rfl, le_t g.sub h1, h2, h3⟩
    | _ => cases e
  | _ => cases e
theorem cont_rel {l : List D} (g : GRel T H S G ι) (s : SRel T σ ρ H G ι) (h : VRel T σ H0 H G ι v x) (e : cont ρ S x = some l) : ∃ a vs, v = .ref a ∧ (SqL T.K H a vs ∨ SqT T.K H a vs) ∧ vs.length ≤ sizeLine ∧ Reps T G ι vs l := by
  unfold cont at e
  cases et : contT x with
  | some k =>
    rw [et] at e; cases e
    obtain ⟨a, vs, e1, e2, e3, e4⟩ := contT_rel g h et
    exact ⟨a, vs, e1, .inr e2, e3, e4⟩
  | none =>
    rw [et] at e
    obtain ⟨a, vs, e1, e2, e3, e4⟩ := contL_rel g s h e
    exact ⟨a, vs, e1, .inl (SqL.of e2), e3, e4⟩
/-! ### the binary operators -/
def CMulD (i j : Int) : Prop := mulOk i j = true
def CDivD (_ j : Int) : Prop := divOk j = true
theorem op_mulD {X : Cx} : OpR X (binaryOp .Mult) (rI CMulD fun i j => .int (i * j)) := opI fun i j _ _ _ _ _ hc q => PyProof.Rows.mul_int q (CMulW.ok (show CMulW i j from of_decide_eq_true (p := i.natAbs.log2 + j.natAbs.log2 < 1000000) hc))
theorem op_divD {X : Cx} : OpR X (binaryOp .FloorDiv) (rI CDivD fun i j => .int (i.fdiv j)) := opI fun i j _ _ _ _ _ hc q => by
  have hc : (decide (j ≠ 0) && decide (j.natAbs.log2 < 9000)) = true := hc
  rw [Bool.and_eq_true] at hc
  exact PyProof.Rows.floordiv_int (of_decide_eq_true hc.1) q (.inl (PyProof.noPylong_of_log2 (of_decide_eq_true hc.2)))
def rStrAdd : R2 := fun x y H Q => ∃ i j, x = .str i ∧ y = .str j ∧ i.length + j.length ≤ sizeLine ∧ Q (.str (i ++ j)) H
def rAddD (K : PySem.W.Frag) : R2 := fun x y H Q => ((rI0 (fun i j => .int (i + j)) x y H Q ∨ rStrAdd x y H Q) ∨ rCat x y H Q) ∨ rCatA K x y H Q
theorem op_addD {X : Cx} : OpR X (binaryOp .Add) (rAddD X.K) := ((op_add.or op_add_str).or op_cat).or op_catA
theorem big_line : big ≤ sizeLine := by rw [sizeLine_eq]; decide
def rStrMul : R2 := fun x y H Q => ∃ z n, x = .str z ∧ y = .int n ∧ (2 ≤ n ∧ n ≤ 1000 ∧ 1 ≤ z.length ∧ z.length ≤ 1000) ∧ Q (.str ⟨(List.replicate n.toNat z.cps).foldl (· ++ ·) #[]⟩) H
theorem op_strMul {X : Cx} : OpR X (binaryOp .Mult) rStrMul := by
  intro pins s σ H x y v u Q I rx ry h
  obtain ⟨z, n, rfl, rfl, ⟨h1, h2, h3, h4⟩, q⟩ := h
  obtain ⟨t, rfl⟩ := rx
  obtain ⟨t2, rfl⟩ := ry
  have hn : (n == 1) = false := by rw [beq_eq_false_iff_ne]; omega
  have hz : (z.length == 0) = false := by rw [beq_eq_false_iff_ne]; omega
  have hq : (9223372036854775807 : Int) / n ≥ 9223372036854775 := by
    rw [ge_iff_le, Int.le_ediv_iff_mul_le (by omega)]; omega
  refine PySem.P.mul_str ?_ (fun _ _ => ?_) (fun _ _ => ?_) ?_
  · rw [decide_eq_false (by omega), decide_eq_false (by omega)]; rfl
  · have e : ((2 : Int) ^ 63 - 1) = 9223372036854775807 := by decide
    rw [e]; omega
  · have hm : z.length * n.toNat ≤ 1000 * 1000 := Nat.mul_le_mul h4 (by omega)
    unfold PySem.Builtin.Str.tooLong
    rw [decide_eq_false_iff_not, sizeLine_eq]
    omega
  · rw [if_neg (by omega), hn, hz]
    refine ⟨?_, ⟨.str _, H, I.tok _, ⟨_, rfl⟩, q⟩⟩
    have hl : ∀ (m : Nat) (acc : Array Nat), ((List.replicate m z.cps).foldl (· ++ ·) acc).size = acc.size + m * z.cps.size := by
      intro m
      induction m with
      | zero => intro acc; simp
      | succ m ih =>
        intro acc
        rw [List.replicate_succ, List.foldl_cons, ih, Array.size_append, Nat.succ_mul]
        omega
    have e := hl n.toNat #[]
    show ((List.replicate n.toNat z.cps).foldl (· ++ ·) #[]).size ≤ sizeLine
    rw [e, sizeLine_eq]
    have hm : n.toNat * z.length ≤ 1000 * 1000 := Nat.mul_le_mul (by omega) h4
    have : n.toNat * z.cps.size ≤ 1000 * 1000 := hm
    simp only [List.size_toArray, List.length_nil]
    omega
def rMulD : R2 := fun x y H Q => rI CMulD (fun i j => .int (i * j)) x y H Q ∨ rStrMul x y H Q
theorem op_mulS {X : Cx} : OpR X (binaryOp .Mult) rMulD := op_mulD.or op_strMul
def binR (K : PySem.W.Frag) : Operator → R2
  | .Add => rAddD K
  | .Sub => rI0 fun i j => .int (i - j)
  | .Mult => rMulD
  | .FloorDiv => rI CDivD fun i j => .int (i.fdiv j)
  | .Mod => rI (fun _ j => j ≠ 0) fun i j => .int (i.fmod j)
  | .Pow => rI CPow fun i j => .int (i ^ j.toNat)
  | _ => fun _ _ _ _ => False
theorem op_binD {X : Cx} (op : Operator) : OpR X (binaryOp op) (binR X.K op) := by
  cases op
  case Add => exact op_addD
  case Sub => exact op_sub
  case Mult => exact op_mulS
  case FloorDiv => exact op_divD
  case Mod => exact op_modN
  case Pow => exact op_pow
  all_goals exact fun _ _ _ _ _ _ _ _ _ _ _ _ h => h.elim
theorem add_lists (g : GRel T H S G ι) (s : SRel T σ ρ H G ι) (hx : VRel T σ H0 H G ι v x) (hy : VRel T σ H1 H G ι u y)
    (p : Post T σ H G ι Q E (Res.of (match contL ρ S x, contL ρ S y with
      | some x, some y => if x.length + y.length ≤ big then some (.fr (x ++ y)) else none
      | _, _ => none) S)) : rAddD T.K v u H Q := by
  cases ex : contL ρ S x with
  | none => rw [ex] at p; exact p.elim
  | some l =>
    cases ey : contL ρ S y with
    | none => rw [ex, ey] at p; exact p.elim
    | some k =>
      rw [ex, ey] at p
      dsimp only at p
      by_cases hb : l.length + k.length ≤ big
      · rw [if_pos hb] at p
        obtain ⟨a, vs, rfl, e2, e3, e4⟩ := contL_rel g s hx ex
        obtain ⟨b, ws, rfl, f2, f3, f4⟩ := contL_rel g s hy ey
        have hz : vs.length + ws.length ≤ sizeLine := by rw [e4.length, f4.length]; exact Nat.le_trans hb big_line
        exact .inl (.inr ⟨a, b, vs, ws, rfl, rfl, e2, f2, hz, fun q hq => Post.fin_lst p g (by rw [List.length_append]; exact hz) (e4.append f4) hq⟩)
      · rw [if_neg hb] at p; exact p.elim
theorem bin_ok (op : Operator) (g : GRel T H S G ι) (s : SRel T σ ρ H G ι) (hx : VRel T σ H0 H G ι v x) (hy : VRel T σ H1 H G ι u y) (p : Post T σ H G ι Q E (Res.of (binV op ρ S x y) S)) : binR T.K op v u H Q := by
  unfold binV at p
  split at p
  · cases hx; cases hy
    exact .inl (.inl (.inl ⟨_, _, rfl, rfl, Post.fin p g (.int _)⟩))
  · cases hx; cases hy
    exact ⟨_, _, rfl, rfl, Post.fin p g (.int _)⟩
  · cases hx; cases hy
    split at p
    · rename_i h
      exact .inl ⟨_, _, rfl, rfl, h, Post.fin p g (.int _)⟩
    · exact p.elim
  · cases hx; cases hy
    split at p
    · rename_i h
      exact ⟨_, _, rfl, rfl, h, Post.fin p g (.int _)⟩
    · exact p.elim
  · cases hx; cases hy
    split at p
    · rename_i h
      exact ⟨_, _, rfl, rfl, h, Post.fin p g (.int _)⟩
    · exact p.elim
  · cases hx; cases hy
    split at p
    · rename_i h
      exact ⟨_, _, rfl, rfl, h, Post.fin p g (.int _)⟩
    · exact p.elim
  · cases hx; cases hy
    split at p
    · rename_i h
      exact .inr ⟨_, _, rfl, rfl, h, Post.fin p g (.str _)⟩
    · exact p.elim
  · cases hx; cases hy
    split at p
    · rename_i h
      exact .inl (.inl (.inr ⟨_, _, rfl, rfl, Nat.le_trans h big_line, Post.fin p g (.str _)⟩))
    · exact p.elim
  · rename_i l k
    split at p
    · rename_i h
      obtain ⟨a, vs, rfl, e2, e3, e4⟩ := contT_rel (l := l) g hx rfl
      obtain ⟨b, ws, rfl, f2, f3, f4⟩ := contT_rel (l := k) g hy rfl
      have hz : vs.length + ws.length ≤ sizeLine := by rw [e4.length, f4.length]; exact Nat.le_trans h big_line
      refine .inr ⟨a, b, vs, ws, rfl, rfl, e2, f2, hz, fun z => ?_, fun z w => ?_, fun _ _ q hq => Post.fin_tup p g (by rw [List.length_append]; exact hz) (e4.append f4) hq⟩
      · subst z
        cases e4
        exact Post.fin p g hy
      · subst w
        cases f4
        rw [List.append_nil] at p
        exact Post.fin p g hx
    · exact p.elim
  · exact add_lists g s hx hy p
  · exact p.elim
end
/-! ### == and in over data -/
def toPy : D → PyData
  | .non => .none
  | .bl b => .bool b
  | .int i => .int i
  | .str x => .str x
  | .tup l => .tuple (l.attach.map fun ⟨d, _⟩ => toPy d)
  | .lst l => .list (l.attach.map fun ⟨d, _⟩ => toPy d)
  | _ => .none
theorem toPy_tup (l : List D) : toPy (.tup l) = .tuple (l.map toPy) := by
  rw [toPy]; simp
theorem toPy_lst (l : List D) : toPy (.lst l) = .list (l.map toPy) := by
  rw [toPy]; simp
section
variable {T : Tab} {G H : Hp} {ι : List Addr}
mutual
theorem dp_of (le : Le G H) : ∀ {n : Nat} {v : V} {d : D}, Rep T G ι v d → dOk n d = true → Dp T.K H v (toPy d)
  | _, _, _, .non, _ => by rw [toPy]; exact .non
  | _, _, _, .bl b, _ => by rw [toPy]; exact .bl b
  | _, _, _, .int i, _ => by rw [toPy]; exact .int i
  | _, _, _, .str x, _ => by rw [toPy]; exact .str x
  | 0, _, _, .tup h _ r, e => by cases e
  | n + 1, _, _, .tup h _ r, e => by rw [toPy_tup]; exact .tup (le_t le h) (dps_of le r e)
  | 0, _, _, .lst h _ r, e => by cases e
  | n + 1, _, _, .lst h _ r, e => by rw [toPy_lst]; exact .lst (SqL.of (le _ _ h)) (dps_of le r e)
  | 0, _, _, .scr .., e => by cases e
  | _ + 1, _, _, .scr .., e => by cases e
  | 0, _, _, .obj .., e => by cases e
  | _ + 1, _, _, .obj .., e => by cases e
  | 0, _, _, .loc .., e => by cases e
  | _ + 1, _, _, .loc .., e => by cases e
  | 0, _, _, .cls .., e => by cases e
  | _ + 1, _, _, .cls .., e => by cases e
theorem dps_of (le : Le G H) : ∀ {n : Nat} {vs : List V} {ds : List D}, Reps T G ι vs ds → ds.all (dOk n) = true → DpAll T.K H vs (ds.map toPy)
  | _, _, _, .nil, _ => .nil
  | _, _, _, .cons h r, e => by
    rw [List.all_cons, Bool.and_eq_true] at e
    exact .cons (dp_of le h e.1) (dps_of le r e.2)
end
end
mutual
theorem eqv_of : ∀ (n m : Nat) (a b : D), dOk n a = true → dOk m b = true → PyData.eqv (toPy a) (toPy b) = dEq a b
  | n, m, a, b, ha, hb => by
    cases a <;> cases b <;> (try (cases n <;> cases ha; done)) <;> (try (cases m <;> cases hb; done)) <;> (try simp only [toPy, toPy_tup, toPy_lst, PyData.eqv, dEq])
    case tup.tup l k =>
      cases n with
      | zero => cases ha
      | succ n =>
        cases m with
        | zero => cases hb
        | succ m => exact eqvs_of n m l k ha hb
    case lst.lst l k =>
      cases n with
      | zero => cases ha
      | succ n =>
        cases m with
        | zero => cases hb
        | succ m => exact eqvs_of n m l k ha hb
theorem eqvs_of : ∀ (n m : Nat) (a b : List D), a.all (dOk n) = true → b.all (dOk m) = true → PyData.eqvAll (a.map toPy) (b.map toPy) = dEqs a b
  | n, m, [], [], _, _ => by simp only [List.map_nil, PyData.eqvAll, dEqs]
  | n, m, [], _ :: _, _, _ => by simp only [List.map_nil, List.map_cons, PyData.eqvAll, dEqs]
  | n, m, _ :: _, [], _, _ => by simp only [List.map_nil, List.map_cons, PyData.eqvAll, dEqs]
  | n, m, x :: xs, y :: ys, ha, hb => by
    rw [List.all_cons, Bool.and_eq_true] at ha hb
    simp only [List.map_cons, PyData.eqvAll, dEqs]
    rw [eqv_of n m x y ha.1 hb.1, eqvs_of n m xs ys ha.2 hb.2]
end
mutual
theorem lay_of : ∀ (n : Nat) (a : D), dOk n a = true → (toPy a).canLay0 = true ∧ (toPy a).depth ≤ n
  | n, a, ha => by
    cases a <;> (try (cases n <;> cases ha; done)) <;> (try (refine ⟨?_, ?_⟩ <;> simp [toPy, PyData.canLay0, PyData.depth]; done))
    case str x =>
      have ha : PyData.strOk x = true := by cases n <;> exact ha
      refine ⟨by simpa [toPy, PyData.canLay0] using ha, by simp [toPy, PyData.depth]⟩
    case tup l =>
      cases n with
      | zero => cases ha
      | succ n =>
        obtain ⟨h1, h2⟩ := lays_of n l ha
        rw [toPy_tup]
        exact ⟨by simpa [PyData.canLay0] using h1, by simp only [PyData.depth]; omega⟩
    case lst l =>
      cases n with
      | zero => cases ha
      | succ n =>
        obtain ⟨h1, h2⟩ := lays_of n l ha
        rw [toPy_lst]
        exact ⟨by simpa [PyData.canLay0] using h1, by simp only [PyData.depth]; omega⟩
theorem lays_of : ∀ (n : Nat) (a : List D), a.all (dOk n) = true → PyData.canLayAll0 (a.map toPy) = true ∧ PyData.depthAll (a.map toPy) ≤ n
  | n, [], _ => by simp [PyData.canLayAll0, PyData.depthAll]
  | n, x :: xs, ha => by
    rw [List.all_cons, Bool.and_eq_true] at ha
    obtain ⟨h1, h2⟩ := lay_of n x ha.1
    obtain ⟨h3, h4⟩ := lays_of n xs ha.2
    simp only [List.map_cons, PyData.canLayAll0, PyData.depthAll]
    exact ⟨by rw [h1, h3]; rfl, Nat.max_le.mpr ⟨h2, h4⟩⟩
end
theorem shaped_of {n : Nat} {a : D} (hn : n ≤ 64) (h : dOk n a = true) : SeqAt.shaped (toPy a) = true := by
  obtain ⟨h1, h2⟩ := lay_of n a h
  unfold SeqAt.shaped
  rw [h1, decide_eq_true (Nat.le_trans h2 hn)]; rfl
end Sf
end
section
set_option linter.all false
set_option maxRecDepth 100000
set_option maxHeartbeats 1000000
/-! Sf.Ops2: comparisons, subscripts, built-ins, by values. -/
namespace Sf
open PySem L2
section
variable {T : Tab} {E : XK} {σ : St} {ρ : Rho} {H H0 H1 G : Hp} {ι : List Addr} {S : Hs} {Q : VK} {v u : V} {x y : Val}
theorem toE_dp {d : D} {n : Nat} (g : GRel T H S G ι) (s : SRel T σ ρ H G ι) (h : VRel T σ H0 H G ι v x) (e : x.toE ρ S = some d) (ok : dOk n d = true) : Dp T.K H v (toPy d) := by
  unfold Val.toE at e
  cases ec : contL ρ S x with
  | some l =>
    rw [ec] at e; cases e
    obtain ⟨a, vs, rfl, e1, _, r⟩ := contL_rel g s h ec
    cases n with
    | zero => cases ok
    | succ n => rw [toPy_lst]; exact .lst (SqL.of e1) (dps_of g.sub r ok)
  | none =>
    rw [ec] at e
    cases x with
    | d y => cases e; exact dp_of g.sub h ok
    | fr l => cases ec
    | ow i => cases e
theorem toE_lst {l : List D} (ec : contL ρ S x = some l) : x.toE ρ S = some (.lst l) := by
  unfold Val.toE
  rw [ec]
theorem deep_le : deep ≤ 64 := by decide
theorem eq_ok {b : Bool} (g : GRel T H S G ι) (s : SRel T σ ρ H G ι) (hx : VRel T σ H0 H G ι v x) (hy : VRel T σ H1 H G ι u y) (e : Sf.eqV ρ S x y = some b) :
    ∃ d k, Dp T.K H v d ∧ Dp T.K H u k ∧ SeqAt.shaped d = true ∧ SeqAt.shaped k = true ∧ PyData.eqv d k = b := by
  unfold Sf.eqV at e
  cases ex : x.toE ρ S with
  | none => rw [ex] at e; cases e
  | some d =>
    cases ey : y.toE ρ S with
    | none => rw [ex, ey] at e; cases e
    | some k =>
      rw [ex, ey] at e
      dsimp only at e
      by_cases h : (dOk deep d && dOk deep k) = true
      · rw [if_pos h] at e
        cases e
        rw [Bool.and_eq_true] at h
        exact ⟨_, _, toE_dp g s hx ex h.1, toE_dp g s hy ey h.2, shaped_of deep_le h.1, shaped_of deep_le h.2, eqv_of _ _ _ _ h.1 h.2⟩
      · rw [if_neg h] at e; cases e
theorem flat_ok {d : D} (h : Rep T G ι v d) (f : dFlat d = true) : flatV v = true := by
  cases h <;> first | rfl | cases f
theorem flats_ok : ∀ {vs : List V} {ds : List D}, Reps T G ι vs ds → ds.all dFlat = true → vs.all flatV = true
  | _, _, .nil, _ => rfl
  | _, _, .cons h r, e => by
    rw [List.all_cons, Bool.and_eq_true] at e ⊢
    exact ⟨flat_ok h e.1, flats_ok r e.2⟩
theorem eqF {a b : D} (ha : Rep T G ι v a) (hb : Rep T G ι u b) (fa : dFlat a = true) (fb : dFlat b = true) : L2.eqV v u = dEq a b := by
  cases ha <;> first | (cases fa; done) | (cases hb <;> first | (cases fb; done) | (simp [L2.eqV, dEq]; done) | rfl)
theorem inF {a : D} (ha : Rep T G ι u a) (fa : dFlat a = true) : ∀ {vs : List V} {ds : List D}, Reps T G ι vs ds → ds.all dFlat = true → L2.inV u vs = ds.any fun y => dEq y a
  | _, _, .nil, _ => rfl
  | _, _, .cons h r, e => by
    rw [List.all_cons, Bool.and_eq_true] at e
    have ih := inF ha fa r e.2
    unfold L2.inV at ih ⊢
    rw [List.any_cons, List.any_cons, ih, eqF h ha e.1 fa]
theorem any_py {n m : Nat} {d : D} (hd : dOk n d = true) : ∀ {l : List D}, l.all (dOk m) = true → ((l.map toPy).any fun z => PyData.eqv z (toPy d)) = l.any fun y => dEq y d
  | [], _ => rfl
  | a :: r, h => by
    rw [List.all_cons, Bool.and_eq_true] at h
    rw [List.map_cons, List.any_cons, List.any_cons, any_py hd h.2, eqv_of _ _ _ _ h.1 hd]
def inR (K : PySem.W.Frag) (neg : Bool) : R2 := fun x y H Q => (∃ d ds, Dp K H x d ∧ Dp K H y (.list ds) ∧ SeqAt.shaped d = true ∧ SeqAt.shaped (.list ds) = true ∧ Q (.bl (if neg then !(ds.any fun z => PyData.eqv z d) else ds.any fun z => PyData.eqv z d)) H) ∨ rIn K neg x y H Q
theorem op_inR {X : Cx} (hu : X.A.units + 65 < cLine) : OpR X (compareOp .In) (inR X.K false) := (op_inD hu).or op_in_seq
theorem op_notInR {X : Cx} (hu : X.A.units + 65 < cLine) : OpR X (compareOp .NotIn) (inR X.K true) := (op_notInD hu).or op_notIn_seq
theorem in_ok {neg b : Bool} (g : GRel T H S G ι) (s : SRel T σ ρ H G ι) (hx : VRel T σ H0 H G ι v x) (hy : VRel T σ H1 H G ι u y) (e : Sf.inV ρ S x y = some b) (q : Q (.bl (if neg then !b else b)) H) : inR T.K neg v u H Q := by
  unfold Sf.inV at e
  cases et : contT y with
  | some ys =>
    rw [et] at e
    cases x with
    | d d =>
      dsimp only at e
      by_cases h : (dFlat d && ys.all dFlat) = true
      · rw [if_pos h] at e
        cases e
        rw [Bool.and_eq_true] at h
        obtain ⟨a, vs, rfl, e2, e3, e4⟩ := contT_rel g hy et
        refine .inr ⟨a, vs, rfl, .inr e2, flat_ok hx h.1, flats_ok e4 h.2, ?_⟩
        rw [inF hx h.1 e4 h.2]
        exact q
      · rw [if_neg h] at e; cases e
    | _ => cases e
  | none =>
    rw [et] at e
    dsimp only at e
    cases ex : x.toE ρ S with
    | none => rw [ex] at e; cases e
    | some d =>
      cases ey : contL ρ S y with
      | none => rw [ex, ey] at e; cases e
      | some l =>
        rw [ex, ey] at e
        dsimp only at e
        by_cases h : (dOk deep d && l.all (dOk deep)) = true
        · rw [if_pos h] at e
          cases e
          rw [Bool.and_eq_true] at h
          have hl : dOk (deep + 1) (.lst l) = true := h.2
          have dl := toE_dp g s hy (toE_lst ey) hl
          have sl : SeqAt.shaped (toPy (.lst l)) = true := shaped_of (n := deep + 1) (by decide) hl
          rw [toPy_lst] at dl sl
          refine .inl ⟨toPy d, l.map toPy, toE_dp g s hx ex h.1, dl, shaped_of deep_le h.1, sl, ?_⟩
          rw [any_py h.1 h.2]
          exact q
        · rw [if_neg h] at e; cases e
def cmpR (K : PySem.W.Frag) : CmpOp → R2
  | .Eq => rEqD K
  | .NotEq => rNeD K
  | .In => inR K false
  | .NotIn => inR K true
  | .Lt => rI0 fun i j => .bl (decide (i < j))
  | .LtE => rI0 fun i j => .bl (decide (i ≤ j))
  | .Gt => rI0 fun i j => .bl (decide (j < i))
  | .GtE => rI0 fun i j => .bl (decide (j ≤ i))
  | _ => fun _ _ _ _ => False
theorem op_cmpD {X : Cx} {k : Nat} (hr : Room k X.A) (op : CmpOp) : OpR X (compareOp op) (cmpR X.K op) := by
  have h1 : X.A.units + 64 < cLine := hr.units
  have h2 : X.A.units + 65 < cLine := by have := hr.un; omega
  cases op
  case Eq => exact op_eqD h1
  case NotEq => exact op_neD h1
  case In => exact op_inR h2
  case NotIn => exact op_notInR h2
  case Lt => exact op_lt
  case LtE => exact op_le
  case Gt => exact op_gt
  case GtE => exact op_ge
  all_goals exact fun _ _ _ _ _ _ _ _ _ _ _ _ h => h.elim
theorem cmp_okQ (op : CmpOp) (g : GRel T H S G ι) (s : SRel T σ ρ H G ι) (hx : VRel T σ H0 H G ι v x) (hy : VRel T σ H1 H G ι u y) {b : Bool} (e : cmpV op ρ S x y = some b) (q : Q (.bl b) H) : cmpR T.K op v u H Q := by
  unfold cmpV at e
  split at e
  · obtain ⟨d, k, h1, h2, h3, h4, rfl⟩ := eq_ok g s hx hy e
    exact ⟨d, k, h1, h2, h3, h4, q⟩
  · rw [Option.map_eq_some_iff] at e
    obtain ⟨c, e, rfl⟩ := e
    obtain ⟨d, k, h1, h2, h3, h4, rfl⟩ := eq_ok g s hx hy e
    exact ⟨d, k, h1, h2, h3, h4, q⟩
  · exact in_ok (neg := false) g s hx hy e q
  · rw [Option.map_eq_some_iff] at e
    obtain ⟨c, e, rfl⟩ := e
    exact in_ok (neg := true) g s hx hy e q
  all_goals first
    | (split at e
       · cases hx; cases hy; cases e; exact ⟨_, _, rfl, rfl, q⟩
       · cases e)
    | cases e
theorem cmp_ok (op : CmpOp) (g : GRel T H S G ι) (s : SRel T σ ρ H G ι) (hx : VRel T σ H0 H G ι v x) (hy : VRel T σ H1 H G ι u y)
    (p : Post T σ H G ι Q E (Res.of ((cmpV op ρ S x y).map fun c => .d (.bl c)) S)) : cmpR T.K op v u H Q := by
  cases e : cmpV op ρ S x y with
  | none => rw [e] at p; exact p.elim
  | some b =>
    rw [e] at p
    exact cmp_okQ op g s hx hy e (Post.fin p g (.bl b))
/-! ### subscripts -/
def ixR (K : PySem.W.Frag) : R2 := fun x y H Q => (rIxL K x y H Q ∨ rIxT K x y H Q) ∨ rIxS x y H Q
theorem ix_D {X : Cx} : IxR X (ixR X.K) := by
  intro value slice pins s σ H x y v u Q I rx ry h hs
  rcases h with (h | h) | h
  · exact ix_list value slice pins s σ H x y v u Q I rx ry h hs
  · exact ix_tup value slice pins s σ H x y v u Q I rx ry h hs
  · exact ix_str value slice pins s σ H x y v u Q I rx ry h hs
theorem atI_rel {vs : List V} {l : List D} {i : Int} {d : D} (r : Reps T G ι vs l) (e : atI l i = some d) : ∃ w, atI vs i = some w ∧ Rep T G ι w d := by
  unfold atI at e ⊢
  rw [Option.bind_eq_some_iff] at e
  obtain ⟨j, e1, e2⟩ := e
  obtain ⟨w, e3, e4⟩ := r.get e2
  rw [r.length, e1]
  exact ⟨w, e3, e4⟩
theorem ix_ok (g : GRel T H S G ι) (s : SRel T σ ρ H G ι) (hx : VRel T σ H0 H G ι v x) (hy : VRel T σ H1 H G ι u y) (p : Post T σ H G ι Q E (Res.of (ixV ρ S x y) S)) : ixR T.K v u H Q := by
  unfold ixV at p
  split at p
  · rename_i i
    cases hy
    split at p
    · rename_i z
      cases hx
      by_cases hz : z.length ≤ big
      · rw [if_pos hz] at p
        cases ec : atI z.cps.toList i with
        | none => rw [ec] at p; exact p.elim
        | some c =>
          rw [ec] at p
          exact .inr ⟨z, i, c, rfl, rfl, Nat.le_trans hz big_line, ec, Post.fin p g (.str _)⟩
      · rw [if_neg hz] at p; exact p.elim
    · cases ec : cont ρ S x with
      | none => rw [ec] at p; exact p.elim
      | some l =>
        rw [ec] at p
        cases ed : atI l i with
        | none => dsimp only at p; rw [ed] at p; exact p.elim
        | some d =>
          dsimp only at p
          rw [ed] at p
          obtain ⟨a, vs, rfl, e2, e3, e4⟩ := cont_rel g s hx ec
          obtain ⟨w, e5, e6⟩ := atI_rel e4 ed
          have q : Q w H := Post.fin p g e6
          rcases e2 with e2 | e2
          · exact .inl (.inl ⟨a, vs, i, w, rfl, rfl, e2, e5, q⟩)
          · exact .inl (.inr ⟨a, vs, i, w, rfl, rfl, e2, e5, q⟩)
  · exact p.elim
/-! ### slices -/
theorem cut_rel {vs : List V} {l : List D} (lo hi : Option Int) (r : Reps T G ι vs l) : Reps T G ι (cutV vs lo hi) (cutD l lo hi) := by
  unfold cutV cutD
  rw [r.length]
  exact (r.drop _).take _
/-! ### built-ins -/
def bltR (K : PySem.W.Frag) : Bf → List V → Hp → VK → Prop
  | .len => fun xs H Q => ∃ x n, xs = [x] ∧ LenV K x H n ∧ Q (.int n) H
  | .int => fun xs H Q => (∃ i, xs = [.int i] ∧ Q (.int i) H) ∨ ∃ k, xs = [.bl k] ∧ Q (.int (if k then 1 else 0)) H
  | .abs => fun xs H Q => ∃ i, xs = [.int i] ∧ Q (.int (if i < 0 then -i else i)) H
  | .list => fun xs H Q => ∃ p ys, xs = [.ref p] ∧ (SqL K H p ys ∨ SqT K H p ys) ∧ ∀ l, H l = none → Q (.ref l) (upd H l (.lst ys))
  | .tuple => fun xs H Q => ∃ p ys, xs = [.ref p] ∧ ((SqL K H p ys ∧ ∀ l, H l = none → Q (.ref l) (upd H l (.tup ys))) ∨ (SqT K H p ys ∧ Q (.ref p) H))
  | .sum => rSum K
  | .all => rAll K
  | .any => rAny K
def bltN : Bf → String
  | .len => "len" | .int => "int" | .abs => "abs" | .list => "list" | .tuple => "tuple" | .sum => "sum" | .all => "all" | .any => "any"
/-- a type (true), or a function -/
def bltTy : Bf → Bool
  | .int => true | .list => true | .tuple => true | _ => false
theorem blt_fn {X : Cx} (hc : X.calm = true) {f : Bf} (h : bltTy f = false) : CallR X (.builtin (bltN f)) (bltR X.K f) := by
  cases f
  case len => exact call_len
  case abs => exact call_abs
  case sum => exact cr_sum hc
  case all => exact cr_all hc
  case any => exact cr_any hc
  all_goals cases h
theorem blt_ty {X : Cx} {f : Bf} (h : bltTy f = true) : CallR X (.type (bltN f)) (bltR X.K f) := by
  cases f
  case int => exact call_int1
  case list => exact call_list_of
  case tuple => exact call_tuple_of
  all_goals cases h
theorem ints_sq {a : Addr} {vs : List V} {l : List D} {is : List Int} (h : H a = some (.lst vs)) (r : Reps T G ι vs l) (e : intsD l = some is) : SqL T.K H a (is.map V.int) := by
  rw [← r.ints_of e]; exact SqL.of h
theorem bools_sq {a : Addr} {vs : List V} {l : List D} {is : List Bool} (h : H a = some (.lst vs)) (r : Reps T G ι vs l) (e : boolsD l = some is) : SqL T.K H a (is.map V.bl) := by
  rw [← r.bools_of e]; exact SqL.of h
theorem blt_ok (f : Bf) {vs : List V} {xs : List Val} (g : GRel T H S G ι) (s : SRel T σ ρ H G ι) (hx : VRels T σ H0 H G ι vs xs) (p : Post T σ H G ι Q E (Res.of (bltV f ρ S xs) S)) : bltR T.K f vs H Q := by
  unfold bltV at p
  split at p
  · cases hx with
    | cons h r =>
      cases r; cases h
      split at p
      · rename_i hz
        exact ⟨_, _, rfl, ⟨Nat.le_trans hz big_line, rfl⟩, Post.fin p g (.int _)⟩
      · exact p.elim
  · rename_i v _
    cases hx with
    | cons h r =>
      cases r
      cases ec : cont ρ S v with
      | none => rw [ec] at p; exact p.elim
      | some l =>
        rw [ec] at p
        obtain ⟨a, vs, rfl, e2, e3, e4⟩ := cont_rel g s h ec
        have q : Q (.int (vs.length : Nat)) H := by rw [e4.length]; exact Post.fin p g (.int _)
        rcases e2 with e2 | e2
        · exact ⟨_, vs.length, rfl, .inl ⟨vs, e2, rfl⟩, q⟩
        · exact ⟨_, vs.length, rfl, .inr ⟨vs, e2, rfl⟩, q⟩
  · cases hx with
    | cons h r => cases r; cases h; exact .inl ⟨_, rfl, Post.fin p g (.int _)⟩
  · cases hx with
    | cons h r => cases r; cases h; exact .inr ⟨_, rfl, Post.fin p g (.int _)⟩
  · cases hx with
    | cons h r => cases r; cases h; exact ⟨_, rfl, Post.fin p g (.int _)⟩
  · cases hx with
    | cons h r =>
      cases r
      cases h with
      | scr h1 h2 h3 => exact ⟨_, _, rfl, .inl (le_l g.sub h1), fun q hq => Post.fin_lst p g h2 h3 hq⟩
  · rename_i v _
    cases hx with
    | cons h r =>
      cases r
      cases ec : cont ρ S v with
      | none => rw [ec] at p; exact p.elim
      | some l =>
        rw [ec] at p
        obtain ⟨a, vs, rfl, e2, e3, e4⟩ := cont_rel g s h ec
        exact ⟨a, vs, rfl, e2, fun q hq => Post.fin_lst p g e3 e4 hq⟩
  · cases hx with
    | cons h r =>
      cases r
      obtain ⟨a, vs, rfl, e2, e3, e4⟩ := contT_rel g h rfl
      exact ⟨a, vs, rfl, .inr ⟨e2, Post.fin p g h⟩⟩
  · rename_i v _
    cases hx with
    | cons h r =>
      cases r
      cases ec : contL ρ S v with
      | none => rw [ec] at p; exact p.elim
      | some l =>
        rw [ec] at p
        obtain ⟨a, vs, rfl, e2, e3, e4⟩ := contL_rel g s h ec
        exact ⟨a, vs, rfl, .inl ⟨SqL.of e2, fun q hq => Post.fin_tup p g e3 e4 hq⟩⟩
  · rename_i v
    cases hx with
    | cons h r =>
      cases r
      cases ec : contL ρ S v with
      | none => rw [ec] at p; exact p.elim
      | some l =>
        rw [ec] at p
        dsimp only [Option.bind] at p
        cases ei : intsD l with
        | none => rw [ei] at p; exact p.elim
        | some is =>
          rw [ei] at p
          obtain ⟨a, vs, rfl, e2, e3, e4⟩ := contL_rel g s h ec
          exact ⟨a, is, rfl, ints_sq e2 e4 ei, Post.fin p g (.int _)⟩
  · rename_i v
    cases hx with
    | cons h r =>
      cases r
      cases ec : contL ρ S v with
      | none => rw [ec] at p; exact p.elim
      | some l =>
        rw [ec] at p
        dsimp only [Option.bind] at p
        cases ei : boolsD l with
        | none => rw [ei] at p; exact p.elim
        | some is =>
          rw [ei] at p
          obtain ⟨a, vs, rfl, e2, e3, e4⟩ := contL_rel g s h ec
          exact ⟨a, is, rfl, bools_sq e2 e4 ei, Post.fin p g (.bl _)⟩
  · rename_i v
    cases hx with
    | cons h r =>
      cases r
      cases ec : contL ρ S v with
      | none => rw [ec] at p; exact p.elim
      | some l =>
        rw [ec] at p
        dsimp only [Option.bind] at p
        cases ei : boolsD l with
        | none => rw [ei] at p; exact p.elim
        | some is =>
          rw [ei] at p
          obtain ⟨a, vs, rfl, e2, e3, e4⟩ := contL_rel g s h ec
          exact ⟨a, is, rfl, bools_sq e2 e4 ei, Post.fin p g (.bl _)⟩
  · exact p.elim
end
end Sf
end
section
set_option linter.all false
set_option maxRecDepth 100000
set_option maxHeartbeats 1000000
/-! Sf.Walk: what is walked; targets; comprehensions. -/
namespace Sf
open PySem L2
/-- the walk J gives values for xs, as long as ok stands -/
structure Walk (T : Tab) (J : It) (xs : List D) (ok : Hp → Hp → List Addr → Prop) : Prop where
  go : ∀ (i : Nat) (H G : Hp) (ι : List Addr), i < xs.length → ok H G ι → J.go i H
  yld : ∀ (i : Nat) (H G : Hp) (ι : List Addr) (x : V) (H' : Hp) (S : Hs), i < xs.length → ok H G ι → GRel T H S G ι → J.yld i H x H' → ∃ d G', xs[i]? = some d ∧ Rep T G' ι x d ∧ Step H G ι H' G' ι ∧ GRel T H' S G' ι
  stop : ∀ (H G : Hp) (ι : List Addr), ok H G ι → J.stop xs.length H
def okL (T : Tab) (a : Addr) (xs : List D) : Hp → Hp → List Addr → Prop := fun H G ι => ∃ vs, SqL T.K H a vs ∧ Reps T G ι vs xs
def okT (T : Tab) (a : Addr) (xs : List D) : Hp → Hp → List Addr → Prop := fun H G ι => ∃ vs, SqT T.K H a vs ∧ Reps T G ι vs xs
theorem walk_list {T : Tab} {a : Addr} {xs : List D} : Walk T (Itl T.K a) xs (okL T a xs) where
  go := fun i H G ι h ⟨vs, o, r⟩ => ⟨vs, vs[i]'(by rw [r.length]; exact h), o, List.getElem?_eq_getElem (by rw [r.length]; exact h)⟩
  yld := fun i H G ι x H' S h ⟨vs, o, r⟩ g y => by
    obtain ⟨d, e1, e2⟩ := r.getV (y.2 vs o)
    obtain ⟨e3, _⟩ := y
    subst e3
    exact ⟨d, G, e1, e2, Step.refl _ _ _, g⟩
  stop := fun H G ι ⟨vs, o, r⟩ => ⟨vs, o, Nat.le_of_eq r.length⟩
theorem walk_tup {T : Tab} {a : Addr} {xs : List D} : Walk T (Itt T.K a) xs (okT T a xs) where
  go := fun i H G ι h ⟨vs, o, r⟩ => ⟨vs, vs[i]'(by rw [r.length]; exact h), o, List.getElem?_eq_getElem (by rw [r.length]; exact h)⟩
  yld := fun i H G ι x H' S h ⟨vs, o, r⟩ g y => by
    obtain ⟨d, e1, e2⟩ := r.getV (y.2 vs o)
    obtain ⟨e3, _⟩ := y
    subst e3
    exact ⟨d, G, e1, e2, Step.refl _ _ _, g⟩
  stop := fun H G ι ⟨vs, o, r⟩ => ⟨vs, o, Nat.le_of_eq r.length⟩
theorem rngL_length (lo : Int) (n : Nat) : (rngL lo n).length = n := by simp [rngL]
theorem walk_rng {T : Tab} {lo : Int} {n : Nat} : Walk T (Itr lo n) (rngL lo n) fun _ _ _ => True where
  go := fun i H G ι h _ => by rw [rngL_length] at h; exact h
  yld := fun i H G ι x H' S h _ g y => by
    rw [rngL_length] at h
    obtain ⟨e3, e4⟩ := y
    subst e3
    exact ⟨.int (lo + (i : Int)), G, by simp [rngL, h], by rw [e4]; exact .int _, Step.refl _ _ _, g⟩
  stop := fun H G ι _ => by rw [rngL_length]; exact Nat.le_refl _
/-- the walk's ground stays wherever the frozen part stands and the mutable list walked is as it was -/
def Stays (T : Tab) (fx : Bool) (H G : Hp) (ι : List Addr) (S : Hs) (gd : Option Nat) (ok : Hp → Hp → List Addr → Prop) : Prop := ∀ H' G' ι' S', Le G G' → Pre ι ι' → (fx = true → ∀ a o, H a = some o → a ∉ ι → H' a = some o) → GRel T H' S' G' ι' → held gd S S' → ok H' G' ι'
def PostI (T : Tab) (fx : Bool) (E : XK) (H G : Hp) (ι : List Addr) (R : It → Hp → Prop) : Res (List D × Option Nat) → Prop
  | .ok w S' => ∀ J H' G' ι' ok, Step H G ι H' G' ι' → GRel T H' S' G' ι' → w.1.length ≤ sizeLine → Walk T J w.1 ok → Stays T fx H' G' ι' S' w.2 ok → R J H'
  | .ex c fs S' => XPost T H G ι E c fs S'
  | .bad => False
def SndI (T : Tab) (fx : Bool) (E : XK) (t : TI) (m : Rho → Hs → Res (List D × Option Nat)) : Prop := ∀ (σ : St) (ρ : Rho) (H G : Hp) (ι : List Addr) (S : Hs) (R : It → Hp → Prop), GRel T H S G ι → SRel T σ ρ H G ι → PostI T fx E H G ι R (m ρ S) → t σ H R
section
variable {T : Tab} {fx : Bool} {E : XK} {ta tb : TE} {ma mb : Rho → Hs → Res Val}
/-- over a list or a tuple -/
def iSeq (K : PySem.W.Frag) (t : TE) : TI := fun σ H R => iList K t σ H R ∨ iTup K t σ H R
theorem pi_seq {X : Cx} {tg e : Expr} {t : TE} (h : PE X e t) : PI X tg e (iSeq X.K t) := ⟨fun pins s σ H R I hw => by
  rcases hw with hw | hw
  · exact (pi_list h).run pins s σ H R I hw
  · exact (pi_tup h).run pins s σ H R I hw⟩
theorem stays_tup {H G : Hp} {ι : List Addr} {S : Hs} {gd : Option Nat} {a : Addr} {vs : List V} {xs : List D} (h : SqT T.K G a vs) (r : Reps T G ι vs xs) : Stays T fx H G ι S gd (okT T a xs) := fun H' G' ι' S' le pr _ g _ => ⟨vs, le_t (le.trans g.sub) h, r.mono le pr⟩
theorem stays_frame {H G : Hp} {ι : List Addr} {S : Hs} {gd : Option Nat} {a : Addr} {vs : List V} {xs : List D} (h : H a = some (.lst vs)) (hi : a ∉ ι) (r : Reps T G ι vs xs) : Stays T true H G ι S gd (okL T a xs) := fun H' G' ι' S' le pr fr g _ => ⟨vs, SqL.of (fr rfl a _ h hi), r.mono le pr⟩
theorem stays_frz {H G : Hp} {ι : List Addr} {S : Hs} {gd : Option Nat} {a : Addr} {vs : List V} {xs : List D} (h : G a = some (.lst vs)) (r : Reps T G ι vs xs) : Stays T fx H G ι S gd (okL T a xs) := fun H' G' ι' S' le pr _ g _ => ⟨vs, SqL.of (g.sub _ _ (le _ _ h)), r.mono le pr⟩
theorem stays_loc {H G : Hp} {ι : List Addr} {S : Hs} {n : Nat} {a : Addr} {xs : List D} (hn : ι[n]? = some a) (hs : S[n]? = some xs) : Stays T fx H G ι S (some n) (okL T a xs) := fun H' G' ι' S' le pr _ g hd => by
  have e : S'[n]? = some xs := by rw [hd n rfl]; exact hs
  obtain ⟨b, vs, e1, e2, _, e4⟩ := g.cell n xs e
  rw [pr n a hn] at e1; cases e1
  exact ⟨vs, SqL.of e2, e4⟩
theorem snd_seq (ha : Snd T E ta ma) : SndI T fx E (iSeq T.K ta) fun ρ S => (ma ρ S).bind fun x S => Res.of (walkV fx ρ S x) S := by
  intro σ ρ H G ι S R g s p
  dsimp only at p
  cases ea : ma ρ S with
  | bad => rw [ea] at p; exact p.elim
  | ex c fs S' =>
    rw [ea] at p
    refine .inl (ha σ ρ H G ι S _ g s ?_)
    rw [ea]; exact p
  | ok v S1 =>
    rw [ea] at p
    replace p : PostI T fx E H G ι R (Res.of (walkV fx ρ S1 v) S1) := p
    cases ew : walkV fx ρ S1 v with
    | none => rw [ew] at p; exact p.elim
    | some w =>
      rw [ew] at p
      -- a tuple, or a list
      cases et : contT v with
      | some l =>
        refine .inr (ha σ ρ H G ι S _ g s ?_)
        rw [ea]
        intro x H1 G1 ι1 st1 g1 vx
        obtain ⟨d, rfl⟩ : ∃ d, v = .d (.tup d) := by
          unfold contT at et
          split at et
          · exact ⟨_, rfl⟩
          · cases et
        have ew : some (d, (none : Option Nat)) = some w := ew
        cases ew
        cases vx with
        | tup h1 h2 h3 => exact ⟨_, rfl, ⟨_, le_t g1.sub h1⟩, p _ H1 G1 ι1 _ st1 g1 (by rw [← h3.length]; exact h2) walk_tup (stays_tup h1 h3)⟩
      | none =>
        refine .inl (ha σ ρ H G ι S _ g s ?_)
        rw [ea]
        intro x H1 G1 ι1 st1 g1 vx
        have s1 := s.step st1
        unfold walkV at ew
        split at ew
        · rename_i n
          rw [Option.map_eq_some_iff] at ew
          obtain ⟨l, el, rfl⟩ := ew
          cases vx with
          | loc hn =>
            obtain ⟨a, vs, e1, e2, e3, e4⟩ := g1.cell n l el
            rw [hn] at e1; cases e1
            exact ⟨_, rfl, ⟨vs, SqL.of e2⟩, p _ H1 G1 ι1 _ st1 g1 (by rw [← e4.length]; exact e3) walk_list (stays_loc hn el)⟩
        · rename_i i
          split at ew
          · rename_i hfx
            subst hfx
            rw [Option.map_eq_some_iff] at ew
            obtain ⟨l, el, rfl⟩ := ew
            have el : (match ρ[i]? with
              | some (.ac l) => some l
              | _ => none) = some l := el
            cases er : ρ[i]? with
            | none => rw [er] at el; cases el
            | some sl =>
              rw [er] at el
              cases sl with
              | ac k =>
                cases el
                obtain ⟨a, vs, e1, e2, e3, e4, e5, e6⟩ := s1.ac i _ er
                have vx : σ[i]? = some (some x) := vx
                rw [e1] at vx; cases vx
                exact ⟨_, rfl, ⟨_, SqL.of e2⟩, p _ H1 G1 ι1 _ st1 g1 (by rw [← e4.length]; exact e3) walk_list (stays_frame e2 e6 e4)⟩
              | _ => cases el
          · cases ew
        · rename_i nl no
          rw [Option.map_eq_some_iff] at ew
          obtain ⟨l, el, rfl⟩ := ew
          have el : contL ρ S1 v = some l := by
            unfold cont at el
            rw [et] at el; exact el
          cases v with
          | d d =>
            cases vx with
            | lst h1 h2 h3 =>
              cases el
              exact ⟨_, rfl, ⟨_, SqL.of (g1.sub _ _ h1)⟩, p _ H1 G1 ι1 _ st1 g1 (by rw [← h3.length]; exact h2) walk_list (stays_frz h1 h3)⟩
            | loc => exact absurd rfl (nl _)
            | _ => cases el
          | fr k =>
            cases el
            obtain ⟨G1', st1', g1', _, rx⟩ := toD_rel st1 g1 vx rfl
            cases rx with
            | lst h1 h2 h3 => exact ⟨_, rfl, ⟨_, SqL.of (g1'.sub _ _ h1)⟩, p _ H1 G1' ι1 _ st1' g1' (by rw [← h3.length]; exact h2) walk_list (stays_frz h1 h3)⟩
          | ow i => exact absurd rfl (no _)
theorem rng_of {lo hi : Int} {l : List D} (e : rng lo hi = some l) : (-(2 ^ 62) ≤ lo ∧ lo < 2 ^ 62 ∧ -(2 ^ 62) ≤ hi ∧ hi < 2 ^ 62) ∧ l = rngL lo (hi - lo).toNat ∧ (hi - lo).toNat ≤ big := by
  unfold rng at e
  split at e
  · rename_i h
    cases e
    exact ⟨⟨h.1, h.2.1, h.2.2.1, h.2.2.2.1⟩, rfl, h.2.2.2.2⟩
  · cases e
theorem snd_rng1 (ha : Snd T E ta ma) : SndI T fx E (iRng1 (tCons ta tNil)) fun ρ S => (ma ρ S).bind fun x S => match x with
    | .d (.int n) => Res.of ((rng 0 n).map fun l => (l, none)) S
    | _ => .bad := by
  intro σ ρ H G ι S R g s p
  dsimp only at p
  refine ha σ ρ H G ι S _ g s ?_
  cases ea : ma ρ S with
  | bad => rw [ea] at p; exact p.elim
  | ex c fs S' => rw [ea] at p; exact p
  | ok v S1 =>
    rw [ea] at p
    intro x H1 G1 ι1 st1 g1 vx
    cases v with
    | d d =>
      cases vx with
      | int n =>
        have p : PostI T fx E H G ι R (Res.of ((rng 0 n).map fun l => (l, none)) S1) := p
        cases er : rng 0 n with
        | none => rw [er] at p; exact p.elim
        | some l =>
          rw [er] at p
          obtain ⟨b, rfl, hz⟩ := rng_of er
          rw [Int.sub_zero] at p hz
          exact ⟨n, rfl, b.2.2.1, b.2.2.2, p _ H1 G1 ι1 _ st1 g1 (by rw [rngL_length]; exact Nat.le_trans hz big_line) walk_rng fun _ _ _ _ _ _ _ _ _ => True.intro⟩
      | _ => exact p.elim
    | _ => exact p.elim
theorem snd_rng2 (ha : Snd T E ta ma) (hb : Snd T E tb mb) : SndI T fx E (iRng2 (tCons ta (tCons tb tNil))) fun ρ S => (ma ρ S).bind fun x S => (mb ρ S).bind fun y S => match x, y with
    | .d (.int m), .d (.int n) => Res.of ((rng m n).map fun l => (l, none)) S
    | _, _ => .bad := by
  intro σ ρ H G ι S R g s p
  dsimp only at p
  refine ha σ ρ H G ι S _ g s ?_
  cases ea : ma ρ S with
  | bad => rw [ea] at p; exact p.elim
  | ex c fs S' => rw [ea] at p; exact p
  | ok v S1 =>
    rw [ea] at p
    intro x H1 G1 ι1 st1 g1 vx
    refine hb σ ρ H1 G1 ι1 S1 _ g1 (s.step st1) ?_
    replace p : PostI T fx E H G ι R ((mb ρ S1).bind fun y S => match (motive := Val → Val → Res (List D × Option Nat)) v, y with
      | .d (.int m), .d (.int n) => Res.of ((rng m n).map fun l => (l, none)) S
      | _, _ => .bad) := p
    cases eb : mb ρ S1 with
    | bad => rw [eb] at p; exact p.elim
    | ex c fs S' => rw [eb] at p; exact XPost.mono st1 p
    | ok u S2 =>
      rw [eb] at p
      intro y H2 G2 ι2 st2 g2 vy
      have vx2 := vx.step st2
      cases v with
      | d d =>
        cases vx2 with
        | int m =>
          cases u with
          | d k =>
            cases vy with
            | int n =>
              have p : PostI T fx E H G ι R (Res.of ((rng m n).map fun l => (l, none)) S2) := p
              cases er : rng m n with
              | none => rw [er] at p; exact p.elim
              | some l =>
                rw [er] at p
                obtain ⟨b, rfl, hz⟩ := rng_of er
                exact ⟨m, n, rfl, b, p _ H2 G2 ι2 _ (st1.trans st2) g2 (by rw [rngL_length]; exact Nat.le_trans hz big_line) walk_rng fun _ _ _ _ _ _ _ _ _ => True.intro⟩
            | _ => exact p.elim
          | _ => exact p.elim
        | _ => exact p.elim
      | _ => exact p.elim
/-! ### targets -/
theorem SRel.setVa {σ : St} {ρ : Rho} {H G : Hp} {ι : List Addr} {v : V} {d : D} (s : SRel T σ ρ H G ι) (i : Nat) (r : Rep T G ι v d) : SRel T (σ.set i (some v)) (ρ.set i (.va d)) H G ι where
  len := by rw [List.length_set, List.length_set, s.len]
  va := fun j x h => by
    by_cases q : i = j
    · subst q
      have hl : i < ρ.length := by
        have := (List.getElem?_eq_some_iff.mp h).1
        rwa [List.length_set] at this
      rw [List.getElem?_set_self hl] at h
      cases h
      exact ⟨v, List.getElem?_set_self (by rw [s.len]; exact hl), r⟩
    · rw [List.getElem?_set_ne q] at h ⊢
      exact s.va j x h
  ac := fun j l h => by
    by_cases q : i = j
    · subst q
      have hl : i < ρ.length := by
        have := (List.getElem?_eq_some_iff.mp h).1
        rwa [List.length_set] at this
      rw [List.getElem?_set_self hl] at h
      cases h
    · rw [List.getElem?_set_ne q] at h ⊢
      exact s.ac j l h
  di := fun j k l m a h1 h2 e1 e2 => by
    have qj : i ≠ j := fun q => by
      subst q
      have hl : i < ρ.length := by
        have := (List.getElem?_eq_some_iff.mp h1).1
        rwa [List.length_set] at this
      rw [List.getElem?_set_self hl] at h1; cases h1
    have qk : i ≠ k := fun q => by
      subst q
      have hl : i < ρ.length := by
        have := (List.getElem?_eq_some_iff.mp h2).1
        rwa [List.length_set] at this
      rw [List.getElem?_set_self hl] at h2; cases h2
    rw [List.getElem?_set_ne qj] at h1 e1
    rw [List.getElem?_set_ne qk] at h2 e2
    exact s.di j k l m a h1 h2 e1 e2
  ii := fun j c l h => by
    by_cases q : i = j
    · subst q
      have hl : i < ρ.length := by
        have := (List.getElem?_eq_some_iff.mp h).1
        rwa [List.length_set] at this
      rw [List.getElem?_set_self hl] at h
      cases h
    · rw [List.getElem?_set_ne q] at h ⊢
      exact s.ii j c l h
theorem SRel.setNo {σ : St} {ρ : Rho} {H G : Hp} {ι : List Addr} (s : SRel T σ ρ H G ι) (i : Nat) : SRel T (σ.set i none) (ρ.set i .no) H G ι where
  len := by rw [List.length_set, List.length_set, s.len]
  va := fun j x h => by
    by_cases q : i = j
    · subst q
      have hl : i < ρ.length := by
        have := (List.getElem?_eq_some_iff.mp h).1
        rwa [List.length_set] at this
      rw [List.getElem?_set_self hl] at h
      cases h
    · rw [List.getElem?_set_ne q] at h ⊢
      exact s.va j x h
  ac := fun j l h => by
    by_cases q : i = j
    · subst q
      have hl : i < ρ.length := by
        have := (List.getElem?_eq_some_iff.mp h).1
        rwa [List.length_set] at this
      rw [List.getElem?_set_self hl] at h
      cases h
    · rw [List.getElem?_set_ne q] at h ⊢
      exact s.ac j l h
  di := fun j k l m a h1 h2 e1 e2 => by
    have qj : i ≠ j := fun q => by
      subst q
      have hl : i < ρ.length := by
        have := (List.getElem?_eq_some_iff.mp h1).1
        rwa [List.length_set] at this
      rw [List.getElem?_set_self hl] at h1; cases h1
    have qk : i ≠ k := fun q => by
      subst q
      have hl : i < ρ.length := by
        have := (List.getElem?_eq_some_iff.mp h2).1
        rwa [List.length_set] at this
      rw [List.getElem?_set_self hl] at h2; cases h2
    rw [List.getElem?_set_ne qj] at h1 e1
    rw [List.getElem?_set_ne qk] at h2 e2
    exact s.di j k l m a h1 h2 e1 e2
  ii := fun j c l h => by
    by_cases q : i = j
    · subst q
      have hl : i < ρ.length := by
        have := (List.getElem?_eq_some_iff.mp h).1
        rwa [List.length_set] at this
      rw [List.getElem?_set_self hl] at h
      cases h
    · rw [List.getElem?_set_ne q] at h ⊢
      exact s.ii j c l h
theorem SRel.wipe {σ : St} {ρ : Rho} {H G : Hp} {ι : List Addr} (s : SRel T σ ρ H G ι) : ∀ vs : List Nat, SRel T (L2.wipe σ vs) (wipeR ρ vs) H G ι
  | [] => s
  | v :: vs => (SRel.wipe s vs).setNo v
def gAll : List Nat → TGs
  | [] => gNil
  | i :: is => gCons (gName i) (gAll is)
def gTg (K : PySem.W.Frag) : Tg → TG
  | .one i => gName i
  | .tup is => gTup K is.length (gAll is)
def Tg.slots : Tg → List Nat
  | .one i => [i]
  | .tup is => is
theorem setAll_rel {H G : Hp} {ι : List Addr} : ∀ {is : List Nat} {vs : List V} {ds : List D} {σ : St} {ρ ρ' : Rho} {Q : St → Hp → Prop}, SRel T σ ρ H G ι → Reps T G ι vs ds → setAll is ds ρ = some ρ' →
    (∀ σ', SRel T σ' ρ' H G ι → (∀ ws, (∀ i ∈ is, i ∈ ws) → L2.wipe σ' ws = L2.wipe σ ws) → Q σ' H) → gAll is vs σ H Q
  | [], _, _, σ, ρ, ρ', Q, s, .nil, e, k => by
    cases (show some ρ = some ρ' from e)
    exact ⟨rfl, k σ s fun _ _ => rfl⟩
  | [], _, _, _, _, _, _, _, .cons .., e, _ => by cases e
  | i :: is, _, _, _, _, _, _, _, .nil, e, _ => by cases e
  | i :: is, _, _, σ, ρ, ρ', Q, s, .cons h r, e, k => by
    refine ⟨_, _, rfl, setAll_rel (s.setVa i h) r e fun σ' s' w => k σ' s' fun ws hw => ?_⟩
    rw [w ws fun j hj => hw j (List.mem_cons_of_mem _ hj)]
    exact wipe_set (hw i List.mem_cons_self)
where
  wipe_set {σ : St} {i : Nat} {x : Option V} : ∀ {ws : List Nat}, i ∈ ws → L2.wipe (σ.set i x) ws = L2.wipe σ ws
    | [], h => by cases h
    | w :: ws, h => by
      show (L2.wipe (σ.set i x) ws).set w none = (L2.wipe σ ws).set w none
      by_cases q : i ∈ ws
      · rw [wipe_set q]
      · have e : i = w := by
          rcases List.mem_cons.mp h with h | h
          · exact h
          · exact absurd h q
        subst e
        rw [wipe_out' q]
        rw [List.set_set]
  wipe_out' {σ : St} {i : Nat} {x : Option V} : ∀ {ws : List Nat}, i ∉ ws → L2.wipe (σ.set i x) ws = (L2.wipe σ ws).set i x
    | [], _ => rfl
    | w :: ws, h => by
      show (L2.wipe (σ.set i x) ws).set w none = ((L2.wipe σ ws).set w none).set i x
      rw [wipe_out' fun q => h (List.mem_cons_of_mem _ q)]
      exact List.set_comm _ _ fun q => h (q ▸ List.mem_cons_self)
theorem setTg_rel {H G : Hp} {ι : List Addr} {S : Hs} {t : Tg} {v : V} {d : D} {σ : St} {ρ ρ' : Rho} {Q : St → Hp → Prop} (g : GRel T H S G ι) (s : SRel T σ ρ H G ι) (r : Rep T G ι v d) (e : setTg t d ρ = some ρ')
    (k : ∀ σ', SRel T σ' ρ' H G ι → (∀ ws, (∀ i ∈ t.slots, i ∈ ws) → L2.wipe σ' ws = L2.wipe σ ws) → Q σ' H) : gTg T.K t v σ H Q := by
  cases t with
  | one i =>
    cases (show some _ = some ρ' from e)
    exact k _ (s.setVa i r) fun ws hw => setAll_rel.wipe_set (hw i (by simp [Tg.slots]))
  | tup is =>
    cases r with
    | tup h1 h2 h3 =>
      have e : setAll is _ ρ = some ρ' := e
      refine ⟨_, _, rfl, le_t g.sub h1, ?_, setAll_rel s h3 e k⟩
      rw [h3.length]
      exact (setAll_len e).symm
    | _ => cases e
where
  setAll_len : ∀ {is : List Nat} {ds : List D} {ρ ρ' : Rho}, setAll is ds ρ = some ρ' → is.length = ds.length
    | [], [], _, _, _ => rfl
    | [], _ :: _, _, _, e => by cases e
    | _ :: _, [], _, _, e => by cases e
    | i :: is, d :: ds, ρ, ρ', e => by
      have e : setAll is ds (ρ.set i (.va d)) = some ρ' := e
      rw [List.length_cons, List.length_cons, setAll_len e]
end
end Sf
end
section
set_option linter.all false
set_option maxRecDepth 100000
set_option maxHeartbeats 1000000
/-! Sf.Comp: list comprehensions. -/
namespace Sf
open PySem L2
theorem wipe_get {σ : St} {i : Nat} : ∀ {vs : List Nat}, (L2.wipe σ vs)[i]? = if i ∈ vs ∧ i < σ.length then some none else σ[i]?
  | [] => by simp [L2.wipe]
  | v :: vs => by
    show ((L2.wipe σ vs).set v none)[i]? = _
    by_cases q : v = i
    · subst q
      by_cases h : v < σ.length
      · rw [List.getElem?_set_self (by rw [wipe_length]; exact h), if_pos ⟨List.mem_cons_self, h⟩]
      · rw [List.getElem?_eq_none (by rw [List.length_set, wipe_length]; omega), if_neg fun z => h z.2, List.getElem?_eq_none (by omega)]
    · rw [List.getElem?_set_ne q, wipe_get]
      by_cases h : i ∈ vs ∧ i < σ.length
      · rw [if_pos h, if_pos ⟨List.mem_cons_of_mem _ h.1, h.2⟩]
      · rw [if_neg h, if_neg fun z => h ⟨(List.mem_cons.mp z.1).resolve_left fun e => q e.symm, z.2⟩]
theorem wipe_wipe (σ : St) (vs : List Nat) : L2.wipe (L2.wipe σ vs) vs = L2.wipe σ vs := by
  apply List.ext_getElem?
  intro i
  rw [wipe_get, wipe_length]
  by_cases h : i ∈ vs ∧ i < σ.length
  · rw [if_pos h, wipe_get, if_pos h]
  · rw [if_neg h]
section
variable {T : Tab} {E : XK} {H H' H0 H1 G G0 G1 : Hp} {ι ι0 ι1 : List Addr} {S : Hs}
theorem Step.mutOpen {p : Addr} {o : HO} (st : Step H0 G0 ι0 H G ι) (h : H0 p = none) : Step H0 G0 ι0 (upd H p o) G ι where
  frame := fun a u e n => by rw [upd_ne (ne_of_none e h)]; exact st.frame a u e n
  dom := fun a e => by
    by_cases q : a = p
    · rw [q]; exact h
    · rw [upd_ne q] at e; exact st.dom a e
  ext := st.ext
  pre := st.pre
  newG := st.newG
  newI := st.newI
theorem GRel.mutOpen {p : Addr} {o : HO} (g : GRel T H S G ι) (hG : G p = none) (hi : p ∉ ι) : GRel T (upd H p o) S G ι where
  sub := fun a u e => by rw [upd_ne (ne_of_none e hG)]; exact g.sub a u e
  len := g.len
  nd := g.nd
  cell := fun n l e => by
    obtain ⟨a, vs, e1, e2, e3, e4⟩ := g.cell n l e
    have q : a ≠ p := fun q => hi (q ▸ List.mem_of_getElem? e1)
    exact ⟨a, vs, e1, by rw [upd_ne q]; exact e2, e3, e4⟩
  off := g.off
theorem held_refl (gd : Option Nat) (S : Hs) : held gd S S := fun _ _ => rfl
theorem held.trans {gd : Option Nat} {S S1 S2 : Hs} (a : held gd S S1) (b : held gd S1 S2) : held gd S S2 := fun n e => (b n e).trans (a n e)
/-- a turn's meaning -/
def turn (t : Tg) (own : List Nat) (mt me : Rho → Hs → Res Val) (ρ : Rho) : D → Hs → Res (Option D) := fun x S => match setTg t x (wipeR ρ own) with
  | some ρ' => (mt ρ' S).bind fun b S => match b with
    | .d (.bl true) => (me ρ' S).bind fun y S => match y.toD with
      | some y => .ok (some y) S
      | none => .bad
    | .d (.bl false) => .ok none S
    | _ => .bad
  | none => .bad
theorem compGo_cons {gd : Option Nat} {f : D → Hs → Res (Option D)} {x : D} {xs : List D} {S : Hs} {acc : List D} {R : Res Val → Prop} (hb : ¬ R .bad) (h : R (compGo gd f (x :: xs) S acc)) :
    ∃ o S', f x S = .ok o S' ∧ held gd S S' ∧ R (compGo gd f xs S' (match o with
      | some y => acc ++ [y]
      | none => acc)) := by
  unfold compGo at h
  cases e : f x S with
  | bad => rw [e] at h; exact absurd h hb
  | ex c fs S' => rw [e] at h; exact absurd h hb
  | ok o S' =>
    rw [e] at h
    dsimp only at h
    by_cases q : held gd S S'
    · rw [if_pos q] at h
      refine ⟨o, S', rfl, q, ?_⟩
      cases o <;> exact h
    · rw [if_neg q] at h; exact absurd h hb
theorem snd_comp {wi : TI} {mi : Rho → Hs → Res (List D × Option Nat)} {tt : TT} {te : TE} {mt me : Rho → Hs → Res Val} (hw : SndI T true E wi mi) (ht : SndT T E0 tt mt) (he : Snd T E0 te me) (t : Tg) (own : List Nat) (ho : ∀ i ∈ t.slots, i ∈ own) :
    Snd T E (tLc wi (gTg T.K t) tt te own) fun ρ S => (mi ρ S).bind fun w S => compGo w.2 (turn t own mt me ρ) w.1 S [] := by
  intro σ ρ H G ι S Q g s p
  dsimp only at p
  refine hw σ ρ H G ι S _ g s ?_
  cases em : mi ρ S with
  | bad => rw [em] at p; exact p.elim
  | ex c fs S' => rw [em] at p; exact p
  | ok w S1 =>
    rw [em] at p
    intro J H1 G1 ι1 ok st1 g1 hz wk sty D hD
    have s1 := s.step st1
    have hbad : ¬ Post T σ H G ι Q E .bad := fun z => z
    -- what stands ahead of turn i
    let Pv : Nat → Hp → Prop := fun i H' => ∃ S' G' ι' accV accD, Step H1 G1 ι1 H' G' ι' ∧ GRel T H' S' G' ι' ∧ held w.2 S1 S' ∧ H' D = some (.lst accV) ∧ accV.length ≤ i ∧ Reps T G' ι' accV accD ∧ G' D = none ∧ D ∉ ι' ∧
      Post T σ H G ι Q E (compGo w.2 (turn t own mt me ρ) (w.1.drop i) S' accD)
    have hDG : G1 D = none := g1.sub.none hD
    have hDi : D ∉ ι1 := fun hm => g1.mem hm hD
    have p0 : Pv 0 (upd H1 D (.lst [])) := ⟨S1, G1, ι1, [], [], Step.open' hD, g1.open' hD, held_refl _ _, upd_same, Nat.le_refl _, .nil, hDG, hDi, p⟩
    refine ⟨fun i m H' => m = w.1.length - i ∧ i ≤ w.1.length ∧ Pv i H', ⟨_, rfl, Nat.zero_le _, p0⟩, ?_⟩
    rintro i m H' ⟨rfl, hi, S', G', ι', accV, accD, st', g', hd', eD, hl, ra, hDG', hDi', p'⟩
    have okH : ok H' G' ι' := sty H' G' ι' S' st'.ext st'.pre (fun _ => st'.frame) g' hd'
    by_cases hlt : i < w.1.length
    · refine .inr ⟨wk.go i H' G' ι' hlt okH, Pv (i + 1), fun H'' q => ⟨w.1.length - (i + 1), by omega, rfl, hlt, q⟩, fun x H'' y => ?_⟩
      obtain ⟨d, G2, ed, rd, stp, g2⟩ := wk.yld i H' G' ι' x H'' S' hlt okH g' y
      have neD' : H' D ≠ none := by rw [eD]; exact fun z => nomatch z
      replace st' := st'.trans stp
      replace eD := stp.frame D _ eD hDi'
      replace ra := ra.mono stp.ext stp.pre
      replace hDG' := stp.newG D hDG' neD'
      replace g' := g2
      have edrop : w.1.drop i = d :: w.1.drop (i + 1) := by
        obtain ⟨h1, h2⟩ := List.getElem?_eq_some_iff.mp ed
        rw [← h2]; exact List.drop_eq_getElem_cons h1
      rw [edrop] at p'
      obtain ⟨o, S2, ef, hd2, p2⟩ := compGo_cons hbad p'
      have s' : SRel T (L2.wipe σ own) (wipeR ρ own) H'' G2 ι' := (s1.step st').wipe own
      unfold turn at ef
      cases es : setTg t d (wipeR ρ own) with
      | none => rw [es] at ef; cases ef
      | some ρ' =>
        rw [es] at ef
        dsimp only at ef
        refine setTg_rel g' s' rd es fun σ2 s2 hw2 => ⟨by rw [hw2 own ho, wipe_wipe], ?_⟩
        refine ht σ2 ρ' H'' G2 ι' S' _ g' s2 ?_
        cases et : mt ρ' S' with
        | bad => rw [et] at ef; cases ef
        | ex c fs S'' => rw [et] at ef; cases ef
        | ok bv S3 =>
          rw [et] at ef
          cases bv with
          | d bd =>
            cases bd with
            | bl b =>
              intro H3 G3 ι3 st3 g3
              have neD : H'' D ≠ none := by rw [eD]; exact fun z => nomatch z
              have eD3 : H3 D = some (.lst accV) := st3.frame D _ eD hDi'
              have hDG3 := st3.newG D hDG' neD
              have hDi3 := st3.newI D hDi' neD
              have neD3 : H3 D ≠ none := by rw [eD3]; exact fun z => nomatch z
              cases b with
              | false =>
                cases ef
                exact ⟨_, G3, ι3, accV, accD, st'.trans st3, g3, hd'.trans hd2, eD3, Nat.le_succ_of_le hl, ra.mono st3.ext st3.pre, hDG3, hDi3, p2⟩
              | true =>
                refine he σ2 ρ' H3 G3 ι3 S3 _ g3 (s2.step st3) ?_
                replace ef : ((me ρ' S3).bind fun y S => match y.toD with
                  | some y => Res.ok (some y) S
                  | none => .bad) = .ok o S2 := ef
                cases ee : me ρ' S3 with
                | bad => rw [ee] at ef; cases ef
                | ex c fs S'' => rw [ee] at ef; cases ef
                | ok yv S4 =>
                  rw [ee] at ef
                  replace ef : (match yv.toD with
                    | some y => Res.ok (some y) S4
                    | none => .bad) = .ok o S2 := ef
                  cases ey : yv.toD with
                  | none => rw [ey] at ef; cases ef
                  | some yd =>
                    rw [ey] at ef
                    cases ef
                    intro yv' H4 G4 ι4 st4 g4 vy
                    obtain ⟨G4', st4', g4', le4, ry⟩ := toD_rel st4 g4 vy ey
                    have eD4 : H4 D = some (.lst accV) := st4'.frame D _ eD3 hDi3
                    have hDG4 := st4'.newG D hDG3 neD3
                    have hDi4 := st4'.newI D hDi3 neD3
                    have hacc : (accV ++ [yv']).length ≤ i + 1 := by rw [List.length_append]; exact Nat.succ_le_succ hl
                    refine ⟨accV, eD4, by omega, S2, G4', ι4, accV ++ [yv'], accD ++ [yd], ((st'.trans st3).trans st4').mutOpen hD, g4'.mutOpen hDG4 hDi4, hd'.trans hd2, upd_same, hacc, ((ra.mono st3.ext st3.pre).mono st4'.ext st4'.pre).append (.cons ry .nil), hDG4, hDi4, p2⟩
            | _ => cases ef
          | _ => cases ef
    · have e : i = w.1.length := by omega
      subst e
      refine .inl ⟨wk.stop H' G' ι' okH, ?_⟩
      rw [List.drop_eq_nil_of_le (Nat.le_refl _)] at p'
      unfold compGo at p'
      exact p' (.ref D) H' G' ι' (st1.trans st') g' ⟨D, accV, rfl, eD, Nat.le_trans hl hz, ra, hDG', hDi', st1.dom D hD⟩
theorem sndT_yes : SndT T E tYes fun _ S => .ok (.d (.bl true)) S := fun σ ρ H G ι S Q g s p => p H G ι (Step.refl _ _ _) g
end
end Sf
end
section
set_option linter.all false
set_option maxRecDepth 100000
set_option maxHeartbeats 1000000
/-! Sf.Stm: statements. -/
namespace Sf
open PySem L2
/-- the slots, what they own is younger than H0 -/
structure FRel (T : Tab) (z0 : Addr) (H0 : Hp) (σ : St) (ρ : Rho) (H G : Hp) (ι : List Addr) : Prop where
  s : SRel T σ ρ H G ι
  fr : ∀ (i : Nat) (l : List D) (a : Addr), ρ[i]? = some (.ac l) → σ[i]? = some (some (.ref a)) → H0 a = none
  fi : ∀ (i c : Nat) (l : List D) (a : Addr), ρ[i]? = some (.ini c l) → σ[i]? = some (some (.ref a)) → H0 a = none ∧ i = 0 ∧ a = z0
/-- from the def's entry to here; what stood frozen ahead of the statement stands -/
structure Stp (H0 G0 : Hp) (ι0 : List Addr) (Gs : Hp) (ιs : List Addr) (H G : Hp) (ι : List Addr) : Prop where
  st : Step H0 G0 ι0 H G ι
  le : Le Gs G
  pr : Pre ιs ι
theorem Stp.of {H0 G0 H G H1 G1 : Hp} {ι0 ι ι1 : List Addr} (st : Step H0 G0 ι0 H G ι) (t : Step H G ι H1 G1 ι1) : Stp H0 G0 ι0 G ι H1 G1 ι1 := ⟨st.trans t, t.ext, t.pre⟩
theorem Stp.rfl {H0 G0 H G : Hp} {ι0 ι : List Addr} (st : Step H0 G0 ι0 H G ι) : Stp H0 G0 ι0 G ι H G ι := ⟨st, Le.refl _, Pre.refl _⟩
theorem Stp.mut {H0 G0 Gs H G : Hp} {ι0 ιs ι : List Addr} {p : Addr} {o : HO} (t : Stp H0 G0 ι0 Gs ιs H G ι) (h : H0 p = none) : Stp H0 G0 ι0 Gs ιs (upd H p o) G ι := ⟨t.st.mutOpen h, t.le, t.pr⟩
def PostS (T : Tab) (E : XK) (z0 : Addr) (H0 G0 : Hp) (ι0 : List Addr) (Gs : Hp) (ιs : List Addr) (D : Ends) : Out → Prop
  | .nx ρ S => ∀ σ H G ι, Stp H0 G0 ι0 Gs ιs H G ι → GRel T H S G ι → FRel T z0 H0 σ ρ H G ι → D.nx σ H
  | .bk ρ S => ∀ σ H G ι, Stp H0 G0 ι0 Gs ιs H G ι → GRel T H S G ι → FRel T z0 H0 σ ρ H G ι → D.bk σ H
  | .ct ρ S => ∀ σ H G ι, Stp H0 G0 ι0 Gs ιs H G ι → GRel T H S G ι → FRel T z0 H0 σ ρ H G ι → D.ct σ H
  | .rt v S => ∀ x σ H G ι, Stp H0 G0 ι0 Gs ιs H G ι → GRel T H S G ι → (∀ i, v ≠ .ow i) → VRel T σ H0 H G ι x v → D.rt x H
  | .ex c fs S => XPost T H0 G0 ι0 E c fs S
  | .bad => False
theorem PostS.mono {T : Tab} {E : XK} {z0 : Addr} {H0 G0 Gs G1 : Hp} {ι0 ιs ι1 : List Addr} {D : Ends} {o : Out} (le : Le Gs G1) (pr : Pre ιs ι1) (p : PostS T E z0 H0 G0 ι0 Gs ιs D o) : PostS T E z0 H0 G0 ι0 G1 ι1 D o := by
  cases o with
  | nx ρ S => exact fun σ H G ι t => p σ H G ι ⟨t.st, le.trans t.le, pr.trans t.pr⟩
  | bk ρ S => exact fun σ H G ι t => p σ H G ι ⟨t.st, le.trans t.le, pr.trans t.pr⟩
  | ct ρ S => exact fun σ H G ι t => p σ H G ι ⟨t.st, le.trans t.le, pr.trans t.pr⟩
  | rt v S => exact fun x σ H G ι t => p x σ H G ι ⟨t.st, le.trans t.le, pr.trans t.pr⟩
  | ex c fs S => exact p
  | bad => exact p
def SndS (T : Tab) (E : XK) (t : TS) (m : Rho → Hs → Out) : Prop := ∀ (σ : St) (ρ : Rho) (H G : Hp) (ι : List Addr) (S : Hs) (z0 : Addr) (H0 G0 : Hp) (ι0 : List Addr) (D : Ends),
  Step H0 G0 ι0 H G ι → GRel T H S G ι → FRel T z0 H0 σ ρ H G ι → PostS T E z0 H0 G0 ι0 G ι D (m ρ S) → t D σ H
section
variable {z0 : Addr} {T : Tab} {E : XK} {ta tb tc : TE} {ma mb mc : Rho → Hs → Res Val} {H0 H1 H G0 G1 G Gs : Hp} {ι0 ι1 ι ιs : List Addr} {σ : St} {ρ : Rho} {S : Hs}
theorem FRel.step (f : FRel T z0 H0 σ ρ H G ι) (t : Step H G ι H1 G1 ι1) : FRel T z0 H0 σ ρ H1 G1 ι1 := ⟨f.s.step t, f.fr, f.fi⟩
theorem FRel.setVa {v : V} {d : D} (f : FRel T z0 H0 σ ρ H G ι) (i : Nat) (r : Rep T G ι v d) : FRel T z0 H0 (σ.set i (some v)) (ρ.set i (.va d)) H G ι := ⟨f.s.setVa i r, fun j l a h e => by
  by_cases q : i = j
  · subst q
    have hl : i < ρ.length := by
      have := (List.getElem?_eq_some_iff.mp h).1
      rwa [List.length_set] at this
    rw [List.getElem?_set_self hl] at h; cases h
  · rw [List.getElem?_set_ne q] at h e
    exact f.fr j l a h e, fun j c l a h e => by
  by_cases q : i = j
  · subst q
    have hl : i < ρ.length := by
      have := (List.getElem?_eq_some_iff.mp h).1
      rwa [List.length_set] at this
    rw [List.getElem?_set_self hl] at h; cases h
  · rw [List.getElem?_set_ne q] at h e
    exact f.fi j c l a h e⟩
/-- a slot takes a new list -/
theorem FRel.setAc {a : Addr} {vs : List V} {l : List D} (f : FRel T z0 H0 σ ρ H G ι) (i : Nat) (h : H a = some (.lst vs)) (hz : vs.length ≤ sizeLine) (r : Reps T G ι vs l) (hG : G a = none) (hi : a ∉ ι) (h0 : H0 a = none)
    (nw : ∀ (j : Nat) (k : List D), j ≠ i → ρ[j]? = some (.ac k) → σ[j]? ≠ some (some (.ref a))) : FRel T z0 H0 (σ.set i (some (.ref a))) (ρ.set i (.ac l)) H G ι where
  s := {
    len := by rw [List.length_set, List.length_set, f.s.len]
    va := fun j x e => by
      by_cases q : i = j
      · subst q
        have hl : i < ρ.length := by
          have := (List.getElem?_eq_some_iff.mp e).1
          rwa [List.length_set] at this
        rw [List.getElem?_set_self hl] at e; cases e
      · rw [List.getElem?_set_ne q] at e ⊢
        exact f.s.va j x e
    ac := fun j k e => by
      by_cases q : i = j
      · subst q
        have hl : i < ρ.length := by
          have := (List.getElem?_eq_some_iff.mp e).1
          rwa [List.length_set] at this
        rw [List.getElem?_set_self hl] at e; cases e
        exact ⟨a, vs, List.getElem?_set_self (by rw [f.s.len]; exact hl), h, hz, r, hG, hi⟩
      · rw [List.getElem?_set_ne q] at e ⊢
        exact f.s.ac j k e
    di := fun j k lj lk b e1 e2 h1 h2 => by
      have one : ∀ (m : Nat) (lm : List D), (ρ.set i (.ac l))[m]? = some (.ac lm) → (σ.set i (some (.ref a)))[m]? = some (some (.ref b)) → (m = i ∧ b = a) ∨ (m ≠ i ∧ ρ[m]? = some (.ac lm) ∧ σ[m]? = some (some (.ref b))) := fun m lm x y => by
        by_cases q : i = m
        · subst q
          have hl : i < ρ.length := by
            have := (List.getElem?_eq_some_iff.mp x).1
            rwa [List.length_set] at this
          rw [List.getElem?_set_self (by rw [f.s.len]; exact hl)] at y
          cases y
          exact .inl ⟨rfl, rfl⟩
        · rw [List.getElem?_set_ne q] at x y
          exact .inr ⟨fun z => q z.symm, x, y⟩
      rcases one j lj e1 h1 with ⟨rfl, rfl⟩ | ⟨n1, x1, y1⟩
      · rcases one k lk e2 h2 with ⟨rfl, _⟩ | ⟨n2, x2, y2⟩
        · rfl
        · exact absurd y2 (nw k lk n2 x2)
      · rcases one k lk e2 h2 with ⟨rfl, rfl⟩ | ⟨n2, x2, y2⟩
        · exact absurd y1 (nw j lj n1 x1)
        · exact f.s.di j k lj lk b x1 x2 y1 y2
    ii := fun j c k e => by
      by_cases q : i = j
      · subst q
        have hl : i < ρ.length := by
          have := (List.getElem?_eq_some_iff.mp e).1
          rwa [List.length_set] at this
        rw [List.getElem?_set_self hl] at e; cases e
      · rw [List.getElem?_set_ne q] at e ⊢
        exact f.s.ii j c k e }
  fr := fun j k b e e2 => by
    by_cases q : i = j
    · subst q
      have hl : i < ρ.length := by
        have := (List.getElem?_eq_some_iff.mp e).1
        rwa [List.length_set] at this
      rw [List.getElem?_set_self (by rw [f.s.len]; exact hl)] at e2
      cases e2; exact h0
    · rw [List.getElem?_set_ne q] at e e2
      exact f.fr j k b e e2
  fi := fun j c k b e e2 => by
    by_cases q : i = j
    · subst q
      have hl : i < ρ.length := by
        have := (List.getElem?_eq_some_iff.mp e).1
        rwa [List.length_set] at this
      rw [List.getElem?_set_self hl] at e
      cases e
    · rw [List.getElem?_set_ne q] at e e2
      exact f.fi j c k b e e2
/-- an owned list is written -/
theorem FRel.write {a : Addr} {vs : List V} {l l0 : List D} (g : GRel T H S G ι) (f : FRel T z0 H0 σ ρ H G ι) (i : Nat) (hr : ρ[i]? = some (.ac l0)) (hs : σ[i]? = some (some (.ref a))) (hz : vs.length ≤ sizeLine) (r : Reps T G ι vs l) :
    GRel T (upd H a (.lst vs)) S G ι ∧ FRel T z0 H0 σ (ρ.set i (.ac l)) (upd H a (.lst vs)) G ι := by
  obtain ⟨b, ws, e1, e2, _, _, e5, e6⟩ := f.s.ac i l0 hr
  rw [hs] at e1; cases e1
  have hl : i < ρ.length := (List.getElem?_eq_some_iff.mp hr).1
  refine ⟨g.mutOpen e5 e6, ⟨⟨by rw [List.length_set, f.s.len], fun j x e => ?_, fun j k e => ?_, fun j k lj lk b h1 h2 x1 x2 => ?_, fun j c k e => ?_⟩, fun j k b e e' => ?_, fun j c k b e e' => ?_⟩⟩
  · by_cases q : i = j
    · subst q; rw [List.getElem?_set_self hl] at e; cases e
    · rw [List.getElem?_set_ne q] at e; exact f.s.va j x e
  · by_cases q : i = j
    · subst q; rw [List.getElem?_set_self hl] at e; cases e
      exact ⟨_, vs, hs, upd_same, hz, r, e5, e6⟩
    · rw [List.getElem?_set_ne q] at e
      obtain ⟨b, us, x1, x2, x3, x4, x5, x6⟩ := f.s.ac j k e
      have ne : b ≠ a := fun z => q (f.s.di i j l0 k a hr e hs (z ▸ x1))
      exact ⟨b, us, x1, by rw [upd_ne ne]; exact x2, x3, x4, x5, x6⟩
  · have old : ∀ (m : Nat) (lm : List D), (ρ.set i (.ac l))[m]? = some (.ac lm) → ∃ k, ρ[m]? = some (.ac k) := fun m lm x => by
      by_cases q : i = m
      · subst q; exact ⟨l0, hr⟩
      · rw [List.getElem?_set_ne q] at x; exact ⟨lm, x⟩
    obtain ⟨k1, y1⟩ := old j lj h1
    obtain ⟨k2, y2⟩ := old k lk h2
    exact f.s.di j k k1 k2 b y1 y2 x1 x2
  · by_cases q : i = j
    · subst q; rw [List.getElem?_set_self hl] at e; cases e
    · rw [List.getElem?_set_ne q] at e
      obtain ⟨b, dx, fs, x1, x2, x3, x4, x5, x6⟩ := f.s.ii j c k e
      have ne : b ≠ a := fun z => by rw [z, e2] at x2; cases x2
      exact ⟨b, dx, fs, x1, by rw [upd_ne ne]; exact x2, x3, x4, x5, x6⟩
  · by_cases q : i = j
    · subst q; exact f.fr i l0 b hr e'
    · rw [List.getElem?_set_ne q] at e; exact f.fr j k b e e'
  · by_cases q : i = j
    · subst q; rw [List.getElem?_set_self hl] at e; cases e
    · rw [List.getElem?_set_ne q] at e; exact f.fi j c k b e e'
/-- an owned list becomes data -/
theorem FRel.freeze {l : List D} (st : Step H0 G0 ι0 H G ι) (g : GRel T H S G ι) (f : FRel T z0 H0 σ ρ H G ι) (i : Nat) (hr : ρ[i]? = some (.ac l)) :
    ∃ G', Stp H0 G0 ι0 G ι H G' ι ∧ GRel T H S G' ι ∧ FRel T z0 H0 σ (ρ.set i (.va (.lst l))) H G' ι := by
  obtain ⟨a, vs, e1, e2, e3, e4, e5, e6⟩ := f.s.ac i l hr
  have hl : i < ρ.length := (List.getElem?_eq_some_iff.mp hr).1
  have h0 := f.fr i l a hr e1
  refine ⟨upd G a (.lst vs), ⟨⟨st.frame, st.dom, st.ext.trans (le_upd e5), st.pre, fun b hb nb => ?_, st.newI⟩, le_upd e5, Pre.refl _⟩, g.freeze e2 e5 e6, ⟨⟨by rw [List.length_set, f.s.len], fun j x e => ?_, fun j k e => ?_, fun j k lj lk b h1 h2 x1 x2 => ?_, fun j c k e => ?_⟩, fun j k b e e' => ?_, fun j c k b e e' => ?_⟩⟩
  · have q : b ≠ a := fun q => nb (q ▸ h0)
    rw [upd_ne q]; exact st.newG b hb nb
  · by_cases q : i = j
    · subst q; rw [List.getElem?_set_self hl] at e; cases e
      exact ⟨_, e1, .lst upd_same e3 (e4.mono (le_upd e5) (Pre.refl _))⟩
    · rw [List.getElem?_set_ne q] at e
      obtain ⟨v, x1, x2⟩ := f.s.va j x e
      exact ⟨v, x1, x2.mono (le_upd e5) (Pre.refl _)⟩
  · by_cases q : i = j
    · subst q; rw [List.getElem?_set_self hl] at e; cases e
    · rw [List.getElem?_set_ne q] at e
      obtain ⟨b, us, x1, x2, x3, x4, x5, x6⟩ := f.s.ac j k e
      have ne : b ≠ a := fun z => q (f.s.di i j l k a hr e e1 (z ▸ x1))
      exact ⟨b, us, x1, x2, x3, x4.mono (le_upd e5) (Pre.refl _), by rw [upd_ne ne]; exact x5, x6⟩
  · have old : ∀ (m : Nat) (lm : List D), (ρ.set i (.va (.lst l)))[m]? = some (.ac lm) → ρ[m]? = some (.ac lm) := fun m lm x => by
      by_cases q : i = m
      · subst q; rw [List.getElem?_set_self hl] at x; cases x
      · rw [List.getElem?_set_ne q] at x; exact x
    exact f.s.di j k lj lk b (old j lj h1) (old k lk h2) x1 x2
  · by_cases q : i = j
    · subst q; rw [List.getElem?_set_self hl] at e; cases e
    · rw [List.getElem?_set_ne q] at e
      obtain ⟨b, dx, fs, x1, x2, x3, x4, x5, x6⟩ := f.s.ii j c k e
      have ne : b ≠ a := fun z => by rw [z, e2] at x2; cases x2
      exact ⟨b, dx, fs, x1, x2, x3, x4.mono (le_upd e5) (Pre.refl _), by rw [upd_ne ne]; exact x5, x6⟩
  · by_cases q : i = j
    · subst q; rw [List.getElem?_set_self hl] at e; cases e
    · rw [List.getElem?_set_ne q] at e; exact f.fr j k b e e'
  · by_cases q : i = j
    · subst q; rw [List.getElem?_set_self hl] at e; cases e
    · rw [List.getElem?_set_ne q] at e; exact f.fi j c k b e e'

/-! ### an expression first -/
theorem first {t : TE} {D : Ends} {k : V → Hp → Prop} {out : Val → Hs → Out} (ha : Snd T E t ma) (st : Step H0 G0 ι0 H G ι) (g : GRel T H S G ι) (f : FRel T z0 H0 σ ρ H G ι) (p : PostS T E z0 H0 G0 ι0 Gs ιs D ((ma ρ S).out out))
    (h : ∀ x v S1 H1 G1 ι1, Step H G ι H1 G1 ι1 → GRel T H1 S1 G1 ι1 → VRel T σ H H1 G1 ι1 x v → PostS T E z0 H0 G0 ι0 Gs ιs D (out v S1) → k x H1) : t σ H k := by
  refine ha σ ρ H G ι S _ g f.s ?_
  cases ea : ma ρ S with
  | bad => rw [ea] at p; exact p.elim
  | ex c fs S' => rw [ea] at p; exact XPost.mono st p
  | ok v S1 =>
    rw [ea] at p
    exact fun x H1 G1 ι1 st1 g1 vx => h x v S1 H1 G1 ι1 st1 g1 vx p
theorem sndS_set (i : Nat) (ha : Snd T E ta ma) : SndS T E (tAsg ta (gName i)) fun ρ S => (ma ρ S).out fun x S => match x.toD with
    | some d => .nx (ρ.set i (.va d)) S
    | none => .bad := by
  intro σ ρ H G ι S z0 H0 G0 ι0 D st g f p
  refine first ha st g f p fun x v S1 H1 G1 ι1 st1 g1 vx p => ?_
  cases ed : v.toD with
  | none => rw [ed] at p; exact p.elim
  | some d =>
    rw [ed] at p
    obtain ⟨G1', st1', g1', _, rx⟩ := toD_rel st1 g1 vx ed
    exact p _ H1 G1' ι1 (Stp.of st st1') g1' ((f.step st1').setVa i rx)
theorem sndS_setA (i : Nat) (ha : Snd T E ta ma) : SndS T E (tAsg ta (gName i)) fun ρ S => (ma ρ S).out fun x S => match x with
    | .fr l => .nx (ρ.set i (.ac l)) S
    | _ => .bad := by
  intro σ ρ H G ι S z0 H0 G0 ι0 D st g f p
  refine first ha st g f p fun x v S1 H1 G1 ι1 st1 g1 vx p => ?_
  cases v with
  | fr l =>
    obtain ⟨a, vs, rfl, e1, e2, e3, e4, e5, e6⟩ := vx
    refine p _ H1 G1 ι1 (Stp.of st st1) g1 ((f.step st1).setAc i e1 e2 e3 e4 e5 (st.dom a e6) fun j k _ hj hs => ?_)
    obtain ⟨b, us, x1, x2, _⟩ := f.s.ac j k hj
    rw [hs] at x1; cases x1
    rw [e6] at x2; cases x2
  | _ => exact p.elim
theorem SRel.pre {ι' : List Addr} (s : SRel T σ ρ H G ι) (p : Pre ι ι') (h : ∀ a ∈ ι', a ∉ ι → ∀ (i : Nat), σ[i]? = some (some (.ref a)) → ((∃ l, ρ[i]? = some (.ac l)) ∨ ∃ c l, ρ[i]? = some (.ini c l)) → False) : SRel T σ ρ H G ι' where
  len := s.len
  va := fun i x e => let ⟨v, a, b⟩ := s.va i x e; ⟨v, a, b.mono (Le.refl _) p⟩
  ac := fun i l e => by
    obtain ⟨a, vs, e1, e2, e3, e4, e5, e6⟩ := s.ac i l e
    exact ⟨a, vs, e1, e2, e3, e4.mono (Le.refl _) p, e5, fun hm => h a hm e6 i e1 (.inl ⟨l, e⟩)⟩
  di := s.di
  ii := fun i c l e => by
    obtain ⟨a, dx, fs, e1, e2, e3, e4, e5, e6⟩ := s.ii i c l e
    exact ⟨a, dx, fs, e1, e2, e3, e4.mono (Le.refl _) p, e5, fun hm => h a hm e6 i e1 (.inr ⟨c, l, e⟩)⟩
theorem sndS_setC (i : Nat) (ha : Snd T E ta ma) : SndS T E (tAsg ta (gName i)) fun ρ S => (ma ρ S).out fun x S => match x with
    | .fr l => .nx (ρ.set i (.va (.loc S.length))) (S ++ [l])
    | _ => .bad := by
  intro σ ρ H G ι S z0 H0 G0 ι0 D st g f p
  refine first ha st g f p fun x v S1 H1 G1 ι1 st1 g1 vx p => ?_
  cases v with
  | fr l =>
    obtain ⟨a, vs, rfl, e1, e2, e3, e4, e5, e6⟩ := vx
    have pre : Pre ι1 (ι1 ++ [a]) := fun m b q => by
      have := (List.getElem?_eq_some_iff.mp q).1
      rw [List.getElem?_append_left this]; exact q
    have h0 : H0 a = none := st.dom a e6
    have st2 := st.trans st1
    have f1 := f.step st1
    refine p _ H1 G1 (ι1 ++ [a]) ⟨⟨st2.frame, st2.dom, st2.ext, st2.pre.trans pre, st2.newG, fun b hb nb hm => ?_⟩, st1.ext, st1.pre.trans pre⟩ (g1.cellify e1 e2 e3 e4 e5) (FRel.setVa (v := .ref a) ⟨f1.s.pre pre fun b hb nb j hs hj => ?_, f1.fr, f1.fi⟩ i (.loc ?_))
    · rcases List.mem_append.mp hm with hm | hm
      · exact st2.newI b hb nb hm
      · have : b = a := by simpa using hm
        exact nb (this ▸ h0)
    · have eb : b = a := by
        rcases List.mem_append.mp hb with hb | hb
        · exact absurd hb nb
        · simpa using hb
      subst eb
      rcases hj with ⟨k, hj⟩ | ⟨c, k, hj⟩
      · obtain ⟨c, us, x1, x2, _⟩ := f.s.ac j k hj
        rw [hs] at x1; cases x1
        rw [e6] at x2; cases x2
      · obtain ⟨c, us, ws, x1, x2, _⟩ := f.s.ii j c k hj
        rw [hs] at x1; cases x1
        rw [e6] at x2; cases x2
    · rw [List.getElem?_append_right (by rw [g1.len]; exact Nat.le_refl _), g1.len, Nat.sub_self]
      rfl
  | _ => exact p.elim
theorem setAll_F : ∀ {is : List Nat} {vs : List V} {ds : List D} {σ : St} {ρ ρ' : Rho} {Q : St → Hp → Prop}, FRel T z0 H0 σ ρ H G ι → Reps T G ι vs ds → setAll is ds ρ = some ρ' →
    (∀ σ', FRel T z0 H0 σ' ρ' H G ι → Q σ' H) → gAll is vs σ H Q
  | [], _, _, σ, ρ, ρ', Q, s, .nil, e, k => by
    cases (show some ρ = some ρ' from e)
    exact ⟨rfl, k σ s⟩
  | [], _, _, _, _, _, _, _, .cons .., e, _ => by cases e
  | i :: is, _, _, _, _, _, _, _, .nil, e, _ => by cases e
  | i :: is, _, _, σ, ρ, ρ', Q, s, .cons h r, e, k => ⟨_, _, rfl, setAll_F (s.setVa i h) r e k⟩
theorem sndS_unp (is : List Nat) (ha : Snd T E ta ma) : SndS T E (tAsg ta (gTg T.K (.tup is))) fun ρ S => (ma ρ S).out fun x S => match x with
    | .d (.tup l) => (match setAll is l ρ with
      | some ρ' => .nx ρ' S
      | none => .bad)
    | _ => .bad := by
  intro σ ρ H G ι S z0 H0 G0 ι0 D st g f p
  refine first ha st g f p fun x v S1 H1 G1 ι1 st1 g1 vx p => ?_
  cases v with
  | d d =>
    cases vx with
    | tup h1 h2 h3 =>
      rename_i a vs ds
      replace p : PostS T E z0 H0 G0 ι0 G ι D (match setAll is ds ρ with
        | some ρ' => .nx ρ' S1
        | none => .bad) := p
      cases es : setAll is ds ρ with
      | none => rw [es] at p; exact p.elim
      | some ρ' =>
        rw [es] at p
        refine ⟨_, _, rfl, le_t g1.sub h1, ?_, setAll_F (f.step st1) h3 es fun σ' f' => p σ' H1 G1 ι1 (Stp.of st st1) g1 f'⟩
        rw [h3.length]
        exact (setTg_rel.setAll_len es).symm
    | _ => exact p.elim
  | _ => exact p.elim
theorem sndS_par (i j : Nat) (ha : Snd T E ta ma) (hb : Snd T E tb mb) : SndS T E (tPar i j (tCons ta (tCons tb tNil))) fun ρ S => (ma ρ S).out fun x S => match x.toD with
    | some x => (mb ρ S).out fun y S => match y.toD with
      | some y => .nx ((ρ.set i (.va x)).set j (.va y)) S
      | none => .bad
    | none => .bad := by
  intro σ ρ H G ι S z0 H0 G0 ι0 D st g f p
  refine first ha st g f p fun x v S1 H1 G1 ι1 st1 g1 vx p => ?_
  cases ed : v.toD with
  | none => rw [ed] at p; exact p.elim
  | some d =>
    rw [ed] at p
    obtain ⟨G1', st1', g1', _, rx⟩ := toD_rel st1 g1 vx ed
    refine first hb (st.trans st1') g1' (f.step st1') p fun y u S2 H2 G2 ι2 st2 g2 vy p => ?_
    cases eu : u.toD with
    | none => rw [eu] at p; exact p.elim
    | some e =>
      rw [eu] at p
      obtain ⟨G2', st2', g2', _, ry⟩ := toD_rel st2 g2 vy eu
      exact ⟨x, y, rfl, p _ H2 G2' ι2 (Stp.of st (st1'.trans st2')) g2' ((((f.step st1').step st2').setVa i (rx.mono st2'.ext st2'.pre)).setVa j ry)⟩
theorem sndS_app (i : Nat) (ha : Snd T E ta ma) : SndS T E (tDrop (tBM T.K "list" rAppend (tVar i) (tCons ta tNil))) fun ρ S => match ρ[i]? with
    | some (.ac l) => (ma ρ S).out fun x S => match x.toD with
      | some d => if l.length < big then .nx (ρ.set i (.ac (l ++ [d]))) S else .bad
      | none => .bad
    | _ => .bad := by
  intro σ ρ H G ι S z0 H0 G0 ι0 D st g f p
  dsimp only at p
  cases hr : ρ[i]? with
  | none => rw [hr] at p; exact p.elim
  | some sl =>
    rw [hr] at p
    cases sl with
    | ac l =>
      obtain ⟨a, vs, e1, e2, e3, e4, e5, e6⟩ := f.s.ac i l hr
      refine ⟨.ref a, e1, .inl ⟨rfl, vs, SqL.of e2⟩, ?_⟩
      refine first ha st g f p fun x v S1 H1 G1 ι1 st1 g1 vx p => ?_
      cases ed : v.toD with
      | none => rw [ed] at p; exact p.elim
      | some d =>
        rw [ed] at p
        dsimp only at p
        by_cases hb : l.length < big
        · rw [if_pos hb] at p
          obtain ⟨G1', st1', g1', _, rx⟩ := toD_rel st1 g1 vx ed
          have e2' : H1 a = some (.lst vs) := st1'.frame a _ e2 e6
          have hv : vs.length < sizeLine := by rw [e4.length]; exact Nat.lt_of_lt_of_le hb big_line
          refine ⟨a, vs, x, rfl, rfl, e2', hv, ?_⟩
          obtain ⟨g2, f2⟩ := FRel.write (vs := vs ++ [x]) (l := l ++ [d]) g1' (f.step st1') i hr e1 (by rw [List.length_append]; exact hv) ((e4.mono st1'.ext st1'.pre).append (.cons rx .nil))
          exact p _ _ G1' ι1 ((Stp.of st st1').mut (f.fr i l a hr e1)) g2 f2
        · rw [if_neg hb] at p; exact p.elim
    | _ => exact p.elim
theorem sndS_setIx (i : Nat) (hk : Snd T E tb mb) (ha : Snd T E ta ma) : SndS T E (tAsg ta (gSub (tVar i) tb rSetL)) fun ρ S => match ρ[i]? with
    | some (.ac l) => (ma ρ S).out fun x S => match x.toD with
      | some d => (mb ρ S).out fun y S => match y with
        | .d (.int n) => (match L2.ixN l.length n with
          | some j => .nx (ρ.set i (.ac (l.set j d))) S
          | none => .bad)
        | _ => .bad
      | none => .bad
    | _ => .bad := by
  intro σ ρ H G ι S z0 H0 G0 ι0 D st g f p
  dsimp only at p
  cases hr : ρ[i]? with
  | none => rw [hr] at p; exact p.elim
  | some sl =>
    rw [hr] at p
    cases sl with
    | ac l =>
      obtain ⟨a, vs, e1, e2, e3, e4, e5, e6⟩ := f.s.ac i l hr
      refine first ha st g f p fun x v S1 H1 G1 ι1 st1 g1 vx p => ?_
      refine ⟨.ref a, e1, ?_⟩
      cases ed : v.toD with
      | none => rw [ed] at p; exact p.elim
      | some d =>
        rw [ed] at p
        obtain ⟨G1', st1', g1', _, rx⟩ := toD_rel st1 g1 vx ed
        refine first hk (st.trans st1') g1' (f.step st1') p fun y u S2 H2 G2 ι2 st2 g2 vy p => ?_
        cases u with
        | d k =>
          cases vy with
          | int n =>
            replace p : PostS T E z0 H0 G0 ι0 G ι D (match L2.ixN l.length n with
              | some j => .nx (ρ.set i (.ac (l.set j d))) S2
              | none => .bad) := p
            cases ej : L2.ixN l.length n with
            | none => rw [ej] at p; exact p.elim
            | some j =>
              rw [ej] at p
              have st12 := st1'.trans st2
              have e2' : H2 a = some (.lst vs) := st12.frame a _ e2 e6
              refine ⟨a, vs, n, j, rfl, rfl, e2', by rw [e4.length]; exact ej, ?_⟩
              obtain ⟨g3, f3⟩ := FRel.write (vs := vs.set j x) (l := l.set j d) g2 (f.step st12) i hr e1 (by rw [List.length_set]; exact e3) (Reps.set (rx.mono st2.ext st2.pre) j (e4.mono st12.ext st12.pre))
              exact p _ _ G2 ι2 ((Stp.of st st12).mut (f.fr i l a hr e1)) g3 f3
          | _ => exact p.elim
        | _ => exact p.elim
    | _ => exact p.elim
theorem sndS_setLoc (ho : Snd T E tc mc) (hk : Snd T E tb mb) (ha : Snd T E ta ma) : SndS T E (tAsg ta (gSub tc tb rSetL)) fun ρ S => (ma ρ S).out fun x S => match x.toD with
    | some d => (mc ρ S).out fun y S => match y with
      | .d (.loc n) => (mb ρ S).out fun z S => match z with
        | .d (.int m) => (match S[n]? with
          | some l => (match L2.ixN l.length m with
            | some j => .nx ρ (S.set n (l.set j d))
            | none => .bad)
          | none => .bad)
        | _ => .bad
      | _ => .bad
    | none => .bad := by
  intro σ ρ H G ι S z0 H0 G0 ι0 D st g f p
  refine first ha st g f p fun x v S1 H1 G1 ι1 st1 g1 vx p => ?_
  cases ed : v.toD with
  | none => rw [ed] at p; exact p.elim
  | some d =>
    rw [ed] at p
    obtain ⟨G1', st1', g1', _, rx⟩ := toD_rel st1 g1 vx ed
    refine first ho (st.trans st1') g1' (f.step st1') p fun y u S2 H2 G2 ι2 st2 g2 vy p => ?_
    cases u with
    | d k =>
      cases vy with
      | loc hn =>
        rename_i a n
        have st12 := (st.trans st1').trans st2
        refine first hk st12 g2 ((f.step st1').step st2) p fun z w S3 H3 G3 ι3 st3 g3 vz p => ?_
        cases w with
        | d q =>
          cases vz with
          | int m =>
            replace p : PostS T E z0 H0 G0 ι0 G ι D (match S3[n]? with
              | some l => (match L2.ixN l.length m with
                | some j => .nx ρ (S3.set n (l.set j d))
                | none => .bad)
              | none => .bad) := p
            cases el : S3[n]? with
            | none => rw [el] at p; exact p.elim
            | some l =>
              rw [el] at p
              replace p : PostS T E z0 H0 G0 ι0 G ι D (match L2.ixN l.length m with
                | some j => .nx ρ (S3.set n (l.set j d))
                | none => .bad) := p
              cases ej : L2.ixN l.length m with
              | none => rw [ej] at p; exact p.elim
              | some j =>
                rw [ej] at p
                have hn3 := st3.pre n a hn
                obtain ⟨b, vs, e1, e2, e3, e4⟩ := g3.cell n l el
                rw [hn3] at e1; cases e1
                refine ⟨_, vs, m, j, rfl, rfl, e2, by rw [e4.length]; exact ej, ?_⟩
                have stW : Step H3 G3 ι3 (upd H3 a (.lst (vs.set j x))) G3 ι3 := Step.write hn3 e2
                have f3 := ((f.step st1').step st2).step st3
                exact p _ _ G3 ι3 (Stp.of st (((st1'.trans st2).trans st3).trans stW)) (g3.write hn3 (by rw [List.length_set]; exact e3) (Reps.set (rx.mono (st2.ext.trans st3.ext) (st2.pre.trans st3.pre)) j e4)) (f3.step stW)
          | _ => exact p.elim
        | _ => exact p.elim
      | _ => exact p.elim
    | _ => exact p.elim
/-- an int op= an int -/
theorem sndS_aug {op : Operator} {ti : TIp} (i : Nat) (ha : Snd T E ta ma) (hop : ∀ (a b z : Int) (H : Hp) (Q : VK), (∀ ρ S, binV op ρ S (.d (.int a)) (.d (.int b)) = some (.d (.int z))) → Q (.int z) H → ti (.int a) (.int b) H Q)
    (hz : ∀ ρ S a b y, binV op ρ S (.d (.int a)) (.d (.int b)) = some y → ∃ z, ∀ ρ S, binV op ρ S (.d (.int a)) (.d (.int b)) = some (.d (.int z))) : SndS T E (tAug i ta ti) fun ρ S => match ρ[i]? with
    | some (.va x) => (ma ρ S).out fun y S => match x, y with
      | .int a, .d (.int b) => (match binV op ρ S (.d (.int a)) (.d (.int b)) with
        | some (.d z) => .nx (ρ.set i (.va z)) S
        | _ => .bad)
      | _, _ => .bad
    | _ => .bad := by
  intro σ ρ H G ι S z0 H0 G0 ι0 D st g f p
  dsimp only at p
  cases hr : ρ[i]? with
  | none => rw [hr] at p; exact p.elim
  | some sl =>
    rw [hr] at p
    cases sl with
    | va x =>
      obtain ⟨v, e1, r1⟩ := f.s.va i x hr
      refine ⟨v, e1, ?_⟩
      refine first ha st g f p fun y u S1 H1 G1 ι1 st1 g1 vy p => ?_
      cases r1 with
      | int a =>
        cases u with
        | d k =>
          cases vy with
          | int b =>
            replace p : PostS T E z0 H0 G0 ι0 G ι D (match binV op ρ S1 (.d (.int a)) (.d (.int b)) with
              | some (.d z) => .nx (ρ.set i (.va z)) S1
              | _ => .bad) := p
            cases eb : binV op ρ S1 (.d (.int a)) (.d (.int b)) with
            | none => rw [eb] at p; exact p.elim
            | some y =>
              obtain ⟨z, hz⟩ := hz ρ S1 a b y eb
              rw [hz ρ S1] at p
              exact hop a b z _ _ hz (p _ _ G1 ι1 (Stp.of st st1) g1 ((f.step st1).setVa i (.int z)))
          | _ => exact p.elim
        | _ => exact p.elim
      | _ => exact p.elim
    | _ => exact p.elim
theorem sndS_drop (ha : Snd T E ta ma) : SndS T E (tDrop ta) fun ρ S => (ma ρ S).out fun _ S => .nx ρ S := by
  intro σ ρ H G ι S z0 H0 G0 ι0 D st g f p
  exact first ha st g f p fun x v S1 H1 G1 ι1 st1 g1 vx p => p σ H1 G1 ι1 (Stp.of st st1) g1 (f.step st1)
theorem sndS_ret (ha : Snd T E ta ma) : SndS T E (tRet ta) fun ρ S => (ma ρ S).out fun x S => match x with
    | .ow i => (match ρ[i]? with
      | some (.ac l) => .rt (.fr l) S
      | _ => .bad)
    | v => .rt v S := by
  intro σ ρ H G ι S z0 H0 G0 ι0 D st g f p
  refine first ha st g f p fun x v S1 H1 G1 ι1 st1 g1 vx p => ?_
  cases v with
  | d d => exact p x σ H1 G1 ι1 (Stp.of st st1) g1 (fun _ z => nomatch z) vx
  | fr l =>
    obtain ⟨a, vs, rfl, e1, e2, e3, e4, e5, e6⟩ := vx
    exact p _ σ H1 G1 ι1 (Stp.of st st1) g1 (fun _ z => nomatch z) ⟨a, vs, rfl, e1, e2, e3, e4, e5, st.dom a e6⟩
  | ow i =>
    replace p : PostS T E z0 H0 G0 ι0 G ι D (match ρ[i]? with
      | some (.ac l) => .rt (.fr l) S1
      | _ => .bad) := p
    cases hr : ρ[i]? with
    | none => rw [hr] at p; exact p.elim
    | some sl =>
      rw [hr] at p
      cases sl with
      | ac l =>
        have f1 := f.step st1
        obtain ⟨a, vs, e1, e2, e3, e4, e5, e6⟩ := f1.s.ac i l hr
        have vx : σ[i]? = some (some x) := vx
        rw [e1] at vx; cases vx
        exact p _ σ H1 G1 ι1 (Stp.of st st1) g1 (fun _ z => nomatch z) ⟨a, vs, rfl, e2, e3, e4, e5, e6, f.fr i l a hr e1⟩
      | _ => exact p.elim
theorem sndS_retN : SndS T E tRetN fun _ S => .rt (.d .non) S := fun σ ρ H G ι S z0 H0 G0 ι0 D st g f p => p .non σ H G ι (Stp.rfl st) g (fun _ z => nomatch z) .non
theorem sndS_pass : SndS T E tNext fun ρ S => .nx ρ S := fun σ ρ H G ι S z0 H0 G0 ι0 D st g f p => p σ H G ι (Stp.rfl st) g f
theorem sndS_brk : SndS T E tBreak fun ρ S => .bk ρ S := fun σ ρ H G ι S z0 H0 G0 ι0 D st g f p => p σ H G ι (Stp.rfl st) g f
theorem sndS_cnt : SndS T E tCont fun ρ S => .ct ρ S := fun σ ρ H G ι S z0 H0 G0 ι0 D st g f p => p σ H G ι (Stp.rfl st) g f
theorem sndS_seq {t u : TS} {ms mr : Rho → Hs → Out} (hs : SndS T E t ms) (hr : SndS T E u mr) : SndS T E (tSeq t u) fun ρ S => match ms ρ S with
    | .nx ρ' S' => mr ρ' S'
    | o => o := by
  intro σ ρ H G ι S z0 H0 G0 ι0 D st g f p
  dsimp only at p
  refine hs σ ρ H G ι S z0 H0 G0 ι0 _ st g f ?_
  cases e : ms ρ S with
  | nx ρ' S' =>
    rw [e] at p
    exact fun σ' H' G' ι' st' g' f' => hr σ' ρ' H' G' ι' S' z0 H0 G0 ι0 D st'.st g' f' (p.mono st'.le st'.pr)
  | bk ρ' S' => rw [e] at p; exact p
  | ct ρ' S' => rw [e] at p; exact p
  | rt v S' => rw [e] at p; exact p
  | ex c fs S' => rw [e] at p; exact p
  | bad => rw [e] at p; exact p
/-- an owned list becomes data: no statement -/
theorem sndS_fz {u : TS} {mr : Rho → Hs → Out} (i : Nat) (hr : SndS T E u mr) : SndS T E u fun ρ S => match (match ρ[i]? with
      | some (.ac l) => Out.nx (ρ.set i (.va (.lst l))) S
      | _ => Out.bad) with
    | .nx ρ' S' => mr ρ' S'
    | o => o := by
  intro σ ρ H G ι S z0 H0 G0 ι0 D st g f p
  dsimp only at p
  cases e : ρ[i]? with
  | none => rw [e] at p; exact p.elim
  | some sl =>
    rw [e] at p
    cases sl with
    | ac l =>
      obtain ⟨G', st', g', f'⟩ := FRel.freeze st g f i e
      exact hr σ _ H G' ι S z0 H0 G0 ι0 D st'.st g' f' (PostS.mono st'.le st'.pr p)
    | _ => exact p.elim
theorem sndS_if {tt : TT} {t u : TS} {m : Rho → Hs → Res Val} {m1 m2 : Rho → Hs → Out} (ht : SndT T E tt m) (h1 : SndS T E t m1) (h2 : SndS T E u m2) : SndS T E (tIfS tt t u) fun ρ S => (m ρ S).out fun x S => match x with
    | .d (.bl true) => m1 ρ S
    | .d (.bl false) => m2 ρ S
    | _ => .bad := by
  intro σ ρ H G ι S z0 H0 G0 ι0 D st g f p
  refine ht σ ρ H G ι S _ g f.s ?_
  dsimp only at p
  cases ea : m ρ S with
  | bad => rw [ea] at p; exact p.elim
  | ex c fs S' => rw [ea] at p; exact XPost.mono st p
  | ok v S1 =>
    rw [ea] at p
    cases v with
    | d x =>
      cases x with
      | bl b =>
        intro H1 G1 ι1 st1 g1
        cases b with
        | true => exact h1 σ ρ H1 G1 ι1 S1 z0 H0 G0 ι0 D (st.trans st1) g1 (f.step st1) (PostS.mono st1.ext st1.pre p)
        | false => exact h2 σ ρ H1 G1 ι1 S1 z0 H0 G0 ι0 D (st.trans st1) g1 (f.step st1) (PostS.mono st1.ext st1.pre p)
      | _ => exact p.elim
    | _ => exact p.elim
/-- self.f = e in an __init__ -/
theorem putF_new {f : Str} {v : V} : ∀ {fs : List (Str × V)}, f ∉ fs.map (·.1) → putF f v fs = fs ++ [(f, v)]
  | [], _ => rfl
  | (g, u) :: r, h => by
    have ne : ¬ g = f := fun e => h (by simp [e])
    show (if g = f then (g, v) :: r else (g, u) :: putF f v r) = _
    rw [if_neg ne, putF_new fun z => h (List.mem_cons_of_mem _ z)]
    rfl
/-- the store of a field: what is wanted of the value's place -/
theorem fld_core {Gs : Hp} {ιs : List Addr} {i k : Nat} {l : List Sf.D} {f : Str} {x : V} {d : Sf.D} {D : Ends} (hC : Cls T.K (T.cad k)) (hN : NoAttr T.K (T.cad k) f) (hp : (T.cfl k)[l.length]? = some f) (nd : (T.cfl k).Nodup) (hl : (T.cfl k).length < 1000)
    (hr : ρ[i]? = some (.ini k l)) (st : Stp H0 G0 ι0 Gs ιs H G ι) (g : GRel T H S G ι) (fr : FRel T z0 H0 σ ρ H G ι) (rx : Rep T G ι x d) (p' : PostS T E z0 H0 G0 ι0 Gs ιs D (.nx (ρ.set i (.ini k (l ++ [d]))) S)) :
    tVar i σ H fun y H2 => ∃ a C dx fs, y = .ref a ∧ H2 a = some (.ins C dx fs) ∧ Cls T.K C ∧ NoAttr T.K C f ∧ fs.length < 1000 ∧ D.nx σ (upd H2 a (.ins C dx (putF f x fs))) := by
  have f1 := fr
  obtain ⟨a, dx, fs, e1, e2, e3, e4, e5, e6⟩ := f1.s.ii i k l hr
  have hpl : l.length < (T.cfl k).length := (List.getElem?_eq_some_iff.mp hp).1
  have hfl : fs.length = l.length := by
    have := e4.length
    rwa [List.length_map] at this
  have hnew : f ∉ fs.map (·.1) := by
    rw [e3]
    intro hm
    obtain ⟨j, hj⟩ := List.mem_iff_getElem?.mp hm
    have hjl : j < l.length := by
      have := (List.getElem?_eq_some_iff.mp hj).1
      rw [List.length_take] at this
      omega
    rw [List.getElem?_take_of_lt hjl] at hj
    have := nd_ix nd hj hp
    omega
  have e0 : H0 a = none := (fr.fi i k l a hr e1).1
  have one : ∀ (j m : Nat) (n : List Sf.D), ρ[i]? = some (.ini k l) → ρ[j]? = some (.ini m n) → ¬ i = j → σ[i]? = some (some (.ref a)) → σ[j]? = some (some (.ref a)) → False := fun j m n h1 h2 q x1 x2 => q ((fr.fi i k l a h1 x1).2.1.trans (fr.fi j m n a h2 x2).2.1.symm)
  refine ⟨.ref a, e1, a, _, dx, fs, rfl, e2, hC, hN, by omega, ?_⟩
  rw [putF_new hnew]
  have hli : i < ρ.length := (List.getElem?_eq_some_iff.mp hr).1
  refine p' _ _ G ι (st.mut e0) (g.mutOpen e5 e6) ⟨⟨by rw [List.length_set, f1.s.len], fun j y e => ?_, fun j m e => ?_, fun j q lj lk b h1 h2 x1 x2 => ?_, fun j m n e => ?_⟩, fun j m b e e' => ?_, fun j m n b e e' => ?_⟩
  · by_cases q : i = j
    · subst q; rw [List.getElem?_set_self hli] at e; cases e
    · rw [List.getElem?_set_ne q] at e; exact f1.s.va j y e
  · by_cases q : i = j
    · subst q; rw [List.getElem?_set_self hli] at e; cases e
    · rw [List.getElem?_set_ne q] at e
      obtain ⟨b, us, x1, x2, x3⟩ := f1.s.ac j m e
      have ne : b ≠ a := fun z => by rw [z, e2] at x2; cases x2
      exact ⟨b, us, x1, by rw [upd_ne ne]; exact x2, x3⟩
  · have old : ∀ (m : Nat) (lm : List Sf.D), (ρ.set i (.ini k (l ++ [d])))[m]? = some (.ac lm) → ρ[m]? = some (.ac lm) := fun m lm x => by
      by_cases q : i = m
      · subst q; rw [List.getElem?_set_self hli] at x; cases x
      · rw [List.getElem?_set_ne q] at x; exact x
    exact f1.s.di j q lj lk b (old j lj h1) (old q lk h2) x1 x2
  · by_cases q : i = j
    · subst q; rw [List.getElem?_set_self hli] at e; cases e
      refine ⟨a, dx, _, e1, upd_same, ?_, ?_, e5, e6⟩
      · rw [List.map_append, e3, List.length_append]
        show _ ++ [f] = _
        rw [show l.length + [d].length = l.length + 1 from rfl, List.take_add_one, hp]
        rfl
      · rw [List.map_append]
        exact e4.append (.cons rx .nil)
    · rw [List.getElem?_set_ne q] at e
      obtain ⟨b, dy, gs, x1, x2, x3, x4, x5, x6⟩ := f1.s.ii j m n e
      have ne : b ≠ a := fun z => one j m n hr e q e1 (z ▸ x1)
      exact ⟨b, dy, gs, x1, by rw [upd_ne ne]; exact x2, x3, x4, x5, x6⟩
  · by_cases q : i = j
    · subst q; rw [List.getElem?_set_self hli] at e; cases e
    · rw [List.getElem?_set_ne q] at e; exact fr.fr j m b e e'
  · by_cases q : i = j
    · subst q; exact fr.fi i k l b hr e'
    · rw [List.getElem?_set_ne q] at e; exact fr.fi j m n b e e'
theorem sndS_fld {K : PySem.W.Frag} (i c p : Nat) (f : Str) (hK : K = T.K) (hC : Cls T.K (T.cad c)) (hN : NoAttr T.K (T.cad c) f) (hp : (T.cfl c)[p]? = some f) (nd : (T.cfl c).Nodup) (hl : (T.cfl c).length < 1000) (ha : Snd T E ta ma) :
    SndS T E (sFld K (tVar i) ta f) fun ρ S => match ρ[i]? with
      | some (.ini k l) => if k = c ∧ l.length = p then (ma ρ S).out fun x S => match x.toD with
        | some d => .nx (ρ.set i (.ini c (l ++ [d]))) S
        | none => .bad
        else .bad
      | _ => .bad := by
  subst hK
  intro σ ρ H G ι S z0 H0 G0 ι0 D st g fr p'
  dsimp only at p'
  cases hr : ρ[i]? with
  | none => rw [hr] at p'; exact p'.elim
  | some sl =>
    rw [hr] at p'
    cases sl with
    | ini k l =>
      dsimp only at p'
      by_cases hk : k = c ∧ l.length = p
      · rw [if_pos hk] at p'
        obtain ⟨rfl, rfl⟩ := hk
        refine first ha st g fr p' fun x v S1 H1 G1 ι1 st1 g1 vx p' => ?_
        cases ed : v.toD with
        | none => rw [ed] at p'; exact p'.elim
        | some d =>
          rw [ed] at p'
          obtain ⟨G1', st1', g1', _, rx⟩ := toD_rel st1 g1 vx ed
          exact fld_core hC hN hp nd hl hr (Stp.of st st1') g1' (fr.step st1') rx p'
      · rw [if_neg hk] at p'; exact p'.elim
    | _ => exact p'.elim
/-- .. of a new list that stays open to change -/
theorem sndS_fldC {K : PySem.W.Frag} (i c p : Nat) (f : Str) (hK : K = T.K) (hC : Cls T.K (T.cad c)) (hN : NoAttr T.K (T.cad c) f) (hp : (T.cfl c)[p]? = some f) (nd : (T.cfl c).Nodup) (hl : (T.cfl c).length < 1000) (ha : Snd T E ta ma) :
    SndS T E (sFld K (tVar i) ta f) fun ρ S => match ρ[i]? with
      | some (.ini k l) => if k = c ∧ l.length = p then (ma ρ S).out fun x S => match x with
        | .fr xs => .nx (ρ.set i (.ini c (l ++ [.loc S.length]))) (S ++ [xs])
        | _ => .bad
        else .bad
      | _ => .bad := by
  subst hK
  intro σ ρ H G ι S z0 H0 G0 ι0 D st g fr p'
  dsimp only at p'
  cases hr : ρ[i]? with
  | none => rw [hr] at p'; exact p'.elim
  | some sl =>
    rw [hr] at p'
    cases sl with
    | ini k l =>
      dsimp only at p'
      by_cases hk : k = c ∧ l.length = p
      · rw [if_pos hk] at p'
        obtain ⟨rfl, rfl⟩ := hk
        refine first ha st g fr p' fun x v S1 H1 G1 ι1 st1 g1 vx p' => ?_
        cases v with
        | fr xs =>
          dsimp only at p'
          obtain ⟨a, vs, rfl, e1, e2, e3, e4, e5, e6⟩ := vx
          have pre : Pre ι1 (ι1 ++ [a]) := fun m b q => by
            have := (List.getElem?_eq_some_iff.mp q).1
            rw [List.getElem?_append_left this]; exact q
          have h0 : H0 a = none := st.dom a e6
          have st2 := st.trans st1
          have f1 := fr.step st1
          refine fld_core hC hN hp nd hl hr (Gs := G) (ιs := ι) (G := G1) (ι := ι1 ++ [a]) ⟨⟨st2.frame, st2.dom, st2.ext, st2.pre.trans pre, st2.newG, fun b hb nb hm => ?_⟩, st1.ext, st1.pre.trans pre⟩ (g1.cellify e1 e2 e3 e4 e5) ⟨f1.s.pre pre fun b hb nb j hs hj => ?_, f1.fr, f1.fi⟩ (.loc (n := S1.length) ?_) p'
          · rcases List.mem_append.mp hm with hm | hm
            · exact st2.newI b hb nb hm
            · have : b = a := by simpa using hm
              exact nb (this ▸ h0)
          · have eb : b = a := by
              rcases List.mem_append.mp hb with hb | hb
              · exact absurd hb nb
              · simpa using hb
            subst eb
            rcases hj with ⟨k, hj⟩ | ⟨c, k, hj⟩
            · obtain ⟨c, us, x1, x2, _⟩ := fr.s.ac j k hj
              rw [hs] at x1; cases x1
              rw [e6] at x2; cases x2
            · obtain ⟨c, us, ws, x1, x2, _⟩ := fr.s.ii j c k hj
              rw [hs] at x1; cases x1
              rw [e6] at x2; cases x2
          · rw [List.getElem?_append_right (by rw [g1.len]; exact Nat.le_refl _), g1.len, Nat.sub_self]
            rfl
        | _ => exact p'.elim
      · rw [if_neg hk] at p'; exact p'.elim
    | _ => exact p'.elim
end
end Sf
end
section
set_option linter.all false
set_option maxRecDepth 100000
set_option maxHeartbeats 1000000
/-! Sf.Loop: for and while. -/
namespace Sf
open PySem L2
section
variable {z0 : Addr} {T : Tab} {E : XK} {H0 H1 H G0 G1 G : Hp} {ι0 ι1 ι : List Addr} {σ : St} {ρ : Rho} {S : Hs}
theorem setTg_F {t : Tg} {v : V} {d : Sf.D} {ρ' : Rho} {Q : St → Hp → Prop} (g : GRel T H S G ι) (s : FRel T z0 H0 σ ρ H G ι) (r : Rep T G ι v d) (e : setTg t d ρ = some ρ')
    (k : ∀ σ', FRel T z0 H0 σ' ρ' H G ι → Q σ' H) : gTg T.K t v σ H Q := by
  cases t with
  | one i =>
    cases (show some _ = some ρ' from e)
    exact k _ (s.setVa i r)
  | tup is =>
    cases r with
    | tup h1 h2 h3 =>
      have e : setAll is _ ρ = some ρ' := e
      refine ⟨_, _, rfl, le_t g.sub h1, ?_, setAll_F s h3 e k⟩
      rw [h3.length]
      exact (setTg_rel.setAll_len e).symm
    | _ => cases e
open Classical in
theorem sndS_for {wi : TI} {tb : TS} {mi : Rho → Hs → Res (List D × Option Nat)} {mb : Rho → Hs → Out} (t : Tg) (hw : SndI T false E wi mi) (hb : SndS T E tb mb) :
    SndS T E (tFor wi (gTg T.K t) tb) fun ρ S => (mi ρ S).out fun w S => forGo w.2 (fun x ρ S => match setTg t x ρ with
      | some ρ' => mb ρ' S
      | none => .bad) w.1 ρ S := by
  intro σ ρ H G ι S z0 H0 G0 ι0 D st g f p
  dsimp only at p
  refine hw σ ρ H G ι S _ g f.s ?_
  cases em : mi ρ S with
  | bad => rw [em] at p; exact p.elim
  | ex c fs S' => rw [em] at p; exact XPost.mono st p
  | ok w S1 =>
    rw [em] at p
    intro J H1 G1 ι1 ok st1 g1 hz wk sty
    let fb : Sf.D → Rho → Hs → Out := fun x ρ S => match setTg t x ρ with
      | some ρ' => mb ρ' S
      | none => .bad
    replace p : PostS T E z0 H0 G0 ι0 G ι D (forGo w.2 fb w.1 ρ S1) := p
    let Pv : Nat → St → Hp → Prop := fun i σ' H' => ∃ ρ' S' G' ι', Step H0 G0 ι0 H' G' ι' ∧ Le G1 G' ∧ Pre ι1 ι' ∧ GRel T H' S' G' ι' ∧ FRel T z0 H0 σ' ρ' H' G' ι' ∧ held w.2 S1 S' ∧ PostS T E z0 H0 G0 ι0 G ι D (forGo w.2 fb (w.1.drop i) ρ' S')
    have p0 : Pv 0 σ H1 := ⟨ρ, S1, G1, ι1, st.trans st1, Le.refl _, Pre.refl _, g1, f.step st1, held_refl _ _, p⟩
    refine ⟨fun i m σ' H' => m = w.1.length - i ∧ i ≤ w.1.length ∧ Pv i σ' H', ⟨_, rfl, Nat.zero_le _, p0⟩, ?_⟩
    rintro i m σ' H' ⟨rfl, hi, ρ', S', G', ι', st', le', pr', g', f', hd', p'⟩
    have okH : ok H' G' ι' := sty H' G' ι' S' le' pr' (fun z => nomatch z) g' hd'
    have leG : Le G G' := st1.ext.trans le'
    have prG : Pre ι ι' := st1.pre.trans pr'
    by_cases hlt : i < w.1.length
    · refine .inr ⟨wk.go i H' G' ι' hlt okH, Pv (i + 1), fun σ'' H'' q => ⟨w.1.length - (i + 1), by omega, rfl, hlt, q⟩, fun x H'' y => ?_⟩
      obtain ⟨d, G2, ed, rd, stp, g2⟩ := wk.yld i H' G' ι' x H'' S' hlt okH g' y
      have edrop : w.1.drop i = d :: w.1.drop (i + 1) := by
        obtain ⟨h1, h2⟩ := List.getElem?_eq_some_iff.mp ed
        rw [← h2]; exact List.drop_eq_getElem_cons h1
      rw [edrop] at p'
      unfold forGo at p'
      cases es : setTg t d ρ' with
      | none =>
        have e : fb d ρ' S' = .bad := by show (match setTg t d ρ' with | some ρ' => mb ρ' S' | none => Out.bad) = .bad; rw [es]
        rw [e] at p'; exact p'.elim
      | some ρ2 =>
        have e : fb d ρ' S' = mb ρ2 S' := by show (match setTg t d ρ' with | some ρ' => mb ρ' S' | none => Out.bad) = _; rw [es]
        rw [e] at p'
        refine setTg_F g2 (f'.step stp) rd es fun σ2 f2 => ?_
        refine hb σ2 ρ2 H'' G2 ι' S' z0 H0 G0 ι0 _ (st'.trans stp) g2 f2 ?_
        have again : ∀ {ρ3 : Rho} {S3 : Hs}, PostS T E z0 H0 G0 ι0 G ι D (if held w.2 S' S3 then forGo w.2 fb (w.1.drop (i + 1)) ρ3 S3 else .bad) → ∀ σ3 H3 G3 ι3, Stp H0 G0 ι0 G2 ι' H3 G3 ι3 → GRel T H3 S3 G3 ι3 → FRel T z0 H0 σ3 ρ3 H3 G3 ι3 → Pv (i + 1) σ3 H3 := fun {ρ3 S3} q σ3 H3 G3 ι3 t3 g3 f3 => by
          by_cases hh : held w.2 S' S3
          · rw [if_pos hh] at q
            exact ⟨ρ3, S3, G3, ι3, t3.st, (le'.trans stp.ext).trans t3.le, pr'.trans t3.pr, g3, f3, hd'.trans hh, q⟩
          · rw [if_neg hh] at q; exact q.elim
        cases eo : mb ρ2 S' with
        | nx ρ3 S3 => rw [eo] at p'; exact again p'
        | ct ρ3 S3 => rw [eo] at p'; exact again p'
        | bk ρ3 S3 =>
          rw [eo] at p'
          exact fun σ3 H3 G3 ι3 t3 g3 f3 => p' σ3 H3 G3 ι3 ⟨t3.st, (leG.trans stp.ext).trans t3.le, prG.trans t3.pr⟩ g3 f3
        | rt v S3 =>
          rw [eo] at p'
          exact fun y σ3 H3 G3 ι3 t3 => p' y σ3 H3 G3 ι3 ⟨t3.st, (leG.trans stp.ext).trans t3.le, prG.trans t3.pr⟩
        | ex c fs S3 => rw [eo] at p'; exact p'
        | bad => rw [eo] at p'; exact p'
    · have e : i = w.1.length := by omega
      subst e
      refine .inl ⟨wk.stop H' G' ι' okH, ?_⟩
      rw [List.drop_eq_nil_of_le (Nat.le_refl _)] at p'
      unfold forGo at p'
      exact p' σ' H' G' ι' ⟨st', leG, prG⟩ g' f'
theorem sndS_while {tc : TT} {tb : TS} {mc : Rho → Hs → Res Val} {mb : Rho → Hs → Out} (m : Rho → Nat) (hc : SndT T E tc mc) (hb : SndS T E tb mb) :
    SndS T E (tWhile tc tb) fun ρ S => whileGo mc mb (m ρ + 1) ρ S := by
  intro σ ρ H G ι S z0 H0 G0 ι0 D st g f p
  dsimp only at p
  refine ⟨fun n σ' H' => ∃ ρ' S' G' ι', Step H0 G0 ι0 H' G' ι' ∧ Le G G' ∧ Pre ι ι' ∧ GRel T H' S' G' ι' ∧ FRel T z0 H0 σ' ρ' H' G' ι' ∧ PostS T E z0 H0 G0 ι0 G ι D (whileGo mc mb n ρ' S'), ⟨_, ρ, S, G, ι, st, Le.refl _, Pre.refl _, g, f, p⟩, ?_⟩
  rintro n σ' H' ⟨ρ', S', G', ι', st', le', pr', g', f', p'⟩
  cases n with
  | zero => exact p'.elim
  | succ n =>
    unfold whileGo at p'
    refine hc σ' ρ' H' G' ι' S' _ g' f'.s ?_
    cases ea : mc ρ' S' with
    | bad => rw [ea] at p'; exact p'.elim
    | ex c fs S1 => rw [ea] at p'; exact XPost.mono st' p'
    | ok v S1 =>
      rw [ea] at p'
      cases v with
      | d x =>
        cases x with
        | bl b =>
          intro H1 G1 ι1 st1 g1
          cases b with
          | false => exact p' σ' H1 G1 ι1 ⟨st'.trans st1, le'.trans st1.ext, pr'.trans st1.pre⟩ g1 (f'.step st1)
          | true =>
            rw [if_pos rfl]
            have le1 := le'.trans st1.ext
            have pr1 := pr'.trans st1.pre
            refine ⟨fun σ2 H2 => ∃ ρ' S' G' ι', Step H0 G0 ι0 H2 G' ι' ∧ Le G G' ∧ Pre ι ι' ∧ GRel T H2 S' G' ι' ∧ FRel T z0 H0 σ2 ρ' H2 G' ι' ∧ PostS T E z0 H0 G0 ι0 G ι D (whileGo mc mb n ρ' S'), fun σ2 H2 q => ⟨n, Nat.lt_succ_self n, q⟩, ?_⟩
            refine hb σ' ρ' H1 G1 ι1 S1 z0 H0 G0 ι0 _ (st'.trans st1) g1 (f'.step st1) ?_
            replace p' : PostS T E z0 H0 G0 ι0 G ι D (match mb ρ' S1 with
              | .nx ρ' S' => whileGo mc mb n ρ' S'
              | .ct ρ' S' => whileGo mc mb n ρ' S'
              | .bk ρ' S' => .nx ρ' S'
              | o => o) := p'
            cases eo : mb ρ' S1 with
            | nx ρ3 S3 =>
              rw [eo] at p'
              exact fun σ3 H3 G3 ι3 t3 g3 f3 => ⟨ρ3, S3, G3, ι3, t3.st, le1.trans t3.le, pr1.trans t3.pr, g3, f3, p'⟩
            | ct ρ3 S3 =>
              rw [eo] at p'
              exact fun σ3 H3 G3 ι3 t3 g3 f3 => ⟨ρ3, S3, G3, ι3, t3.st, le1.trans t3.le, pr1.trans t3.pr, g3, f3, p'⟩
            | bk ρ3 S3 =>
              rw [eo] at p'
              exact fun σ3 H3 G3 ι3 t3 g3 f3 => p' σ3 H3 G3 ι3 ⟨t3.st, le1.trans t3.le, pr1.trans t3.pr⟩ g3 f3
            | rt v S3 =>
              rw [eo] at p'
              exact fun y σ3 H3 G3 ι3 t3 => p' y σ3 H3 G3 ι3 ⟨t3.st, le1.trans t3.le, pr1.trans t3.pr⟩
            | ex c fs S3 => rw [eo] at p'; exact p'
            | bad => rw [eo] at p'; exact p'
        | _ => exact p'.elim
      | _ => exact p'.elim
end
end Sf
end
section
set_option linter.all false
set_option maxRecDepth 100000
set_option maxHeartbeats 1000000
/-! Sf.Good: the text's expressions follow their code. -/
namespace Sf
open PySem L2

/-! ### facts of syntax -/
def notStar : Expr → Bool
  | .Starred .. => false
  | _ => true
theorem starEach_cons {e : Expr} {es : List Expr} {env : Env} (h : notStar e = true) : starEach (e :: es) env = (false, eval e env) :: starEach es env := by
  cases e <;> first | rfl | cases h
theorem starEach_plain {env : Env} : ∀ {es : List Expr}, es.all notStar = true → (starEach es env).any (·.1) = false
  | [], _ => rfl
  | e :: es, h => by
    rw [List.all_cons, Bool.and_eq_true] at h
    rw [starEach_cons h.1, List.any_cons, starEach_plain h.2]; rfl
theorem backTo_any {pos : Pos} : ∀ {l : List (Bool × Sem Value)}, (backTo pos l).any (·.1) = l.any (·.1) := by
  intro l
  unfold backTo
  rw [List.any_map]
  rfl
def plainBase : Expr → Bool
  | .Call (.Name _ _) [] [] _ => false
  | _ => true
theorem base_plain {e : Expr} {f : Str} {env : Env} (h : plainBase e = true) : attributeBase e f env (eval e env) = eval e env := by
  cases e with
  | Call fn args kws pos =>
    cases fn with
    | Name x p =>
      cases args with
      | nil =>
        cases kws with
        | nil => cases h
        | cons _ _ => rfl
      | cons _ _ => rfl
    | _ => rfl
  | _ => rfl
def plainIx : Expr → Bool
  | .Slice .. => false
  | _ => true
theorem ix_plain {e : Expr} (h : plainIx e = true) : PlainIx e := by
  intro o i
  cases e <;> first | rfl | cases h
def notSet : Expr → Bool
  | .Set .. => false
  | _ => true
theorem set_plain {e : Expr} {env : Env} (h : notSet e = true) : ∀ x, foldedSetIterable e env x = pure x := by
  intro x
  cases e <;> first | rfl | cases h
def enmE : Expr → Bool
  | .Call (.Name x _) _ _ _ => decide (x = ("enumerate" : Str))
  | _ => false
def tupE : Expr → Bool
  | .Tuple .. => true
  | _ => false
/-- enumerate is walked by a pair of names -/
def tgFit (tg it : Expr) : Bool := !enmE it || tupE tg
def fitB (tg it : Expr) : Bool := notSet it && tgFit tg it
theorem fitB_set {tg it : Expr} (h : fitB tg it = true) : notSet it = true := by unfold fitB at h; rw [Bool.and_eq_true] at h; exact h.1
theorem fitB_fit {tg it : Expr} (h : fitB tg it = true) : tgFit tg it = true := by unfold fitB at h; rw [Bool.and_eq_true] at h; exact h.2
theorem marks_plain {e : Expr} {op : CmpOp} (h : notSet e = true) : behindInMarks op e = false := by
  cases e <;> first | rfl | cases h
/-- a test that is a value -/
def valTest : Expr → Bool
  | .Compare .. => false
  | .BoolOp .. => false
  | .UnaryOp .Not _ _ => false
  | .IfExp .. => false
  | .NamedExpr .. => false
  | _ => true
theorem test_plain {e : Expr} {env : Env} (h : valTest e = true) : ∀ whole, isTrue e env whole = (do let v ← whole; standAt e.pos; holding [v] (truthy v)) := by
  intro whole
  cases e with
  | UnaryOp op x p => cases op <;> first | rfl | cases h
  | _ => first | rfl | cases h
theorem form_few {es : List Expr} {env : Env} {pos : Pos} (h : es.all notStar = true) (hl : es.length < 30) : methodCallForm (es.length + ([] : List Keyword).length) (backTo pos (starEach es env)) (backToKw pos (keywordEach [] env)) = true := by
  have h1 : (backTo pos (starEach es env)).all (fun x => !x.1) = true := by
    have h2 := starEach_plain (env := env) h
    rw [← backTo_any (pos := pos)] at h2
    rw [List.all_eq_not_any_not]
    simp only [Bool.not_not]
    rw [h2]; rfl
  unfold methodCallForm
  rw [h1]
  have : es.length + ([] : List Keyword).length + (if (backToKw pos (keywordEach [] env)).isEmpty then 0 else 1) < 30 := by
    show es.length + 0 + 0 < 30
    omega
  simp only [Bool.true_and, Bool.and_eq_true, decide_eq_true_eq]
  exact ⟨rfl, this⟩
theorem meth_tree {o : Expr} {m : Str} {apos pos : Pos} {es : List Expr} {env : Env} (hb : plainBase o = true) (h : es.all notStar = true) (hl : es.length < 30) (hp : (apos.endLine == pos.line) = true) :
    eval (.Call (.Attribute o m apos) es [] pos) env = (do
      let ov ← eval o env
      standAt apos.atName
      let (f, first) ← holding [ov] (getMethod ov m (do return (← importBound o env).getD true))
      callWith pos f first (backTo pos (starEach es env)) (backToKw pos (keywordEach [] env))) := by
  have e1 : eval (.Call (.Attribute o m apos) es [] pos) env = (do
      let ov ← attributeBase o m env (eval o env)
      standAt apos.atName
      methodCall o m apos pos env ov (es.length + ([] : List Keyword).length) (backTo pos (starEach es env)) (backToKw pos (keywordEach [] env))) := rfl
  have e2 : ∀ ov, methodCall o m apos pos env ov (es.length + ([] : List Keyword).length) (backTo pos (starEach es env)) (backToKw pos (keywordEach [] env)) = (do
      let (f, first) ← holding [ov] (getMethod ov m (do return (← importBound o env).getD true))
      callWith pos f first (backTo pos (starEach es env)) (backToKw pos (keywordEach [] env))) := fun ov => by
    unfold methodCall
    rw [form_few h hl]
    unfold methodCallPos
    rw [if_pos (by rw [hp]; rfl)]
    rfl
  rw [e1, base_plain hb]
  simp only [e2]
end Sf
end
section
set_option linter.all false
set_option maxRecDepth 100000
set_option maxHeartbeats 1000000
/-! Sf.Good2: expressions, one by one. -/
namespace Sf
open PySem L2
structure Gam where
  P : Program
  w : World
  T : Tab
  mg : Str → Option Value
  base : Heap
  N : List Str
  k : Nat
/-- the code runs in this context -/
structure On (Γ : Gam) (sc : Scope) (E : XK) (X : Cx) : Prop where
  prog : X.prog = Γ.P
  w : X.w = Γ.w
  K : X.K = Γ.T.K
  mg : X.mg = Γ.mg
  base : X.base = Γ.base
  N : X.N = Γ.N
  nd : Γ.N.Nodup
  sc : X.env.scope = sc
  calm : X.calm = true
  room : Room Γ.k X.A
  pass : Passes (L2N.CX X.prog X.w) X E
def Good (Γ : Gam) (sc : Scope) (E : XK) (e : Expr) (m : Rho → Hs → Res Val) : Prop := ∃ t, (∀ X, On Γ sc E X → PE X e t) ∧ Snd Γ.T E t m
def GoodT (Γ : Gam) (sc : Scope) (E : XK) (e : Expr) (m : Rho → Hs → Res Val) : Prop := ∃ t, (∀ X, On Γ sc E X → PT X e t) ∧ SndT Γ.T E t m
def GoodA (Γ : Gam) (sc : Scope) (E : XK) (es : List Expr) (m : Rho → Hs → Res (List D)) : Prop := ∃ t, (∀ X, On Γ sc E X → PA X es t) ∧ SndA Γ.T E t m
def GoodV (Γ : Gam) (sc : Scope) (E : XK) (es : List Expr) (m : Rho → Hs → Res (List Val)) : Prop := ∃ t, (∀ X, On Γ sc E X → PA X es t) ∧ SndV Γ.T E t m
def GoodI (Γ : Gam) (sc : Scope) (E : XK) (fx : Bool) (e : Expr) (m : Rho → Hs → Res (List D × Option Nat)) : Prop := ∃ t, (∀ X tg, On Γ sc E X → tgFit tg e = true → PI X tg e t) ∧ SndI Γ.T fx E t m
def GoodO (Γ : Gam) (sc : Scope) (E : XK) (e : Option Expr) (m : Rho → Hs → Res (Option Int)) : Prop := ∃ t, (∀ X, On Γ sc E X → PO X e t) ∧
  ∀ (σ : St) (ρ : Rho) (H G : Hp) (ι : List Addr) (S : Hs) (Q : Option Int → Hp → Prop), GRel Γ.T H S G ι → SRel Γ.T σ ρ H G ι → (match m ρ S with
    | .ok o S' => ∀ H' G' ι', Step H G ι H' G' ι' → GRel Γ.T H' S' G' ι' → Q o H'
    | .ex c fs S' => XPost Γ.T H G ι E c fs S'
    | .bad => False) → t σ H Q
def visB (sc : Scope) (x : Str) : Bool := match sc.names.lookup x with
  | some .local => true
  | some .cell => true
  | some .free => true
  | _ => false
theorem vis_of {sc : Scope} {x : Str} (h : visB sc x = true) : Vis sc x := by
  unfold visB at h
  split at h
  · exact .inl (by assumption)
  · exact .inr (.inl (by assumption))
  · exact .inr (.inr (by assumption))
  · cases h
def glB (sc : Scope) (x : Str) : Bool := match sc.names.lookup x with
  | some .globalImplicit => true
  | _ => false
def okName (x : Str) : Bool := !(x == ("__debug__" : Str)) && !(x == ("__classdict__" : Str)) && !(x == ("__name__" : Str))
theorem okName_d {x : Str} (h : okName x = true) : (x == ("__debug__" : Str)) = false := by
  unfold okName at h
  cases e : (x == ("__debug__" : Str)) with
  | false => rfl
  | true => rw [e] at h; cases h
theorem okName_c {x : Str} (h : okName x = true) : (x == ("__classdict__" : Str)) = false := by
  unfold okName at h
  cases e : (x == ("__classdict__" : Str)) with
  | false => rfl
  | true => rw [e] at h; simp at h
theorem okName_n {x : Str} (h : okName x = true) : x ≠ "__name__" := by
  unfold okName at h
  intro e
  subst e
  revert h
  decide
section
variable {Γ : Gam} {sc : Scope} {E : XK} {sg : Sg}
theorem On.gl {X : Cx} (on : On Γ sc E X) {x : Str} (h : glB sc x = true) : Gl X x := by
  unfold glB at h
  rw [← on.sc] at h
  split at h
  · assumption
  · cases h
theorem good_var {x : Str} {pos : Pos} (i : Nat) (hN : Γ.N[i]? = some x) (hv : visB sc x = true) (hx : okName x = true) : Good Γ sc E (.Name x pos) (ev sg (.var i)) :=
  ⟨tVar i, fun X on => pe_var (by rw [on.N]; exact hN) (by rw [on.sc]; exact vis_of hv) (okName_d hx) (okName_c hx), snd_var i⟩
theorem good_int {i : Int} {j : Nat} {pos : Pos} : Good Γ sc E (.Constant (.int i) j pos) (ev sg (.int i)) := ⟨_, fun _ _ => pe_int, snd_c (fun _ _ => rfl) fun _ _ => .int i⟩
theorem good_bl {b : Bool} {j : Nat} {pos : Pos} : Good Γ sc E (.Constant (.bool b) j pos) (ev sg (.bl b)) := ⟨_, fun _ _ => pe_bl, snd_c (fun _ _ => rfl) fun _ _ => .bl b⟩
theorem good_non {j : Nat} {pos : Pos} : Good Γ sc E (.Constant .none j pos) (ev sg .non) := ⟨_, fun _ _ => pe_non, snd_c (fun _ _ => rfl) fun _ _ => .non⟩
theorem good_str {x : Str} {j : Nat} {pos : Pos} : Good Γ sc E (.Constant (.str x) j pos) (ev sg (.str x)) := ⟨_, fun _ _ => pe_str, snd_c (fun _ _ => rfl) fun _ _ => .str x⟩
theorem good_gint {x : Str} {i : Int} {pos : Pos} (hg : glB sc x = true) (hx : okName x = true) (hm : ∃ t, Γ.mg x = some (.int i t)) : Good Γ sc E (.Name x pos) (ev sg (.gint x i)) := by
  obtain ⟨t, hm⟩ := hm
  exact ⟨_, fun X on => pe_glob (v := .int i) (on.gl hg) (by rw [on.mg]; exact hm) ⟨_, rfl⟩ (okName_d hx), snd_c (fun _ _ => rfl) fun _ _ => .int i⟩
theorem good_bin {a b : Expr} {op : Operator} {pos : Pos} {ca cb : C} (ha : Good Γ sc E a (ev sg ca)) (hb : Good Γ sc E b (ev sg cb)) : Good Γ sc E (.BinOp a op b pos) (ev sg (.bin op ca cb)) := by
  obtain ⟨ta, pa, sa⟩ := ha
  obtain ⟨tb, pb, sb⟩ := hb
  refine ⟨tOp (binR Γ.T.K op) ta tb, fun X on => ?_, snd_two sa sb fun σ ρ H0 H1 H G ι S Q x y v u g s hx hy p => bin_ok op g s hx hy p⟩
  have h := op_binD (X := X) op
  rw [on.K] at h
  exact pe_op h (pa X on) (pb X on)
theorem snd_negI {T : Tab} {E : XK} {ta : TE} {ma : Rho → Hs → Res Val} (ha : Snd T E ta ma) : Snd T E (tUn (rU fun i => .int (-i)) ta) fun ρ S => (ma ρ S).bind fun x S => match x with
    | .d (.int i) => .ok (.d (.int (-i))) S
    | _ => .bad := snd_one (r := rU fun i => .int (-i)) ha fun σ ρ H0 H G ι S Q x v g s hx p => by
  cases v with
  | d d =>
    cases hx with
    | int i => exact ⟨i, rfl, Post.fin p g (.int _)⟩
    | _ => exact p.elim
  | _ => exact p.elim
theorem good_neg {a : Expr} {pos : Pos} {ca : C} (ha : Good Γ sc E a (ev sg ca)) : Good Γ sc E (.UnaryOp .USub a pos) (ev sg (.neg ca)) := by
  obtain ⟨ta, pa, sa⟩ := ha
  exact ⟨_, fun X on => pe_un un_neg (pa X on), snd_negI sa⟩
theorem good_not {a : Expr} {pos : Pos} {ca : C} (ha : Good Γ sc E a (ev sg ca)) : Good Γ sc E (.UnaryOp .Not a pos) (ev sg (.not ca)) := by
  obtain ⟨ta, pa, sa⟩ := ha
  exact ⟨_, fun X on => pe_not (pa X on), snd_not sa⟩
theorem goodT_not {a : Expr} {pos : Pos} {ca : C} (ha : GoodT Γ sc E a (ev sg ca)) : GoodT Γ sc E (.UnaryOp .Not a pos) (ev sg (.not ca)) := by
  obtain ⟨ta, pa, sa⟩ := ha
  exact ⟨_, fun X on => pt_not (pa X on), sndT_not sa⟩
theorem goodT_val {e : Expr} {c : C} (ht : valTest e = true) (h : Good Γ sc E e (ev sg c)) : GoodT Γ sc E e (ev sg c) := by
  obtain ⟨t, p, s⟩ := h
  exact ⟨_, fun X on => pt_val (p X on) (test_plain ht), sndT_val s⟩
theorem good_and {a b : Expr} {r : List Expr} {pos : Pos} {ca cb : C} (ha : Good Γ sc E a (ev sg ca)) (hb : Good Γ sc E (.BoolOp .And (b :: r) pos) (ev sg cb)) : Good Γ sc E (.BoolOp .And (a :: b :: r) pos) (ev sg (.and ca cb)) := by
  obtain ⟨ta, pa, sa⟩ := ha
  obtain ⟨tb, pb, sb⟩ := hb
  exact ⟨_, fun X on => pe_and (pa X on) (pb X on), snd_and sa sb⟩
theorem good_or {a b : Expr} {r : List Expr} {pos : Pos} {ca cb : C} (ha : Good Γ sc E a (ev sg ca)) (hb : Good Γ sc E (.BoolOp .Or (b :: r) pos) (ev sg cb)) : Good Γ sc E (.BoolOp .Or (a :: b :: r) pos) (ev sg (.or ca cb)) := by
  obtain ⟨ta, pa, sa⟩ := ha
  obtain ⟨tb, pb, sb⟩ := hb
  exact ⟨_, fun X on => pe_or (pa X on) (pb X on), snd_or sa sb⟩
theorem good_one {op : BoolOp} {a : Expr} {pos : Pos} {m : Rho → Hs → Res Val} (ha : Good Γ sc E a m) : Good Γ sc E (.BoolOp op [a] pos) m := by
  obtain ⟨ta, pa, sa⟩ := ha
  exact ⟨_, fun X on => pe_one (pa X on), sa⟩
/-- a test within and, or: whatever stands around -/
def GoodW (Γ : Gam) (sc : Scope) (E : XK) (e : Expr) (m : Rho → Hs → Res Val) : Prop := ∃ t, (∀ X, On Γ sc E X → PW X e t) ∧ SndT Γ.T E t m
theorem goodW_and {a b : Expr} {r : List Expr} {pos : Pos} {ca cb : C} (ha : GoodT Γ sc E a (ev sg ca)) (hb : GoodW Γ sc E (.BoolOp .And (b :: r) pos) (ev sg cb)) : GoodW Γ sc E (.BoolOp .And (a :: b :: r) pos) (ev sg (.and ca cb)) := by
  obtain ⟨ta, pa, sa⟩ := ha
  obtain ⟨tb, pb, sb⟩ := hb
  exact ⟨_, fun X on => pw_and (pa X on) (pb X on), sndT_and sa sb⟩
theorem goodW_or {a b : Expr} {r : List Expr} {pos : Pos} {ca cb : C} (ha : GoodT Γ sc E a (ev sg ca)) (hb : GoodW Γ sc E (.BoolOp .Or (b :: r) pos) (ev sg cb)) : GoodW Γ sc E (.BoolOp .Or (a :: b :: r) pos) (ev sg (.or ca cb)) := by
  obtain ⟨ta, pa, sa⟩ := ha
  obtain ⟨tb, pb, sb⟩ := hb
  exact ⟨_, fun X on => pw_or (pa X on) (pb X on), sndT_or sa sb⟩
theorem goodW_one {op : BoolOp} {a : Expr} {pos : Pos} {m : Rho → Hs → Res Val} (ha : GoodT Γ sc E a m) : GoodW Γ sc E (.BoolOp op [a] pos) m := by
  obtain ⟨ta, pa, sa⟩ := ha
  cases op with
  | And => exact ⟨_, fun X on => pw_and1 (pa X on), sa⟩
  | Or => exact ⟨_, fun X on => pw_or1 (pa X on), sa⟩
theorem GoodW.t {e : Expr} {m : Rho → Hs → Res Val} (h : GoodW Γ sc E e m) : GoodT Γ sc E e m := by
  obtain ⟨t, p, s⟩ := h
  exact ⟨t, fun X on => (p X on).pt, s⟩
theorem good_cmp {a b : Expr} {op : CmpOp} {pos : Pos} {ca cb : C} (hm : notSet b = true) (ha : Good Γ sc E a (ev sg ca)) (hb : Good Γ sc E b (ev sg cb)) : Good Γ sc E (.Compare a [op] [b] pos) (ev sg (.cmp op ca cb)) := by
  obtain ⟨ta, pa, sa⟩ := ha
  obtain ⟨tb, pb, sb⟩ := hb
  refine ⟨tOp (cmpR Γ.T.K op) ta tb, fun X on => ?_, snd_two sa sb fun σ ρ H0 H1 H G ι S Q x y v u g s hx hy p => cmp_ok op g s hx hy p⟩
  have h := op_cmpD (X := X) on.room op
  rw [on.K] at h
  exact pe_cmpR h (pa X on) (pb X on) (marks_plain hm)
theorem goodT_cmp {a b : Expr} {op : CmpOp} {pos : Pos} {ca cb : C} (hm : notSet b = true) (ha : Good Γ sc E a (ev sg ca)) (hb : Good Γ sc E b (ev sg cb)) : GoodT Γ sc E (.Compare a [op] [b] pos) (ev sg (.cmp op ca cb)) := by
  obtain ⟨ta, pa, sa⟩ := ha
  obtain ⟨tb, pb, sb⟩ := hb
  refine ⟨tTest (tOp (cmpR Γ.T.K op) ta tb), fun X on => ?_, sndT_val (snd_two sa sb fun σ ρ H0 H1 H G ι S Q x y v u g s hx hy p => cmp_ok op g s hx hy p)⟩
  have h := op_cmpD (X := X) on.room op
  rw [on.K] at h
  exact pt_cmpR h (pa X on) (pb X on) (marks_plain hm)
theorem isNon_rel {T : Tab} {σ : St} {H0 H G : Hp} {ι : List Addr} {x : V} {v : Val} {b : Bool} (h : VRel T σ H0 H G ι x v) (e : isNon v = some b) : decide (x = .non) = b := by
  cases v with
  | d d => cases h <;> cases e <;> rfl
  | fr l =>
    obtain ⟨a, vs, rfl, _⟩ := h
    cases e; rfl
  | ow i => cases e
theorem snd_isN {T : Tab} {E : XK} {ta : TE} {ma : Rho → Hs → Res Val} (ha : Snd T E ta ma) : Snd T E (tIsN ta) fun ρ S => (ma ρ S).bind fun x S => Res.of ((isNon x).map fun b => .d (.bl b)) S :=
  snd_one (r := fun x H Q => Q (.bl (decide (x = .non))) H) ha fun σ ρ H0 H G ι S Q x v g s hx p => by
    cases e : isNon v with
    | none => rw [e] at p; exact p.elim
    | some b =>
      rw [e] at p
      rw [isNon_rel hx e]
      exact Post.fin p g (.bl b)
theorem snd_notN {T : Tab} {E : XK} {ta : TE} {ma : Rho → Hs → Res Val} (ha : Snd T E ta ma) : Snd T E (tNotN ta) fun ρ S => (ma ρ S).bind fun x S => Res.of ((isNon x).map fun b => .d (.bl (!b))) S :=
  snd_one (r := fun x H Q => Q (.bl (!decide (x = .non))) H) ha fun σ ρ H0 H G ι S Q x v g s hx p => by
    cases e : isNon v with
    | none => rw [e] at p; exact p.elim
    | some b =>
      rw [e] at p
      rw [isNon_rel hx e]
      exact Post.fin p g (.bl (!b))
theorem good_isN {a : Expr} {j : Nat} {p1 pos : Pos} {ca : C} (ha : Good Γ sc E a (ev sg ca)) : Good Γ sc E (.Compare a [.Is] [.Constant .none j p1] pos) (ev sg (.isN ca)) := by
  obtain ⟨ta, pa, sa⟩ := ha
  exact ⟨_, fun X on => pe_cmp (pc_isN (pa X on)) rfl, snd_isN sa⟩
theorem goodT_isN {a : Expr} {j : Nat} {p1 pos : Pos} {ca : C} (ha : Good Γ sc E a (ev sg ca)) : GoodT Γ sc E (.Compare a [.Is] [.Constant .none j p1] pos) (ev sg (.isN ca)) := by
  obtain ⟨ta, pa, sa⟩ := ha
  exact ⟨_, fun X on => pt_cmp (pc_isN (pa X on)) rfl, sndT_val (snd_isN sa)⟩
theorem good_notN {a : Expr} {j : Nat} {p1 pos : Pos} {ca : C} (ha : Good Γ sc E a (ev sg ca)) : Good Γ sc E (.Compare a [.IsNot] [.Constant .none j p1] pos) (ev sg (.notN ca)) := by
  obtain ⟨ta, pa, sa⟩ := ha
  exact ⟨_, fun X on => pe_cmp (pc_notN (pa X on)) rfl, snd_notN sa⟩
theorem goodT_notN {a : Expr} {j : Nat} {p1 pos : Pos} {ca : C} (ha : Good Γ sc E a (ev sg ca)) : GoodT Γ sc E (.Compare a [.IsNot] [.Constant .none j p1] pos) (ev sg (.notN ca)) := by
  obtain ⟨ta, pa, sa⟩ := ha
  exact ⟨_, fun X on => pt_cmp (pc_notN (pa X on)) rfl, sndT_val (snd_notN sa)⟩
theorem good_ite {c a b : Expr} {pos : Pos} {cc ca cb : C} (hc : GoodT Γ sc E c (ev sg cc)) (ha : Good Γ sc E a (ev sg ca)) (hb : Good Γ sc E b (ev sg cb)) : Good Γ sc E (.IfExp c a b pos) (ev sg (.ite cc ca cb)) := by
  obtain ⟨tc, pc, sc'⟩ := hc
  obtain ⟨ta, pa, sa⟩ := ha
  obtain ⟨tb, pb, sb⟩ := hb
  exact ⟨_, fun X on => pe_ifExp (pc X on) (pa X on) (pb X on), snd_if sc' sa sb⟩
/-! ### fields -/
structure FldF (Γ : Gam) (f : Str) (cs : List (Nat × Nat)) : Prop where
  at_ : ∀ c p, cs.lookup c = some p → Cls Γ.T.K (Γ.T.cad c) ∧ NoAttr Γ.T.K (Γ.T.cad c) f ∧ (Γ.T.cfl c)[p]? = some f ∧ (Γ.T.cfl c).Nodup
theorem lookup_at : ∀ {fs : List (Str × V)} {p : Nat} {f : Str} {v : V}, (fs.map (·.1)).Nodup → (fs.map (·.1))[p]? = some f → (fs.map (·.2))[p]? = some v → fs.lookup f = some v
  | [], p, f, v, _, h, _ => by simp at h
  | (g, u) :: r, 0, f, v, _, h1, h2 => by
    simp at h1 h2
    subst h1 h2
    simp [List.lookup]
  | (g, u) :: r, p + 1, f, v, nd, h1, h2 => by
    simp only [List.map_cons, List.nodup_cons] at nd
    have h1 : (r.map (·.1))[p]? = some f := by simpa using h1
    have h2 : (r.map (·.2))[p]? = some v := by simpa using h2
    have ne : f ≠ g := fun e => nd.1 (e ▸ List.mem_of_getElem? h1)
    show (match f == g with
      | true => some u
      | false => r.lookup f) = some v
    rw [beq_eq_false_iff_ne.mpr ne]
    exact lookup_at nd.2 h1 h2
def rFld (K : PySem.W.Frag) (f : Str) : V → Hp → VK → Prop := fun x H1 Q => ∃ a C dx fs v, x = .ref a ∧ H1 a = some (.ins C dx fs) ∧ Cls K C ∧ NoAttr K C f ∧ fs.lookup f = some v ∧ Q v H1
def fldR (cs : List (Nat × Nat)) (v : Val) (S : Hs) : Res Val := match v with
  | .d (.obj c l) => Res.of (((cs.lookup c).bind fun p => l[p]?).map .d) S
  | _ => .bad
theorem fld_ok {f : Str} {cs : List (Nat × Nat)} (F : FldF Γ f cs) {σ : St} {H0 H G : Hp} {ι : List Addr} {S : Hs} {Q : VK} {x : V} {v : Val} (g : GRel Γ.T H S G ι) (hx : VRel Γ.T σ H0 H G ι x v) (p : Post Γ.T σ H G ι Q E (fldR cs v S)) : rFld Γ.T.K f x H Q := by
  cases v with
  | d d =>
    cases hx with
    | obj h1 h2 h3 =>
      rename_i a dx c fs ds
      replace p : Post Γ.T σ H G ι Q E (Res.of (((cs.lookup c).bind fun p => ds[p]?).map .d) S) := p
      cases e1 : cs.lookup c with
      | none => rw [e1] at p; exact p.elim
      | some k =>
        rw [e1] at p
        cases e2 : ds[k]? with
        | none => dsimp only [Option.bind] at p; rw [e2] at p; exact p.elim
        | some d =>
          dsimp only [Option.bind] at p
          rw [e2] at p
          obtain ⟨f1, f2, f3, f4⟩ := F.at_ c k e1
          obtain ⟨w, e3, r⟩ := h3.get e2
          exact ⟨a, _, dx, fs, w, rfl, g.sub _ _ h1, f1, f2, lookup_at (by rw [h2]; exact f4) (by rw [h2]; exact f3) e3, Post.fin p g r⟩
    | _ => exact p.elim
  | _ => exact p.elim
theorem good_fld {a : Expr} {f : Str} {pos : Pos} {ca : C} {cs : List (Nat × Nat)} (hb : plainBase a = true) (F : FldF Γ f cs) (ha : Good Γ sc E a (ev sg ca)) : Good Γ sc E (.Attribute a f pos) (ev sg (.fld f cs ca)) := by
  obtain ⟨ta, pa, sa⟩ := ha
  refine ⟨tFld Γ.T.K ta f, fun X on => ?_, snd_one (r := rFld Γ.T.K f) sa fun σ ρ H0 H G ι S Q x v g s hx p => fld_ok F g hx p⟩
  have h := pe_fld (pos := pos) (f := f) (pa X on) (base_plain hb)
  rw [on.K] at h
  exact h
/-! ### subscripts -/
theorem good_ix {a b : Expr} {pos : Pos} {ca cb : C} (hi : plainIx b = true) (ha : Good Γ sc E a (ev sg ca)) (hb : Good Γ sc E b (ev sg cb)) : Good Γ sc E (.Subscript a b pos) (ev sg (.ix ca cb)) := by
  obtain ⟨ta, pa, sa⟩ := ha
  obtain ⟨tb, pb, sb⟩ := hb
  refine ⟨tOp (ixR Γ.T.K) ta tb, fun X on => ?_, snd_two sa sb fun σ ρ H0 H1 H G ι S Q x y v u g s hx hy p => ix_ok g s hx hy p⟩
  have h := ix_D (X := X)
  rw [on.K] at h
  exact pe_ix h (pa X on) (pb X on) (ix_plain hi)
theorem goodO_no : GoodO Γ sc E none (evO sg .no) := ⟨_, fun _ _ => po_none, fun σ ρ H G ι S Q g s p => p H G ι (Step.refl _ _ _) g⟩
theorem goodO_so {a : Expr} {ca : C} (ha : Good Γ sc E a (ev sg ca)) : GoodO Γ sc E (some a) (evO sg (.so ca)) := by
  obtain ⟨ta, pa, sa⟩ := ha
  refine ⟨_, fun X on => po_some (pa X on), fun σ ρ H G ι S Q g s p => sa σ ρ H G ι S _ g s ?_⟩
  unfold evO at p
  cases ea : ev sg ca ρ S with
  | bad => rw [ea] at p; exact p.elim
  | ex c fs S' => rw [ea] at p; exact p
  | ok v S1 =>
    rw [ea] at p
    cases v with
    | d d =>
      cases d with
      | int i =>
        intro x H1 G1 ι1 st1 g1 vx
        cases vx with
        | int => exact ⟨i, rfl, p H1 G1 ι1 st1 g1⟩
      | _ => exact p.elim
    | _ => exact p.elim
theorem good_slc {a : Expr} {lo hi : Option Expr} {p2 pos : Pos} {ca : C} {cl ch : Oc} (ha : Good Γ sc E a (ev sg ca)) (hl : GoodO Γ sc E lo (evO sg cl)) (hh : GoodO Γ sc E hi (evO sg ch)) :
    Good Γ sc E (.Subscript a (.Slice lo hi none p2) pos) (ev sg (.slc ca cl ch)) := by
  obtain ⟨ta, pa, sa⟩ := ha
  obtain ⟨tl, pl, sl⟩ := hl
  obtain ⟨th, ph, sh⟩ := hh
  refine ⟨tSl (fun x lo hi H Q => rSlL Γ.T.K x lo hi H Q ∨ rSlS x lo hi H Q) ta tl th, fun X on => ?_, fun σ ρ H G ι S Q g s p => sa σ ρ H G ι S _ g s ?_⟩
  · have h := (sl_list (X := X)).or sl_str
    rw [on.K] at h
    exact pe_slice h (pa X on) (pl X on) (ph X on)
  unfold ev at p
  cases ea : ev sg ca ρ S with
  | bad => rw [ea] at p; exact p.elim
  | ex c fs S' => rw [ea] at p; exact p
  | ok v S1 =>
    rw [ea] at p
    intro x H1 G1 ι1 st1 g1 vx
    refine sl σ ρ H1 G1 ι1 S1 _ g1 (s.step st1) ?_
    replace p : Post Γ.T σ H G ι Q E ((evO sg cl ρ S1).bind fun p S => (evO sg ch ρ S).bind fun q S => Res.of (slcV ρ S v p q) S) := p
    cases el : evO sg cl ρ S1 with
    | bad => rw [el] at p; exact p.elim
    | ex c fs S' => rw [el] at p; exact XPost.mono st1 p
    | ok o S2 =>
      rw [el] at p
      intro H2 G2 ι2 st2 g2
      refine sh σ ρ H2 G2 ι2 S2 _ g2 ((s.step st1).step st2) ?_
      replace p : Post Γ.T σ H G ι Q E ((evO sg ch ρ S2).bind fun q S => Res.of (slcV ρ S v o q) S) := p
      cases eh : evO sg ch ρ S2 with
      | bad => rw [eh] at p; exact p.elim
      | ex c fs S' => rw [eh] at p; exact XPost.mono (st1.trans st2) p
      | ok q S3 =>
        rw [eh] at p
        intro H3 G3 ι3 st3 g3
        have st := (st1.trans st2).trans st3
        replace p : Post Γ.T σ H G ι Q E (Res.of (slcV ρ S3 v o q) S3) := p
        replace p := Post.mono st p
        unfold slcV at p
        split at p
        · cases vx
          split at p
          · rename_i z hz
            exact .inr ⟨_, rfl, Nat.le_trans hz big_line, Post.fin p g3 (.str _)⟩
          · exact p.elim
        · cases ec : contL ρ S3 v with
          | none => rw [ec] at p; exact p.elim
          | some l =>
            rw [ec] at p
            obtain ⟨a, vs, rfl, e2, e3, e4⟩ := contL_rel g3 (s.step st) ((vx.step st2).step st3) ec
            exact .inl ⟨a, vs, rfl, SqL.of e2, fun r hr => Post.fin_lst p g3 (Nat.le_trans (cutV_length _ _ _) e3) (cut_rel o q e4) hr⟩
/-! ### arguments, displays -/
theorem goodA_nil : GoodA Γ sc E [] (evs sg .nil) := ⟨_, fun _ _ => pa_nil, sndA_nil⟩
theorem goodA_cons {a : Expr} {r : List Expr} {ca : C} {cr : Cs} (hs : notStar a = true) (ha : Good Γ sc E a (ev sg ca)) (hr : GoodA Γ sc E r (evs sg cr)) : GoodA Γ sc E (a :: r) (evs sg (.cons ca cr)) := by
  obtain ⟨ta, pa, sa⟩ := ha
  obtain ⟨tr, pr, sr⟩ := hr
  exact ⟨_, fun X on => pa_cons (pa X on) (pr X on) (starEach_cons hs), sndA_cons sa sr⟩
theorem goodV_nil : GoodV Γ sc E [] (evv sg .nil) := ⟨_, fun _ _ => pa_nil, sndV_nil⟩
theorem goodV_cons {a : Expr} {r : List Expr} {ca : C} {cr : Cs} (hs : notStar a = true) (ha : Good Γ sc E a (ev sg ca)) (hr : GoodV Γ sc E r (evv sg cr)) : GoodV Γ sc E (a :: r) (evv sg (.cons ca cr)) := by
  obtain ⟨ta, pa, sa⟩ := ha
  obtain ⟨tr, pr, sr⟩ := hr
  exact ⟨_, fun X on => pa_cons (pa X on) (pr X on) (starEach_cons hs), sndV_cons sa sr⟩
def Cs.len : Cs → Nat
  | .nil => 0
  | .cons _ r => r.len + 1
theorem evs_len : ∀ {as : Cs} {ρ : Rho} {S : Hs} {ds : List D} {S' : Hs}, evs sg as ρ S = .ok ds S' → ds.length = as.len
  | .nil, ρ, S, ds, S', h => by
    unfold evs at h
    cases h; rfl
  | .cons a r, ρ, S, ds, S', h => by
    unfold evs at h
    cases ea : ev sg a ρ S with
    | bad => rw [ea] at h; cases h
    | ex c fs S' => rw [ea] at h; cases h
    | ok v S1 =>
      rw [ea] at h
      replace h : (match v.toD with
        | some x => (evs sg r ρ S1).bind fun xs S => Res.ok (x :: xs) S
        | none => .bad) = .ok ds S' := h
      cases ed : v.toD with
      | none => rw [ed] at h; cases h
      | some d =>
        rw [ed] at h
        replace h : ((evs sg r ρ S1).bind fun xs S => Res.ok (d :: xs) S) = .ok ds S' := h
        cases er : evs sg r ρ S1 with
        | bad => rw [er] at h; cases h
        | ex c fs S' => rw [er] at h; cases h
        | ok xs S2 =>
          rw [er] at h
          cases h
          rw [List.length_cons, evs_len er]; rfl
theorem good_tup {es : List Expr} {k : Nat} {pos : Pos} {as : Cs} (hl : as.len ≤ 1000) (ha : GoodA Γ sc E es (evs sg as)) : Good Γ sc E (.Tuple es k pos) (ev sg (.tup as)) := by
  obtain ⟨ta, pa, sa⟩ := ha
  exact ⟨_, fun X on => pe_tup (pa X on), snd_tup sa as.len hl fun _ _ _ _ h => evs_len h⟩
theorem good_lst {es : List Expr} {pos : Pos} {as : Cs} (hl : as.len ≤ 1000) (ha : GoodA Γ sc E es (evs sg as)) : Good Γ sc E (.List es pos) (ev sg (.lst as)) := by
  obtain ⟨ta, pa, sa⟩ := ha
  exact ⟨_, fun X on => pe_lst (pa X on), snd_lst sa as.len hl fun _ _ _ _ h => evs_len h⟩
/-! ### built-ins -/
theorem good_blt {x : Str} {p pos : Pos} {e : Expr} {es : List Expr} {as : Cs} (f : Bf) (hx : x = (bltN f : Str)) (hg : glB sc x = true) (hm : Γ.mg x = none) (hs : (e :: es).all notStar = true) (ha : GoodV Γ sc E (e :: es) (evv sg as)) : Good Γ sc E (.Call (.Name x p) (e :: es) [] pos) (ev sg (.blt f as)) := by
  obtain ⟨ta, pa, sa⟩ := ha
  rw [List.all_cons, Bool.and_eq_true] at hs
  refine ⟨tCB (bltR Γ.T.K f) ta, fun X on => ?_, fun σ ρ H G ι S Q g s p => sa σ ρ H G ι S _ g s ?_⟩
  · have hpl : (backTo pos (starEach es X.env)).any (·.1) = false := by rw [backTo_any]; exact starEach_plain hs.2
    have hgl := on.gl hg
    have hmx : X.mg x = none := by rw [on.mg]; exact hm
    cases hty : bltTy f with
    | false =>
      have h := blt_fn on.calm hty
      rw [on.K] at h
      exact pe_callB h hgl hmx (by subst hx; cases f <;> first | decide +kernel | cases hty) (pa X on) (by subst hx; cases f <;> decide +kernel) (by subst hx; cases f <;> decide +kernel) (starEach_cons hs.1) hpl
    | true =>
      have h := blt_ty (X := X) hty
      rw [on.K] at h
      exact pe_callTy h hgl hmx (by subst hx; cases f <;> first | decide +kernel | cases hty) (pa X on) (by subst hx; cases f <;> decide +kernel) (by subst hx; cases f <;> decide +kernel) (starEach_cons hs.1) hpl
  · unfold ev at p
    cases ea : evv sg as ρ S with
    | bad => rw [ea] at p; exact p.elim
    | ex c fs S' => rw [ea] at p; exact p
    | ok xs S1 =>
      rw [ea] at p
      intro vs H1 G1 ι1 st1 g1 vx
      exact blt_ok f g1 (s.step st1) vx (Post.mono st1 p)
end
end Sf
end
section
set_option linter.all false
set_option maxRecDepth 100000
set_option maxHeartbeats 1000000
/-! Sf.Good3: comprehensions, calls. -/
namespace Sf
open PySem L2
/-! ### what a def promises -/
def spR (T : Tab) (F : Fn) : Sp := fun vs H Q E => ∃ ds S G ι, GRel T H S G ι ∧ Reps T G ι vs ds ∧ Post T [] H G ι Q E (F ds S)
theorem Post.nil {T : Tab} {σ : St} {H G : Hp} {ι : List Addr} {Q : VK} {E : XK} {r : Res Val} (p : Post T σ H G ι Q E r) : Post T [] H G ι Q E r := by
  cases r with
  | ok v S =>
    intro x H' G' ι' st g vr
    refine p x H' G' ι' st g ?_
    cases v with
    | d d => exact vr
    | fr l => exact vr
    | ow i => have vr : ([] : St)[i]? = some (some x) := vr; simp at vr
  | ex c fs S => exact p
  | bad => exact p
abbrev FR (Γ : Gam) (f : Addr) (sp : Sp) : Prop := FnR Γ.P Γ.w Γ.T.K Γ.mg Γ.base (L2N.CX Γ.P Γ.w) Γ.k f sp
structure FnF (Γ : Gam) (x : Str) (F : Fn) : Prop where
  at_ : ∃ (f : Addr), FR Γ f (spR Γ.T F) ∧ Γ.mg x = some (.ref f) ∧ PySem.W.keepIn Γ.T.K (.ref f) = true
/-- x(..), by a positional promise -/
def tCallR (sp : Sp) (E : XK) (t : TA) : TE := fun σ H Q => t σ H fun vs H1 => sp vs H1 Q E
section
variable {Γ : Gam} {sc : Scope} {E : XK} {sg : Sg}
theorem snd_call {ts : TA} {ms : Rho → Hs → Res (List D)} {F : Fn} (sa : SndA Γ.T E ts ms) : Snd Γ.T E (tCallR (spR Γ.T F) E ts) fun ρ S => (ms ρ S).bind fun ds S => F ds S := by
  intro σ ρ H G ι S Q g s p
  dsimp only at p
  refine sa σ ρ H G ι S _ g s ?_
  cases ea : ms ρ S with
  | bad => rw [ea] at p; exact p.elim
  | ex c fs S' => rw [ea] at p; exact p
  | ok ds S1 =>
    rw [ea] at p
    intro vs H1 G1 ι1 st1 g1 rs
    replace p : Post Γ.T σ H G ι Q E (F ds S1) := p
    exact ⟨ds, S1, G1, ι1, g1, rs, (Post.mono st1 p).nil⟩
theorem On.fr {X : Cx} (on : On Γ sc E X) {f : Addr} {sp : Sp} (F : FR Γ f sp) : FnR X.prog X.w X.K X.mg X.base (L2N.CX X.prog X.w) Γ.k f sp := by
  rw [on.prog, on.w, on.K, on.mg, on.base]; exact F
theorem pe_callR {X : Cx} {CX : CXT} {k : Nat} {f : Addr} {sp : Sp} {x : Str} {p pos : Pos} {e : Expr} {es : List Expr} {t : TA} (F : FnR X.prog X.w X.K X.mg X.base CX k f sp) (hr : Room k X.A) (hg : Gl X x) (hm : X.mg x = some (.ref f)) (hk : PySem.W.keepIn X.K (.ref f) = true) (hx : Passes CX X E)
    (ha : PA X (e :: es) t) (hdb : (x == ("__debug__" : Str)) = false) (he : starEach (e :: es) X.env = (false, eval e X.env) :: starEach es X.env) (hpl : (backTo pos (starEach es X.env)).any (·.1) = false) :
    PE X (.Call (.Name x p) (e :: es) [] pos) (tCallR sp E t) := by
  refine ⟨fun pins s σ H Q I h => ?_⟩
  refine wpAny_Call_Name_kw (ld_glob I hg hm ?_ hdb)
  refine PySem.W.callWith_K (h₀ := X.base) I.ok.mod.kin hk (thn (ha.run pos pins s σ H _ I h) fun us s1 ⟨vs, H1, I1, r, q⟩ => ⟨I1.kIn, ?_⟩) he hpl
  exact wpAny_call (run_fnR F hr hx I1 r q)
theorem pe_callR0 {X : Cx} {CX : CXT} {k : Nat} {f : Addr} {sp : Sp} {x : Str} {p pos : Pos} (F : FnR X.prog X.w X.K X.mg X.base CX k f sp) (hr : Room k X.A) (hg : Gl X x) (hm : X.mg x = some (.ref f)) (hk : PySem.W.keepIn X.K (.ref f) = true) (hx : Passes CX X E)
    (hdb : (x == ("__debug__" : Str)) = false) : PE X (.Call (.Name x p) [] [] pos) (tCallR sp E tNil) := by
  refine ⟨fun pins s σ H Q I h => ?_⟩
  refine wpAny_Call_Name_kw (ld_glob I hg hm ?_ hdb)
  exact PySem.W.callWith_K0 I.kIn hk (wpAny_call (run_fnR (us := []) F hr hx I .nil h))
theorem good_call {x : Str} {p pos : Pos} {es : List Expr} {as : Cs} {k : Nat} {F : Fn} (hk : sg.fn[k]? = some F) (hF : FnF Γ x F) (hg : glB sc x = true) (hx : okName x = true) (hs : es.all notStar = true) (hn : es = [] → as = .nil) (ha : GoodA Γ sc E es (evs sg as)) :
    Good Γ sc E (.Call (.Name x p) es [] pos) (ev sg (.call k as)) := by
  obtain ⟨ta, pa, sa⟩ := ha
  obtain ⟨f, hok, hm, hkp⟩ := hF.at_
  have e : ev sg (.call k as) = fun ρ S => (evs sg as ρ S).bind fun ds S => F ds S := by
    funext ρ S
    show ((evs sg as ρ S).bind fun ds S => match sg.fn[k]? with
      | some f => f ds S
      | none => .bad) = _
    rw [hk]
  rw [e]
  cases es with
  | nil =>
    cases hn rfl
    exact ⟨tCallR (spR Γ.T F) E tNil, fun X on => pe_callR0 (on.fr hok) on.room (on.gl hg) (by rw [on.mg]; exact hm) (by rw [on.K]; exact hkp) on.pass (okName_d hx), snd_call sndA_nil⟩
  | cons a r =>
    rw [List.all_cons, Bool.and_eq_true] at hs
    refine ⟨_, fun X on => ?_, snd_call sa⟩
    exact pe_callR (on.fr hok) on.room (on.gl hg) (by rw [on.mg]; exact hm) (by rw [on.K]; exact hkp) on.pass (pa X on) (okName_d hx) (starEach_cons hs.1) (by rw [backTo_any]; exact starEach_plain hs.2)
/-! ### methods: by the receiver's class -/
/-- the promise of a method of the class c -/
structure MeF (Γ : Gam) (m : Str) (c : Nat) (F : Fn) (f : Addr) : Prop where
  ok : FR Γ f (spR Γ.T F)
  cl : Cls Γ.T.K (Γ.T.cad c)
  me : Meth Γ.T.K (Γ.T.cad c) m f
  no : m ∉ Γ.T.cfl c
theorem lookup_none {f : Str} : ∀ {fs : List (Str × V)}, f ∉ fs.map (·.1) → fs.lookup f = none
  | [], _ => rfl
  | (g, u) :: r, h => by
    have ne : f ≠ g := fun e => h (by simp [e])
    show (match f == g with
      | true => some u
      | false => r.lookup f) = none
    rw [beq_eq_false_iff_ne.mpr ne]
    exact lookup_none fun z => h (List.mem_cons_of_mem _ z)
theorem meL_some {k : Nat} {o : D} {F : Fn} (h : meL sg k o = some F) : ∃ c l cand, o = .obj c l ∧ sg.me[k]? = some cand ∧ cand.lookup c = some F := by
  unfold meL at h
  cases o with
  | obj c l =>
    cases e1 : sg.me[k]? with
    | none => rw [e1] at h; cases h
    | some cand =>
      rw [e1] at h
      exact ⟨c, l, cand, rfl, rfl, h⟩
  | _ => cases h
/-- an instance, one of whose class's methods is called: by values -/
def rMe (Γ : Gam) (m : Str) (E : XK) (t : TA) : V → St → Hp → VK → Prop := fun x σ H1 Q => ∃ a dx fs c F f, x = .ref a ∧ H1 a = some (.ins (Γ.T.cad c) dx fs) ∧ fs.map (·.1) = Γ.T.cfl c ∧ MeF Γ m c F f ∧ t σ H1 fun vs H2 => spR Γ.T F (x :: vs) H2 Q E
/-- o.m(..) -/
def tMethA (Γ : Gam) (m : Str) (E : XK) (to : TE) (t : TA) : TE := fun σ H Q => to σ H fun x H1 => rMe Γ m E t x σ H1 Q
theorem pe_methA {X : Cx} (on : On Γ sc E X) {o : Expr} {m : Str} {apos pos : Pos} {es : List Expr} {to : TE} {t : TA} (po : PE X o to) (pa : PA X es t) (hnil : es = [] → t = tNil) (hb : plainBase o = true) (hs : es.all notStar = true) (hl : es.length < 30) (hp : (apos.endLine == pos.line) = true) :
    PE X (.Call (.Attribute o m apos) es [] pos) (tMethA Γ m E to t) := by
  refine ⟨fun pins s σ H Q I h => ?_⟩
  refine PySem.W.methodCall_KW (thn (po.run pins s σ H _ I h) fun u s1 ⟨x, H1, I1, rx, a, dx, fs, c, F, f, ex, ea, en, M, q⟩ => ?_) (meth_tree hb hs hl hp)
  subst ex
  obtain rfl : u = Value.ref a := rx
  obtain ⟨ok, cl, me, no⟩ := M
  rw [← on.K] at cl me
  refine getmeth_ok I1 ea cl me (lookup_none (by rw [en]; exact no)) ?_
  cases es with
  | nil =>
    cases hnil rfl
    exact PySem.W.callWith_K0 (first := [.ref a]) I1.kIn me.kp (wpAny_call (run_fnR (us := [.ref a]) (vs := [.ref a]) (on.fr ok) on.room on.pass I1 (.cons rfl .nil) q))
  | cons e r =>
    rw [List.all_cons, Bool.and_eq_true] at hs
    refine PySem.W.callWith_K (first := [.ref a]) (h₀ := X.base) I1.ok.mod.kin me.kp (thn (pa.run pos pins s1 σ H1 _ I1 q) fun us s2 ⟨vs, H2, I2, r, q2⟩ => ⟨I2.kIn, ?_⟩) (starEach_cons hs.1) (by rw [backTo_any]; exact starEach_plain hs.2)
    exact wpAny_call (run_fnR (us := .ref a :: us) (vs := .ref a :: vs) (on.fr ok) on.room on.pass I2 (.cons rfl r) q2)
theorem snd_methA {m : Str} {to : TE} {t : TA} {mo : Rho → Hs → Res Val} {ms : Rho → Hs → Res (List D)} {k : Nat} {cand : Cand} (hk : sg.me[k]? = some cand) (hF : ∀ c F, cand.lookup c = some F → ∃ f, MeF Γ m c F f) (so : Snd Γ.T E to mo) (sa : SndA Γ.T E t ms) :
    Snd Γ.T E (tMethA Γ m E to t) fun ρ S => (mo ρ S).bind fun x S => match x with
      | .d o => (match meL sg k o with
        | some f => (ms ρ S).bind fun ds S => f (o :: ds) S
        | none => .bad)
      | _ => .bad := by
  intro σ ρ H G ι S Q g s p
  dsimp only at p
  refine so σ ρ H G ι S _ g s ?_
  cases eo : mo ρ S with
  | bad => rw [eo] at p; exact p.elim
  | ex c fs S' => rw [eo] at p; exact p
  | ok v S1 =>
    rw [eo] at p
    intro x H1 G1 ι1 st1 g1 vx
    cases v with
    | d o =>
      replace p : Post Γ.T σ H G ι Q E (match meL sg k o with
        | some f => (ms ρ S1).bind fun ds S => f (o :: ds) S
        | none => .bad) := p
      cases eF : meL sg k o with
      | none => rw [eF] at p; exact p.elim
      | some F =>
        rw [eF] at p
        obtain ⟨c, l, cand', rfl, hk', hc⟩ := meL_some eF
        rw [hk] at hk'; cases hk'
        obtain ⟨f, M⟩ := hF c F hc
        have vx' : Rep Γ.T G1 ι1 x (.obj c l) := vx
        cases vx' with
        | obj h1 h2 h3 =>
          rename_i a dx fs
          refine ⟨a, dx, fs, c, F, f, rfl, g1.sub _ _ h1, h2, M, sa σ ρ H1 G1 ι1 S1 _ g1 (s.step st1) ?_⟩
          replace p : Post Γ.T σ H G ι Q E ((ms ρ S1).bind fun ds S => F (.obj c l :: ds) S) := p
          cases ea : ms ρ S1 with
          | bad => rw [ea] at p; exact p.elim
          | ex c fs S' => rw [ea] at p; exact XPost.mono st1 p
          | ok ds S2 =>
            rw [ea] at p
            intro vs H2 G2 ι2 st2 g2 rs
            replace p : Post Γ.T σ H G ι Q E (F (.obj c l :: ds) S2) := p
            have rs' : Reps Γ.T G2 ι2 (.ref a :: vs) (.obj c l :: ds) := .cons (Rep.mono st2.ext st2.pre (.obj h1 h2 h3)) rs
            exact ⟨_, S2, G2, ι2, g2, rs', (Post.mono (st1.trans st2) p).nil⟩
    | _ => exact p.elim
theorem good_meth {o : Expr} {m : Str} {apos pos : Pos} {es : List Expr} {co : C} {as : Cs} {k : Nat} {cand : Cand} (hk : sg.me[k]? = some cand) (hF : ∀ c F, cand.lookup c = some F → ∃ f, MeF Γ m c F f) (hb : plainBase o = true) (hs : es.all notStar = true) (hl : es.length < 30) (hp : (apos.endLine == pos.line) = true)
    (hn : es = [] → as = .nil) (ho : Good Γ sc E o (ev sg co)) (ha : GoodA Γ sc E es (evs sg as)) : Good Γ sc E (.Call (.Attribute o m apos) es [] pos) (ev sg (.meth k co as)) := by
  obtain ⟨to, po, so⟩ := ho
  obtain ⟨ta, pa, sa⟩ := ha
  cases es with
  | nil =>
    cases hn rfl
    exact ⟨tMethA Γ m E to tNil, fun X on => pe_methA on (po X on) pa_nil (fun _ => rfl) hb hs hl hp, snd_methA hk hF so sndA_nil⟩
  | cons e r => exact ⟨tMethA Γ m E to ta, fun X on => pe_methA on (po X on) (pa X on) (fun z => nomatch z) hb hs hl hp, snd_methA hk hF so sa⟩
end
end Sf
end
section
set_option linter.all false
set_option maxRecDepth 100000
set_option maxHeartbeats 1000000
/-! Sf.Good4: comprehensions, walks, constructors, isinstance. -/
namespace Sf
open PySem L2
section
variable {Γ : Gam} {sc : Scope} {E : XK} {sg : Sg}
theorem goodI_seq {fx : Bool} {e : Expr} {c : C} (h : Good Γ sc E e (ev sg c)) : GoodI Γ sc E fx e (evI sg fx (.seq c)) := by
  obtain ⟨t, p, s⟩ := h
  refine ⟨iSeq Γ.T.K t, fun X tg on _ => ?_, snd_seq s⟩
  rw [← on.K]
  exact pi_seq (p X on)
theorem pa1 {X : Cx} {a : Expr} {ta : TE} (hs : notStar a = true) (h : PE X a ta) : PA X [a] (tCons ta tNil) := pa_cons h pa_nil (starEach_cons hs)
theorem goodI_rng1 {fx : Bool} {p pos : Pos} {a : Expr} {ca : C} (hg : glB sc "range" = true) (hm : Γ.mg "range" = none) (hs : notStar a = true) (h : Good Γ sc E a (ev sg ca)) : GoodI Γ sc E fx (.Call (.Name "range" p) [a] [] pos) (evI sg fx (.rng1 ca)) := by
  obtain ⟨t, pe, s⟩ := h
  exact ⟨iRng1 (tCons t tNil), fun X tg on _ => pi_range1 (on.gl hg) (by rw [on.mg]; exact hm) (pa1 hs (pe X on)) (starEach_cons hs), snd_rng1 s⟩
theorem goodI_rng2 {fx : Bool} {p pos : Pos} {a b : Expr} {ca cb : C} (hg : glB sc "range" = true) (hm : Γ.mg "range" = none) (hs : notStar a = true) (hs2 : notStar b = true) (h : Good Γ sc E a (ev sg ca)) (h2 : Good Γ sc E b (ev sg cb)) :
    GoodI Γ sc E fx (.Call (.Name "range" p) [a, b] [] pos) (evI sg fx (.rng2 ca cb)) := by
  obtain ⟨t, pe, s⟩ := h
  obtain ⟨t2, pe2, s2⟩ := h2
  exact ⟨iRng2 (tCons t (tCons t2 tNil)), fun X tg on _ => pi_range2 (on.gl hg) (by rw [on.mg]; exact hm) (pa_cons (pe X on) (pa1 hs2 (pe2 X on)) (starEach_cons hs)) ((starEach_cons hs).trans (congrArg _ (starEach_cons hs2))) (starEach_cons hs2), snd_rng2 s s2⟩
/-! ### targets -/
/-- the target's names stand in these slots; ok x: x may be stored -/
def okTg (N : List Str) (ok : Str → Bool) : Tg → Expr → Bool
  | .one i, .Name x _ => decide (N[i]? = some x) && ok x
  | .tup is, .Tuple es _ _ => go is es
  | _, _ => false
where
  go : List Nat → List Expr → Bool
    | [], [] => true
    | i :: is, .Name x _ :: es => decide (N[i]? = some x) && ok x && go is es
    | _, _ => false
theorem pgs_of {X : Cx} {ok : Str → Bool} (hN : X.N.Nodup) (hok : ∀ x, ok x = true → Loc X.env.scope x ∧ (X.fn x = true ∨ X.env.scope.names.lookup x = some .local)) : ∀ {is : List Nat} {es : List Expr}, okTg.go X.N ok is es = true → PGs X es (gAll is) ∧ (assignEach es X.env).length = is.length ∧ (assignEach es X.env).findIdx? (·.1) = none
  | [], [], _ => ⟨pgs_nil, rfl, rfl⟩
  | [], _ :: _, h => by simp [okTg.go] at h
  | _ :: _, [], h => by simp [okTg.go] at h
  | i :: is, e :: es, h => by
    cases e with
    | Name x p =>
      simp only [okTg.go, Bool.and_eq_true, decide_eq_true_eq] at h
      obtain ⟨⟨h1, h2⟩, h3⟩ := h
      obtain ⟨q1, q2, q3⟩ := pgs_of hN hok h3
      obtain ⟨l1, l2⟩ := hok x h2
      refine ⟨pgs_cons (pg_name hN h1 l1 l2) q1, ?_, ?_⟩
      · show ((false, _) :: assignEach es X.env).length = _
        rw [List.length_cons, List.length_cons, q2]
      · show ((false, _) :: assignEach es X.env).findIdx? _ = none
        rw [List.findIdx?_cons, q3]; rfl
    | _ => simp [okTg.go] at h
theorem pg_of {X : Cx} {ok : Str → Bool} {t : Tg} {tg : Expr} (hc : X.calm = true) (hN : X.N.Nodup) (hok : ∀ x, ok x = true → Loc X.env.scope x ∧ (X.fn x = true ∨ X.env.scope.names.lookup x = some .local)) (h : okTg X.N ok t tg = true) : PG X tg (gTg X.K t) := by
  cases t with
  | one i =>
    cases tg with
    | Name x p =>
      simp only [okTg, Bool.and_eq_true, decide_eq_true_eq] at h
      obtain ⟨l1, l2⟩ := hok x h.2
      exact pg_name hN h.1 l1 l2
    | _ => simp [okTg] at h
  | tup is =>
    cases tg with
    | Tuple es k p =>
      obtain ⟨q1, q2, q3⟩ := pgs_of hN hok (show okTg.go X.N ok is es = true from h)
      exact pg_tup hc q1 q2 q3
    | _ => simp [okTg] at h
/-! ### comprehensions -/
def ownP (N : List Str) (own : List Nat) : List (Str × Nat) := own.map fun i => (N.getD i Str.empty, i)
theorem ownP_snd (N : List Str) (own : List Nat) : (ownP N own).map (·.2) = own := by
  unfold ownP
  rw [List.map_map]
  exact (List.map_congr_left fun _ _ => rfl).trans (List.map_id _)
/-- a name that the comprehension's own block stores -/
def ownB (scope : Scope) (x : Str) : Bool := match scope.names.lookup x with
  | some .local => true
  | some .cell => true
  | _ => false
theorem cxUpN {P : Program} {w : World} : StX.CXUp (L2N.CX P w) := by
  rintro outer s H s2 H2 E e s' un kp ho ⟨a, B, H', cls, d, ea, fl, hok, ub, na, os, ag, he⟩
  refine ⟨a, B, H', cls, d, ea, fl, hok, ⟨fun b o q n hb => ub.keep b o (kp b o q) (un.free b o q n (by simp)) hb, fun b o q hb => ub.slot b o (kp b o q) hb, fun b o q n => ub.free b o (kp b o q) (un.free b o q n (by simp)),
    fun b o q hb => ub.there b o (kp b o q) hb, fun b xs q => ub.tups b xs (un.tups b xs q), fun b o xs q => ub.frzs b o xs (un.frzs b o xs q), fun b ps q => ?_⟩, na, os.trans ho, ag, he⟩
  obtain ⟨m1, e1⟩ := un.tbls b ps q
  obtain ⟨m2, e2⟩ := ub.tbls b _ e1
  exact ⟨m1 ++ m2, by rw [e2, Array.append_assoc]⟩
theorem passN {X : Cx} : Passes (L2N.CX X.prog X.w) X E0 := fun _ _ _ _ _ _ _ h => by
  obtain ⟨_, _, _, _, _, _, _, _, _, _, _, _, z⟩ := h
  exact z.elim
theorem on_blk {X : Cx} (on : On Γ sc E X) {s : Shared} {H : Hp} {scope : Scope} {C : Addr} {cl : List (Str × Addr)} {fp : List Addr} : On Γ (relS scope sc) E0 (X.blk s H scope (compEnvC scope cl C X.env) fp) := by
  refine ⟨on.prog, on.w, on.K, on.mg, on.base, on.N, on.nd, ?_, on.calm, on.room, passN⟩
  rw [← on.sc]; rfl
theorem blk_store {X : Cx} {s : Shared} {H : Hp} {scope : Scope} {C : Addr} {cl : List (Str × Addr)} {fp : List Addr} (x : Str) (h : ownB scope x = true) :
    Loc (X.blk s H scope (compEnvC scope cl C X.env) fp).env.scope x ∧ ((X.blk s H scope (compEnvC scope cl C X.env) fp).fn x = true ∨ (X.blk s H scope (compEnvC scope cl C X.env) fp).env.scope.names.lookup x = some .local) := by
  unfold ownB at h
  split at h
  · rename_i e
    have := lookup_relS_keep (sc := X.env.scope) (k := .local) (by decide) e
    exact ⟨.inl this, .inr this⟩
  · rename_i e
    have := lookup_relS_keep (sc := X.env.scope) (k := .cell) (by decide) e
    refine ⟨.inr this, .inl ?_⟩
    show (scope.names.lookup x == some .cell) = true
    rw [e]; rfl
  · cases h
theorem good_comp {elt tg iter : Expr} {scope : Scope} {pos : Pos} {t : Tg} {own : List Nat} {it : I} {ce : C} (hb : blkC Γ.N sc scope (ownP Γ.N own) = true) (ho : ∀ i ∈ t.slots, i ∈ own) (ht : okTg Γ.N (ownB scope) t tg = true) (hs : fitB tg iter = true)
    (hi : GoodI Γ sc E true iter (evI sg true it)) (he : Good Γ (relS scope sc) E0 elt (ev sg ce)) : Good Γ sc E (.ListComp elt [⟨tg, iter, [], 0⟩] scope pos) (ev sg (.comp t own it ce)) := by
  obtain ⟨wi, pi, si⟩ := hi
  obtain ⟨te, pe, se⟩ := he
  refine ⟨tLc wi (gTg Γ.T.K t) tYes te own, fun X on => ?_, snd_comp si sndT_yes se t own ho⟩
  have hbk : BlkOk X.N X.env.scope scope (ownP Γ.N own) := by rw [on.N, on.sc]; exact blkOk_by hb
  have h := pe_lc (X := X) (elt := elt) (tg := tg) (iter := iter) (ifs := []) (pos := pos) (g := gTg X.K t) (tt := tYes) (te := te) on.calm (by rw [on.N]; exact on.nd) (pi X tg on (fitB_fit hs)) hbk
    (fun s H C cl fp => pg_of (X := X.blk s H scope (compEnvC scope cl C X.env) fp) on.calm (by show X.N.Nodup; rw [on.N]; exact on.nd) (fun x hx => blk_store x hx) (by show okTg X.N _ _ _ = true; rw [on.N]; exact ht))
    (fun _ _ _ _ _ => pts_nil) (fun s H C cl fp => pe _ (on_blk on)) (set_plain (fitB_set hs))
  rw [ownP_snd, on.K] at h
  exact h
theorem good_compIf {elt tg iter cnd : Expr} {scope : Scope} {pos : Pos} {t : Tg} {own : List Nat} {it : I} {cc ce : C} (hb : blkC Γ.N sc scope (ownP Γ.N own) = true) (ho : ∀ i ∈ t.slots, i ∈ own) (ht : okTg Γ.N (ownB scope) t tg = true) (hs : fitB tg iter = true)
    (hi : GoodI Γ sc E true iter (evI sg true it)) (hc : GoodT Γ (relS scope sc) E0 cnd (ev sg cc)) (he : Good Γ (relS scope sc) E0 elt (ev sg ce)) : Good Γ sc E (.ListComp elt [⟨tg, iter, [cnd], 0⟩] scope pos) (ev sg (.compIf t own it cc ce)) := by
  obtain ⟨wi, pi, si⟩ := hi
  obtain ⟨tt, pt, st⟩ := hc
  obtain ⟨te, pe, se⟩ := he
  refine ⟨tLc wi (gTg Γ.T.K t) tt te own, fun X on => ?_, snd_comp si st se t own ho⟩
  have hbk : BlkOk X.N X.env.scope scope (ownP Γ.N own) := by rw [on.N, on.sc]; exact blkOk_by hb
  have h := pe_lc (X := X) (elt := elt) (tg := tg) (iter := iter) (ifs := [cnd]) (pos := pos) (g := gTg X.K t) (tt := tt) (te := te) on.calm (by rw [on.N]; exact on.nd) (pi X tg on (fitB_fit hs)) hbk
    (fun s H C cl fp => pg_of (X := X.blk s H scope (compEnvC scope cl C X.env) fp) on.calm (by show X.N.Nodup; rw [on.N]; exact on.nd) (fun x hx => blk_store x hx) (by show okTg X.N _ _ _ = true; rw [on.N]; exact ht))
    (fun _ _ _ _ _ => pts_one (pt _ (on_blk on))) (fun s H C cl fp => pe _ (on_blk on)) (set_plain (fitB_set hs))
  rw [ownP_snd, on.K] at h
  exact h
/-! ### constructors -/
/-- an __init__'s promise: the new instance x gets these fields -/
def spInit (T : Tab) (c : Nat) (F : List D → Hs → Res (List D)) : Sp := fun vs H Q E => ∃ x dx us, vs = .ref x :: us ∧ H x = some (.ins (T.cad c) dx []) ∧ ∃ ds S G ι H0, GRel T H S G ι ∧ Reps T G ι us ds ∧ H0 x = none ∧ Step H0 G ι H G ι ∧ G x = none ∧ x ∉ ι ∧
  (match F ds S with
    | .ok l S' => ∀ H' G' ι' fs dx, Step H0 G ι H' G' ι' → GRel T H' S' G' ι' → H' x = some (.ins (T.cad c) dx fs) → fs.map (·.1) = (T.cfl c).take l.length → Reps T G' ι' (fs.map (·.2)) l → G' x = none → x ∉ ι' → Q .non H'
    | .ex k fs S' => XPost T H0 G ι E k fs S'
    | .bad => False)
structure MkF (Γ : Gam) (x : Str) (c : Nat) (F : List D → Hs → Res (List D)) : Prop where
  at_ : ∃ (f : Addr), FR Γ f (spInit Γ.T c F) ∧ Γ.mg x = some (.ref (Γ.T.cad c)) ∧ Mk Γ.T.K (Γ.T.cad c) f ∧ (∀ ds S l S', F ds S = .ok l S' → l.length = (Γ.T.cfl c).length)
theorem snd_make {ts : TA} {ms : Rho → Hs → Res (List D)} {F : List D → Hs → Res (List D)} {c : Nat} (hl : ∀ ds S l S', F ds S = .ok l S' → l.length = (Γ.T.cfl c).length) (sa : SndA Γ.T E ts ms) :
    Snd Γ.T E (StX.tMakeR (Γ.T.cad c) (spInit Γ.T c F) E ts) fun ρ S => (ms ρ S).bind fun ds S => makeF c F ds S := by
  intro σ ρ H G ι S Q g s p
  dsimp only at p
  refine sa σ ρ H G ι S _ g s ?_
  cases ea : ms ρ S with
  | bad => rw [ea] at p; exact p.elim
  | ex c fs S' => rw [ea] at p; exact p
  | ok ds S1 =>
    rw [ea] at p
    intro vs H1 G1 ι1 st1 g1 rs x dx hx hdx hne
    replace p : Post Γ.T σ H G ι Q E ((F ds S1).bind fun fs S => .ok (.d (.obj c fs)) S) := p
    have g2 : GRel Γ.T (upd (upd H1 dx (.own x)) x (.ins (Γ.T.cad c) dx [])) S1 G1 ι1 := (g1.open' hdx).open' (by rw [upd_ne hne.symm]; exact hx)
    have st2 : Step H1 G1 ι1 (upd (upd H1 dx (.own x)) x (.ins (Γ.T.cad c) dx [])) G1 ι1 := (Step.open' hdx).trans (Step.open' (by rw [upd_ne hne.symm]; exact hx))
    have hxi : x ∉ ι1 := fun hm => g1.mem hm hx
    have hF : F ds S1 ≠ .bad := fun e => by rw [e] at p; exact p
    refine ⟨x, dx, vs, rfl, upd_same, ds, S1, G1, ι1, H1, g2, rs, hx, st2, g1.sub.none hx, hxi, ?_⟩
    cases eF : F ds S1 with
    | bad => exact absurd eF hF
    | ex k fs S' =>
      rw [eF] at p
      exact XPost.mono st1 p
    | ok l S' =>
      rw [eF] at p
      intro H' G' ι' fs dx st' g' e1 e2 e3 e4 e5
      refine ⟨rfl, ?_⟩
      rw [hl ds S1 l S' eF, List.take_of_length_le (Nat.le_refl _)] at e2
      exact p (.ref x) H' (upd G' x (.ins (Γ.T.cad c) dx fs)) ι' (st1.trans ⟨st'.frame, st'.dom, st'.ext.trans (le_upd e4), st'.pre, fun b hb nb => by
        have q : b ≠ x := fun q => nb (q ▸ hx)
        rw [upd_ne q]; exact st'.newG b hb nb, st'.newI⟩) (g'.freeze e1 e4 e5) (.obj upd_same e2 (e3.mono (le_upd e4) (Pre.refl _)))
theorem good_make {x : Str} {p pos : Pos} {es : List Expr} {as : Cs} {k c : Nat} {F : List D → Hs → Res (List D)} (hk : sg.ma[k]? = some (c, makeF c F)) (hroom : ∃ j, Γ.k = j + 1 ∧ MkF { Γ with k := j } x c F) (hg : glB sc x = true) (hx : okName x = true) (hs : es.all notStar = true) (hn : es = [] → as = .nil)
    (ha : GoodA Γ sc E es (evs sg as)) : Good Γ sc E (.Call (.Name x p) es [] pos) (ev sg (.make k as)) := by
  obtain ⟨ta, pa, sa⟩ := ha
  obtain ⟨j, hj, hF2⟩ := hroom
  obtain ⟨f, hok, hm, hmk, hl⟩ := hF2.at_
  have e : ev sg (.make k as) = fun ρ S => (evs sg as ρ S).bind fun ds S => makeF c F ds S := by
    funext ρ S
    show ((evs sg as ρ S).bind fun ds S => match sg.ma[k]? with
      | some (_, f) => f ds S
      | none => .bad) = _
    rw [hk]
  rw [e]
  cases es with
  | nil =>
    cases hn rfl
    refine ⟨StX.tMakeR (Γ.T.cad c) (spInit Γ.T c F) E tNil, fun X on => ⟨fun pins s σ H Q I h => ?_⟩, snd_make hl sndA_nil⟩
    have hr : Room (j + 1) X.A := by rw [← hj]; exact on.room
    refine wpAny_Call_Name_kw (ld_glob I (on.gl hg) (by rw [on.mg]; exact hm) ?_ (okName_d hx))
    have hmk' : Mk X.K (Γ.T.cad c) f := by rw [on.K]; exact hmk
    exact PySem.W.callWith_K0 (first := []) I.kIn hmk'.kp (StX.run_makeR (us := []) (vs := []) hmk' (by rw [on.prog, on.w, on.K, on.mg, on.base]; exact hok) hr on.pass I .nil h)
  | cons a r =>
    rw [List.all_cons, Bool.and_eq_true] at hs
    refine ⟨_, fun X on => ?_, snd_make hl sa⟩
    have hr : Room (j + 1) X.A := by rw [← hj]; exact on.room
    exact StX.pe_makeR (by rw [on.K]; exact hmk) (by rw [on.prog, on.w, on.K, on.mg, on.base]; exact hok) hr (on.gl hg) (by rw [on.mg]; exact hm) on.pass (pa X on) (okName_d hx) (starEach_cons hs.1) (by rw [backTo_any]; exact starEach_plain hs.2)
end
end Sf
end
section
set_option linter.all false
set_option maxRecDepth 100000
set_option maxHeartbeats 1000000
/-! Sf.Good5: isinstance; statements. -/
namespace Sf
open PySem L2
/-- the type of a kind -/
def kdV (T : Tab) : Kd → Value
  | .non => .type "NoneType"
  | .bl => .type "bool"
  | .int => .type "int"
  | .str => .type "str"
  | .tup => .type "tuple"
  | .lst => .type "list"
  | .obj c => .ref (T.cad c)
/-- an own class whose instances isinstance may ask about -/
structure ClsI (T : Tab) (c : Nat) : Prop where
  cl : Cls T.K (T.cad c)
  ha : PySem.W.findIn T.K (.ref (T.cad c)) "__class__" = some (some (.builtin "object.__class__"))
  hn : PySem.W.specialIn T.K (.builtin "object.__class__") "__get__" = some (some (.builtin "getset_descriptor.__get__"))
  tk : PySem.W.takesIn T.K (.builtin "object.__class__") = some true
  mr : PySem.W.mroIn T.K (T.cad c) (.type "object") = some true
def KdOk (T : Tab) : Kd → Prop
  | .obj c => ClsI T c
  | _ => True
section
variable {Γ : Gam} {sc : Scope} {E : XK} {sg : Sg}
theorem ty_of {T : Tab} {σ : St} {H0 H G : Hp} {ι : List Addr} {S : Hs} {x : V} {v : Val} {k : Kd} (g : GRel T H S G ι) (h : VRel T σ H0 H G ι x v) (e : kind v = some k) (ok : KdOk T k) : TyX T.K H x (kdV T k) := by
  cases v with
  | d d =>
    cases h with
    | non => cases e; exact .base .non
    | bl b => cases e; exact .base (.bl b)
    | int i => cases e; exact .base (.int i)
    | str z => cases e; exact .base (.str z)
    | tup h1 h2 h3 =>
      cases e
      rcases le_t g.sub h1 with (h | ⟨o, h⟩) | ⟨o, its, n, h, hc, _⟩
      · exact .base (.tup h)
      · exact .fTuple h
      · exact .kTuple h hc
    | lst h1 h2 h3 => cases e; exact .base (.lst (g.sub _ _ h1))
    | scr => cases e
    | obj h1 h2 h3 =>
      cases e
      have ok : ClsI T _ := ok
      exact .base (.ins (g.sub _ _ h1) ok.cl ok.ha ok.hn ok.tk ok.mr)
    | loc => cases e
    | cls => cases e
  | fr l =>
    obtain ⟨a, vs, rfl, e1, _⟩ := h
    cases e
    exact .base (.lst e1)
  | ow i => cases e
/-- a class as isinstance's second argument -/
structure IsiF (Γ : Gam) (x : Str) (t : Tk) (cs : List Nat) (c : V) (u : Value) : Prop where
  cv : ClsV c u
  rel : RelV c u
  one : ∀ k, kdIn cs k = true → PySem.W.kitOne Γ.T.K (kdV Γ.T k) u = some (isK t k)
  kd : ∀ k, kdIn cs k = true → KdOk Γ.T k
  look : Γ.mg x = some u ∨ (Γ.mg x = none ∧ bootBuiltins x = some u)
theorem good_isi {p p1 pos : Pos} {e : Expr} {x : Str} {t : Tk} {cs : List Nat} {c : V} {u : Value} {ce : C} (hF : IsiF Γ x t cs c u) (hg0 : glB sc "isinstance" = true) (hm0 : Γ.mg "isinstance" = none) (hg : glB sc x = true) (hx : okName x = true) (hs : notStar e = true) (he : Good Γ sc E e (ev sg ce)) :
    Good Γ sc E (.Call (.Name "isinstance" p) [e, .Name x p1] [] pos) (ev sg (.isi t cs ce)) := by
  obtain ⟨te, pe, se⟩ := he
  refine ⟨tCB (rIsi Γ.T.K) (tCons te (tCons (tC c) tNil)), fun X on => ?_, fun σ ρ H G ι S Q g s p => se σ ρ H G ι S _ g s ?_⟩
  · have h := call_isi (X := X)
    rw [on.K] at h
    have pc : PE X (.Name x p1) (tC c) := by
      rcases hF.look with hm | ⟨hm, hb⟩
      · exact pe_glob (on.gl hg) (by rw [on.mg]; exact hm) hF.rel (okName_d hx)
      · exact pe_bltn (on.gl hg) (by rw [on.mg]; exact hm) hb hF.rel (okName_n hx) (okName_d hx)
    exact pe_callB h (on.gl hg0) (by rw [on.mg]; exact hm0) (by decide +kernel) (pa_cons (pe X on) (pa_cons pc pa_nil) (starEach_cons hs)) (by decide +kernel) (by decide +kernel) (starEach_cons hs) rfl
  · unfold ev at p
    cases ea : ev sg ce ρ S with
    | bad => rw [ea] at p; exact p.elim
    | ex k fs S' => rw [ea] at p; exact p
    | ok v S1 =>
      rw [ea] at p
      intro y H1 G1 ι1 st1 g1 vx
      replace p : Post Γ.T σ H G ι Q E (Res.of ((kind v).bind fun k => if kdIn cs k = true then some (.d (.bl (isK t k))) else none) S1) := p
      cases ek : kind v with
      | none => rw [ek] at p; exact p.elim
      | some k =>
        rw [ek] at p
        dsimp only [Option.bind] at p
        by_cases hk : kdIn cs k = true
        · rw [if_pos hk] at p
          exact ⟨y, c, _, u, isK t k, rfl, hF.cv, ty_of g1 vx ek (hF.kd k hk), hF.one k hk, Post.fin (Post.mono st1 p) g1 (.bl _)⟩
        · rw [if_neg hk] at p; exact p.elim
/-! ### statements -/
structure OnS (Γ : Gam) (sc : Scope) (E : XK) (X : Cx) : Prop where
  on : On Γ sc E X
  own : PassesOwn (model X.prog X.w) X.A X.env X.xe
  fn : ∀ x, X.fn x = true
  takes : L2N.Takes X fun cls d _ H => E cls d H
  stk : X.stack = X.env :: X.outer
  frm : X.env.frame = some X.env.locals
def GoodS (Γ : Gam) (sc : Scope) (E : XK) (st : Stmt) (m : Rho → Hs → Out) : Prop := ∃ t, (∀ X, OnS Γ sc E X → PS X st t) ∧ SndS Γ.T E t m
def GoodSs (Γ : Gam) (sc : Scope) (E : XK) (st : List Stmt) (m : Rho → Hs → Out) : Prop := ∃ t, (∀ X, OnS Γ sc E X → PSs X st t) ∧ SndS Γ.T E t m
theorem goodSs_nil : GoodSs Γ sc E [] (execs sg .nil) := ⟨_, fun _ _ => pss_nil, sndS_pass⟩
theorem goodSs_cons {st : Stmt} {r : List Stmt} {a : Sx} {b : Ss} (h : GoodS Γ sc E st (exec sg a)) (hr : GoodSs Γ sc E r (execs sg b)) : GoodSs Γ sc E (st :: r) (execs sg (.cons a b)) := by
  obtain ⟨t, p, s⟩ := h
  obtain ⟨u, q, s2⟩ := hr
  exact ⟨_, fun X on => pss_cons (p X on) (q X on), sndS_seq s s2⟩
theorem goodSs_fz {r : List Stmt} {b : Ss} (i : Nat) (hr : GoodSs Γ sc E r (execs sg b)) : GoodSs Γ sc E r (execs sg (.cons (.fz i) b)) := by
  obtain ⟨u, q, s2⟩ := hr
  exact ⟨u, q, sndS_fz i s2⟩
/-- a name that is stored -/
def locB (sc : Scope) (x : Str) : Bool := match sc.names.lookup x with
  | some .local => true
  | some .cell => true
  | _ => false
theorem loc_of {x : Str} (h : locB sc x = true) : Loc sc x := by
  unfold locB at h
  split at h
  · exact .inl (by assumption)
  · exact .inr (by assumption)
  · cases h
/-- an expression that is no comprehension -/
def notComp : Expr → Bool
  | .ListComp .. => false
  | .SetComp .. => false
  | .DictComp .. => false
  | _ => true
theorem swaps_plain {e : Expr} {o : Option Expr} {l : Nat} {env : Env} (h : notComp e = true) : swapsWith e o l env = pure false := by
  cases e <;> first | rfl | cases h
theorem ps_setP {X : Cx} (on : OnS Γ sc E X) {x : Str} {e : Expr} {te : TE} {p pos : Pos} {i : Nat} (hN : Γ.N[i]? = some x) (hl : locB sc x = true) (hc : notComp e = true) (h : PE X e te) : PS X (.Assign [.Name x p] e pos) (tAsg te (gName i)) :=
  ps_set (by rw [on.on.N]; exact on.on.nd) (by rw [on.on.N]; exact hN) (by rw [on.on.sc]; exact loc_of hl) h (swaps_plain hc) (.inl (on.fn x))
theorem goodS_set {x : Str} {e : Expr} {p pos : Pos} {i : Nat} {ce : C} (hN : Γ.N[i]? = some x) (hl : locB sc x = true) (hc : notComp e = true) (h : Good Γ sc E e (ev sg ce)) : GoodS Γ sc E (.Assign [.Name x p] e pos) (exec sg (.set i ce)) := by
  obtain ⟨t, pe, s⟩ := h
  exact ⟨_, fun X on => ps_setP on hN hl hc (pe X on.on), sndS_set i s⟩
theorem goodS_setA {x : Str} {e : Expr} {p pos : Pos} {i : Nat} {ce : C} (hN : Γ.N[i]? = some x) (hl : locB sc x = true) (hc : notComp e = true) (h : Good Γ sc E e (ev sg ce)) : GoodS Γ sc E (.Assign [.Name x p] e pos) (exec sg (.setA i ce)) := by
  obtain ⟨t, pe, s⟩ := h
  exact ⟨_, fun X on => ps_setP on hN hl hc (pe X on.on), sndS_setA i s⟩
theorem goodS_setC {x : Str} {e : Expr} {p pos : Pos} {i : Nat} {ce : C} (hN : Γ.N[i]? = some x) (hl : locB sc x = true) (hc : notComp e = true) (h : Good Γ sc E e (ev sg ce)) : GoodS Γ sc E (.Assign [.Name x p] e pos) (exec sg (.setC i ce)) := by
  obtain ⟨t, pe, s⟩ := h
  exact ⟨_, fun X on => ps_setP on hN hl hc (pe X on.on), sndS_setC i s⟩
/-- x = [..], one line, x a plain local: the list goes straight to the name; else as any value -/
def swB (scope sc : Scope) (x : Str) : Bool := (match sc.names.lookup x with | some .local => true | _ => false) && !(scope.names.any fun (n, k) => n == x && (k == .local || k == .cell))
theorem lc_set {X : Cx} (on : OnS Γ sc E X) {x : Str} {elt tg iter : Expr} {ifs : List Expr} {scope : Scope} {own : List (Str × Nat)} {p pos spos : Pos} {i : Nat} {wi : TI} {g : TG} {tt : TT} {te : TE} (hN : Γ.N[i]? = some x) (hl : locB sc x = true)
    (hline : (p.line == pos.line) = true) (hkind : sc.kind = .function) (hi : PI X tg iter wi) (ok : BlkOk X.N X.env.scope scope own)
    (hg : ∀ (s : Shared) (H : Hp) (C : Addr) (cl : List (Str × Addr)) (fp : List Addr), PG (X.blk s H scope (compEnvC scope cl C X.env) fp) tg g) (ht : ∀ (s : Shared) (H : Hp) (C : Addr) (cl : List (Str × Addr)) (fp : List Addr), PTs (X.blk s H scope (compEnvC scope cl C X.env) fp) ifs tt)
    (he : ∀ (s : Shared) (H : Hp) (C : Addr) (cl : List (Str × Addr)) (fp : List Addr), PE (X.blk s H scope (compEnvC scope cl C X.env) fp) elt te) (hs : ∀ x, foldedSetIterable iter X.env x = pure x) :
    PS X (.Assign [.Name x p] (.ListComp elt [⟨tg, iter, ifs, 0⟩] scope pos) spos) (tAsg (tLc wi g tt te (own.map (·.2))) (gName i)) := by
  have hnd : X.N.Nodup := by rw [on.on.N]; exact on.on.nd
  have hiX : X.N[i]? = some x := by rw [on.on.N]; exact hN
  have hk : X.env.scope.kind = .function := by rw [on.on.sc]; exact hkind
  cases hb : swB scope X.env.scope x with
  | true =>
    unfold swB at hb
    rw [Bool.and_eq_true] at hb
    have h1 : X.env.scope.names.lookup x = some .local := by
      have h := hb.1
      split at h
      · assumption
      · cases h
    have h2 : (scope.names.any fun (n, k) => n == x && (k == .local || k == .cell)) = false := by
      have h := hb.2
      revert h
      cases (scope.names.any fun (n, k) => n == x && (k == .local || k == .cell)) <;> intro h <;> first | rfl | cases h
    exact ps_setLc on.on.calm hnd hiX h1 (sw_true hk h1 hline h2) hi ok hg ht he hs
  | false =>
    refine ps_set hnd hiX (by rw [on.on.sc]; exact loc_of hl) (pe_lc on.on.calm hnd hi ok hg ht he hs) ?_ (.inl (on.fn x))
    have hbk : X.env.blockKind = .function := by unfold Env.blockKind; rw [hk]; rfl
    have e : (X.env.blockKind == ScopeKind.function && X.env.kindOf x == some NameKind.local && p.line == pos.line && !(scope.names.any fun (n, k) => n == x && (k == .local || k == .cell))) = false := by
      rw [hbk, hline]
      unfold swB at hb
      have hk2 : (X.env.kindOf x == some NameKind.local) = (match X.env.scope.names.lookup x with | some .local => true | _ => false) := by
        show (X.env.scope.names.lookup x == some NameKind.local) = _
        cases X.env.scope.names.lookup x with
        | none => rfl
        | some k => cases k <;> rfl
      rw [hk2]
      revert hb
      generalize (match X.env.scope.names.lookup x with | some .local => true | _ => false) = b1
      generalize (scope.names.any fun (n, k) => n == x && (k == .local || k == .cell)) = b2
      cases b1 <;> cases b2 <;> intro hb <;> first | rfl | cases hb
    show (pure (X.env.blockKind == ScopeKind.function && X.env.kindOf x == some NameKind.local && p.line == pos.line && !(scope.names.any fun (n, k) => n == x && (k == .local || k == .cell))) : Sem Bool) = pure false
    rw [e]
end
end Sf
end
section
set_option linter.all false
set_option maxRecDepth 100000
set_option maxHeartbeats 1000000
/-! Sf.Good6: the other statements. -/
namespace Sf
open PySem L2
section
variable {Γ : Gam} {sc : Scope} {E : XK} {sg : Sg}
/-- the value that is set to a name, whatever kind of slot it gets -/
def GoodSet (Γ : Gam) (sc : Scope) (E : XK) (i : Nat) (st : Stmt) (m : Rho → Hs → Res Val) : Prop := ∃ t, (∀ X, OnS Γ sc E X → PS X st (tAsg t (gName i))) ∧ Snd Γ.T E t m
theorem GoodSet.v {i : Nat} {st : Stmt} {c : C} (h : GoodSet Γ sc E i st (ev sg c)) : GoodS Γ sc E st (exec sg (.set i c)) := by
  obtain ⟨t, p, s⟩ := h
  exact ⟨_, p, sndS_set i s⟩
theorem GoodSet.a {i : Nat} {st : Stmt} {c : C} (h : GoodSet Γ sc E i st (ev sg c)) : GoodS Γ sc E st (exec sg (.setA i c)) := by
  obtain ⟨t, p, s⟩ := h
  exact ⟨_, p, sndS_setA i s⟩
theorem GoodSet.c {i : Nat} {st : Stmt} {c : C} (h : GoodSet Γ sc E i st (ev sg c)) : GoodS Γ sc E st (exec sg (.setC i c)) := by
  obtain ⟨t, p, s⟩ := h
  exact ⟨_, p, sndS_setC i s⟩
theorem goodSet_plain {x : Str} {e : Expr} {p pos : Pos} {i : Nat} {ce : C} (hN : Γ.N[i]? = some x) (hl : locB sc x = true) (hc : notComp e = true) (h : Good Γ sc E e (ev sg ce)) : GoodSet Γ sc E i (.Assign [.Name x p] e pos) (ev sg ce) := by
  obtain ⟨t, pe, s⟩ := h
  exact ⟨t, fun X on => ps_setP on hN hl hc (pe X on.on), s⟩
theorem goodSet_comp {x : Str} {p : Pos} {i : Nat} {elt tg iter : Expr} {scope : Scope} {pos spos : Pos} {t : Tg} {own : List Nat} {it : I} {ce : C} (hN : Γ.N[i]? = some x) (hl : locB sc x = true) (hline : (p.line == pos.line) = true) (hkind : sc.kind = .function)
    (hb : blkC Γ.N sc scope (ownP Γ.N own) = true) (ho : ∀ i ∈ t.slots, i ∈ own) (ht : okTg Γ.N (ownB scope) t tg = true) (hs : fitB tg iter = true)
    (hi : GoodI Γ sc E true iter (evI sg true it)) (he : Good Γ (relS scope sc) E0 elt (ev sg ce)) : GoodSet Γ sc E i (.Assign [.Name x p] (.ListComp elt [⟨tg, iter, [], 0⟩] scope pos) spos) (ev sg (.comp t own it ce)) := by
  obtain ⟨wi, pi, si⟩ := hi
  obtain ⟨te, pe, se⟩ := he
  refine ⟨tLc wi (gTg Γ.T.K t) tYes te own, fun X on => ?_, snd_comp si sndT_yes se t own ho⟩
  have hbk : BlkOk X.N X.env.scope scope (ownP Γ.N own) := by rw [on.on.N, on.on.sc]; exact blkOk_by hb
  have h := lc_set on (elt := elt) (tg := tg) (iter := iter) (ifs := []) (p := p) (pos := pos) (spos := spos) (g := gTg X.K t) (tt := tYes) (te := te) hN hl hline hkind (pi X tg on.on (fitB_fit hs)) hbk
    (fun s H C cl fp => pg_of (X := X.blk s H scope (compEnvC scope cl C X.env) fp) on.on.calm (by show X.N.Nodup; rw [on.on.N]; exact on.on.nd) (fun x hx => blk_store x hx) (by show okTg X.N _ _ _ = true; rw [on.on.N]; exact ht))
    (fun _ _ _ _ _ => pts_nil) (fun s H C cl fp => pe _ (on_blk on.on)) (set_plain (fitB_set hs))
  rw [ownP_snd, on.on.K] at h
  exact h
theorem goodSet_compIf {x : Str} {p : Pos} {i : Nat} {elt tg iter cnd : Expr} {scope : Scope} {pos spos : Pos} {t : Tg} {own : List Nat} {it : I} {cc ce : C} (hN : Γ.N[i]? = some x) (hl : locB sc x = true) (hline : (p.line == pos.line) = true) (hkind : sc.kind = .function)
    (hb : blkC Γ.N sc scope (ownP Γ.N own) = true) (ho : ∀ i ∈ t.slots, i ∈ own) (ht : okTg Γ.N (ownB scope) t tg = true) (hs : fitB tg iter = true)
    (hi : GoodI Γ sc E true iter (evI sg true it)) (hc : GoodT Γ (relS scope sc) E0 cnd (ev sg cc)) (he : Good Γ (relS scope sc) E0 elt (ev sg ce)) : GoodSet Γ sc E i (.Assign [.Name x p] (.ListComp elt [⟨tg, iter, [cnd], 0⟩] scope pos) spos) (ev sg (.compIf t own it cc ce)) := by
  obtain ⟨wi, pi, si⟩ := hi
  obtain ⟨tt, pt, st⟩ := hc
  obtain ⟨te, pe, se⟩ := he
  refine ⟨tLc wi (gTg Γ.T.K t) tt te own, fun X on => ?_, snd_comp si st se t own ho⟩
  have hbk : BlkOk X.N X.env.scope scope (ownP Γ.N own) := by rw [on.on.N, on.on.sc]; exact blkOk_by hb
  have h := lc_set on (elt := elt) (tg := tg) (iter := iter) (ifs := [cnd]) (p := p) (pos := pos) (spos := spos) (g := gTg X.K t) (tt := tt) (te := te) hN hl hline hkind (pi X tg on.on (fitB_fit hs)) hbk
    (fun s H C cl fp => pg_of (X := X.blk s H scope (compEnvC scope cl C X.env) fp) on.on.calm (by show X.N.Nodup; rw [on.on.N]; exact on.on.nd) (fun x hx => blk_store x hx) (by show okTg X.N _ _ _ = true; rw [on.on.N]; exact ht))
    (fun _ _ _ _ _ => pts_one (pt _ (on_blk on.on))) (fun s H C cl fp => pe _ (on_blk on.on)) (set_plain (fitB_set hs))
  rw [ownP_snd, on.on.K] at h
  exact h
/-! ### several targets -/
def notTup : Expr → Bool
  | .Tuple .. => false
  | _ => true
theorem stores_plain {es : List Expr} {k : Nat} {p : Pos} {e : Expr} {env : Env} (h : notTup e = true) : swappedStores [.Tuple es k p] e env = pure none := by
  cases e <;> first | rfl | cases h
theorem tgS {X : Cx} (on : OnS Γ sc E X) (x : Str) (h : locB sc x = true) : Loc X.env.scope x ∧ (X.fn x = true ∨ X.env.scope.names.lookup x = some .local) := ⟨by rw [on.on.sc]; exact loc_of h, .inl (on.fn x)⟩
theorem goodS_unp {es : List Expr} {k : Nat} {e : Expr} {p pos : Pos} {is : List Nat} {ce : C} (ht : okTg Γ.N (locB sc) (.tup is) (.Tuple es k p) = true) (hc : notComp e = true) (hn : notTup e = true) (h : Good Γ sc E e (ev sg ce)) : GoodS Γ sc E (.Assign [.Tuple es k p] e pos) (exec sg (.unp is ce)) := by
  obtain ⟨t, pe, s⟩ := h
  refine ⟨tAsg t (gTg Γ.T.K (.tup is)), fun X on => ?_, sndS_unp is s⟩
  have hg := pg_of (X := X) (t := .tup is) (tg := .Tuple es k p) on.on.calm (by rw [on.on.N]; exact on.on.nd) (fun x hx => tgS on x hx) (by rw [on.on.N]; exact ht)
  rw [on.on.K] at hg
  exact ps_asg (pe X on.on) hg (by show swapsWith e (some (.Tuple es k p)) pos.line X.env = pure false; exact swaps_plain hc) (stores_plain hn) rfl
/-- a, b = x, y -/
def parB (sc : Scope) (x y : Str) (px py : Pos) (a b : Expr) : Bool :=
  (match sc.names.lookup x with | some .local => true | _ => false) && (match sc.names.lookup y with | some .local => true | _ => false) && (py.line == px.line) && !(x == y) && notStar a && notStar b && !(foldedForSure 8 a && foldedForSure 8 b) && !(constantsAlone 8 a && constantsAlone 8 b)
theorem par_stores {env : Env} {x y : Str} {px py pt pt2 : Pos} {k k2 : Nat} {a b : Expr} (hk : env.scope.kind = .function) (h : parB env.scope x y px py a b = true) : swappedStores [.Tuple [.Name x px, .Name y py] k pt] (.Tuple [a, b] k2 pt2) env = pure (some [x, y]) := by
  unfold parB at h
  simp only [Bool.and_eq_true, Bool.not_eq_true', beq_iff_eq] at h
  obtain ⟨⟨⟨⟨⟨⟨⟨h1, h2⟩, h3⟩, h4⟩, h5⟩, h6⟩, h7⟩, h8⟩ := h
  have e1 : env.kindOf x = some .local := by
    show env.scope.names.lookup x = _
    split at h1
    · assumption
    · cases h1
  have e2 : env.kindOf y = some .local := by
    show env.scope.names.lookup y = _
    split at h2
    · assumption
    · cases h2
  have hb : env.blockKind = .function := by unfold Env.blockKind; rw [hk]; rfl
  have st : ∀ e : Expr, notStar e = true → (match e with | .Starred .. => true | _ => false) = false := fun e he => by cases e <;> first | rfl | cases he
  have s1 : ([a, b].any fun | .Starred .. => true | _ => false) = false := by
    rw [List.any_cons, List.any_cons, List.any_nil, st a h5, st b h6]; rfl
  have nxy : (x == y) = false := h4
  have nyx : (y == x) = false := by
    rw [beq_eq_false_iff_ne] at nxy ⊢
    exact fun e => nxy e.symm
  have f1 : ([a, b].all (foldedForSure 8)) = false := by
    rw [List.all_cons, List.all_cons, List.all_nil, Bool.and_true]; exact h7
  have c1 : ([a, b].all (constantsAlone 8)) = false := by
    rw [List.all_cons, List.all_cons, List.all_nil, Bool.and_true]; exact h8
  have nm : ([Expr.Name x px, Expr.Name y py].filterMap fun
      | .Name id pos => if env.kindOf id == some .local && pos.line == px.line then some id else none
      | _ => none) = [x, y] := by
    simp [List.filterMap_cons, e1, e2, h3]
  have ed : [x, y].eraseDups = [x, y] := by simp [List.eraseDups_cons, nyx]
  show (if (!(2 == 2 || 2 == 3) || 2 != 2 || env.blockKind != .function) = true then pure none else _) = _
  rw [hb]
  show (if ([a, b].any fun | .Starred .. => true | _ => false) = true then (pure none : Sem (Option (List Str))) else _) = _
  rw [s1]
  show (if (([Expr.Name x px, Expr.Name y py].filterMap fun
      | .Name id pos => if env.kindOf id == some .local && pos.line == px.line then some id else none
      | _ => none).length != 2 || ([Expr.Name x px, Expr.Name y py].filterMap fun
      | .Name id pos => if env.kindOf id == some .local && pos.line == px.line then some id else none
      | _ => none).eraseDups.length != ([Expr.Name x px, Expr.Name y py].filterMap fun
      | .Name id pos => if env.kindOf id == some .local && pos.line == px.line then some id else none
      | _ => none).length) = true then (pure none : Sem (Option (List Str))) else _) = _
  rw [nm, ed]
  show (if [a, b].all (foldedForSure 8) = true then (pure none : Sem (Option (List Str))) else _) = _
  rw [f1]
  show (if [a, b].all (constantsAlone 8) = true then _ else _) = _
  rw [c1]
  show pure (some (([Expr.Name x px, Expr.Name y py].filterMap fun
      | .Name id pos => if env.kindOf id == some .local && pos.line == px.line then some id else none
      | _ => none))) = _
  rw [nm]
end
end Sf
end
section
set_option linter.all false
set_option maxRecDepth 100000
set_option maxHeartbeats 1000000
/-! Sf.Good7: the last statements, a def. -/
namespace Sf
open PySem L2
section
variable {Γ : Gam} {sc : Scope} {E : XK} {sg : Sg}
theorem goodS_par {x y : Str} {px py pt pt2 pos : Pos} {k k2 i j : Nat} {a b : Expr} {ca cb : C} (hk : sc.kind = .function) (h : parB sc x y px py a b = true) (hi : Γ.N[i]? = some x) (hj : Γ.N[j]? = some y) (hij : i ≠ j) (ha : Good Γ sc E a (ev sg ca)) (hb : Good Γ sc E b (ev sg cb)) :
    GoodS Γ sc E (.Assign [.Tuple [.Name x px, .Name y py] k pt] (.Tuple [a, b] k2 pt2) pos) (exec sg (.par i j ca cb)) := by
  obtain ⟨ta, pa, sa⟩ := ha
  obtain ⟨tb, pb, sb⟩ := hb
  have h' := h
  unfold parB at h'
  simp only [Bool.and_eq_true] at h'
  obtain ⟨⟨⟨⟨⟨⟨⟨h1, h2⟩, h3⟩, h4⟩, h5⟩, h6⟩, h7⟩, h8⟩ := h'
  refine ⟨tPar i j (tCons ta (tCons tb tNil)), fun X on => ?_, sndS_par i j sa sb⟩
  have e1 : X.env.scope.names.lookup x = some .local := by
    rw [on.on.sc]
    split at h1
    · assumption
    · cases h1
  have e2 : X.env.scope.names.lookup y = some .local := by
    rw [on.on.sc]
    split at h2
    · assumption
    · cases h2
  exact ps_par on.on.calm (by rw [on.on.N]; exact on.on.nd) (by rw [on.on.N]; exact hi) (by rw [on.on.N]; exact hj) hij e1 e2 (pa_cons (pa X on.on) (pa1 h6 (pb X on.on)) (starEach_cons h5)) (par_stores (by rw [on.on.sc]; exact hk) (by rw [on.on.sc]; exact h))
theorem goodS_setIx {x : Str} {p pos pos2 : Pos} {i : Nat} {k e : Expr} {ck ce : C} (hN : Γ.N[i]? = some x) (hv : visB sc x = true) (hx : okName x = true) (hc : notComp e = true) (hk : Good Γ sc E k (ev sg ck)) (he : Good Γ sc E e (ev sg ce)) (hp : plainIx k = true) :
    GoodS Γ sc E (.Assign [.Subscript (.Name x p) k pos2] e pos) (exec sg (.setIx i ck ce)) := by
  obtain ⟨tk, pk, sk⟩ := hk
  obtain ⟨te, pe, se⟩ := he
  refine ⟨tAsg te (gSub (tVar i) tk rSetL), fun X on => ?_, sndS_setIx i sk se⟩
  have po : PE X (.Name x p) (tVar i) := pe_var (by rw [on.on.N]; exact hN) (by rw [on.on.sc]; exact vis_of hv) (okName_d hx) (okName_c hx)
  exact ps_asg (pe X on.on) (pg_sub po (pk X on.on) set_list (fun v => by cases k <;> first | rfl | cases hp)) (by show swapsWith e (some (.Subscript (.Name x p) k pos2)) pos.line X.env = pure false; exact swaps_plain hc) (by cases e <;> rfl) rfl
theorem goodS_setLoc {o k e : Expr} {pos pos2 : Pos} {co ck ce : C} (hc : notComp e = true) (ho : Good Γ sc E o (ev sg co)) (hk : Good Γ sc E k (ev sg ck)) (he : Good Γ sc E e (ev sg ce)) (hp : plainIx k = true) :
    GoodS Γ sc E (.Assign [.Subscript o k pos2] e pos) (exec sg (.setLoc co ck ce)) := by
  obtain ⟨to, po, so⟩ := ho
  obtain ⟨tk, pk, sk⟩ := hk
  obtain ⟨te, pe, se⟩ := he
  refine ⟨tAsg te (gSub to tk rSetL), fun X on => ?_, sndS_setLoc so sk se⟩
  exact ps_asg (pe X on.on) (pg_sub (po X on.on) (pk X on.on) set_list (fun v => by cases k <;> first | rfl | cases hp)) (by show swapsWith e (some (.Subscript o k pos2)) pos.line X.env = pure false; exact swaps_plain hc) (by cases e <;> rfl) rfl
theorem goodS_app {x : Str} {p apos pos pos2 : Pos} {i : Nat} {e : Expr} {ce : C} (hN : Γ.N[i]? = some x) (hv : visB sc x = true) (hx : okName x = true) (hs : notStar e = true) (hl : (apos.endLine == pos.line) = true) (he : Good Γ sc E e (ev sg ce)) :
    GoodS Γ sc E (.Expr (.Call (.Attribute (.Name x p) "append" apos) [e] [] pos) pos2) (exec sg (.app i ce)) := by
  obtain ⟨te, pe, se⟩ := he
  refine ⟨tDrop (tBM Γ.T.K "list" rAppend (tVar i) (tCons te tNil)), fun X on => ?_, sndS_app i se⟩
  have po : PE X (.Name x p) (tVar i) := pe_var (by rw [on.on.N]; exact hN) (by rw [on.on.sc]; exact vis_of hv) (okName_d hx) (okName_c hx)
  rw [← on.on.K]
  refine ps_expr (pe_bm PySem.F.plainAttrs_list PySem.F.slot_list_append PySem.F.type_list_append mt_append po (pa1 hs (pe X on.on)) (base_plain rfl) ?_ hl (starEach_cons hs) rfl) rfl
  have h := form_few (es := [e]) (env := X.env) (pos := pos) (by rw [List.all_cons, hs]; rfl) (by show 1 < 30; decide)
  unfold methodCallForm at h
  exact h
/-- the in-place operators of ints -/
def augI : Operator → Option (Int → Int → Int)
  | .Add => some (· + ·)
  | .Sub => some (· - ·)
  | .Mult => some (· * ·)
  | _ => none
theorem ip_mulD {X : Cx} : PIp X .Mult (rI CMulD fun i j => .int (i * j)) := fun pins s σ H x y v u Q I r1 r2 h =>
  (opI (f := inplaceOp .Mult) (fun i j _ _ _ _ _ hc q => PyProof.Rows.imul_int q (CMulW.ok (show CMulW i j from of_decide_eq_true (p := i.natAbs.log2 + j.natAbs.log2 < 1000000) hc))) : OpR X (inplaceOp .Mult) (rI CMulD fun i j => .int (i * j))) pins s σ H x y v u Q I r1 r2 h
theorem goodS_aug {x : Str} {op : Operator} {p pos : Pos} {i : Nat} {e : Expr} {ce : C} (hN : Γ.N[i]? = some x) (hl : locB sc x = true) (hop : (augI op).isSome = true) (he : Good Γ sc E e (ev sg ce)) : GoodS Γ sc E (.AugAssign (.Name x p) op e pos) (exec sg (.aug op i ce)) := by
  obtain ⟨te, pe, se⟩ := he
  have st : ∀ X, OnS Γ sc E X → ∀ {op : Operator} {ti : TIp}, PIp X op ti → PS X (.AugAssign (.Name x p) op e pos) (tAug i te ti) := fun X on op ti h =>
    ps_aug (by rw [on.on.N]; exact on.on.nd) (by rw [on.on.N]; exact hN) (by rw [on.on.sc]; exact loc_of hl) (pe X on.on) h (.inl (on.fn x))
  cases op with
  | Add => exact ⟨_, fun X on => st X on ip_add, sndS_aug (op := .Add) i se (fun a b z H Q hz q => ⟨a, b, rfl, rfl, by have e := hz [] []; cases e; exact q⟩) fun ρ S a b y h => ⟨a + b, fun _ _ => rfl⟩⟩
  | Sub => exact ⟨_, fun X on => st X on ip_sub, sndS_aug (op := .Sub) i se (fun a b z H Q hz q => ⟨a, b, rfl, rfl, by have e := hz [] []; cases e; exact q⟩) fun ρ S a b y h => ⟨a - b, fun _ _ => rfl⟩⟩
  | Mult => exact ⟨_, fun X on => st X on ip_mulD, sndS_aug (op := .Mult) i se (fun a b z H Q hz q => by
      have e : (if mulOk a b = true then some (Val.d (.int (a * b))) else none) = some (Val.d (.int z)) := hz [] []
      by_cases hm : mulOk a b = true
      · rw [if_pos hm] at e; cases e; exact ⟨a, b, rfl, rfl, hm, q⟩
      · rw [if_neg hm] at e; cases e) fun ρ S a b y h => by
      have e : (if mulOk a b = true then some (Val.d (.int (a * b))) else none) = some y := h
      by_cases hm : mulOk a b = true
      · exact ⟨a * b, fun _ _ => if_pos hm⟩
      · rw [if_neg hm] at e; cases e⟩
  | _ => cases hop
theorem goodS_drop {e : Expr} {pos : Pos} {ce : C} (hc : notComp e = true) (he : Good Γ sc E e (ev sg ce)) : GoodS Γ sc E (.Expr e pos) (exec sg (.drop ce)) := by
  obtain ⟨te, pe, se⟩ := he
  exact ⟨_, fun X on => ps_expr (pe X on.on) (swaps_plain hc), sndS_drop se⟩
theorem goodS_ret {e : Expr} {pos : Pos} {ce : C} (he : Good Γ sc E e (ev sg ce)) : GoodS Γ sc E (.Return (some e) pos) (exec sg (.ret ce)) := by
  obtain ⟨te, pe, se⟩ := he
  exact ⟨_, fun X on => ps_ret (pe X on.on), sndS_ret se⟩
theorem goodS_retN {pos : Pos} : GoodS Γ sc E (.Return none pos) (exec sg .retN) := ⟨_, fun _ _ => ps_retN, sndS_retN⟩
theorem goodS_if {c : Expr} {a b : List Stmt} {pos : Pos} {cc : C} {sa sb : Ss} (hc : GoodT Γ sc E c (ev sg cc)) (ha : GoodSs Γ sc E a (execs sg sa)) (hb : GoodSs Γ sc E b (execs sg sb)) : GoodS Γ sc E (.If c a b pos) (exec sg (.ite cc sa sb)) := by
  obtain ⟨tc, pc, s1⟩ := hc
  obtain ⟨ta, pa, s2⟩ := ha
  obtain ⟨tb, pb, s3⟩ := hb
  exact ⟨_, fun X on => ps_if (pc X on.on) (pa X on) (pb X on), sndS_if s1 s2 s3⟩
theorem goodS_for {tg iter : Expr} {body : List Stmt} {pos : Pos} {t : Tg} {it : I} {sb : Ss} (ht : okTg Γ.N (locB sc) t tg = true) (hs : fitB tg iter = true) (hi : GoodI Γ sc E false iter (evI sg false it)) (hb : GoodSs Γ sc E body (execs sg sb)) : GoodS Γ sc E (.For tg iter body [] pos) (exec sg (.forS t it sb)) := by
  obtain ⟨wi, pi, si⟩ := hi
  obtain ⟨tb, pb, s2⟩ := hb
  refine ⟨tFor wi (gTg Γ.T.K t) tb, fun X on => ?_, sndS_for t si s2⟩
  have hg := pg_of (X := X) (t := t) (tg := tg) on.on.calm (by rw [on.on.N]; exact on.on.nd) (fun x hx => tgS on x hx) (by rw [on.on.N]; exact ht)
  rw [on.on.K] at hg
  exact ps_for on.own on.on.calm (pi X tg on.on (fitB_fit hs)) hg (pb X on) (set_plain (fitB_set hs))
theorem goodS_while {c : Expr} {body : List Stmt} {pos : Pos} {m : Rho → Nat} {cc : C} {sb : Ss} (hc : GoodT Γ sc E c (ev sg cc)) (hb : GoodSs Γ sc E body (execs sg sb)) : GoodS Γ sc E (.While c body [] pos) (exec sg (.whileS m cc sb)) := by
  obtain ⟨tc, pc, s1⟩ := hc
  obtain ⟨tb, pb, s2⟩ := hb
  exact ⟨_, fun X on => ps_while on.own (pc X on.on) (pb X on), sndS_while m s1 s2⟩
theorem goodS_brk {pos : Pos} : GoodS Γ sc E (.Break pos) (exec sg .brk) := ⟨_, fun _ _ => ps_break, sndS_brk⟩
theorem goodS_cnt {pos : Pos} : GoodS Γ sc E (.Continue pos) (exec sg .cnt) := ⟨_, fun _ _ => ps_continue, sndS_cnt⟩
theorem goodS_pass {pos : Pos} : GoodS Γ sc E (.Pass pos) (exec sg .pass) := ⟨_, fun _ _ => ps_pass, sndS_pass⟩
theorem goodS_fld {x f : Str} {p apos pos : Pos} {i c q : Nat} {e : Expr} {ce : C} (hN : Γ.N[i]? = some x) (hv : visB sc x = true) (hx : okName x = true) (hc : notComp e = true) (hC : Cls Γ.T.K (Γ.T.cad c)) (hNo : NoAttr Γ.T.K (Γ.T.cad c) f) (hq : (Γ.T.cfl c)[q]? = some f) (nd : (Γ.T.cfl c).Nodup) (hl : (Γ.T.cfl c).length < 1000) (he : Good Γ sc E e (ev sg ce)) :
    GoodS Γ sc E (.Assign [.Attribute (.Name x p) f apos] e pos) (exec sg (.fldS i c q f ce)) := by
  obtain ⟨te, pe, se⟩ := he
  refine ⟨sFld Γ.T.K (tVar i) te f, fun X on => ?_, sndS_fld i c q f rfl hC hNo hq nd hl se⟩
  have po : PE X (.Name x p) (tVar i) := pe_var (by rw [on.on.N]; exact hN) (by rw [on.on.sc]; exact vis_of hv) (okName_d hx) (okName_c hx)
  rw [← on.on.K]
  exact ps_fld po (pe X on.on) (swaps_plain hc)
theorem goodS_fldC {x f : Str} {p apos pos : Pos} {i c q : Nat} {e : Expr} {ce : C} (hN : Γ.N[i]? = some x) (hv : visB sc x = true) (hx : okName x = true) (hc : notComp e = true) (hC : Cls Γ.T.K (Γ.T.cad c)) (hNo : NoAttr Γ.T.K (Γ.T.cad c) f) (hq : (Γ.T.cfl c)[q]? = some f) (nd : (Γ.T.cfl c).Nodup) (hl : (Γ.T.cfl c).length < 1000) (he : Good Γ sc E e (ev sg ce)) :
    GoodS Γ sc E (.Assign [.Attribute (.Name x p) f apos] e pos) (exec sg (.fldC i c q f ce)) := by
  obtain ⟨te, pe, se⟩ := he
  have e1 : exec sg (.fldC i c q f ce) = fun ρ S => match ρ[i]? with
      | some (.ini k l) => if k = c ∧ l.length = q then (ev sg ce ρ S).out fun x S => match x with
        | .fr xs => .nx (ρ.set i (.ini c (l ++ [.loc S.length]))) (S ++ [xs])
        | _ => .bad
        else .bad
      | _ => .bad := by
    funext ρ S
    rw [exec] <;> rfl
  rw [e1]
  refine ⟨sFld Γ.T.K (tVar i) te f, fun X on => ?_, sndS_fldC i c q f rfl hC hNo hq nd hl se⟩
  have po : PE X (.Name x p) (tVar i) := pe_var (by rw [on.on.N]; exact hN) (by rw [on.on.sc]; exact vis_of hv) (okName_d hx) (okName_c hx)
  rw [← on.on.K]
  exact ps_fld po (pe X on.on) (swaps_plain hc)
/-! ### a def -/
theorem start_ne {ds : List D} {n i : Nat} {s : Sl} (e : (ds.map Sl.va ++ List.replicate n Sl.no)[i]? = some s) : (∃ d, ds[i]? = some d ∧ s = .va d) ∨ s = .no := by
  by_cases h : i < ds.length
  · rw [List.getElem?_append_left (by simpa using h), List.getElem?_map] at e
    cases ed : ds[i]? with
    | none => rw [ed] at e; cases e
    | some d => rw [ed] at e; cases e; exact .inl ⟨d, rfl, rfl⟩
  · rw [List.getElem?_append_right (by simpa using h), List.getElem?_replicate] at e
    split at e
    · cases e; exact .inr rfl
    · cases e
theorem start_rel {T : Tab} {z0 : Addr} {H G : Hp} {ι : List Addr} {N : List Str} {vs : List V} {ds : List D} (r : Reps T G ι vs ds) (hn : vs.length ≤ N.length) : FRel T z0 H (L2.start N vs) (ds.map .va ++ List.replicate (N.length - ds.length) .no) H G ι := by
  have hlen := r.length
  refine ⟨⟨?_, fun i x e => ?_, fun i l e => ?_, fun i j l k a e => ?_, fun i c l e => ?_⟩, fun i l a e => ?_, fun i c l a e => ?_⟩
  · unfold L2.start
    rw [List.length_append, List.length_append, List.length_map, List.length_map, List.length_replicate, List.length_replicate, hlen]
  · rcases start_ne e with ⟨d, h1, h2⟩ | h
    · cases h2
      obtain ⟨v, h3, h4⟩ := r.get h1
      refine ⟨v, ?_, h4⟩
      have hi : i < vs.length := (List.getElem?_eq_some_iff.mp h3).1
      unfold L2.start
      rw [List.getElem?_append_left (by simpa using hi), List.getElem?_map, h3]; rfl
    · cases h
  all_goals rcases start_ne e with ⟨d, _, h⟩ | h <;> cases h
/-- the same of an __init__ -/
theorem init_rel {T : Tab} {x dx : Addr} {c : Nat} {H0 H G : Hp} {ι : List Addr} {N : List Str} {us : List V} {ds : List D} (r : Reps T G ι us ds) (hx : H x = some (.ins (T.cad c) dx [])) (h0 : H0 x = none) (hG : G x = none) (hi : x ∉ ι) (hn : us.length < N.length) :
    FRel T x H0 (L2.start N (.ref x :: us)) (.ini c [] :: (ds.map .va ++ List.replicate (N.length - 1 - ds.length) .no)) H G ι := by
  have hlen := r.length
  have s0 : (L2.start N (V.ref x :: us))[0]? = some (some (.ref x)) := rfl
  refine ⟨⟨?_, fun i x e => ?_, fun i l e => ?_, fun i j l k a e => ?_, fun i c' l e => ?_⟩, fun i l a e => ?_, fun i c' l a e es => ?_⟩
  · unfold L2.start
    simp only [List.length_append, List.length_cons, List.length_map, List.length_replicate]
    omega
  · cases i with
    | zero => cases e
    | succ i =>
      rw [List.getElem?_cons_succ] at e
      rcases start_ne e with ⟨d, h1, h2⟩ | h
      · cases h2
        obtain ⟨v, h3, h4⟩ := r.get h1
        refine ⟨v, ?_, h4⟩
        have hi : i < us.length := (List.getElem?_eq_some_iff.mp h3).1
        unfold L2.start
        rw [List.map_cons, List.cons_append, List.getElem?_cons_succ, List.getElem?_append_left (by simpa using hi), List.getElem?_map, h3]; rfl
      · cases h
  · cases i with
    | zero => cases e
    | succ i =>
      rw [List.getElem?_cons_succ] at e
      rcases start_ne e with ⟨d, _, h⟩ | h <;> cases h
  · cases i with
    | zero => cases e
    | succ i =>
      rw [List.getElem?_cons_succ] at e
      rcases start_ne e with ⟨d, _, h⟩ | h <;> cases h
  · cases i with
    | zero =>
      cases e
      exact ⟨x, dx, [], s0, hx, rfl, .nil, hG, hi⟩
    | succ i =>
      rw [List.getElem?_cons_succ] at e
      rcases start_ne e with ⟨d, _, h⟩ | h <;> cases h
  · cases i with
    | zero => cases e
    | succ i =>
      rw [List.getElem?_cons_succ] at e
      rcases start_ne e with ⟨d, _, h⟩ | h <;> cases h
  · cases i with
    | zero =>
      rw [s0] at es
      cases es
      exact ⟨h0, rfl, rfl⟩
    | succ i =>
      rw [List.getElem?_cons_succ] at e
      rcases start_ne e with ⟨d, _, h⟩ | h <;> cases h
theorem ends_post {T : Tab} {z0 : Addr} {E : XK} {H G : Hp} {ι : List Addr} {Q : VK} {o : Out} (p : Post T [] H G ι Q E (match o with
    | .rt v S' => .ok v S'
    | .nx _ S' => .ok (.d .non) S'
    | .ex c fs S' => .ex c fs S'
    | _ => .bad)) : PostS T E z0 H G ι G ι { nx := fun _ H' => Q .non H', rt := Q } o := by
  cases o with
  | nx ρ S => exact fun σ H' G' ι' t g f => p .non H' G' ι' t.st g .non
  | rt v S =>
    intro x σ H' G' ι' t g hne vr
    refine p x H' G' ι' t.st g ?_
    cases v with
    | d d => exact vr
    | fr l => exact vr
    | ow i => exact absurd rfl (hne i)
  | ex c fs S => exact p
  | bk ρ S => exact p.elim
  | ct ρ S => exact p.elim
  | bad => exact p.elim
theorem init_post {T : Tab} {E : XK} {x : Addr} {c nf : Nat} {H0 G : Hp} {ι : List Addr} {Q : VK} {o : Out}
    (p : (match (match o with
      | .nx ρ S' => (match (ρ[0]? : Option Sl) with
        | some (.ini k l) => if k = c ∧ l.length = nf then (Res.ok l S' : Res (List D)) else .bad
        | _ => .bad)
      | .ex c fs S' => .ex c fs S'
      | _ => .bad : Res (List D)) with
    | .ok l S' => ∀ H' G' ι' fs dx, Step H0 G ι H' G' ι' → GRel T H' S' G' ι' → H' x = some (.ins (T.cad c) dx fs) → fs.map (·.1) = (T.cfl c).take l.length → Reps T G' ι' (fs.map (·.2)) l → G' x = none → x ∉ ι' → Q .non H'
    | .ex k fs S' => XPost T H0 G ι E k fs S'
    | .bad => False)) : PostS T E x H0 G ι G ι { nx := fun _ H' => Q .non H', rt := Q } o := by
  cases o with
  | nx ρ S =>
    intro σ H' G' ι' t g f
    dsimp only at p
    split at p
    · rename_i h
      split at h
      · rename_i k l' hk
        split at h
        · rename_i ek
          cases h
          obtain ⟨ek, _⟩ := ek
          subst ek
          obtain ⟨a, dx', fs, e1, e2, e3, e4, e5, e6⟩ := f.s.ii 0 _ _ hk
          obtain ⟨_, _, rfl⟩ := f.fi 0 _ _ a hk e1
          exact p H' G' ι' fs dx' t.st g e2 e3 e4 e5 e6
        · cases h
      · cases h
    · rename_i h
      split at h
      · split at h <;> cases h
      · cases h
    · exact p.elim
  | rt v S => exact p.elim
  | ex c fs S => exact p
  | bk ρ S => exact p.elim
  | ct ρ S => exact p.elim
  | bad => exact p.elim
abbrev Γup (Γ : Gam) : Gam := { Γ with k := Γ.k + 1 }
/-- a def keeps the promise of its code -/
theorem def_okF {x qual : Str} {st : Stmt} {f : Addr} {fd : FuncData} {ps : List Str} {b : Ss} (F : Fun Γ.T.K x qual st f fd) (S : FnScope Γ.N ps (defScope st)) (h : ∀ E, GoodSs Γ (defScope st) E (defBody st) (execs sg b)) :
    FnOk Γ.P Γ.w Γ.T.K Γ.mg Γ.base (L2N.CX Γ.P Γ.w) (Γ.k + 1) f fd ps (fun vs H Q E => vs.length = ps.length ∧ spR Γ.T (runDef sg ps.length Γ.N.length b) vs H Q E) := by
  obtain ⟨oc, od, kV, doc, pm, an, cdv, ct, osl, rfl, lk, hcd⟩ := F.ex
  refine fn_of (CX := L2N.CX Γ.P Γ.w) (P := Γ.P) (w := Γ.w) (mg := Γ.mg) (base := Γ.base) (k := Γ.k) (N := Γ.N) (sp := fun vs H Q E => vs.length = ps.length ∧ spR Γ.T (runDef sg ps.length Γ.N.length b) vs H Q E) lk hcd S (fun vs H Q E q => q.1) fun A outer s H vs Q E hr q => ?_
  obtain ⟨hl, ds, S0, G, ι, g, r, p⟩ := q
  obtain ⟨t, pt, snd⟩ := h E
  refine ⟨t, pt _ ⟨⟨rfl, rfl, rfl, rfl, rfl, rfl, S.nd, rfl, rfl, hr, L2N.passes_call (L2N.takes_of rfl rfl rfl rfl) fun _ _ _ _ h => h⟩, passes_of rfl, fun _ => rfl, L2N.takes_of rfl rfl rfl rfl, rfl, rfl⟩, ?_⟩
  have hpl : ps.length ≤ Γ.N.length := by have := congrArg List.length S.pre; rw [List.length_take] at this; omega
  have hd : ds.length = ps.length := by rw [← r.length]; exact hl
  unfold runDef at p
  rw [if_pos hd, ← hd] at p
  exact snd _ _ H G ι S0 0 H G ι _ (Step.refl _ _ _) g (start_rel r (by omega)) (ends_post p)
theorem def_ok {x qual : Str} {st : Stmt} {f : Addr} {fd : FuncData} {ps : List Str} {b : Ss} (F : Fun Γ.T.K x qual st f fd) (S : FnScope Γ.N ps (defScope st)) (B : Binds Γ.T.K fd ps []) (h : ∀ E, GoodSs Γ (defScope st) E (defBody st) (execs sg b)) :
    FR (Γup Γ) f (spR Γ.T (runDef sg ps.length Γ.N.length b)) := by
  refine (FnOk.raw (def_okF F S h) B .nil).imp fun vs H Q E q => ?_
  rw [List.append_nil]
  refine ⟨?_, q⟩
  obtain ⟨ds, S0, G, ι, g, r, p⟩ := q
  rw [r.length]
  unfold runDef at p
  by_cases e : ds.length = ps.length
  · exact e
  · rw [if_neg e] at p; exact p.elim
/-- an __init__ keeps the promise of its code -/
theorem init_ok {x qual : Str} {st : Stmt} {f : Addr} {fd : FuncData} {ps : List Str} {p0 : Str} {c nf : Nat} {b : Ss} (F : Fun Γ.T.K x qual st f fd) (S : FnScope Γ.N (p0 :: ps) (defScope st)) (B : Binds Γ.T.K fd (p0 :: ps) []) (h : ∀ E, GoodSs Γ (defScope st) E (defBody st) (execs sg b)) :
    FR (Γup Γ) f (spInit Γ.T c (runInit sg ps.length (Γ.N.length - 1) c nf b)) := by
  obtain ⟨oc, od, kV, doc, pm, an, cdv, ct, osl, rfl, lk, hcd⟩ := F.ex
  have main := fn_of (CX := L2N.CX Γ.P Γ.w) (P := Γ.P) (w := Γ.w) (mg := Γ.mg) (base := Γ.base) (k := Γ.k) (N := Γ.N) (sp := fun vs H Q E => vs.length = (p0 :: ps).length ∧ spInit Γ.T c (runInit sg ps.length (Γ.N.length - 1) c nf b) vs H Q E) lk hcd S (fun vs H Q E q => q.1) fun A outer s H vs Q E hr q => by
    obtain ⟨hl, x0, dx, us, rfl, hx, ds, S0, G, ι, H0, g, r, h0, st0, hG, hi, p⟩ := q
    obtain ⟨t, pt, snd⟩ := h E
    refine ⟨t, pt _ ⟨⟨rfl, rfl, rfl, rfl, rfl, rfl, S.nd, rfl, rfl, hr, L2N.passes_call (L2N.takes_of rfl rfl rfl rfl) fun _ _ _ _ h => h⟩, passes_of rfl, fun _ => rfl, L2N.takes_of rfl rfl rfl rfl, rfl, rfl⟩, ?_⟩
    have hpl : (p0 :: ps).length ≤ Γ.N.length := by have := congrArg List.length S.pre; rw [List.length_take] at this; omega
    have hu : us.length = ps.length := by simpa using hl
    have hd : ds.length = ps.length := by rw [← r.length]; exact hu
    rw [List.length_cons] at hpl
    unfold runInit at p
    rw [if_pos hd, ← hd] at p
    exact snd _ _ H G ι S0 x0 H0 G ι _ st0 g (init_rel r hx h0 hG hi (by omega)) (init_post p)
  refine (FnOk.raw main B .nil).imp fun vs H Q E q => ?_
  rw [List.append_nil]
  refine ⟨?_, q⟩
  obtain ⟨x0, dx, us, rfl, hx, ds, S0, G, ι, H0, g, r, h0, st0, hG, hi, p⟩ := q
  rw [List.length_cons, r.length, List.length_cons]
  unfold runInit at p
  by_cases e : ds.length = ps.length
  · rw [e]
  · rw [if_neg e] at p; exact p.elim
theorem Step.new' {H G : Hp} {ι : List Addr} {p : Addr} {o : HO} (hp : H p = none) (hG : G p = none) : Step H G ι (upd H p o) (upd G p o) ι where
  frame := fun a u h _ => by rw [upd_ne (ne_of_none h hp)]; exact h
  dom := fun a h => by
    by_cases e : a = p
    · rw [e]; exact hp
    · rw [upd_ne e] at h; exact h
  ext := le_upd hG
  pre := Pre.refl _
  newG := fun a h n => by
    have e : a ≠ p := fun e => n (by rw [e]; exact hp)
    rw [upd_ne e]; exact h
  newI := fun _ h _ => h
theorem Step.both {H0 H G : Hp} {ι : List Addr} {p : Addr} {o : HO} (st : Step H0 G ι H G ι) : Step (upd H0 p o) (upd G p o) ι (upd H p o) (upd G p o) ι where
  frame := fun a u h ni => by
    by_cases e : a = p
    · subst e; rw [upd_same] at h ⊢; exact h
    · rw [upd_ne e] at h ⊢; exact st.frame a u h ni
  dom := fun a h => by
    by_cases e : a = p
    · subst e; rw [upd_same] at h; cases h
    · rw [upd_ne e] at h ⊢; exact st.dom a h
  ext := Le.refl _
  pre := Pre.refl _
  newG := fun a h n => h
  newI := fun _ h _ => h
theorem rep_tup {T : Tab} {G : Hp} {ι : List Addr} {p : Addr} {vs : List V} {ds : List D} (hG : G p = none) (hz : vs.length ≤ sizeLine) (r : Reps T G ι vs ds) : Rep T (upd G p (.tup vs)) ι (.ref p) (.tup ds) :=
  .tup (.inl (.inl upd_same)) hz (r.mono (le_upd hG) (Pre.refl _))
/-- a def with a star parameter behind ps -/
theorem star_ok {x qual pv : Str} {st : Stmt} {f : Addr} {fd : FuncData} {ps : List Str} {b : Ss} (F : Fun Γ.T.K x qual st f fd) (S : FnScope Γ.N (ps ++ [pv]) (defScope st))
    (B : ∀ us rest : List Value, us.length = ps.length → bindArgs fd ⟨us ++ rest, []⟩ = (newTuple rest >>= fun t => pure (ps.zip us ++ [(pv, t)]))) (h : ∀ E, GoodSs Γ (defScope st) E (defBody st) (execs sg b)) :
    FR (Γup Γ) f (spR Γ.T (runStar sg ps.length Γ.N.length b)) := by
  obtain ⟨oc, od, kV, doc, pm, an, cdv, ct, osl, rfl, lk, hcd⟩ := F.ex
  have main := StX.fn_star (CX := L2N.CX Γ.P Γ.w) (P := Γ.P) (w := Γ.w) (mg := Γ.mg) (base := Γ.base) (k := Γ.k) (N := Γ.N) (sp := fun vs H Q E => vs.length = ps.length + 1 ∧ spR Γ.T (runDef sg (ps.length + 1) Γ.N.length b) vs H Q E) lk hcd S cxUpN B fun A outer s H vs Q E hr q => by
    obtain ⟨hl, ds, S0, G, ι, g, r, p⟩ := q
    obtain ⟨t, pt, snd⟩ := h E
    refine ⟨t, pt _ ⟨⟨rfl, rfl, rfl, rfl, rfl, rfl, S.nd, rfl, rfl, hr, L2N.passes_call (L2N.takes_of rfl rfl rfl rfl) fun _ _ _ _ h => h⟩, passes_of rfl, fun _ => rfl, L2N.takes_of rfl rfl rfl rfl, rfl, rfl⟩, ?_⟩
    have hpl : (ps ++ [pv]).length ≤ Γ.N.length := by have := congrArg List.length S.pre; rw [List.length_take] at this; omega
    rw [List.length_append, List.length_singleton] at hpl
    have hd : ds.length = ps.length + 1 := by rw [← r.length]; exact hl
    unfold runDef at p
    rw [if_pos hd, ← hd] at p
    exact snd _ _ H G ι S0 0 H G ι _ (Step.refl _ _ _) g (start_rel r (by omega)) (ends_post p)
  refine FnR.imp main fun vs H Q E q => ?_
  obtain ⟨ds, S0, G, ι, g, r, p⟩ := q
  unfold runStar at p
  by_cases e : ps.length ≤ ds.length ∧ ds.length ≤ big
  · rw [if_pos e] at p
    have hlen := r.length
    refine ⟨vs.take ps.length, vs.drop ps.length, (List.take_append_drop _ _).symm, by rw [List.length_take]; omega, by rw [List.length_drop, sizeLine_eq]; have := e.2; unfold big at this; omega, fun p0 hp => ?_⟩
    have g2 : GRel Γ.T (upd H p0 (.tup (vs.drop ps.length))) S0 (upd G p0 (.tup (vs.drop ps.length))) ι := g.new hp
    have hG := g.sub.none hp
    refine ⟨by rw [List.length_append, List.length_take, List.length_singleton]; omega, _, S0, _, ι, g2, ((r.take ps.length).mono (le_upd hG) (Pre.refl _)).append (.cons (rep_tup hG ?_ (r.drop ps.length)) .nil), (Post.mono (Step.new hp g.sub) p).nil⟩
    rw [List.length_drop, sizeLine_eq]; have := e.2; unfold big at this; omega
  · rw [if_neg e] at p; exact p.elim
/-- an __init__ with a star parameter -/
theorem initStar_ok {x qual pv p0 : Str} {st : Stmt} {f : Addr} {fd : FuncData} {ps : List Str} {c nf : Nat} {b : Ss} (F : Fun Γ.T.K x qual st f fd) (S : FnScope Γ.N ((p0 :: ps) ++ [pv]) (defScope st))
    (B : ∀ us rest : List Value, us.length = (p0 :: ps).length → bindArgs fd ⟨us ++ rest, []⟩ = (newTuple rest >>= fun t => pure ((p0 :: ps).zip us ++ [(pv, t)]))) (h : ∀ E, GoodSs Γ (defScope st) E (defBody st) (execs sg b)) :
    FR (Γup Γ) f (spInit Γ.T c (runInitStar sg ps.length (Γ.N.length - 1) c nf b)) := by
  obtain ⟨oc, od, kV, doc, pm, an, cdv, ct, osl, rfl, lk, hcd⟩ := F.ex
  have main := StX.fn_star (CX := L2N.CX Γ.P Γ.w) (P := Γ.P) (w := Γ.w) (mg := Γ.mg) (base := Γ.base) (k := Γ.k) (N := Γ.N) (sp := fun vs H Q E => vs.length = ps.length + 2 ∧ spInit Γ.T c (runInit sg (ps.length + 1) (Γ.N.length - 1) c nf b) vs H Q E) lk hcd S cxUpN B fun A outer s H vs Q E hr q => by
    obtain ⟨hl, x0, dx, us, rfl, hx, ds, S0, G, ι, H0, g, r, h0, st0, hG, hi, p⟩ := q
    obtain ⟨t, pt, snd⟩ := h E
    refine ⟨t, pt _ ⟨⟨rfl, rfl, rfl, rfl, rfl, rfl, S.nd, rfl, rfl, hr, L2N.passes_call (L2N.takes_of rfl rfl rfl rfl) fun _ _ _ _ h => h⟩, passes_of rfl, fun _ => rfl, L2N.takes_of rfl rfl rfl rfl, rfl, rfl⟩, ?_⟩
    have hpl : ((p0 :: ps) ++ [pv]).length ≤ Γ.N.length := by have := congrArg List.length S.pre; rw [List.length_take] at this; omega
    rw [List.length_append, List.length_singleton, List.length_cons] at hpl
    have hu : us.length = ps.length + 1 := by simpa using hl
    have hd : ds.length = ps.length + 1 := by rw [← r.length]; exact hu
    unfold runInit at p
    rw [if_pos hd, ← hd] at p
    exact snd _ _ H G ι S0 x0 H0 G ι _ st0 g (init_rel r hx h0 hG hi (by omega)) (init_post p)
  refine FnR.imp main fun vs H Q E q => ?_
  obtain ⟨x0, dx, us, rfl, hx, ds, S0, G, ι, H0, g, r, h0, st0, hG, hi, p⟩ := q
  unfold runInitStar at p
  by_cases e : ps.length ≤ ds.length ∧ ds.length ≤ big
  · rw [if_pos e] at p
    have hlen := r.length
    refine ⟨.ref x0 :: us.take ps.length, us.drop ps.length, by rw [List.cons_append, List.take_append_drop], by rw [List.length_cons, List.length_take, List.length_cons]; omega, by rw [List.length_drop, sizeLine_eq]; have := e.2; unfold big at this; omega, fun q0 hp => ?_⟩
    have g2 : GRel Γ.T (upd H q0 (.tup (us.drop ps.length))) S0 (upd G q0 (.tup (us.drop ps.length))) ι := g.new hp
    have hGq := g.sub.none hp
    have hne : x0 ≠ q0 := ne_of_none hx hp
    have h0q : H0 q0 = none := st0.dom q0 hp
    have n1 : Step H G ι (upd H q0 (.tup (us.drop ps.length))) (upd G q0 (.tup (us.drop ps.length))) ι := Step.new hp g.sub
    have st1 : Step H0 G ι (upd H q0 (.tup (us.drop ps.length))) (upd G q0 (.tup (us.drop ps.length))) ι := st0.trans n1
    have sN : Step H0 G ι (upd H0 q0 (.tup (us.drop ps.length))) (upd G q0 (.tup (us.drop ps.length))) ι := Step.new' h0q hGq
    have sM : Step (upd H0 q0 (.tup (us.drop ps.length))) (upd G q0 (.tup (us.drop ps.length))) ι (upd H q0 (.tup (us.drop ps.length))) (upd G q0 (.tup (us.drop ps.length))) ι := Step.both st0
    refine ⟨by simp only [List.length_append, List.length_take, List.length_cons, List.length_nil]; omega, x0, dx, us.take ps.length ++ [.ref q0], rfl, by rw [upd_ne hne]; exact hx, _, S0, _, ι, upd H0 q0 (.tup (us.drop ps.length)), g2,
      ((r.take ps.length).mono (le_upd hGq) (Pre.refl _)).append (.cons (rep_tup hGq ?_ (r.drop ps.length)) .nil), by rw [upd_ne hne]; exact h0, sM, by rw [upd_ne hne]; exact hG, hi, ?_⟩
    · rw [List.length_drop, sizeLine_eq]; have := e.2; unfold big at this; omega
    · revert p
      generalize runInit sg (ps.length + 1) (Γ.N.length - 1) c nf b (ds.take ps.length ++ [.tup (ds.drop ps.length)]) S0 = o
      intro p
      cases o with
      | ok l S' => exact fun H' G' ι' fs dx st => p H' G' ι' fs dx (sN.trans st)
      | ex k fs S' => exact XPost.mono sN p
      | bad => exact p
  · rw [if_neg e] at p; exact p.elim
end
end Sf
end
section
set_option linter.all false
set_option maxRecDepth 100000
set_option maxHeartbeats 2000000
/-! Sf.Own: operators of own instances. -/
namespace Sf
open PySem PySem.W PySem.Calls PyProof.Rows
section
variable {prog : Program} {w : World} {A : Around} {E : Value → Shared → Prop} {s : Shared} {K : Frag} {x C L f y C2 f2 : Addr} {h₀ : Heap} {m : Str → Option Value} {ox oy : Obj} {od od2 : Option Obj}
theorem own_binS {op : Operator} {Q : Value → Shared → Prop} (F : Fr h₀ L s.heap m) (X₀ : K.In h₀) (I : InstAt s.heap x ox C od) (I2 : InstAt s.heap y oy C od2) (hc : selfFirst K C = true)
    (hs : findIn K (.ref C) (PySem.dunder op.info.2) = some (some (.ref f))) (hf : isFn K (.ref f) = true)
    (h : wpAny (model prog w) A (call (.ref f) [.ref x, .ref y]) (PySem.W.CmpBack Q) E s) : wpAny (model prog w) A (binaryOp op (.ref x) (.ref y)) Q E s := by
  have X := X₀.keeps F.keep
  obtain ⟨cd, rest, hcd, hm⟩ := ksp_first hc
  rcases hi : op.info with ⟨sym, nm'⟩
  rw [hi] at hs
  dsimp only at hs
  have one := ksp_try X I hs hf h
  obtain ⟨hh, g, d, tt, os⟩ := s
  have L1 : Looks (model prog w) hh (typeOf (.ref x)) (.ref C) := I.type
  have L2 : Looks (model prog w) hh (typeOf (.ref y)) (.ref C) := I2.type
  have L3 : Looks (model prog w) hh (fillsNumberSlot (.ref C) nm') true := fills_K X hcd hm hs
  have hne : (Value.ref C == Value.ref C) = true := beq_self_eq_true _
  simp only [binaryOp, hi]
  refine wpAny_holding (wpAny_bind ?_)
  unfold binaryOp1
  refine wpAny_bind (L1.at (wpAny_bind (L2.at (wpAny_bind (L3.at ?_)))))
  simp only [hne, if_true]
  ksp_lk
  refine wpAny_mono one (fun r s' hr' => ?_) fun _ _ e => e
  obtain ⟨v, rfl, hq⟩ := hr'
  ksp_lk
  exact hq
theorem own_binO {op : Operator} {rc rc2 : Option Value} {Q : Value → Shared → Prop} (F : Fr h₀ L s.heap m) (X₀ : K.In h₀) (I : InstAt s.heap x ox C od) (I2 : InstAt s.heap y oy C2 od2) (hc : selfFirst K C = true) (hc2 : selfFirst K C2 = true) (hne0 : C ≠ C2)
    (hs : findIn K (.ref C) (PySem.dunder op.info.2) = some (some (.ref f))) (hf : isFn K (.ref f) = true) (hr : findIn K (.ref C) (dunderR op.info.2) = some rc) (hp : rc = none ∨ ∃ g : Addr, rc = some (.ref g))
    (hs2 : findIn K (.ref C2) (PySem.dunder op.info.2) = some (some (.ref f2))) (hr2 : findIn K (.ref C2) (dunderR op.info.2) = some rc2) (hp2 : rc2 = none ∨ ∃ g : Addr, rc2 = some (.ref g)) (hsub : subIn K (.ref C2) (.ref C) = some false)
    (h : wpAny (model prog w) A (call (.ref f) [.ref x, .ref y]) (PySem.W.CmpBack Q) E s) : wpAny (model prog w) A (binaryOp op (.ref x) (.ref y)) Q E s := by
  have X := X₀.keeps F.keep
  obtain ⟨cd, rest, hcd, hm⟩ := ksp_first hc
  obtain ⟨cd2, rest2, hcd2, hm2⟩ := ksp_first hc2
  rcases hi : op.info with ⟨sym, nm'⟩
  rw [hi] at hs hr hs2 hr2
  dsimp only at hs hr hs2 hr2
  have one := ksp_try X I hs hf h
  obtain ⟨hh, g, d, tt, os⟩ := s
  have L1 : Looks (model prog w) hh (typeOf (.ref x)) (.ref C) := I.type
  have L2 : Looks (model prog w) hh (typeOf (.ref y)) (.ref C2) := I2.type
  have L3 : Looks (model prog w) hh (fillsNumberSlot (.ref C) nm') true := fills_K X hcd hm hs
  have L4 : Looks (model prog w) hh (fillsNumberSlot (.ref C2) nm') true := fills_K X hcd2 hm2 hs2
  have L5 : Looks (model prog w) hh (isSubtype (.ref C2) (.ref C)) false := looks_subIn X hsub
  have L6 : Looks (model prog w) hh (numberSlotInPython (.ref C) nm') true := ksp_inPy X hs hr hp
  have L7 : Looks (model prog w) hh (numberSlotInPython (.ref C2) nm') true := ksp_inPy X hs2 hr2 hp2
  have hne : (Value.ref C == Value.ref C2) = false := Bool.eq_false_iff.mpr fun q => by
    have := beq_iff_eq.mp q
    injection this with e
    exact hne0 e
  simp only [binaryOp, hi]
  refine wpAny_holding (wpAny_bind ?_)
  unfold binaryOp1
  refine wpAny_bind (L1.at (wpAny_bind (L2.at (wpAny_bind (L3.at ?_)))))
  simp only [hne, Bool.false_eq_true, if_false]
  ksp_lk
  refine wpAny_mono one (fun r s' hr' => ?_) fun _ _ e => e
  obtain ⟨v, rfl, hq⟩ := hr'
  ksp_lk
  exact hq
end
end Sf
namespace Sf
open PySem L2
/-- what is known of a class for its operator -/
structure BinS (K : PySem.W.Frag) (C : Addr) : Prop where
  first : PySem.W.selfFirst K C = true
structure BinO (K : PySem.W.Frag) (op : Operator) (C C2 : Addr) : Prop where
  ne : C ≠ C2
  first2 : PySem.W.selfFirst K C2 = true
  rev : ∃ rc, PySem.W.findIn K (.ref C) (PySem.dunderR op.info.2) = some rc ∧ (rc = none ∨ ∃ g : Addr, rc = some (.ref g))
  fn2 : ∃ f2 : Addr, PySem.W.findIn K (.ref C2) (PySem.dunder op.info.2) = some (some (.ref f2))
  rev2 : ∃ rc, PySem.W.findIn K (.ref C2) (PySem.dunderR op.info.2) = some rc ∧ (rc = none ∨ ∃ g : Addr, rc = some (.ref g))
  sub : PySem.W.subIn K (.ref C2) (.ref C) = some false
structure BinI (K : PySem.W.Frag) (op : Operator) (C : Addr) : Prop where
  rev : ∃ rc, PySem.W.findIn K (.ref C) (PySem.dunderR op.info.2) = some rc ∧ (rc = none ∨ ∃ g : Addr, rc = some (.ref g))
  fo : ∃ fo, PySem.W.findIn K (.type "int") (PySem.dunder op.info.2) = some fo
  ro : ∃ ro, PySem.W.findIn K (.type "int") (PySem.dunderR op.info.2) = some ro
  sub : PySem.W.subIn K (.type "int") (.ref C) = some false
theorem back_rel {X : Cx} {pins : List (Addr × Obj)} {σ : St} {Q : VK} {v : Value} {s' : Shared} (h : EP X pins σ Q v s') : PySem.W.CmpBack (EP X pins σ Q) v s' := by
  obtain ⟨u, H', I', r, q⟩ := h
  cases u with
  | non => cases r; exact ⟨.non, _, I', rfl, q⟩
  | bl b => cases r; exact ⟨.bl b, _, I', rfl, q⟩
  | int i => obtain ⟨t, rfl⟩ := r; exact ⟨.int i, _, I', ⟨t, rfl⟩, q⟩
  | str i => obtain ⟨t, rfl⟩ := r; exact ⟨.str i, _, I', ⟨t, rfl⟩, q⟩
  | byt i => obtain ⟨t, rfl⟩ := r; exact ⟨.byt i, _, I', ⟨t, rfl⟩, q⟩
  | flt i => obtain ⟨t, rfl⟩ := r; exact ⟨.flt i, _, I', ⟨t, rfl⟩, q⟩
  | ref a => cases r; exact ⟨.ref a, _, I', rfl, q⟩
  | ty n => cases r; exact ⟨.ty n, _, I', rfl, q⟩
section
variable {Γ : Gam} {sc : Scope} {E : XK} {sg : Sg}
/-- the other operand -/
def Other (Γ : Gam) (op : Operator) (c : Nat) (y : V) (H : Hp) : Prop := (∃ i, y = .int i ∧ BinI Γ.T.K op (Γ.T.cad c)) ∨ ∃ b dx fs c2, y = .ref b ∧ H b = some (.ins (Γ.T.cad c2) dx fs) ∧ (c2 = c ∨ BinO Γ.T.K op (Γ.T.cad c) (Γ.T.cad c2))
def rBi (Γ : Gam) (op : Operator) (E : XK) : R2 := fun x y H Q => ∃ a dx fs c F f, x = .ref a ∧ H a = some (.ins (Γ.T.cad c) dx fs) ∧ MeF Γ (PySem.dunder op.info.2) c F f ∧ BinS Γ.T.K (Γ.T.cad c) ∧ Other Γ op c y H ∧ spR Γ.T F [.ref a, y] H Q E
theorem op_own {X : Cx} (on : On Γ sc E X) (op : Operator) : OpR X (binaryOp op) (rBi Γ op E) := by
  intro pins s σ H x y v u Q I rx ry h
  obtain ⟨a, dx, fs, c, F, f, rfl, ha, M, bs, ot, q⟩ := h
  obtain rfl : v = Value.ref a := rx
  obtain ⟨ok, cl, me, no⟩ := M
  rw [← on.K] at cl me bs
  obtain ⟨mA, J, _⟩ := ins_get I.hok ha
  obtain ⟨od, J, _⟩ := J.look
  obtain ⟨m, hF⟩ := I.fr
  have go : wpAny (model X.prog X.w) X.A (call (.ref f) [.ref a, u]) (PySem.W.CmpBack (EP X pins σ Q)) X.xe s :=
    wpAny_mono (wpAny_call (run_fnR (us := [.ref a, u]) (vs := [.ref a, y]) (on.fr ok) on.room on.pass I (.cons rfl (.cons ry .nil)) q)) (fun _ _ z => back_rel z) fun _ _ z => z
  rcases ot with ⟨i, rfl, b⟩ | ⟨b, dx2, fs2, c2, rfl, hb, e | e⟩
  · obtain ⟨t, rfl⟩ := ry
    rw [← on.K] at b
    obtain ⟨rc, h1, h2⟩ := b.rev
    obtain ⟨fo, h3⟩ := b.fo
    obtain ⟨ro, h4⟩ := b.ro
    exact PySem.W.ksp_binT (T := "int") hF I.ok.mod.kin J rfl bs.first me.at_ me.fn h1 h2 h3 h4 b.sub go
  · subst e
    obtain rfl : u = Value.ref b := ry
    obtain ⟨mA2, J2, _⟩ := ins_get I.hok hb
    obtain ⟨od2, J2, _⟩ := J2.look
    exact own_binS hF I.ok.mod.kin J J2 bs.first me.at_ me.fn go
  · obtain rfl : u = Value.ref b := ry
    obtain ⟨mA2, J2, _⟩ := ins_get I.hok hb
    obtain ⟨od2, J2, _⟩ := J2.look
    rw [← on.K] at e
    obtain ⟨rc, h1, h2⟩ := e.rev
    obtain ⟨f2, h3⟩ := e.fn2
    obtain ⟨rc2, h4, h5⟩ := e.rev2
    exact own_binO hF I.ok.mod.kin J J2 bs.first e.first2 e.ne me.at_ me.fn h1 h2 h3 h4 h5 e.sub go
/-- the candidate classes: their operators and what may stand on the right -/
structure OpF (Γ : Gam) (op : Operator) (c : Nat) (F : Fn) : Prop where
  me : ∃ f, MeF Γ (PySem.dunder op.info.2) c F f
  first : BinS Γ.T.K (Γ.T.cad c)
structure RhsF (Γ : Gam) (op : Operator) (c : Nat) (R : List (Option Nat)) : Prop where
  int : R.contains none = true → BinI Γ.T.K op (Γ.T.cad c)
  own : ∀ c2, R.contains (some c2) = true → c2 = c ∨ BinO Γ.T.K op (Γ.T.cad c) (Γ.T.cad c2)
theorem meR_ok {k : Nat} {o : D} {ds : List D} {S : Hs} (h : meR sg k o ds S ≠ .bad) : ∃ c l cand F, o = .obj c l ∧ sg.me[k]? = some cand ∧ cand.lookup c = some F ∧ meR sg k o ds S = F (o :: ds) S := by
  unfold meR at h ⊢
  cases e : meL sg k o with
  | none => rw [e] at h; exact absurd rfl h
  | some F =>
    obtain ⟨c, l, cand, rfl, h1, h2⟩ := meL_some e
    exact ⟨c, l, cand, F, rfl, h1, h2, rfl⟩
theorem Post.nbad {T : Tab} {σ : St} {H G : Hp} {ι : List Addr} {Q : VK} {E : XK} {r : Res Val} (p : Post T σ H G ι Q E r) : r ≠ .bad := fun e => by rw [e] at p; exact p
theorem rep_obj {T : Tab} {H G : Hp} {ι : List Addr} {S : Hs} {x : V} {c : Nat} {l : List D} (g : GRel T H S G ι) (h : Rep T G ι x (.obj c l)) : ∃ a dx fs, x = .ref a ∧ H a = some (.ins (T.cad c) dx fs) ∧ fs.map (·.1) = T.cfl c ∧ Reps T G ι (fs.map (·.2)) l := by
  cases h with
  | obj h1 h2 h3 => exact ⟨_, _, _, rfl, g.sub _ _ h1, h2, h3⟩
theorem good_opm {op : Operator} {a b : Expr} {pos : Pos} {ca cb : C} {k : Nat} {cand : Cand} {R : List (Option Nat)} (hk : sg.me[k]? = some cand) (hF : ∀ c F, cand.lookup c = some F → OpF Γ op c F ∧ RhsF Γ op c R) (ha : Good Γ sc E a (ev sg ca)) (hb : Good Γ sc E b (ev sg cb)) :
    Good Γ sc E (.BinOp a op b pos) (ev sg (.opm k R ca cb)) := by
  obtain ⟨ta, pa, sa⟩ := ha
  obtain ⟨tb, pb, sb⟩ := hb
  refine ⟨tOp (rBi Γ op E) ta tb, fun X on => pe_op (op_own on op) (pa X on) (pb X on), snd_two (f := fun ρ x y S => match x, y with
    | .d o, .d y => if rhsB R y = true then meR sg k o [y] S else .bad
    | _, _ => .bad) sa sb fun σ ρ H0 H1 H G ι S Q x y v u g s hx hy p => ?_⟩
  cases v with
  | d o =>
    cases u with
    | d d =>
      dsimp only at p
      by_cases hR : rhsB R d = true
      · rw [if_pos hR] at p
        obtain ⟨c, l, cand', F, rfl, h1, h2, h3⟩ := meR_ok p.nbad
        rw [hk] at h1; cases h1
        rw [h3] at p
        obtain ⟨⟨⟨f, M⟩, bs⟩, rh⟩ := hF c F h2
        obtain ⟨a, dx, fs, rfl, e1, e2, e3⟩ := rep_obj g hx
        have hx' : Rep Γ.T G ι (.ref a) (.obj c l) := hx
        have hy' : Rep Γ.T G ι y d := hy
        refine ⟨a, dx, fs, c, F, f, rfl, e1, M, bs, ?_, _, S, G, ι, g, .cons hx' (.cons hy' .nil), p.nil⟩
        cases d with
        | int i => cases hy'; exact .inl ⟨i, rfl, rh.int hR⟩
        | obj c2 l2 =>
          obtain ⟨b, dx2, fs2, rfl, q1, q2, q3⟩ := rep_obj g hy'
          exact .inr ⟨b, dx2, fs2, c2, rfl, q1, rh.own c2 hR⟩
        | _ => cases hR
      · rw [if_neg hR] at p; exact p.elim
    | _ => exact p.elim
  | _ => cases u <;> exact p.elim
/-! ### -x, ~x -/
def unN : UnaryOp → String
  | .USub => "__neg__"
  | _ => "__invert__"
def rUn (Γ : Gam) (n : Str) (E : XK) : V → Hp → VK → Prop := fun x H Q => ∃ a dx fs c F f, x = .ref a ∧ H a = some (.ins (Γ.T.cad c) dx fs) ∧ MeF Γ n c F f ∧ spR Γ.T F [.ref a] H Q E
theorem un_own {X : Cx} (on : On Γ sc E X) (op : UnaryOp) (hop : op = .USub ∨ op = .Invert) : UnR X (unaryOp op) (rUn Γ (unN op) E) := by
  intro pins s σ H x v Q I rx h
  obtain ⟨a, dx, fs, c, F, f, rfl, ha, M, q⟩ := h
  obtain rfl : v = Value.ref a := rx
  obtain ⟨ok, cl, me, no⟩ := M
  rw [← on.K] at me
  obtain ⟨mA, J, _⟩ := ins_get I.hok ha
  obtain ⟨od, J, _⟩ := J.look
  obtain ⟨m, hF⟩ := I.fr
  have go : wpAny (model X.prog X.w) X.A (call (.ref f) [.ref a]) (EP X pins σ Q) X.xe s :=
    wpAny_call (run_fnR (us := [.ref a]) (vs := [.ref a]) (on.fr ok) on.room on.pass I (.cons rfl .nil) q)
  rcases hop with rfl | rfl
  · exact PySem.W.ksp_neg hF I.ok.mod.kin J me.at_ me.fn go
  · exact PySem.W.ksp_inv hF I.ok.mod.kin J me.at_ me.fn go
theorem good_unm {op : UnaryOp} {a : Expr} {pos : Pos} {ca : C} {k : Nat} {cand : Cand} (hop : op = .USub ∨ op = .Invert) (hk : sg.me[k]? = some cand) (hF : ∀ c F, cand.lookup c = some F → ∃ f, MeF Γ (unN op) c F f) (ha : Good Γ sc E a (ev sg ca)) :
    Good Γ sc E (.UnaryOp op a pos) (ev sg (.unm k ca)) := by
  obtain ⟨ta, pa, sa⟩ := ha
  refine ⟨tUn (rUn Γ (unN op) E) ta, fun X on => pe_un (un_own on op hop) (pa X on), snd_one (ta := ta) (r := rUn Γ (unN op) E) (f := fun ρ x S => match x with
    | .d o => meR sg k o [] S
    | _ => .bad) sa fun σ ρ H0 H G ι S Q x v g s hx p => ?_⟩
  cases v with
  | d o =>
    dsimp only at p
    obtain ⟨c, l, cand', F, rfl, h1, h2, h3⟩ := meR_ok p.nbad
    rw [hk] at h1; cases h1
    rw [h3] at p
    obtain ⟨f, M⟩ := hF c F h2
    obtain ⟨a, dx, fs, rfl, e1, e2, e3⟩ := rep_obj g hx
    have hx' : Rep Γ.T G ι (.ref a) (.obj c l) := hx
    exact ⟨a, dx, fs, c, F, f, rfl, e1, M, _, S, G, ι, g, .cons hx' .nil, p.nil⟩
  | _ => exact p.elim
end
end Sf
end
section
set_option linter.all false
set_option maxRecDepth 100000
set_option maxHeartbeats 2000000
/-! Sf.Iter: own objects that are walked: def __iter__(self): return iter(self.f). -/
namespace Sf
open PySem PySem.Spec PyProof.Rows
theorem call_iter_tup {prog : Program} {w : World} {A : Around} {E : Value → Shared → Prop} {s : Shared} {l : Addr} {items : Array Value} {Q : Value → Shared → Prop} (hl : s.heap.IsTuple l items)
    (h : Q (.ref s.heap.objs.size) { s with heap := s.heap.push { cls := .type "tuple_iterator", data := .fields #[.ref l, .int 0 0] } }) : wpAny (model prog w) A (call (.builtin "iter") [.ref l]) Q E s := by
  refine Calls.call_function_entry (by decide +kernel) (by decide +kernel) PySem.W.kdk_entry_iter (PySem.W.kdk_args_iter _) ?_
  unfold Builtin.«iter»
  refine wpAny_bind (m := someArgs "iter" 1 2 _) (wpAny_of_eq (a := [Value.ref l]) (by first | rfl | kernel_rfl!) ?_)
  show wpAny _ _ (pyIter (.ref l) >>= _) _ _ _
  refine wpAny_bind (wpAny_pyIter_tuple hl ?_)
  exact wpAny_pure ⟨_, rfl, h⟩
theorem call_iter_lst {prog : Program} {w : World} {A : Around} {E : Value → Shared → Prop} {s : Shared} {l : Addr} {items : Array Value} {Q : Value → Shared → Prop} (hl : s.heap.IsList l items)
    (h : Q (.ref s.heap.objs.size) { s with heap := s.heap.push { cls := .type "list_iterator", data := .fields #[.ref l, .int 0 0] } }) : wpAny (model prog w) A (call (.builtin "iter") [.ref l]) Q E s := by
  refine Calls.call_function_entry (by decide +kernel) (by decide +kernel) PySem.W.kdk_entry_iter (PySem.W.kdk_args_iter _) ?_
  unfold Builtin.«iter»
  refine wpAny_bind (m := someArgs "iter" 1 2 _) (wpAny_of_eq (a := [Value.ref l]) (by first | rfl | kernel_rfl!) ?_)
  show wpAny _ _ (pyIter (.ref l) >>= _) _ _ _
  refine wpAny_bind (wpAny_pyIter_list hl ?_)
  exact wpAny_pure ⟨_, rfl, h⟩
end Sf
namespace Sf
open PySem L2
def ItT (l it : Addr) : HO := .ext fun h => h.IsTupleIter it l 0
def ItL (l it : Addr) : HO := .ext fun h => h.IsListIter it l 0
theorem itT_ok {P : Program} {w : World} {H : Hp} {h : Heap} {l it : Addr} (e : h.IsTupleIter it l 0) : ObjOk P w H h it (ItT l it) := ⟨e, let ⟨o, ho, _⟩ := e; ⟨o, ho⟩, fun h1 h2 q k => let ⟨o, ho, r⟩ := q; ⟨o, k o ho, r⟩⟩
theorem itL_ok {P : Program} {w : World} {H : Hp} {h : Heap} {l it : Addr} (e : h.IsListIter it l 0) : ObjOk P w H h it (ItL l it) := ⟨e, let ⟨o, ho, _⟩ := e; ⟨o, ho⟩, fun h1 h2 q k => let ⟨o, ho, r⟩ := q; ⟨o, k o ho, r⟩⟩
/-- iter(xs) -/
def rIterX (K : PySem.W.Frag) (n : Nat) : List V → Hp → VK → Prop := fun xs H Q => ∃ l, xs = [.ref l] ∧
  (((∃ zs, SqT K H l zs) ∧ ∀ it, H it = none → n ≤ it → Q (.ref it) (upd H it (ItT l it))) ∨ ((∃ zs, SqL K H l zs) ∧ ∀ it, H it = none → n ≤ it → Q (.ref it) (upd H it (ItL l it))))
theorem call_iterX {X : Cx} : CallR X (.builtin "iter") (rIterX X.K X.s_0.heap.objs.size) := by
  intro pins s σ H xs us Q I r h
  obtain ⟨l, rfl, q⟩ := h
  obtain ⟨u, rfl, ru⟩ : ∃ u, us = [u] ∧ RelV (.ref l) u := by
    cases r with
    | cons a b => cases b; exact ⟨_, rfl, a⟩
  obtain rfl : u = Value.ref l := ru
  rcases q with ⟨⟨zs, hq⟩, q⟩ | ⟨⟨zs, hq⟩, q⟩
  · obtain ⟨its, rv, pl, hz⟩ := I.tuple hq
    refine call_iter_tup (show s.heap.IsTuple l its.toArray from pl) ?_
    exact ⟨.ref s.heap.objs.size, _, I.laid (t' := s.toks) (fun b u e => Heap.get?_push_of_some _ e) (Nat.le_refl _) (itT_ok ⟨_, Heap.get?_push_size _ rfl, rfl, rfl⟩), rfl, q _ (I.hok.fresh (Nat.le_refl _)) I.sz⟩
  · obtain ⟨its, rv, pl, hz⟩ := I.list hq
    refine call_iter_lst pl.isList ?_
    exact ⟨.ref s.heap.objs.size, _, I.laid (t' := s.toks) (fun b u e => Heap.get?_push_of_some _ e) (Nat.le_refl _) (itL_ok ⟨_, Heap.get?_push_size _ rfl, rfl, rfl⟩), rfl, q _ (I.hok.fresh (Nat.le_refl _)) I.sz⟩
/-- a tuple or a list -/
def Sq2 (K : PySem.W.Frag) (tp : Bool) (H : Hp) (l : Addr) : Prop := if tp = true then ∃ zs, SqT K H l zs else ∃ zs, SqL K H l zs
def It2 (tp : Bool) (l it : Addr) : HO := if tp = true then ItT l it else ItL l it
/-- what such an __iter__ brings -/
def IterQ (n : Nat) (tp : Bool) (H : Hp) (l : Addr) (v : V) (H' : Hp) : Prop := ∃ it, v = .ref it ∧ n ≤ it ∧ H it = none ∧ H' = upd H it (It2 tp l it)
/-- what the def promises -/
def IterR (Γ : Gam) (f : Addr) (c p : Nat) : Prop := ∀ (tp : Bool) (A : Around) (outer : List Env) (s : Shared) (H : Hp) (a dx : Addr) (fs : List (Str × V)) (l : Addr), Room Γ.k A → Env0 Γ.P Γ.w Γ.T.K Γ.mg Γ.base A outer s H →
  H a = some (.ins (Γ.T.cad c) dx fs) → fs.map (·.1) = Γ.T.cfl c → (fs.map (·.2))[p]? = some (.ref l) → Sq2 Γ.T.K tp H l →
  codeAny (model Γ.P Γ.w) A (.call (.ref f) ⟨[.ref a], []⟩) (CR (L2N.CX Γ.P Γ.w) outer Γ.P Γ.w H s (IterQ s.heap.objs.size tp H l) E0) s
theorem gl_of {X : Cx} {x : Str} (h : glB X.env.scope x = true) : Gl X x := by
  unfold glB at h
  split at h
  · assumption
  · cases h
section
variable {Γ : Gam} {sc : Scope} {E : XK} {sg : Sg}
theorem iter_ok {x qual g : Str} {st : Stmt} {f : Addr} {fd : FuncData} {c p : Nat} {p1 p2 p3 p4 p5 : Pos} (F : Fun Γ.T.K x qual st f fd) (S : FnScope ["self"] ["self"] (defScope st)) (B : Binds Γ.T.K fd ["self"] [])
    (hb : defBody st = [.Return (some (.Call (.Name "iter" p1) [.Attribute (.Name "self" p2) g p3] [] p4)) p5]) (hg : glB (defScope st) "iter" = true) (hm : Γ.mg "iter" = none) (hv : visB (defScope st) "self" = true)
    (hcl : Cls Γ.T.K (Γ.T.cad c)) (hno : NoAttr Γ.T.K (Γ.T.cad c) g) (hp : (Γ.T.cfl c)[p]? = some g) (nd : (Γ.T.cfl c).Nodup) : IterR (Γup Γ) f c p := by
  obtain ⟨oc, od, kV, doc, pm, an, cdv, ct, osl, rfl, lk, hcd⟩ := F.ex
  intro tp A outer s H a dx fs l hr e0 ha hfn hfl hsq
  have KX : Γ.T.K.In s.heap := e0.mod.kin.keeps fun b o e => (e0.bs b o e).1
  have lim : s.heap.NoLimit := e0.mod.nolimit.keeps fun b o e => (e0.bs b o e).1
  refine codeAny_call_function hr.depth (KX _ _ lk) rfl S.co S.gen rfl (PySem.W.codeRec_of KX hcd) (B s [.ref a] KX rfl _ _ _ _ ?_)
  refine wpAny_newFunctionEnv_cells S.kind (fun ⟨n, v⟩ hy => ?_) fun env he s1 x => ?_
  · rcases S.par n (List.of_mem_zip hy).1 with q | q
    · exact .inl q
    · exact .inr ⟨q, PySem.W.cellsFrom_some _ _ _ (.inl q)⟩
  subst he
  refine ⟨lim.keeps x.toInCall.keep, codeAny_func ?_⟩
  have I := inv_start (CX := L2N.CX Γ.P Γ.w) (P := Γ.P) (w := Γ.w) (E := E0) (mg := Γ.mg) (vs := [.ref a]) S hr.hd e0 rfl (.cons rfl .nil) x
  rw [hb]
  have hl : fs.lookup g = some (.ref l) := lookup_at (by rw [hfn]; exact nd) (by rw [hfn]; exact hp) hfl
  have pv : PE (cxOf (L2N.CX Γ.P Γ.w) Γ.P Γ.w Γ.T.K Γ.mg Γ.base ["self"] qual (defScope st) f cdv A outer s H E0) (.Name "self" p2) (tVar 0) := pe_var (i := 0) rfl (vis_of hv) (by decide) (by decide)
  have pf := pe_fld (pos := p3) (f := g) pv rfl
  have pc := pe_callB (p := p1) (pos := p4) (x := "iter") call_iterX (gl_of hg) hm rfl (pa1 (a := .Attribute (.Name "self" p2) g p3) rfl pf) (by decide) (by decide) rfl rfl
  have ps := ps_ret (pos := p5) pc
  refine wpAny_mono ((pss_one ps).run [] s1 (start ["self"] [.ref a]) H { nx := fun _ _ => False, rt := IterQ s.heap.objs.size tp H l } I ?_) (fun fl s' hs => ?_) fun e s' hs => hs
  · refine ⟨.ref a, rfl, a, Γ.T.cad c, dx, fs, .ref l, rfl, ha, hcl, hno, hl, l, rfl, ?_⟩
    cases tp with
    | true => exact .inl ⟨hsq, fun it hn hle => ⟨it, rfl, hle, hn, rfl⟩⟩
    | false => exact .inr ⟨hsq, fun it hn hle => ⟨it, rfl, hle, hn, rfl⟩⟩
  · cases fl with
    | ret u =>
      obtain ⟨v, σ', H', J, rv, q⟩ := hs
      exact ⟨v, H', J.os, J.bare, J.base, J.hok, rv, q⟩
    | next =>
      obtain ⟨σ', H', J, q⟩ := hs
      exact False.elim q
    | brk =>
      obtain ⟨_, _, _, q⟩ := hs
      exact False.elim q
    | cont =>
      obtain ⟨_, _, _, q⟩ := hs
      exact False.elim q
/-- the classes that are walked so: c's __iter__ walks the field at p -/
structure IterF (Γ : Gam) (c p : Nat) : Prop where
  at_ : ∃ f, IterR Γ f c p ∧ PySem.W.findIn Γ.T.K (.ref (Γ.T.cad c)) "__iter__" = some (some (.ref f)) ∧ PySem.W.isFn Γ.T.K (.ref f) = true
/-- the field that an own object's walk walks -/
def tItF (Γ : Gam) (te : TE) : TE := fun σ H Q => te σ H fun x H1 => ∃ a dx fs c p v, x = .ref a ∧ H1 a = some (.ins (Γ.T.cad c) dx fs) ∧ fs.map (·.1) = Γ.T.cfl c ∧ IterF Γ c p ∧ (fs.map (·.2))[p]? = some v ∧ Q v H1
theorem itm_fin {X : Cx} (on : On Γ sc E X) {tg : Expr} {pins : List (Addr × Obj)} {σ : St} {H1 : Hp} {s1 : Shared} {R : It → Hp → Prop} (tp : Bool) {a dx l : Addr} {fs : List (Str × V)} {c p : Nat} (I1 : Inv X pins σ H1 s1)
    (ha : H1 a = some (.ins (Γ.T.cad c) dx fs)) (hfn : fs.map (·.1) = Γ.T.cfl c) (hF : IterF Γ c p) (hl : (fs.map (·.2))[p]? = some (.ref l)) (hz : Sq2 X.K tp H1 l) (hR : R (if tp = true then Itt X.K l else Itl X.K l) H1) :
    wpAny (model X.prog X.w) X.A (pyIter (.ref a)) (PIE X pins σ tg R) X.xe s1 := by
  obtain ⟨f, hI, hs, hf⟩ := hF.at_
  rw [← on.K] at hs hf
  obtain ⟨mA, J, _⟩ := ins_get I1.hok ha
  obtain ⟨od, J, _⟩ := J.look
  obtain ⟨m, hFr⟩ := I1.fr
  refine PySem.W.owit_iter hFr I1.ok.mod.kin J hs hf ?_
  have e0 := I1.env0
  rw [on.prog, on.w, on.K, on.mg, on.base] at e0
  have run := hI tp X.A X.stack s1 H1 a dx fs l on.room e0 ha hfn hl (by rw [← on.K]; exact hz)
  rw [← on.prog, ← on.w] at run
  refine wpAny_call (codeAny_mono run fun r s' hq => ?_)
  cases r with
  | error e =>
    obtain ⟨_, _, _, _, _, _, _, _, _, _, _, _, hE⟩ := hq
    exact hE.elim
  | ok fl =>
    cases fl with
    | ret u =>
      obtain ⟨v', H', I2, rv, it, rfl, hle, hn, rfl⟩ := I1.after hq
      obtain rfl : u = Value.ref it := rv
      have sz : X.s_0.heap.objs.size ≤ it := Nat.le_trans I1.sz hle
      unfold PySem.W.OwitIt
      cases tp with
      | true =>
        have I2 : Inv X pins σ (upd H1 it (ItT l it)) s' := I2
        have st : s'.heap.IsTupleIter it l 0 := (I2.hok it _ upd_same).1
        refine wpAny_specialOf (name := Str.ofString "__next__") st.typeIs PySem.F.slot_tuple_iterator_next.lookup ?_
        have I3 := ItX.inv_drop I2 upd_same
        have fp := ItX.inv_fp I2 upd_same sz
        rw [ItX.dropH_upd hn] at I3 fp
        refine ⟨it, [it], _, _, H1, rfl, I3, turn_tuple l it, st, fun b hb => ?_, hR⟩
        have e : b = it := by simpa using hb
        subst e; exact fp
      | false =>
        have I2 : Inv X pins σ (upd H1 it (ItL l it)) s' := I2
        have st : s'.heap.IsListIter it l 0 := (I2.hok it _ upd_same).1
        refine wpAny_specialOf (name := Str.ofString "__next__") st.typeIs slot_listiter_next.lookup ?_
        have I3 := ItX.inv_drop I2 upd_same
        have fp := ItX.inv_fp I2 upd_same sz
        rw [ItX.dropH_upd hn] at I3 fp
        refine ⟨it, [it], _, _, H1, rfl, I3, turn_list l it, st, fun b hb => ?_, hR⟩
        have e : b = it := by simpa using hb
        subst e; exact fp
    | next => exact False.elim hq
    | brk => exact False.elim hq
    | cont => exact False.elim hq
theorem pi_itm {X : Cx} (on : On Γ sc E X) {tg e : Expr} {te : TE} (pe : PE X e te) : PI X tg e (iSeq X.K (tItF Γ te)) := by
  refine ⟨fun pins s σ H R I h => ?_⟩
  rcases h with h | h
  · refine thn (pe.run pins s σ H _ I h) fun v s1 ⟨x, H1, I1, rx, a, dx, fs, c, p, w, ex, ha, hfn, hF, hl, l, ew, hz, hR⟩ => ?_
    subst ex ew
    obtain rfl : v = Value.ref a := rx
    exact itm_fin on false I1 ha hfn hF hl hz hR
  · refine thn (pe.run pins s σ H _ I h) fun v s1 ⟨x, H1, I1, rx, a, dx, fs, c, p, w, ex, ha, hfn, hF, hl, l, ew, hz, hR⟩ => ?_
    subst ex ew
    obtain rfl : v = Value.ref a := rx
    exact itm_fin on true I1 ha hfn hF hl hz hR
theorem goodI_itm {fx : Bool} {e : Expr} {c : C} {cs : List (Nat × Nat)} (hF : ∀ c p, cs.lookup c = some p → IterF Γ c p) (h : Good Γ sc E e (ev sg c)) : GoodI Γ sc E fx e (evI sg fx (.itm cs c)) := by
  obtain ⟨t, pe, s⟩ := h
  refine ⟨iSeq Γ.T.K (tItF Γ t), fun X tg on _ => ?_, ?_⟩
  · have h := pi_itm (tg := tg) on (pe X on)
    rw [on.K] at h
    exact h
  · have s1 : Snd Γ.T E (tItF Γ t) fun ρ S => (ev sg c ρ S).bind fun x S => fldR cs x S := snd_one (ta := t) (r := fun x H1 Q => ∃ a dx fs c p v, x = .ref a ∧ H1 a = some (.ins (Γ.T.cad c) dx fs) ∧ fs.map (·.1) = Γ.T.cfl c ∧ IterF Γ c p ∧ (fs.map (·.2))[p]? = some v ∧ Q v H1) (f := fun ρ x S => fldR cs x S) s fun σ ρ H0 H G ι S Q x v g _ hx p => by
      cases v with
      | d d =>
        cases hx with
        | obj h1 h2 h3 =>
          rename_i a dx c fs ds
          replace p : Post Γ.T σ H G ι Q E (Res.of (((cs.lookup c).bind fun p => ds[p]?).map .d) S) := p
          cases e1 : cs.lookup c with
          | none => rw [e1] at p; exact p.elim
          | some k =>
            rw [e1] at p
            cases e2 : ds[k]? with
            | none => dsimp only [Option.bind] at p; rw [e2] at p; exact p.elim
            | some d =>
              dsimp only [Option.bind] at p
              rw [e2] at p
              obtain ⟨w, e3, r⟩ := h3.get e2
              exact ⟨a, dx, fs, c, k, w, rfl, g.sub _ _ h1, h2, hF c k e1, e3, Post.fin p g r⟩
        | _ => exact p.elim
      | _ => exact p.elim
    have s2 := snd_seq (fx := fx) s1
    have e : (evI sg fx (.itm cs c)) = fun ρ S => ((ev sg c ρ S).bind fun x S => fldR cs x S).bind fun x S => Res.of (walkV fx ρ S x) S := by
      funext ρ S
      show ((ev sg c ρ S).bind fun x S => match x with
        | .d (.obj c l) => Res.of (((cs.lookup c).bind fun p => l[p]?).bind fun d => walkV fx ρ S (.d d)) S
        | _ => .bad) = _
      cases ev sg c ρ S with
      | bad => rfl
      | ex k fs S => rfl
      | ok v S =>
        rw [Res.bind_ok, Res.bind_ok]
        cases v with
        | d d =>
          cases d with
          | obj c l =>
            show Res.of _ S = (Res.of (((cs.lookup c).bind fun p => l[p]?).map Val.d) S).bind _
            cases ((cs.lookup c).bind fun p => l[p]?) <;> rfl
          | _ => rfl
        | _ => rfl
    rw [e]
    exact s2
end
end Sf
end
section
set_option linter.all false
set_option maxRecDepth 100000
set_option maxHeartbeats 3200000
/-! Sf.Set: set(xs) of a list of texts; len(set(xs)), sorted(set(t)). -/
namespace Sf
open PySem PySem.Spec PyProof.Rows
section
variable {prog : Program} {w : World} {A : Around} {R : Result → Shared → Prop} {I : Addr} {fp wr : List Addr} {G : Array GenState → Array GenState → Prop} {n : Nat} {P : Nat → Value → Prop} {St : Nat → Shared → Prop}
def hasS (xs : List Str) (i : Nat) : Str → Bool := fun k => (xs.take i).any (· == k)
theorem hasS_succ {xs : List Str} {i : Nat} (h : i < xs.length) (k : Str) : (hasS xs i k || decide (k = xs.getD i Str.empty)) = hasS xs (i + 1) k := by
  unfold hasS
  rw [List.take_add_one, List.any_append, List.getElem?_eq_getElem h]
  have e : xs.getD i Str.empty = xs[i] := by rw [List.getD_eq_getElem?_getD, List.getElem?_eq_getElem h]; rfl
  rw [e]
  show _ = ((xs.take i).any (· == k) || [xs[i]].any (· == k))
  congr 1
  rw [List.any_cons, List.any_nil, Bool.or_false]
  by_cases q : k = xs[i]
  · rw [decide_eq_true q, q, beq_self_eq_true]
  · rw [decide_eq_false q]
    exact (beq_eq_false_iff_ne.mpr fun z => q z.symm).symm
theorem dcnt_le (xs : List Str) : ∀ i, dcnt xs i ≤ i
  | 0 => Nat.le_refl _
  | i + 1 => by
    have := dcnt_le xs i
    unfold dcnt
    split <;> omega
theorem strs_loop (W : WalksS prog w A.in1 I fp wr G n P St) (S : Addr) (hSf : S ∉ fp) (xs : List Str) (hn : n = xs.length) (hb : n + 1 < scanBound) (hval : ∀ i v, P i v → ∃ t, v = .str (xs.getD i Str.empty) t) :
    ∀ (k i : Nat) (s : Shared), n - i = k → i ≤ n → St i s → s.heap.SetOf (PySem.strKind prog w) S (hasS xs i) (dcnt xs i) →
      (∀ s', Moved (S :: wr) G s s' → s'.heap.SetOf (PySem.strKind prog w) S (hasS xs n) (dcnt xs n) → R (.ok (.ret .none)) s') →
      codeAny (model prog w) A (.builtin "set.update.loop" ⟨[.ref S, .ref I], []⟩) R s := by
  have hSw : S ∉ wr := fun h => hSf (W.sub _ h)
  have hsub : ∀ b ∈ wr, b ∈ S :: wr := fun b hb => List.mem_cons_of_mem _ hb
  intro k
  induction k with
  | zero =>
    intro i s hk hi hst hS hR
    obtain rfl : i = n := by omega
    refine codeAny_builtin F.entry_set_update_loop ?_
    rw [Around.under_plainId F.plain_set_update_loop _]
    show wpAny _ A.in1 (pyNext (.ref I) >>= _) _ _ s
    refine wpAny_bind (W.done s _ _ hst fun s' hm => ?_)
    show wpAny _ A.in1 (ret Value.none) _ _ s'
    refine wpAny_pure (hR s' (hm.mono hsub) ?_)
    obtain ⟨o, es, ep, t, ho, rest⟩ := hS
    exact ⟨o, es, ep, t, hm.heap S _ hSw ho, rest⟩
  | succ k ih =>
    intro i s hk hi hst hS hR
    have hlt : i < n := by omega
    refine codeAny_builtin F.entry_set_update_loop ?_
    rw [Around.under_plainId F.plain_set_update_loop _]
    show wpAny _ A.in1 (pyNext (.ref I) >>= _) _ _ s
    refine wpAny_bind (W.item i s _ _ hlt hst fun v s' hP hst' hm => ?_)
    obtain ⟨t, rfl⟩ := hval i v hP
    have hS' : s'.heap.SetOf (PySem.strKind prog w) S (hasS xs i) (dcnt xs i) := by
      obtain ⟨o, es, ep, tb, ho, rest⟩ := hS
      exact ⟨o, es, ep, tb, hm.heap S _ hSw ho, rest⟩
    show wpAny _ A.in1 (holding [Value.str (xs.getD i Str.empty) t] (setAdd S (.str (xs.getD i Str.empty) t)) >>= _) _ _ s'
    refine wpAny_bind (wpAny_holding ?_)
    unfold setAdd
    refine wpAny_holding ?_
    refine wpAny_bind ((PySem.strKind prog w).pyHash (k := xs.getD i Str.empty) (strKind_is _ _ _ _) ?_)
    have hd := dcnt_le xs i
    refine wpAny_setAddHashed_of (knd := PySem.strKind prog w) (s := { s' with toks := s'.toks + 1 }) (strKind_is _ _ _ _) rfl hS' (by omega) fun h' hsb hS2 => ?_
    have hS3 : h'.SetOf (PySem.strKind prog w) S (hasS xs (i + 1)) (dcnt xs (i + 1)) := SetOf_congr hS2 (fun k => hasS_succ (by omega) k) (by
      show _ = (if (xs.take i).any (· == xs.getD i Str.empty) = true then dcnt xs i else dcnt xs i + 1)
      rfl)
    refine wpAny_pure ⟨plainId_quiet F.plain_set_update_loop _, ih (i + 1) _ (by omega) hlt (W.frame _ s' _ _ hst' (Nat.le_succ _) fun b hb o e => ?_) hS3 fun s'' hm'' hS'' => ?_⟩
    · rw [hsb.2 b (fun h : b = S => hSf (by rw [← h]; exact hb))]; exact e
    · refine hR s'' (Moved.trans W.gtrans ((hm.mono hsub).then_heap (Nat.le_succ _) fun b o hb e => ?_) hm'') hS''
      rw [hsb.2 b (fun h : b = S => hb (by rw [h]; exact List.mem_cons_self))]; exact e
end
section
variable {prog : Program} {w : World} {A : Around} {E : Value → Shared → Prop} {s : Shared}
theorem call_set_strs {l : Addr} {items : Array Value} {xs : List Str} {Q : Value → Shared → Prop} (hh : A.handled = none) (hl : s.heap.IsList l items) (hi : StrsAre items.toList xs) (hb : xs.length + 1 < scanBound)
    (h : ∀ (h' : Heap) (tk : Nat), h'.SetOf (PySem.strKind prog w) s.heap.objs.size (hasS xs xs.length) (dcnt xs xs.length) → (∀ b o, s.heap.get? b = some o → h'.get? b = some o) → Q (.ref s.heap.objs.size) { s with heap := h', toks := tk }) :
    wpAny (model prog w) A (call (.type "set") [.ref l]) Q E s := by
  have hsz : items.size = xs.length := by rw [← StrsAre.len_eq hi, Array.length_toList]
  obtain ⟨c, tl, hmro⟩ := F.called_set.mro
  have hmade := F.called_set.made
  have hsub := F.called_set.sub
  refine wpAny_call (codeAny_of_tree ?_)
  show wpAny _ _ (callAny (.type "set") _) _ _ _
  refine wpAny_pure ⟨Code.quiet_builtin _ (by decide +kernel), codeAny_builtin F.entry_type_call ?_⟩
  rw [Around.under_plain (weight_type_call_type "set" [.ref l] []) rfl]
  have h1 := F.called_set.notType
  have h2 := F.called_set.canCreate
  have hct := F.typeCall_set_1 (.ref l)
  repeat (any_goals (first | assumption | wp_step))
  refine codeAny_mono (code_set_new_1 (.ref l) (E := E) (Q₁ := fun obj s₁ => ∃ led : Bool, obj = .ref s.heap.objs.size ∧ s₁ = { s with heap := s.heap.push { cls := .type "set", dict := none, data := .set #[] 0 (.fresh 0 0 led) } }) fun led => ⟨led, rfl, rfl⟩) fun r s₁ hr => ?_
  cases r with
  | error e => exact hr
  | ok fl =>
    cases fl with
    | ret obj =>
      obtain ⟨led, rfl, rfl⟩ := hr
      have hS : (s.heap.push { cls := .type "set", dict := none, data := .set #[] 0 (.fresh 0 0 led) }).get? s.heap.objs.size = some { cls := .type "set", dict := none, data := .set #[] 0 (.fresh 0 0 led) } := Heap.get?_push_size _ rfl
      have hT : Shared.TypeIs { s with heap := s.heap.push { cls := .type "set", dict := none, data := .set #[] 0 (.fresh 0 0 led) } } (.ref s.heap.objs.size) "set" := ⟨_, hS, rfl⟩
      have hli := F.called_set.init.lookup
      have hbi := F.called_set.init.bind (.ref s.heap.objs.size)
      repeat (any_goals (first | assumption | wp_step))
      refine codeAny_mono (codeAny_call_builtin (R := wants (fun r s₂ => r = .none ∧ ∃ h' tk, s₂ = { s with heap := h', toks := tk } ∧ h'.SetOf (PySem.strKind prog w) s.heap.objs.size (hasS xs xs.length) (dcnt xs xs.length) ∧
          (∀ b o, s.heap.get? b = some o → h'.get? b = some o)) E) F.called_set.init.plain F.entry_set_init (check_set_init_1 hT ?_)) fun r₂ s₂ hr₂ => ?_
      · obtain ⟨ol, hol, hcl, nl, hdl⟩ := hl
        obtain ⟨ocls, odict, odata, oslots⟩ := ol
        simp only at hcl hdl
        subst hcl; subst hdl
        have hol' : (s.heap.push { cls := .type "set", dict := none, data := .set #[] 0 (.fresh 0 0 led) }).get? l = some { cls := .type "list", dict := odict, data := .seq items nl, slots := oslots } := Heap.get?_push_of_some _ hol
        have hsls := F.sub_list_set
        have hslf := F.sub_list_frozenset
        have hne : (Value.type "list" == Value.type "dict") = false := by decide
        have hl1 : (s.heap.push { cls := .type "set", dict := none, data := .set #[] 0 (.fresh 0 0 led) }).IsList l items := ⟨_, hol', rfl, nl, rfl⟩
        unfold Builtin.«set.__init__» noKeywords Builtin.Frozenset.updateFrom
        generalize hPI : pyIter = PI
        wp_walk
        subst hPI
        refine wpAny_pyIter_list hl1 ?_
        refine wpAny_bind (wpAny_runValue ?_)
        have hlS : l < s.heap.objs.size := Heap.lt_size hol
        have hh3 : A.in1.in1.in1.handled = none := by simp [hh]
        have hneI : l ≠ (s.heap.push { cls := .type "set", dict := none, data := .set #[] 0 (.fresh 0 0 led) }).objs.size := by
          rw [Heap.size_push]; exact Nat.ne_of_lt (Nat.lt_succ_of_lt hlS)
        have hSf : s.heap.objs.size ∉ [(s.heap.push { cls := .type "set", dict := none, data := .set #[] 0 (.fresh 0 0 led) }).objs.size, l] := by
          rw [Heap.size_push]; simp only [List.mem_cons, List.mem_singleton, List.not_mem_nil, or_false, not_or]
          exact ⟨Nat.ne_of_lt (Nat.lt_succ_self _), Nat.ne_of_gt hlS⟩
        have hval : ∀ (i : Nat) (v : Value), items[i]? = some v → ∃ t, v = .str (xs.getD i Str.empty) t := fun i v hv => SS.strs_at hi i v (by rw [Array.getElem?_toList]; exact hv)
        refine strs_loop ((Walks.list hh3 _ l hneI items).toS) s.heap.objs.size hSf xs hsz (by omega) hval (items.size - 0) 0 _ (by omega) (Nat.zero_le _) ⟨⟨_, Heap.get?_push_size _ rfl, rfl, rfl⟩, (hl1.push _)⟩ ?hS0 ?hR
        case hS0 =>
          have hget : ((s.heap.push { cls := .type "set", dict := none, data := .set #[] 0 (.fresh 0 0 led) }).push { cls := .type "list_iterator", data := .fields #[.ref l, .int 0 0] }).get? s.heap.objs.size
              = some { cls := .type "set", dict := none, data := .set #[] 0 (.fresh 0 0 led) } := Heap.get?_push_of_some _ hS
          exact SetOf_congr ((setObjOf_fresh (knd := PySem.strKind prog w) led).setOf hget (by unfold scanBound; omega)) (fun _ => rfl) rfl
        case hR =>
          intro s' hm hS'
          obtain ⟨h', g', d', tk', os'⟩ := s'
          have eg : g' = s.gens := hm.gens
          have ed : d' = s.drawn := hm.drawn
          have eo : os' = s.os := hm.os
          subst eg; subst ed; subst eo
          rw [hsz] at hS'
          show wpAny _ _ _ _ _ _
          refine wpAny_pure ?_
          show wpAny _ _ (ret Value.none) _ _ _
          refine wpAny_pure ⟨rfl, h', tk', rfl, hS', fun b o e => ?_⟩
          have hb := Heap.lt_size e
          have hb1 : b ≠ s.heap.objs.size := Nat.ne_of_lt hb
          have hb2 : b ≠ (s.heap.push { cls := .type "set", dict := none, data := .set #[] 0 (.fresh 0 0 led) }).objs.size := by
            rw [Heap.size_push]; exact Nat.ne_of_lt (Nat.lt_succ_of_lt hb)
          exact hm.heap b o (by simp only [List.mem_cons, List.mem_singleton, List.not_mem_nil, or_false, not_or]; exact ⟨hb1, hb2⟩) (Heap.get?_push_of_some _ (Heap.get?_push_of_some _ e))
      · cases r₂ with
        | error e => exact hr₂
        | ok fl₂ =>
          cases fl₂ with
          | ret r =>
            obtain ⟨rfl, h', tk, rfl, hS', hk'⟩ := hr₂
            repeat (any_goals (first | assumption | wp_step))
            exact h _ _ hS' hk'
          | _ => exact hr₂.elim
    | _ => exact hr.elim
end
end Sf
end
section
set_option linter.all false
set_option maxRecDepth 100000
set_option maxHeartbeats 2000000
/-! Sf.Own2: in and len of own instances; constants of classes; chains of comparisons; texts. -/
namespace Sf
open PySem L2
section
variable {Γ : Gam} {sc : Scope} {E : XK} {sg : Sg}
/-! ### x in o -/
def rInO (Γ : Gam) (neg : Bool) (E : XK) : R2 := fun x y H Q => ∃ b dx fs c F f, y = .ref b ∧ H b = some (.ins (Γ.T.cad c) dx fs) ∧ MeF Γ "__contains__" c F f ∧ spR Γ.T F [.ref b, x] H (fun r H' => ∃ q, r = .bl q ∧ Q (.bl (neg ^^ q)) H') E
theorem op_inO {X : Cx} (on : On Γ sc E X) (neg : Bool) : OpR X (compareOp (if neg = true then .NotIn else .In)) (rInO Γ neg E) := by
  intro pins s σ H x y v u Q I rx ry h
  obtain ⟨b, dx, fs, c, F, f, rfl, hb, M, q⟩ := h
  obtain rfl : u = Value.ref b := ry
  obtain ⟨ok, cl, me, no⟩ := M
  rw [← on.K] at me
  obtain ⟨mA, J, _⟩ := ins_get I.hok hb
  obtain ⟨od, J, _⟩ := J.look
  obtain ⟨m, hF⟩ := I.fr
  have go := wpAny_call (run_fnR (us := [.ref b, v]) (vs := [.ref b, x]) (on.fr ok) on.room on.pass I (.cons rfl (.cons rx .nil)) q)
  cases neg with
  | false =>
    refine PySem.W.in_K hF I.ok.mod.kin J me.at_ me.fn (wpAny_mono go (fun r s' hr => ?_) fun _ _ z => z)
    obtain ⟨w, H', I', rw', q, rfl, hq⟩ := hr
    obtain rfl : r = Value.bool q := rw'
    exact wpAny_truthy_bool ⟨.bl q, H', I', rfl, by simpa using hq⟩
  | true =>
    refine PySem.W.notIn_K hF I.ok.mod.kin J me.at_ me.fn (wpAny_mono go (fun r s' hr => ?_) fun _ _ z => z)
    obtain ⟨w, H', I', rw', q, rfl, hq⟩ := hr
    obtain rfl : r = Value.bool q := rw'
    exact wpAny_truthy_bool ⟨.bl (!q), H', I', rfl, by simpa using hq⟩
theorem Post.imp_bl {T : Tab} {σ : St} {H G : Hp} {ι : List Addr} {Q : VK} {E : XK} {r : Res Val} {g : Bool → Bool} (p : Post T σ H G ι Q E (r.bind fun r S => match r with
    | .d (.bl q) => .ok (.d (.bl (g q))) S
    | _ => .bad)) : Post T [] H G ι (fun r H' => ∃ q, r = .bl q ∧ Q (.bl (g q)) H') E r := by
  cases r with
  | bad => exact p
  | ex c fs S => exact p
  | ok v S =>
    rw [Res.bind_ok] at p
    intro x H' G' ι' st gr vx
    cases v with
    | d d =>
      cases d with
      | bl b =>
        have vx : Rep T G' ι' x (.bl b) := vx
        cases vx
        exact ⟨b, rfl, p (.bl (g b)) H' G' ι' st gr (.bl _)⟩
      | _ => exact p.elim
    | _ => exact p.elim
theorem snd_inO {ta tb : TE} {ma mb : Rho → Hs → Res Val} {neg : Bool} {k : Nat} {cand : Cand} (hk : sg.me[k]? = some cand) (hF : ∀ c F, cand.lookup c = some F → ∃ f, MeF Γ "__contains__" c F f) (sa : Snd Γ.T E ta ma) (sb : Snd Γ.T E tb mb) :
    Snd Γ.T E (tOp (rInO Γ neg E) ta tb) fun ρ S => (ma ρ S).bind fun x S => (mb ρ S).bind fun y S => match x, y with
    | .d x, .d o => (meR sg k o [x] S).bind fun r S => match r with
        | .d (.bl q) => .ok (.d (.bl (neg ^^ q))) S
        | _ => .bad
    | _, _ => .bad := snd_two (f := fun ρ x y S => match x, y with
    | .d x, .d o => (meR sg k o [x] S).bind fun r S => match r with
        | .d (.bl q) => .ok (.d (.bl (neg ^^ q))) S
        | _ => .bad
    | _, _ => .bad) sa sb fun σ ρ H0 H1 H G ι S Q x y v u g s hx hy p => by
  cases v with
  | d d =>
    cases u with
    | d o =>
      dsimp only at p
      have nb : meR sg k o [d] S ≠ .bad := fun e => by rw [e] at p; exact p
      obtain ⟨c, l, cand', F, rfl, h1, h2, h3⟩ := meR_ok nb
      rw [hk] at h1; cases h1
      rw [h3] at p
      obtain ⟨f, M⟩ := hF c F h2
      obtain ⟨b, dx, fs, rfl, e1, e2, e3⟩ := rep_obj g hy
      have hx' : Rep Γ.T G ι x d := hx
      have hy' : Rep Γ.T G ι (.ref b) (.obj c l) := hy
      exact ⟨b, dx, fs, c, F, f, rfl, e1, M, _, S, G, ι, g, .cons hy' (.cons hx' .nil), p.imp_bl⟩
    | _ => exact p.elim
  | _ => cases u <;> exact p.elim
theorem good_inO {a b : Expr} {pos : Pos} {ca cb : C} {neg : Bool} {k : Nat} {cand : Cand} (hm : notSet b = true) (hk : sg.me[k]? = some cand) (hF : ∀ c F, cand.lookup c = some F → ∃ f, MeF Γ "__contains__" c F f) (ha : Good Γ sc E a (ev sg ca)) (hb : Good Γ sc E b (ev sg cb)) :
    Good Γ sc E (.Compare a [if neg = true then .NotIn else .In] [b] pos) (ev sg (.inO neg k ca cb)) ∧ GoodT Γ sc E (.Compare a [if neg = true then .NotIn else .In] [b] pos) (ev sg (.inO neg k ca cb)) := by
  obtain ⟨ta, pa, sa⟩ := ha
  obtain ⟨tb, pb, sb⟩ := hb
  have sn := snd_inO (neg := neg) hk hF sa sb
  exact ⟨⟨_, fun X on => pe_cmpR (op_inO on neg) (pa X on) (pb X on) (marks_plain hm), sn⟩, ⟨_, fun X on => pt_cmpR (op_inO on neg) (pa X on) (pb X on) (marks_plain hm), sndT_val sn⟩⟩
/-! ### len(o) -/
theorem run_in1 {X : Cx} {k : Nat} {f : Addr} {sp : Sp} {pins : List (Addr × Obj)} {σ : St} {H : Hp} {s : Shared} {Q : VK} {us : List Value} {vs : List V} (F : FnR X.prog X.w X.K X.mg X.base (L2N.CX X.prog X.w) k f sp) (hr : Room (k + 1) X.A) (hx : Passes (L2N.CX X.prog X.w) X E) (I : Inv X pins σ H s) (r : Vals vs us) (h : sp vs H Q E) :
    wpAny (model X.prog X.w) X.A.in1 (call (.ref f) us) (EP X pins σ Q) X.xe s := by
  have e0 : Env0 X.prog X.w X.K X.mg X.base X.A.in1 X.stack s H := by
    have e := I.env0
    exact ⟨e.frames, e.mod, e.bs, e.bsz, e.funs, e.frf, e.hok, e.bare⟩
  refine wpAny_call (codeAny_mono (F X.A.in1 X.stack s H us vs Q E hr.in1 e0 r h) fun r s' hq => ?_)
  cases r with
  | error e => exact hx pins σ H s e s' I hq
  | ok fl =>
    cases fl with
    | ret u => exact I.after hq
    | next => exact False.elim hq
    | brk => exact False.elim hq
    | cont => exact False.elim hq
def rLenO (Γ : Gam) (j : Nat) (E : XK) : List V → Hp → VK → Prop := fun xs H Q => ∃ b dx fs c F f, xs = [.ref b] ∧ H b = some (.ins (Γ.T.cad c) dx fs) ∧ MeF { Γ with k := j } "__len__" c F f ∧ spR Γ.T F [.ref b] H (fun r H' => ∃ n, r = .int n ∧ (0 ≤ n ∧ n < 2 ^ 63) ∧ Q (.int n) H') E
theorem cr_lenO {X : Cx} {j : Nat} (hj : Γ.k = j + 1) (on : On Γ sc E X) : CallR X (.builtin "len") (rLenO Γ j E) := by
  intro pins s σ H xs us Q I r h
  obtain ⟨b, dx, fs, c, F, f, rfl, hb, M, q⟩ := h
  obtain ⟨u, rfl, ru⟩ : ∃ u, us = [u] ∧ RelV (.ref b) u := by
    cases r with
    | cons a b => cases b; exact ⟨_, rfl, a⟩
  obtain rfl : u = Value.ref b := ru
  obtain ⟨ok, cl, me, no⟩ := M
  have me : Meth X.K (Γ.T.cad c) "__len__" f := by rw [on.K]; exact me
  obtain ⟨mA, J, _⟩ := ins_get I.hok hb
  obtain ⟨od, J, _⟩ := J.look
  obtain ⟨m, hF⟩ := I.fr
  have ok' : FnR X.prog X.w X.K X.mg X.base (L2N.CX X.prog X.w) j f (spR Γ.T F) := by
    rw [on.prog, on.w, on.K, on.mg, on.base]; exact ok
  refine PySem.W.len_K hF I.ok.mod.kin J me.at_ me.fn (wpAny_mono (run_in1 (us := [.ref b]) (vs := [.ref b]) ok' (by rw [← hj]; exact on.room) on.pass I (.cons rfl .nil) q) (fun r s' hr => ?_) fun _ _ z => z)
  obtain ⟨w, H', I', rw', n, rfl, hn, hq⟩ := hr
  obtain ⟨t, rfl⟩ := rw'
  exact ⟨hn, .int n, H', I'.tok _, ⟨_, rfl⟩, hq⟩
theorem Post.imp_len {T : Tab} {σ : St} {H G : Hp} {ι : List Addr} {Q : VK} {E : XK} {r : Res Val} (p : Post T σ H G ι Q E (r.bind fun r S => match r with
    | .d (.int n) => if 0 ≤ n ∧ n < 2 ^ 63 then .ok (.d (.int n)) S else .bad
    | _ => .bad)) : Post T [] H G ι (fun r H' => ∃ n, r = .int n ∧ (0 ≤ n ∧ n < 2 ^ 63) ∧ Q (.int n) H') E r := by
  cases r with
  | bad => exact p
  | ex c fs S => exact p
  | ok v S =>
    rw [Res.bind_ok] at p
    intro x H' G' ι' st gr vx
    cases v with
    | d d =>
      cases d with
      | int n =>
        have vx : Rep T G' ι' x (.int n) := vx
        cases vx
        dsimp only at p
        by_cases hn : 0 ≤ n ∧ n < 2 ^ 63
        · rw [if_pos hn] at p
          exact ⟨n, rfl, hn, p (.int n) H' G' ι' st gr (.int _)⟩
        · rw [if_neg hn] at p; exact p.elim
      | _ => exact p.elim
    | _ => exact p.elim
theorem snd_lenO {ta : TE} {ma : Rho → Hs → Res Val} {j k : Nat} {cand : Cand} (hk : sg.me[k]? = some cand) (hF : ∀ c F, cand.lookup c = some F → ∃ f, MeF { Γ with k := j } "__len__" c F f) (sa : Snd Γ.T E ta ma) :
    Snd Γ.T E (tCB (rLenO Γ j E) (tCons ta tNil)) fun ρ S => (ma ρ S).bind fun x S => match x with
    | .d o => (meR sg k o [] S).bind fun r S => match r with
      | .d (.int n) => if 0 ≤ n ∧ n < 2 ^ 63 then .ok (.d (.int n)) S else .bad
      | _ => .bad
    | _ => .bad := snd_one (ta := ta) (r := fun x H Q => rLenO Γ j E [x] H Q) (f := fun ρ x S => match x with
    | .d o => (meR sg k o [] S).bind fun r S => match r with
      | .d (.int n) => if 0 ≤ n ∧ n < 2 ^ 63 then .ok (.d (.int n)) S else .bad
      | _ => .bad
    | _ => .bad) sa fun σ ρ H0 H G ι S Q x v g s hx p => by
  cases v with
  | d o =>
    dsimp only at p
    have nb : meR sg k o [] S ≠ .bad := fun e => by rw [e] at p; exact p
    obtain ⟨c, l, cand', F, rfl, h1, h2, h3⟩ := meR_ok nb
    rw [hk] at h1; cases h1
    rw [h3] at p
    obtain ⟨f, M⟩ := hF c F h2
    obtain ⟨b, dx, fs, rfl, e1, e2, e3⟩ := rep_obj g hx
    have hy' : Rep Γ.T G ι (.ref b) (.obj c l) := hx
    exact ⟨b, dx, fs, c, F, f, rfl, e1, M, _, S, G, ι, g, .cons hy' .nil, p.imp_len⟩
  | _ => exact p.elim
theorem good_lenO {a : Expr} {p pos : Pos} {ca : C} {j k : Nat} {cand : Cand} (hj : Γ.k = j + 1) (hg : glB sc "len" = true) (hm : Γ.mg "len" = none) (hs : notStar a = true) (hk : sg.me[k]? = some cand) (hF : ∀ c F, cand.lookup c = some F → ∃ f, MeF { Γ with k := j } "__len__" c F f) (ha : Good Γ sc E a (ev sg ca)) :
    Good Γ sc E (.Call (.Name "len" p) [a] [] pos) (ev sg (.lenO k ca)) := by
  obtain ⟨ta, pa, sa⟩ := ha
  exact ⟨_, fun X on => pe_callB (cr_lenO hj on) (on.gl hg) (by rw [on.mg]; exact hm) PySem.boot_len (pa1 hs (pa X on)) (by decide) (by decide) (starEach_cons hs) rfl, snd_lenO hk hF sa⟩
/-! ### X.f, a constant of the class -/
structure ConF (Γ : Gam) (x f : Str) (i : Int) : Prop where
  at_ : ∃ C mc u, Γ.mg x = some (.ref C) ∧ ClX.CRead Γ.T.K C mc ∧ ClX.CVal Γ.T.K C mc f (.int i) u
theorem good_gcon {x f : Str} {p pos : Pos} {i : Int} (hF : ConF Γ x f i) (hg : glB sc x = true) (hx : okName x = true) : Good Γ sc E (.Attribute (.Name x p) f pos) (ev sg (.gcon x f i)) := by
  obtain ⟨C, mc, u, hm, hr, hv⟩ := hF.at_
  refine ⟨ClX.tCVal Γ.T.K (tC (.ref C)) f, fun X on => ?_, fun σ ρ H G ι S Q g s p => ⟨C, mc, .int i, u, rfl, hr, hv, Post.fin p g (.int i)⟩⟩
  have h := ClX.pe_cval (X := X) (f := f) (pos := pos) (pe_glob (v := .ref C) (pos := p) (on.gl hg) (by rw [on.mg]; exact hm) rfl (okName_d hx)) (base_plain rfl)
  rw [on.K] at h
  exact h
/-! ### a op b op c -/
def chnB (op : CmpOp) : Bool := match op with
  | .In => false
  | .NotIn => false
  | _ => true
theorem marks2 {op op' : CmpOp} {b c : Expr} (hc : notSet c = true) : lastMarks [op, op'] [b, c] = false := (show lastMarks [op, op'] [b, c] = behindInMarks op' c from rfl).trans (marks_plain hc)
theorem snd_chn {ta tb tc : TE} {ma mb mc : Rho → Hs → Res Val} {op op' : CmpOp} (sa : Snd Γ.T E ta ma) (sb : Snd Γ.T E tb mb) (s3 : Snd Γ.T E tc mc) :
    Snd Γ.T E (tChain (cmpR Γ.T.K op) (cmpR Γ.T.K op') ta tb tc) fun ρ S => (ma ρ S).bind fun x S => (mb ρ S).bind fun y S => match cmpV op ρ S x y with
    | some true => (mc ρ S).bind fun z S => Res.of ((cmpV op' ρ S y z).map fun c => .d (.bl c)) S
    | some false => .ok (.d (.bl false)) S
    | none => .bad := by
  intro σ ρ H G ι S Q g s p
  dsimp only at p
  refine sa σ ρ H G ι S _ g s ?_
  cases ea : ma ρ S with
  | bad => rw [ea] at p; exact p.elim
  | ex c fs S' => rw [ea] at p; exact p
  | ok v S1 =>
    rw [ea] at p
    intro x H1 G1 ι1 st1 g1 vx
    refine sb σ ρ H1 G1 ι1 S1 _ g1 (s.step st1) ?_
    replace p : Post Γ.T σ H G ι Q E ((mb ρ S1).bind fun y S => match cmpV op ρ S v y with
      | some true => (mc ρ S).bind fun z S => Res.of ((cmpV op' ρ S y z).map fun c => .d (.bl c)) S
      | some false => .ok (.d (.bl false)) S
      | none => .bad) := p
    cases eb : mb ρ S1 with
    | bad => rw [eb] at p; exact p.elim
    | ex c fs S' => rw [eb] at p; exact XPost.mono st1 p
    | ok u S2 =>
      rw [eb] at p
      intro y H2 G2 ι2 st2 g2 vy
      replace p : Post Γ.T σ H G ι Q E (match cmpV op ρ S2 v u with
        | some true => (mc ρ S2).bind fun z S => Res.of ((cmpV op' ρ S u z).map fun c => .d (.bl c)) S
        | some false => .ok (.d (.bl false)) S2
        | none => .bad) := p
      have s2 := (s.step st1).step st2
      cases ec : cmpV op ρ S2 v u with
      | none => rw [ec] at p; exact p.elim
      | some b =>
        rw [ec] at p
        refine cmp_okQ op g2 s2 (vx.step st2) vy ec ⟨b, rfl, ?_⟩
        cases b with
        | false =>
          rw [if_neg Bool.false_ne_true]
          exact Post.fin (Post.mono (st1.trans st2) p) g2 (.bl false)
        | true =>
          rw [if_pos rfl]
          refine s3 σ ρ H2 G2 ι2 S2 _ g2 s2 ?_
          replace p : Post Γ.T σ H G ι Q E ((mc ρ S2).bind fun z S => Res.of ((cmpV op' ρ S u z).map fun c => .d (.bl c)) S) := p
          cases ed : mc ρ S2 with
          | bad => rw [ed] at p; exact p.elim
          | ex c fs S' => rw [ed] at p; exact XPost.mono (st1.trans st2) p
          | ok w S3 =>
            rw [ed] at p
            intro z H3 G3 ι3 st3 g3 vz
            exact cmp_ok op' g3 (s2.step st3) (vy.step st3) vz (Post.mono ((st1.trans st2).trans st3) p)
theorem good_chn {a b c : Expr} {op op' : CmpOp} {pos : Pos} {ca cb cc : C} (hc : notSet c = true) (h1 : Good Γ sc E a (ev sg ca)) (h2 : Good Γ sc E b (ev sg cb)) (h3 : Good Γ sc E c (ev sg cc)) :
    Good Γ sc E (.Compare a [op, op'] [b, c] pos) (ev sg (.chn op op' ca cb cc)) ∧ GoodT Γ sc E (.Compare a [op, op'] [b, c] pos) (ev sg (.chn op op' ca cb cc)) := by
  obtain ⟨ta, pa, sa⟩ := h1
  obtain ⟨tb, pb, sb⟩ := h2
  obtain ⟨tc, pc, s3⟩ := h3
  have sn := snd_chn (op := op) (op' := op') sa sb s3
  refine ⟨⟨_, fun X on => ?_, sn⟩, ⟨_, fun X on => ?_, sndT_val sn⟩⟩
  · have q := op_cmpD (X := X) on.room op
    have q' := op_cmpD (X := X) on.room op'
    rw [on.K] at q q'
    exact pe_chain q q' (pa X on) (pb X on) (pc X on) (marks2 hc)
  · have q := op_cmpD (X := X) on.room op
    have q' := op_cmpD (X := X) on.room op'
    rw [on.K] at q q'
    exact pt_chain q q' (pa X on) (pb X on) (pc X on) (marks2 hc)
end
end Sf
end
section
set_option linter.all false
set_option maxRecDepth 100000
set_option maxHeartbeats 2000000
/-! Sf.Own3: len(set(xs)), sorted(set(t)), methods of texts, join, list(range(n)). -/
namespace Sf
open PySem PySem.Spec PyProof.Rows
theorem boots_len : bootBuiltins "len" = some (.builtin "len") := PySem.boot_len
theorem boots_set : bootBuiltins "set" = some (.type "set") := PyProof.Rows.boot_set
theorem boots_sorted : bootBuiltins "sorted" = some (.builtin "sorted") := PyProof.Rows.boot_sorted
theorem cwB {M : Model} {A : Around} {E : Value → Shared → Prop} {s : Shared} {id : String} {e : Expr} {rest : List Expr} {env : Env} {pos : Pos} {Q : Value → Shared → Prop}
    (h : wpAny M A (spliced (backTo pos (starEach (e :: rest) env))) (fun vs s₁ => wpAny M A (call (.builtin id) vs) Q E s₁) E s) (he : starEach (e :: rest) env = (false, eval e env) :: starEach rest env) (hpl : (backTo pos (starEach rest env)).any (·.1) = false) :
    wpAny M A (callWith pos (.builtin id) [] (backTo pos (starEach (e :: rest) env)) []) Q E s := PyProof.Rows.callWith_builtin1 h he hpl
/-- the heap of a step that drew no values -/
theorem sh_eq {s s' : Shared} (o : s'.os = s.os) : s' = { s with heap := s'.heap, gens := s'.gens, drawn := s'.drawn, toks := s'.toks } := by
  cases s'
  cases s
  cases o
  rfl
theorem ints_are : ∀ {ns : List Int} {us : List Value}, L2.Vals (ns.map L2.V.int) us → IntsAre us ns
  | [], _, .nil => .nil
  | n :: ns, _, .cons r t => by
    obtain ⟨k, rfl⟩ := r
    exact .cons n k (ints_are t)
end Sf
namespace Sf
open PySem L2
section
variable {X : Cx} {a : Expr} {ta : TE} {p p2 q pos : Pos}
def tLenSetN (K : PySem.W.Frag) (ta : TE) : TE := fun σ H Q => ta σ H fun x H1 => ∃ l, ∃ xs : List Str, x = .ref l ∧ SqL K H1 l (xs.map V.str) ∧ xs.length ≤ 1000 ∧ Q (.int (dcnt xs xs.length)) H1
theorem pe_lenSetN (hc : X.calm = true) (hg : Gl X "len") (hm : X.mg "len" = none) (hg2 : Gl X "set") (hm2 : X.mg "set" = none) (ha : PE X a ta) (na : starEach [a] X.env = (false, eval a X.env) :: starEach [] X.env) :
    PE X (.Call (.Name "len" p) [.Call (.Name "set" p2) [a] [] q] [] pos) (tLenSetN X.K ta) := by
  refine ⟨fun pins s σ H Q I h => ?_⟩
  refine PyProof.Rows.Call_ (ld_blt I hg hm boots_len ?_)
  refine PyProof.Rows.callWith_builtin1 (PyProof.Rows.args_cons ?_ rfl) rfl rfl
  refine PyProof.Rows.Call_ (ld_blt I hg2 hm2 boots_set ?_)
  refine PyProof.Rows.callWith_type1 (PyProof.Rows.args_cons (thn (ha.run pins s σ H _ I h) fun v s1 ⟨x, H1, I1, r1, q1⟩ => PyProof.Rows.args_nil ?_) na) na rfl
  obtain ⟨l, xs, rfl, hq, h1, q1⟩ := q1
  obtain rfl : v = Value.ref l := r1
  obtain ⟨its, r, pl, hz⟩ := I1.list hq
  refine call_set_strs (I1.ok.hd hc) pl.isList (by simpa using strsAre_of r) (by unfold scanBound; omega) fun h' tk hS hk => PyProof.Rows.args_nil ?_
  obtain ⟨o, es, ep, t, ho, hex, hd, _, _, _, hf, hn⟩ := hS
  have I2 : Inv X pins σ H1 { s1 with heap := h', toks := tk } := I1.kept fun b o e => hk b o e
  have := dcnt_le xs xs.length
  exact call_len_set ho hex hd hf (by rw [hn]; omega) ⟨.int (dcnt xs xs.length), H1, I2.tok _, ⟨_, by rw [hn]⟩, q1⟩
def tSrtSet (K : PySem.W.Frag) (ta : TE) : TE := fun σ H Q => ta σ H fun x H1 => ∃ (l : Addr) (ns : List Int), x = .ref l ∧ SqT K H1 l (ns.map V.int) ∧ ns.length < 64 ∧ ∀ p, H1 p = none → Q (.ref p) (upd H1 p (.lst ((srtI ns).map V.int)))
theorem pe_srtSet (hc : X.calm = true) (hg : Gl X "sorted") (hm : X.mg "sorted" = none) (hg2 : Gl X "set") (hm2 : X.mg "set" = none) (ha : PE X a ta) (na : starEach [a] X.env = (false, eval a X.env) :: starEach [] X.env) :
    PE X (.Call (.Name "sorted" p) [.Call (.Name "set" p2) [a] [] q] [] pos) (tSrtSet X.K ta) := by
  refine ⟨fun pins s σ H Q I h => ?_⟩
  refine PyProof.Rows.Call_ (ld_blt I hg hm boots_sorted ?_)
  refine PyProof.Rows.callWith_builtin1 (PyProof.Rows.args_cons ?_ rfl) rfl rfl
  refine PyProof.Rows.Call_ (ld_blt I hg2 hm2 boots_set ?_)
  refine PyProof.Rows.callWith_type1 (PyProof.Rows.args_cons (thn (ha.run pins s σ H _ I h) fun v s1 ⟨x, H1, I1, r1, q1⟩ => PyProof.Rows.args_nil ?_) na) na rfl
  obtain ⟨l, ns, rfl, hq, h1, q1⟩ := q1
  obtain rfl : v = Value.ref l := r1
  obtain ⟨its, r, pl, hz⟩ := I1.tuple hq
  refine call_set_tupI ns (I1.ok.hd hc) (show s1.heap.IsTuple l its.toArray from pl) (by simpa using ints_are r) (by unfold scanBound; omega) fun h' tk c R hcl hk => PyProof.Rows.args_nil ?_
  have I2 : Inv X pins σ H1 { s1 with heap := h', toks := tk } := I1.kept fun b o e => hk b o e
  refine sorted_set (s := { s1 with heap := h', toks := tk }) R (I2.ok.hd hc) (by omega) fun s' p out c ns' k g o hp hgt hi hs hm' hl => ?_
  have e1 : ns' = srtI ns := srt_uniq hs (srtI_srt ns) fun k => by rw [hm' k, srtI_mem]; simp
  subst e1
  have hlen : ((srtI ns).map V.int).length ≤ sizeLine := by rw [List.length_map, hl, sizeLine_eq]; omega
  have hn : H1 p = none := I2.hok.fresh hp
  have J : Inv X pins σ (upd H1 p (.lst ((srtI ns).map V.int))) { { s1 with heap := h', toks := tk } with heap := s'.heap, gens := s'.gens, drawn := s'.drawn, toks := s'.toks } :=
    I2.call (ch := []) (Un.laid k hp hn) (I2.hok.laid k hp ⟨hlen, out.toList, c, vals_of_ints hi, hgt⟩) (by rw [g]; exact I2.bare) (fun _ z => nomatch z)
  rw [sh_eq o]
  exact ⟨.ref p, _, J, rfl, q1 p hn⟩
end
section
variable {T : Tab} {G : Hp} {ι : List Addr}
theorem Reps.strs_of : ∀ {vs : List V} {ds : List D} {is : List Str}, Reps T G ι vs ds → strsD ds = some is → vs = is.map V.str
  | _, _, is, .nil, e => by
    cases (show some [] = some is from e)
    rfl
  | _, _, is, .cons h r, e => by
    cases h with
    | str i =>
      unfold strsD at e
      rw [Option.map_eq_some_iff] at e
      obtain ⟨js, e1, rfl⟩ := e
      rw [Reps.strs_of r e1]; rfl
    | _ => cases e
end
section
variable {Γ : Gam} {sc : Scope} {E : XK} {sg : Sg}
theorem good_lenSet {a : Expr} {p p2 q pos : Pos} {ca : C} (hg : glB sc "len" = true) (hm : Γ.mg "len" = none) (hg2 : glB sc "set" = true) (hm2 : Γ.mg "set" = none) (hs : notStar a = true) (ha : Good Γ sc E a (ev sg ca)) :
    Good Γ sc E (.Call (.Name "len" p) [.Call (.Name "set" p2) [a] [] q] [] pos) (ev sg (.lenSet ca)) := by
  obtain ⟨ta, pa, sa⟩ := ha
  refine ⟨tLenSetN Γ.T.K ta, fun X on => ?_, snd_one (ta := ta) (r := fun x H1 Q => ∃ l, ∃ xs : List Str, x = .ref l ∧ SqL Γ.T.K H1 l (xs.map V.str) ∧ xs.length ≤ 1000 ∧ Q (.int (dcnt xs xs.length)) H1) (f := fun ρ x S => Res.of (lenSetV ρ S x) S) sa fun σ ρ H0 H G ι S Q x v g s hx p => ?_⟩
  · have h := pe_lenSetN (p := p) (p2 := p2) (q := q) (pos := pos) on.calm (on.gl hg) (by rw [on.mg]; exact hm) (on.gl hg2) (by rw [on.mg]; exact hm2) (pa X on) (starEach_cons hs)
    rw [on.K] at h
    exact h
  · unfold lenSetV at p
    cases e1 : contL ρ S v with
    | none => rw [e1] at p; exact p.elim
    | some l =>
      rw [e1] at p
      cases e2 : strsD l with
      | none => dsimp only [Option.bind] at p; rw [e2] at p; exact p.elim
      | some xs =>
        dsimp only [Option.bind] at p
        rw [e2] at p
        dsimp only at p
        by_cases hl : xs.length ≤ 1000
        · rw [if_pos hl] at p
          obtain ⟨b, vs, rfl, h1, h2, h3⟩ := contL_rel g s hx e1
          have := Reps.strs_of h3 e2
          subst this
          exact ⟨b, xs, rfl, SqL.of h1, hl, Post.fin p g (.int _)⟩
        · rw [if_neg hl] at p; exact p.elim
theorem good_srtSet {a : Expr} {p p2 q pos : Pos} {ca : C} (hg : glB sc "sorted" = true) (hm : Γ.mg "sorted" = none) (hg2 : glB sc "set" = true) (hm2 : Γ.mg "set" = none) (hs : notStar a = true) (ha : Good Γ sc E a (ev sg ca)) :
    Good Γ sc E (.Call (.Name "sorted" p) [.Call (.Name "set" p2) [a] [] q] [] pos) (ev sg (.srtSet ca)) := by
  obtain ⟨ta, pa, sa⟩ := ha
  refine ⟨tSrtSet Γ.T.K ta, fun X on => ?_, snd_one (ta := ta) (r := fun x H1 Q => ∃ (l : Addr) (ns : List Int), x = .ref l ∧ SqT Γ.T.K H1 l (ns.map V.int) ∧ ns.length < 64 ∧ ∀ p, H1 p = none → Q (.ref p) (upd H1 p (.lst ((srtI ns).map V.int)))) (f := fun ρ x S => Res.of (srtSetV x) S) sa fun σ ρ H0 H G ι S Q x v g s hx p => ?_⟩
  · have h := pe_srtSet (p := p) (p2 := p2) (q := q) (pos := pos) on.calm (on.gl hg) (by rw [on.mg]; exact hm) (on.gl hg2) (by rw [on.mg]; exact hm2) (pa X on) (starEach_cons hs)
    rw [on.K] at h
    exact h
  · unfold srtSetV at p
    cases v with
    | d d =>
      cases d with
      | tup l =>
        dsimp only [contT, Option.bind] at p
        cases e2 : intsD l with
        | none => rw [e2] at p; exact p.elim
        | some xs =>
          rw [e2] at p
          dsimp only at p
          by_cases hl : xs.length < 64
          · rw [if_pos hl] at p
            have hx : Rep Γ.T G ι x (.tup l) := hx
            cases hx with
            | tup h1 h2 h3 =>
              have := Reps.ints_of h3 e2
              subst this
              refine ⟨_, xs, rfl, le_t g.sub h1, hl, fun p0 hp => ?_⟩
              refine Post.fin_lst p g ?_ Reps.ints hp
              rw [List.length_map, sizeLine_eq]
              have := srtI_len xs
              omega
          · rw [if_neg hl] at p; exact p.elim
      | _ => exact p.elim
    | _ => exact p.elim
/-! ### methods of texts -/
def smN : Sm → String
  | .isalpha => "isalpha"
  | .islower => "islower"
theorem good_strm {o : Expr} {apos pos : Pos} {co : C} (m : Sm) (hb : plainBase o = true) (hl : (apos.endLine == pos.line) = true) (ho : Good Γ sc E o (ev sg co)) : Good Γ sc E (.Call (.Attribute o (smN m) apos) [] [] pos) (ev sg (.strm m co)) := by
  obtain ⟨to, po, so⟩ := ho
  have sn : ∀ (g : Str → Bool), (∀ x, smV m x = g x) → Snd Γ.T E (tM0 (fun x xs H Q => ∃ a, x = .str a ∧ xs = [] ∧ True ∧ Q (.bl (g a)) H) to) (ev sg (.strm m co)) := fun gf hg => snd_one (ta := to) (r := fun x H Q => (∃ a, x = V.str a) ∧ ∃ a, x = .str a ∧ ([] : List V) = [] ∧ True ∧ Q (.bl (gf a)) H) (f := fun ρ x S => match x with
    | .d (.str x) => .ok (.d (.bl (smV m x))) S
    | _ => .bad) so fun σ ρ H0 H G ι S Q x v g s hx p => by
    cases v with
    | d d =>
      cases d with
      | str z =>
        have hx : Rep Γ.T G ι x (.str z) := hx
        cases hx
        dsimp only at p
        rw [hg] at p
        exact ⟨⟨z, rfl⟩, z, rfl, rfl, trivial, Post.fin p g (.bl _)⟩
      | _ => exact p.elim
    | _ => exact p.elim
  cases m with
  | isalpha => exact ⟨_, fun X on => pe_m0 F.slot_str_isalpha F.type_str_isalpha mt_isalpha (po X on) (base_plain hb) hl, sn _ fun _ => rfl⟩
  | islower => exact ⟨_, fun X on => pe_m0 F.slot_str_islower F.type_str_islower mt_islower (po X on) (base_plain hb) hl, sn _ fun _ => rfl⟩
theorem good_join {o e : Expr} {apos pos : Pos} {co ce : C} (hb : plainBase o = true) (hs : notStar e = true) (hl : (apos.endLine == pos.line) = true) (ho : Good Γ sc E o (ev sg co)) (he : Good Γ sc E e (ev sg ce)) : Good Γ sc E (.Call (.Attribute o "join" apos) [e] [] pos) (ev sg (.join co ce)) := by
  obtain ⟨to, po, so⟩ := ho
  obtain ⟨te, pe, se⟩ := he
  refine ⟨tM1 (fun x xs H Q => ∃ a p, ∃ ys : List Str, x = .str a ∧ xs = [.ref p] ∧ (SqL Γ.T.K H p (ys.map V.str) ∨ SqT Γ.T.K H p (ys.map V.str)) ∧ (ys.map (·.length)).sum + ys.length * a.length ≤ 16777216 ∧ Q (.str (Txt.join a ys)) H) to te, fun X on => ?_, ?_⟩
  · have h := pe_join (apos := apos) (pos := pos) (po X on) (pe X on) (starEach_cons hs) (base_plain hb) hl
    rw [on.K] at h
    exact h
  · intro σ ρ H G ι S Q g s p
    replace p : Post Γ.T σ H G ι Q E ((ev sg co ρ S).bind fun x S => match x with
      | .d (.str _) => (ev sg ce ρ S).bind fun y S => Res.of (joinV ρ S x y) S
      | _ => .bad) := p
    refine so σ ρ H G ι S _ g s ?_
    cases ea : ev sg co ρ S with
    | bad => rw [ea] at p; exact p.elim
    | ex c fs S' => rw [ea] at p; exact p
    | ok v S1 =>
      rw [ea] at p
      intro x H1 G1 ι1 st1 g1 vx
      have hstr : ∃ z, v = .d (.str z) := by
        cases v with
        | d d =>
          cases d with
          | str z => exact ⟨z, rfl⟩
          | _ => exact p.elim
        | _ => exact p.elim
      obtain ⟨z, rfl⟩ := hstr
      replace p : Post Γ.T σ H G ι Q E ((ev sg ce ρ S1).bind fun y S => Res.of (joinV ρ S (.d (.str z)) y) S) := p
      have vx : Rep Γ.T G1 ι1 x (.str z) := vx
      cases vx
      refine ⟨⟨z, rfl⟩, se σ ρ H1 G1 ι1 S1 _ g1 (s.step st1) ?_⟩
      cases eb : ev sg ce ρ S1 with
      | bad => rw [eb] at p; exact p.elim
      | ex c fs S' => rw [eb] at p; exact XPost.mono st1 p
      | ok u S2 =>
        rw [eb] at p
        intro y H2 G2 ι2 st2 g2 vy
        replace p : Post Γ.T σ H G ι Q E (Res.of (((contL ρ S2 u).bind strsD).bind fun ys => if (ys.map (·.length)).sum + ys.length * z.length ≤ 16777216 then some (.d (.str (Txt.join z ys))) else none) S2) := p
        cases e1 : contL ρ S2 u with
        | none => rw [e1] at p; exact p.elim
        | some l =>
          rw [e1] at p
          cases e2 : strsD l with
          | none => dsimp only [Option.bind] at p; rw [e2] at p; exact p.elim
          | some ys =>
            dsimp only [Option.bind] at p
            rw [e2] at p
            dsimp only at p
            by_cases hl : (ys.map (·.length)).sum + ys.length * z.length ≤ 16777216
            · rw [if_pos hl] at p
              obtain ⟨b, vs, rfl, h1, h2, h3⟩ := contL_rel g2 ((s.step st1).step st2) vy e1
              have := Reps.strs_of h3 e2
              subst this
              exact ⟨z, b, ys, rfl, rfl, .inl (SqL.of h1), hl, Post.fin (Post.mono (st1.trans st2) p) g2 (.str _)⟩
            · rw [if_neg hl] at p; exact p.elim
/-! ### list(range(n)) -/
theorem reps_rg {T : Tab} {G : Hp} {ι : List Addr} {lo hi : Int} : Reps T G ι (rgV lo hi) (rngL lo (hi - lo).toNat) := by
  unfold rgV rngL
  generalize List.range (hi - lo).toNat = l
  induction l with
  | nil => exact .nil
  | cons i r ih => exact .cons (.int _) ih
theorem good_lrg {a : Expr} {p p2 q pos : Pos} {ca : C} (hg : glB sc "list" = true) (hm : Γ.mg "list" = none) (hg2 : glB sc "range" = true) (hm2 : Γ.mg "range" = none) (hs : notStar a = true) (ha : Good Γ sc E a (ev sg ca)) :
    Good Γ sc E (.Call (.Name "list" p) [.Call (.Name "range" p2) [a] [] q] [] pos) (ev sg (.lrg ca)) := by
  obtain ⟨ta, pa, sa⟩ := ha
  refine ⟨tLstRg (tRg1 ta), fun X on => pe_listRg on.calm (on.gl hg) (by rw [on.mg]; exact hm) (prg_1 (on.gl hg2) (by rw [on.mg]; exact hm2) (pa X on) (starEach_cons hs)) rfl, snd_one (ta := ta) (r := fun x H1 Q => ∃ n, x = .int n ∧ RgOk 0 n ∧ ∀ q, H1 q = none → Q (.ref q) (upd H1 q (.lst (rgV 0 n)))) (f := fun ρ x S => match x with
    | .d (.int n) => Res.of ((rng 0 n).map fun l => .fr l) S
    | _ => .bad) sa fun σ ρ H0 H G ι S Q x v g s hx p => ?_⟩
  cases v with
  | d d =>
    cases d with
    | int n =>
      have hx : Rep Γ.T G ι x (.int n) := hx
      cases hx
      dsimp only at p
      unfold rng at p
      split at p
      · rename_i h
        refine ⟨n, rfl, ⟨h.1, h.2.1, h.2.2.1, h.2.2.2.1, Nat.le_trans h.2.2.2.2 (by decide)⟩, fun q0 hq => ?_⟩
        refine Post.fin_lst (ds := rngL 0 (n - 0).toNat) p g ?_ reps_rg hq
        rw [rgV_length, sizeLine_eq]
        have := h.2.2.2.2
        unfold big at this
        omega
      · exact p.elim
    | _ => exact p.elim
  | _ => exact p.elim
end
end Sf
end
section
set_option linter.all false
set_option maxRecDepth 100000
set_option maxHeartbeats 2000000
/-! Sf.Own4: enumerate; o(..); o[i] = v; list(o). -/
namespace Sf
open PySem L2
/-! ### enumerate -/
theorem enumL_get {l : List D} {i : Nat} : (enumL l)[i]? = (l[i]?).map fun d => .tup [.int (i : Int), d] := by
  unfold enumL
  rw [List.getElem?_map, List.getElem?_zipIdx]
  cases l[i]? <;> simp
theorem enumL_len {l : List D} : (enumL l).length = l.length := by unfold enumL; rw [List.length_map, List.length_zipIdx]
theorem walk_enum {T : Tab} {a : Addr} {xs : List D} : Walk T (Ite T.K a) (enumL xs) (okL T a xs) where
  go := fun i H G ι h ⟨vs, o, r⟩ => by
    rw [enumL_len] at h
    exact ⟨vs, vs[i]'(by rw [r.length]; exact h), o, List.getElem?_eq_getElem (by rw [r.length]; exact h)⟩
  yld := fun i H G ι x H' S h ⟨vs, o, r⟩ g y => by
    obtain ⟨p, v, rfl, hp, rfl, e⟩ := y
    obtain ⟨d, e1, e2⟩ := r.getV (e vs o)
    have hG := g.sub.none hp
    exact ⟨.tup [.int i, d], upd G p (.tup [.int (i : Nat), v]), by rw [enumL_get, e1]; rfl, .tup (.inl (.inl upd_same)) (by show 2 ≤ sizeLine; rw [sizeLine_eq]; decide) (.cons (.int _) (.cons (e2.mono (le_upd hG) (Pre.refl _)) .nil)), Step.new hp g.sub, g.new hp⟩
  stop := fun H G ι ⟨vs, o, r⟩ => ⟨vs, o, by rw [enumL_len]; exact Nat.le_of_eq r.length⟩
section
variable {Γ : Gam} {sc : Scope} {E : XK} {sg : Sg}
theorem walk_rel {T : Tab} {fx : Bool} {σ : St} {ρ : Rho} {H G H1 G1 : Hp} {ι ι1 : List Addr} {S1 : Hs} {x : V} {v : Val} {w : List D × Option Nat} (st1 : Step H G ι H1 G1 ι1) (g1 : GRel T H1 S1 G1 ι1) (s1 : SRel T σ ρ H1 G1 ι1) (vx : VRel T σ H H1 G1 ι1 x v)
    (et : contT v = none) (ew : walkV fx ρ S1 v = some w) : ∃ a G1', x = .ref a ∧ (∃ vs, SqL T.K H1 a vs) ∧ Step H G ι H1 G1' ι1 ∧ GRel T H1 S1 G1' ι1 ∧ w.1.length ≤ sizeLine ∧ Stays T fx H1 G1' ι1 S1 w.2 (okL T a w.1) := by
  unfold walkV at ew
  split at ew
  · rename_i n
    rw [Option.map_eq_some_iff] at ew
    obtain ⟨l, el, rfl⟩ := ew
    cases vx with
    | loc hn =>
      obtain ⟨a, vs, e1, e2, e3, e4⟩ := g1.cell n l el
      rw [hn] at e1; cases e1
      exact ⟨_, G1, rfl, ⟨vs, SqL.of e2⟩, st1, g1, by rw [← e4.length]; exact e3, stays_loc hn el⟩
  · rename_i i
    split at ew
    · rename_i hfx
      subst hfx
      rw [Option.map_eq_some_iff] at ew
      obtain ⟨l, el, rfl⟩ := ew
      have el : (match ρ[i]? with
        | some (.ac l) => some l
        | _ => none) = some l := el
      cases er : ρ[i]? with
      | none => rw [er] at el; cases el
      | some sl =>
        rw [er] at el
        cases sl with
        | ac k =>
          cases el
          obtain ⟨a, vs, e1, e2, e3, e4, e5, e6⟩ := s1.ac i _ er
          have vx : σ[i]? = some (some x) := vx
          rw [e1] at vx; cases vx
          exact ⟨_, G1, rfl, ⟨_, SqL.of e2⟩, st1, g1, by rw [← e4.length]; exact e3, stays_frame e2 e6 e4⟩
        | _ => cases el
    · cases ew
  · rename_i nl no
    rw [Option.map_eq_some_iff] at ew
    obtain ⟨l, el, rfl⟩ := ew
    have el : contL ρ S1 v = some l := by
      unfold cont at el
      rw [et] at el; exact el
    cases v with
    | d d =>
      cases vx with
      | lst h1 h2 h3 =>
        cases el
        exact ⟨_, G1, rfl, ⟨_, SqL.of (g1.sub _ _ h1)⟩, st1, g1, by rw [← h3.length]; exact h2, stays_frz h1 h3⟩
      | loc => exact absurd rfl (nl _)
      | _ => cases el
    | fr k =>
      cases el
      obtain ⟨G1', st1', g1', _, rx⟩ := toD_rel st1 g1 vx rfl
      cases rx with
      | lst h1 h2 h3 => exact ⟨_, G1', rfl, ⟨_, SqL.of (g1'.sub _ _ h1)⟩, st1', g1', by rw [← h3.length]; exact h2, stays_frz h1 h3⟩
    | ow i => exact absurd rfl (no _)
theorem snd_enum {T : Tab} {fx : Bool} {ta : TE} {ma : Rho → Hs → Res Val} (ha : Snd T E ta ma) : SndI T fx E (iEnum T.K (tCons ta tNil)) fun ρ S => (ma ρ S).bind fun x S => Res.of (enumV fx ρ S x) S := by
  intro σ ρ H G ι S R g s p
  dsimp only at p
  refine ha σ ρ H G ι S _ g s ?_
  cases ea : ma ρ S with
  | bad => rw [ea] at p; exact p.elim
  | ex c fs S' => rw [ea] at p; exact p
  | ok v S1 =>
    rw [ea] at p
    intro x H1 G1 ι1 st1 g1 vx
    replace p : PostI T fx E H G ι R (Res.of (enumV fx ρ S1 v) S1) := p
    unfold enumV at p
    cases et : contT v with
    | some l => rw [et] at p; exact p.elim
    | none =>
      rw [et] at p
      dsimp only at p
      cases ew : walkV fx ρ S1 v with
      | none => rw [ew] at p; exact p.elim
      | some w =>
        rw [ew] at p
        obtain ⟨a, G1', rfl, ⟨vs, hs⟩, st1', g1', hl, sty⟩ := walk_rel st1 g1 (s.step st1) vx et ew
        exact ⟨a, vs, rfl, hs, p _ H1 G1' ι1 _ st1' g1' (by show (enumL w.1).length ≤ _; rw [enumL_len]; exact hl) walk_enum sty⟩
theorem goodI_enm {fx : Bool} {p pos : Pos} {a : Expr} {ca : C} (hg : glB sc "enumerate" = true) (hm : Γ.mg "enumerate" = none) (hs : notStar a = true) (h : Good Γ sc E a (ev sg ca)) : GoodI Γ sc E fx (.Call (.Name "enumerate" p) [a] [] pos) (evI sg fx (.enm ca)) := by
  obtain ⟨t, pe, s⟩ := h
  refine ⟨iEnum Γ.T.K (tCons t tNil), fun X tg on hf => ?_, snd_enum s⟩
  rw [← on.K]
  have ht : tupE tg = true := by
    unfold tgFit at hf
    simpa [enmE] using hf
  cases tg with
  | Tuple es k tp => exact pi_enum (on.gl hg) (by rw [on.mg]; exact hm) (pa1 hs (pe X on)) (starEach_cons hs)
  | _ => cases ht
/-! ### o(..) -/
structure CaF (Γ : Gam) (c : Nat) (F : Fn) (f : Addr) : Prop where
  me : MeF Γ "__call__" c F f
  fi : PySem.W.fnIn Γ.T.K f = true
def tCallA (Γ : Gam) (E : XK) (to : TE) (t : TA) : TE := fun σ H Q => to σ H fun x H1 => ∃ a dx fs c F f, x = .ref a ∧ H1 a = some (.ins (Γ.T.cad c) dx fs) ∧ CaF Γ c F f ∧ t σ H1 fun vs H2 => H2 a = some (.ins (Γ.T.cad c) dx fs) ∧ spR Γ.T F (.ref a :: vs) H2 Q E
theorem pe_callA {X : Cx} (on : On Γ sc E X) {fe e : Expr} {es : List Expr} {pos : Pos} {to : TE} {t : TA} (po : PE X fe to) (pa : PA X (e :: es) t) (hs : (e :: es).all notStar = true)
    (ht : eval (.Call fe (e :: es) [] pos) X.env = (do callWith pos (← eval fe X.env) [] (backTo pos (starEach (e :: es) X.env)) (backToKw pos (keywordEach [] X.env)))) : PE X (.Call fe (e :: es) [] pos) (tCallA Γ E to t) := by
  refine ⟨fun pins s σ H Q I h => ?_⟩
  refine PyProof.Rows.Call_ (thn (po.run pins s σ H _ I h) fun u s1 ⟨y, H1, I1, ry, a, dx, fs, c, F, f, ey, ea, M, q⟩ => ?_) ht
  subst ey
  obtain rfl : u = Value.ref a := ry
  rw [List.all_cons, Bool.and_eq_true] at hs
  refine StX.callO_with (thn (pa.run pos pins s1 σ H1 _ I1 q) fun us s2 ⟨vs, H2, I2, r, hi, q2⟩ => ?_) (starEach_cons hs.1) (by rw [backTo_any]; exact starEach_plain hs.2)
  obtain ⟨⟨ok, cl, me, no⟩, fi⟩ := M
  rw [← on.K] at me fi
  have hc : StX.InsC X H2 a (Γ.T.cad c) := .inr ⟨dx, fs, hi⟩
  obtain ⟨ox, od, J, hd⟩ := StX.insC_at I2 hc
  exact ⟨⟨_, ox, od, J, hd⟩, StX.run_callO ⟨me.at_, me.fn, fi⟩ (on.fr ok) on.room on.pass I2 hc r q2⟩
theorem snd_callA {to : TE} {t : TA} {mo : Rho → Hs → Res Val} {ms : Rho → Hs → Res (List D)} {k : Nat} {cand : Cand} (hk : sg.me[k]? = some cand) (hF : ∀ c F, cand.lookup c = some F → ∃ f, CaF Γ c F f) (so : Snd Γ.T E to mo) (sa : SndA Γ.T E t ms) :
    Snd Γ.T E (tCallA Γ E to t) fun ρ S => (mo ρ S).bind fun x S => match x with
      | .d o => (match meL sg k o with
        | some f => (ms ρ S).bind fun ds S => f (o :: ds) S
        | none => .bad)
      | _ => .bad := by
  intro σ ρ H G ι S Q g s p
  dsimp only at p
  refine so σ ρ H G ι S _ g s ?_
  cases eo : mo ρ S with
  | bad => rw [eo] at p; exact p.elim
  | ex c fs S' => rw [eo] at p; exact p
  | ok v S1 =>
    rw [eo] at p
    intro x H1 G1 ι1 st1 g1 vx
    cases v with
    | d o =>
      replace p : Post Γ.T σ H G ι Q E (match meL sg k o with
        | some f => (ms ρ S1).bind fun ds S => f (o :: ds) S
        | none => .bad) := p
      cases eF : meL sg k o with
      | none => rw [eF] at p; exact p.elim
      | some F =>
        rw [eF] at p
        obtain ⟨c, l, cand', rfl, hk', hc⟩ := meL_some eF
        rw [hk] at hk'; cases hk'
        obtain ⟨f, M⟩ := hF c F hc
        have vx' : Rep Γ.T G1 ι1 x (.obj c l) := vx
        cases vx' with
        | obj h1 h2 h3 =>
          rename_i a dx fs
          refine ⟨a, dx, fs, c, F, f, rfl, g1.sub _ _ h1, M, sa σ ρ H1 G1 ι1 S1 _ g1 (s.step st1) ?_⟩
          replace p : Post Γ.T σ H G ι Q E ((ms ρ S1).bind fun ds S => F (.obj c l :: ds) S) := p
          cases ea : ms ρ S1 with
          | bad => rw [ea] at p; exact p.elim
          | ex c fs S' => rw [ea] at p; exact XPost.mono st1 p
          | ok ds S2 =>
            rw [ea] at p
            intro vs H2 G2 ι2 st2 g2 rs
            replace p : Post Γ.T σ H G ι Q E (F (.obj c l :: ds) S2) := p
            have rs' : Reps Γ.T G2 ι2 (.ref a :: vs) (.obj c l :: ds) := .cons (Rep.mono st2.ext st2.pre (.obj h1 h2 h3)) rs
            exact ⟨g2.sub _ _ (st2.ext _ _ h1), _, S2, G2, ι2, g2, rs', (Post.mono (st1.trans st2) p).nil⟩
    | _ => exact p.elim
theorem good_callO {x : Str} {p pos : Pos} {es : List Expr} {co : C} {as : Cs} {k : Nat} {cand : Cand} (hk : sg.me[k]? = some cand) (hF : ∀ c F, cand.lookup c = some F → ∃ f, CaF Γ c F f) (hs : es.all notStar = true) (hn : es ≠ [])
    (ho : Good Γ sc E (.Name x p) (ev sg co)) (ha : GoodA Γ sc E es (evs sg as)) : Good Γ sc E (.Call (.Name x p) es [] pos) (ev sg (.meth k co as)) := by
  obtain ⟨to, po, so⟩ := ho
  obtain ⟨ta, pa, sa⟩ := ha
  cases es with
  | nil => exact absurd rfl hn
  | cons e r => exact ⟨tCallA Γ E to ta, fun X on => pe_callA on (po X on) (pa X on) hs rfl, snd_callA hk hF so sa⟩
end
end Sf
end
section
set_option linter.all false
set_option maxRecDepth 100000
set_option maxHeartbeats 2000000
/-! Sf.Own5: o[i] = v; list(o). -/
namespace Sf
open PySem L2
section
variable {Γ : Gam} {sc : Scope} {E : XK} {sg : Sg}
/-! ### o[i] = v -/
structure SeF (Γ : Gam) (c : Nat) (F : Fn) (f : Addr) : Prop where
  me : MeF Γ "__setitem__" c F f
  no : PySem.W.noSeq Γ.T.K (Γ.T.cad c) = true
def rSetO (Γ : Gam) (E : XK) : TSet := fun o i v H Q => ∃ b dx fs c F f, o = .ref b ∧ H b = some (.ins (Γ.T.cad c) dx fs) ∧ SeF Γ c F f ∧ spR Γ.T F [.ref b, i, v] H (fun _ H' => Q H') E
theorem set_own {X : Cx} (on : On Γ sc E X) : PSet X (rSetO Γ E) := by
  intro pins s σ H o i v ov iv u Q I ro ri rv h
  obtain ⟨b, dx, fs, c, F, f, rfl, hb, ⟨⟨ok, cl, me, no⟩, ns⟩, q⟩ := h
  obtain rfl : ov = Value.ref b := ro
  rw [← on.K] at cl me ns
  obtain ⟨mA, J, _⟩ := ins_get I.hok hb
  obtain ⟨od, J, _⟩ := J.look
  obtain ⟨m, hF⟩ := I.fr
  refine PySem.W.ksp_setItem hF I.ok.mod.kin J ns me.at_ me.fn (wpAny_mono (wpAny_call (run_fnR (us := [.ref b, iv, u]) (vs := [.ref b, i, v]) (on.fr ok) on.room on.pass I (.cons rfl (.cons ri (.cons rv .nil))) q)) (fun r s' hr => ?_) fun _ _ z => z)
  obtain ⟨w, H', I', _, hq⟩ := hr
  exact ⟨H', I', hq⟩
theorem sndS_setO {to tk te : TE} {mo mk me : Rho → Hs → Res Val} {k : Nat} {cand : Cand} (hk : sg.me[k]? = some cand) (hF : ∀ c F, cand.lookup c = some F → ∃ f, SeF Γ c F f) (so : Snd Γ.T E to mo) (sk : Snd Γ.T E tk mk) (se : Snd Γ.T E te me) :
    SndS Γ.T E (tAsg te (gSub to tk (rSetO Γ E))) fun ρ S => (me ρ S).out fun x S => match x.toD with
    | some x => (mo ρ S).out fun y S => match y with
      | .d o => (mk ρ S).out fun z S => match z with
        | .d z => (meR sg k o [z, x] S).out fun _ S => .nx ρ S
        | _ => .bad
      | _ => .bad
    | none => .bad := by
  intro σ ρ H G ι S z0 H0 G0 ι0 D st g f p
  refine first se st g f p fun x v S1 H1 G1 ι1 st1 g1 vx p => ?_
  cases ed : v.toD with
  | none => rw [ed] at p; exact p.elim
  | some d =>
    rw [ed] at p
    dsimp only at p
    obtain ⟨G1', st1', g1', le1, rx⟩ := toD_rel st1 g1 vx ed
    have f1 := f.step st1'
    refine first so (st.trans st1') g1' f1 p fun y u S2 H2 G2 ι2 st2 g2 vy p => ?_
    cases u with
    | d o =>
      dsimp only at p
      have f2 := f1.step st2
      refine first sk ((st.trans st1').trans st2) g2 f2 p fun z w S3 H3 G3 ι3 st3 g3 vz p => ?_
      cases w with
      | d z' =>
        dsimp only at p
        have nb : meR sg k o [z', d] S3 ≠ .bad := fun e => by rw [e] at p; exact p
        obtain ⟨c, l, cand', F, rfl, h1, h2, h3⟩ := meR_ok nb
        rw [hk] at h1; cases h1
        rw [h3] at p
        obtain ⟨f', M⟩ := hF c F h2
        have vy3 := VRel.step vy st3
        obtain ⟨b, dx, fs, rfl, e1, e2, e3⟩ := rep_obj g3 vy3
        have hx3 : Rep Γ.T G3 ι3 x d := (rx.mono st2.ext st2.pre).mono st3.ext st3.pre
        have hz3 : Rep Γ.T G3 ι3 z z' := vz
        have hy3 : Rep Γ.T G3 ι3 (.ref b) (.obj c l) := vy3
        refine ⟨b, dx, fs, c, F, f', rfl, e1, M, _, S3, G3, ι3, g3, .cons hy3 (.cons hz3 (.cons hx3 .nil)), ?_⟩
        have st13 := (st1'.trans st2).trans st3
        cases eF : F [.obj c l, z', d] S3 with
        | bad => rw [eF] at p; exact p.elim
        | ex k' fs' S' => rw [eF] at p; exact XPost.mono (st.trans st13) p
        | ok r S4 =>
          rw [eF] at p
          intro r' H4 G4 ι4 st4 g4 _
          exact p σ H4 G4 ι4 (Stp.of st (st13.trans st4)) g4 (f.step (st13.trans st4))
      | _ => exact p.elim
    | _ => exact p.elim
theorem goodS_setO {o k e : Expr} {pos pos2 : Pos} {co ck ce : C} {n : Nat} {cand : Cand} (hn : sg.me[n]? = some cand) (hF : ∀ c F, cand.lookup c = some F → ∃ f, SeF Γ c F f) (hc : notComp e = true) (ho : Good Γ sc E o (ev sg co)) (hk : Good Γ sc E k (ev sg ck)) (he : Good Γ sc E e (ev sg ce)) (hp : plainIx k = true) :
    GoodS Γ sc E (.Assign [.Subscript o k pos2] e pos) (exec sg (.setO n co ck ce)) := by
  obtain ⟨to, po, so⟩ := ho
  obtain ⟨tk, pk, sk⟩ := hk
  obtain ⟨te, pe, se⟩ := he
  refine ⟨tAsg te (gSub to tk (rSetO Γ E)), fun X on => ?_, ?_⟩
  · exact ps_asg (pe X on.on) (pg_sub (po X on.on) (pk X on.on) (set_own on.on) (fun v => by cases k <;> first | rfl | cases hp)) (by show swapsWith e (some (.Subscript o k pos2)) pos.line X.env = pure false; exact swaps_plain hc) (by cases e <;> rfl) rfl
  · have e1 : exec sg (.setO n co ck ce) = fun ρ S => (ev sg ce ρ S).out fun x S => match x.toD with
      | some x => (ev sg co ρ S).out fun y S => match y with
        | .d o => (ev sg ck ρ S).out fun z S => match z with
          | .d z => (meR sg n o [z, x] S).out fun _ S => .nx ρ S
          | _ => .bad
        | _ => .bad
      | none => .bad := by
      funext ρ S
      rw [exec] <;> rfl
    rw [e1]
    exact sndS_setO hn hF so sk se
end
end Sf
end
section
set_option linter.all false
set_option maxRecDepth 100000
set_option maxHeartbeats 2000000
/-! Sf.Own6: list(o), o walked by its field. -/
namespace Sf
open PySem PySem.Spec PyProof.Rows L2
section
variable {X : Cx} {pins : List (Addr × Obj)} {σ : L2.St} {H : Hp} {s : Shared} {A1 : Around}
/-- the list l is read, item by item, into q -/
theorem lo_loop {l it q : Addr} {vs : List V} {Rs : Result → Shared → Prop} (hh : A1.in1.handled = none) (hH : H l = some (.lst vs)) (hq : H q = none) (hz : vs.length ≤ sizeLine)
    (hdone : ∀ s, Inv X pins σ (upd H q (.lst vs)) s → Rs (.ok (.ret .none)) s) :
    ∀ (k i : Nat) (s : Shared), i + k = vs.length → Inv X pins σ (upd H q (.lst (vs.take i))) s → s.heap.IsListIter it l i → (∀ ys, FpOk X pins (upd H q (.lst ys)) it) → codeAny (model X.prog X.w) A1 (.builtin "list.extend.loop" ⟨[.ref q, .ref it, .none], []⟩) Rs s := by
  have lq : l ≠ q := ne_of_none hH hq
  intro k
  induction k with
  | zero =>
    intro i s hi I st hf
    have ei : i = vs.length := by omega
    subst ei
    rw [List.take_length] at I
    refine codeAny_builtin PySem.F.entry_extend_loop ?_
    rw [Around.under_plainId PySem.F.plain_extend_loop _]
    show wpAny _ A1.in1 (pyNext (.ref it) >>= _) _ _ s
    obtain ⟨f0, f1, f2, f3, f4, f5⟩ := hf vs
    have p := I.list (SqL.of (show upd H q (.lst vs) l = some (.lst vs) by rw [upd_ne lq]; exact hH))
    obtain ⟨its, rv, p, hz3⟩ := p
    refine wpAny_bind (wpAny_pyNext_list_end hh st p.isList (by have := rv.length; simp; omega) fun h' eb => ?_)
    have I1 : Inv X pins σ (upd H q (.lst vs)) { s with heap := h' } := I.turned (t' := s.toks) (fun b o hb e => eb b o hb e) f0 f1 f3 f4 f5
    exact wpAny_pure (hdone _ I1)
  | succ k ih =>
    intro i s hi I st hf
    have hlt : i < vs.length := by omega
    refine codeAny_builtin PySem.F.entry_extend_loop ?_
    rw [Around.under_plainId PySem.F.plain_extend_loop _]
    show wpAny _ A1.in1 (pyNext (.ref it) >>= _) _ _ s
    obtain ⟨f0, f1, f2, f3, f4, f5⟩ := hf (vs.take i)
    obtain ⟨its, rv, p, hz3⟩ := I.list (SqL.of (show upd H q (.lst (vs.take i)) l = some (.lst vs) by rw [upd_ne lq]; exact hH))
    obtain ⟨u, hu, ru⟩ := rv.get (List.getElem?_eq_getElem hlt)
    refine wpAny_bind (wpAny_pyNext_list_item st p.isList (x := u) (by simpa using hu) fun h' st' sb => ?_)
    have I1 : Inv X pins σ (upd H q (.lst (vs.take i))) { s with heap := h' } := I.turned (t' := s.toks) (fun b o hb e => (sb.2 b hb).trans e) f0 f1 f3 f4 f5
    show wpAny _ A1.in1 (updateSeq q (·.push u) >>= _) _ _ _
    obtain ⟨z, its2, k2, r2, hl2, e2⟩ := I1.lstM (show upd H q (.lst (vs.take i)) q = some (.lst (vs.take i)) from upd_same)
    have hlen : its2.length = i := by rw [← r2.length, List.length_take]; omega
    refine wpAny_bind (wpAny_updateSeq e2 rfl (wpAny_pure ⟨plainId_quiet PySem.F.plain_extend_loop _, ?_⟩) (by rw [List.size_toArray]; omega) (by show (its2.toArray.push u).size ≤ sizeLine + 1; rw [Array.size_push, List.size_toArray]; omega))
    have I2 := I1.lset (f := (·.push u)) (its' := its2 ++ [u]) (t' := s.toks) upd_same e2 (by simp) (r2.append (.cons ru .nil)) (by rw [List.length_append, List.length_singleton]; omega)
    rw [upd_upd] at I2
    rw [show vs.take i ++ [vs[i]] = vs.take (i + 1) by rw [List.take_add_one, List.getElem?_eq_getElem hlt]; rfl] at I2
    refine ih (i + 1) _ (by omega) I2 (st'.at fun o e => ?_) hf
    have nq : it ≠ q := fun z => by rw [z, upd_same] at f0; cases f0
    exact (Heap.get?_update_ne _ _ _ _ nq).trans e
/-- list(o) for o of the class c whose walk walks the field at p -/
structure LstF (Γ : Gam) (c p : Nat) : Prop where
  it : IterF Γ c p
  nolen : PySem.W.findIn Γ.T.K (.ref (Γ.T.cad c)) "__len__" = some none
  nohint : PySem.W.findIn Γ.T.K (.ref (Γ.T.cad c)) "__length_hint__" = some none
def rLstO (Γ : Gam) : List V → Hp → VK → Prop := fun xs H Q => ∃ a dx fs c p l vs, xs = [.ref a] ∧ H a = some (.ins (Γ.T.cad c) dx fs) ∧ fs.map (·.1) = Γ.T.cfl c ∧ LstF Γ c p ∧ (fs.map (·.2))[p]? = some (.ref l) ∧ H l = some (.lst vs) ∧ vs.length ≤ sizeLine ∧ ∀ q, H q = none → Q (.ref q) (upd H q (.lst vs))
theorem lo_hint {M : Model} {A : Around} {E : Value → Shared → Prop} {Q : Bool → Shared → Prop} {K : PySem.W.Frag} {ox : Obj} {od : Option Obj} {a C : Addr} (h1 : PySem.W.findIn K (.ref C) "__len__" = some none) (h2 : PySem.W.findIn K (.ref C) "__length_hint__" = some none) (hK : K.In s.heap) (J : PySem.W.InstAt s.heap a ox C od) (h : Q true s) :
    wpAny M A (Builtin.List.listLengthHint (.ref a)) Q E s := by
  unfold Builtin.List.listLengthHint
  refine wpAny_bind (wpAny_bind (J.type.here ((PySem.W.looks_findIn hK h1).here ?_)))
  refine PySem.W.KFB.if_not rfl ?_
  refine PySem.W.KFB.if_not rfl ?_
  refine wpAny_bind (wpAny_bind (J.type.here ((PySem.W.looks_findIn hK h2).here ?_)))
  exact wpAny_pure h
theorem call_lstO {Γ : Gam} {j : Nat} (hj : Γ.k = j + 2) (hP : X.prog = Γ.P) (hw : X.w = Γ.w) (hK : X.K = Γ.T.K) (hM : X.mg = Γ.mg) (hB : X.base = Γ.base) (hcalm : X.calm = true) (hr : Room Γ.k X.A) : CallR X (.type "list") (rLstO { Γ with k := j }) := by
  intro pins s σ H xs us Q I rv h
  obtain ⟨a, dx, fs, c, p, l, vs, rfl, ha, hfn, ⟨⟨f, hI, hs, hf⟩, nolen, nohint⟩, hl, hlv, hz, hq⟩ := h
  obtain ⟨u, rfl, ru⟩ := rv.one
  cases ru
  have hr2 : Room j X.A.in1.in1 := ((show Room (j + 1 + 1) X.A by rw [← hj]; exact hr).in1).in1
  have nolen : PySem.W.findIn X.K (.ref (Γ.T.cad c)) "__len__" = some none := by rw [hK]; exact nolen
  have nohint : PySem.W.findIn X.K (.ref (Γ.T.cad c)) "__length_hint__" = some none := by rw [hK]; exact nohint
  have hs : PySem.W.findIn X.K (.ref (Γ.T.cad c)) "__iter__" = some (some (.ref f)) := by rw [hK]; exact hs
  have hf : PySem.W.isFn X.K (.ref f) = true := by rw [hK]; exact hf
  refine callType_codes (Q₁ := fun obj s₁ => obj = .ref s.heap.objs.size ∧ s₁ = { s with heap := s.heap.push { cls := .type "list", data := .seq #[] } }) PySem.F.called_list (PySem.F.typeCall_list_1 _) PySem.F.entry_list_init
    (code_list_new _ ⟨rfl, rfl⟩) fun obj s₁ h₁ => ?_
  obtain ⟨rfl, rfl⟩ := h₁
  have hS : (s.heap.push { cls := .type "list", data := .seq #[] }).get? s.heap.objs.size = some { cls := .type "list", data := .seq #[] } := Heap.get?_push_size _ rfl
  refine ⟨⟨_, hS, rfl⟩, PySem.F.args_list_init_2 _ _, ?_⟩
  have fr : H s.heap.objs.size = none := I.hok.fresh (Nat.le_refl _)
  generalize hqd : s.heap.objs.size = q at *
  have I1 : Inv X pins σ (upd H q (.lst [])) { s with heap := s.heap.push { cls := .type "list", data := .seq #[] } } := by rw [← hqd]; exact I.lnew (its := []) (t' := s.toks) .nil (Nat.zero_le _)
  show wpAny _ _ (do let old ← Builtin.List.listItems (.ref q); Builtin.List.listUpdate (.ref q) (fun _ => #[]); letGo old.toList.reverse; Builtin.List.listExtendWith (.ref q) (.ref a) .none) _ _ _
  refine wpAny_bind ?_
  unfold Builtin.List.listItems
  refine wpAny_bind (wpAny_seqItems hS rfl (wpAny_pure ?_))
  show wpAny _ _ (updateSeq q (fun _ => #[]) >>= fun _ => letGo (#[] : Array Value).toList.reverse >>= fun _ => Builtin.List.listExtendWith (.ref q) (.ref a) .none) _ _ _
  refine wpAny_bind (wpAny_updateSeq hS rfl ?_)
  have I2 := I1.lset (f := fun _ => #[]) (its := []) (its' := []) (ys := []) (t' := s.toks) upd_same hS rfl .nil (Nat.zero_le _)
  rw [upd_upd] at I2
  refine wpAny_bind (wpAny_letGo ?_)
  have ha2 : upd H q (.lst []) a = some (.ins (Γ.T.cad c) dx fs) := by rw [upd_ne (ne_of_none ha fr)]; exact ha
  have hl2 : upd H q (.lst []) l = some (.lst vs) := by rw [upd_ne (ne_of_none hlv fr)]; exact hlv
  have hne : q ≠ a := ne_of upd_same ha2 (fun z => nomatch z)
  obtain ⟨mA, J, _⟩ := ins_get I2.hok ha2
  obtain ⟨od, J, _⟩ := J.look
  obtain ⟨m0, hF⟩ := I2.fr
  unfold Builtin.List.listExtendWith
  refine wpAny_bind (J.type.here ?_)
  have h1 : Builtin.List.listSameRef (.ref q) (.ref a) = false := by simp [Builtin.List.listSameRef, hne]
  have h2 : (Value.ref (Γ.T.cad c) == Value.type "list") = false := rfl
  have h3 : (Value.ref (Γ.T.cad c) == Value.type "tuple") = false := rfl
  simp only [h1, h2, h3, Bool.or_false, Bool.false_eq_true, if_false]
  refine wpAny_bind (PySem.W.owit_iter hF I2.ok.mod.kin J hs hf ?_)
  have e0 : Env0 X.prog X.w X.K X.mg X.base X.A.in1.in1 X.stack _ (upd H q (.lst [])) := ⟨I2.env0.frames, I2.env0.mod, I2.env0.bs, I2.env0.bsz, I2.env0.funs, I2.env0.frf, I2.env0.hok, I2.env0.bare⟩
  rw [hP, hw, hK, hM, hB] at e0
  have run := hI false X.A.in1.in1 X.stack _ (upd H q (.lst [])) a dx fs l hr2 e0 ha2 hfn hl ⟨vs, SqL.of hl2⟩
  rw [← show X.prog = Γ.P from hP, ← show X.w = Γ.w from hw] at run
  refine wpAny_call (codeAny_mono run fun r s' hq' => ?_)
  cases r with
  | error e =>
    obtain ⟨_, _, _, _, _, _, _, _, _, _, _, _, hE⟩ := hq'
    exact hE.elim
  | ok fl =>
    cases fl with
    | next => exact False.elim hq'
    | brk => exact False.elim hq'
    | cont => exact False.elim hq'
    | ret u =>
      obtain ⟨v', H', I3, rv, it, rfl, hle, hn, rfl⟩ := I2.after hq'
      obtain rfl : u = Value.ref it := rv
      have sz : X.s_0.heap.objs.size ≤ it := Nat.le_trans I2.sz hle
      unfold PySem.W.OwitIt
      have I3 : Inv X pins σ (upd (upd H q (.lst [])) it (ItL l it)) s' := I3
      have st : s'.heap.IsListIter it l 0 := (I3.hok it _ upd_same).1
      refine wpAny_specialOf (name := Str.ofString "__next__") st.typeIs slot_listiter_next.lookup ?_
      have I4 := ItX.inv_drop I3 upd_same
      have fp := ItX.inv_fp I3 upd_same sz
      rw [ItX.dropH_upd hn] at I4 fp
      obtain ⟨mA', J', _⟩ := ins_get I4.hok ha2
      obtain ⟨od', J', _⟩ := J'.look
      refine wpAny_bind (wpAny_holding (lo_hint nolen nohint I4.kIn J' ?_))
      obtain ⟨z, its, k, r3, hl3, e3⟩ := I4.lstM (show upd H q (.lst []) q = some (.lst []) from upd_same)
      cases r3
      have nq : it ≠ q := fun z => by rw [z, upd_same] at hn; cases hn
      have fpa : ∀ ys, FpOk X pins (upd H q (.lst ys)) it := fun ys => by
        obtain ⟨f0, f1, f2, f3, f4, f5⟩ := fp
        exact ⟨by rw [upd_ne nq] at f0 ⊢; exact f0, f1, f2, f3, f4, f5⟩
      have hh : X.A.in1.in1.handled = none := I.ok.hd hcalm
      have go : ∀ s3, Inv X pins σ (upd H q (.lst [])) s3 → s3.heap.IsListIter it l 0 → codeAny (model X.prog X.w) X.A.in1 (.builtin "list.extend.loop" ⟨[.ref q, .ref it, .none], []⟩) _ s3 := fun s3 I5 st5 =>
        lo_loop (Rs := wants (fun r s₂ => r = .none ∧ EP X pins σ Q (.ref q) s₂) X.xe) hh hlv fr hz (fun s4 I6 => ⟨rfl, .ref q, _, I6, rfl, hq q fr⟩) vs.length 0 s3 (by omega) I5 st5 fpa
      refine wpAny_ite_split (fun _ => ?_) (fun _ => wpAny_pure ⟨plainId_quiet PySem.F.plain_extend_loop _, go s' I4 st⟩)
      refine wpAny_bind (wpAny_rule ?_)
      refine wpAny_bind ?_
      show wpAny _ _ (updateSeq q (·.push .none) >>= fun _ => updateSeq q (·.pop)) _ _ _
      refine wpAny_bind (wpAny_updateSeq e3 rfl ?_)
      have I5 := I4.lset (f := (·.push Value.none)) (its' := [Value.none]) (ys := [.non]) (t' := s'.toks) upd_same e3 (by simp) (.cons rfl .nil) (by rw [List.length_singleton, sizeLine_eq]; decide)
      obtain ⟨z4, its4, k4, r4, hl4, e4⟩ := I5.lstM upd_same
      obtain ⟨u4, rfl, ru4⟩ := r4.one
      refine wpAny_updateSeq e4 rfl ?_ (by show 1 ≤ sizeLine; rw [sizeLine_eq]; decide) (by show 0 ≤ sizeLine + 1; exact Nat.zero_le _)
      have I6 := I5.lset (f := (·.pop)) (its := [u4]) (its' := []) (ys := []) (t' := s'.toks) upd_same e4 (by rfl) .nil (Nat.zero_le _)
      rw [upd_upd, upd_upd] at I6
      refine wpAny_pure ⟨plainId_quiet PySem.F.plain_extend_loop _, go _ I6 (st.at fun o e => ?_)⟩
      exact (Heap.get?_update_ne _ _ _ _ nq).trans ((Heap.get?_update_ne _ _ _ _ nq).trans e)
end
end Sf
end
section
set_option linter.all false
set_option maxRecDepth 100000
set_option maxHeartbeats 2000000
/-! Sf.Own7: list(o) as code; classmethods; classes in slots. -/
namespace Sf
open PySem L2
section
variable {Γ : Gam} {sc : Scope} {E : XK} {sg : Sg}
theorem good_lstO {j : Nat} (hj : Γ.k = j + 2) {p pos : Pos} {a : Expr} {ca : C} {cs : List (Nat × Nat)} (hg : glB sc "list" = true) (hm : Γ.mg "list" = none) (hs : notStar a = true) (hF : ∀ c p, cs.lookup c = some p → LstF { Γ with k := j } c p) (h : Good Γ sc E a (ev sg ca)) :
    Good Γ sc E (.Call (.Name "list" p) [a] [] pos) (ev sg (.lstO cs ca)) := by
  obtain ⟨te, pe, se⟩ := h
  refine ⟨tCB (rLstO { Γ with k := j }) (tCons te tNil), fun X on => ?_, ?_⟩
  · exact pe_callTy (call_lstO hj on.prog on.w on.K on.mg on.base on.calm on.room) (on.gl hg) (by rw [on.mg]; exact hm) (by decide +kernel) (pa1 hs (pe X on)) (by decide +kernel) (by decide +kernel) (starEach_cons hs) rfl
  · refine snd_one (ta := te) (r := fun x H1 Q => rLstO { Γ with k := j } [x] H1 Q) (f := fun ρ x S => Res.of (lstF cs ρ S x) S) se fun σ ρ H0 H G ι S Q x v g s hx p => ?_
    cases v with
    | d d =>
      cases hx with
      | obj h1 h2 h3 =>
        rename_i a dx c fs ds
        replace p : Post Γ.T σ H G ι Q E (Res.of (((cs.lookup c).bind fun p => ds[p]?).bind fun d => (contL ρ S (.d d)).map .fr) S) := p
        cases e1 : cs.lookup c with
        | none => rw [e1] at p; exact p.elim
        | some k =>
          rw [e1] at p
          dsimp only [Option.bind] at p
          cases e2 : ds[k]? with
          | none => rw [e2] at p; exact p.elim
          | some d =>
            rw [e2] at p
            dsimp only at p
            obtain ⟨w, e3, r⟩ := h3.get e2
            cases e4 : contL ρ S (.d d) with
            | none => rw [e4] at p; exact p.elim
            | some xs =>
              rw [e4] at p
              obtain ⟨l, vs, rfl, f2, f3, f4⟩ := contL_rel g s (H0 := H) (x := .d d) r e4
              exact ⟨a, dx, fs, c, k, l, vs, rfl, g.sub _ _ h1, h2, hF c k e1, e3, f2, f3, fun q hn => p (.ref q) (upd H q (.lst vs)) G ι (Step.open' hn) (g.open' hn) ⟨q, vs, rfl, upd_same, f3, f4, g.sub.none hn, fun hm => g.mem hm hn, hn⟩⟩
      | _ => exact p.elim
    | _ => exact p.elim
/-! ### C.m(..), m a classmethod -/
structure CmF (Γ : Gam) (x : Str) (c : Nat) (m : Str) (F : Fn) : Prop where
  at_ : ∃ mc p g, Γ.mg x = some (.ref (Γ.T.cad c)) ∧ ClX.CRead Γ.T.K (Γ.T.cad c) mc ∧ ClX.CMet Γ.T.K (Γ.T.cad c) mc m p g ∧ FR Γ g (spR Γ.T F)
theorem good_cmeth {x m : Str} {p apos pos : Pos} {es : List Expr} {as : Cs} {k c : Nat} {F : Fn} (hk : sg.cm[k]? = some F) (hF : CmF Γ x c m F) (hg : glB sc x = true) (hx : okName x = true) (hs : es.all notStar = true) (hn : es ≠ []) (hl : es.length < 30) (hp : (apos.endLine == pos.line) = true)
    (ha : GoodA Γ sc E es (evs sg as)) : Good Γ sc E (.Call (.Attribute (.Name x p) m apos) es [] pos) (ev sg (.cmeth k c as)) := by
  obtain ⟨ta, pa, sa⟩ := ha
  obtain ⟨mc, pp, g, h1, h2, h3, h4⟩ := hF.at_
  cases es with
  | nil => exact absurd rfl hn
  | cons e r =>
    refine ⟨ClX.tCMeth (Γ.T.cad c) (spR Γ.T F) E (tC (.ref (Γ.T.cad c))) ta, fun X on => ?_, ?_⟩
    · have hs1 := hs
      rw [List.all_cons, Bool.and_eq_true] at hs
      have pc : PE X (.Name x p) (tC (.ref (Γ.T.cad c))) := pe_glob (v := .ref (Γ.T.cad c)) (on.gl hg) (by rw [on.mg]; exact h1) rfl (okName_d hx)
      exact ClX.pe_cmeth pc (by rw [on.K]; exact h2) (by rw [on.K]; exact h3) (on.fr h4) on.room on.pass (pa X on) (starEach_cons hs.1) (by rw [backTo_any]; exact starEach_plain hs.2) (meth_tree rfl hs1 hl hp)
    · intro σ ρ H G ι S Q g0 s p0
      refine ⟨rfl, sa σ ρ H G ι S _ g0 s ?_⟩
      have e : ev sg (.cmeth k c as) ρ S = (evs sg as ρ S).bind fun ds S => F (.cls c :: ds) S := by
        show ((evs sg as ρ S).bind fun ds S => match sg.cm[k]? with
          | some f => f (.cls c :: ds) S
          | none => .bad) = _
        rw [hk]
      rw [e] at p0
      cases ea : evs sg as ρ S with
      | bad => rw [ea] at p0; exact p0.elim
      | ex c fs S' => rw [ea] at p0; exact p0
      | ok ds S1 =>
        rw [ea] at p0
        intro vs H1 G1 ι1 st1 g1 rs
        exact ⟨_, S1, G1, ι1, g1, .cons (.cls c) rs, (Post.mono st1 p0).nil⟩
/-! ### cls(..), cls a slot -/
theorem pe_makeL {X : Cx} (on : On Γ sc E X) {j i : Nat} {C f : Addr} {sp : Sp} {x : Str} {p pos : Pos} {e : Expr} {es : List Expr} {t : TA} (M : Mk X.K C f) (F : FnR X.prog X.w X.K X.mg X.base (L2N.CX X.prog X.w) j f sp) (hr : Room (j + 1) X.A) (pv : PE X (.Name x p) (tVar i)) (ha : PA X (e :: es) t) (hs : (e :: es).all notStar = true) :
    PE X (.Call (.Name x p) (e :: es) [] pos) (fun σ H Q => σ[i]? = some (some (.ref C)) ∧ StX.tMakeR C sp E t σ H Q) := by
  refine ⟨fun pins s σ H Q I h => ?_⟩
  obtain ⟨hσ, h⟩ := h
  rw [List.all_cons, Bool.and_eq_true] at hs
  refine PyProof.Rows.Call_ (thn (pv.run pins s σ H (fun y H1 => y = .ref C ∧ H1 = H) I ⟨_, hσ, rfl, rfl⟩) fun u s1 ⟨y, H1, I1, ry, ey, eH⟩ => ?_) rfl
  subst ey eH
  obtain rfl : u = Value.ref C := ry
  refine PySem.W.callWith_K (h₀ := X.base) I1.ok.mod.kin M.kp (thn (ha.run pos pins s1 σ _ _ I1 h) fun us s2 ⟨vs, H2, I2, r, q2⟩ => ⟨I2.kIn, ?_⟩) (starEach_cons hs.1) (by rw [backTo_any]; exact starEach_plain hs.2)
  exact StX.run_makeR M F hr on.pass I2 r q2
theorem good_mkv {x y : Str} {p pos : Pos} {es : List Expr} {as : Cs} {i k c : Nat} {F : List D → Hs → Res (List D)} (hk : sg.ma[k]? = some (c, makeF c F)) (hroom : ∃ j, Γ.k = j + 1 ∧ MkF { Γ with k := j } y c F) (hN : Γ.N[i]? = some x) (hv : visB sc x = true) (hx : okName x = true) (hs : es.all notStar = true) (hn : es ≠ [])
    (ha : GoodA Γ sc E es (evs sg as)) : Good Γ sc E (.Call (.Name x p) es [] pos) (ev sg (.mkv i k as)) := by
  obtain ⟨ta, pa, sa⟩ := ha
  obtain ⟨j, hj, hF2⟩ := hroom
  obtain ⟨f, hok, hm, hmk, hl⟩ := hF2.at_
  cases es with
  | nil => exact absurd rfl hn
  | cons a r =>
    refine ⟨fun σ H Q => σ[i]? = some (some (.ref (Γ.T.cad c))) ∧ StX.tMakeR (Γ.T.cad c) (spInit Γ.T c F) E ta σ H Q, fun X on => ?_, ?_⟩
    · have hr : Room (j + 1) X.A := by rw [← hj]; exact on.room
      exact pe_makeL on (by rw [on.K]; exact hmk) (by rw [on.prog, on.w, on.K, on.mg, on.base]; exact hok) hr (pe_var (by rw [on.N]; exact hN) (by rw [on.sc]; exact vis_of hv) (okName_d hx) (okName_c hx)) (pa X on) hs
    · have sm := snd_make (Γ := Γ) (E := E) hl sa
      intro σ ρ H G ι S Q g s p0
      have e : ev sg (.mkv i k as) ρ S = match ρ[i]? with
        | some (.va (.cls q)) => (match sg.ma[k]? with
          | some (z, f) => if z = q then (evs sg as ρ S).bind fun ds S => f ds S else .bad
          | none => .bad)
        | _ => .bad := rfl
      rw [e, hk] at p0
      cases hr : ρ[i]? with
      | none => rw [hr] at p0; exact p0.elim
      | some sl =>
        rw [hr] at p0
        cases sl with
        | va d =>
          cases d with
          | cls q =>
            dsimp only at p0
            by_cases hq : c = q
            · subst hq
              obtain ⟨v, e1, e2⟩ := s.va i _ hr
              cases e2
              rw [if_pos rfl] at p0
              exact ⟨e1, sm σ ρ H G ι S Q g s p0⟩
            · rw [if_neg hq] at p0
              exact p0.elim
          | _ => exact p0.elim
        | _ => exact p0.elim
end
end Sf
end
section
set_option linter.all false
set_option maxRecDepth 100000
/-! Sf.Run: the meaning, step by step. -/
namespace Sf
open PySem
theorem Res.bind_lazy {α β : Type} {r r' : Res α} {f : α → Hs → Res β} (h : r = r') : r.bind f = r'.bind f := by rw [h]
theorem Res.out_lazy {α : Type} {r r' : Res α} {f : α → Hs → Out} (h : r = r') : r.out f = r'.out f := by rw [h]
def Out.seq : Out → (Rho → Hs → Out) → Out
  | .nx ρ S, f => f ρ S
  | o, _ => o
theorem Out.seq_lazy {o o' : Out} {f : Rho → Hs → Out} (h : o = o') : o.seq f = o'.seq f := by rw [h]
section
variable {G : Sg} {ρ : Rho} {S : Hs} {a b c : C} {i j : Nat}
theorem seq_nx {f : Rho → Hs → Out} : (Out.nx ρ S).seq f = f ρ S := rfl
theorem seq_rt {f : Rho → Hs → Out} {v : Val} : (Out.rt v S).seq f = .rt v S := rfl
theorem execs_nil : Sf.execs G .nil ρ S = .nx ρ S := by simp only [Sf.execs]
theorem execs_cons {s : Sx} {r : Ss} : Sf.execs G (.cons s r) ρ S = (Sf.exec G s ρ S).seq fun ρ S => Sf.execs G r ρ S := by
  rw [Sf.execs]
  cases Sf.exec G s ρ S <;> rfl
/-- a test's branches -/
def brB (x : Val) (f g : Out) : Out := match x with
  | .d (.bl true) => f
  | .d (.bl false) => g
  | _ => .bad
theorem brB_t {f g : Out} : brB (.d (.bl true)) f g = f := rfl
theorem brB_f {f g : Out} : brB (.d (.bl false)) f g = g := rfl
theorem brB_lazy {x x' : Val} {f g : Out} (h : x = x') : brB x f g = brB x' f g := by rw [h]
theorem exec_ite {p q : Ss} : Sf.exec G (.ite c p q) ρ S = (ev G c ρ S).out fun x S => brB x (Sf.execs G p ρ S) (Sf.execs G q ρ S) := by
  rw [Sf.exec]
  rfl
theorem exec_set {e : C} : Sf.exec G (.set i e) ρ S = (ev G e ρ S).out fun x S => match x.toD with
    | some d => .nx (ρ.set i (.va d)) S
    | none => .bad := by rw [Sf.exec] <;> rfl
theorem exec_setA {e : C} : Sf.exec G (.setA i e) ρ S = (ev G e ρ S).out fun x S => match x with
    | .fr l => .nx (ρ.set i (.ac l)) S
    | _ => .bad := by rw [Sf.exec] <;> rfl
theorem exec_setC {e : C} : Sf.exec G (.setC i e) ρ S = (ev G e ρ S).out fun x S => match x with
    | .fr l => .nx (ρ.set i (.va (.loc S.length))) (S ++ [l])
    | _ => .bad := by rw [Sf.exec] <;> rfl
theorem exec_ret {e : C} : Sf.exec G (.ret e) ρ S = (ev G e ρ S).out fun x S => match x with
    | .ow i => (match ρ[i]? with
      | some (.ac l) => .rt (.fr l) S
      | _ => .bad)
    | v => .rt v S := by rw [Sf.exec] <;> rfl
theorem ev_int {k : Int} : ev G (.int k) ρ S = .ok (.d (.int k)) S := by rw [ev]
theorem ev_bl {k : Bool} : ev G (.bl k) ρ S = .ok (.d (.bl k)) S := by rw [ev]
theorem ev_str {k : Str} : ev G (.str k) ρ S = .ok (.d (.str k)) S := by rw [ev]
theorem ev_non : ev G .non ρ S = .ok (.d .non) S := by rw [ev]
theorem ev_va {x : D} (h : ρ[i]? = some (.va x)) : ev G (.var i) ρ S = .ok (.d x) S := by rw [ev, h]
theorem ev_ac {l : List D} (h : ρ[i]? = some (.ac l)) : ev G (.var i) ρ S = .ok (.ow i) S := by rw [ev, h]
theorem ev_ix : ev G (.ix a b) ρ S = (ev G a ρ S).bind fun x S => (ev G b ρ S).bind fun y S => Res.of (ixV ρ S x y) S := by rw [ev]
theorem ev_bin {op : Operator} : ev G (.bin op a b) ρ S = (ev G a ρ S).bind fun x S => (ev G b ρ S).bind fun y S => Res.of (binV op ρ S x y) S := by rw [ev]
theorem ev_cmp {op : CmpOp} : ev G (.cmp op a b) ρ S = (ev G a ρ S).bind fun x S => (ev G b ρ S).bind fun y S => Res.of ((cmpV op ρ S x y).map fun c => .d (.bl c)) S := by rw [ev]
/-- a test within an expression -/
def brV (x : Val) (f g : Res Val) : Res Val := match x with
  | .d (.bl true) => f
  | .d (.bl false) => g
  | _ => .bad
theorem brV_t {f g : Res Val} : brV (.d (.bl true)) f g = f := rfl
theorem brV_f {f g : Res Val} : brV (.d (.bl false)) f g = g := rfl
theorem brV_lazy {x x' : Val} {f g : Res Val} (h : x = x') : brV x f g = brV x' f g := by rw [h]
theorem ev_and : ev G (.and a b) ρ S = (ev G a ρ S).bind fun x S => brV x (ev G b ρ S) (.ok (.d (.bl false)) S) := by rw [ev]; rfl
theorem ev_or : ev G (.or a b) ρ S = (ev G a ρ S).bind fun x S => brV x (.ok (.d (.bl true)) S) (ev G b ρ S) := by
  rw [ev]
  congr 1
  funext x S
  cases x with
  | d d =>
    cases d with
    | bl k => cases k <;> rfl
    | _ => rfl
  | _ => rfl
theorem ev_ite : ev G (.ite c a b) ρ S = (ev G c ρ S).bind fun x S => brV x (ev G a ρ S) (ev G b ρ S) := by rw [ev]; rfl
theorem ev_not {k : Bool} {S' : Hs} (h : ev G a ρ S = .ok (.d (.bl k)) S') : ev G (.not a) ρ S = .ok (.d (.bl (!k))) S' := by rw [ev, h]; rfl
/-- a write into a mutable list: by its place -/
def putL (ρ : Rho) (S : Hs) (n : Nat) (k : Int) (x : Val) : Out := match x.toD with
  | some d => (match S[n]? with
    | some l => (match L2.ixN l.length k with
      | some j => .nx ρ (S.set n (l.set j d))
      | none => .bad)
    | none => .bad)
  | none => .bad
theorem exec_setLoc {o n : Nat} {k : Int} {e : C} (hv : ρ[o]? = some (.va (.loc n))) : Sf.exec G (.setLoc (.var o) (.int k) e) ρ S = (ev G e ρ S).out fun x S => putL ρ S n k x := by
  rw [Sf.exec]
  congr 1
  funext x S
  unfold putL
  cases x.toD with
  | none => rfl
  | some d =>
    dsimp only
    rw [ev_va hv, Res.out_ok]
    dsimp only
    rw [ev_int, Res.out_ok] <;> rfl
theorem putL_of {n : Nat} {k : Int} {d : D} {l : List D} {j : Nat} (hS : S[n]? = some l) (hj : L2.ixN l.length k = some j) : putL ρ S n k (.d d) = .nx ρ (S.set n (l.set j d)) := by
  unfold putL
  rw [toD_d, hS]
  dsimp only
  rw [hj]
theorem ix_loc {n : Nat} {i : Int} {l : List D} {d : D} (hS : S[n]? = some l) (h : L2.atI l i = some d) : ixV ρ S (.d (.loc n)) (.d (.int i)) = some (.d d) := by
  show (match cont ρ S (.d (.loc n)) with
    | some l => (L2.atI l i).map Val.d
    | none => none) = _
  rw [show cont ρ S (.d (.loc n)) = S[n]? from rfl, hS]
  dsimp only
  rw [h]; rfl
theorem ix_lst {i : Int} {l : List D} {d : D} (h : L2.atI l i = some d) : ixV ρ S (.d (.lst l)) (.d (.int i)) = some (.d d) := by
  show (L2.atI l i).map Val.d = _
  rw [h]; rfl
theorem ix_tup {i : Int} {l : List D} {d : D} (h : L2.atI l i = some d) : ixV ρ S (.d (.tup l)) (.d (.int i)) = some (.d d) := by
  show (L2.atI l i).map Val.d = _
  rw [h]; rfl
/-! equations from what the parts give -/
theorem E_ix {S1 S2 : Hs} {x y z : Val} (ha : ev G a ρ S = .ok x S1) (hb : ev G b ρ S1 = .ok y S2) (h : ixV ρ S2 x y = some z) : ev G (.ix a b) ρ S = .ok z S2 := by rw [ev_ix, ha, Res.bind_ok, hb, Res.bind_ok, h]; rfl
theorem E_bin {op : Operator} {S1 S2 : Hs} {x y z : Val} (ha : ev G a ρ S = .ok x S1) (hb : ev G b ρ S1 = .ok y S2) (h : binV op ρ S2 x y = some z) : ev G (.bin op a b) ρ S = .ok z S2 := by rw [ev_bin, ha, Res.bind_ok, hb, Res.bind_ok, h]; rfl
theorem E_cmp {op : CmpOp} {S1 S2 : Hs} {x y : Val} {k : Bool} (ha : ev G a ρ S = .ok x S1) (hb : ev G b ρ S1 = .ok y S2) (h : cmpV op ρ S2 x y = some k) : ev G (.cmp op a b) ρ S = .ok (.d (.bl k)) S2 := by rw [ev_cmp, ha, Res.bind_ok, hb, Res.bind_ok, h]; rfl
theorem E_andT {S1 : Hs} (ha : ev G a ρ S = .ok (.d (.bl true)) S1) : ev G (.and a b) ρ S = ev G b ρ S1 := by rw [ev_and, ha, Res.bind_ok]; rfl
theorem E_andF {S1 : Hs} (ha : ev G a ρ S = .ok (.d (.bl false)) S1) : ev G (.and a b) ρ S = .ok (.d (.bl false)) S1 := by rw [ev_and, ha, Res.bind_ok]; rfl
theorem E_orF {S1 : Hs} (ha : ev G a ρ S = .ok (.d (.bl false)) S1) : ev G (.or a b) ρ S = ev G b ρ S1 := by rw [ev_or, ha, Res.bind_ok]; rfl
theorem E_orT {S1 : Hs} (ha : ev G a ρ S = .ok (.d (.bl true)) S1) : ev G (.or a b) ρ S = .ok (.d (.bl true)) S1 := by rw [ev_or, ha, Res.bind_ok]; rfl
theorem evv_nil : evv G .nil ρ S = .ok [] S := by rw [evv]
theorem evv_one {S1 : Hs} {x : Val} (ha : ev G a ρ S = .ok x S1) : evv G (.cons a .nil) ρ S = .ok [x] S1 := by rw [evv, ha, Res.bind_ok, evv_nil]; rfl
theorem E_blt {f : Bf} {as : Cs} {S1 : Hs} {vs : List Val} {z : Val} (ha : evv G as ρ S = .ok vs S1) (h : bltV f ρ S1 vs = some z) : ev G (.blt f as) ρ S = .ok z S1 := by rw [ev, ha, Res.bind_ok, h]; rfl
theorem X_set {e : C} {S1 : Hs} {x : Val} {d : D} (he : ev G e ρ S = .ok x S1) (hd : x.toD = some d) : Sf.exec G (.set i e) ρ S = .nx (ρ.set i (.va d)) S1 := by rw [exec_set, he, Res.out_ok, hd]
theorem X_setLoc {o n : Nat} {k : Int} {e : C} {S1 : Hs} {d : D} {l : List D} {j : Nat} (hv : ρ[o]? = some (.va (.loc n))) (he : ev G e ρ S = .ok (.d d) S1) (hS : S1[n]? = some l) (hj : L2.ixN l.length k = some j) : Sf.exec G (.setLoc (.var o) (.int k) e) ρ S = .nx ρ (S1.set n (l.set j d)) := by
  rw [exec_setLoc hv, he, Res.out_ok, putL_of hS hj]
theorem X_iteT {p q : Ss} {S1 : Hs} (hc : ev G c ρ S = .ok (.d (.bl true)) S1) : Sf.exec G (.ite c p q) ρ S = Sf.execs G p ρ S1 := by rw [exec_ite, hc, Res.out_ok]; rfl
theorem X_iteF {p q : Ss} {S1 : Hs} (hc : ev G c ρ S = .ok (.d (.bl false)) S1) : Sf.exec G (.ite c p q) ρ S = Sf.execs G q ρ S1 := by rw [exec_ite, hc, Res.out_ok]; rfl
theorem X_ret {e : C} {S1 : Hs} {d : D} (he : ev G e ρ S = .ok (.d d) S1) : Sf.exec G (.ret e) ρ S = .rt (.d d) S1 := by rw [exec_ret, he, Res.out_ok]
theorem Xs_cons {s : Sx} {r : Ss} {ρ' : Rho} {S1 : Hs} {o : Out} (h : Sf.exec G s ρ S = .nx ρ' S1) (hr : Sf.execs G r ρ' S1 = o) : Sf.execs G (.cons s r) ρ S = o := by rw [execs_cons, h]; exact hr
theorem Xs_rt {s : Sx} {r : Ss} {v : Val} {S1 : Hs} (h : Sf.exec G s ρ S = .rt v S1) : Sf.execs G (.cons s r) ρ S = .rt v S1 := by rw [execs_cons, h]; rfl
theorem run_rt {np n : Nat} {p : Ss} {ds : List D} {v : Val} {S' : Hs} (hl : ds.length = np) (h : Sf.execs G p (ds.map .va ++ List.replicate (n - np) .no) S = .rt v S') : runDef G np n p ds S = .ok v S' := by
  unfold runDef
  rw [if_pos hl, h]
theorem run_nx {np n : Nat} {p : Ss} {ds : List D} {ρ' : Rho} {S' : Hs} (hl : ds.length = np) (h : Sf.execs G p (ds.map .va ++ List.replicate (n - np) .no) S = .nx ρ' S') : runDef G np n p ds S = .ok (.d .non) S' := by
  unfold runDef
  rw [if_pos hl, h]
theorem run_star {np n : Nat} {p : Ss} {ds : List D} {r : Res Val} (h1 : np ≤ ds.length) (h2 : ds.length ≤ big) (h : runDef G (np + 1) n p (ds.take np ++ [.tup (ds.drop np)]) S = r) : runStar G np n p ds S = r := by
  unfold runStar
  rw [if_pos ⟨h1, h2⟩, h]
theorem run_init {np n k nf : Nat} {p : Ss} {ds : List D} {ρ' : Rho} {S' : Hs} {l : List D} (hl : ds.length = np) (h : Sf.execs G p (.ini k [] :: (ds.map .va ++ List.replicate (n - np) .no)) S = .nx ρ' S') (h0 : ρ'[0]? = some (.ini k l)) (hn : l.length = nf) : runInit G np n k nf p ds S = .ok l S' := by
  unfold runInit
  rw [if_pos hl, h]
  dsimp only
  rw [h0]
  exact if_pos ⟨rfl, hn⟩
/-! calls -/
theorem evs_nil : evs G .nil ρ S = .ok [] S := by rw [evs]
theorem evs_cons {r : Cs} {S1 S2 : Hs} {x : Val} {d : D} {ds : List D} (ha : ev G a ρ S = .ok x S1) (hd : x.toD = some d) (hr : evs G r ρ S1 = .ok ds S2) : evs G (.cons a r) ρ S = .ok (d :: ds) S2 := by
  rw [evs, ha, Res.bind_ok, hd]
  dsimp only
  rw [hr]; rfl
theorem E_call {k : Nat} {as : Cs} {S1 : Hs} {ds : List D} {F : Fn} {r : Res Val} (hk : G.fn[k]? = some F) (ha : evs G as ρ S = .ok ds S1) (h : F ds S1 = r) : ev G (.call k as) ρ S = r := by
  rw [ev, ha, Res.bind_ok, hk]; exact h
theorem E_make {k q : Nat} {as : Cs} {S1 S2 : Hs} {ds fs : List D} {F : List D → Hs → Res (List D)} (hk : G.ma[k]? = some (q, makeF q F)) (ha : evs G as ρ S = .ok ds S1) (h : F ds S1 = .ok fs S2) : ev G (.make k as) ρ S = .ok (.d (.obj q fs)) S2 := by
  rw [ev, ha, Res.bind_ok, hk]
  show (F ds S1).bind _ = _
  rw [h]; rfl
theorem E_meth {k q : Nat} {o : C} {as : Cs} {S1 S2 : Hs} {fs ds : List D} {F : Fn} {r : Res Val} (ho : ev G o ρ S = .ok (.d (.obj q fs)) S1) (hk : meL G k (.obj q fs) = some F) (ha : evs G as ρ S1 = .ok ds S2) (h : F (.obj q fs :: ds) S2 = r) : ev G (.meth k o as) ρ S = r := by
  rw [ev, ho, Res.bind_ok]
  dsimp only
  rw [hk]
  dsimp only
  rw [ha]; exact h
theorem E_opm {k q : Nat} {R : List (Option Nat)} {S1 S2 : Hs} {fs : List D} {y : D} {F : Fn} {r : Res Val} (ha : ev G a ρ S = .ok (.d (.obj q fs)) S1) (hb : ev G b ρ S1 = .ok (.d y) S2) (hR : rhsB R y = true) (hk : meL G k (.obj q fs) = some F) (h : F [.obj q fs, y] S2 = r) : ev G (.opm k R a b) ρ S = r := by
  rw [ev, ha, Res.bind_ok, hb, Res.bind_ok]
  dsimp only
  rw [if_pos hR]
  unfold meR
  rw [hk]; exact h
theorem E_unm {k q : Nat} {S1 : Hs} {fs : List D} {F : Fn} {r : Res Val} (ha : ev G a ρ S = .ok (.d (.obj q fs)) S1) (hk : meL G k (.obj q fs) = some F) (h : F [.obj q fs] S1 = r) : ev G (.unm k a) ρ S = r := by
  rw [ev, ha, Res.bind_ok]
  dsimp only
  unfold meR
  rw [hk]; exact h
theorem E_fld {f : Str} {cs : List (Nat × Nat)} {q p : Nat} {S1 : Hs} {fs : List D} {d : D} (ha : ev G a ρ S = .ok (.d (.obj q fs)) S1) (hc : cs.lookup q = some p) (hd : fs[p]? = some d) : ev G (.fld f cs a) ρ S = .ok (.d d) S1 := by
  rw [ev, ha, Res.bind_ok]
  dsimp only
  rw [hc]
  dsimp only [Option.bind]
  rw [hd]; rfl
/-! comprehensions whose turns leave the lists alone -/
theorem comp_map {f : D → Hs → Res (Option D)} {g : D → D} : ∀ {l acc : List D}, (∀ x ∈ l, f x S = .ok (some (g x)) S) → compGo none f l S acc = .ok (.fr (acc ++ l.map g)) S
  | [], acc, _ => by rw [compGo]; simp
  | x :: r, acc, h => by
    rw [compGo, h x (by simp)]
    dsimp only
    rw [if_pos (show held none S S from fun n e => nomatch e), comp_map fun y hy => h y (by simp [hy])]
    simp
theorem comp_filter {f : D → Hs → Res (Option D)} {g : D → Option D} : ∀ {l acc : List D}, (∀ x ∈ l, f x S = .ok (g x) S) → compGo none f l S acc = .ok (.fr (acc ++ l.filterMap g)) S
  | [], acc, _ => by rw [compGo]; simp
  | x :: r, acc, h => by
    have ih : ∀ acc, compGo none f r S acc = .ok (.fr (acc ++ r.filterMap g)) S := fun acc => comp_filter fun y hy => h y (by simp [hy])
    rw [compGo, h x (by simp)]
    dsimp only
    rw [if_pos (show held none S S from fun n e => nomatch e), List.filterMap_cons]
    cases g x with
    | none => exact ih acc
    | some y => dsimp only; rw [ih]; simp
/-! comprehensions whose turns change the lists, under an invariant -/
theorem comp_st {Iv : Hs → Prop} {P : D → Prop} {f : D → Hs → Res (Option D)} : ∀ {l : List D}, (∀ x ∈ l, ∀ S, Iv S → ∃ y S', f x S = .ok (some y) S' ∧ Iv S' ∧ P y) → ∀ {S : Hs} {acc : List D}, Iv S →
    ∃ ys S', compGo none f l S acc = .ok (.fr (acc ++ ys)) S' ∧ Iv S' ∧ (∀ y ∈ ys, P y) ∧ ys.length = l.length
  | [], _, S, acc, hi => ⟨[], S, by rw [compGo]; simp, hi, (fun _ h => by simp at h), rfl⟩
  | x :: r, h, S, acc, hi => by
    obtain ⟨y, S1, e1, i1, p1⟩ := h x (by simp) S hi
    obtain ⟨ys, S2, e2, i2, p2, hl⟩ := comp_st (l := r) (fun z hz => h z (by simp [hz])) (S := S1) (acc := acc ++ [y]) i1
    refine ⟨y :: ys, S2, ?_, i2, fun z hz => ?_, by simp [hl]⟩
    · rw [compGo, e1]
      dsimp only
      rw [if_pos (show held none S S1 from fun n e => nomatch e), e2]
      simp
    · rcases List.mem_cons.mp hz with rfl | hz
      · exact p1
      · exact p2 z hz
theorem comp_stF {Iv : Hs → Prop} {f : D → Hs → Res (Option D)} : ∀ {l : List D}, (∀ x ∈ l, ∀ S, Iv S → ∃ o S', f x S = .ok o S' ∧ Iv S' ∧ (o = some x ∨ o = none)) → ∀ {S : Hs} {acc : List D}, Iv S →
    ∃ ys S', compGo none f l S acc = .ok (.fr (acc ++ ys)) S' ∧ Iv S' ∧ ys.Sublist l
  | [], _, S, acc, hi => ⟨[], S, by rw [compGo]; simp, hi, .slnil⟩
  | x :: r, h, S, acc, hi => by
    obtain ⟨o, S1, e1, i1, p1⟩ := h x (by simp) S hi
    rcases p1 with rfl | rfl
    · obtain ⟨ys, S2, e2, i2, p2⟩ := comp_stF (l := r) (fun z hz => h z (by simp [hz])) (S := S1) (acc := acc ++ [x]) i1
      refine ⟨x :: ys, S2, ?_, i2, p2.cons₂ x⟩
      rw [compGo, e1]
      dsimp only
      rw [if_pos (show held none S S1 from fun n e => nomatch e), e2]
      simp
    · obtain ⟨ys, S2, e2, i2, p2⟩ := comp_stF (l := r) (fun z hz => h z (by simp [hz])) (S := S1) (acc := acc) i1
      refine ⟨ys, S2, ?_, i2, p2.cons x⟩
      rw [compGo, e1]
      dsimp only
      rw [if_pos (show held none S S1 from fun n e => nomatch e), e2]
theorem E_comp {t : Tg} {own : List Nat} {it : I} {S1 S2 : Hs} {l ys : List D} {f : D → Hs → Res (Option D)} (hi : evI G true it ρ S = .ok (l, none) S1)
    (hf : ∀ x S, (match setTg t x (wipeR ρ own) with
      | some ρ' => (ev G a ρ' S).bind fun y S => match y.toD with
        | some y => .ok (some y) S
        | none => .bad
      | none => .bad) = f x S) (h : compGo none f l S1 [] = .ok (.fr ys) S2) : ev G (.comp t own it a) ρ S = .ok (.fr ys) S2 := by
  rw [ev, hi, Res.bind_ok]
  rw [← h]
  congr 1
  funext x S
  exact hf x S
theorem E_compIf {t : Tg} {own : List Nat} {it : I} {S1 S2 : Hs} {l ys : List D} {f : D → Hs → Res (Option D)} (hi : evI G true it ρ S = .ok (l, none) S1)
    (hf : ∀ x S, (match setTg t x (wipeR ρ own) with
      | some ρ' => (ev G c ρ' S).bind fun b S => match b with
        | .d (.bl true) => (ev G a ρ' S).bind fun y S => match y.toD with
          | some y => .ok (some y) S
          | none => .bad
        | .d (.bl false) => .ok none S
        | _ => .bad
      | none => .bad) = f x S) (h : compGo none f l S1 [] = .ok (.fr ys) S2) : ev G (.compIf t own it c a) ρ S = .ok (.fr ys) S2 := by
  rw [ev, hi, Res.bind_ok]
  rw [← h]
  congr 1
  funext x S
  exact hf x S
theorem I_rng1 {S1 : Hs} {n : Int} {fx : Bool} {l : List D} (ha : ev G a ρ S = .ok (.d (.int n)) S1) (h : rng 0 n = some l) : evI G fx (.rng1 a) ρ S = .ok (l, none) S1 := by
  rw [evI, ha, Res.bind_ok]
  dsimp only
  rw [h]; rfl
theorem I_lst {S1 : Hs} {fx : Bool} {l : List D} (ha : ev G a ρ S = .ok (.d (.lst l)) S1) : evI G fx (.seq a) ρ S = .ok (l, none) S1 := by
  rw [evI, ha, Res.bind_ok]; rfl
theorem I_tup {S1 : Hs} {fx : Bool} {l : List D} (ha : ev G a ρ S = .ok (.d (.tup l)) S1) : evI G fx (.seq a) ρ S = .ok (l, none) S1 := by
  rw [evI, ha, Res.bind_ok]; rfl
theorem I_fr {S1 : Hs} {fx : Bool} {l : List D} (ha : ev G a ρ S = .ok (.fr l) S1) : evI G fx (.seq a) ρ S = .ok (l, none) S1 := by
  rw [evI, ha, Res.bind_ok]; rfl
theorem rng_ok {n : Int} (h0 : 0 ≤ n) (h1 : n ≤ 65536) : rng 0 n = some (rngL 0 n.toNat) := by
  unfold rng
  rw [if_pos ⟨by omega, by omega, by omega, by omega, by unfold big; omega⟩]
  rw [Int.sub_zero]
theorem rngL_mem {k : Nat} {x : D} (h : x ∈ rngL 0 k) : ∃ i : Int, x = .int i ∧ 0 ≤ i ∧ i < k := by
  unfold rngL at h
  obtain ⟨i, hi, rfl⟩ := List.mem_map.mp h
  exact ⟨i, by rw [Int.zero_add], by omega, by have := List.mem_range.mp hi; omega⟩
theorem X_retF {e : C} {S1 : Hs} {l : List D} (he : ev G e ρ S = .ok (.fr l) S1) : Sf.exec G (.ret e) ρ S = .rt (.fr l) S1 := by rw [exec_ret, he, Res.out_ok]
theorem E_join {S1 S2 : Hs} {x : Str} {y z : Val} (ha : ev G a ρ S = .ok (.d (.str x)) S1) (hb : ev G b ρ S1 = .ok y S2) (h : joinV ρ S2 (.d (.str x)) y = some z) : ev G (.join a b) ρ S = .ok z S2 := by
  rw [ev, ha, Res.bind_ok]
  dsimp only
  rw [hb, Res.bind_ok, h]; rfl
theorem E_lst {as : Cs} {S1 : Hs} {ds : List D} (h : evs G as ρ S = .ok ds S1) : ev G (.lst as) ρ S = .ok (.fr ds) S1 := by rw [ev, h]; rfl
theorem E_tup {as : Cs} {S1 : Hs} {ds : List D} (h : evs G as ρ S = .ok ds S1) : ev G (.tup as) ρ S = .ok (.d (.tup ds)) S1 := by rw [ev, h]; rfl
theorem E_chnT {op op' : CmpOp} {S1 S2 S3 : Hs} {x y z : Val} {k : Bool} (ha : ev G a ρ S = .ok x S1) (hb : ev G b ρ S1 = .ok y S2) (h1 : cmpV op ρ S2 x y = some true) (hc : ev G c ρ S2 = .ok z S3) (h2 : cmpV op' ρ S3 y z = some k) : ev G (.chn op op' a b c) ρ S = .ok (.d (.bl k)) S3 := by
  rw [ev, ha, Res.bind_ok, hb, Res.bind_ok, h1]
  dsimp only
  rw [hc, Res.bind_ok, h2]; rfl
theorem E_chnF {op op' : CmpOp} {S1 S2 : Hs} {x y : Val} (ha : ev G a ρ S = .ok x S1) (hb : ev G b ρ S1 = .ok y S2) (h1 : cmpV op ρ S2 x y = some false) : ev G (.chn op op' a b c) ρ S = .ok (.d (.bl false)) S2 := by
  rw [ev, ha, Res.bind_ok, hb, Res.bind_ok, h1]
theorem E_strm {m : Sm} {S1 : Hs} {x : Str} (ha : ev G a ρ S = .ok (.d (.str x)) S1) : ev G (.strm m a) ρ S = .ok (.d (.bl (smV m x))) S1 := by rw [ev, ha, Res.bind_ok]
theorem E_gcon {x f : Str} {k : Int} : ev G (.gcon x f k) ρ S = .ok (.d (.int k)) S := by rw [ev]
theorem E_lenSet {S1 : Hs} {x z : Val} (ha : ev G a ρ S = .ok x S1) (h : lenSetV ρ S1 x = some z) : ev G (.lenSet a) ρ S = .ok z S1 := by rw [ev, ha, Res.bind_ok, h]; rfl
theorem E_srtSet {S1 : Hs} {x z : Val} (ha : ev G a ρ S = .ok x S1) (h : srtSetV x = some z) : ev G (.srtSet a) ρ S = .ok z S1 := by rw [ev, ha, Res.bind_ok, h]; rfl
theorem E_lrg {S1 : Hs} {n : Int} {l : List D} (ha : ev G a ρ S = .ok (.d (.int n)) S1) (h : rng 0 n = some l) : ev G (.lrg a) ρ S = .ok (.fr l) S1 := by
  rw [ev, ha, Res.bind_ok]
  dsimp only
  rw [h]; rfl
theorem E_isi {t : Tk} {cs : List Nat} {S1 : Hs} {x : Val} {k : Kd} (ha : ev G a ρ S = .ok x S1) (h : kind x = some k) (hk : kdIn cs k = true) : ev G (.isi t cs a) ρ S = .ok (.d (.bl (isK t k))) S1 := by
  rw [ev, ha, Res.bind_ok, h]
  dsimp only [Option.bind]
  rw [if_pos hk]; rfl
theorem E_inO {neg : Bool} {k q : Nat} {S1 S2 S3 : Hs} {x : D} {fs : List D} {F : Fn} {r : Bool} (ha : ev G a ρ S = .ok (.d x) S1) (hb : ev G b ρ S1 = .ok (.d (.obj q fs)) S2) (hk : meL G k (.obj q fs) = some F) (h : F [.obj q fs, x] S2 = .ok (.d (.bl r)) S3) : ev G (.inO neg k a b) ρ S = .ok (.d (.bl (neg ^^ r))) S3 := by
  rw [ev, ha, Res.bind_ok, hb, Res.bind_ok]
  dsimp only
  unfold meR
  rw [hk]
  dsimp only
  rw [h]; rfl
theorem E_lenO {k q : Nat} {S1 S2 : Hs} {fs : List D} {F : Fn} {n : Int} (ha : ev G a ρ S = .ok (.d (.obj q fs)) S1) (hk : meL G k (.obj q fs) = some F) (h : F [.obj q fs] S1 = .ok (.d (.int n)) S2) (hn : 0 ≤ n ∧ n < 2 ^ 63) : ev G (.lenO k a) ρ S = .ok (.d (.int n)) S2 := by
  rw [ev, ha, Res.bind_ok]
  dsimp only
  unfold meR
  rw [hk]
  dsimp only
  rw [h, Res.bind_ok]
  exact if_pos hn
/-- a for whose turns keep an invariant of the slots and the lists -/
theorem for_st {J : Nat → Rho → Hs → Prop} {f : D → Rho → Hs → Out} : ∀ {l : List D} {i : Nat} {ρ : Rho} {S : Hs}, (∀ (j : Nat) (x : D) (ρ : Rho) (S : Hs), l[j]? = some x → J (i + j) ρ S → ∃ ρ' S', f x ρ S = .nx ρ' S' ∧ J (i + j + 1) ρ' S') → J i ρ S →
    ∃ ρ' S', forGo none f l ρ S = .nx ρ' S' ∧ J (i + l.length) ρ' S'
  | [], i, ρ, S, _, h => ⟨ρ, S, by rw [forGo], h⟩
  | x :: r, i, ρ, S, hf, h => by
    obtain ⟨ρ1, S1, e1, j1⟩ := hf 0 x ρ S rfl h
    obtain ⟨ρ2, S2, e2, j2⟩ := for_st (J := J) (f := f) (l := r) (i := i + 1) (ρ := ρ1) (S := S1) (fun j y ρ S hj hJ => by
      have q := hf (j + 1) y ρ S (by simpa using hj) (by rw [show i + (j + 1) = i + 1 + j by omega]; exact hJ)
      rw [show i + (j + 1) = i + 1 + j by omega] at q
      exact q) j1
    refine ⟨ρ2, S2, ?_, by rw [List.length_cons, show i + (r.length + 1) = i + 1 + r.length by omega]; exact j2⟩
    rw [forGo, e1]
    dsimp only
    rw [if_pos (show held none S S1 from fun n e => nomatch e), e2]
theorem X_for {t : Tg} {it : I} {p : Ss} {S1 : Hs} {l : List D} {gd : Option Nat} {o : Out} (hi : evI G false it ρ S = .ok (l, gd) S1) (h : forGo gd (fun x ρ S => match setTg t x ρ with
    | some ρ' => Sf.execs G p ρ' S
    | none => .bad) l ρ S1 = o) : Sf.exec G (.forS t it p) ρ S = o := by
  rw [Sf.exec, hi, Res.out_ok]; exact h
theorem X_app {e : C} {l : List D} {S1 : Hs} {x : Val} {d : D} (hr : ρ[i]? = some (.ac l)) (he : ev G e ρ S = .ok x S1) (hd : x.toD = some d) (hl : l.length < big) : Sf.exec G (.app i e) ρ S = .nx (ρ.set i (.ac (l ++ [d]))) S1 := by
  rw [Sf.exec, hr]
  dsimp only
  rw [he, Res.out_ok, hd]
  exact if_pos hl
theorem X_fz {l : List D} (hr : ρ[i]? = some (.ac l)) : Sf.exec G (.fz i) ρ S = .nx (ρ.set i (.va (.lst l))) S := by rw [Sf.exec, hr]
theorem X_setA {e : C} {S1 : Hs} {l : List D} (he : ev G e ρ S = .ok (.fr l) S1) : Sf.exec G (.setA i e) ρ S = .nx (ρ.set i (.ac l)) S1 := by rw [exec_setA, he, Res.out_ok]
theorem X_setC {e : C} {S1 : Hs} {l : List D} (he : ev G e ρ S = .ok (.fr l) S1) : Sf.exec G (.setC i e) ρ S = .nx (ρ.set i (.va (.loc S1.length))) (S1 ++ [l]) := by rw [exec_setC, he, Res.out_ok]
theorem X_fld {k p : Nat} {f : Str} {e : C} {l : List D} {S1 : Hs} {x : Val} {d : D} (hr : ρ[i]? = some (.ini k l)) (hp : l.length = p) (he : ev G e ρ S = .ok x S1) (hd : x.toD = some d) : Sf.exec G (.fldS i k p f e) ρ S = .nx (ρ.set i (.ini k (l ++ [d]))) S1 := by
  rw [Sf.exec, hr]
  dsimp only
  rw [if_pos ⟨rfl, hp⟩, he, Res.out_ok, hd]
theorem X_drop {e : C} {S1 : Hs} {x : Val} (he : ev G e ρ S = .ok x S1) : Sf.exec G (.drop e) ρ S = .nx ρ S1 := by rw [Sf.exec, he, Res.out_ok]
end
end Sf
end
section
set_option linter.all false
set_option maxRecDepth 100000
/-! Sf.Text: names of small letters. -/
namespace Sf
open PySem
def chS (c : Nat) : Str := ⟨#[c]⟩
theorem glue_go : ∀ (r : List Nat) (acc : Array Nat), (r.map chS).foldl (fun acc p => acc ++ (Str.empty).cps ++ p.cps) acc = acc ++ r.toArray
  | [], acc => by simp
  | c :: r, acc => by
    rw [List.map_cons, List.foldl_cons, glue_go r]
    have : (chS c).cps = #[c] := rfl
    rw [this]
    show acc ++ #[] ++ #[c] ++ r.toArray = acc ++ (c :: r).toArray
    apply Array.ext'
    simp
theorem join_ch (cs : List Nat) (h : cs ≠ []) : Txt.join Str.empty (cs.map chS) = ⟨cs.toArray⟩ := by
  cases cs with
  | nil => exact absurd rfl h
  | cons c r =>
    unfold Txt.join Builtin.Str.glued
    show (⟨(r.map chS).foldl (fun acc p => acc ++ (Str.empty).cps ++ p.cps) #[c]⟩ : Str) = _
    rw [glue_go]
    congr 1
    apply Array.ext'
    simp
/-- a name of one to eight small letters -/
structure Letters (x : Str) : Prop where
  lo : 1 ≤ x.cps.size
  hi : x.cps.size ≤ 8
  ch : ∀ c ∈ x.cps.toList, 97 ≤ c ∧ c ≤ 122
theorem letter_facts : ((List.range 26).all fun i => Unicode.isAlpha (97 + i) && Unicode.isLower (97 + i) && !Unicode.isUpper (97 + i) && !Unicode.isTitle (97 + i)) = true := by decide +kernel
theorem letter_ok {c : Nat} (h : 97 ≤ c ∧ c ≤ 122) : Unicode.isAlpha c = true ∧ Unicode.isLower c = true ∧ Unicode.isUpper c = false ∧ Unicode.isTitle c = false := by
  have q := List.all_eq_true.mp letter_facts (c - 97) (List.mem_range.mpr (by omega))
  rw [show 97 + (c - 97) = c by omega] at q
  simp only [Bool.and_eq_true, Bool.not_eq_true'] at q
  exact ⟨q.1.1.1, q.1.1.2, q.1.2, q.2⟩
theorem Letters.alpha {x : Str} (h : Letters x) : Txt.isalpha x = true := by
  unfold Txt.isalpha
  rw [Bool.and_eq_true]
  refine ⟨decide_eq_true h.lo, ?_⟩
  rw [← Array.all_toList, List.all_eq_true]
  exact fun c hc => (letter_ok (h.ch c hc)).1
theorem Letters.lower {x : Str} (h : Letters x) : Txt.islower x = true := by
  unfold Txt.islower
  rw [Bool.and_eq_true]
  constructor
  · rw [← Array.any_toList, List.any_eq_true]
    obtain ⟨xs⟩ := x
    have hl : 0 < xs.toList.length := h.lo
    exact ⟨xs.toList[0], List.getElem_mem hl, (letter_ok (h.ch _ (List.getElem_mem hl))).2.1⟩
  · rw [Bool.not_eq_true', ← Array.any_toList, List.any_eq_false]
    intro c hc
    have q := letter_ok (h.ch c hc)
    rw [q.2.2.1, q.2.2.2]
    decide
theorem Letters.ok {x : Str} (h : Letters x) : PyData.strOk x = true := by
  unfold PyData.strOk
  rw [← Array.all_toList, List.all_eq_true]
  exact fun c hc => decide_eq_true (by have := h.ch c hc; omega)
/-! data that == takes -/
theorem eqV_int {ρ : Rho} {S : Hs} {i j : Int} : eqV ρ S (.d (.int i)) (.d (.int j)) = some (i == j) := rfl
theorem eqV_str {ρ : Rho} {S : Hs} {x y : Str} (hx : PyData.strOk x = true) (hy : PyData.strOk y = true) : eqV ρ S (.d (.str x)) (.d (.str y)) = some (x == y) := by
  show (if (dOk deep (.str x) && dOk deep (.str y)) = true then some (dEq (.str x) (.str y)) else none) = _
  rw [show dOk deep (.str x) = PyData.strOk x from rfl, show dOk deep (.str y) = PyData.strOk y from rfl, hx, hy]
  rfl
theorem inV_strs {ρ : Rho} {S : Hs} {x : Str} {ys : List Str} (hx : PyData.strOk x = true) (hy : ∀ y ∈ ys, PyData.strOk y = true) : inV ρ S (.d (.str x)) (.d (.lst (ys.map .str))) = some (ys.any (· == x)) := by
  show (if (dOk deep (.str x) && (ys.map D.str).all (dOk deep)) = true then some ((ys.map D.str).any fun y => dEq y (.str x)) else none) = _
  rw [if_pos, List.any_map]
  · rfl
  · rw [Bool.and_eq_true, List.all_map, List.all_eq_true]
    exact ⟨hx, fun y h => hy y h⟩
theorem inV_ints {ρ : Rho} {S : Hs} {x : Int} {ys : List Int} : inV ρ S (.d (.int x)) (.d (.lst (ys.map .int))) = some (ys.any (· == x)) := by
  show (if (dOk deep (.int x) && (ys.map D.int).all (dOk deep)) = true then some ((ys.map D.int).any fun y => dEq y (.int x)) else none) = _
  rw [if_pos, List.any_map]
  · rfl
  · rw [Bool.and_eq_true, List.all_map, List.all_eq_true]
    exact ⟨rfl, fun y h => rfl⟩
theorem inV_intsT {ρ : Rho} {S : Hs} {x : Int} {ys : List Int} : inV ρ S (.d (.int x)) (.d (.tup (ys.map .int))) = some (ys.any (· == x)) := by
  show (if (dFlat (.int x) && (ys.map D.int).all dFlat) = true then some ((ys.map D.int).any fun y => dEq y (.int x)) else none) = _
  rw [if_pos, List.any_map]
  · rfl
  · rw [Bool.and_eq_true, List.all_map, List.all_eq_true]
    exact ⟨rfl, fun y h => rfl⟩
theorem strsD_map : ∀ (ys : List Str), strsD (ys.map .str) = some ys
  | [] => rfl
  | y :: r => by
    show (strsD (r.map .str)).map (y :: ·) = _
    rw [strsD_map r]; rfl
theorem intsD_map : ∀ (ys : List Int), intsD (ys.map .int) = some ys
  | [] => rfl
  | y :: r => by
    show (intsD (r.map .int)).map (y :: ·) = _
    rw [intsD_map r]; rfl
theorem cmp_str {ρ : Rho} {S : Hs} {x y : Str} (hx : PyData.strOk x = true) (hy : PyData.strOk y = true) : cmpV .Eq ρ S (.d (.str x)) (.d (.str y)) = some (x == y) := eqV_str (ρ := ρ) (S := S) hx hy
theorem cmp_inS {ρ : Rho} {S : Hs} {x : Str} {ys : List Str} (hx : PyData.strOk x = true) (hy : ∀ y ∈ ys, PyData.strOk y = true) : cmpV .In ρ S (.d (.str x)) (.d (.lst (ys.map .str))) = some (ys.any (· == x)) := inV_strs (ρ := ρ) (S := S) hx hy
theorem cmp_ninS {ρ : Rho} {S : Hs} {x : Str} {ys : List Str} (hx : PyData.strOk x = true) (hy : ∀ y ∈ ys, PyData.strOk y = true) : cmpV .NotIn ρ S (.d (.str x)) (.d (.lst (ys.map .str))) = some (!ys.any (· == x)) := by
  show (inV ρ S _ _).map (!·) = _
  rw [inV_strs hx hy]; rfl
theorem cmp_inI {ρ : Rho} {S : Hs} {x : Int} {ys : List Int} : cmpV .In ρ S (.d (.int x)) (.d (.lst (ys.map .int))) = some (ys.any (· == x)) := inV_ints (ρ := ρ) (S := S)
theorem cmp_ninI {ρ : Rho} {S : Hs} {x : Int} {ys : List Int} : cmpV .NotIn ρ S (.d (.int x)) (.d (.lst (ys.map .int))) = some (!ys.any (· == x)) := by
  show (inV ρ S _ _).map (!·) = _
  rw [inV_ints]; rfl
theorem cmp_inT {ρ : Rho} {S : Hs} {x : Int} {ys : List Int} : cmpV .In ρ S (.d (.int x)) (.d (.tup (ys.map .int))) = some (ys.any (· == x)) := inV_intsT (ρ := ρ) (S := S)
theorem cmp_ninT {ρ : Rho} {S : Hs} {x : Int} {ys : List Int} : cmpV .NotIn ρ S (.d (.int x)) (.d (.tup (ys.map .int))) = some (!ys.any (· == x)) := by
  show (inV ρ S _ _).map (!·) = _
  rw [inV_intsT]; rfl
/-- [x for x in ints if c] -/
theorem E_filt {G : Sg} {ρ : Rho} {S S0 : Hs} {i : Nat} {it : I} {c : C} {l : List Int} {p : Int → Bool} (hi : evI G true it ρ S0 = .ok (l.map .int, none) S) (hl : i < ρ.length)
    (hc : ∀ x ∈ l, ev G c ((wipeR ρ [i]).set i (.va (.int x))) S = .ok (.d (.bl (p x))) S) : ev G (.compIf (.one i) [i] it c (.var i)) ρ S0 = .ok (.fr ((l.filter p).map .int)) S := by
  have hw : ∀ x : Int, ((wipeR ρ [i]).set i (.va (.int x)))[i]? = some (.va (.int x)) := fun x => List.getElem?_set_self (by show i < (ρ.set i .no).length; rw [List.length_set]; exact hl)
  have e4 := comp_filter (S := S) (acc := []) (f := fun x S => match setTg (.one i) x (wipeR ρ [i]) with
    | some ρ' => (ev G c ρ' S).bind fun b S => match b with
      | .d (.bl true) => (ev G (.var i) ρ' S).bind fun y S => match y.toD with
        | some y => .ok (some y) S
        | none => .bad
      | .d (.bl false) => .ok none S
      | _ => .bad
    | none => .bad) (g := fun x => match x with
    | .int x => if p x = true then some (.int x) else none
    | x => some x) (l := l.map .int) (fun x hx => by
      obtain ⟨x, hx4, rfl⟩ := List.mem_map.mp hx
      show ((ev G c ((wipeR ρ [i]).set i (.va (.int x))) S).bind fun b S => match b with
        | .d (.bl true) => (ev G (.var i) ((wipeR ρ [i]).set i (.va (.int x))) S).bind fun y S => match y.toD with
          | some y => .ok (some y) S
          | none => .bad
        | .d (.bl false) => .ok none S
        | _ => .bad) = _
      rw [hc x hx4, Res.bind_ok]
      cases hq : p x with
      | false => simp only [hq, Bool.false_eq_true, if_false]
      | true =>
        simp only [hq, if_true]
        rw [ev_va (hw x)]
        rfl)
  have hfm : (l.map D.int).filterMap (fun x => match x with
    | .int x => if p x = true then some (.int x) else none
    | x => some x) = (l.filter p).map .int := by
    clear e4 hc hi
    induction l with
    | nil => rfl
    | cons y q ih =>
      rw [List.map_cons, List.filterMap_cons, List.filter_cons, ih]
      cases hq : p y with
      | false => simp only [hq, Bool.false_eq_true, if_false]
      | true => simp only [hq, if_true, List.map_cons]
  rw [hfm] at e4
  exact E_compIf hi (fun _ _ => rfl) e4
theorem E_neg {G : Sg} {ρ : Rho} {S S1 : Hs} {a : C} {i : Int} (h : ev G a ρ S = .ok (.d (.int i)) S1) : ev G (.neg a) ρ S = .ok (.d (.int (-i))) S1 := by rw [ev, h, Res.bind_ok]
theorem I_itm {G : Sg} {ρ : Rho} {S S1 : Hs} {e : C} {fx : Bool} {cs : List (Nat × Nat)} {c p : Nat} {fs l : List D} (h : ev G e ρ S = .ok (.d (.obj c fs)) S1) (hc : cs.lookup c = some p) (hp : fs[p]? = some (.tup l)) : evI G fx (.itm cs e) ρ S = .ok (l, none) S1 := by
  rw [evI, h, Res.bind_ok]
  dsimp only
  rw [hc]
  dsimp only [Option.bind]
  rw [hp]; rfl
theorem ints_eq : ∀ (a : List Int), dEqs (a.map .int) (a.map .int) = true
  | [] => rfl
  | x :: r => by
    show (dEq (.int x) (.int x) && dEqs (r.map .int) (r.map .int)) = true
    rw [ints_eq r]; simp [dEq]
theorem ints_ok (a : List Int) : dOk deep (.lst (a.map .int)) = true := by
  show (a.map D.int).all (dOk 19) = true
  rw [List.all_map, List.all_eq_true]
  exact fun _ _ => rfl
theorem ints_ne {ρ : Rho} {S : Hs} {a : List Int} : cmpV .NotEq ρ S (.d (.lst (a.map .int))) (.d (.lst (a.map .int))) = some false := by
  show (if (dOk deep (.lst (a.map .int)) && dOk deep (.lst (a.map .int))) = true then some (dEq (.lst (a.map .int)) (.lst (a.map .int))) else none).map (!·) = _
  rw [ints_ok]
  show (some (dEqs (a.map .int) (a.map .int))).map (!·) = _
  rw [ints_eq]; rfl
theorem boolsD_map : ∀ (ys : List Bool), boolsD (ys.map .bl) = some ys
  | [] => rfl
  | y :: r => by
    show (boolsD (r.map .bl)).map (y :: ·) = _
    rw [boolsD_map r]; rfl
/-- [e for x in l], e pure -/
theorem E_each {G : Sg} {ρ : Rho} {S S0 : Hs} {i : Nat} {it : I} {e : C} {l : List D} {g : D → D} (hi : evI G true it ρ S0 = .ok (l, none) S) (hc : ∀ x ∈ l, ∃ v, ev G e ((wipeR ρ [i]).set i (.va x)) S = .ok v S ∧ v.toD = some (g x)) :
    ev G (.comp (.one i) [i] it e) ρ S0 = .ok (.fr (l.map g)) S := by
  have e4 := comp_map (S := S) (acc := []) (f := fun x S => match setTg (.one i) x (wipeR ρ [i]) with
    | some ρ' => (ev G e ρ' S).bind fun y S => match y.toD with
      | some y => .ok (some y) S
      | none => .bad
    | none => .bad) (g := g) (l := l) (fun x hx => by
      obtain ⟨v, h1, h2⟩ := hc x hx
      show ((ev G e ((wipeR ρ [i]).set i (.va x)) S).bind fun y S => match y.toD with
        | some y => .ok (some y) S
        | none => .bad) = _
      rw [h1, Res.bind_ok, h2])
  exact E_comp hi (fun _ _ => rfl) e4
end Sf
end
section
set_option linter.all false
set_option maxRecDepth 100000
set_option maxHeartbeats 4000000
/-! Sf.RunX: more steps of the meaning: exceptions, slices, constant lists. -/
namespace Sf
open PySem
section
variable {G : Sg} {ρ : Rho} {S S1 : Hs} {a b c : C} {i : Nat}
theorem X_raise {k : Nat} : Sf.exec G (.raise k .nil) ρ S = .ex k [] S := by rw [Sf.exec, evs_nil]; rfl
theorem Xs_ex {s : Sx} {r : Ss} {k : Nat} {fs : List D} (h : Sf.exec G s ρ S = .ex k fs S1) : Sf.execs G (.cons s r) ρ S = .ex k fs S1 := by rw [execs_cons, h]; rfl
theorem forGo_ex {gd : Option Nat} {f : D → Rho → Hs → Out} {x : D} {xs : List D} {k : Nat} {fs : List D} (h : f x ρ S = .ex k fs S1) : forGo gd f (x :: xs) ρ S = .ex k fs S1 := by rw [forGo, h]
theorem forGo_nx {f : D → Rho → Hs → Out} {x : D} {xs : List D} {ρ' : Rho} (h : f x ρ S = .nx ρ' S1) : forGo none f (x :: xs) ρ S = forGo none f xs ρ' S1 := by
  rw [forGo, h]
  dsimp only
  rw [if_pos (show held none S S1 from fun n e => nomatch e)]
theorem E_makeX {k q : Nat} {as : Cs} {ds fs : List D} {F : List D → Hs → Res (List D)} {n : Nat} {S2 : Hs} (hk : G.ma[k]? = some (q, makeF q F)) (ha : evs G as ρ S = .ok ds S1) (h : F ds S1 = .ex n fs S2) : ev G (.make k as) ρ S = .ex n fs S2 := by
  rw [ev, ha, Res.bind_ok, hk]
  show makeF q F ds S1 = _
  unfold makeF
  rw [h]; rfl
theorem X_retX {e : C} {n : Nat} {fs : List D} (h : ev G e ρ S = .ex n fs S1) : Sf.exec G (.ret e) ρ S = .ex n fs S1 := by rw [exec_ret, h]; rfl
theorem run_ex {np n : Nat} {p : Ss} {ds : List D} {k : Nat} {fs : List D} {S' : Hs} (hl : ds.length = np) (h : Sf.execs G p (ds.map .va ++ List.replicate (n - np) .no) S = .ex k fs S') : runDef G np n p ds S = .ex k fs S' := by
  unfold runDef; rw [if_pos hl, h]
theorem run_initX {np n k nf : Nat} {p : Ss} {ds : List D} {m : Nat} {fs : List D} {S' : Hs} (hl : ds.length = np) (h : Sf.execs G p (.ini k [] :: (ds.map .va ++ List.replicate (n - np) .no)) S = .ex m fs S') : runInit G np n k nf p ds S = .ex m fs S' := by
  unfold runInit; rw [if_pos hl, h]
theorem X_tryT {k : Nat} {as : Cs} {ie : Nat} {ms : List (Nat × List Bool)} {hd : List Ha} {ds : List D} {F : Fn} {x : Val} {d : D} {S2 : Hs} (hk : G.fn[k]? = some F) (ha : evs G as ρ S = .ok ds S1) (h : F ds S1 = .ok x S2) (hx : x.toD = some d) : Sf.exec G (.tryF i k as ie ms hd) ρ S = .nx (ρ.set i (.va d)) S2 := by
  rw [Sf.exec, ha]
  dsimp only
  rw [hk]
  dsimp only
  rw [h]
  dsimp only
  rw [hx]
theorem X_tryE {k : Nat} {as : Cs} {ie : Nat} {ms : List (Nat × List Bool)} {hd : List Ha} {ds fs : List D} {F : Fn} {n : Nat} {bs : List Bool} {r : Bool} {S2 S3 : Hs} (hk : G.fn[k]? = some F) (ha : evs G as ρ S = .ok ds S1) (h : F ds S1 = .ex n fs S2) (hn : ρ[ie]? = some .no) (hm : ms.lookup n = some bs) (hr : hdV G ms n fs hd ρ S2 = .ok r S3) : Sf.exec G (.tryF i k as ie ms hd) ρ S = .rt (.d (.bl r)) S3 := by
  rw [Sf.exec, ha]
  dsimp only
  rw [hk]
  dsimp only
  rw [h]
  dsimp only
  rw [hn, hm]
  dsimp only
  rw [hr]
end
section
variable {G : Sg} {ρ : Rho} {S S1 S2 S3 : Hs} {a b c : C} {i : Nat}
theorem O_no : evO G .no ρ S = .ok none S := by rw [evO]
theorem O_so {k : Int} (h : ev G a ρ S = .ok (.d (.int k)) S1) : evO G (.so a) ρ S = .ok (some k) S1 := by rw [evO, h]; rfl
theorem E_slc {lo hi : Oc} {x z : Val} {p q : Option Int} (ha : ev G a ρ S = .ok x S1) (hl : evO G lo ρ S1 = .ok p S2) (hh : evO G hi ρ S2 = .ok q S3) (h : slcV ρ S3 x p q = some z) : ev G (.slc a lo hi) ρ S = .ok z S3 := by
  rw [ev, ha, Res.bind_ok, hl, Res.bind_ok, hh, Res.bind_ok, h]; rfl
theorem slc_lst {l : List D} {p q : Option Int} : slcV ρ S (.d (.lst l)) p q = some (.fr (cutD l p q)) := rfl
theorem slc_str {z : Str} {p q : Option Int} (h : z.length ≤ 65536) : slcV ρ S (.d (.str z)) p q = some (.d (.str (L2.cutS z p q))) := if_pos h
theorem cut_pre {l : List D} {k : Nat} (h : k ≤ l.length) : cutD l none (some (k : Int)) = l.take k := by
  unfold cutD
  rw [HT.sIx_none, HT.sIx_nat, Nat.min_eq_left h, List.drop_zero, Nat.sub_zero]
theorem cut_suf {l : List D} {k : Nat} (h : k ≤ l.length) : cutD l (some (k : Int)) none = l.drop k := by
  unfold cutD
  rw [HT.sIx_none, HT.sIx_nat, Nat.min_eq_left h, List.take_of_length_le (by rw [List.length_drop]; exact Nat.le_refl _)]
theorem cutS_mem {z : Str} {p q : Option Int} {x : Nat} (h : x ∈ (L2.cutS z p q).cps.toList) : x ∈ z.cps.toList := by
  unfold L2.cutS at h
  exact List.mem_of_mem_drop (List.mem_of_mem_take (by simpa using h))
theorem cutS_pre {z : Str} {k : Nat} : (L2.cutS z none (some (k : Int))).length = min k z.length := by
  unfold L2.cutS
  rw [HT.sIx_none, HT.sIx_nat, List.drop_zero, Nat.sub_zero]
  show (List.take (min k z.length) z.cps.toList).toArray.size = _
  rw [List.size_toArray, List.length_take, Array.length_toList]
  show min (min k z.length) z.length = _
  omega
end
def lstC : List Int → Cs
  | [] => .nil
  | i :: r => .cons (.int i) (lstC r)
def strC : List Str → Cs
  | [] => .nil
  | i :: r => .cons (.str i) (strC r)
def lstsC : List (List Int) → Cs
  | [] => .nil
  | l :: r => .cons (.lst (lstC l)) (lstsC r)
theorem ev_lstC {G : Sg} {ρ : Rho} {S : Hs} : ∀ (l : List Int), evs G (lstC l) ρ S = .ok (l.map .int) S
  | [] => evs_nil
  | i :: r => evs_cons ev_int rfl (ev_lstC r)
theorem ev_strC {G : Sg} {ρ : Rho} {S : Hs} : ∀ (l : List Str), evs G (strC l) ρ S = .ok (l.map .str) S
  | [] => evs_nil
  | i :: r => evs_cons ev_str rfl (ev_strC r)
theorem ev_lstsC {G : Sg} {ρ : Rho} {S : Hs} : ∀ (l : List (List Int)), evs G (lstsC l) ρ S = .ok (l.map fun l => .lst (l.map .int)) S
  | [] => evs_nil
  | i :: r => evs_cons (E_lst (ev_lstC i)) rfl (ev_lstsC r)
theorem add_fr {ρ : Rho} {S : Hs} {x y : List D} (h : x.length + y.length ≤ 65536) : binV .Add ρ S (.fr x) (.fr y) = some (.fr (x ++ y)) := if_pos h
section
variable {G : Sg} {ρ : Rho} {S S1 S2 S3 : Hs}
theorem X_setLocG {o k e : C} {n j : Nat} {m : Int} {d : D} {x : Val} {l : List D} (he : ev G e ρ S = .ok x S1) (hd : x.toD = some d) (ho : ev G o ρ S1 = .ok (.d (.loc n)) S2) (hk : ev G k ρ S2 = .ok (.d (.int m)) S3) (hS : S3[n]? = some l) (hj : L2.ixN l.length m = some j) : Sf.exec G (.setLoc o k e) ρ S = .nx ρ (S3.set n (l.set j d)) := by
  rw [Sf.exec, he, Res.out_ok, hd]
  dsimp only
  rw [ho, Res.out_ok]
  dsimp only
  rw [hk, Res.out_ok]
  dsimp only
  rw [hS]
  dsimp only
  rw [hj]
theorem add_loc {n : Nat} {x y : List D} (hS : S[n]? = some x) (h : x.length + y.length ≤ 65536) : binV .Add ρ S (.d (.loc n)) (.fr y) = some (.fr (x ++ y)) := by
  show (match S[n]?, some y with
    | some x, some y => if x.length + y.length ≤ big then some (Val.fr (x ++ y)) else none
    | _, _ => none) = _
  rw [hS]
  exact if_pos h
theorem slc_loc {n : Nat} {l : List D} {p q : Option Int} (hS : S[n]? = some l) : slcV ρ S (.d (.loc n)) p q = some (.fr (cutD l p q)) := by
  show (S[n]?).map _ = _
  rw [hS]; rfl
end
end Sf
end
section
set_option linter.all false
set_option maxRecDepth 100000
set_option maxHeartbeats 2000000
/-! Sf.Hot: calls within an except suite, of defs that are handed the exception. -/
namespace Sf
open PySem PySem.Spec PyProof.Rows L2
/-- a def that is called with the handled exception: what it promises, by the exception's address, class and dict -/
structure FnE (P : Program) (w : World) (K : PySem.W.Frag) (mg : Str → Option Value) (base : Heap) (k : Nat) (f : Addr) (sp : Addr → Value → Option Addr → Sp) : Prop where
  run : ∀ (A : Around) (outer : List Env) (s : Shared) (H : Hp) (us : List Value) (vs : List V) (Q : VK) (p : Addr × Obj) (cls : Value) (d : Option Addr), L2H.RoomH k A → L2H.Hot1 A p → L2N.Zn cls d p.2 → L2H.PinOk outer H s p → Env0 P w K mg base A outer s H → Vals vs us → sp p.1 cls d vs H Q E0 →
    codeAny (model P w) A (.call (.ref f) ⟨us, []⟩) (CR (L2N.CX P w) outer P w H s Q E0) s
/-- the context bears this exception -/
structure HotP (X : Cx) (p : Addr × Obj) (cls : Value) (d : Option Addr) : Prop where
  hot : L2H.Hot1 X.A p
  mem : p ∈ X.pn
  z : L2N.Zn cls d p.2
theorem HotP.hotc {X : Cx} {p : Addr × Obj} {cls : Value} {d : Option Addr} (h : HotP X p cls d) : L2H.HotC X := ⟨p, h.hot, h.mem⟩
theorem fn_ofE {P : Program} {w : World} {K : PySem.W.Frag} {mg : Str → Option Value} {base : Heap} {k : Nat} {x qual : Str} {st : Stmt} {f : Addr} {fd : FuncData} {N ps : List Str} {sp : Addr → Value → Option Addr → Sp} (F : Fun K x qual st f fd) (S : FnScope N ps (defScope st)) (B : Binds K fd ps [])
    (hl : ∀ a c d vs H Q E, sp a c d vs H Q E → vs.length = ps.length)
    (hbody : ∀ (X : Cx) (H : Hp) (vs : List V) (Q : VK) (p : Addr × Obj) (cls : Value) (d : Option Addr), X.prog = P → X.w = w → X.K = K → X.mg = mg → X.base = base → X.N = N → X.env.scope = defScope st → (∀ y, X.fn y = true) → HotP X p cls d → L2H.RoomH k X.A → X.xe = (fun e s' => X.xe e s') → sp p.1 cls d vs H Q E0 →
      ∃ t, PSs X (defBody st) t ∧ t { nx := fun _ H' => Q .non H', rt := Q } (L2.start N vs) H) :
    FnE P w K mg base (k + 1) f sp := by
  obtain ⟨oc, od, kV, doc, pm, an, cdv, ct, osl, rfl, lk, hcd⟩ := F.ex
  refine ⟨fun A outer s H us vs Q p cls d hr hot hz hpin e0 r hsp => ?_⟩
  have hlen := hl _ _ _ _ _ _ _ hsp
  have KX : K.In s.heap := e0.mod.kin.keeps fun b o e => (e0.bs b o e).1
  have lim : s.heap.NoLimit := e0.mod.nolimit.keeps fun b o e => (e0.bs b o e).1
  have hul : us.length = ps.length := by rw [← r.length]; exact hlen
  have hb := B s us KX (by rw [List.append_nil]; exact hul)
  rw [List.append_nil] at hb
  refine codeAny_call_function hr.depth (KX _ _ lk) rfl S.co S.gen rfl (PySem.W.codeRec_of KX hcd) (hb _ _ _ _ ?_)
  refine wpAny_newFunctionEnv_cells S.kind (fun ⟨n, v⟩ hy => ?_) fun env he s1 x => ?_
  · rcases S.par n (List.of_mem_zip hy).1 with q | q
    · exact .inl q
    · exact .inr ⟨q, PySem.W.cellsFrom_some _ _ _ (.inl q)⟩
  subst he
  refine ⟨lim.keeps x.toInCall.keep, codeAny_func ?_⟩
  have I := L2H.inv_startH (CX := L2N.CX P w) (mg := mg) (E := E0) S hpin e0 hlen r x
  obtain ⟨t, ht, hq⟩ := hbody (L2H.cxH (L2N.CX P w) P w K mg base N qual (defScope st) f cdv A outer s H E0 p) H vs Q p cls d rfl rfl rfl rfl rfl rfl rfl (fun _ => rfl) ⟨hot, by show p ∈ [p]; simp, hz⟩ (hr.deeper _) rfl hsp
  refine wpAny_mono (ht.run [] s1 (L2.start N vs) H _ I hq) (fun fl s' hs => ?_) fun e s' hs => hs
  cases fl with
  | ret u =>
    obtain ⟨v, σ', H', J, rv, q⟩ := hs
    exact ⟨v, H', J.os, J.bare, J.base, J.hok, rv, q⟩
  | next =>
    obtain ⟨σ', H', J, q⟩ := hs
    exact ⟨.non, H', J.os, J.bare, J.base, J.hok, rfl, q⟩
  | brk =>
    obtain ⟨_, _, _, q⟩ := hs
    exact False.elim q
  | cont =>
    obtain ⟨_, _, _, q⟩ := hs
    exact False.elim q
section
variable {X : Cx} {p : Addr × Obj} {cls : Value} {d : Option Addr}
theorem run_fnE {k : Nat} {f : Addr} {sp : Addr → Value → Option Addr → Sp} {pins : List (Addr × Obj)} {σ : L2.St} {H : Hp} {s : Shared} {Q : VK} {us : List Value} {vs : List V} (F : FnE X.prog X.w X.K X.mg X.base k f sp) (hr : L2H.RoomH k X.A) (hc : HotP X p cls d)
    (I : Inv X pins σ H s) (r : Vals vs us) (h : sp p.1 cls d vs H Q E0) : wpAny (model X.prog X.w) X.A (call (.ref f) us) (EP X pins σ Q) X.xe s := by
  have P1 := I.pin p (List.mem_append_left _ hc.mem)
  have hpin : L2H.PinOk X.stack H s p := ⟨P1.1, P1.2.1, fun hm => (List.mem_cons.mp (I.stkSub p.1 hm)).elim P1.2.2.1 P1.2.2.2.1, P1.2.2.2.2⟩
  refine wpAny_call (codeAny_mono (F.run X.A X.stack s H us vs Q p cls d hr hc.hot hc.z hpin I.env0 r h) fun r s' hq => ?_)
  cases r with
  | error e =>
    obtain ⟨_, _, _, _, _, _, _, _, _, _, _, _, hE⟩ := hq
    exact False.elim hE
  | ok fl =>
    cases fl with
    | ret u => exact I.after hq
    | next => exact False.elim hq
    | brk => exact False.elim hq
    | cont => exact False.elim hq
def tCallE (sp : Addr → Value → Option Addr → Sp) (a : Addr) (cls : Value) (d : Option Addr) (t : TA) : TE := fun σ H Q => t σ H fun vs H1 => sp a cls d vs H1 Q E0
theorem pe_callE {k : Nat} {f : Addr} {sp : Addr → Value → Option Addr → Sp} {x : Str} {q pos : Pos} {e : Expr} {es : List Expr} {t : TA} (F : FnE X.prog X.w X.K X.mg X.base k f sp) (hr : L2H.RoomH k X.A) (hc : HotP X p cls d) (hg : Gl X x) (hm : X.mg x = some (.ref f)) (hk : PySem.W.keepIn X.K (.ref f) = true)
    (ha : PA X (e :: es) t) (hdb : (x == ("__debug__" : Str)) = false := by decide) (he : starEach (e :: es) X.env = (false, eval e X.env) :: starEach es X.env := by rfl) (hpl : (backTo pos (starEach es X.env)).any (·.1) = false := by rfl) :
    PE X (.Call (.Name x q) (e :: es) [] pos) (tCallE sp p.1 cls d t) := by
  refine ⟨fun pins s σ H Q I h => ?_⟩
  refine wpAny_Call_Name_kw (ld_glob I hg hm ?_ hdb)
  refine PySem.W.callWith_K (h₀ := X.base) I.ok.mod.kin hk (thn (ha.run pos pins s σ H _ I h) fun us s1 ⟨vs, H1, I1, r, q⟩ => ⟨I1.kIn, ?_⟩) he hpl
  exact run_fnE F hr hc I1 r q
/-! ### isinstance(e, C), e the exception -/
structure ExK (K : PySem.W.Frag) (D : Addr) : Prop where
  cl : (PySem.W.clsIn K D).isSome = true
  c : L2.ExcC K D
def HasD (H : Hp) (d : Option Addr) : Prop := d = none ∨ ∃ dd fs, d = some dd ∧ H dd = some (.xd fs)
def rIsP (K : PySem.W.Frag) (D a : Addr) (d : Option Addr) : List V → Hp → VK → Prop := fun xs H Q => HasD H d ∧ ∃ (c : V) (cv : Value) (b : Bool), xs = [.ref a, c] ∧ (∀ u, RelV c u → u = cv) ∧ PySem.W.kitOne K (.ref D) cv = some b ∧ Q (.bl b) H
theorem call_isP {D : Addr} (hc : HotP X p (.ref D) d) (C : ExK X.K D) : CallR X (.builtin "isinstance") (rIsP X.K D p.1 d) := by
  intro pins s σ H xs us Q I r h
  obtain ⟨hd, c, cv, b, rfl, hcv, e, q⟩ := h
  cases r with
  | cons rx rr =>
    cases rr with
    | cons rt rr =>
      cases rr
      cases rx
      have ec := hcv _ rt
      subst ec
      obtain ⟨hget, _⟩ := I.pin p (List.mem_append_left _ hc.mem)
      obtain ⟨vs, hv, _⟩ := hc.hot.2
      have J : ∃ od, PySem.W.InstAt s.heap p.1 p.2 D od := by
        rcases hd with e1 | ⟨dd, fs, e1, e2⟩
        · exact ⟨none, hget, hc.z.1, by unfold PySem.W.notCls; rw [hv] <;> rfl, by rw [hc.z.2.1, e1]; trivial⟩
        · obtain ⟨mA, hns, hr⟩ : ObjOk X.prog X.w H s.heap dd (.xd fs) := I.hok dd _ e2
          obtain ⟨od, ho, hl⟩ := lookIn_ns hns
          exact ⟨some od, hget, hc.z.1, by unfold PySem.W.notCls; rw [hv] <;> rfl, by rw [hc.z.2.1, e1]; exact ho⟩
      obtain ⟨od, J⟩ := J
      exact PySem.W.kia_one (PySem.W.kitx_exc C.cl C.c.hg C.c.hk C.c.hs C.c.ha C.c.hn C.c.ht C.c.hm) I.kIn J e (fun z => nomatch z) fun tk => ⟨.bl b, H, I.kept (t' := tk) fun _ _ z => z, rfl, q⟩
end
end Sf
end
section
set_option linter.all false
set_option maxRecDepth 100000
set_option maxHeartbeats 2000000
/-! Sf.Hot2: a list comprehension over a range, within an except suite. -/
namespace Sf
open PySem PySem.Spec PyProof.Rows L2
/-- a walk whose end is raised while an exception is handled -/
structure TurnA (P : Program) (w : World) (K : PySem.W.Frag) (tg : Expr) (J : It) (fp : List Addr) (it : Addr) (tn : Nat → Heap → Prop) : Prop where
  obj : ∀ i h, tn i h → ∀ b ∈ fp, ∃ o, h.get? b = some o ∧ ∀ v, o.data ≠ .cell v
  keep : ∀ i h h', tn i h → (∀ b ∈ fp, ∀ o, h.get? b = some o → h'.get? b = some o) → tn i h'
  item : ∀ (X : Cx), X.prog = P → X.w = w → X.K = K → ∀ (i : Nat) (pins : List (Addr × Obj)) (s : Shared) (σ : L2.St) (H : Hp) (E : Value → Shared → Prop), Inv X pins σ H s → (∀ b ∈ fp, FpOk X pins H b) → tn i s.heap → J.go i H →
    wpAny (model P w) X.A (pyNext (.ref it)) (fun r s1 => ∃ u, r = some u ∧
      wpAny (model P w) X.A (letOwnedTupleGo tg (.ref it) u) (fun _ s2 => ∃ x H', Inv X pins σ H' s2 ∧ RelV x u ∧ J.yld i H x H' ∧ tn (i + 1) s2.heap ∧ ∀ b ∈ fp, H' b = none) E s1) E s
  done : ∀ (X : Cx), X.prog = P → X.w = w → X.K = K → ∀ (i : Nat) (pins : List (Addr × Obj)) (s : Shared) (σ : L2.St) (H : Hp) (E : Value → Shared → Prop), (∃ x1, HotX.HotAt X.A x1 s.heap) → Inv X pins σ H s → (∀ b ∈ fp, FpOk X pins H b) → tn i s.heap → J.stop i H →
    wpAny (model P w) X.A (pyNext (.ref it)) (fun r s1 => r = none ∧ Inv X pins σ H s1) E s
  self : ∀ (A : Around) (i : Nat) (s : Shared) (Q : Value → Shared → Prop) (E : Value → Shared → Prop), tn i s.heap → Q (.ref it) s → wpAny (model P w) A (pyIter (.ref it)) Q E s
theorem turn_rangeA {P : Program} {w : World} {K : PySem.W.Frag} {tg : Expr} (it : Addr) (lo : Int) (n : Nat) : TurnA P w K tg (Itr lo n) [it] it (fun i h => IsRangeIter h it (lo + (i : Nat) * 1) ((n : Int) - (i : Nat)) 1) where
  obj := fun i h st b hb => by
    have e : b = it := by simpa using hb
    subst e
    exact ⟨_, st, fun v z => by
      have z' : Data.fields _ = Data.cell v := z
      cases z'⟩
  keep := fun i h h' st k => k it (by simp) _ st
  item := by
    intro X hP hw hK i pins s σ H E I hf st hg
    subst hP hw hK
    obtain ⟨f0, f1, f2, f3, f4, f5⟩ := hf it (by simp)
    have hlt : i < n := hg
    refine wpAny_pyNext_range_item st (by omega) fun h' st' sb => ?_
    have st2 : IsRangeIter h' it (lo + ((i + 1 : Nat) : Int) * 1) ((n : Int) - ((i + 1 : Nat) : Int)) 1 := by
      have e1 : lo + ((i : Nat) : Int) * 1 + 1 = lo + ((i + 1 : Nat) : Int) * 1 := by omega
      have e2 : (n : Int) - ((i : Nat) : Int) - 1 = (n : Int) - ((i + 1 : Nat) : Int) := by omega
      rw [← e1, ← e2]
      exact st'
    have I1 : Inv X pins σ H { s with heap := h', toks := s.toks + 1 } := I.turned (fun b o hb e => (sb.2 b hb).trans e) f0 f1 f3 f4 f5
    refine ⟨_, rfl, go_of (s := { s with heap := h', toks := s.toks + 1 }) (n := "range_iterator") st2 rfl rfl (by decide) ⟨.int (lo + i), H, I1, ⟨s.toks, ?_⟩, ⟨rfl, rfl⟩, st2, fun b hb => (hf b hb).1⟩⟩
    rw [Int.mul_one]
  done := by
    intro X hP hw hK i pins s σ H E hc I hf st hg
    subst hP hw hK
    obtain ⟨f0, f1, f2, f3, f4, f5⟩ := hf it (by simp)
    obtain ⟨x1, hot⟩ := hc
    exact HotX.pyNext_range_end_hot hot st (by have : n ≤ i := hg; omega) fun h' eb => ⟨rfl, I.turned (t' := s.toks) (fun b o _ e => eb b o e) f0 f1 f3 f4 f5⟩
  self := fun _ _ _ _ _ st h => wpAny_pyIter_rangeiter st h
def PIEA (X : Cx) (pins : List (Addr × Obj)) (σ : L2.St) (tg : Expr) (R : It → Hp → Prop) (itv : Value) (s2 : Shared) : Prop :=
  ∃ (it : Addr) (fp : List Addr) (tn : Nat → Heap → Prop) (J : It) (H' : Hp), itv = .ref it ∧ Inv X pins σ H' s2 ∧ TurnA X.prog X.w X.K tg J fp it tn ∧ tn 0 s2.heap ∧ (∀ b ∈ fp, FpOk X pins H' b) ∧ R J H'
structure PIA (X : Cx) (tg iter : Expr) (wi : TI) : Prop where
  run : ∀ (pins : List (Addr × Obj)) (s : Shared) (σ : L2.St) (H : Hp) (R : It → Hp → Prop), Inv X pins σ H s → wi σ H R →
    wpAny (model X.prog X.w) X.A (eval iter X.env) (fun v s1 => wpAny (model X.prog X.w) X.A (pyIter v) (PIEA X pins σ tg R) X.xe s1) X.xe s
section
variable {X : Cx} {tg : Expr}
theorem range_itA {pins : List (Addr × Obj)} {σ : L2.St} {H : Hp} {s : Shared} {R : It → Hp → Prop} {E : Value → Shared → Prop} {lo hi : Int} {t u v : Tok} {tk : Nat} (I : Inv X pins σ H s) (h1 : -(2 ^ 62) ≤ lo) (h2 : lo < 2 ^ 62) (h3 : -(2 ^ 62) ≤ hi) (h4 : hi < 2 ^ 62)
    (q : R (Itr lo (hi - lo).toNat) H) : wpAny (model X.prog X.w) X.A (pyIter (.ref s.heap.objs.size)) (PIEA X pins σ tg R) E { s with heap := s.heap.push { cls := .type "range", data := .fields #[.int lo t, .int hi u, .int 1 v] }, toks := tk } := by
  refine wpAny_pyIter_range (IsRange.new ..) (small_one h1 h2 h3 h4) ?_
  have I1 : Inv X pins σ H { s with heap := s.heap.push { cls := .type "range", data := .fields #[.int lo t, .int hi u, .int 1 v] }, toks := tk } := I.kept fun b o e => Heap.get?_push_of_some _ e
  refine ⟨(s.heap.push { cls := .type "range", data := .fields #[.int lo t, .int hi u, .int 1 v] }).objs.size, [(s.heap.push { cls := .type "range", data := .fields #[.int lo t, .int hi u, .int 1 v] }).objs.size], _, _, H, rfl,
    I1.kept (t' := tk) fun b o e => Heap.get?_push_of_some _ e, turn_rangeA _ lo (hi - lo).toNat, ?_, fun b hb => ?_, q⟩
  · have e1 : lo + ((0 : Nat) : Int) * 1 = lo := by simp
    have e2 : (((hi - lo).toNat : Nat) : Int) - ((0 : Nat) : Int) = Builtin.Range.rangeSize lo hi 1 := by rw [rangeSize_one]; split <;> omega
    show IsRangeIter _ _ (lo + ((0 : Nat) : Int) * 1) ((((hi - lo).toNat : Nat) : Int) - ((0 : Nat) : Int)) 1
    rw [e1, e2]
    exact Heap.get?_push_size _ rfl
  · have e : b = (s.heap.push { cls := .type "range", data := .fields #[.int lo t, .int hi u, .int 1 v] }).objs.size := by simpa using hb
    subst e
    exact I1.fpOk (Nat.le_refl _) (I1.hok.fresh (Nat.le_refl _))
theorem pi_range1A {a : Expr} {ta : TA} {p pos : Pos} (hg : Gl X "range") (hm : X.mg "range" = none) (ha : PA X [a] ta) (hs : starEach [a] X.env = [(false, eval a X.env)] := by rfl) : PIA X tg (.Call (.Name "range" p) [a] [] pos) (iRng1 ta) := by
  refine ⟨fun pins s σ H R I h => ?_⟩
  refine Call_ (ld_blt I hg hm boot_range (PyProof.Rows.callWith_type1 (thn (ha.run pos pins s σ H _ I h) fun us s1 ⟨vs, H1, I1, r1, q1⟩ => ?_) hs rfl))
  obtain ⟨j, e, q1, q2, q⟩ := q1
  subst e
  cases r1 with
  | cons r rr =>
    cases rr
    obtain ⟨t, rfl⟩ := r
    exact call_range_1 (range_itA I1 (by omega) (by omega) q1 q2 (by simpa using q))
theorem lc_hot {pins : List (Addr × Obj)} {s : Shared} {σ : L2.St} {H : Hp} {Q : VK} {elt iter : Expr} {scope : Scope} {own : List (Str × Nat)} {pos pos' : Pos} {wi : TI} {g : TG} {te : TE} {Qf : Value → Shared → Prop}
    (hc : L2H.HotC X) (hN : X.N.Nodup) (I : Inv X pins σ H s) (hi : PIA X tg iter wi) (ok : BlkOk X.N X.env.scope scope own)
    (hg : ∀ (s : Shared) (H : Hp) (C : Addr) (cl : List (Str × Addr)) (fp : List Addr), PG (X.blk s H scope (compEnvC scope cl C X.env) fp) tg g)
    (he : ∀ (s : Shared) (H : Hp) (C : Addr) (cl : List (Str × Addr)) (fp : List Addr), PE (X.blk s H scope (compEnvC scope cl C X.env) fp) elt te) (hs : ∀ x, foldedSetIterable iter X.env x = pure x)
    (h : tLc wi g tYes te (own.map (·.2)) σ H Q)
    (hRR : ∀ D C s' m H', Inv X pins σ H' s' → Q (.ref D) H' → s'.heap.Ns C m → FpOk X pins H' C → compPost (model X.prog X.w) X.A X.xe none Qf (.ref D) C (.ok .next) s') :
    wpAny (model X.prog X.w) X.A (comprehension (.ListComp elt [⟨tg, iter, [], 0⟩] scope pos) scope X.env pos' (newList []) false (eval iter X.env) none) Qf X.xe s := by
  have hfree : ∀ y ∈ scope.names, y.2 = .free → ∃ c, X.env.cells.lookup y.1 = some c := fun y hy e => by
    rcases ok.free y hy e with k | k
    · exact I.ok.has _ (.inl k)
    · exact I.ok.has _ (.inr k)
  refine wpAny_comprehension_free (use := none) rfl hs (closure_ok hfree) ok.kind (fun y hy e => by rw [ok.uniq y hy, e])
    (thn (hi.run pins s σ H _ I h) fun xv s1 hx => thn hx fun itv s2 h2 => ?_)
  obtain ⟨it, fp, tn, J, H2, e, I2, T, st2, f2, q⟩ := h2
  subst e
  refine wpAny_newObj_type (newEnv_comp ?_) (by show 0 ≤ sizeLine; decide)
  generalize hD : s2.heap.objs.size = D
  have hDn : H2 D = none := I2.hok.fresh (Nat.le_of_eq hD)
  obtain ⟨W, ⟨m0, w0⟩, turn⟩ := q D hDn
  generalize hs3 : ({ s2 with heap := s2.heap.push { cls := .type "list", data := .seq ([] : List Value).toArray } } : Shared) = s3
  have I3 : Inv X pins σ (upd H2 D (.lst [])) s3 := by
    rw [← hs3]
    refine I2.laid (t' := s2.toks) (fun b o e => Heap.get?_push_of_some _ e) (Nat.le_of_eq hD) ⟨Nat.zero_le _, [], 0, .nil, ?_⟩
    rw [← hD]
    exact Heap.get?_push_size _ rfl
  have h3 : s3.heap = s2.heap.push { cls := .type "list", data := .seq ([] : List Value).toArray } := by rw [← hs3]
  have sz : ∀ b ∈ fp, b < s2.heap.objs.size := fun b hb => by
    obtain ⟨o, e, _⟩ := T.obj _ _ st2 b hb
    exact Heap.lt_size e
  have f3 : ∀ b ∈ fp, FpOk X pins (upd H2 D (.lst [])) b ∧ b < s3.heap.objs.size := fun b hb => by
    have hlt := sz b hb
    refine ⟨⟨?_, (f2 b hb).2⟩, by rw [h3, Heap.size_push]; exact Nat.lt_succ_of_lt hlt⟩
    rw [upd_ne (by rw [← hD]; exact Nat.ne_of_lt hlt)]
    exact (f2 b hb).1
  have st3 : tn 0 s3.heap := T.keep _ _ _ st2 fun b _ o e => by rw [h3]; exact Heap.get?_push_of_some _ e
  have I4 := block_start I3 ok hN f3
  have pg := hg s3 (upd H2 D (.lst [])) s3.heap.objs.size (cellsFrom (s3.heap.objs.size + 1) scope.names (cloFrom X.env.cells scope.names [])) fp
  have pe := he s3 (upd H2 D (.lst [])) s3.heap.objs.size (cellsFrom (s3.heap.objs.size + 1) scope.names (cloFrom X.env.cells scope.names [])) fp
  show codeAny _ _ (.compStart (.ListComp elt [⟨tg, iter, [], 0⟩] scope pos) 0 (.ref it) (.ref D) (compEnvC scope (cellsFrom (s3.heap.objs.size + 1) scope.names (cloFrom X.env.cells scope.names [])) s3.heap.objs.size X.env)) (compPost (model X.prog X.w) X.A X.xe none Qf (.ref D) s3.heap.objs.size) { s3 with heap := pushCells (s3.heap.push { cls := .type "dict", data := .dict #[] }) scope.names }
  have nfp : ∀ b ∈ fp, (upd H2 D (.lst [])) b = none := fun b hb => (f3 b hb).1.1
  generalize hce : compEnvC scope (cellsFrom (s3.heap.objs.size + 1) scope.names (cloFrom X.env.cells scope.names [])) s3.heap.objs.size X.env = ce at I4 pg pe ⊢
  have cL : ce.locals = s3.heap.objs.size := by subst hce; rfl
  generalize hH3 : upd H2 D (.lst []) = H3 at I3 I4 pg pe w0 nfp f3
  generalize hs4 : ({ s3 with heap := pushCells (s3.heap.push { cls := .type "dict", data := .dict #[] }) scope.names } : Shared) = s4 at I4 ⊢
  have st4 : tn 0 s4.heap := T.keep _ _ _ st3 fun b _ o e => by rw [← hs4]; exact pushCells_keeps _ _ _ _ (Heap.get?_push_of_some _ e)
  have stat : ∀ {σ' : L2.St} {H' : Hp} {s' : Shared}, Inv (X.blk s3 H3 scope ce fp) [] σ' H' s' → (∀ b ∈ fp, H' b = none) → ∀ b ∈ fp, FpOk (X.blk s3 H3 scope ce fp) [] H' b := fun {σ' H' s'} I' hn b hb =>
    ⟨hn b hb, (I'.ok.exf b hb).1, I'.ok.exfs b hb, .inl hb, fun x c e => (I'.ok.exf b hb).2 x c e, fun p hp => absurd (show p ∈ ([] : List (Addr × Obj)) ++ [] from hp) (by simp)⟩
  have back : ∀ {σ' : L2.St} {H' : Hp} {s' : Shared}, Inv (X.blk s3 H3 scope ce fp) [] σ' H' s' → Inv X pins σ H' s' := fun {σ' H' s'} I' => I3.call' (ch := fp) I'.os I'.base I'.hok I'.bare fun b hb => ⟨(f3 b hb).1.2.2.2.1, (f3 b hb).1.2.1, (f3 b hb).1.2.2.2.2.1, (f3 b hb).1.2.2.2.2.2⟩
  have loop : codeAny (model X.prog X.w) X.A (.compLoop (.ListComp elt [⟨tg, iter, [], 0⟩] scope pos) 0 (.ref it) (.ref D) ce) (compPost (model X.prog X.w) X.A X.xe none Qf (.ref D) s3.heap.objs.size) s4 := by
    refine compLoop_any (fun n s' => ∃ i H', Inv (X.blk s3 H3 scope ce fp) [] (wipe σ (own.map (·.2))) H' s' ∧ tn i s'.heap ∧ (∀ b ∈ fp, H' b = none) ∧ W i n H') ?_ m0 ⟨0, H3, I4, st4, nfp, w0⟩
    rintro n s5 ⟨i, H5, I5, st5, n5, w5⟩
    rcases turn i n H5 w5 with ⟨stop, qq⟩ | ⟨go, Nx, hNx, step⟩
    · have td := T.done (X.blk s3 H3 scope ce fp) rfl rfl rfl i [] s5 _ H5 (fun _ _ => False) (hc.at (back I5)) I5 (stat I5 n5) st5 stop
      refine thnF td fun r s6 ⟨hr, I6⟩ => ?_
      subst hr
      have I7 : Inv X pins σ H5 s6 := back I6
      have nC : H5 s3.heap.objs.size = none := by
        have z : H5 ce.locals = none := I6.free
        rw [cL] at z
        exact z
      obtain ⟨m, hn, _⟩ := I6.loc
      have hn : s6.heap.Ns ce.locals m := hn
      rw [cL] at hn
      exact hRR D s3.heap.objs.size s6 m H5 I7 qq hn (I3.fpOk (Nat.le_refl _) nC)
    · have ti := T.item (X.blk s3 H3 scope ce fp) rfl rfl rfl i [] s5 _ H5 (fun _ _ => False) I5 (stat I5 n5) st5 go
      refine thnF ti fun r s6 ⟨u, hr, h6⟩ => ?_
      subst hr
      refine thnF h6 fun _ s7 ⟨x, H7, I7, r7, y7, st7, n7⟩ => ?_
      have I7' := I7.pinned (stat I7 n7) (T.obj _ _ st7)
      refine thnF (pg.run _ s7 _ H7 x u _ I7' r7 (step x H7 y7)) fun _ s8 ⟨σ8, H8, I8, hw8, q8⟩ => ?_
      refine wpAny_tests_nil ?_
      have q9 := q8
      unfold tYes at q9
      simp only [if_true] at q9 ⊢
      have fin : ∀ {s' : Shared} {H' : Hp}, Inv (X.blk s3 H3 scope ce fp) ([] ++ pinsAt fp s7.heap) σ8 H' s' → Nx H' → ∃ m, m < n ∧ ∃ i H', Inv (X.blk s3 H3 scope ce fp) [] (wipe σ (own.map (·.2))) H' s' ∧ tn i s'.heap ∧ (∀ b ∈ fp, H' b = none) ∧ W i m H' := fun {s' H'} I' nx => by
        obtain ⟨m', hm, w'⟩ := hNx H' nx
        have pin' : ∀ b ∈ fp, ∀ o, s7.heap.get? b = some o → s'.heap.get? b = some o ∧ H' b = none := fun b hb o e =>
          let z := I'.pin (b, o) (List.mem_append_right _ (List.mem_append_right _ (mem_pinsAt hb e)))
          ⟨z.1, z.2.1⟩
        have hl : (wipe σ (own.map (·.2))).length = σ8.length := by rw [← hw8, wipe_length]
        refine ⟨m', hm, i + 1, H', (I'.unpinned (pins := [])).weak hl (fun j v e => ?_), T.keep _ _ _ st7 fun b hb o e => (pin' b hb o e).1, fun b hb => ?_, w'⟩
        · rw [← hw8] at e
          exact (wipe_some e).1
        · obtain ⟨o, e, _⟩ := T.obj _ _ st7 b hb
          exact (pin' b hb o e).2
      refine thnF (pe.run _ s8 σ8 H8 _ I8 q9) fun z s10 ⟨yv, H10, I10, r10, acc, hD10, hz10, nx⟩ => ?_
      exact app_ok (X := X.blk s3 H3 scope ce fp) I10 hD10 hz10 r10 fun s11 I11 => fin I11 nx
  exact codeAny_compStart_list loop (T.self X.A 0 _ _ _ st4 loop)
theorem pe_lcH {elt iter : Expr} {scope : Scope} {own : List (Str × Nat)} {pos : Pos} {wi : TI} {g : TG} {te : TE} (hc : L2H.HotC X) (hN : X.N.Nodup) (hi : PIA X tg iter wi) (ok : BlkOk X.N X.env.scope scope own)
    (hg : ∀ (s : Shared) (H : Hp) (C : Addr) (cl : List (Str × Addr)) (fp : List Addr), PG (X.blk s H scope (compEnvC scope cl C X.env) fp) tg g)
    (he : ∀ (s : Shared) (H : Hp) (C : Addr) (cl : List (Str × Addr)) (fp : List Addr), PE (X.blk s H scope (compEnvC scope cl C X.env) fp) elt te) (hs : ∀ x, foldedSetIterable iter X.env x = pure x := by intro _; rfl) :
    PE X (.ListComp elt [⟨tg, iter, [], 0⟩] scope pos) (tLc wi g tYes te (own.map (·.2))) := by
  refine ⟨fun pins s σ H Q I h => ?_⟩
  rw [eval_ListComp]
  refine lc_hot hc hN I hi ok hg he hs h fun D C s' m H' I' q hn f => ⟨m, hn, fun h'' sb => ?_⟩
  obtain ⟨f0, f1, f2, f3, f4, f5⟩ := f
  exact ⟨.ref D, H', I'.turned (t' := s'.toks) (fun b o hb e => (sb.2 b hb).trans e) f0 f1 f3 f4 f5, rfl, q⟩
end
end Sf
end
section
set_option linter.all false
set_option maxRecDepth 100000
set_option maxHeartbeats 2000000
/-! Sf.Hot3: the law's own judges of an exception. -/
namespace Sf
open PySem PySem.Spec PyProof.Rows L2
abbrev G0 : Hp := fun _ => none
theorem grel0 (T : Tab) (H : Hp) : GRel T H [] G0 [] := ⟨fun _ _ h => (nomatch h), rfl, List.nodup_nil, fun n l h => (by simp at h), fun _ h => (by simp at h)⟩
theorem step0 {H H' G' : Hp} {ι' : List Addr} (s : Step H G0 [] H' G' ι') : Le H H' := fun a o h => s.frame a o h (by simp)
theorem le_grel {T : Tab} {H H' G : Hp} {S : Hs} {ι : List Addr} (l : Le H H') (g : GRel T H S G ι) : GRel T H' S G ι :=
  ⟨g.sub.trans l, g.len, g.nd, fun n k h => let ⟨a, vs, h1, h2, h3⟩ := g.cell n k h; ⟨a, vs, h1, l _ _ h2, h3⟩, g.off⟩
theorem le_step {H H' G : Hp} {ι : List Addr} (l : Le H H') : Step H G ι H' G ι :=
  ⟨fun a o h _ => l a o h, fun a h => l.none h, Le.refl _, Pre.refl _, fun _ h _ => h, fun _ h _ => h⟩
theorem HasD.le {H H' : Hp} {d : Option Addr} (h : HasD H d) (l : Le H H') : HasD H' d := by
  rcases h with h | ⟨dd, fs, h1, h2⟩
  · exact .inl h
  · exact .inr ⟨dd, fs, h1, l _ _ h2⟩
theorem HasD.step {T : Tab} {H H' G G' : Hp} {S : Hs} {ι ι' : List Addr} {d : Option Addr} (h : HasD H d) (g : GRel T H S G ι) (st : Step H G ι H' G' ι') : HasD H' d := by
  rcases h with h | ⟨dd, fs, h1, h2⟩
  · exact .inl h
  · refine .inr ⟨dd, fs, h1, st.frame _ _ h2 fun hm => ?_⟩
    obtain ⟨n, k1, k2⟩ := List.mem_iff_getElem.mp hm
    have hs : n < S.length := by rw [← g.len]; exact k1
    obtain ⟨b, vs, e1, e2, _⟩ := g.cell n S[n] (List.getElem?_eq_getElem hs)
    rw [List.getElem?_eq_getElem k1, k2] at e1
    cases e1
    rw [h2] at e2; cases e2
theorem le_new {H : Hp} {q : Addr} {o : HO} (h : H q = none) : Le H (upd H q o) := le_upd h
/-! ### one question -/
/-- the class that x names, and what isinstance says of it for instances of D -/
def IsC (K : PySem.W.Frag) (mg : Str → Option Value) (D : Addr) (x : Str) (b : Bool) : Prop :=
  ∃ (c : V) (u : Value), RelV c u ∧ (∀ w, RelV c w → w = u) ∧ ((mg x = some u) ∨ (mg x = none ∧ bootBuiltins x = some u)) ∧ PySem.W.kitOne K (.ref D) u = some b ∧ okName x = true
theorem isC_own {K : PySem.W.Frag} {mg : Str → Option Value} {D C : Addr} {x : Str} {b : Bool} (h : mg x = some (.ref C)) (k : PySem.W.kitOne K (.ref D) (.ref C) = some b) (hx : okName x = true) : IsC K mg D x b :=
  ⟨.ref C, .ref C, rfl, fun _ r => r, .inl h, k, hx⟩
theorem isC_ty {K : PySem.W.Frag} {mg : Str → Option Value} {D : Addr} {x : Str} {n : String} {b : Bool} (h : mg x = none) (hb : bootBuiltins x = some (.type n)) (k : PySem.W.kitOne K (.ref D) (.type n) = some b) (hx : okName x = true) : IsC K mg D x b :=
  ⟨.ty n, .type n, rfl, fun _ r => r, .inr ⟨h, hb⟩, k, hx⟩
/-- the slot that holds the exception -/
def AtE (i : Nat) (a : Addr) (σ : L2.St) : Prop := σ[i]? = some (some (V.ref a))
def RdE (X : Cx) (P : L2.St → Prop) (d : Option Addr) (e : Expr) (b : Bool) : Prop := ∃ t, PE X e t ∧ ∀ σ H Q, P σ → HasD H d → Q (.bl b) H → t σ H Q
def RdA (X : Cx) (P : L2.St → Prop) (d : Option Addr) (es : List Expr) (bs : List Bool) : Prop := ∃ t, PA X es t ∧ ∀ σ H Q, P σ → HasD H d → Q (bs.map V.bl) H → t σ H Q
def RdL (X : Cx) (P : L2.St → Prop) (d : Option Addr) (e : Expr) (bs : List Bool) : Prop := ∃ t, PE X e t ∧ ∀ σ H Q, P σ → HasD H d → (∀ q H', Le H H' → H q = none → H' q = some (.lst (bs.map V.bl)) → Q (.ref q) H') → t σ H Q
def isE (en x : Str) (p1 p2 p3 p4 : Pos) : Expr := .Call (.Name "isinstance" p1) [.Name en p2, .Name x p3] [] p4
section
variable {X : Cx} {p : Addr × Obj} {D : Addr} {d : Option Addr} {i : Nat} {en : Str}
theorem rd_is {x : Str} {b : Bool} {p1 p2 p3 p4 : Pos} (hc : HotP X p (.ref D) d) (C : ExK X.K D) (hi : X.N[i]? = some en) (hv : Vis X.env.scope en) (he : okName en = true) (hg : Gl X "isinstance") (hm : X.mg "isinstance" = none) (hx : Gl X x) (h : IsC X.K X.mg D x b) :
    RdE X (AtE i p.1) d (isE en x p1 p2 p3 p4) b := by
  obtain ⟨c, u, r, hu, hk, k, hok⟩ := h
  have pc : PE X (.Name x p3) (tC c) := by
    rcases hk with hk | ⟨hk, hb⟩
    · exact pe_glob hx hk r (okName_d hok)
    · exact pe_bltn hx hk hb r (okName_n hok) (okName_d hok)
  refine ⟨_, pe_callB (call_isP hc C) hg hm (by decide +kernel) (pa_cons (pe_var hi hv (okName_d he) (okName_c he)) (pa_cons pc pa_nil)), fun σ H Q hp hd q => ?_⟩
  exact ⟨.ref p.1, hp, hd, c, u, b, rfl, fun w rw' => hu w rw', k, q⟩
theorem RdA.nil {P : L2.St → Prop} : RdA X P d [] [] := ⟨tNil, pa_nil, fun _ _ _ _ _ q => q⟩
theorem RdA.cons {P : L2.St → Prop} {e : Expr} {es : List Expr} {b : Bool} {bs : List Bool} (h : RdE X P d e b) (r : RdA X P d es bs) (hs : starEach (e :: es) X.env = (false, eval e X.env) :: starEach es X.env := by rfl) : RdA X P d (e :: es) (b :: bs) := by
  obtain ⟨t, p1, s1⟩ := h
  obtain ⟨u, p2, s2⟩ := r
  exact ⟨_, pa_cons p1 p2 hs, fun σ H Q hp hd q => s1 σ H _ hp hd (s2 σ H _ hp hd q)⟩
theorem RdA.lst {P : L2.St → Prop} {es : List Expr} {bs : List Bool} {pos : Pos} (h : RdA X P d es bs) (hz : bs.length ≤ sizeLine) : RdL X P d (.List es pos) bs := by
  obtain ⟨t, p1, s1⟩ := h
  refine ⟨_, pe_lst p1, fun σ H Q hp hd q => s1 σ H _ hp hd ⟨by rw [List.length_map]; exact hz, fun a ha => q a _ (le_new ha) ha upd_same⟩⟩
/-- the concatenation of two such lists -/
theorem RdL.cat {P : L2.St → Prop} {a b : Expr} {bs cs : List Bool} {pos : Pos} (ha : RdL X P d a bs) (hb : RdL X P d b cs) (hz : bs.length + cs.length ≤ sizeLine) : RdL X P d (.BinOp a .Add b pos) (bs ++ cs) := by
  obtain ⟨t, p1, s1⟩ := ha
  obtain ⟨u, p2, s2⟩ := hb
  refine ⟨_, pe_op op_cat p1 p2, fun σ H Q hp hd q => s1 σ H _ hp hd fun q1 H1 l1 n1 e1 => s2 σ H1 _ hp (hd.le l1) fun q2 H2 l2 n2 e2 => ?_⟩
  refine ⟨q1, q2, bs.map V.bl, cs.map V.bl, rfl, rfl, l2 _ _ e1, e2, by rw [List.length_map, List.length_map]; exact hz, fun q3 n3 => ?_⟩
  refine q q3 _ ((l1.trans l2).trans (le_new n3)) ((l1.trans l2).none n3) ?_
  rw [List.map_append]; exact upd_same
/-- a slot that holds such a list -/
theorem rd_varL {P : L2.St → Prop} {j : Nat} {x : Str} {pos : Pos} (hi : X.N[j]? = some x) (hv : Vis X.env.scope x) (hx : okName x = true) : ∃ t, PE X (.Name x pos) t ∧ ∀ σ H (Q : VK) q, σ[j]? = some (some (V.ref q)) → Q (.ref q) H → t σ H Q :=
  ⟨_, pe_var hi hv (okName_d hx) (okName_c hx), fun σ H Q q h hq => ⟨_, h, hq⟩⟩
end
/-! ### _law_marks -/
def spMarks (T : Tab) (ms : Nat → Option (List Bool)) : Addr → Value → Option Addr → Sp := fun a cls d vs H Q E =>
  vs = [.ref a] ∧ HasD H d ∧ ∃ c bs, cls = .ref (T.cad c) ∧ ms c = some bs ∧ ∀ q H', Le H H' → H q = none → H' q = some (.lst (bs.map V.bl)) → Q (.ref q) H'
def markNames : List Str := ["BadFrame", "OtherFrame", "BadDivisor", "NothingToUndo", "NoKind", "BadAmount", "TooLarge", "NoColumn", "NoValue", "NoName"]
/-- what the text knows of the exception class c -/
structure ExF (T : Tab) (mg : Str → Option Value) (c : Nat) (ms : List Bool) : Prop where
  k : ExK T.K (T.cad c)
  len : ms.length = 10
  mark : ∀ (j : Nat) (x : Str) (b : Bool), markNames[j]? = some x → ms[j]? = some b → IsC T.K mg (T.cad c) x b
  sift : IsC T.K mg (T.cad c) "SiftError" true
  val : IsC T.K mg (T.cad c) "ValueError" true
def MarksShape (b : List Stmt) : Prop := ∃ (a1 a2 a3 a4 b1 b2 b3 b4 c1 c2 c3 c4 d1 d2 d3 d4 e1 e2 e3 e4 f1 f2 f3 f4 g1 g2 g3 g4 h1 h2 h3 h4 i1 i2 i3 i4 j1 j2 j3 j4 p1 p2 p3 q1 q2 q3 r1 r2 r3 r4 r5 r6 : Pos),
  b = [.Assign [.Name "_law_first" p1] (.List [isE "_law_e" "BadFrame" a1 a2 a3 a4, isE "_law_e" "OtherFrame" b1 b2 b3 b4, isE "_law_e" "BadDivisor" c1 c2 c3 c4] p2) p3,
    .Assign [.Name "_law_second" q1] (.List [isE "_law_e" "NothingToUndo" d1 d2 d3 d4, isE "_law_e" "NoKind" e1 e2 e3 e4, isE "_law_e" "BadAmount" f1 f2 f3 f4, isE "_law_e" "TooLarge" g1 g2 g3 g4] q2) q3,
    .Return (some (.BinOp (.BinOp (.Name "_law_first" r1) .Add (.Name "_law_second" r2) r3) .Add (.List [isE "_law_e" "NoColumn" h1 h2 h3 h4, isE "_law_e" "NoValue" i1 i2 i3 i4, isE "_law_e" "NoName" j1 j2 j3 j4] r4) r5)) r6]
def N_marks : List Str := ["_law_e", "_law_first", "_law_second"]
def marksSc (sc : Scope) : Bool := visB sc "_law_e" && (locB sc "_law_first" && (locB sc "_law_second" && (markNames.all (glB sc) && glB sc "isinstance")))
theorem vis_loc {sc : Scope} {x : Str} (h : locB sc x = true) : Vis sc x := by
  rcases loc_of h with h | h
  · exact .inl h
  · exact .inr (.inl h)
theorem gl_ofX {X : Cx} {sc : Scope} {x : Str} (h : glB sc x = true) (e : X.env.scope = sc) : Gl X x := by
  unfold glB at h
  rw [← e] at h
  split at h
  · assumption
  · cases h
theorem ex_marks {P : Program} {w : World} {T : Tab} {mg : Str → Option Value} {base : Heap} {k : Nat} {x qual : Str} {st : Stmt} {f : Addr} {fd : FuncData} {ms : Nat → Option (List Bool)} (F : Fun T.K x qual st f fd) (S : FnScope N_marks ["_law_e"] (defScope st)) (B : Binds T.K fd ["_law_e"] [])
    (hs : MarksShape (defBody st)) (hsc : marksSc (defScope st) = true) (hm : mg "isinstance" = none) (hx : ∀ c bs, ms c = some bs → ExF T mg c bs) : FnE P w T.K mg base (k + 1) f (spMarks T ms) := by
  refine fn_ofE F S B (fun a c d vs H Q E h => by rw [h.1]; rfl) fun X H vs Q p cls d hP hw hK hmg hb hN hsc' hfn hc hr _ h => ?_
  obtain ⟨rfl, hd, c, bs, rfl, hms, q⟩ := h
  obtain ⟨ek, el, em, _, _⟩ := hx c bs hms
  obtain ⟨a1, a2, a3, a4, b1, b2, b3, b4, c1, c2, c3, c4, d1, d2, d3, d4, e1, e2, e3, e4, f1, f2, f3, f4, g1, g2, g3, g4, h1, h2, h3, h4, i1, i2, i3, i4, j1, j2, j3, j4, p1, p2, p3, q1, q2, q3, r1, r2, r3, r4, r5, r6, hbody⟩ := hs
  unfold marksSc at hsc
  simp only [Bool.and_eq_true, List.all_eq_true] at hsc
  obtain ⟨s1, s2, s3, s4, s5⟩ := hsc
  rw [hbody]
  match bs, el with
  | [m0, m1, m2, m3, m4, m5, m6, m7, m8, m9], _ =>
    have hE0 : X.N[0]? = some ("_law_e" : Str) := by rw [hN]; rfl
    have hE1 : X.N[1]? = some ("_law_first" : Str) := by rw [hN]; rfl
    have hE2 : X.N[2]? = some ("_law_second" : Str) := by rw [hN]; rfl
    have nd : X.N.Nodup := by rw [hN]; decide +kernel
    have v0 : Vis X.env.scope "_law_e" := by rw [hsc']; exact vis_of s1
    have one : ∀ (j : Nat) (x : Str) (b : Bool) (p1 p2 p3 p4 : Pos), markNames[j]? = some x → [m0, m1, m2, m3, m4, m5, m6, m7, m8, m9][j]? = some b → RdE X (AtE 0 p.1) d (isE "_law_e" x p1 p2 p3 p4) b := fun j x b p1 p2 p3 p4 k1 k2 =>
      rd_is hc (by rw [hK]; exact ek) hE0 v0 (by decide +kernel) (gl_ofX s5 hsc') (by rw [hmg]; exact hm) (gl_ofX (s4 x (List.mem_of_getElem? k1)) hsc') (by rw [hK, hmg]; exact em j x b k1 k2)
    have la : RdL X (AtE 0 p.1) d (.List [isE "_law_e" "BadFrame" a1 a2 a3 a4, isE "_law_e" "OtherFrame" b1 b2 b3 b4, isE "_law_e" "BadDivisor" c1 c2 c3 c4] p2) [m0, m1, m2] :=
      (RdA.cons (one 0 _ _ _ _ _ _ rfl rfl) (.cons (one 1 _ _ _ _ _ _ rfl rfl) (.cons (one 2 _ _ _ _ _ _ rfl rfl) .nil))).lst (by simp [sizeLine_eq])
    have lb : RdL X (AtE 0 p.1) d (.List [isE "_law_e" "NothingToUndo" d1 d2 d3 d4, isE "_law_e" "NoKind" e1 e2 e3 e4, isE "_law_e" "BadAmount" f1 f2 f3 f4, isE "_law_e" "TooLarge" g1 g2 g3 g4] q2) [m3, m4, m5, m6] :=
      (RdA.cons (one 3 _ _ _ _ _ _ rfl rfl) (.cons (one 4 _ _ _ _ _ _ rfl rfl) (.cons (one 5 _ _ _ _ _ _ rfl rfl) (.cons (one 6 _ _ _ _ _ _ rfl rfl) .nil)))).lst (by simp [sizeLine_eq])
    have lc : RdL X (AtE 0 p.1) d (.List [isE "_law_e" "NoColumn" h1 h2 h3 h4, isE "_law_e" "NoValue" i1 i2 i3 i4, isE "_law_e" "NoName" j1 j2 j3 j4] r4) [m7, m8, m9] :=
      (RdA.cons (one 7 _ _ _ _ _ _ rfl rfl) (.cons (one 8 _ _ _ _ _ _ rfl rfl) (.cons (one 9 _ _ _ _ _ _ rfl rfl) .nil))).lst (by simp [sizeLine_eq])
    obtain ⟨ta, pa, sa⟩ := la
    obtain ⟨tb, pb, sb⟩ := lb
    obtain ⟨tc, pc, sc⟩ := lc
    have w1 : PE X (.Name "_law_first" r1) (tVar 1) := pe_var hE1 (by rw [hsc']; exact vis_loc s2)
    have w2 : PE X (.Name "_law_second" r2) (tVar 2) := pe_var hE2 (by rw [hsc']; exact vis_loc s3)
    refine ⟨_, pss_cons (ps_set nd hE1 (by rw [hsc']; exact loc_of s2) pa (by rfl) (.inl (hfn _))) (pss_cons (ps_set nd hE2 (by rw [hsc']; exact loc_of s3) pb (by rfl) (.inl (hfn _))) (pss_cons (ps_ret (pe_op op_cat (pe_op op_cat w1 w2) pc)) pss_nil)), ?_⟩
    have hp0 : AtE 0 p.1 (L2.start X.N [V.ref p.1]) := rfl
    refine sa _ H _ rfl hd fun x1 H1 l1 n1 k1 => ?_
    refine sb _ H1 _ rfl (hd.le l1) fun x2 H2 l2 n2 k2 => ?_
    refine ⟨.ref x1, rfl, .ref x2, rfl, x1, x2, _, _, rfl, rfl, l2 _ _ k1, k2, by simp [sizeLine_eq], fun x3 n3 => ?_⟩
    have l3 : Le H2 (upd H2 x3 (.lst ([m0, m1, m2].map V.bl ++ [m3, m4, m5, m6].map V.bl))) := le_new n3
    refine sc _ _ _ rfl (hd.le ((l1.trans l2).trans l3)) fun x4 H4 l4 n4 k4 => ?_
    refine ⟨x3, x4, _, _, rfl, rfl, l4 _ _ upd_same, k4, by simp [sizeLine_eq], fun x5 n5 => ?_⟩
    have lt : Le H H4 := ((l1.trans l2).trans l3).trans l4
    exact q x5 _ (lt.trans (le_new n5)) (lt.none n5) upd_same
/-! ### _law_one -/
def spOne (T : Tab) (ms : Nat → Option (List Bool)) : Addr → Value → Option Addr → Sp := fun a cls d vs H Q E =>
  ∃ n, vs = [.ref a, .int n] ∧ HasD H d ∧ ∃ c bs, cls = .ref (T.cad c) ∧ ms c = some bs ∧ ∀ H', Le H H' → Q (.bl (oneB bs n)) H'
def OneShape (scope : Scope) (b : List Stmt) : Prop := ∃ (a1 a2 a3 a4 b1 b2 b3 b4 p1 p2 p3 p4 p5 p6 q1 q2 q3 r1 r2 r3 r4 r5 r6 r7 r8 r9 r10 : Pos) (j1 j2 : Nat),
  b = [.If (.BoolOp .Or [.UnaryOp .Not (isE "_law_e" "SiftError" a1 a2 a3 a4) p1, .UnaryOp .Not (isE "_law_e" "ValueError" b1 b2 b3 b4) p2] p3) [.Return (some (.Constant (.bool false) j1 p4)) p5] [] p6,
    .Return (some (.Compare (.Call (.Name "_law_marks" q1) [.Name "_law_e" q2] [] q3) [.Eq] [.ListComp (.Compare (.Name "_law_k" r1) [.Eq] [.Name "_law_at" r2] r3) [⟨.Name "_law_k" r4, .Call (.Name "range" r5) [.Constant (.int 10) j2 r6] [] r7, [], 0⟩] scope r8] r9)) r10]
def oneScope (st : Stmt) : Scope := match defBody st with
  | [_, .Return (some (.Compare _ _ [.ListComp _ _ s _] _)) _] => s
  | _ => defScope st
def N_one : List Str := ["_law_e", "_law_at", "_law_k"]
def oneSc (sc scope : Scope) : Bool := visB sc "_law_e" && (glB sc "SiftError" && (glB sc "ValueError" && (glB sc "isinstance" && (glB sc "_law_marks" && (glB sc "range" && (visB (relS scope sc) "_law_k" && (visB (relS scope sc) "_law_at" && (ownB scope "_law_k" && blkC N_one sc scope (ownP N_one [2])))))))))
abbrev sg0 : Sg := {}
abbrev oneC : C := .comp (.one 2) [2] (.rng1 (.int 10)) (.cmp .Eq (.var 2) (.var 1))
theorem one_comp (n : Int) : ev sg0 oneC [.no, .va (.int n), .no] [] = .ok (.fr ((rngL 0 10).map fun x => .bl (dEq x (.int n)))) [] := by
  unfold oneC
  rw [ev]
  have e1 : evI sg0 true (.rng1 (.int 10)) [.no, .va (.int n), .no] [] = .ok (rngL 0 10, none) [] := by
    rw [evI, ev]; rfl
  rw [e1, Res.bind_ok]
  rw [comp_map (g := fun x => .bl (dEq x (.int n)))]
  · rfl
  · intro x hx
    unfold rngL at hx
    obtain ⟨i, _, rfl⟩ := List.mem_map.mp hx
    dsimp only [setTg, wipeR, List.set]
    have e2 : ev sg0 (.cmp .Eq (.var 2) (.var 1)) [.no, .va (.int n), .va (.int (0 + (i : Int)))] [] = .ok (.d (.bl (dEq (.int (0 + (i : Int))) (.int n)))) [] := by
      rw [ev]
      have e3 : ev sg0 (.var 2) [.no, .va (.int n), .va (.int (0 + (i : Int)))] [] = .ok (.d (.int (0 + (i : Int)))) [] := by rw [ev]; rfl
      have e4 : ev sg0 (.var 1) [.no, .va (.int n), .va (.int (0 + (i : Int)))] [] = .ok (.d (.int n)) [] := by rw [ev]; rfl
      rw [e3, Res.bind_ok, e4, Res.bind_ok]
      rfl
    rw [e2]
    rfl
theorem one_snd {T : Tab} : Snd T E0 (tLc (iRng1 (tCons (tC (.int 10)) tNil)) (gTg T.K (.one 2)) tYes (tOp (cmpR T.K .Eq) (tVar 2) (tVar 1)) [2]) (ev sg0 oneC) :=
  snd_comp (snd_rng1 (snd_c (m := ev sg0 (.int 10)) (fun _ _ => by rw [ev]) fun _ _ => .int 10)) sndT_yes (snd_two (snd_var (G := sg0) 2) (snd_var (G := sg0) 1) fun σ ρ H0 H1 H G ι S Q x y v u g s hx hy p => cmp_ok .Eq g s hx hy p) (.one 2) [2] (by simp [Tg.slots])
theorem ex_one {P : Program} {w : World} {T : Tab} {mg : Str → Option Value} {base : Heap} {k : Nat} {x qual : Str} {st : Stmt} {f fm : Addr} {fd : FuncData} {scope : Scope} {ms : Nat → Option (List Bool)} (F : Fun T.K x qual st f fd) (S : FnScope N_one ["_law_e", "_law_at"] (defScope st)) (B : Binds T.K fd ["_law_e", "_law_at"] [])
    (M : FnE P w T.K mg base k fm (spMarks T ms)) (hfm : mg "_law_marks" = some (.ref fm)) (hkm : PySem.W.keepIn T.K (.ref fm) = true)
    (hs : OneShape scope (defBody st)) (hsc : oneSc (defScope st) scope = true) (hm : mg "isinstance" = none) (hmr : mg "range" = none) (hx : ∀ c bs, ms c = some bs → ExF T mg c bs) : FnE P w T.K mg base (k + 1) f (spOne T ms) := by
  refine fn_ofE F S B (fun a c d vs H Q E h => by obtain ⟨n, h, _⟩ := h; rw [h]; rfl) fun X H vs Q p cls d hP hw hK hmg hb hN hsc' hfn hc hr _ h => ?_
  obtain ⟨n, rfl, hd, c, bs, rfl, hms, q⟩ := h
  have exf := hx c bs hms
  obtain ⟨a1, a2, a3, a4, b1, b2, b3, b4, p1, p2, p3, p4, p5, p6, q1, q2, q3, r1, r2, r3, r4, r5, r6, r7, r8, r9, r10, j1, j2, hbody⟩ := hs
  unfold oneSc at hsc
  simp only [Bool.and_eq_true] at hsc
  obtain ⟨s1, s2, s3, s4, s5, s6, s7, s8, s9, s10⟩ := hsc
  rw [hbody]
  have hE0 : X.N[0]? = some ("_law_e" : Str) := by rw [hN]; rfl
  have hE1 : X.N[1]? = some ("_law_at" : Str) := by rw [hN]; rfl
  have hE2 : X.N[2]? = some ("_law_k" : Str) := by rw [hN]; rfl
  have nd : X.N.Nodup := by rw [hN]; decide +kernel
  have v0 : Vis X.env.scope ("_law_e" : Str) := by rw [hsc']; exact vis_of s1
  have i1 : RdE X (AtE 0 p.1) d (isE "_law_e" "SiftError" a1 a2 a3 a4) true := rd_is hc (by rw [hK]; exact exf.k) hE0 v0 (by decide +kernel) (gl_ofX s4 hsc') (by rw [hmg]; exact hm) (gl_ofX s2 hsc') (by rw [hK, hmg]; exact exf.sift)
  have i2 : RdE X (AtE 0 p.1) d (isE "_law_e" "ValueError" b1 b2 b3 b4) true := rd_is hc (by rw [hK]; exact exf.k) hE0 v0 (by decide +kernel) (gl_ofX s4 hsc') (by rw [hmg]; exact hm) (gl_ofX s3 hsc') (by rw [hK, hmg]; exact exf.val)
  obtain ⟨t1, pe1, sd1⟩ := i1
  obtain ⟨t2, pe2, sd2⟩ := i2
  have M' : FnE X.prog X.w X.K X.mg X.base k fm (spMarks T ms) := by rw [hP, hw, hK, hmg, hb]; exact M
  have pm : PE X (.Call (.Name "_law_marks" q1) [.Name "_law_e" q2] [] q3) (tCallE (spMarks T ms) p.1 (.ref (T.cad c)) d (tCons (tVar 0) tNil)) :=
    pe_callE M' hr hc (gl_ofX s5 hsc') (by rw [hmg]; exact hfm) (by rw [hK]; exact hkm) (pa_cons (pe_var hE0 v0) pa_nil)
  have hbk : BlkOk X.N X.env.scope scope (ownP N_one [2]) := by rw [hN, hsc']; exact blkOk_by s10
  have hu : X.A.units + 64 < cLine := by have := hr.un; omega
  have pl : PE X (.ListComp (.Compare (.Name "_law_k" r1) [.Eq] [.Name "_law_at" r2] r3) [⟨.Name "_law_k" r4, .Call (.Name "range" r5) [.Constant (.int 10) j2 r6] [] r7, [], 0⟩] scope r8)
      (tLc (iRng1 (tCons (tC (.int 10)) tNil)) (gTg T.K (.one 2)) tYes (tOp (cmpR T.K .Eq) (tVar 2) (tVar 1)) [2]) := by
    have h := pe_lcH (X := X) (elt := .Compare (.Name "_law_k" r1) [.Eq] [.Name "_law_at" r2] r3) (tg := .Name "_law_k" r4) (iter := .Call (.Name "range" r5) [.Constant (.int 10) j2 r6] [] r7) (pos := r8) (g := gTg X.K (.one 2)) (te := tOp (cmpR T.K .Eq) (tVar 2) (tVar 1)) hc.hotc nd
      (pi_range1A (gl_ofX s6 hsc') (by rw [hmg]; exact hmr) (pa_cons pe_int pa_nil)) hbk
      (fun s H C cl fp => by
        obtain ⟨l1, l2⟩ := blk_store (X := X) (s := s) (H := H) (scope := scope) (C := C) (cl := cl) (fp := fp) ("_law_k" : Str) s9
        exact pg_name (X := X.blk s H scope (compEnvC scope cl C X.env) fp) nd hE2 l1 l2)
      (fun s H C cl fp => by
        have ho := op_eqD (X := X.blk s H scope (compEnvC scope cl C X.env) fp) hu
        have ho : OpR (X.blk s H scope (compEnvC scope cl C X.env) fp) (compareOp .Eq) (cmpR T.K .Eq) := by
          rw [← hK]; exact ho
        have hsc2 : (X.blk s H scope (compEnvC scope cl C X.env) fp).env.scope = relS scope (defScope st) := by rw [← hsc']; rfl
        exact pe_cmpR ho (pe_var (X := X.blk s H scope (compEnvC scope cl C X.env) fp) hE2 (by rw [hsc2]; exact vis_of s7)) (pe_var (X := X.blk s H scope (compEnvC scope cl C X.env) fp) hE1 (by rw [hsc2]; exact vis_of s8)) (by rfl))
    rw [ownP_snd, hK] at h
    exact h
  have ho : OpR X (compareOp .Eq) (cmpR T.K .Eq) := by rw [← hK]; exact op_eqD hu
  refine ⟨_, pss_cons (ps_if (pw_or (pt_not (pt_val pe1)) (pw_or1 (pt_not (pt_val pe2)))).pt (pss_one (ps_ret pe_bl)) pss_nil) (pss_cons (ps_ret (pe_cmpR ho pm pl (by rfl))) pss_nil), ?_⟩
  refine sd1 _ H _ rfl hd ⟨true, rfl, ?_⟩
  refine sd2 _ H _ rfl hd ⟨true, rfl, ?_⟩
  dsimp only [Bool.not_true]
  rw [if_neg (show ¬ ((!true) = true) from Bool.false_ne_true)]
  refine ⟨.ref p.1, rfl, ?_⟩
  refine ⟨rfl, hd, c, bs, rfl, hms, fun x1 H1 l1 n1 e1 => ?_⟩
  have g1 := grel0 T H1
  have s1' : SRel T [some (V.ref p.1), some (V.int n), none] [.no, .va (.int n), .no] H1 G0 [] := by
    refine ⟨rfl, fun i x h => ?_, fun i l h => ?_, fun i j l k a h => ?_, fun i c l h => ?_⟩
    · match i, h with
      | 1, h => cases h; exact ⟨.int n, rfl, .int n⟩
      | 0, h => cases h
      | 2, h => cases h
      | i + 3, h => simp at h
    · match i, h with
      | 1, h => cases h
      | 0, h => cases h
      | 2, h => cases h
      | i + 3, h => simp at h
    · match i, h with
      | 1, h => cases h
      | 0, h => cases h
      | 2, h => cases h
      | i + 3, h => simp at h
    · match i, h with
      | 1, h => cases h
      | 0, h => cases h
      | 2, h => cases h
      | i + 3, h => simp at h
  refine one_snd (T := T) _ _ H1 G0 [] [] _ g1 s1' ?_
  rw [one_comp n]
  intro x2 H2 G2 ι2 st2 g2 v2
  have nx : H1 x1 ≠ none := by rw [e1]; exact fun z => nomatch z
  have lb := exf.len
  have vx : VRel T [some (V.ref p.1), some (V.int n), none] H H2 G2 ι2 (V.ref x1) (.fr (bs.map D.bl)) := by
    refine ⟨x1, bs.map V.bl, rfl, st2.frame _ _ e1 (by simp), by rw [List.length_map, lb]; simp [sizeLine_eq], ?_, st2.newG _ rfl nx, st2.newI _ (by simp) nx, n1⟩
    clear lb e1 hms exf q
    induction bs with
    | nil => exact .nil
    | cons b r ih => exact .cons (.bl b) ih
  refine cmp_okQ .Eq g2 (s1'.step st2) vx v2 (b := oneB bs n) ?_ (q H2 (l1.trans (step0 st2)))
  match bs, lb with
  | [m0, m1, m2, m3, m4, m5, m6, m7, m8, m9], _ => rfl
end Sf
end
section
set_option linter.all false
set_option maxRecDepth 100000
set_option maxHeartbeats 2000000
/-! Sf.Try: raise, try. -/
namespace Sf
open PySem PySem.Spec PyProof.Rows L2
theorem FnE.mono {P : Program} {w : World} {K : PySem.W.Frag} {mg : Str → Option Value} {base : Heap} {j k : Nat} {f : Addr} {sp : Addr → Value → Option Addr → Sp} (h : FnE P w K mg base j f sp) (hj : j ≤ k) : FnE P w K mg base k f sp :=
  ⟨fun A outer s H us vs Q p cls d hr => h.run A outer s H us vs Q p cls d (hr.mono hj)⟩
/-! ### raise C('..') -/
structure RaF (Γ : Gam) (x : Str) (c : Nat) : Prop where
  ex : PySem.W.excIn Γ.T.K (Γ.T.cad c) He.veBase "ValueError.__new__" = true
  g : Γ.mg x = some (.ref (Γ.T.cad c))
  kp : PySem.W.keepIn Γ.T.K (.ref (Γ.T.cad c)) = true
  sub : PySem.W.subIn Γ.T.K (.ref (Γ.T.cad c)) (.type "BaseException") = some true
  ty : PySem.W.typeIn Γ.T.K (.ref (Γ.T.cad c)) = some (.type "type")
section
variable {Γ : Gam} {sc : Scope} {E : XK} {sg : Sg}
theorem goodS_raise {x m : Str} {j c : Nat} {p p2 pos rpos : Pos} (h : RaF Γ x c) (hg : glB sc x = true) (hx : okName x = true) : GoodS Γ sc E (.Raise (some (.Call (.Name x p) [.Constant (.str m) j p2] [] pos)) none rpos) (exec sg (.raise c .nil)) := by
  refine ⟨fun _ σ H => E (.ref (Γ.T.cad c)) none H, fun X on => ?_, ?_⟩
  · have hK := on.on.K
    exact L2N.ps_raise on.on.calm on.takes (L2N.pmk_own PySem.F.excBase_ValueError (by rw [hK]; exact h.ex) (by rw [on.on.mg]; exact h.g) (by rw [hK]; exact h.kp) (raises_own (by rw [hK]; exact h.sub) (by rw [hK]; exact h.ty)) (on.on.gl hg) (okName_d hx))
  · intro σ ρ H G ι S z0 H0 G0 ι0 D st g f p
    have p : PostS Γ.T E z0 H0 G0 ι0 G ι D (.ex c [] S) := by
      have e : exec sg (.raise c .nil) ρ S = .ex c [] S := by rw [exec, evs]; rfl
      rw [e] at p; exact p
    exact p H G ι st g none (.inl ⟨rfl, rfl⟩)
/-! ### small expressions within the suite -/
structure OnH (Γ : Gam) (sc : Scope) (X : Cx) : Prop where
  prog : X.prog = Γ.P
  w : X.w = Γ.w
  K : X.K = Γ.T.K
  mg : X.mg = Γ.mg
  base : X.base = Γ.base
  N : X.N = Γ.N
  nd : Γ.N.Nodup
  sc : X.env.scope = sc
  room : L2H.RoomH Γ.k X.A
def GoodH (Γ : Gam) (sc : Scope) (e : Expr) (m : Rho → Hs → Res Val) : Prop := ∃ t, (∀ X, OnH Γ sc X → PE X e t) ∧ Snd Γ.T E0 t m
def okH (N : List Str) (sc : Scope) : C → Expr → Bool
  | .var i, e => match e with
    | .Name x _ => decide (N[i]? = some x) && visB sc x && okName x
    | _ => false
  | .int i, e => match e with
    | .Constant (.int j) _ _ => decide (i = j)
    | _ => false
  | .bl i, e => match e with
    | .Constant (.bool j) _ _ => decide (i = j)
    | _ => false
  | .lst .nil, e => match e with
    | .List [] _ => true
    | _ => false
  | .not a, e => match e with
    | .UnaryOp .Not x _ => okH N sc a x
    | _ => false
  | .cmp op a b, e => match e with
    | .Compare x [op'] [y] _ => decide (op = op') && notSet y && okH N sc a x && okH N sc b y
    | _ => false
  | .ix a b, e => match e with
    | .Subscript x y _ => plainIx y && okH N sc a x && okH N sc b y
    | _ => false
  | _, _ => false
theorem op_cmpH {X : Cx} {k : Nat} (hr : L2H.RoomH k X.A) (op : CmpOp) : OpR X (compareOp op) (cmpR X.K op) := by
  have h1 : X.A.units + 64 < cLine := by have := hr.un; omega
  have h2 : X.A.units + 65 < cLine := by have := hr.un; omega
  cases op
  case Eq => exact op_eqD h1
  case NotEq => exact op_neD h1
  case In => exact op_inR h2
  case NotIn => exact op_notInR h2
  case Lt => exact op_lt
  case LtE => exact op_le
  case Gt => exact op_gt
  case GtE => exact op_ge
  all_goals exact fun _ _ _ _ _ _ _ _ _ _ _ _ h => h.elim
theorem okH_good : ∀ (c : C) (e : Expr), okH Γ.N sc c e = true → GoodH Γ sc e (ev sg c)
  | .var i, e, h => by
    unfold okH at h
    split at h
    · simp only [Bool.and_eq_true, decide_eq_true_eq] at h
      obtain ⟨⟨h1, h2⟩, h3⟩ := h
      exact ⟨tVar i, fun X on => pe_var (by rw [on.N]; exact h1) (by rw [on.sc]; exact vis_of h2) (okName_d h3) (okName_c h3), snd_var i⟩
    · cases h
  | .int i, e, h => by
    unfold okH at h
    split at h
    · have h := of_decide_eq_true h
      subst h
      exact ⟨_, fun _ _ => pe_int, snd_c (fun _ _ => by rw [ev]) fun _ _ => .int _⟩
    · cases h
  | .bl i, e, h => by
    unfold okH at h
    split at h
    · have h := of_decide_eq_true h
      subst h
      exact ⟨_, fun _ _ => pe_bl, snd_c (fun _ _ => by rw [ev]) fun _ _ => .bl _⟩
    · cases h
  | .lst .nil, e, h => by
    unfold okH at h
    split at h
    · refine ⟨_, fun _ _ => pe_lst pa_nil, ?_⟩
      have := snd_lst (T := Γ.T) (E := E0) (sndA_nil (G := sg)) 0 (Nat.zero_le _) fun _ _ _ _ h => by rw [evs] at h; cases h; rfl
      exact this
    · cases h
  | .not a, e, h => by
    unfold okH at h
    split at h
    · obtain ⟨t, p, s⟩ := okH_good a _ h
      exact ⟨_, fun X on => pe_not (p X on), snd_not s⟩
    · cases h
  | .cmp op a b, e, h => by
    unfold okH at h
    split at h
    · simp only [Bool.and_eq_true, decide_eq_true_eq] at h
      obtain ⟨⟨⟨rfl, hm⟩, h1⟩, h2⟩ := h
      obtain ⟨t, p, s⟩ := okH_good a _ h1
      obtain ⟨u, q, r⟩ := okH_good b _ h2
      refine ⟨tOp (cmpR Γ.T.K op) t u, fun X on => ?_, snd_two s r fun σ ρ H0 H1 H G ι S Q x y v u g s hx hy p => cmp_ok op g s hx hy p⟩
      have h := op_cmpH (X := X) on.room op
      rw [on.K] at h
      exact pe_cmpR h (p X on) (q X on) (marks_plain hm)
    · cases h
  | .ix a b, e, h => by
    unfold okH at h
    split at h
    · simp only [Bool.and_eq_true] at h
      obtain ⟨⟨hm, h1⟩, h2⟩ := h
      obtain ⟨t, p, s⟩ := okH_good a _ h1
      obtain ⟨u, q, r⟩ := okH_good b _ h2
      refine ⟨tOp (ixR Γ.T.K) t u, fun X on => ?_, snd_two s r fun σ ρ H0 H1 H G ι S Q x y v u g s hx hy p => ix_ok g s hx hy p⟩
      have h := ix_D (X := X)
      rw [on.K] at h
      exact pe_ix h (p X on) (q X on) (ix_plain hm)
    · cases h
  | .lst (.cons _ _), e, h => by unfold okH at h; cases h
  | .str _, _, h => by unfold okH at h; cases h
  | .non, _, h => by unfold okH at h; cases h
  | .gint .., _, h => by unfold okH at h; cases h
  | .bin .., _, h => by unfold okH at h; cases h
  | .neg _, _, h => by unfold okH at h; cases h
  | .and .., _, h => by unfold okH at h; cases h
  | .or .., _, h => by unfold okH at h; cases h
  | .isN _, _, h => by unfold okH at h; cases h
  | .notN _, _, h => by unfold okH at h; cases h
  | .ite .., _, h => by unfold okH at h; cases h
  | .fld .., _, h => by unfold okH at h; cases h
  | .slc .., _, h => by unfold okH at h; cases h
  | .tup _, _, h => by unfold okH at h; cases h
  | .call .., _, h => by unfold okH at h; cases h
  | .meth .., _, h => by unfold okH at h; cases h
  | .opm .., _, h => by unfold okH at h; cases h
  | .unm .., _, h => by unfold okH at h; cases h
  | .make .., _, h => by unfold okH at h; cases h
  | .blt .., _, h => by unfold okH at h; cases h
  | .isi .., _, h => by unfold okH at h; cases h
  | .gcon .., _, h => by unfold okH at h; cases h
  | .chn .., _, h => by unfold okH at h; cases h
  | .inO .., _, h => by unfold okH at h; cases h
  | .lenO .., _, h => by unfold okH at h; cases h
  | .lstO .., _, h => by unfold okH at h; cases h
  | .cmeth .., _, h => by unfold okH at h; cases h
  | .mkv .., _, h => by unfold okH at h; cases h
  | .lenSet _, _, h => by unfold okH at h; cases h
  | .srtSet _, _, h => by unfold okH at h; cases h
  | .strm .., _, h => by unfold okH at h; cases h
  | .join .., _, h => by unfold okH at h; cases h
  | .lrg _, _, h => by unfold okH at h; cases h
  | .comp .., _, h => by unfold okH at h; cases h
  | .compIf .., _, h => by unfold okH at h; cases h
/-! ### the exception's fields -/
def tXfH (K : PySem.W.Frag) (a : Addr) (cls : Value) (d : Option Addr) (f : Str) (te : TE) : TE := fun σ H Q => te σ H fun x H1 => x = .ref a ∧ (∃ C, cls = .ref C ∧ XfC K C ∧ PySem.W.findIn K (.ref C) f = some none) ∧ ∃ (dd : Addr) (fs : List (Str × V)) (v : V), d = some dd ∧ H1 dd = some (.xd fs) ∧ fs.lookup f = some v ∧ Q v H1
theorem pe_xfH {X : Cx} {p : Addr × Obj} {cls : Value} {d : Option Addr} {e : Expr} {te : TE} {pos : Pos} {n : Str} (hc : HotP X p cls d) (he : PE X e te) (hb : attributeBase e n X.env (eval e X.env) = eval e X.env) : PE X (.Attribute e n pos) (tXfH X.K p.1 cls d n te) := by
  refine ⟨fun pins s σ H Q I h => ?_⟩
  refine attr_of hb (thn (he.run pins s σ H _ I h) fun u s1 hh => ?_)
  obtain ⟨x, H1, I1, rx, ex, ⟨C, ec, T, hno⟩, dd, fs, v, ed, ea, l, q⟩ := hh
  subst ex
  obtain rfl : u = Value.ref p.1 := rx
  obtain ⟨ha, _⟩ := I1.pin p (List.mem_append_left _ hc.mem)
  obtain ⟨vs, hd, _⟩ := hc.hot.2
  have hx : ObjOk X.prog X.w H1 s1.heap dd (.xd fs) := I1.hok dd _ ea
  obtain ⟨mA, hns, hr⟩ := hx
  obtain ⟨od, ho, hl⟩ := lookIn_ns hns
  obtain ⟨u, hu, ru⟩ := RelO.some_of (v := v) (o := mA n) (by rw [← l]; exact hr n)
  have J : PySem.W.InstAt s1.heap p.1 p.2 C (some od) := ⟨ha, by rw [hc.z.1, ec], by unfold PySem.W.notCls; rw [hd] <;> rfl, by rw [hc.z.2.1, ed]; exact ho⟩
  exact HandSPX.exc_get I1.kIn J T.ga T.gg T.exC (PySem.W.findObj_own T.hdC hno rfl (by rw [hl, hu])) (handed_of ru) ⟨v, H1, I1.tok _, ru, q⟩
/-- _law_is_int, called within the suite -/
def spInt (T : Tab) : Addr → Value → Option Addr → Sp := fun _ _ _ vs H Q _ => ∃ (v : V) (k : Kd), vs = [v] ∧ kdB k = true ∧ TyX T.K H v (kdV T k) ∧ Q (.bl (isInt k)) H
def IntShape (b : List Stmt) : Prop := ∃ (a1 a2 a3 a4 b1 b2 b3 b4 p1 p2 p3 : Pos), b = [.Return (some (.BoolOp .And [isE "_law_actual" "int" a1 a2 a3 a4, .UnaryOp .Not (isE "_law_actual" "bool" b1 b2 b3 b4) p1] p2)) p3]
def intSc (sc : Scope) : Bool := visB sc "_law_actual" && (glB sc "isinstance" && (glB sc "int" && glB sc "bool"))
theorem pe_isK {X : Cx} {x y : Str} {i : Nat} {c : V} {p1 p2 p3 p4 : Pos} (hi : X.N[i]? = some x) (hv : Vis X.env.scope x) (hx : okName x = true) (hg : Gl X "isinstance") (hm : X.mg "isinstance" = none) (hc : PE X (.Name y p3) (tC c)) :
    PE X (isE x y p1 p2 p3 p4) (tCB (rIsi X.K) (tCons (tVar i) (tCons (tC c) tNil))) :=
  pe_callB call_isi hg hm (by decide +kernel) (pa_cons (pe_var hi hv (okName_d hx) (okName_c hx)) (pa_cons hc pa_nil))
theorem ex_int {Γ : Gam} {x qual : Str} {st : Stmt} {f : Addr} {fd : FuncData} {c1 c2 : V} {u1 u2 : Value} (F : Fun Γ.T.K x qual st f fd) (S : FnScope ["_law_actual"] ["_law_actual"] (defScope st)) (B : Binds Γ.T.K fd ["_law_actual"] [])
    (hs : IntShape (defBody st)) (hsc : intSc (defScope st) = true) (hm : Γ.mg "isinstance" = none) (h1 : IsiF Γ "int" .int [] c1 u1) (h2 : IsiF Γ "bool" .bool [] c2 u2) (k : Nat) : FnE Γ.P Γ.w Γ.T.K Γ.mg Γ.base (k + 1) f (spInt Γ.T) := by
  refine fn_ofE F S B (fun a c d vs H Q E h => by obtain ⟨v, k, h, _⟩ := h; rw [h]; rfl) fun X H vs Q p cls d hP hw hK hmg hb hN hsc' hfn hc hr _ h => ?_
  obtain ⟨v, k, rfl, hkd, ty, q⟩ := h
  obtain ⟨a1, a2, a3, a4, b1, b2, b3, b4, p1, p2, p3, hbody⟩ := hs
  unfold intSc at hsc
  simp only [Bool.and_eq_true] at hsc
  obtain ⟨s1, s2, s3, s4⟩ := hsc
  rw [hbody]
  have pc : ∀ {y : Str} {t : Tk} {c : V} {u : Value} {p3 : Pos}, IsiF Γ y t [] c u → glB (defScope st) y = true → okName y = true → PE X (.Name y p3) (tC c) := fun {y t c u p3} hF hg hx => by
    rcases hF.look with hk | ⟨hk, hb⟩
    · exact pe_glob (gl_ofX hg hsc') (by rw [hmg]; exact hk) hF.rel (okName_d hx)
    · exact pe_bltn (gl_ofX hg hsc') (by rw [hmg]; exact hk) hb hF.rel (okName_n hx) (okName_d hx)
  have hE0 : X.N[0]? = some ("_law_actual" : Str) := by rw [hN]; rfl
  have v0 : Vis X.env.scope ("_law_actual" : Str) := by rw [hsc']; exact vis_of s1
  have hmi : X.mg "isinstance" = none := by rw [hmg]; exact hm
  have hk0 : kdIn [] k = true := by cases k <;> first | rfl | cases hkd
  refine ⟨_, pss_one (ps_ret (pe_and (pe_isK hE0 v0 (by decide +kernel) (gl_ofX s2 hsc') hmi (pc h1 s3 (by decide +kernel))) (pe_one (pe_not (pe_isK hE0 v0 (by decide +kernel) (gl_ofX s2 hsc') hmi (pc h2 s4 (by decide +kernel))))))), ?_⟩
  have e : isInt k = (isK .int k && !isK .bool k) := by cases k <;> first | rfl | cases hkd
  refine ⟨v, rfl, v, c1, _, u1, isK .int k, rfl, h1.cv, by rw [hK]; exact ty, by rw [hK]; exact h1.one k hk0, isK .int k, rfl, ?_⟩
  cases hi : isK .int k with
  | false =>
    rw [hi, Bool.false_and] at e
    rw [e] at q
    exact q
  | true =>
    rw [hi, Bool.true_and] at e
    rw [e] at q
    exact ⟨v, rfl, v, c2, _, u2, isK .bool k, rfl, h2.cv, by rw [hK]; exact ty, by rw [hK]; exact h2.one k hk0, isK .bool k, rfl, q⟩
/-! ### the suite's answer -/
/-- what the suite knows of the exception -/
def XAt (T : Tab) (H G : Hp) (ι : List Addr) (c : Nat) (fs : List D) (d : Option Addr) : Prop :=
  (d = none ∧ fs = []) ∨ ∃ a fv, d = some a ∧ H a = some (.xd fv) ∧ fv.map (·.1) = T.cfl c ∧ Reps T G ι (fv.map (·.2)) fs
theorem XAt.has {T : Tab} {H G : Hp} {ι : List Addr} {c : Nat} {fs : List D} {d : Option Addr} (h : XAt T H G ι c fs d) : HasD H d := by
  rcases h with h | ⟨a, fv, h1, h2, _⟩
  · exact .inl h.1
  · exact .inr ⟨a, fv, h1, h2⟩
theorem XAt.step {T : Tab} {H H' G G' : Hp} {ι ι' : List Addr} {S : Hs} {c : Nat} {fs : List D} {d : Option Addr} (h : XAt T H G ι c fs d) (g : GRel T H S G ι) (st : Step H G ι H' G' ι') : XAt T H' G' ι' c fs d := by
  rcases h with h | ⟨a, fv, h1, h2, h3, h4⟩
  · exact .inl h
  · refine .inr ⟨a, fv, h1, st.frame _ _ h2 fun hm => ?_, h3, h4.mono st.ext st.pre⟩
    obtain ⟨n, k1, k2⟩ := List.mem_iff_getElem.mp hm
    have hs : n < S.length := by rw [← g.len]; exact k1
    obtain ⟨b, vs, e1, e2, _⟩ := g.cell n S[n] (List.getElem?_eq_getElem hs)
    rw [List.getElem?_eq_getElem k1, k2] at e1
    cases e1
    rw [h2] at e2; cases e2
/-- the slots, the exception's one among them -/
def PostH (T : Tab) (H G : Hp) (ι : List Addr) (Q : VK) : Res Bool → Prop
  | .ok b S' => ∀ H' G' ι', Step H G ι H' G' ι' → GRel T H' S' G' ι' → Q (.bl b) H'
  | .ex _ _ _ => False
  | .bad => False
/-- a part of the suite's answer -/
def HaG (Γ : Gam) (sc : Scope) (ie : Nat) (e : Expr) (m : Nat → List D → Rho → Hs → Res Bool) : Prop := ∃ t : Addr → Value → Option Addr → TE,
  (∀ (X : Cx) (p : Addr × Obj) (c : Nat) (d : Option Addr), OnH Γ sc X → HotP X p (.ref (Γ.T.cad c)) d → PE X e (t p.1 (.ref (Γ.T.cad c)) d)) ∧
  ∀ (a : Addr) (c : Nat) (d : Option Addr) (σ : L2.St) (ρ : Rho) (H G : Hp) (ι : List Addr) (S : Hs) (Q : VK) (fs : List D), GRel Γ.T H S G ι → SRel Γ.T σ ρ H G ι → AtE ie a σ → XAt Γ.T H G ι c fs d → PostH Γ.T H G ι Q (m c fs ρ S) → t a (.ref (Γ.T.cad c)) d σ H Q
/-- what is known of the exceptions that may come -/
structure TryF (Γ : Gam) (ms : List (Nat × List Bool)) (xs : List (Nat × List Str)) : Prop where
  one : ∃ f, FnE Γ.P Γ.w Γ.T.K Γ.mg Γ.base Γ.k f (spOne Γ.T fun c => ms.lookup c) ∧ Γ.mg "_law_one" = some (.ref f) ∧ PySem.W.keepIn Γ.T.K (.ref f) = true
  exm : ∃ C, Γ.mg "SiftError" = some (.ref C) ∧ ∀ c bs, ms.lookup c = some bs → PySem.W.exmOne Γ.T.K (.ref (Γ.T.cad c)) (.ref C) = some true
  xf : ∀ c fl, xs.lookup c = some fl → XfC Γ.T.K (Γ.T.cad c) ∧ Γ.T.cfl c = fl ∧ fl.Nodup ∧ ∀ f ∈ fl, PySem.W.findIn Γ.T.K (.ref (Γ.T.cad c)) f = some none
  int : xs ≠ [] → ∃ f, FnE Γ.P Γ.w Γ.T.K Γ.mg Γ.base Γ.k f (spInt Γ.T) ∧ Γ.mg "_law_is_int" = some (.ref f) ∧ PySem.W.keepIn Γ.T.K (.ref f) = true
/-- the place of a field, by the class -/
def xflB (xs : List (Nat × List Str)) (f : Str) (q : Nat × Nat) : Bool := match xs.lookup q.1 with
  | some fl => decide (fl[q.2]? = some f)
  | none => false
variable {xs : List (Nat × List Str)} {ms : List (Nat × List Bool)} {ie : Nat} {en : Str}
def okHa (N : List Str) (xs : List (Nat × List Str)) (sc : Scope) (en : Str) : Ha → Expr → Bool
  | .pur c, e => okH N sc c e
  | .one c, e => match e with
    | .Call (.Name f _) [.Name x _, y] [] _ => decide (f = ("_law_one" : Str)) && glB sc "_law_one" && decide (x = en) && visB sc en && okName en && notStar y && okH N sc c y
    | _ => false
  | .int f cs, e => match e with
    | .Call (.Name g _) [.Attribute (.Name x _) f' _] [] _ => decide (g = ("_law_is_int" : Str)) && (glB sc "_law_is_int" && (decide (x = en) && (visB sc en && (okName en && (decide (f' = f) && (!xs.isEmpty && cs.all (xflB xs f)))))))
    | _ => false
  | .feq f cs c, e => match e with
    | .Compare (.Attribute (.Name x _) f' _) [.Eq] [y] _ => decide (x = en) && (visB sc en && (okName en && (decide (f' = f) && (notSet y && (cs.all (xflB xs f) && okH N sc c y)))))
    | _ => false
  | _, _ => false
theorem mem_lkN {α : Type} : ∀ {l : List (Nat × α)} {c : Nat} {p : α}, l.lookup c = some p → (c, p) ∈ l
  | [], _, _, h => by cases h
  | (k, q) :: r, c, p, h => by
    rw [List.lookup_cons] at h
    cases e : (c == k) with
    | true =>
      rw [e] at h; cases h
      rw [beq_iff_eq.mp e]; exact List.mem_cons_self
    | false =>
      rw [e] at h
      exact List.mem_cons_of_mem _ (mem_lkN h)
theorem lookup_atX {α : Type} : ∀ {fv : List (Str × α)} {p : Nat} {f : Str} {v : α}, (fv.map (·.1)).Nodup → fv[p]? = some (f, v) → fv.lookup f = some v
  | [], _, _, _, _, h => by simp at h
  | (g, w) :: r, 0, f, v, _, h => by
    simp only [List.getElem?_cons_zero, Option.some.injEq, Prod.mk.injEq] at h
    obtain ⟨rfl, rfl⟩ := h
    rw [List.lookup_cons, beq_self_eq_true]
  | (g, w) :: r, p + 1, f, v, nd, h => by
    rw [List.map_cons, List.nodup_cons] at nd
    rw [List.getElem?_cons_succ] at h
    have hne : (f == g) = false := beq_eq_false_iff_ne.mpr fun z => nd.1 (z ▸ List.mem_map.mpr ⟨_, List.mem_of_getElem? h, rfl⟩)
    rw [List.lookup_cons, hne]
    exact lookup_atX nd.2 h
/-- the field is there -/
theorem xfl_at (F : TryF Γ ms xs) {f : Str} {cs : List (Nat × Nat)} (hcs : cs.all (xflB xs f) = true) {H G : Hp} {ι : List Addr} {c : Nat} {fs : List D} {d : Option Addr} {y : D} (hx : XAt Γ.T H G ι c fs d) (e : xfl cs c fs = some y) :
    (∃ C, (Value.ref (Γ.T.cad c)) = .ref C ∧ XfC Γ.T.K C ∧ PySem.W.findIn Γ.T.K (.ref C) f = some none) ∧ ∃ (dd : Addr) (fv : List (Str × V)) (v : V), d = some dd ∧ H dd = some (.xd fv) ∧ fv.lookup f = some v ∧ Rep Γ.T G ι v y := by
  unfold xfl at e
  obtain ⟨p, hp, hy⟩ := Option.bind_eq_some_iff.mp e
  have hq := List.all_eq_true.mp hcs _ (mem_lkN hp)
  unfold xflB at hq
  dsimp only at hq
  cases hl : xs.lookup c with
  | none => rw [hl] at hq; cases hq
  | some fl =>
    rw [hl] at hq
    have hq := of_decide_eq_true hq
    obtain ⟨T, hcf, nd, hno⟩ := F.xf c fl hl
    refine ⟨⟨_, rfl, T, hno f (List.mem_of_getElem? hq)⟩, ?_⟩
    rcases hx with ⟨_, rfl⟩ | ⟨dd, fv, h1, h2, h3, h4⟩
    · simp at hy
    · obtain ⟨v, hv, rv⟩ := h4.get hy
      refine ⟨dd, fv, v, h1, h2, ?_, rv⟩
      rw [List.getElem?_map, Option.map_eq_some_iff] at hv
      obtain ⟨⟨f2, v2⟩, hv1, rfl⟩ := hv
      have hf2 : f2 = f := by
        have : (fv.map (·.1))[p]? = some f2 := by rw [List.getElem?_map, hv1]; rfl
        rw [h3, hcf, hq] at this
        exact (Option.some.inj this).symm
      subst hf2
      have nd2 : (fv.map (·.1)).Nodup := by rw [h3, hcf]; exact nd
      exact lookup_atX nd2 hv1
theorem okHa_good (F : TryF Γ ms xs) (hie : Γ.N[ie]? = some en) : ∀ (a : Ha) (e : Expr), okHa Γ.N xs sc en a e = true → HaG Γ sc ie e fun c fs => haV sg ms c fs a
  | .pur c, e, h => by
    obtain ⟨t, p, s⟩ := okH_good (sg := sg) c e h
    refine ⟨fun _ _ _ => t, fun X px k d on hc => p X on, fun px k d σ ρ H G ι S Q fs g sr _ _ q => s σ ρ H G ι S Q g sr ?_⟩
    dsimp only [haV] at q
    cases ea : ev sg c ρ S with
    | bad => rw [ea] at q; exact q.elim
    | ex _ _ _ => rw [ea] at q; exact q.elim
    | ok x S1 =>
      rw [ea, Res.bind_ok] at q
      cases x with
      | d x =>
        cases x with
        | bl b =>
          intro v H' G' ι' st g' vr
          cases vr
          exact q H' G' ι' st g'
        | _ => exact q.elim
      | _ => exact q.elim
  | .one c, e, h => by
    dsimp only [okHa] at h
    split at h
    · rename_i f p1 x p2 y p3
      simp only [Bool.and_eq_true, decide_eq_true_eq] at h
      obtain ⟨⟨⟨⟨⟨⟨rfl, h1⟩, rfl⟩, h2⟩, h3⟩, h4⟩, h5⟩ := h
      obtain ⟨t, p, s⟩ := okH_good (sg := sg) c y h5
      obtain ⟨fo, F1, F2, F3⟩ := F.one
      refine ⟨fun a cls d => tCallE (spOne Γ.T fun c => ms.lookup c) a cls d (tCons (tVar ie) (tCons t tNil)), fun X px k d on hc => ?_, fun px k d σ ρ H G ι S Q fs g sr hp hx q => ?_⟩
      · have hf : FnE X.prog X.w X.K X.mg X.base Γ.k fo (spOne Γ.T fun c => ms.lookup c) := by rw [on.prog, on.w, on.K, on.mg, on.base]; exact F1
        exact pe_callE hf on.room hc (gl_ofX h1 on.sc) (by rw [on.mg]; exact F2) (by rw [on.K]; exact F3) (pa_cons (pe_var (i := ie) (by rw [on.N]; exact hie) (by rw [on.sc]; exact vis_of h2) (okName_d h3) (okName_c h3)) (pa_cons (p X on) pa_nil (starEach_cons h4)))
          (hpl := by rw [backTo_any]; exact starEach_plain (by simp [h4]))
      refine ⟨.ref px, hp, s σ ρ H G ι S _ g sr ?_⟩
      dsimp only [haV] at q
      cases ea : ev sg c ρ S with
      | bad => rw [ea] at q; exact q.elim
      | ex _ _ _ => rw [ea] at q; exact q.elim
      | ok x S1 =>
        rw [ea, Res.bind_ok] at q
        cases x with
        | d x =>
          cases x with
          | int n =>
            intro v H' G' ι' st g' vr
            cases vr
            dsimp only at q
            cases el : ms.lookup k with
            | none => rw [el] at q; exact q.elim
            | some bs =>
              rw [el] at q
              exact ⟨n, rfl, hx.has.step g st, k, bs, rfl, el, fun H2 l2 => q H2 G' ι' (st.trans (le_step l2)) (le_grel l2 g')⟩
          | _ => exact q.elim
        | _ => exact q.elim
    · cases h
  | .isi .., e, h => by unfold okHa at h; cases h
  | .int f cs, e, h => by
    dsimp only [okHa] at h
    split at h
    · rename_i g p1 x p2 f' p3 p4
      simp only [Bool.and_eq_true, decide_eq_true_eq] at h
      obtain ⟨rfl, h1, rfl, h2, h3, rfl, h4, h5⟩ := h
      obtain ⟨fo, F1, F2, F3⟩ := F.int (by intro z; rw [z] at h4; cases h4)
      refine ⟨fun a cls d => tCallE (spInt Γ.T) a cls d (tCons (tXfH Γ.T.K a cls d f' (tVar ie)) tNil), fun X px k d on hc => ?_, fun px k d σ ρ H G ι S Q fs g sr hp hx q => ?_⟩
      · have hf : FnE X.prog X.w X.K X.mg X.base Γ.k fo (spInt Γ.T) := by rw [on.prog, on.w, on.K, on.mg, on.base]; exact F1
        have pf := pe_xfH (e := .Name x p2) (n := f') (pos := p3) hc (pe_var (i := ie) (by rw [on.N]; exact hie) (by rw [on.sc]; exact vis_of h2) (okName_d h3) (okName_c h3)) (by rfl)
        rw [on.K] at pf
        exact pe_callE hf on.room hc (gl_ofX h1 on.sc) (by rw [on.mg]; exact F2) (by rw [on.K]; exact F3) (pa_cons pf pa_nil)
      dsimp only [haV] at q
      cases ex : xfl cs k fs with
      | none => rw [ex] at q; exact q.elim
      | some y =>
        rw [ex] at q
        dsimp only at q
        cases ek : kind (.d y) with
        | none => rw [ek] at q; exact q.elim
        | some kd =>
          rw [ek] at q
          dsimp only at q
          by_cases hb : kdB kd = true
          · rw [if_pos hb] at q
            obtain ⟨hC, dd, fv, v, h6, h7, h8, rv⟩ := xfl_at F h5 hx ex
            refine ⟨.ref px, hp, rfl, hC, dd, fv, v, h6, h7, h8, ?_⟩
            refine ⟨v, kd, rfl, hb, ty_of (σ := σ) (H0 := H) g (v := .d y) rv ek (by cases kd <;> first | trivial | cases hb), q H G ι (Step.refl _ _ _) g⟩
          · rw [if_neg hb] at q; exact q.elim
    · cases h
  | .feq f cs c, e, h => by
    dsimp only [okHa] at h
    split at h
    · rename_i x p2 f' p3 y p4
      simp only [Bool.and_eq_true, decide_eq_true_eq] at h
      obtain ⟨rfl, h2, h3, rfl, h4, h5, h6⟩ := h
      obtain ⟨t, p, s⟩ := okH_good (sg := sg) c y h6
      refine ⟨fun a cls d => tOp (cmpR Γ.T.K .Eq) (tXfH Γ.T.K a cls d f' (tVar ie)) t, fun X px k d on hc => ?_, fun px k d σ ρ H G ι S Q fs g sr hp hx q => ?_⟩
      · have pf := pe_xfH (e := .Name x p2) (n := f') (pos := p3) hc (pe_var (i := ie) (by rw [on.N]; exact hie) (by rw [on.sc]; exact vis_of h2) (okName_d h3) (okName_c h3)) (by rfl)
        have ho := op_cmpH (X := X) on.room .Eq
        rw [on.K] at pf ho
        exact pe_cmpR ho pf (p X on) (marks_plain h4)
      dsimp only [haV] at q
      cases ex : xfl cs k fs with
      | none => rw [ex] at q; exact q.elim
      | some z =>
        rw [ex] at q
        dsimp only at q
        obtain ⟨hC, dd, fv, v, h6, h7, h8, rv⟩ := xfl_at F h5 hx ex
        refine ⟨.ref px, hp, rfl, hC, dd, fv, v, h6, h7, h8, ?_⟩
        refine s σ ρ H G ι S _ g sr ?_
        cases ea : ev sg c ρ S with
        | bad => rw [ea] at q; exact q.elim
        | ex _ _ _ => rw [ea] at q; exact q.elim
        | ok w S1 =>
          rw [ea, Res.bind_ok] at q
          intro y H' G' ι' st g' vr
          cases eq : eqV ρ S1 (.d z) w with
          | none => rw [eq] at q; exact q.elim
          | some b =>
            rw [eq] at q
            exact cmp_okQ .Eq g' (sr.step st) (H0 := H) (x := .d z) (rv.mono st.ext st.pre) vr eq (q H' G' ι' st g')
    · cases h
def okHd (N : List Str) (xs : List (Nat × List Str)) (sc : Scope) (en : Str) : List Ha → List Expr → Bool
  | [], [] => true
  | a :: r, e :: es => okHa N xs sc en a e && okHd N xs sc en r es
  | _, _ => false
theorem okHd_good (F : TryF Γ ms xs) (hie : Γ.N[ie]? = some en) {pos : Pos} : ∀ (l : List Ha) (a : Ha) (e : Expr) (es : List Expr), okHa Γ.N xs sc en a e = true → okHd Γ.N xs sc en l es = true → HaG Γ sc ie (.BoolOp .And (e :: es) pos) fun c fs => hdV sg ms c fs (a :: l)
  | [], a, e, es, h1, h2 => by
    cases es with
    | cons _ _ => cases h2
    | nil =>
      obtain ⟨t, p, s⟩ := okHa_good (sg := sg) F hie a e h1
      exact ⟨t, fun X px k d on hc => pe_one (p X px k d on hc), s⟩
  | b :: l, a, e, es, h1, h2 => by
    cases es with
    | nil => cases h2
    | cons e2 es =>
      unfold okHd at h2
      rw [Bool.and_eq_true] at h2
      obtain ⟨t, p, s⟩ := okHa_good (sg := sg) F hie a e h1
      obtain ⟨u, q, r⟩ := okHd_good F hie (pos := pos) l b e2 es h2.1 h2.2
      refine ⟨fun a cls d => tAndV (t a cls d) (u a cls d), fun X px k d on hc => pe_and (p X px k d on hc) (q X px k d on hc), fun px k d σ ρ H G ι S Q fs g sr hp hx w => s px k d σ ρ H G ι S _ fs g sr hp hx ?_⟩
      dsimp only [hdV] at w
      cases ea : haV sg ms k fs a ρ S with
      | bad => rw [ea] at w; exact w.elim
      | ex _ _ _ => rw [ea] at w; exact w.elim
      | ok x S1 =>
        rw [ea, Res.bind_ok] at w
        show PostH _ _ _ _ _ (haV sg ms k fs a ρ S)
        rw [ea]
        intro H' G' ι' st g'
        refine ⟨x, rfl, ?_⟩
        cases x with
        | false => exact w H' G' ι' st g'
        | true =>
          refine r px k d σ ρ H' G' ι' S1 Q fs g' (sr.step st) hp (hx.step g st) ?_
          have w : PostH Γ.T H G ι Q (hdV sg ms k fs (b :: l) ρ S1) := w
          cases eb : hdV sg ms k fs (b :: l) ρ S1 with
          | bad => rw [eb] at w; exact w.elim
          | ex _ _ _ => rw [eb] at w; exact w.elim
          | ok y S2 =>
            rw [eb] at w
            show PostH _ _ _ _ _ (hdV sg ms k fs (b :: l) ρ S1)
            rw [eb]
            exact fun H2 G2 ι2 st2 g2 => w H2 G2 ι2 (st.trans st2) g2
def okHdE (N : List Str) (xs : List (Nat × List Str)) (sc : Scope) (en : Str) : List Ha → Expr → Bool
  | [a], e => okHa N xs sc en a e
  | a :: b :: l, e => match e with
    | .BoolOp .And (x :: y :: es) _ => okHa N xs sc en a x && okHd N xs sc en (b :: l) (y :: es)
    | _ => false
  | [], _ => false
theorem okHdE_good (F : TryF Γ ms xs) (hie : Γ.N[ie]? = some en) (l : List Ha) (e : Expr) (h : okHdE Γ.N xs sc en l e = true) : HaG Γ sc ie e fun c fs => hdV sg ms c fs l := by
  match l, h with
  | [a], h => exact okHa_good F hie a e h
  | a :: b :: l, h =>
    dsimp only [okHdE] at h
    split at h
    · rw [Bool.and_eq_true] at h
      exact okHd_good F hie (b :: l) a _ _ h.1 h.2
    · cases h
/-! ### try: x = f(..), except SiftError as e: return .. -/
theorem run_fnRS {X : Cx} {CX : CXT} {k : Nat} {f : Addr} {sp : Sp} {E' : XK} {Q : VK} {us : List Value} {vs : List V} {pins : List (Addr × Obj)} {σ : L2.St} {H : Hp} {s : Shared} (F : FnR X.prog X.w X.K X.mg X.base CX k f sp) (hr : Room k X.A) (hx : PassesAt CX X σ E') (I : Inv X pins σ H s) (r : Vals vs us) (h : sp vs H Q E') :
    codeAny (model X.prog X.w) X.A (.call (.ref f) ⟨us, []⟩) (fun r s' => match r with | .ok (.ret v) => EP X pins σ Q v s' | .ok _ => False | .error e => X.xe e s') s := by
  refine codeAny_mono (F X.A X.stack s H us vs Q E' hr I.env0 r h) fun r s' hq => ?_
  cases r with
  | error e => exact hx pins H s e s' I hq
  | ok fl =>
    cases fl with
    | ret u => exact I.after hq
    | next => exact False.elim hq
    | brk => exact False.elim hq
    | cont => exact False.elim hq
theorem pe_callRS {X : Cx} {CX : CXT} {k : Nat} {f : Addr} {sp : Sp} {E' : L2.St → XK} {x : Str} {p pos : Pos} {e : Expr} {es : List Expr} {t : TA} (F : FnR X.prog X.w X.K X.mg X.base CX k f sp) (hr : Room k X.A) (hg : Gl X x) (hm : X.mg x = some (.ref f)) (hk : PySem.W.keepIn X.K (.ref f) = true) (hx : ∀ σ, PassesAt CX X σ (E' σ))
    (ha : PA X (e :: es) t) (hdb : (x == ("__debug__" : Str)) = false) (he : starEach (e :: es) X.env = (false, eval e X.env) :: starEach es X.env) (hpl : (backTo pos (starEach es X.env)).any (·.1) = false) :
    PE X (.Call (.Name x p) (e :: es) [] pos) (tCallS sp E' t) := by
  refine ⟨fun pins s σ H Q I h => ?_⟩
  refine wpAny_Call_Name_kw (ld_glob I hg hm ?_ hdb)
  refine PySem.W.callWith_K (h₀ := X.base) I.ok.mod.kin hk (thn (ha.run pos pins s σ H _ I h) fun us s1 ⟨vs, H1, I1, r, q⟩ => ⟨I1.kIn, ?_⟩) he hpl
  exact wpAny_call (run_fnRS F hr (hx σ) I1 r q)
theorem SRel.setNoX {T : Tab} {σ : L2.St} {ρ : Rho} {H G : Hp} {ι : List Addr} {i : Nat} {v : V} (s : SRel T σ ρ H G ι) (h : ρ[i]? = some .no) : SRel T (σ.set i (some v)) ρ H G ι where
  len := by rw [List.length_set]; exact s.len
  va := fun j x e => by
    have q : i ≠ j := fun q => by subst q; rw [h] at e; cases e
    rw [List.getElem?_set_ne q]; exact s.va j x e
  ac := fun j x e => by
    have q : i ≠ j := fun q => by subst q; rw [h] at e; cases e
    rw [List.getElem?_set_ne q]; exact s.ac j x e
  di := fun j k l m a e1 e2 e3 e4 => by
    have q : i ≠ j := fun q => by subst q; rw [h] at e1; cases e1
    have q2 : i ≠ k := fun q => by subst q; rw [h] at e2; cases e2
    rw [List.getElem?_set_ne q] at e3
    rw [List.getElem?_set_ne q2] at e4
    exact s.di j k l m a e1 e2 e3 e4
  ii := fun j c l e => by
    have q : i ≠ j := fun q => by subst q; rw [h] at e; cases e
    rw [List.getElem?_set_ne q]; exact s.ii j c l e
theorem hot_suite {X : Cx} {a : Addr} {oe : Obj} {cls : Value} {d : Option Addr} {pn : List (Addr × Obj)} (hz : L2N.Zn cls d oe) (hd : ∃ vs, oe.data = .fields vs) : HotP (X.suite a ((a, oe) :: pn)) (a, oe) cls d := by
  obtain ⟨vs, hd⟩ := hd
  exact ⟨⟨rfl, vs, hd, hz.2.2 vs hd⟩, List.mem_cons_self, hz⟩
theorem onH_suite {X : Cx} (on : On Γ sc E X) {a : Addr} {pn : List (Addr × Obj)} : OnH Γ sc (X.suite a pn) :=
  ⟨on.prog, on.w, on.K, on.mg, on.base, on.N, on.nd, on.sc, ⟨on.room.dp, on.room.un⟩⟩
theorem on_tr {X : Cx} (on : On Γ sc E X) {pn : List (Addr × Obj)} {xe : Value → Shared → Prop} : On Γ sc E0 (X.tr pn xe) :=
  ⟨on.prog, on.w, on.K, on.mg, on.base, on.N, on.nd, on.sc, on.calm, on.room, passN⟩
theorem goodS_try {x f : Str} {px pf pc pa np pr pos' pos : Pos} {e : Expr} {es : List Expr} {he : Expr} {i k : Nat} {as : Cs} {h : List Ha} {Fn : Fn} (F : TryF Γ ms xs) (hk : sg.fn[k]? = some Fn) (hF : FnF Γ f Fn) (hg : glB sc f = true) (hfx : okName f = true) (hs : (e :: es).all notStar = true)
    (ha : GoodA Γ sc E0 (e :: es) (evs sg as)) (hx : Γ.N[i]? = some x) (hl : locB sc x = true) (hie : Γ.N[ie]? = some en) (hel : sc.names.lookup en = some .local) (hgS : glB sc "SiftError" = true) (hh : okHdE Γ.N xs sc en h he = true) :
    GoodS Γ sc E (.Try [.Assign [.Name x px] (.Call (.Name f pf) (e :: es) [] pc) pa] [.ExceptHandler (some (.Name "SiftError" np)) (some en) [.Return (some he) pr] pos'] [] [] pos) (exec sg (.tryF i k as ie ms h)) := by
  obtain ⟨ta, pta, sa⟩ := ha
  obtain ⟨fa, hok, hm, hkp⟩ := hF.at_
  obtain ⟨C, gC, hex⟩ := F.exm
  obtain ⟨th, pth, sth⟩ := okHdE_good (sg := sg) F hie h he hh
  rw [List.all_cons, Bool.and_eq_true] at hs
  let ts : Addr → Value → Option Addr → TS := fun a cls d D σ H => (∃ c, cls = .ref (Γ.T.cad c)) ∧ tRet (th a cls d) D σ H
  let tb : WX → TS := fun W => tAsg (tCallS (spR Γ.T Fn) (WE W) ta) (gName i)
  refine ⟨fun D σ H => tb (wAs Γ.T.K (.ref C) ie ts (fun cls d _ H => E cls d H) D) D σ H, fun X on => ?_, ?_⟩
  · have nd : X.N.Nodup := by rw [on.on.N]; exact on.on.nd
    have hP := L2N.ps_try_as (X := X) (x := "SiftError") (n := en) (c := .ref C) (i := ie) (body := [.Assign [.Name x px] (.Call (.Name f pf) (e :: es) [] pc) pa]) (b₀ := .Return (some he) pr) (suite := []) (np := np) (pos := pos) (pos' := pos') (tb := tb) (ts := ts) (Wout := fun cls d _ H => E cls d H)
      on.stk on.frm nd (by rw [on.on.N]; exact hie) (by show X.env.scope.names.lookup en = _; rw [on.on.sc]; exact hel) ⟨on.on.gl hgS, by decide +kernel, .inl (by rw [on.on.mg]; exact gC)⟩ on.takes
      (fun W pn xe tk po => pss_one (ps_set nd (by rw [on.on.N]; exact hx) (by show Loc X.env.scope x; rw [on.on.sc]; exact loc_of hl)
        (pe_callRS (X := X.tr pn xe) (CX := L2N.CX X.prog X.w) (k := Γ.k) ((on_tr on.on).fr hok) on.on.room ((on_tr (pn := pn) (xe := xe) on.on).gl hg) (by rw [(on_tr (pn := pn) (xe := xe) on.on).mg]; exact hm) (by rw [(on_tr (pn := pn) (xe := xe) on.on).K]; exact hkp) (fun σ => L2N.passAt tk σ)
          (pta _ (on_tr on.on)) (okName_d hfx) (starEach_cons hs.1) (by rw [backTo_any]; exact starEach_plain hs.2)) (swaps_plain (by rfl)) (.inl (on.fn x))))
      (fun a oe cls d pn hz hd => ⟨fun pins s σ H D I w => by
        obtain ⟨⟨c, rfl⟩, w⟩ := w
        exact (pss_one (ps_ret (pth _ (a, oe) c d (onH_suite on.on) (hot_suite hz hd)))).run pins s σ H D I w⟩)
    rw [on.on.K] at hP
    exact hP
  · intro σ ρ H G ι S z0 H0 G0 ι0 D st g f p
    refine sa σ ρ H G ι S _ g f.s ?_
    rw [exec] at p
    cases ea : evs sg as ρ S with
    | bad => rw [ea] at p; exact p.elim
    | ex c fs S' => rw [ea] at p; exact p.elim
    | ok ds S1 =>
      rw [ea] at p
      dsimp only at p
      rw [hk] at p
      dsimp only at p
      intro vs H1 G1 ι1 st1 g1 rs
      refine ⟨ds, S1, G1, ι1, g1, rs, ?_⟩
      cases ef : Fn ds S1 with
      | bad => rw [ef] at p; exact p.elim
      | ok v S2 =>
        rw [ef] at p
        dsimp only at p
        intro y H2 G2 ι2 st2 g2 vr
        cases ed : v.toD with
        | none => rw [ed] at p; exact p.elim
        | some d =>
          rw [ed] at p
          obtain ⟨G2', st2', g2', _, rx⟩ := toD_rel st2 g2 vr ed
          have stt := st1.trans st2'
          exact p _ H2 G2' ι2 (Stp.of st stt) g2' ((f.step stt).setVa i rx)
      | ex c fs S2 =>
        rw [ef] at p
        dsimp only at p
        cases er : (ρ[ie]? : Option Sl) with
        | none => rw [er] at p; exact p.elim
        | some sl =>
          rw [er] at p
          cases el : ms.lookup c with
          | none => rw [el] at p; cases sl <;> exact p.elim
          | some bs =>
            rw [el] at p
            cases sl with
            | no =>
              dsimp only at p
              intro H' G' ι' u g' d hd
              refine ⟨true, hex c bs el, fun _ a na => ⟨⟨c, rfl⟩, ?_⟩, fun z => nomatch z⟩
              have stt := st1.trans u
              have hlt : ie < σ.length := by rw [f.s.len]; exact (List.getElem?_eq_some_iff.mp er).1
              refine sth a c d (σ.set ie (some (.ref a))) ρ H' G' ι' S2 D.rt fs g' ((f.s.step stt).setNoX er) (List.getElem?_set_self hlt) hd ?_
              cases eh : hdV sg ms c fs h ρ S2 with
              | bad => rw [eh] at p; exact p.elim
              | ok b S3 =>
                rw [eh] at p
                show PostH _ _ _ _ _ (hdV sg ms c fs h ρ S2)
                rw [eh]
                intro H2 G2 ι2 st2 g2
                exact p (.bl b) σ H2 G2 ι2 (Stp.of st (stt.trans st2)) g2 (fun _ z => nomatch z) (.bl b)
              | ex c' fs' S3 => rw [eh] at p; exact p.elim
            | _ => exact p.elim
end
end Sf
end
section
set_option linter.all false
set_option maxRecDepth 100000
set_option maxHeartbeats 4000000
/-! Sf.Sup: own exceptions whose __init__ says super().__init__('..') and keeps its arguments. -/
namespace Sf
open PySem PySem.Spec PySem.Calls PyProof.Rows L2
section
variable {prog : Program} {w : World} {A : Around} {E : Value → Shared → Prop} {h : Heap} {g : Array GenState} {d : Drawn} {t : Nat} {os : OsState}
/-- ValueError.__init__ bound to the exception, called -/
theorem bw_call {nm qn : Str} {C N e u t0 : Addr} {bs bm : List Value} {hdct : Bool} {sn : List Str} {sub : List Value} {ab : Bool} {col : Option Bool} {dd : Option Addr} {k0 k1 k2 k3 k5 : Option Value} {rest : List Value} {Q : Value → Shared → Prop}
    (hC : h.get? C = some (excClassObj nm qn C N bs bm hdct sn sub ab col dd k0 k1 k2 k3 k5 "ValueError.__new__")) (he : h.get? e = some (HandSPX.excO C t0)) (hu : h.get? u = some (W.kxs_mw "ValueError.__init__" e)) (hz : rest.length ≤ sizeLine)
    (hq : ∀ h' t1, (∀ b o, b ≠ e → h.get? b = some o → h'.get? b = some o) → h'.get? e = some (HandSPX.excO C t1) → Q .none ⟨h', g, d, t, os⟩) :
    wpAny (model prog w) A (call (.ref u) rest) Q E ⟨h, g, d, t, os⟩ := by
  refine wpAny_call (codeAny_of_tree ?_)
  show wpAny _ A.in1 (callAny (.ref u) ⟨rest, []⟩) _ _ _
  simp only [callAny]
  refine wpAny_bind (wpAny_load hu ?_)
  simp only [W.kxs_mw, show (Value.type "method-wrapper" == Value.type "method" || Value.type "method-wrapper" == Value.type "builtin_function_or_method" || Value.type "method-wrapper" == Value.type "method-wrapper") = true by decide, if_true]
  refine W.KFB.if_so (by decide) ?_
  refine wpAny_bind (W.check_bound_init F.excBase_ValueError.toExcCallFacts hC he rfl ?_)
  refine wpAny_bind (wpAny_pure (wpAny_pure ?_))
  refine ⟨Code.quiet_builtin _ (by decide +kernel), codeAny_builtin F.excBase_ValueError.initEntry ?_⟩
  rw [Around.under_plainId F.excBase_ValueError.init.plain _]
  wp_walk
  refine hq _ h.objs.size (fun b o hb ho => ?_) ?_
  · rw [Heap.get?_update_other _ _ (Ne.symm hb)]
    exact Heap.get?_push_of_some _ ho
  · rw [Heap.get?_update_self _ (Heap.get?_push_of_some _ he) rfl]
    rfl
end
/-- self.f = x, the parameters kept under these names -/
def storesOf : List (Str × Str × Pos × Pos × Pos × Pos) → List Stmt
  | [] => []
  | (f, x, p1, p2, p3, p4) :: r => .Assign [.Attribute (.Name "self" p1) f p2] (.Name x p3) p4 :: storesOf r
/-- what the written part says of such a class -/
structure SupC (prog : Program) (K : W.Frag) (mg : Str → Option Value) (C : Addr) (fI : Addr) (fl : List (Str × Str)) : Prop where
  cls : ∃ nm q N bs bm sn sub ab col dd k0 k1 k2 k3 k5, K.lookup C = some (excClassObj nm q C N bs bm true sn sub ab col dd k0 k1 k2 k3 k5 "ValueError.__new__") ∧ HandSPX.refsVE bm = true
  sa : W.findIn K (.ref C) "__setattr__" = some (some (.builtin "object.__setattr__"))
  exC : W.subIn K (.ref C) (.type "BaseException") = some true
  tyC : W.typeIn K (.ref C) = some (.type "type")
  kC : W.keepIn K (.ref C) = true
  hi : W.findIn K (.ref C) "__init__" = some (some (.ref fI))
  tI : W.typeIn K (.ref fI) = some (.type "function")
  veC : W.subIn K (.ref C) (.type "ValueError") = some true
  no : W.nsIn K cStatics "thirdparty.any" = some none
  nf : ∀ q ∈ fl, W.findIn K (.ref C) q.1 = some none
  fn : ∃ (oc : Value) (od : Option Addr) (osl : Array (Option Value)) (name qual : Str) (params : Arguments) (body : List Stmt) (scope : Scope) (dV kV doc pm ct : Value) (an : Option Addr) (cda cc D : Addr) (ps : List (Str × Str × Pos × Pos × Pos × Pos)) (p0 p1 p2 p3 p4 p5 : Pos) (m : Str) (j : Nat),
    (p2.endLine == p4.line) = true ∧ K.lookup fI = some ⟨oc, od, .func (W.ksFn name qual params body scope dV kV doc pm an (.ref cda) ct cc), osl⟩ ∧ W.codeIn K (.ref cda) qual = true ∧
    body = .Expr (.Call (.Attribute (.Call (.Name "super" p0) [] [] p1) "__init__" p2) [.Constant (.str m) j p3] [] p4) p5 :: storesOf ps ∧ ps.map (fun z => (z.1, z.2.1)) = fl ∧
    (∃ (ar : Arg), (params.posonlyargs ++ params.args).head? = some ar ∧ ar.arg = ("self" : Str)) ∧
    (∀ us : List Value, us.length = fl.length + 1 → bindArgs (W.ksFn name qual params body scope dV kV doc pm an (.ref cda) ct cc) ⟨us, []⟩ = pure ((("self" : Str) :: fl.map (·.2)).zip us)) ∧
    scope.kind = .function ∧ scope.isCoroutine = false ∧ scope.isGenerator = false ∧ (∀ x ∈ scope.names, x.2 ≠ .cell) ∧ (∀ x ∈ (("self" : Str) :: fl.map (·.2)), scope.names.lookup x = some .local) ∧
    scope.names.lookup ("super" : Str) = some .globalImplicit ∧ scope.names.lookup ("__class__" : Str) = some .free ∧
    (∃ (ccl : Value) (cdd : Option Addr) (vs : Array Value) (ccs : Array (Option Value)) (file : Str) (tf : Tok), K.lookup cda = some ⟨ccl, cdd, .fields vs, ccs⟩ ∧ vs[2]? = some (.str file tf) ∧ ((prog.main.file : Str) == file) = true) ∧
    (∃ (cl : Value) (cld : Option Addr) (csl : Array (Option Value)), K.lookup cc = some ⟨cl, cld, .cell (some (.ref D)), csl⟩) ∧ (W.clsIn K D).isSome = true ∧ W.mroIn K C (.ref D) = some true ∧
    W.ks_superIn K C D "__init__" = some (some (.builtin "ValueError.__init__"))
  db : ∀ q ∈ fl, (q.2 == ("__debug__" : Str)) = false
  nd : (("self" : Str) :: fl.map (·.2)).Nodup
  nn : (fl.map (·.1)).Nodup
  sg : mg "super" = none
  top : (prog.main.scope.names.lookup ("super" : Str)).isSome = false
  len : fl.length ≤ 3 ∧ fl ≠ []
/-- the names in the order in which they were kept -/
def putM (m : Str → Option Value) : List (Str × Value) → Str → Option Value
  | [] => m
  | (f, v) :: r => putM (fun y => if y = f then some v else m y) r
section
variable {prog : Program} {w : World} {A : Around} {E : Value → Shared → Prop} {K : W.Frag} {C : Addr}
/-- the further fields -/
theorem stores_old {nm qn : Str} {N : Addr} {bs bm : List Value} {sn : List Str} {sub : List Value} {ab : Bool} {col : Option Bool} {dd : Option Addr} {k0 k1 k2 k3 k5 : Option Value} {env : Env} {e dx : Addr} {fv : Array Value} {ml : Str → Option Value} {Q : Flow → Shared → Prop} {g : Array GenState} {d : Drawn} {os : OsState}
    (hC : K.lookup C = some (excClassObj nm qn C N bs bm true sn sub ab col dd k0 k1 k2 k3 k5 "ValueError.__new__")) (hbm : HandSPX.refsVE bm = true) (sa : W.findIn K (.ref C) "__setattr__" = some (some (.builtin "object.__setattr__")))
    (hk : env.scope.kind = .function) (hks : env.kindOf "self" = some .local) (hvs : ml "self" = some (.ref e)) (hdL : dx ≠ env.locals) (hKd : ∀ a o, K.lookup a = some o → a ≠ dx) (hed : e ≠ dx) :
    ∀ (ps : List ((Str × Str × Pos × Pos × Pos × Pos) × Value)) (hp : Heap) (t : Nat) (m0 : Str → Option Value) (nl : List Str), K.In hp → hp.get? e = some { cls := .ref C, dict := some dx, data := .fields fv } → hp.Ns1 dx m0 → Within m0 nl → nl.length + ps.length ≤ 1000 → hp.Ns env.locals ml →
      (∀ z ∈ ps, env.kindOf z.1.2.1 = some .local ∧ ml z.1.2.1 = some z.2 ∧ W.findIn K (.ref C) z.1.1 = some none ∧ (z.1.2.1 == ("__debug__" : Str)) = false) →
      (∀ h' tk, (∀ b o, b ≠ dx → hp.get? b = some o → h'.get? b = some o) → h'.Ns1 dx (putM m0 (ps.map fun z => (z.1.1, z.2))) → Q .next ⟨h', g, d, tk, os⟩) →
      wpAny (model prog w) A (PySem.execs (storesOf (ps.map (·.1))) env) Q E ⟨hp, g, d, t, os⟩
  | [], hp, t, m0, nl, X, he, hn, hw, hz, hL, hps, hq => wpAny_execs_nil (hq hp t (fun _ _ _ z => z) hn)
  | ((f, x, p1, p2, p3, p4), v) :: ps, hp, t, m0, nl, X, he, hn, hw, hz, hL, hps, hq => by
    obtain ⟨z1, z2, z3, z4⟩ := hps _ List.mem_cons_self
    have hcl : W.clsIn K C = some { name := nm, bases := bs, mro := .ref C :: bm, ns := N, qualname := qn, hasDict := true, slotNames := sn, subclasses := sub, abstract := ab, collection := col, hasDel := false } := by unfold W.clsIn; rw [hC] <;> rfl
    obtain ⟨oD, _, _, hoD, _, _⟩ := hn.count hw
    refine wpAny_execs_cons (plainObj_wpAny_Assign_Attribute ?_ (by rfl))
    refine ESX.ldL (s := ⟨hp, g, d, t, os⟩) hL z2 ?_ hk z1 z4
    refine ESX.ldL (s := ⟨hp, g, d, t, os⟩) hL hvs ?_ hk hks (by decide +kernel)
    refine W.set_plain X (ox := { cls := .ref C, dict := some dx, data := .fields fv }) (od := some oD) ⟨he, rfl, rfl, hoD⟩ sa ?_
    refine OEX.osa_old X he hn hw (by rw [List.length_cons] at hz; omega) hcl (show HandSPX.refsVE (.ref C :: bm) = true from hbm) rfl z3 (fun h' tk' k hn' => ?_)
    exact stores_old hC hbm sa hk hks hvs hdL hKd hed ps h' tk' _ (f :: nl) (fun a o z => k _ _ (hKd a o z) (X a o z)) (k _ _ hed he) hn' (Within.cons f v hw) (by rw [List.length_cons] at hz ⊢; omega) (hL.at fun o z => k _ _ hdL.symm z)
      (fun z hz => hps z (List.mem_cons_of_mem _ hz)) fun h2 tk2 k2 hn2 => hq h2 tk2 (fun b o hb z => k2 b o hb (k b o hb z)) hn2
end
theorem sup_tree {o : Expr} {m : Str} {apos pos : Pos} {es : List Expr} {env : Env} (h : es.all notStar = true) (hl : es.length < 30) (hp : (apos.endLine == pos.line) = true) :
    eval (.Call (.Attribute o m apos) es [] pos) env = (do
      let ov ← attributeBase o m env (eval o env)
      standAt apos.atName
      let (f, first) ← holding [ov] (getMethod ov m (do return (← importBound o env).getD true))
      callWith pos f first (backTo pos (starEach es env)) []) := by
  have e1 : eval (.Call (.Attribute o m apos) es [] pos) env = (do
      let ov ← attributeBase o m env (eval o env)
      standAt apos.atName
      methodCall o m apos pos env ov (es.length + ([] : List Keyword).length) (backTo pos (starEach es env)) (backToKw pos (keywordEach [] env))) := rfl
  have e2 : ∀ ov, methodCall o m apos pos env ov (es.length + ([] : List Keyword).length) (backTo pos (starEach es env)) (backToKw pos (keywordEach [] env)) = (do
      let (f, first) ← holding [ov] (getMethod ov m (do return (← importBound o env).getD true))
      callWith pos f first (backTo pos (starEach es env)) []) := fun ov => by
    unfold methodCall
    rw [form_few h hl]
    unfold methodCallPos
    rw [if_pos (by rw [hp]; rfl)]
    rfl
  rw [e1]
  simp only [e2]
section
variable {prog : Program} {w : World} {A : Around} {K : W.Frag} {mg mb : Str → Option Value} {C fI : Addr} {fl : List (Str × Str)} {h : Heap} {g : Array GenState} {d : Drawn} {t : Nat} {os : OsState} {R : Result → Shared → Prop}
theorem sup_code {e t0 : Addr} {us : List Value} (S : SupC prog K mg C fI fl) (X : K.In h) (hKe : ∀ o, K.lookup e ≠ some o) (lim : h.NoLimit) (hg : h.Ns mainGlobals mg) (hb : h.Ns builtinsNs mb) (hbb : mb "super" = some (.type "super")) (he : h.get? e = some (HandSPX.excO C t0)) (hroom : A.depth < recursionLimit) (hu : us.length = fl.length)
    (hq : ∀ h' t1 dx tk, (∀ b o, b ≠ e → h.get? b = some o → h'.get? b = some o) → h.objs.size ≤ dx → dx ≠ e → h'.get? e = some { cls := .ref C, dict := some dx, data := .fields #[.ref t1, .none, .none, .none, .bool false, .none] } →
      h'.Ns1 dx (putM (fun _ => none) ((fl.map (·.1)).zip us)) → R (.ok (.ret .none)) ⟨h', g, d, tk, os⟩) : codeAny (model prog w) A (.call (.ref fI) ⟨.ref e :: us, []⟩) R ⟨h, g, d, t, os⟩ := by
  obtain ⟨nm, qn, N, bs, bm, sn, sub, ab, col, dd, k0, k1, k2, k3, k5, hC, hbm⟩ := S.cls
  obtain ⟨oc, od, osl, name, qual, params, body, scope, dV, kV, doc, pm, ct, an, cda, cc, D, ps, p0, p1, p2, p3, p4, p5, m, j, hline, hlk, hcd, hbody, hps, ⟨ar, har, hself⟩, hbind, hkind, hco, hgen, hcell, hloc, hks, hkc, ⟨ccl, cdd, vs, ccs, file, tf, hcode, hvs, hfile⟩, ⟨cl, cld, csl, hcellK⟩, hD, hsub, hsup⟩ := S.fn
  have hne : ∀ {a : Addr} {o : Obj}, K.lookup a = some o → a ≠ e := fun {a o} z q => hKe o (q ▸ z)
  have hlt : ∀ {a : Addr} {o : Obj}, K.lookup a = some o → a < h.objs.size := fun {a o} z => Heap.lt_size (X _ _ z)
  have hCe : e ≠ C := fun q => hne hC q.symm
  obtain ⟨cdD, hcD⟩ := Option.isSome_iff_exists.mp hD
  refine ks_codeAny_call_defAt (fd := W.ksFn name qual params body scope dV kV doc pm an (.ref cda) ct cc) (body := body) (binds := (("self" : Str) :: fl.map (·.2)).zip (.ref e :: us)) hroom (X _ _ hlk) rfl lim (W.codeRec_of X hcd) rfl
    (BindsTo.of_eq (hbind (.ref e :: us) (by rw [List.length_cons, hu]))) hcell (fun x hx => hloc x.1 (List.of_mem_zip (a := x.1) (b := x.2) hx).1) (fun h1 hns hk1 => ?_) hco hgen hkind
  generalize hL : h.objs.size = L at hns
  let ml : Str → Option Value := fun x => ((("self" : Str) :: fl.map (·.2)).zip (.ref e :: us)).reverse.lookup x
  have hns : h1.Ns L ml := hns
  have X1 : K.In h1 := fun a o z => hk1 _ _ (X a o z)
  have hcl : W.clsIn K C = some { name := nm, bases := bs, mro := .ref C :: bm, ns := N, qualname := qn, hasDict := true, slotNames := sn, subclasses := sub, abstract := ab, collection := col, hasDel := false } := by unfold W.clsIn; rw [hC] <;> rfl
  obtain ⟨oD, hD1, hD2⟩ : ∃ oD, h.get? D = some oD ∧ oD.data = .cls cdD := by
    unfold W.clsIn at hcD
    split at hcD
    · rename_i c d cd' sl ho
      cases hcD
      exact ⟨_, X _ _ ho, rfl⟩
    · cases hcD
  have mself : ml "self" = some (.ref e) := NdefX.zip_look (ps := (("self" : Str) :: fl.map (·.2))) (us := .ref e :: us) S.nd (i := 0) rfl rfl
  have he1 := hk1 _ _ he
  have hLe : L ≠ e := fun q => by
    have q2 : e < h.objs.size := Heap.lt_size he
    rw [hL, q] at q2
    exact absurd q2 (Nat.lt_irrefl _)
  rw [hbody]
  refine ks_wpAt_execs_cons (ks_wpAt_Expr_any (ks_wpAt_MethodCall (pl := do return (← importBound (.Call (.Name "super" p0) [] [] p1) _).getD true) ?_ (sup_tree (by rfl) (by show 1 < 30; decide) hline)) (by show (scope.kind == .module && _) = false; rw [hkind]; rfl) (by rfl))
  refine ks_wpAt_super_base (f := fI) (cc := cda) (vs := vs) hks hkc (by decide +kernel) rfl (X1 _ _ hlk) rfl har rfl (X1 _ _ hcode) rfl hvs hfile S.top ?_
  refine W.ks_loadName_global hkind hks (loadGlobal_builtin (hg.keeps hk1) S.sg (hb.keeps hk1) hbb ⟨rfl, ?_⟩)
  refine wpAny_loadName_free hkind hkc rfl ⟨_, X1 _ _ hcellK, rfl⟩ ?_
  rw [hself]
  refine wpAny_loadName_local hkind (hloc _ List.mem_cons_self) hns mself ?_
  refine ks_wpAny_isType_cls (hk1 _ _ hD1) hD2 ⟨rfl, ?_⟩
  refine ks_wpAny_call_super (hk1 _ _ hD1) hD2 he1 rfl (fun c z => by cases z) (W.looks_mroIn X1 hsub) (fun h2 e2 k2 => ?_)
  have X2 : K.In h2 := fun a o z => k2 _ _ (X1 a o z)
  have he2 := k2 _ _ he1
  have hm : W.alongIn K "__init__" (((.ref C :: bm : List Value).dropWhile (· != .ref D)).drop 1) = some (some (.builtin "ValueError.__init__")) := by
    have q := hsup
    unfold W.ks_superIn at q
    rw [hcl] at q
    exact q
  have hI : W.Looks (model prog w) h2 (isInstance (.ref e) (.type "ValueError")) true := (W.InstAt.type (C := C) (ox := HandSPX.excO C t0) (od := none) ⟨he2, rfl, rfl, trivial⟩).andThen (W.looks_subIn X2 S.veC)
  refine W.kxs_getMethod W.kxs_ValueError e2 (W.looks_opaque X2 S.no) (l₀ := .ref C :: bm) (fun A Q E s k q => ?_) rfl X2 hm hI hCe (by decide +kernel) ?_
  · exact wpAny_bind ((W.looks_clsIn X2 hcl) A _ E s k (wpAny_pure q))
  generalize hu2 : h2.objs.size = u
  have hu3 : (h2.push (W.kxs_mw "ValueError.__init__" e)).get? u = some (W.kxs_mw "ValueError.__init__" e) := by rw [← hu2]; exact Heap.get?_push_at rfl rfl
  have k3 : ∀ b o, h2.get? b = some o → (h2.push (W.kxs_mw "ValueError.__init__" e)).get? b = some o := fun b o z => Heap.get?_push_of_some _ z
  refine W.kxs_callWith (i := "ValueError.__init__") (x := e) (by rfl) (evalArgs_plain (Calls.spliced_cons (Calls.Constant_str (k := j) (pos := p3) (x := m) (Calls.spliced_nil ⟨hu3, ?_⟩))))
  refine bw_call (k3 _ _ (X2 _ _ hC)) (k3 _ _ he2) hu3 (by show 1 ≤ sizeLine; rw [sizeLine_eq]; omega) (fun h4 t1 k4 he4 => ?_)
  have k04 : ∀ b o, b ≠ e → h.get? b = some o → h4.get? b = some o := fun b o hb z => k4 b o hb (k3 _ _ (k2 _ _ (hk1 _ _ z)))
  have X4 : K.In h4 := fun a o z => k04 _ _ (hne z) (X a o z)
  have hns4 : h4.Ns L ml := hns.at fun o z => k4 _ _ hLe (k3 _ _ (k2 _ _ z))
  refine wpAt_of_wpAny ?_
  have hlp : ps.length = us.length := by
    have q := congrArg List.length hps
    rw [List.length_map] at q
    rw [q, hu]
  have hval : ∀ (k : Nat) (z : Str × Str × Pos × Pos × Pos × Pos) (v : Value), ps[k]? = some z → us[k]? = some v → (callEnv (W.ksFn name qual params (.Expr (.Call (.Attribute (.Call (.Name "super" p0) [] [] p1) "__init__" p2) [.Constant (.str m) j p3] [] p4) p5 :: storesOf ps) scope dV kV doc pm an (.ref cda) ct cc) L fI).kindOf z.2.1 = some .local ∧ ml z.2.1 = some v ∧ W.findIn K (.ref C) z.1 = some none ∧ (z.2.1 == ("__debug__" : Str)) = false := fun k z v h1 h2 => by
    have hf : fl[k]? = some (z.1, z.2.1) := by rw [← hps, List.getElem?_map, h1]; rfl
    have hm2 := List.mem_of_getElem? hf
    refine ⟨hloc _ (List.mem_cons_of_mem _ (List.mem_map.mpr ⟨_, hm2, rfl⟩)), ?_, S.nf _ hm2, S.db _ hm2⟩
    exact NdefX.zip_look (ps := (("self" : Str) :: fl.map (·.2))) (us := .ref e :: us) S.nd (i := k + 1) (by rw [List.getElem?_cons_succ, List.getElem?_map, hf]; rfl) h2
  have hfl : (fl.map (·.1)).zip us = (ps.zip us).map fun z => (z.1.1, z.2) := by
    rw [← hps, List.map_map]
    show (ps.map fun z => z.1).zip us = _
    rw [List.zip_map_left]
    rfl
  rw [hfl] at hq
  generalize hen : callEnv (W.ksFn name qual params (.Expr (.Call (.Attribute (.Call (.Name "super" p0) [] [] p1) "__init__" p2) [.Constant (.str m) j p3] [] p4) p5 :: storesOf ps) scope dV kV doc pm an (.ref cda) ct cc) L fI = env at hval ⊢
  have eL : env.locals = L := by rw [← hen]; rfl
  have eK : env.scope.kind = .function := by rw [← hen]; exact hkind
  have eS : env.kindOf "self" = some .local := by rw [← hen]; exact hloc _ List.mem_cons_self
  rw [← eL] at hns4
  match ps, us, hlp, hval, hq, S.len.2, hu, hps with
  | [], [], _, _, _, z, hu, hps => exact absurd (by rw [← hps]; rfl) z
  | (f, x, q1, q2, q3, q4) :: ps, v :: us, hlp, hval, hq, _, hu, _ =>
    obtain ⟨z1, z2, z3, z4⟩ := hval 0 _ _ rfl rfl
    refine wpAny_execs_cons (plainObj_wpAny_Assign_Attribute ?_ (by rfl))
    refine ESX.ldL hns4 z2 ?_ eK z1 z4
    refine ESX.ldL hns4 mself ?_ eK eS (by decide +kernel)
    refine W.set_plain X4 (ox := HandSPX.excO C t1) (od := none) ⟨he4, rfl, rfl, trivial⟩ S.sa ?_
    refine HandSPX.exc_osa X4 he4 hcl (show HandSPX.refsVE (.ref C :: bm) = true from hbm) rfl z3 (fun h5 tk5 dx k5 dn dne hx hn => ?_)
    have hL4 : L < h4.objs.size := by
      obtain ⟨o, es, ep, hz, _⟩ := hns4
      rw [eL] at hz
      exact Heap.lt_size hz
    have dn' : h4.objs.size ≤ dx := dn
    have hsz : h.objs.size ≤ dx := by rw [hL]; exact Nat.le_trans (Nat.le_of_lt hL4) dn'
    have hdL : dx ≠ env.locals := by rw [eL]; intro q; rw [q] at dn; exact absurd hL4 (Nat.not_lt.mpr dn)
    have hpe : storesOf ps = storesOf ((ps.zip us).map (·.1)) := by rw [List.map_fst_zip (by simpa using Nat.le_of_eq hlp)]
    show wpAny _ _ (PySem.execs (storesOf ps) env) _ _ _
    rw [hpe]
    refine stores_old (w := w) (K := K) hC hbm S.sa eK eS mself hdL (fun a o z q => ?_) dne.symm (ps.zip us) h5 tk5 _ [f] (fun a o z => k5 _ _ (hne z) (X4 a o z)) hx hn (Within.cons f v Within.nil) ?_ (hns4.at fun o z => k5 _ _ (by rw [eL]; exact hLe) z) (fun z hz => ?_) (fun h6 tk6 k6 hn6 => ?_)
    · have := hlt z
      rw [q] at this
      exact absurd this (Nat.not_lt.mpr hsz)
    · have : (ps.zip us).length ≤ fl.length := by rw [List.length_zip, ← hu]; simp only [List.length_cons]; omega
      have := S.len.1
      rw [List.length_singleton]; omega
    · obtain ⟨k, hk, e⟩ := List.mem_iff_getElem.mp hz
      rw [List.length_zip] at hk
      have e2 : z = (ps[k], us[k]) := by rw [← e, List.getElem_zip]
      rw [e2]
      exact hval (k + 1) ps[k] us[k] (by rw [List.getElem?_cons_succ, List.getElem?_eq_getElem]) (by rw [List.getElem?_cons_succ, List.getElem?_eq_getElem])
    · exact hq h6 t1 dx tk6 (fun b o hb z => k6 b o (fun q => absurd (Heap.lt_size z) (by rw [q]; exact Nat.not_lt.mpr hsz)) (k5 b o hb (k04 b o hb z))) hsz dne (k6 _ _ dne.symm hx) hn6
end
theorem putM_at : ∀ (l : List (Str × Value)) (m : Str → Option Value) (y : Str), (l.map (·.1)).Nodup → putM m l y = match l.lookup y with
    | some v => some v
    | none => m y
  | [], m, y, _ => rfl
  | (f, v) :: r, m, y, nd => by
    rw [List.map_cons, List.nodup_cons] at nd
    show putM (fun y => if y = f then some v else m y) r y = _
    rw [putM_at r _ y nd.2, List.lookup_cons]
    by_cases e : y = f
    · subst e
      have hn : r.lookup y = none := by
        cases h : r.lookup y with
        | none => rfl
        | some u => exact absurd (List.mem_map.mpr ⟨_, PySem.mem_of_lookup h, rfl⟩) nd.1
      rw [hn, beq_self_eq_true]
      dsimp only
      rw [if_pos rfl]
    · rw [beq_eq_false_iff_ne.mpr e]
      dsimp only
      rw [if_neg e]
theorem rel_zip : ∀ (ns : List Str) {vs : List V} {us : List Value}, Vals vs us → ∀ f, RelO ((ns.zip vs).lookup f) ((ns.zip us).lookup f)
  | [], _, _, _, f => by simp [RelO]
  | n :: ns, _, _, .nil, f => by simp [RelO]
  | n :: ns, v :: vs, u :: us, .cons r rr, f => by
    rw [List.zip_cons_cons, List.zip_cons_cons, List.lookup_cons, List.lookup_cons]
    cases h : f == n with
    | true => exact r
    | false => exact rel_zip ns rr f
/-- C(e, ..): the exception with its fields -/
def tSup (C : Addr) (fl : List (Str × Str)) (ta : TA) : L2.St → Hp → XK → Prop := fun σ H Q => ta σ H fun vs H1 => vs.length = fl.length ∧ ∀ d, H1 d = none → Q (.ref C) (some d) (upd H1 d (.xd ((fl.map (·.1)).zip vs)))
theorem pmk_sup {X : Cx} {x : Str} {C fI : Addr} {k : Nat} {fl : List (Str × Str)} {e : Expr} {es : List Expr} {ta : TA} {p pos : Pos} (S : SupC X.prog X.K X.mg C fI fl) (hr : Room (k + 1) X.A) (hg : Gl X x) (hm : X.mg x = some (.ref C)) (ha : PA X (e :: es) ta)
    (hdb : (x == ("__debug__" : Str)) = false) (he : starEach (e :: es) X.env = (false, eval e X.env) :: starEach es X.env) (hpl : (backTo pos (starEach es X.env)).any (·.1) = false) :
    L2N.PMk X (.Call (.Name x p) (e :: es) [] pos) (tSup C fl ta) := by
  intro pins s σ H Q I h
  obtain ⟨nm, q, N, bs, bm, sn, sub, ab, col, dd, k0, k1, k2, k3, k5, hC, hbm⟩ := S.cls
  refine wpAny_Call_Name_kw (ld_glob I hg hm ?_ hdb)
  refine PySem.W.callWith_K (h₀ := X.base) I.ok.mod.kin S.kC (thn (ha.run pos pins s σ H _ I h) fun us s1 ⟨vs, H1, I1, r1, hz, q1⟩ => ⟨I1.kIn, ?_⟩) he hpl
  show wpAny _ _ (call (.ref C) us) _ _ _
  have hlu : us.length = fl.length := by rw [← Paired.length r1]; exact hz
  have hus : us.length ≤ sizeLine := by rw [hlu, sizeLine_eq]; have := S.len.1; omega
  obtain ⟨mb, hb1, hb2⟩ := I1.ok.mod.blt
  have nl := I1.nolimit
  have hgl := I1.ok.mod.glob.keeps I1.bk
  have hbl := hb1.keeps I1.bk
  have kin := I1.kIn
  obtain ⟨hp, g, dr, tk, os⟩ := s1
  have kk : ∀ b o, hp.get? b = some o → ((hp.push (PySem.W.kdv_tup us)).push (PySem.HandSPX.excO C hp.objs.size)).get? b = some o := fun b o e => Heap.get?_push_of_some _ (Heap.get?_push_of_some _ e)
  have hget : ((hp.push (PySem.W.kdv_tup us)).push (PySem.HandSPX.excO C hp.objs.size)).get? (hp.objs.size + 1) = some (PySem.HandSPX.excO C hp.objs.size) := by heap_get
  have hps : ((hp.push (PySem.W.kdv_tup us)).push (PySem.HandSPX.excO C hp.objs.size)).objs.size = hp.objs.size + 2 := by rw [Heap.size_push, Heap.size_push]
  refine wpAny_call (PySem.HandSPX.call_own F.excBase_ValueError (fun Y => PySem.HandSPX.refsVE_contains Y bm hbm) (kin _ _ hC) (PySem.W.looks_findIn kin S.hi) (fun self => PySem.W.bind_fn kin self S.tI) hus
    (sup_code (mg := X.mg) (mb := mb) (fl := fl) S (kin.keeps kk) (fun o z => ?_) (nl.keeps kk) (hgl.keeps kk) (hbl.keeps kk) ?_ hget (hr.make C us []).depth hlu (fun h' t1 dx tk' k4 hsz dne hx hn => ?_)))
  · have := Heap.lt_size (kin _ _ z)
    exact absurd this (by show ¬ hp.objs.size + 1 < hp.objs.size; omega)
  · rw [hb2 _ (by decide +kernel)]; decide +kernel
  · obtain ⟨G, g1, g2⟩ := restrict h' fun b => decide (b ≠ hp.objs.size + 1)
    have gk : ∀ b, b ≠ hp.objs.size + 1 → G.get? b = h'.get? b := fun b hb => g1 b (decide_eq_true hb)
    have ge : G.get? (hp.objs.size + 1) = none := g2 _ (by simp)
    have keep : ∀ b o, hp.get? b = some o → G.get? b = some o := fun b o z => by
      have hb : b ≠ hp.objs.size + 1 := Nat.ne_of_lt (Nat.lt_of_lt_of_le (Heap.lt_size z) (Nat.le_succ _))
      rw [gk b hb]
      exact k4 b o hb (kk b o z)
    have hdx : hp.objs.size ≤ dx := by
      have : hp.objs.size + 2 ≤ dx := by rw [← hps]; exact hsz
      omega
    have J : Inv X pins σ (upd H1 dx (.xd ((fl.map (·.1)).zip vs))) ⟨G, g, dr, tk', os⟩ := I1.laid (t' := tk') (a := dx) (h' := G) keep hdx ⟨_, hn.at fun o z => (gk dx dne).trans z, fun f => by
      rw [putM_at _ _ _ (by rw [List.map_fst_zip (by rw [List.length_map, hlu]; exact Nat.le_refl _)]; exact S.nn)]
      have := rel_zip (fl.map (·.1)) r1 f
      revert this
      cases ((fl.map (·.1)).zip us).lookup f <;> exact fun z => z⟩
    have kG : ∀ b o, G.get? b = some o → h'.get? b = some o := fun b o z => by
      by_cases hb : b = hp.objs.size + 1
      · rw [hb, ge] at z; cases z
      · rw [← gk b hb]; exact z
    have na : (upd H1 dx (.xd ((fl.map (·.1)).zip vs))) (hp.objs.size + 1) = none := by
      rw [upd_ne dne.symm]; exact I1.hok.fresh (Nat.le_succ _)
    exact ⟨rfl, hp.objs.size + 1, _, _, ⟨G, g, dr, tk', os⟩, _, .ref C, some dx, rfl, J, kG, ge, hx, ⟨rfl, rfl, fun vs z => by cases z; rfl⟩, rfl, rfl, na, rfl, I1.bare, raises_own S.exC S.tyC, q1 dx (I1.hok.fresh hdx)⟩
/-! ### raise C(e, ..) -/
structure RaS (Γ : Gam) (x : Str) (c : Nat) (fl : List (Str × Str)) : Prop where
  s : ∃ fI, SupC Γ.P Γ.T.K Γ.mg (Γ.T.cad c) fI fl
  cfl : Γ.T.cfl c = fl.map (·.1)
  g : Γ.mg x = some (.ref (Γ.T.cad c))
  k : ∃ j, Γ.k = j + 1
section
variable {Γ : Gam} {sc : Scope} {E : XK} {sg : Sg}
theorem goodS_raiseS {x : Str} {c : Nat} {fl : List (Str × Str)} {p pos rpos : Pos} {e : Expr} {es : List Expr} {as : Cs} (h : RaS Γ x c fl) (hg : glB sc x = true) (hx : okName x = true) (hs : (e :: es).all notStar = true) (hl : as.len = fl.length) (ha : GoodA Γ sc E (e :: es) (evs sg as)) :
    GoodS Γ sc E (.Raise (some (.Call (.Name x p) (e :: es) [] pos)) none rpos) (exec sg (.raise c as)) := by
  obtain ⟨ta, pa, sa⟩ := ha
  obtain ⟨fI, S⟩ := h.s
  obtain ⟨j, hj⟩ := h.k
  rw [List.all_cons, Bool.and_eq_true] at hs
  refine ⟨fun _ σ H => tSup (Γ.T.cad c) fl ta σ H fun cls d H' => E cls d H', fun X on => ?_, ?_⟩
  · have S' : SupC X.prog X.K X.mg (Γ.T.cad c) fI fl := by rw [on.on.prog, on.on.K, on.on.mg]; exact S
    have hr : Room (j + 1) X.A := by rw [← hj]; exact on.on.room
    exact L2N.ps_raise on.on.calm on.takes (pmk_sup S' hr (on.on.gl hg) (by rw [on.on.mg]; exact h.g) (pa X on.on) (okName_d hx) (starEach_cons hs.1) (by rw [backTo_any]; exact starEach_plain hs.2))
  · intro σ ρ H G ι S z0 H0 G0 ι0 D st g f p
    refine sa σ ρ H G ι S _ g f.s ?_
    rw [exec] at p
    cases ea : evs sg as ρ S with
    | bad => rw [ea] at p; exact p.elim
    | ex k fs S' => rw [ea] at p; exact XPost.mono st p
    | ok ds S1 =>
      rw [ea] at p
      intro vs H1 G1 ι1 st1 g1 rs
      have hlen : vs.length = fl.length := by rw [rs.length, evs_len ea, hl]
      refine ⟨hlen, fun d hd => ?_⟩
      have hp : XPost Γ.T H0 G0 ι0 E c ds S1 := p
      refine hp _ G1 ι1 (st.trans (st1.trans (Step.open' hd))) (g1.open' hd) (some d) (.inr ⟨d, _, rfl, upd_same, ?_, ?_⟩)
      · rw [List.map_fst_zip (by rw [List.length_map, hlen]; exact Nat.le_refl _), h.cfl]
      · rw [List.map_snd_zip (by rw [List.length_map, hlen]; exact Nat.le_refl _)]; exact rs
end
end Sf
end
section
set_option linter.all false
set_option maxRecDepth 100000
set_option maxHeartbeats 2000000
/-! Sf.Ok: the look that a text follows its code, and what it gives. -/
namespace Sf
open PySem L2
/-- what is known by names -/
structure Stc where
  N : List Str := []
  fnN : List Str := []
  meN : List Str := []
  maN : List Str := []
  free : List Str := []
  gi : List (Str × Int) := []
  cls : List (Nat × List Str) := []
  isi : List (Str × Tk × List Nat) := []
  ops : List (Nat × Operator × List (Option Nat)) := []
  lens : List Nat := []
  con : List (Str × Str × Int) := []
  its : List (Nat × Nat) := []
  cas : List Nat := []
  ses : List Nat := []
  lsts : List (Nat × Nat) := []
  cms : List (Nat × Str × Nat × Str) := []
  exs : List (Str × Nat) := []
  trs : List (List (Nat × List Bool)) := []
  exS : List (Str × Nat × List (Str × Str)) := []
  xcl : List (Nat × List Str) := []
def Tk.code : Tk → Nat × Nat
  | .int => (0, 0)
  | .bool => (1, 0)
  | .str => (2, 0)
  | .list => (3, 0)
  | .tuple => (4, 0)
  | .own c => (5, c)
theorem Tk.code_inj {a b : Tk} (h : a.code = b.code) : a = b := by
  cases a <;> cases b <;> simp_all [Tk.code]
instance : DecidableEq Tk := fun a b => if h : a.code = b.code then isTrue (Tk.code_inj h) else isFalse fun e => h (e ▸ rfl)
/-- a test that has a reading of its own -/
def tstB : Expr → Bool
  | .IfExp .. => false
  | .NamedExpr .. => false
  | _ => true
def Stc.fldB (A : Stc) (f : Str) (q : Nat × Nat) : Bool := match A.cls.lookup q.1 with
  | some fs => decide (fs[q.2]? = some f)
  | none => false
mutual
def okE (A : Stc) : C → Scope → Expr → Bool
  | .var i, sc, e => match e with
    | .Name x _ => decide (A.N[i]? = some x) && visB sc x && okName x
    | _ => false
  | .int i, _, e => match e with
    | .Constant (.int j) _ _ => decide (i = j)
    | _ => false
  | .bl i, _, e => match e with
    | .Constant (.bool j) _ _ => decide (i = j)
    | _ => false
  | .non, _, e => match e with
    | .Constant .none _ _ => true
    | _ => false
  | .str i, _, e => match e with
    | .Constant (.str j) _ _ => decide (i = j)
    | _ => false
  | .gint y i, sc, e => match e with
    | .Name x _ => decide (x = y) && glB sc x && okName x && decide ((x, i) ∈ A.gi)
    | _ => false
  | .bin op a b, sc, e => match e with
    | .BinOp x op' y _ => decide (op = op') && okE A a sc x && okE A b sc y
    | _ => false
  | .neg a, sc, e => match e with
    | .UnaryOp .USub x _ => okE A a sc x
    | _ => false
  | .not a, sc, e => match e with
    | .UnaryOp .Not x _ => tstB x && okE A a sc x
    | _ => false
  | .and a b, sc, e => match e with
    | .BoolOp .And (x :: y :: []) _ => tstB x && tstB y && okE A a sc x && okE A b sc y
    | .BoolOp .And (x :: y :: z :: r) p => tstB x && okE A a sc x && okE A b sc (.BoolOp .And (y :: z :: r) p)
    | _ => false
  | .or a b, sc, e => match e with
    | .BoolOp .Or (x :: y :: []) _ => tstB x && tstB y && okE A a sc x && okE A b sc y
    | .BoolOp .Or (x :: y :: z :: r) p => tstB x && okE A a sc x && okE A b sc (.BoolOp .Or (y :: z :: r) p)
    | _ => false
  | .cmp op a b, sc, e => match e with
    | .Compare x [op'] [y] _ => decide (op = op') && notSet y && okE A a sc x && okE A b sc y
    | _ => false
  | .isN a, sc, e => match e with
    | .Compare x [.Is] [.Constant .none _ _] _ => okE A a sc x
    | _ => false
  | .notN a, sc, e => match e with
    | .Compare x [.IsNot] [.Constant .none _ _] _ => okE A a sc x
    | _ => false
  | .ite c a b, sc, e => match e with
    | .IfExp t x y _ => tstB t && okE A c sc t && okE A a sc x && okE A b sc y
    | _ => false
  | .fld f cs a, sc, e => match e with
    | .Attribute x g _ => decide (f = g) && plainBase x && cs.all (A.fldB f) && okE A a sc x
    | _ => false
  | .ix a b, sc, e => match e with
    | .Subscript x y _ => plainIx y && okE A a sc x && okE A b sc y
    | _ => false
  | .slc a lo hi, sc, e => match e with
    | .Subscript x (.Slice l h none _) _ => okE A a sc x && okO A lo sc l && okO A hi sc h
    | _ => false
  | .tup as, sc, e => match e with
    | .Tuple es _ _ => decide (as.len ≤ 1000) && okEs A as sc es
    | _ => false
  | .lst as, sc, e => match e with
    | .List es _ => decide (as.len ≤ 1000) && okEs A as sc es
    | _ => false
  | .call k as, sc, e => match e with
    | .Call (.Name x _) es [] _ => decide (A.fnN[k]? = some x) && glB sc x && okName x && es.all notStar && okEs A as sc es
    | _ => false
  | .meth k o as, sc, e => match e with
    | .Call (.Attribute x m ap) es [] p => decide (A.meN[k]? = some m) && plainBase x && es.all notStar && decide (es.length < 30) && (ap.endLine == p.line) && okE A o sc x && okEs A as sc es
    | .Call (.Name x q) es [] _ => decide (k ∈ A.cas) && es.all notStar && !es.isEmpty && okE A o sc (.Name x q) && okEs A as sc es
    | _ => false
  | .lstO cs a, sc, e => match e with
    | .Call (.Name z _) [x] [] _ => decide (z = ("list" : Str)) && glB sc z && decide (z ∈ A.free) && notStar x && !cs.isEmpty && cs.all (fun q => decide (q ∈ A.lsts)) && okE A a sc x
    | _ => false
  | .cmeth k c as, sc, e => match e with
    | .Call (.Attribute (.Name x _) m ap) es [] p => decide ((k, x, c, m) ∈ A.cms) && glB sc x && okName x && es.all notStar && !es.isEmpty && decide (es.length < 30) && (ap.endLine == p.line) && okEs A as sc es
    | _ => false
  | .mkv i k as, sc, e => match e with
    | .Call (.Name x _) es [] _ => decide (A.N[i]? = some x) && visB sc x && okName x && (A.maN[k]?).isSome && es.all notStar && !es.isEmpty && okEs A as sc es
    | _ => false
  | .make k as, sc, e => match e with
    | .Call (.Name x _) es [] _ => decide (A.maN[k]? = some x) && glB sc x && okName x && es.all notStar && okEs A as sc es
    | _ => false
  | .blt f as, sc, e => match e with
    | .Call (.Name x _) (y :: es) [] _ => decide (x = (bltN f : Str)) && glB sc x && decide (x ∈ A.free) && (y :: es).all notStar && okEs A as sc (y :: es)
    | _ => false
  | .isi t cs a, sc, e => match e with
    | .Call (.Name z _) [x, .Name y _] [] _ => decide (z = ("isinstance" : Str)) && glB sc z && decide (z ∈ A.free) && glB sc y && okName y && decide ((y, t, cs) ∈ A.isi) && notStar x && okE A a sc x
    | _ => false
  | .comp t own it el, sc, e => match e with
    | .ListComp elt [⟨tg, iter, [], z⟩] scope _ => decide (z = 0) && blkC A.N sc scope (ownP A.N own) && t.slots.all (fun i => decide (i ∈ own)) && okTg A.N (ownB scope) t tg && fitB tg iter && okI A it sc iter && okE A el (relS scope sc) elt
    | _ => false
  | .compIf t own it c el, sc, e => match e with
    | .ListComp elt [⟨tg, iter, [cnd], z⟩] scope _ => decide (z = 0) && blkC A.N sc scope (ownP A.N own) && t.slots.all (fun i => decide (i ∈ own)) && okTg A.N (ownB scope) t tg && fitB tg iter && tstB cnd && okI A it sc iter && okE A c (relS scope sc) cnd && okE A el (relS scope sc) elt
    | _ => false
  | .opm k R a b, sc, e => match e with
    | .BinOp x op y _ => decide ((k, op, R) ∈ A.ops) && okE A a sc x && okE A b sc y
    | _ => false
  | .unm k a, sc, e => match e with
    | .UnaryOp .USub x _ => decide (A.meN[k]? = some ("__neg__" : Str)) && okE A a sc x
    | .UnaryOp .Invert x _ => decide (A.meN[k]? = some ("__invert__" : Str)) && okE A a sc x
    | _ => false
  | .gcon z f i, sc, e => match e with
    | .Attribute (.Name x _) g _ => decide (x = z) && decide (g = f) && glB sc x && okName x && decide ((z, f, i) ∈ A.con)
    | _ => false
  | .chn o1 o2 a b c, sc, e => match e with
    | .Compare x [p1, p2] [y, z] _ => decide (o1 = p1) && decide (o2 = p2) && notSet z && okE A a sc x && okE A b sc y && okE A c sc z
    | _ => false
  | .inO neg k a b, sc, e => match e with
    | .Compare x [op] [y] _ => decide (op = if neg = true then .NotIn else .In) && decide (A.meN[k]? = some ("__contains__" : Str)) && notSet y && okE A a sc x && okE A b sc y
    | _ => false
  | .lenO k a, sc, e => match e with
    | .Call (.Name z _) [x] [] _ => decide (z = ("len" : Str)) && glB sc z && decide (z ∈ A.free) && notStar x && decide (k ∈ A.lens) && okE A a sc x
    | _ => false
  | .lenSet a, sc, e => match e with
    | .Call (.Name z _) [.Call (.Name y _) [x] [] _] [] _ => decide (z = ("len" : Str)) && glB sc z && decide (z ∈ A.free) && decide (y = ("set" : Str)) && glB sc y && decide (y ∈ A.free) && notStar x && okE A a sc x
    | _ => false
  | .srtSet a, sc, e => match e with
    | .Call (.Name z _) [.Call (.Name y _) [x] [] _] [] _ => decide (z = ("sorted" : Str)) && glB sc z && decide (z ∈ A.free) && decide (y = ("set" : Str)) && glB sc y && decide (y ∈ A.free) && notStar x && okE A a sc x
    | _ => false
  | .strm m a, sc, e => match e with
    | .Call (.Attribute x n ap) [] [] p => decide (n = (smN m : Str)) && plainBase x && (ap.endLine == p.line) && okE A a sc x
    | _ => false
  | .join a b, sc, e => match e with
    | .Call (.Attribute x n ap) [y] [] p => decide (n = ("join" : Str)) && plainBase x && notStar y && (ap.endLine == p.line) && okE A a sc x && okE A b sc y
    | _ => false
  | .lrg a, sc, e => match e with
    | .Call (.Name z _) [.Call (.Name y _) [x] [] _] [] _ => decide (z = ("list" : Str)) && glB sc z && decide (z ∈ A.free) && decide (y = ("range" : Str)) && glB sc y && decide (y ∈ A.free) && notStar x && okE A a sc x
    | _ => false
def okEs (A : Stc) : Cs → Scope → List Expr → Bool
  | .nil, _, es => es.isEmpty
  | .cons a r, sc, es => match es with
    | x :: xs => notStar x && okE A a sc x && okEs A r sc xs
    | [] => false
def okO (A : Stc) : Oc → Scope → Option Expr → Bool
  | .no, _, e => e.isNone
  | .so a, sc, e => match e with
    | some x => okE A a sc x
    | none => false
def okI (A : Stc) : I → Scope → Expr → Bool
  | .seq a, sc, e => okE A a sc e
  | .rng1 a, sc, e => match e with
    | .Call (.Name z _) [x] [] _ => decide (z = ("range" : Str)) && glB sc z && decide (z ∈ A.free) && notStar x && okE A a sc x
    | _ => false
  | .rng2 a b, sc, e => match e with
    | .Call (.Name z _) [x, y] [] _ => decide (z = ("range" : Str)) && glB sc z && decide (z ∈ A.free) && notStar x && notStar y && okE A a sc x && okE A b sc y
    | _ => false
  | .itm cs a, sc, e => cs.all (fun q => decide (q ∈ A.its)) && okE A a sc e
  | .enm a, sc, e => match e with
    | .Call (.Name z _) [x] [] _ => decide (z = ("enumerate" : Str)) && glB sc z && decide (z ∈ A.free) && notStar x && okE A a sc x
    | _ => false
end
/-- what the names stand for -/
structure Ax (Γ : Gam) (sg : Sg) (A : Stc) : Prop where
  N : Γ.N = A.N
  fn : ∀ (k : Nat) (x : Str), A.fnN[k]? = some x → ∃ F, sg.fn[k]? = some F ∧ FnF Γ x F
  me : ∀ (k : Nat) (m : Str), A.meN[k]? = some m → ∃ cand, sg.me[k]? = some cand ∧ ∀ c F, cand.lookup c = some F → ∃ f, MeF Γ m c F f
  ma : ∀ (k : Nat) (x : Str), A.maN[k]? = some x → ∃ c F, sg.ma[k]? = some (c, makeF c F) ∧ ∃ j, Γ.k = j + 1 ∧ MkF { Γ with k := j } x c F
  free : ∀ (x : Str), x ∈ A.free → Γ.mg x = none
  gi : ∀ (x : Str) (i : Int), (x, i) ∈ A.gi → ∃ t, Γ.mg x = some (.int i t)
  cls : ∀ (c : Nat) (fs : List Str), A.cls.lookup c = some fs → Γ.T.cfl c = fs ∧ Cls Γ.T.K (Γ.T.cad c) ∧ fs.Nodup ∧ fs.length < 1000 ∧ ∀ f, f ∈ fs → NoAttr Γ.T.K (Γ.T.cad c) f
  isi : ∀ (x : Str) (t : Tk) (cs : List Nat), (x, t, cs) ∈ A.isi → ∃ c u, IsiF Γ x t cs c u
  ops : ∀ k op R, (k, op, R) ∈ A.ops → ∃ cand, sg.me[k]? = some cand ∧ ∀ c F, cand.lookup c = some F → OpF Γ op c F ∧ RhsF Γ op c R
  lens : ∀ k, k ∈ A.lens → ∃ j cand, Γ.k = j + 1 ∧ sg.me[k]? = some cand ∧ ∀ c F, cand.lookup c = some F → ∃ f, MeF { Γ with k := j } "__len__" c F f
  con : ∀ x f i, (x, f, i) ∈ A.con → ConF Γ x f i
  its : ∀ c p, (c, p) ∈ A.its → IterF Γ c p
  cas : ∀ k, k ∈ A.cas → ∃ cand, sg.me[k]? = some cand ∧ ∀ c F, cand.lookup c = some F → ∃ f, CaF Γ c F f
  ses : ∀ k, k ∈ A.ses → ∃ cand, sg.me[k]? = some cand ∧ ∀ c F, cand.lookup c = some F → ∃ f, SeF Γ c F f
  lsts : A.lsts ≠ [] → ∃ j, Γ.k = j + 2 ∧ ∀ c p, (c, p) ∈ A.lsts → LstF { Γ with k := j } c p
  cms : ∀ k x c m, (k, x, c, m) ∈ A.cms → ∃ F, sg.cm[k]? = some F ∧ CmF Γ x c m F
  exs : ∀ x c, (x, c) ∈ A.exs → RaF Γ x c
  trs : ∀ ms, ms ∈ A.trs → TryF Γ ms A.xcl
  exS : ∀ x c fl, (x, c, fl) ∈ A.exS → RaS Γ x c fl
/-- an expression's two readings -/
structure GoodX (Γ : Gam) (sg : Sg) (sc : Scope) (E : XK) (e : Expr) (c : C) : Prop where
  g : Good Γ sc E e (ev sg c)
  t : tstB e = true → GoodT Γ sc E e (ev sg c)
  w : ∀ op vs p, e = .BoolOp op vs p → GoodW Γ sc E e (ev sg c)
section
variable {Γ : Gam} {sg : Sg} {A : Stc} {sc : Scope} {E : XK}
theorem GoodX.of {e : Expr} {c : C} (h : Good Γ sc E e (ev sg c)) (hv : tstB e = true → valTest e = true) (hb : ∀ op vs p, e ≠ .BoolOp op vs p) : GoodX Γ sg sc E e c := ⟨h, fun t => goodT_val (hv t) h, fun op vs p e => absurd e (hb op vs p)⟩
theorem mem_lk {α : Type} : ∀ {l : List (Nat × α)} {c : Nat} {p : α}, l.lookup c = some p → (c, p) ∈ l
  | [], _, _, h => by cases h
  | (k, q) :: r, c, p, h => by
    have h : (match c == k with | true => some q | false => r.lookup c) = some p := h
    cases e : (c == k) with
    | true =>
      rw [e] at h; cases h
      rw [beq_iff_eq.mp e]; exact List.mem_cons_self
    | false =>
      rw [e] at h
      exact List.mem_cons_of_mem _ (mem_lk h)
theorem fldF_of (ax : Ax Γ sg A) {f : Str} {cs : List (Nat × Nat)} (h : cs.all (A.fldB f) = true) : FldF Γ f cs := ⟨fun c p e => by
  have hm : (c, p) ∈ cs := mem_lk e
  have hq := List.all_eq_true.mp h _ hm
  unfold Stc.fldB at hq
  split at hq
  · rename_i fs ef
    obtain ⟨h1, h2, h3, _, h4⟩ := ax.cls c fs ef
    have h5 : fs[p]? = some f := of_decide_eq_true hq
    exact ⟨h2, h4 f (List.mem_of_getElem? h5), by rw [h1]; exact h5, by rw [h1]; exact h3⟩
  · cases hq⟩
mutual
theorem okE_good (ax : Ax Γ sg A) : ∀ (c : C) (sc : Scope) (E : XK) (e : Expr), okE A c sc e = true → GoodX Γ sg sc E e c
  | .var i, sc, E, e, h => by
    unfold okE at h
    split at h
    · simp only [Bool.and_eq_true, decide_eq_true_eq] at h
      exact .of (good_var i (by rw [ax.N]; exact h.1.1) h.1.2 h.2) (fun _ => rfl) fun _ _ _ => fun z => nomatch z
    · cases h
  | .int i, sc, E, e, h => by
    unfold okE at h
    split at h
    · have h := of_decide_eq_true h
      subst h
      exact .of good_int (fun _ => rfl) fun _ _ _ => fun z => nomatch z
    · cases h
  | .bl i, sc, E, e, h => by
    unfold okE at h
    split at h
    · have h := of_decide_eq_true h
      subst h
      exact .of good_bl (fun _ => rfl) fun _ _ _ => fun z => nomatch z
    · cases h
  | .non, sc, E, e, h => by
    unfold okE at h
    split at h
    · exact .of good_non (fun _ => rfl) fun _ _ _ => fun z => nomatch z
    · cases h
  | .str i, sc, E, e, h => by
    unfold okE at h
    split at h
    · have h := of_decide_eq_true h
      subst h
      exact .of good_str (fun _ => rfl) fun _ _ _ => fun z => nomatch z
    · cases h
  | .gint y i, sc, E, e, h => by
    unfold okE at h
    split at h
    · simp only [Bool.and_eq_true, decide_eq_true_eq] at h
      obtain ⟨⟨⟨rfl, h1⟩, h2⟩, h3⟩ := h
      exact .of (good_gint h1 h2 (ax.gi _ _ h3)) (fun _ => rfl) fun _ _ _ => fun z => nomatch z
    · cases h
  | .bin op a b, sc, E, e, h => by
    unfold okE at h
    split at h
    · simp only [Bool.and_eq_true, decide_eq_true_eq] at h
      obtain ⟨⟨rfl, h1⟩, h2⟩ := h
      exact .of (good_bin (okE_good ax a sc E _ h1).g (okE_good ax b sc E _ h2).g) (fun _ => rfl) fun _ _ _ => fun z => nomatch z
    · cases h
  | .neg a, sc, E, e, h => by
    unfold okE at h
    split at h
    · exact .of (good_neg (okE_good ax a sc E _ h).g) (fun _ => rfl) fun _ _ _ => fun z => nomatch z
    · cases h
  | .not a, sc, E, e, h => by
    unfold okE at h
    split at h
    · simp only [Bool.and_eq_true] at h
      have q := okE_good ax a sc E _ h.2
      exact ⟨good_not q.g, fun _ => goodT_not (q.t h.1), fun _ _ _ => fun z => nomatch z⟩
    · cases h
  | .and a b, sc, E, e, h => by
    unfold okE at h
    split at h
    · simp only [Bool.and_eq_true] at h
      obtain ⟨⟨⟨h1, h2⟩, h3⟩, h4⟩ := h
      have qa := okE_good ax a sc E _ h3
      have qb := okE_good ax b sc E _ h4
      have w := goodW_and (pos := by assumption) (qa.t h1) (goodW_one (qb.t h2))
      exact ⟨good_and qa.g (good_one qb.g), fun _ => w.t, fun _ _ _ _ => w⟩
    · simp only [Bool.and_eq_true] at h
      obtain ⟨⟨h1, h3⟩, h4⟩ := h
      have qa := okE_good ax a sc E _ h3
      have qb := okE_good ax b sc E _ h4
      have w := goodW_and (pos := by assumption) (qa.t h1) (qb.w _ _ _ rfl)
      exact ⟨good_and qa.g qb.g, fun _ => w.t, fun _ _ _ _ => w⟩
    · cases h
  | .or a b, sc, E, e, h => by
    unfold okE at h
    split at h
    · simp only [Bool.and_eq_true] at h
      obtain ⟨⟨⟨h1, h2⟩, h3⟩, h4⟩ := h
      have qa := okE_good ax a sc E _ h3
      have qb := okE_good ax b sc E _ h4
      have w := goodW_or (pos := by assumption) (qa.t h1) (goodW_one (qb.t h2))
      exact ⟨good_or qa.g (good_one qb.g), fun _ => w.t, fun _ _ _ _ => w⟩
    · simp only [Bool.and_eq_true] at h
      obtain ⟨⟨h1, h3⟩, h4⟩ := h
      have qa := okE_good ax a sc E _ h3
      have qb := okE_good ax b sc E _ h4
      have w := goodW_or (pos := by assumption) (qa.t h1) (qb.w _ _ _ rfl)
      exact ⟨good_or qa.g qb.g, fun _ => w.t, fun _ _ _ _ => w⟩
    · cases h
  | .cmp op a b, sc, E, e, h => by
    unfold okE at h
    split at h
    · simp only [Bool.and_eq_true, decide_eq_true_eq] at h
      obtain ⟨⟨⟨rfl, h1⟩, h2⟩, h3⟩ := h
      have qa := (okE_good ax a sc E _ h2).g
      have qb := (okE_good ax b sc E _ h3).g
      exact ⟨good_cmp h1 qa qb, fun _ => goodT_cmp h1 qa qb, fun _ _ _ => fun z => nomatch z⟩
    · cases h
  | .isN a, sc, E, e, h => by
    unfold okE at h
    split at h
    · have qa := (okE_good ax a sc E _ h).g
      exact ⟨good_isN qa, fun _ => goodT_isN qa, fun _ _ _ => fun z => nomatch z⟩
    · cases h
  | .notN a, sc, E, e, h => by
    unfold okE at h
    split at h
    · have qa := (okE_good ax a sc E _ h).g
      exact ⟨good_notN qa, fun _ => goodT_notN qa, fun _ _ _ => fun z => nomatch z⟩
    · cases h
  | .ite c a b, sc, E, e, h => by
    unfold okE at h
    split at h
    · simp only [Bool.and_eq_true] at h
      obtain ⟨⟨⟨h0, h1⟩, h2⟩, h3⟩ := h
      exact ⟨good_ite ((okE_good ax c sc E _ h1).t h0) (okE_good ax a sc E _ h2).g (okE_good ax b sc E _ h3).g, fun z => (nomatch z), fun _ _ _ => fun z => nomatch z⟩
    · cases h
  | .fld f cs a, sc, E, e, h => by
    unfold okE at h
    split at h
    · simp only [Bool.and_eq_true, decide_eq_true_eq] at h
      obtain ⟨⟨⟨rfl, h1⟩, h2⟩, h3⟩ := h
      exact .of (good_fld h1 (fldF_of ax h2) (okE_good ax a sc E _ h3).g) (fun _ => rfl) fun _ _ _ => fun z => nomatch z
    · cases h
  | .ix a b, sc, E, e, h => by
    unfold okE at h
    split at h
    · simp only [Bool.and_eq_true] at h
      exact .of (good_ix h.1.1 (okE_good ax a sc E _ h.1.2).g (okE_good ax b sc E _ h.2).g) (fun _ => rfl) fun _ _ _ => fun z => nomatch z
    · cases h
  | .slc a lo hi, sc, E, e, h => by
    unfold okE at h
    split at h
    · simp only [Bool.and_eq_true] at h
      exact .of (good_slc (okE_good ax a sc E _ h.1.1).g (okO_good ax lo sc E _ h.1.2) (okO_good ax hi sc E _ h.2)) (fun _ => rfl) fun _ _ _ => fun z => nomatch z
    · cases h
  | .tup as, sc, E, e, h => by
    unfold okE at h
    split at h
    · simp only [Bool.and_eq_true, decide_eq_true_eq] at h
      exact .of (good_tup h.1 (okEs_good ax as sc E _ h.2).1) (fun _ => rfl) fun _ _ _ => fun z => nomatch z
    · cases h
  | .lst as, sc, E, e, h => by
    unfold okE at h
    split at h
    · simp only [Bool.and_eq_true, decide_eq_true_eq] at h
      exact .of (good_lst h.1 (okEs_good ax as sc E _ h.2).1) (fun _ => rfl) fun _ _ _ => fun z => nomatch z
    · cases h
  | .call k as, sc, E, e, h => by
    unfold okE at h
    split at h
    · simp only [Bool.and_eq_true, decide_eq_true_eq] at h
      obtain ⟨⟨⟨⟨h1, h2⟩, h3⟩, h4⟩, h5⟩ := h
      obtain ⟨F, e1, e2⟩ := ax.fn _ _ h1
      obtain ⟨q1, _, q3⟩ := okEs_good ax as sc E _ h5
      exact .of (good_call e1 e2 h2 h3 h4 q3 q1) (fun _ => rfl) fun _ _ _ => fun z => nomatch z
    · cases h
  | .meth k o as, sc, E, e, h => by
    unfold okE at h
    split at h
    · simp only [Bool.and_eq_true, decide_eq_true_eq] at h
      obtain ⟨⟨⟨⟨⟨⟨h1, h2⟩, h3⟩, h4⟩, h5⟩, h6⟩, h7⟩ := h
      obtain ⟨cand, e1, e2⟩ := ax.me _ _ h1
      obtain ⟨q1, _, q3⟩ := okEs_good ax as sc E _ h7
      exact .of (good_meth e1 e2 h2 h3 h4 h5 q3 (okE_good ax o sc E _ h6).g q1) (fun _ => rfl) fun _ _ _ => fun z => nomatch z
    · simp only [Bool.and_eq_true, decide_eq_true_eq] at h
      obtain ⟨⟨⟨⟨h1, h2⟩, h3⟩, h4⟩, h5⟩ := h
      obtain ⟨cand, e1, e2⟩ := ax.cas _ h1
      obtain ⟨q1, _, _⟩ := okEs_good ax as sc E _ h5
      exact .of (good_callO e1 e2 h2 (fun z => by rw [z] at h3; cases h3) (okE_good ax o sc E _ h4).g q1) (fun _ => rfl) fun _ _ _ => fun z => nomatch z
    · cases h
  | .lstO cs a, sc, E, e, h => by
    unfold okE at h
    split at h
    · simp only [Bool.and_eq_true, decide_eq_true_eq] at h
      obtain ⟨⟨⟨⟨⟨⟨rfl, h1⟩, h2⟩, h3⟩, h4⟩, h5⟩, h6⟩ := h
      have ne : A.lsts ≠ [] := fun z => by
        cases cs with
        | nil => cases h4
        | cons q r =>
          have := of_decide_eq_true (List.all_eq_true.mp h5 q (by simp))
          rw [z] at this
          cases this
      obtain ⟨j, hj, hF⟩ := ax.lsts ne
      exact .of (good_lstO hj h1 (ax.free _ h2) h3 (fun c p hl => hF c p (of_decide_eq_true (List.all_eq_true.mp h5 _ (mem_lk hl)))) (okE_good ax a sc E _ h6).g) (fun _ => rfl) fun _ _ _ => fun z => nomatch z
    · cases h
  | .cmeth k c as, sc, E, e, h => by
    unfold okE at h
    split at h
    · simp only [Bool.and_eq_true, decide_eq_true_eq] at h
      obtain ⟨⟨⟨⟨⟨⟨⟨h1, h2⟩, h3⟩, h4⟩, h5⟩, h6⟩, h7⟩, h8⟩ := h
      obtain ⟨F, e1, e2⟩ := ax.cms _ _ _ _ h1
      obtain ⟨q1, _, _⟩ := okEs_good ax as sc E _ h8
      exact .of (good_cmeth e1 e2 h2 h3 h4 (fun z => by rw [z] at h5; cases h5) h6 h7 q1) (fun _ => rfl) fun _ _ _ => fun z => nomatch z
    · cases h
  | .mkv i k as, sc, E, e, h => by
    unfold okE at h
    split at h
    · simp only [Bool.and_eq_true, decide_eq_true_eq] at h
      obtain ⟨⟨⟨⟨⟨⟨h1, h2⟩, h3⟩, h4⟩, h5⟩, h6⟩, h7⟩ := h
      obtain ⟨y, hy⟩ := Option.isSome_iff_exists.mp h4
      obtain ⟨c, F, e1, e2⟩ := ax.ma _ _ hy
      obtain ⟨q1, _, _⟩ := okEs_good ax as sc E _ h7
      exact .of (good_mkv e1 e2 (by rw [ax.N]; exact h1) h2 h3 h5 (fun z => by rw [z] at h6; cases h6) q1) (fun _ => rfl) fun _ _ _ => fun z => nomatch z
    · cases h
  | .make k as, sc, E, e, h => by
    unfold okE at h
    split at h
    · simp only [Bool.and_eq_true, decide_eq_true_eq] at h
      obtain ⟨⟨⟨⟨h1, h2⟩, h3⟩, h4⟩, h6⟩ := h
      obtain ⟨c, F, e1, e2⟩ := ax.ma _ _ h1
      obtain ⟨q1, _, q3⟩ := okEs_good ax as sc E _ h6
      exact .of (good_make e1 e2 h2 h3 h4 q3 q1) (fun _ => rfl) fun _ _ _ => fun z => nomatch z
    · cases h
  | .blt f as, sc, E, e, h => by
    unfold okE at h
    split at h
    · simp only [Bool.and_eq_true, decide_eq_true_eq] at h
      obtain ⟨⟨⟨⟨h1, h2⟩, h3⟩, h4⟩, h5⟩ := h
      obtain ⟨_, q2, _⟩ := okEs_good ax as sc E _ h5
      exact .of (good_blt f h1 h2 (ax.free _ h3) h4 q2) (fun _ => rfl) fun _ _ _ => fun z => nomatch z
    · cases h
  | .isi t cs a, sc, E, e, h => by
    unfold okE at h
    split at h
    · simp only [Bool.and_eq_true, decide_eq_true_eq] at h
      obtain ⟨⟨⟨⟨⟨⟨⟨rfl, h1⟩, h2⟩, h3⟩, h4⟩, h5⟩, h6⟩, h7⟩ := h
      obtain ⟨c, u, hi⟩ := ax.isi _ _ _ h5
      exact .of (good_isi hi h1 (ax.free _ h2) h3 h4 h6 (okE_good ax a sc E _ h7).g) (fun _ => rfl) fun _ _ _ => fun z => nomatch z
    · cases h
  | .comp t own it el, sc, E, e, h => by
    unfold okE at h
    split at h
    · simp only [Bool.and_eq_true, decide_eq_true_eq, List.all_eq_true] at h
      obtain ⟨⟨⟨⟨⟨⟨rfl, h1⟩, h2⟩, h3⟩, h4⟩, h5⟩, h6⟩ := h
      rw [← ax.N] at h1 h3
      exact .of (good_comp h1 h2 h3 h4 (okI_good ax it sc E true _ h5) (okE_good ax el _ E0 _ h6).g) (fun _ => rfl) fun _ _ _ => fun z => nomatch z
    · cases h
  | .compIf t own it c el, sc, E, e, h => by
    unfold okE at h
    split at h
    · simp only [Bool.and_eq_true, decide_eq_true_eq, List.all_eq_true] at h
      obtain ⟨⟨⟨⟨⟨⟨⟨⟨rfl, h1⟩, h2⟩, h3⟩, h4⟩, h0⟩, h5⟩, h6⟩, h7⟩ := h
      rw [← ax.N] at h1 h3
      exact .of (good_compIf h1 h2 h3 h4 (okI_good ax it sc E true _ h5) ((okE_good ax c _ E0 _ h6).t h0) (okE_good ax el _ E0 _ h7).g) (fun _ => rfl) fun _ _ _ => fun z => nomatch z
    · cases h
  | .opm k R a b, sc, E, e, h => by
    unfold okE at h
    split at h
    · simp only [Bool.and_eq_true, decide_eq_true_eq] at h
      obtain ⟨⟨h1, h2⟩, h3⟩ := h
      obtain ⟨cand, e1, e2⟩ := ax.ops _ _ _ h1
      exact .of (good_opm e1 e2 (okE_good ax a sc E _ h2).g (okE_good ax b sc E _ h3).g) (fun _ => rfl) fun _ _ _ => fun z => nomatch z
    · cases h
  | .unm k a, sc, E, e, h => by
    unfold okE at h
    split at h
    · simp only [Bool.and_eq_true, decide_eq_true_eq] at h
      obtain ⟨cand, e1, e2⟩ := ax.me _ _ h.1
      exact .of (good_unm (op := .USub) (.inl rfl) e1 e2 (okE_good ax a sc E _ h.2).g) (fun _ => rfl) fun _ _ _ => fun z => nomatch z
    · simp only [Bool.and_eq_true, decide_eq_true_eq] at h
      obtain ⟨cand, e1, e2⟩ := ax.me _ _ h.1
      exact .of (good_unm (op := .Invert) (.inr rfl) e1 e2 (okE_good ax a sc E _ h.2).g) (fun _ => rfl) fun _ _ _ => fun z => nomatch z
    · cases h
  | .gcon z f i, sc, E, e, h => by
    unfold okE at h
    split at h
    · simp only [Bool.and_eq_true, decide_eq_true_eq] at h
      obtain ⟨⟨⟨⟨rfl, rfl⟩, h1⟩, h2⟩, h3⟩ := h
      exact .of (good_gcon (ax.con _ _ _ h3) h1 h2) (fun _ => rfl) fun _ _ _ => fun z => nomatch z
    · cases h
  | .chn o1 o2 a b c, sc, E, e, h => by
    unfold okE at h
    split at h
    · simp only [Bool.and_eq_true, decide_eq_true_eq] at h
      obtain ⟨⟨⟨⟨⟨rfl, rfl⟩, h1⟩, h2⟩, h3⟩, h4⟩ := h
      have q := good_chn (pos := by assumption) (op := o1) (op' := o2) h1 (okE_good ax a sc E _ h2).g (okE_good ax b sc E _ h3).g (okE_good ax c sc E _ h4).g
      exact ⟨q.1, fun _ => q.2, fun _ _ _ => fun z => nomatch z⟩
    · cases h
  | .inO neg k a b, sc, E, e, h => by
    unfold okE at h
    split at h
    · simp only [Bool.and_eq_true, decide_eq_true_eq] at h
      obtain ⟨⟨⟨⟨rfl, h1⟩, h2⟩, h3⟩, h4⟩ := h
      obtain ⟨cand, e1, e2⟩ := ax.me _ _ h1
      have q := good_inO (pos := by assumption) (neg := neg) h2 e1 e2 (okE_good ax a sc E _ h3).g (okE_good ax b sc E _ h4).g
      exact ⟨q.1, fun _ => q.2, fun _ _ _ => fun z => nomatch z⟩
    · cases h
  | .lenO k a, sc, E, e, h => by
    unfold okE at h
    split at h
    · simp only [Bool.and_eq_true, decide_eq_true_eq] at h
      obtain ⟨⟨⟨⟨⟨rfl, h1⟩, h2⟩, h3⟩, h4⟩, h5⟩ := h
      obtain ⟨j, cand, hj, e1, e2⟩ := ax.lens _ h4
      exact .of (good_lenO hj h1 (ax.free _ h2) h3 e1 e2 (okE_good ax a sc E _ h5).g) (fun _ => rfl) fun _ _ _ => fun z => nomatch z
    · cases h
  | .lenSet a, sc, E, e, h => by
    unfold okE at h
    split at h
    · simp only [Bool.and_eq_true, decide_eq_true_eq] at h
      obtain ⟨⟨⟨⟨⟨⟨⟨rfl, h1⟩, h2⟩, rfl⟩, h3⟩, h4⟩, h5⟩, h6⟩ := h
      exact .of (good_lenSet h1 (ax.free _ h2) h3 (ax.free _ h4) h5 (okE_good ax a sc E _ h6).g) (fun _ => rfl) fun _ _ _ => fun z => nomatch z
    · cases h
  | .srtSet a, sc, E, e, h => by
    unfold okE at h
    split at h
    · simp only [Bool.and_eq_true, decide_eq_true_eq] at h
      obtain ⟨⟨⟨⟨⟨⟨⟨rfl, h1⟩, h2⟩, rfl⟩, h3⟩, h4⟩, h5⟩, h6⟩ := h
      exact .of (good_srtSet h1 (ax.free _ h2) h3 (ax.free _ h4) h5 (okE_good ax a sc E _ h6).g) (fun _ => rfl) fun _ _ _ => fun z => nomatch z
    · cases h
  | .strm m a, sc, E, e, h => by
    unfold okE at h
    split at h
    · simp only [Bool.and_eq_true, decide_eq_true_eq] at h
      obtain ⟨⟨⟨rfl, h1⟩, h2⟩, h3⟩ := h
      exact .of (good_strm m h1 h2 (okE_good ax a sc E _ h3).g) (fun _ => rfl) fun _ _ _ => fun z => nomatch z
    · cases h
  | .join a b, sc, E, e, h => by
    unfold okE at h
    split at h
    · simp only [Bool.and_eq_true, decide_eq_true_eq] at h
      obtain ⟨⟨⟨⟨⟨rfl, h1⟩, h2⟩, h3⟩, h4⟩, h5⟩ := h
      exact .of (good_join h1 h2 h3 (okE_good ax a sc E _ h4).g (okE_good ax b sc E _ h5).g) (fun _ => rfl) fun _ _ _ => fun z => nomatch z
    · cases h
  | .lrg a, sc, E, e, h => by
    unfold okE at h
    split at h
    · simp only [Bool.and_eq_true, decide_eq_true_eq] at h
      obtain ⟨⟨⟨⟨⟨⟨⟨rfl, h1⟩, h2⟩, rfl⟩, h3⟩, h4⟩, h5⟩, h6⟩ := h
      exact .of (good_lrg h1 (ax.free _ h2) h3 (ax.free _ h4) h5 (okE_good ax a sc E _ h6).g) (fun _ => rfl) fun _ _ _ => fun z => nomatch z
    · cases h
theorem okEs_good (ax : Ax Γ sg A) : ∀ (as : Cs) (sc : Scope) (E : XK) (es : List Expr), okEs A as sc es = true → GoodA Γ sc E es (evs sg as) ∧ GoodV Γ sc E es (evv sg as) ∧ (es = [] → as = .nil)
  | .nil, sc, E, es, h => by
    unfold okEs at h
    cases es with
    | nil => exact ⟨goodA_nil, goodV_nil, fun _ => rfl⟩
    | cons _ _ => cases h
  | .cons a r, sc, E, es, h => by
    unfold okEs at h
    cases es with
    | nil => cases h
    | cons x xs =>
      simp only [Bool.and_eq_true] at h
      have qa := (okE_good ax a sc E _ h.1.2).g
      obtain ⟨q1, q2, _⟩ := okEs_good ax r sc E _ h.2
      exact ⟨goodA_cons h.1.1 qa q1, goodV_cons h.1.1 qa q2, fun z => nomatch z⟩
theorem okO_good (ax : Ax Γ sg A) : ∀ (o : Oc) (sc : Scope) (E : XK) (e : Option Expr), okO A o sc e = true → GoodO Γ sc E e (evO sg o)
  | .no, sc, E, e, h => by
    unfold okO at h
    cases e with
    | none => exact goodO_no
    | some _ => cases h
  | .so a, sc, E, e, h => by
    unfold okO at h
    cases e with
    | none => cases h
    | some x => exact goodO_so (okE_good ax a sc E _ h).g
theorem okI_good (ax : Ax Γ sg A) : ∀ (it : I) (sc : Scope) (E : XK) (fx : Bool) (e : Expr), okI A it sc e = true → GoodI Γ sc E fx e (evI sg fx it)
  | .seq a, sc, E, fx, e, h => by
    unfold okI at h
    exact goodI_seq (okE_good ax a sc E _ h).g
  | .rng1 a, sc, E, fx, e, h => by
    unfold okI at h
    split at h
    · simp only [Bool.and_eq_true, decide_eq_true_eq] at h
      obtain ⟨⟨⟨⟨rfl, h1⟩, h2⟩, h3⟩, h4⟩ := h
      exact goodI_rng1 h1 (ax.free _ h2) h3 (okE_good ax a sc E _ h4).g
    · cases h
  | .rng2 a b, sc, E, fx, e, h => by
    unfold okI at h
    split at h
    · simp only [Bool.and_eq_true, decide_eq_true_eq] at h
      obtain ⟨⟨⟨⟨⟨⟨rfl, h1⟩, h2⟩, h3⟩, h4⟩, h5⟩, h6⟩ := h
      exact goodI_rng2 h1 (ax.free _ h2) h3 h4 (okE_good ax a sc E _ h5).g (okE_good ax b sc E _ h6).g
    · cases h
  | .itm cs a, sc, E, fx, e, h => by
    unfold okI at h
    simp only [Bool.and_eq_true, List.all_eq_true, decide_eq_true_eq] at h
    exact goodI_itm (fun c p hl => ax.its c p (h.1 _ (mem_lk hl))) (okE_good ax a sc E _ h.2).g
  | .enm a, sc, E, fx, e, h => by
    unfold okI at h
    split at h
    · simp only [Bool.and_eq_true, decide_eq_true_eq] at h
      obtain ⟨⟨⟨⟨rfl, h1⟩, h2⟩, h3⟩, h4⟩ := h
      exact goodI_enm h1 (ax.free _ h2) h3 (okE_good ax a sc E _ h4).g
    · cases h
end
end
end Sf
end
section
set_option linter.all false
set_option maxRecDepth 100000
set_option maxHeartbeats 2000000
/-! Sf.OkS: the same for statements. -/
namespace Sf
open PySem L2
/-- x = e -/
def okSet (A : Stc) (sc : Scope) (i : Nat) (c : C) (st : Stmt) : Bool := match st with
  | .Assign [.Name x p] (.ListComp elt gens scope pos) _ => decide (A.N[i]? = some x) && locB sc x && (p.line == pos.line) && decide (sc.kind = .function) && okE A c sc (.ListComp elt gens scope pos)
  | .Assign [.Name x _] v _ => decide (A.N[i]? = some x) && locB sc x && notComp v && okE A c sc v
  | _ => false
def Sx.isFz : Sx → Bool
  | .fz _ => true
  | _ => false
mutual
def okS (A : Stc) (sc : Scope) : Sx → Stmt → Bool
  | .set i e, st => okSet A sc i e st
  | .setA i e, st => okSet A sc i e st
  | .setC i e, st => okSet A sc i e st
  | .unp is e, st => match st with
    | .Assign [.Tuple es k p] x _ => okTg A.N (locB sc) (.tup is) (.Tuple es k p) && notComp x && notTup x && okE A e sc x
    | _ => false
  | .par i j a b, st => match st with
    | .Assign [.Tuple [.Name x px, .Name y py] _ _] (.Tuple [u, v] _ _) _ => decide (sc.kind = .function) && parB sc x y px py u v && decide (A.N[i]? = some x) && decide (A.N[j]? = some y) && decide (i ≠ j) && okE A a sc u && okE A b sc v
    | _ => false
  | .app i e, st => match st with
    | .Expr (.Call (.Attribute (.Name x _) m ap) [y] [] p) _ => decide (m = ("append" : Str)) && decide (A.N[i]? = some x) && visB sc x && okName x && notStar y && (ap.endLine == p.line) && okE A e sc y
    | _ => false
  | .setIx i k e, st => match st with
    | .Assign [.Subscript (.Name x _) u _] v _ => decide (A.N[i]? = some x) && visB sc x && okName x && notComp v && plainIx u && okE A k sc u && okE A e sc v
    | _ => false
  | .setLoc o k e, st => match st with
    | .Assign [.Subscript w u _] v _ => notComp v && plainIx u && okE A o sc w && okE A k sc u && okE A e sc v
    | _ => false
  | .aug op i e, st => match st with
    | .AugAssign (.Name x _) op' v _ => decide (op = op') && decide (A.N[i]? = some x) && locB sc x && (augI op).isSome && okE A e sc v
    | _ => false
  | .drop e, st => match st with
    | .Expr x _ => notComp x && okE A e sc x
    | _ => false
  | .ret e, st => match st with
    | .Return (some x) _ => okE A e sc x
    | _ => false
  | .retN, st => match st with
    | .Return none _ => true
    | _ => false
  | .fldS i c q f e, st => match st with
    | .Assign [.Attribute (.Name x _) g _] v _ => decide (f = g) && decide (A.N[i]? = some x) && visB sc x && okName x && notComp v && A.fldB f (c, q) && okE A e sc v
    | _ => false
  | .fldC i c q f e, st => match st with
    | .Assign [.Attribute (.Name x _) g _] v _ => decide (f = g) && decide (A.N[i]? = some x) && visB sc x && okName x && notComp v && A.fldB f (c, q) && okE A e sc v
    | _ => false
  | .setO n o k e, st => match st with
    | .Assign [.Subscript w u _] v _ => decide (n ∈ A.ses) && notComp v && plainIx u && okE A o sc w && okE A k sc u && okE A e sc v
    | _ => false
  | .ite c a b, st => match st with
    | .If x y z _ => tstB x && okE A c sc x && okSs A sc a y && okSs A sc b z
    | _ => false
  | .forS t it b, st => match st with
    | .For tg iter body [] _ => okTg A.N (locB sc) t tg && fitB tg iter && okI A it sc iter && okSs A sc b body
    | _ => false
  | .whileS _ c b, st => match st with
    | .While x body [] _ => tstB x && okE A c sc x && okSs A sc b body
    | _ => false
  | .brk, st => match st with
    | .Break _ => true
    | _ => false
  | .cnt, st => match st with
    | .Continue _ => true
    | _ => false
  | .pass, st => match st with
    | .Pass _ => true
    | _ => false
  | .raise c as, st => match as with
    | .nil => (match st with
      | .Raise (some (.Call (.Name x _) [.Constant (.str _) _ _] [] _)) none _ => decide ((x, c) ∈ A.exs) && glB sc x && okName x
      | _ => false)
    | .cons a r => (match st with
      | .Raise (some (.Call (.Name x _) (e :: es) [] _)) none _ => A.exS.any (fun q => decide (q.1 = x) && (decide (q.2.1 = c) && decide (q.2.2.length = (Cs.cons a r).len))) && glB sc x && okName x && (e :: es).all notStar && okEs A (.cons a r) sc (e :: es)
      | _ => false)
  | .tryF i k as ie ms h, st => match st with
    | .Try [.Assign [.Name x _] (.Call (.Name f _) (e :: es) [] _) _] [.ExceptHandler (some (.Name cx _)) (some en) [.Return (some he) _] _] [] [] _ =>
      decide (ms ∈ A.trs) && (decide (A.fnN[k]? = some f) && (glB sc f && (okName f && ((e :: es).all notStar && (okEs A as sc (e :: es) && (decide (A.N[i]? = some x) && (locB sc x && (decide (cx = ("SiftError" : Str)) && (glB sc "SiftError" && (decide (A.N[ie]? = some en) && (decide (sc.names.lookup en = some .local) && okHdE A.N A.xcl sc en h he)))))))))))
    | _ => false
  | .fz _, _ => false
  | .never, _ => true
def okSs (A : Stc) (sc : Scope) : Ss → List Stmt → Bool
  | .nil, sts => sts.isEmpty
  | .cons s r, sts => if s.isFz = true then okSs A sc r sts else match sts with
    | st :: rest => okS A sc s st && okSs A sc r rest
    | [] => false
end
section
variable {Γ : Gam} {sg : Sg} {A : Stc} {sc : Scope} {E : XK}
theorem okSet_good (ax : Ax Γ sg A) {i : Nat} {c : C} {st : Stmt} (h : okSet A sc i c st = true) : GoodSet Γ sc E i st (ev sg c) := by
  unfold okSet at h
  split at h
  · simp only [Bool.and_eq_true, decide_eq_true_eq] at h
    obtain ⟨⟨⟨⟨h1, h2⟩, h3⟩, h4⟩, h5⟩ := h
    rw [← ax.N] at h1
    cases c with
    | comp t own it el =>
      unfold okE at h5
      split at h5
      · rename_i heq
        cases heq
        simp only [Bool.and_eq_true, decide_eq_true_eq, List.all_eq_true] at h5
        obtain ⟨⟨⟨⟨⟨⟨rfl, k1⟩, k2⟩, k3⟩, k4⟩, k5⟩, k6⟩ := h5
        rw [← ax.N] at k1 k3
        exact goodSet_comp h1 h2 h3 h4 k1 k2 k3 k4 (okI_good ax it sc E true _ k5) (okE_good ax el _ E0 _ k6).g
      · cases h5
    | compIf t own it cc el =>
      unfold okE at h5
      split at h5
      · rename_i heq
        cases heq
        simp only [Bool.and_eq_true, decide_eq_true_eq, List.all_eq_true] at h5
        obtain ⟨⟨⟨⟨⟨⟨⟨⟨rfl, k1⟩, k2⟩, k3⟩, k4⟩, k0⟩, k5⟩, k6⟩, k7⟩ := h5
        rw [← ax.N] at k1 k3
        exact goodSet_compIf h1 h2 h3 h4 k1 k2 k3 k4 (okI_good ax it sc E true _ k5) ((okE_good ax cc _ E0 _ k6).t k0) (okE_good ax el _ E0 _ k7).g
      · cases h5
    | _ => unfold okE at h5; cases h5
  · simp only [Bool.and_eq_true, decide_eq_true_eq] at h
    obtain ⟨⟨⟨h1, h2⟩, h3⟩, h4⟩ := h
    rw [← ax.N] at h1
    exact goodSet_plain h1 h2 h3 (okE_good ax c sc E _ h4).g
  · cases h
mutual
theorem okS_good (ax : Ax Γ sg A) : ∀ (s : Sx) (st : Stmt), okS A sc s st = true → GoodS Γ sc E st (exec sg s)
  | .set i e, st, h => by unfold okS at h; exact (okSet_good ax h).v
  | .setA i e, st, h => by unfold okS at h; exact (okSet_good ax h).a
  | .setC i e, st, h => by unfold okS at h; exact (okSet_good ax h).c
  | .unp is e, st, h => by
    unfold okS at h
    split at h
    · simp only [Bool.and_eq_true] at h
      obtain ⟨⟨⟨h1, h2⟩, h3⟩, h4⟩ := h
      rw [← ax.N] at h1
      exact goodS_unp h1 h2 h3 (okE_good ax e sc E _ h4).g
    · cases h
  | .par i j a b, st, h => by
    unfold okS at h
    split at h
    · simp only [Bool.and_eq_true, decide_eq_true_eq] at h
      obtain ⟨⟨⟨⟨⟨⟨h1, h2⟩, h3⟩, h4⟩, h5⟩, h6⟩, h7⟩ := h
      rw [← ax.N] at h3 h4
      exact goodS_par h1 h2 h3 h4 h5 (okE_good ax a sc E _ h6).g (okE_good ax b sc E _ h7).g
    · cases h
  | .app i e, st, h => by
    unfold okS at h
    split at h
    · simp only [Bool.and_eq_true, decide_eq_true_eq] at h
      obtain ⟨⟨⟨⟨⟨⟨rfl, h2⟩, h3⟩, h4⟩, h5⟩, h6⟩, h7⟩ := h
      rw [← ax.N] at h2
      exact goodS_app h2 h3 h4 h5 h6 (okE_good ax e sc E _ h7).g
    · cases h
  | .setIx i k e, st, h => by
    unfold okS at h
    split at h
    · simp only [Bool.and_eq_true, decide_eq_true_eq] at h
      obtain ⟨⟨⟨⟨⟨⟨h1, h2⟩, h3⟩, h4⟩, h5⟩, h6⟩, h7⟩ := h
      rw [← ax.N] at h1
      exact goodS_setIx h1 h2 h3 h4 (okE_good ax k sc E _ h6).g (okE_good ax e sc E _ h7).g h5
    · cases h
  | .setLoc o k e, st, h => by
    unfold okS at h
    split at h
    · simp only [Bool.and_eq_true] at h
      obtain ⟨⟨⟨⟨h4, h5⟩, h6⟩, h7⟩, h8⟩ := h
      exact goodS_setLoc h4 (okE_good ax o sc E _ h6).g (okE_good ax k sc E _ h7).g (okE_good ax e sc E _ h8).g h5
    · cases h
  | .aug op i e, st, h => by
    unfold okS at h
    split at h
    · simp only [Bool.and_eq_true, decide_eq_true_eq] at h
      obtain ⟨⟨⟨⟨rfl, h2⟩, h3⟩, h4⟩, h5⟩ := h
      rw [← ax.N] at h2
      exact goodS_aug h2 h3 h4 (okE_good ax e sc E _ h5).g
    · cases h
  | .drop e, st, h => by
    unfold okS at h
    split at h
    · simp only [Bool.and_eq_true] at h
      exact goodS_drop h.1 (okE_good ax e sc E _ h.2).g
    · cases h
  | .ret e, st, h => by
    unfold okS at h
    split at h
    · exact goodS_ret (okE_good ax e sc E _ h).g
    · cases h
  | .retN, st, h => by
    unfold okS at h
    split at h
    · exact goodS_retN
    · cases h
  | .fldS i c q f e, st, h => by
    unfold okS at h
    split at h
    · simp only [Bool.and_eq_true, decide_eq_true_eq] at h
      obtain ⟨⟨⟨⟨⟨⟨rfl, h1⟩, h2⟩, h3⟩, h4⟩, h5⟩, h6⟩ := h
      rw [← ax.N] at h1
      unfold Stc.fldB at h5
      split at h5
      · rename_i fs ef
        obtain ⟨k1, k2, k3, k4, k5⟩ := ax.cls c fs ef
        have h5 := of_decide_eq_true h5
        exact goodS_fld h1 h2 h3 h4 k2 (k5 f (List.mem_of_getElem? h5)) (by rw [k1]; exact h5) (by rw [k1]; exact k3) (by rw [k1]; exact k4) (okE_good ax e sc E _ h6).g
      · cases h5
    · cases h
  | .fldC i c q f e, st, h => by
    unfold okS at h
    split at h
    · simp only [Bool.and_eq_true, decide_eq_true_eq] at h
      obtain ⟨⟨⟨⟨⟨⟨rfl, h1⟩, h2⟩, h3⟩, h4⟩, h5⟩, h6⟩ := h
      rw [← ax.N] at h1
      unfold Stc.fldB at h5
      split at h5
      · rename_i fs ef
        obtain ⟨k1, k2, k3, k4, k5⟩ := ax.cls c fs ef
        have h5 := of_decide_eq_true h5
        exact goodS_fldC h1 h2 h3 h4 k2 (k5 f (List.mem_of_getElem? h5)) (by rw [k1]; exact h5) (by rw [k1]; exact k3) (by rw [k1]; exact k4) (okE_good ax e sc E _ h6).g
      · cases h5
    · cases h
  | .setO n o k e, st, h => by
    unfold okS at h
    split at h
    · simp only [Bool.and_eq_true, decide_eq_true_eq] at h
      obtain ⟨⟨⟨⟨⟨h1, h4⟩, h5⟩, h6⟩, h7⟩, h8⟩ := h
      obtain ⟨cand, e1, e2⟩ := ax.ses _ h1
      exact goodS_setO e1 e2 h4 (okE_good ax o sc E _ h6).g (okE_good ax k sc E _ h7).g (okE_good ax e sc E _ h8).g h5
    · cases h
  | .ite c a b, st, h => by
    unfold okS at h
    split at h
    · simp only [Bool.and_eq_true] at h
      obtain ⟨⟨⟨h1, h2⟩, h3⟩, h4⟩ := h
      exact goodS_if ((okE_good ax c sc E _ h2).t h1) (okSs_good ax a _ h3) (okSs_good ax b _ h4)
    · cases h
  | .forS t it b, st, h => by
    unfold okS at h
    split at h
    · simp only [Bool.and_eq_true] at h
      obtain ⟨⟨⟨h1, h2⟩, h3⟩, h4⟩ := h
      rw [← ax.N] at h1
      exact goodS_for h1 h2 (okI_good ax it sc E false _ h3) (okSs_good ax b _ h4)
    · cases h
  | .whileS m c b, st, h => by
    unfold okS at h
    split at h
    · simp only [Bool.and_eq_true] at h
      obtain ⟨⟨h1, h2⟩, h3⟩ := h
      exact goodS_while ((okE_good ax c sc E _ h2).t h1) (okSs_good ax b _ h3)
    · cases h
  | .brk, st, h => by
    unfold okS at h
    split at h
    · exact goodS_brk
    · cases h
  | .cnt, st, h => by
    unfold okS at h
    split at h
    · exact goodS_cnt
    · cases h
  | .pass, st, h => by
    unfold okS at h
    split at h
    · exact goodS_pass
    · cases h
  | .raise c as, st, h => by
    cases as with
    | cons a r =>
      unfold okS at h
      dsimp only at h
      split at h
      · simp only [Bool.and_eq_true, List.any_eq_true, decide_eq_true_eq] at h
        obtain ⟨⟨⟨⟨⟨⟨x, c', fl⟩, hm, rfl, rfl, hl⟩, h2⟩, h3⟩, h4⟩, h5⟩ := h
        exact goodS_raiseS (ax.exS _ _ _ hm) h2 h3 h4 hl.symm (okEs_good ax (.cons a r) sc E _ h5).1
      · cases h
    | nil =>
      unfold okS at h
      dsimp only at h
      split at h
      · simp only [Bool.and_eq_true, decide_eq_true_eq] at h
        obtain ⟨⟨h1, h2⟩, h3⟩ := h
        exact goodS_raise (ax.exs _ _ h1) h2 h3
      · cases h
  | .tryF i k as ie ms hd, st, h => by
    unfold okS at h
    split at h
    · simp only [Bool.and_eq_true, decide_eq_true_eq] at h
      obtain ⟨h1, h2, h3, h4, h5, h6, h7, h8, rfl, h9, h10, h11, h12⟩ := h
      obtain ⟨F, e1, e2⟩ := ax.fn _ _ h2
      rw [← ax.N] at h7 h10 h12
      exact goodS_try (ax.trs _ h1) e1 e2 h3 h4 h5 (okEs_good ax as sc E0 _ h6).1 h7 h8 h10 h11 h9 h12
    · cases h
  | .fz _, st, h => by unfold okS at h; cases h
  | .never, st, h => ⟨fun _ _ _ => False, fun X on => ⟨fun _ _ _ _ _ _ h => h.elim⟩, fun _ _ _ _ _ _ _ _ _ _ _ _ _ _ p => p⟩
theorem okSs_good (ax : Ax Γ sg A) : ∀ (b : Ss) (sts : List Stmt), okSs A sc b sts = true → GoodSs Γ sc E sts (execs sg b)
  | .nil, sts, h => by
    unfold okSs at h
    cases sts with
    | nil => exact goodSs_nil
    | cons _ _ => cases h
  | .cons s r, sts, h => by
    unfold okSs at h
    by_cases hz : s.isFz = true
    · rw [if_pos hz] at h
      cases s with
      | fz i => exact goodSs_fz i (okSs_good ax r _ h)
      | _ => cases hz
    · rw [if_neg hz] at h
      cases sts with
      | nil => cases h
      | cons st rest =>
        simp only [Bool.and_eq_true] at h
        exact goodSs_cons (okS_good ax s _ h.1) (okSs_good ax r _ h.2)
end
/-- a def of the text, looked at, keeps the promise of its code -/
theorem fn_look (ax : Ax Γ sg A) {x qual : Str} {st : Stmt} {f : Addr} {fd : FuncData} {ps : List Str} {b : Ss} (F : Fun Γ.T.K x qual st f fd) (S : FnScope Γ.N ps (defScope st)) (B : Binds Γ.T.K fd ps []) (h : okSs A (defScope st) b (defBody st) = true) :
    FR (Γup Γ) f (spR Γ.T (runDef sg ps.length Γ.N.length b)) := def_ok F S B fun _ => okSs_good ax b _ h
theorem init_look (ax : Ax Γ sg A) {x qual : Str} {st : Stmt} {f : Addr} {fd : FuncData} {ps : List Str} {p0 : Str} {c nf : Nat} {b : Ss} (F : Fun Γ.T.K x qual st f fd) (S : FnScope Γ.N (p0 :: ps) (defScope st)) (B : Binds Γ.T.K fd (p0 :: ps) []) (h : okSs A (defScope st) b (defBody st) = true) :
    FR (Γup Γ) f (spInit Γ.T c (runInit sg ps.length (Γ.N.length - 1) c nf b)) := init_ok F S B fun _ => okSs_good ax b _ h
theorem star_look (ax : Ax Γ sg A) {x qual pv : Str} {st : Stmt} {f : Addr} {fd : FuncData} {ps : List Str} {b : Ss} (F : Fun Γ.T.K x qual st f fd) (S : FnScope Γ.N (ps ++ [pv]) (defScope st))
    (B : ∀ us rest : List Value, us.length = ps.length → bindArgs fd ⟨us ++ rest, []⟩ = (newTuple rest >>= fun t => pure (ps.zip us ++ [(pv, t)]))) (h : okSs A (defScope st) b (defBody st) = true) :
    FR (Γup Γ) f (spR Γ.T (runStar sg ps.length Γ.N.length b)) := star_ok F S B fun _ => okSs_good ax b _ h
theorem initStar_look (ax : Ax Γ sg A) {x qual pv p0 : Str} {st : Stmt} {f : Addr} {fd : FuncData} {ps : List Str} {c nf : Nat} {b : Ss} (F : Fun Γ.T.K x qual st f fd) (S : FnScope Γ.N ((p0 :: ps) ++ [pv]) (defScope st))
    (B : ∀ us rest : List Value, us.length = (p0 :: ps).length → bindArgs fd ⟨us ++ rest, []⟩ = (newTuple rest >>= fun t => pure ((p0 :: ps).zip us ++ [(pv, t)]))) (h : okSs A (defScope st) b (defBody st) = true) :
    FR (Γup Γ) f (spInit Γ.T c (runInitStar sg ps.length (Γ.N.length - 1) c nf b)) := initStar_ok F S B fun _ => okSs_good ax b _ h
end
end Sf
end
section
set_option linter.all false
set_option maxRecDepth 100000
set_option maxHeartbeats 2000000
/-! Sf.Head: facts of the head, tables of names. -/
namespace Sf
open PySem L2
def baseKinds : List Kd := [.non, .bl, .int, .str, .tup, .lst]
def kdV0 : Kd → Value
  | .non => .type "NoneType"
  | .bl => .type "bool"
  | .int => .type "int"
  | .str => .type "str"
  | .tup => .type "tuple"
  | .lst => .type "list"
  | .obj _ => .none
/-- more facts -/
inductive Xf where
  | first (x : Str) | con (x f : Str) (i : Int) | isi (t : Tk) (n : String) | fni (x m : Str) | nosq (x : Str) | miss (x f : Str) | cm (x m q : Str) | exc (x : Str) (ms : List Bool) | sup (x : Str) (fl : List (Str × Str)) (file : Str) | iso (x : Str) (ys : List Str)
/-- a classmethod's def -/
def cmA (K : PySem.W.Frag) (x m : Str) : Addr := match PySem.W.recIn K (He.ma K (He.ga K x) m) "classmethod" with
  | some (.ref g :: _) => g
  | _ => 0
def cmObs (K : PySem.W.Frag) (p : Str × Option Str) : He.FnV := match K.lookup (cmA K p.1 (p.2.getD Str.empty)) with
  | some ⟨_, _, .func fd, _⟩ => some (fd.name, fd.qualname, fd.params, fd.body, fd.scope, fd.globals, fd.closure, fd.defaults, fd.builtins)
  | _ => none
/-- an own exception class over ValueError with a dict -/
def supCls (K : PySem.W.Frag) (C : Addr) : Bool := match K.lookup C with
  | some ⟨.type "type", _, .cls cd, sl⟩ => (match cd.mro, sl.toList with
    | .ref C' :: bm, [_, _, _, _, some (.builtin n), _] => C' == C && (n == "ValueError.__new__" && (!cd.hasDel && (cd.hasDict && HandSPX.refsVE bm)))
    | _, _ => false)
  | _ => false
/-- its __init__, a def that closes over __class__ -/
def supFn (K : PySem.W.Frag) (C fI : Addr) (file : Str) : Bool := match K.lookup fI with
  | some ⟨_, _, .func fd, _⟩ => (match fd.code, fd.closure with
    | .ref cda, [(_, cc)] => PySem.W.codeIn K (.ref cda) fd.qualname && ((match K.lookup cda with
      | some ⟨_, _, .fields vs, _⟩ => (match (vs[2]? : Option Value) with
        | some (.str f _) => (file == f)
        | _ => false)
      | _ => false) && (match K.lookup cc with
      | some ⟨_, _, .cell (some (.ref D)), _⟩ => (PySem.W.clsIn K D).isSome && (decide (PySem.W.mroIn K C (.ref D) = some true) && He.eqO (PySem.W.ks_superIn K C D "__init__") (some (some (.builtin "ValueError.__init__"))))
      | _ => false))
    | _, _ => false)
  | _ => false
def Xf.ok (K : PySem.W.Frag) : Xf → Bool
  | .first x => PySem.W.selfFirst K (He.ga K x)
  | .con x f i => PySem.W.readsIn K (He.ga K x) (.type "type") && (He.eqO (PySem.W.specialIn K (.ref (He.ga K x)) "__getattribute__") (some (some (.builtin "type.__getattribute__"))) && match PySem.W.findCls K (.ref (He.ga K x)) (.type "type") f with
    | some (.val (.int j _)) => decide (j = i)
    | _ => false)
  | .isi t n => baseKinds.all fun k => decide (PySem.W.kitOne K (kdV0 k) (.type n) = some (isK t k))
  | .fni x m => PySem.W.fnIn K (He.ma K (He.ga K x) m)
  | .nosq x => PySem.W.noSeq K (He.ga K x)
  | .miss x f => He.eqO (PySem.W.findIn K (.ref (He.ga K x)) f) (some none)
  | .cm x m q => PySem.W.readsIn K (He.ga K x) (.type "type") && (He.eqO (PySem.W.specialIn K (.ref (He.ga K x)) "__getattribute__") (some (some (.builtin "type.__getattribute__"))) && ((match PySem.W.findCls K (.ref (He.ga K x)) (.type "type") m with
    | some (.get (.builtin n) (.ref p) .none (.ref c)) => decide (n = "classmethod.__get__") && (decide (p = He.ma K (He.ga K x) m) && decide (c = He.ga K x))
    | _ => false) && ((match PySem.W.recIn K (He.ma K (He.ga K x) m) "classmethod" with
    | some (.ref _ :: _) => true
    | _ => false) && (PySem.W.fnIn K (cmA K x m) && match K.lookup (cmA K x m) with
    | some ⟨_, _, .func fd, _⟩ => PySem.W.codeIn K fd.code q
    | _ => false))))
  | .exc x ms => (PySem.W.clsIn K (He.ga K x)).isSome && (He.eqO (PySem.W.findIn K (.ref (He.ga K x)) "__getattribute__") (some (some (.builtin "BaseException.__getattribute__"))) && (He.eqO (PySem.W.findIn K (.ref (He.ga K x)) "__getattr__") (some none) && (decide (PySem.W.subIn K (.ref (He.ga K x)) (.type "BaseException") = some true) && (PySem.W.hasDictIn K (He.ga K x) &&
    (He.eqO (PySem.W.findIn K (.ref (He.ga K x)) "__class__") (some (some (.builtin "object.__class__"))) && (He.eqO (PySem.W.specialIn K (.builtin "object.__class__") "__get__") (some (some (.builtin "getset_descriptor.__get__"))) && (decide (PySem.W.takesIn K (.builtin "object.__class__") = some true) && (decide (PySem.W.mroIn K (He.ga K x) (.type "object") = some true) &&
    (decide (ms.length = 10) && ((markNames.zip ms).all (fun q => decide (PySem.W.kitOne K (.ref (He.ga K x)) (.ref (He.ga K q.1)) = some q.2)) && (decide (PySem.W.kitOne K (.ref (He.ga K x)) (.ref (He.ga K "SiftError")) = some true) && (decide (PySem.W.kitOne K (.ref (He.ga K x)) (.type "ValueError") = some true) && decide (PySem.W.exmOne K (.ref (He.ga K x)) (.ref (He.ga K "SiftError")) = some true)))))))))))))
  | .sup x fl file => supCls K (He.ga K x) && (He.eqO (PySem.W.findIn K (.ref (He.ga K x)) "__setattr__") (some (some (.builtin "object.__setattr__"))) && (decide (PySem.W.subIn K (.ref (He.ga K x)) (.type "BaseException") = some true) && (decide (PySem.W.typeIn K (.ref (He.ga K x)) = some (.type "type")) && (PySem.W.keepIn K (.ref (He.ga K x)) &&
    (He.eqO (PySem.W.findIn K (.ref (He.ga K x)) "__init__") (some (some (.ref (He.ma K (He.ga K x) "__init__")))) && (decide (PySem.W.typeIn K (.ref (He.ma K (He.ga K x) "__init__")) = some (.type "function")) && (decide (PySem.W.subIn K (.ref (He.ga K x)) (.type "ValueError") = some true) &&
    (He.eqO (PySem.W.nsIn K cStatics "thirdparty.any") (some none) && (fl.all (fun q => He.eqO (PySem.W.findIn K (.ref (He.ga K x)) q.1) (some none)) && supFn K (He.ga K x) (He.ma K (He.ga K x) "__init__") file)))))))))
  | .iso x ys => baseKinds.all (fun k => decide (PySem.W.kitOne K (kdV0 k) (.ref (He.ga K x)) = some false)) && (He.eqO (PySem.W.specialIn K (.builtin "object.__class__") "__get__") (some (some (.builtin "getset_descriptor.__get__"))) && (decide (PySem.W.takesIn K (.builtin "object.__class__") = some true) &&
    ys.all (fun y => decide (PySem.W.kitOne K (.ref (He.ga K y)) (.ref (He.ga K x)) = some (decide (y = x))) && (He.eqO (PySem.W.findIn K (.ref (He.ga K y)) "__class__") (some (some (.builtin "object.__class__"))) && decide (PySem.W.mroIn K (He.ga K y) (.type "object") = some true)))))
/-- such an __init__ as it stands -/
abbrev EfV : Type := Option (Str × Str × Arguments × FuncBody × Scope × Addr × List Str × Value × Addr)
def efObs (K : PySem.W.Frag) (x : Str) : EfV := match K.lookup (He.ma K (He.ga K x) "__init__") with
  | some ⟨_, _, .func fd, _⟩ => some (fd.name, fd.qualname, fd.params, fd.body, fd.scope, fd.globals, fd.closure.map (·.1), fd.defaults, fd.builtins)
  | _ => none
def efVal (d : Str × Str × Stmt) : EfV := some ("__init__", d.2.1, defArgs d.2.2, .stmts (defBody d.2.2), defScope d.2.2, mainGlobals, ["__class__"], .none, builtinsNs)
abbrev AlX : Type := He.Al × Bool × List He.FnV × List EfV
def obsX (fa : List He.Fa) (fn : List He.FnD) (xf : List Xf) (cf : List He.FnD) (ef : List (Str × Str × Stmt)) (K : PySem.W.Frag) : AlX := (He.obsE fa fn K, xf.all fun x => x.ok K, cf.map (fun d => cmObs K d.at_), ef.map fun d => efObs K d.1)
def valX (fn cf : List He.FnD) (ef : List (Str × Str × Stmt)) : AlX := (He.valE fn, true, cf.map He.FnD.val, ef.map efVal)
def SaysX (fa : List He.Fa) (fn : List He.FnD) (xf : List Xf) (cf : List He.FnD) (ef : List (Str × Str × Stmt)) (K : PySem.W.Frag) : Prop := obsX fa fn xf cf ef K = valX fn cf ef
/-- what the names reach in n steps, and the interpreter's own table, which a class's constants ask for -/
def cellsO : Option Obj → List Addr
  | some ⟨_, _, .func fd, _⟩ => fd.closure.map (·.2)
  | _ => []
def asX (g : Addr → Option Obj) (n : Nat) : List Addr :=
  let l := He.asG g n
  l ++ (cStatics :: l.flatMap fun a => cellsO (g a))
def obsXG (n : Nat) (fa : List He.Fa) (fn : List He.FnD) (xf : List Xf) (cf : List He.FnD) (ef : List (Str × Str × Stmt)) (g : Addr → Option Obj) : AlX := obsX fa fn xf cf ef (He.frG g (asX g n))
def hookX (n : Nat) (fa : List He.Fa) (fn : List He.FnD) (xf : List Xf) (cf : List He.FnD) (ef : List (Str × Str × Stmt)) : PySem.W.Hook where
  α := AlX
  obs := fun s => obsXG n fa fn xf cf ef s.heap.get?
  val := fun _ => valX fn cf ef
  says := fun _ h => ∃ K : PySem.W.Frag, K.In h ∧ SaysX fa fn xf cf ef K
  of := fun _ _ e => ⟨_, He.frG_in, e⟩
  keeps := fun _ _ _ ⟨K, hK, c⟩ k => ⟨K, PySem.W.Frag.In.keeps hK k, c⟩
theorem obsXG_eq {n : Nat} {fa : List He.Fa} {fn : List He.FnD} {xf : List Xf} {cf : List He.FnD} {ef : List (Str × Str × Stmt)} {g : Addr → Option Obj} {s : Shared} (h : ∀ a, g a = s.heap.get? a) : obsXG n fa fn xf cf ef g = (hookX n fa fn xf cf ef).obs s := by
  have e : g = s.heap.get? := funext h
  rw [e] <;> rfl
section
variable {fa : List He.Fa} {fn : List He.FnD} {xf : List Xf} {cf : List He.FnD} {ef : List (Str × Str × Stmt)} {K : PySem.W.Frag} {h : Heap} {mg : Str → Option Value}
theorem SaysX.e (c : SaysX fa fn xf cf ef K) : He.SaysE fa fn K := congrArg (fun z : AlX => z.1) c
theorem SaysX.x (c : SaysX fa fn xf cf ef K) {x : Xf} (hx : x ∈ xf) : x.ok K = true := List.all_eq_true.mp (show (xf.all fun x => x.ok K) = true from congrArg (fun z : AlX => z.2.1) c) x hx
theorem SaysX.f (c : SaysX fa fn xf cf ef K) {f : He.Fa} (hf : f ∈ fa) : f.ok K = true := by
  obtain ⟨i, hi, e⟩ := List.mem_iff_getElem.mp hf
  exact He.SaysE.fact c.e i (f := f) (by rw [List.getElem?_eq_getElem hi, e])
def dOf (at_ : Str × Option Str) (name qual : Str) (st : Stmt) : He.FnD := ⟨at_, name, qual, defArgs st, defBody st, defScope st⟩
theorem fun_of (c : SaysX fa fn xf cf ef K) {at_ : Str × Option Str} {n q : Str} {st : Stmt} (h : dOf at_ n q st ∈ fn) (hk : PySem.W.keepIn K (.ref (He.fAd K at_)) = true) : ∃ fd, Fun K n q st (He.fAd K at_) fd := by
  obtain ⟨i, hi, e⟩ := List.mem_iff_getElem.mp h
  obtain ⟨oc, od, osl, kV, doc, pm, an, cdv, ct, h1, h2⟩ := He.SaysE.def_ c.e i (d := dOf at_ n q st) (by rw [List.getElem?_eq_getElem hi, e])
  exact ⟨_, ⟨⟨oc, od, kV, doc, pm, an, cdv, ct, osl, rfl, h1, h2⟩, hk⟩⟩
theorem cm_of (c : SaysX fa fn xf cf ef K) {x m n q : Str} {st : Stmt} (h : dOf (x, some m) n q st ∈ cf) (hx : (Xf.cm x m q).ok K = true) : ∃ fd, Fun K n q st (cmA K x m) fd := by
  obtain ⟨i, hi, e⟩ := List.mem_iff_getElem.mp h
  have e1 : cf.map (fun d => cmObs K d.at_) = cf.map He.FnD.val := congrArg (fun z : AlX => z.2.2.1) c
  have e2 : (cf.map fun d => cmObs K d.at_)[i]? = (cf.map He.FnD.val)[i]? := by rw [e1]
  rw [List.getElem?_map, List.getElem?_map, List.getElem?_eq_getElem hi, e] at e2
  have e3 : cmObs K (x, some m) = He.FnD.val (dOf (x, some m) n q st) := Option.some.inj e2
  unfold Xf.ok at hx
  simp only [Bool.and_eq_true] at hx
  obtain ⟨_, _, _, _, hf, hc⟩ := hx
  unfold cmObs at e3
  dsimp only [Option.getD] at e3
  cases ek : K.lookup (cmA K x m) with
  | none => rw [ek] at hc; cases hc
  | some o =>
    obtain ⟨oc, od, dt, osl⟩ := o
    rw [ek] at hc e3
    cases dt with
    | func fd =>
      obtain ⟨n1, n2, n3, n4, n5, n6, n7, n8, n9, n10, n11, n12, n13, n14, n15⟩ := fd
      have e4 : (some (n1, n2, n3, n4, n5, n6, n7, n8, n15) : He.FnV) = some (n, q, defArgs st, .stmts (defBody st), defScope st, mainGlobals, [], .none, builtinsNs) := e3
      simp only [Option.some.injEq, Prod.mk.injEq] at e4
      obtain ⟨h1, h2, h3, h4, h5, h6, h7, h8, h9⟩ := e4
      subst h1 h2 h3 h4 h5 h6 h7 h8 h9
      exact ⟨_, ⟨⟨oc, od, n9, n10, n11, n12, n13, n14, osl, rfl, ek, hc⟩, by unfold PySem.W.keepIn; dsimp only; rw [ek]⟩⟩
    | _ => cases hc
end
/-- the classes by name -/
def tab (cn : List (Str × List Str)) (K : PySem.W.Frag) : Tab := ⟨K, fun c => He.ga K (cn.getD c (Str.empty, [])).1, fun c => (cn.getD c (Str.empty, [])).2⟩
/-! ### tables, entry by entry -/
inductive All2 {α β : Type} (R : α → β → Prop) : List α → List β → Prop
  | nil : All2 R [] []
  | cons {a : α} {b : β} {as : List α} {bs : List β} : R a b → All2 R as bs → All2 R (a :: as) (b :: bs)
theorem All2.get {α β : Type} {R : α → β → Prop} : ∀ {as : List α} {bs : List β}, All2 R as bs → ∀ (k : Nat) (a : α), as[k]? = some a → ∃ b, bs[k]? = some b ∧ R a b
  | _, _, .nil, k, a, h => by simp at h
  | _, _, .cons r t, 0, a, h => by simp at h; subst h; exact ⟨_, rfl, r⟩
  | _, _, .cons r t, k + 1, a, h => by
    obtain ⟨b, h1, h2⟩ := All2.get t k a (by simpa using h)
    exact ⟨b, by simpa using h1, h2⟩
inductive All1 {α : Type} (R : α → Prop) : List α → Prop
  | nil : All1 R []
  | cons {a : α} {as : List α} : R a → All1 R as → All1 R (a :: as)
theorem All1.mem {α : Type} {R : α → Prop} : ∀ {as : List α}, All1 R as → ∀ a ∈ as, R a
  | _, .nil, a, h => by simp at h
  | _, .cons r t, a, h => by
    rcases List.mem_cons.mp h with rfl | h
    · exact r
    · exact All1.mem t a h
theorem All1.look {R : Nat × Fn → Prop} {cand : Cand} (h : All1 R cand) {c : Nat} {F : Fn} (e : cand.lookup c = some F) : R (c, F) := h.mem _ (mem_lk e)
section
variable {Γ : Gam} {sg : Sg} {A : Stc}
theorem FR.mono {Γ : Gam} {j : Nat} {f : Addr} {sp : Sp} (h : FR { Γ with k := j } f sp) (hj : j ≤ Γ.k) : FR Γ f sp := FnR.mono h hj
theorem IterR.mono {j : Nat} {f : Addr} {c p : Nat} (h : IterR { Γ with k := j } f c p) (hj : j ≤ Γ.k) : IterR Γ f c p := fun tp A outer s H a dx fs l hr => h tp A outer s H a dx fs l (hr.mono hj)
theorem MeF.mono {j : Nat} {m : Str} {c : Nat} {F : Fn} {f : Addr} (h : MeF { Γ with k := j } m c F f) (hj : j ≤ Γ.k) : MeF Γ m c F f := ⟨FnR.mono h.ok hj, h.cl, h.me, h.no⟩
/-- the table of a def's facts -/
theorem ax_of (hN : Γ.N = A.N) (fn : All2 (FnF Γ) A.fnN sg.fn) (me : All2 (fun m cand => All1 (fun q : Nat × Fn => ∃ f, MeF Γ m q.1 q.2 f) cand) A.meN sg.me)
    (ma : All2 (fun x (q : Nat × Fn) => ∃ F, q.2 = makeF q.1 F ∧ ∃ j, Γ.k = j + 1 ∧ MkF { Γ with k := j } x q.1 F) A.maN sg.ma) (free : ∀ x, x ∈ A.free → Γ.mg x = none) (gi : ∀ q ∈ A.gi, ∃ t, Γ.mg q.1 = some (.int q.2 t))
    (cls : ∀ (c : Nat) (fs : List Str), A.cls.lookup c = some fs → Γ.T.cfl c = fs ∧ Cls Γ.T.K (Γ.T.cad c) ∧ fs.Nodup ∧ fs.length < 1000 ∧ ∀ f, f ∈ fs → NoAttr Γ.T.K (Γ.T.cad c) f)
    (isi : ∀ q ∈ A.isi, ∃ c u, IsiF Γ q.1 q.2.1 q.2.2 c u) (ops : All1 (fun q : Nat × Operator × List (Option Nat) => ∃ cand, sg.me[q.1]? = some cand ∧ All1 (fun r : Nat × Fn => OpF Γ q.2.1 r.1 r.2 ∧ RhsF Γ q.2.1 r.1 q.2.2) cand) A.ops)
    (lens : All1 (fun k => ∃ j cand, Γ.k = j + 1 ∧ sg.me[k]? = some cand ∧ All1 (fun r : Nat × Fn => ∃ f, MeF { Γ with k := j } "__len__" r.1 r.2 f) cand) A.lens)
    (con : ∀ q ∈ A.con, ConF Γ q.1 q.2.1 q.2.2) (its : ∀ q ∈ A.its, IterF Γ q.1 q.2)
    (cas : All1 (fun k => ∃ cand, sg.me[k]? = some cand ∧ All1 (fun r : Nat × Fn => ∃ f, CaF Γ r.1 r.2 f) cand) A.cas) (ses : All1 (fun k => ∃ cand, sg.me[k]? = some cand ∧ All1 (fun r : Nat × Fn => ∃ f, SeF Γ r.1 r.2 f) cand) A.ses)
    (lsts : A.lsts ≠ [] → ∃ j, Γ.k = j + 2 ∧ All1 (fun q => LstF { Γ with k := j } q.1 q.2) A.lsts) (cms : All1 (fun q : Nat × Str × Nat × Str => ∃ F, sg.cm[q.1]? = some F ∧ CmF Γ q.2.1 q.2.2.1 q.2.2.2 F) A.cms)
    (exs : ∀ q ∈ A.exs, RaF Γ q.1 q.2) (trs : ∀ ms ∈ A.trs, TryF Γ ms A.xcl) (exS : ∀ q ∈ A.exS, RaS Γ q.1 q.2.1 q.2.2) : Ax Γ sg A where
  N := hN
  fn := fn.get
  me := fun k m h => by
    obtain ⟨cand, h1, h2⟩ := me.get k m h
    exact ⟨cand, h1, fun c F e => h2.look e⟩
  ma := fun k x h => by
    obtain ⟨⟨c, F⟩, h1, G, h2, h3⟩ := ma.get k x h
    exact ⟨c, G, by rw [h1, ← h2], h3⟩
  free := free
  gi := fun x i h => gi (x, i) h
  cls := cls
  isi := fun x t cs h => isi (x, t, cs) h
  ops := fun k op R h => by
    obtain ⟨cand, h1, h2⟩ := ops.mem _ h
    exact ⟨cand, h1, fun c F e => h2.look e⟩
  lens := fun k h => by
    obtain ⟨j, cand, h1, h2, h3⟩ := lens.mem _ h
    exact ⟨j, cand, h1, h2, fun c F e => h3.look e⟩
  con := fun x f i h => con (x, f, i) h
  its := fun c p h => its (c, p) h
  cas := fun k h => by
    obtain ⟨cand, h1, h2⟩ := cas.mem _ h
    exact ⟨cand, h1, fun c F e => h2.look e⟩
  ses := fun k h => by
    obtain ⟨cand, h1, h2⟩ := ses.mem _ h
    exact ⟨cand, h1, fun c F e => h2.look e⟩
  lsts := fun ne => by
    obtain ⟨j, h1, h2⟩ := lsts ne
    exact ⟨j, h1, fun c p h => h2.mem _ h⟩
  cms := fun k x c m h => cms.mem _ h
  exs := fun x c h => exs (x, c) h
  trs := trs
  exS := fun x c fl h => exS (x, c, fl) h
theorem isi_base {t : Tk} {n : String} (h : (Xf.isi t n).ok Γ.T.K = true) (hm : Γ.mg (n : Str) = none) (hb : bootBuiltins (n : Str) = some (.type n)) : IsiF Γ n t [] (.ty n) (.type n) where
  cv := by first | exact .ty | exact .ty _ | constructor
  rel := rfl
  one := fun k hk => by
    have h := List.all_eq_true.mp (show (baseKinds.all fun k => decide (PySem.W.kitOne Γ.T.K (kdV0 k) (.type n) = some (isK t k))) = true from h)
    cases k with
    | obj c => cases hk
    | non => exact of_decide_eq_true (h .non (by simp [baseKinds]))
    | bl => exact of_decide_eq_true (h .bl (by simp [baseKinds]))
    | int => exact of_decide_eq_true (h .int (by simp [baseKinds]))
    | str => exact of_decide_eq_true (h .str (by simp [baseKinds]))
    | tup => exact of_decide_eq_true (h .tup (by simp [baseKinds]))
    | lst => exact of_decide_eq_true (h .lst (by simp [baseKinds]))
  kd := fun k hk => by
    cases k with
    | obj c => cases hk
    | _ => trivial
  look := .inr ⟨hm, hb⟩
theorem cmf_of {x m q : Str} {c : Nat} {F : Fn} (hm : Γ.mg x = some (.ref (Γ.T.cad c))) (hc : Γ.T.cad c = He.ga Γ.T.K x) (h : (Xf.cm x m q).ok Γ.T.K = true) (hf : FR Γ (cmA Γ.T.K x m) (spR Γ.T F)) : CmF Γ x c m F := by
  unfold Xf.ok at h
  simp only [Bool.and_eq_true] at h
  obtain ⟨h1, h2, h3, h4, h5, h6⟩ := h
  refine ⟨.type "type", He.ma Γ.T.K (He.ga Γ.T.K x) m, cmA Γ.T.K x m, hm, by rw [hc]; exact ⟨h1, He.eqO_ok h2⟩, ?_, hf⟩
  rw [hc]
  split at h3
  · rename_i n p c' e
    simp only [Bool.and_eq_true, decide_eq_true_eq] at h3
    obtain ⟨rfl, rfl, rfl⟩ := h3
    refine ⟨e, ?_, h5⟩
    split at h4
    · rename_i g rest e2
      refine ⟨rest, ?_⟩
      have : cmA Γ.T.K x m = g := by unfold cmA; rw [e2]
      rw [this]; exact e2
    · cases h4
  · cases h3
theorem con_f {x f : Str} {i : Int} (hm : Γ.mg x = some (.ref (He.ga Γ.T.K x))) (h : (Xf.con x f i).ok Γ.T.K = true) : ConF Γ x f i := by
  unfold Xf.ok at h
  simp only [Bool.and_eq_true] at h
  obtain ⟨h1, h2, h3⟩ := h
  split at h3
  · rename_i j t e
    have := of_decide_eq_true h3
    subst this
    exact ⟨_, _, _, hm, ⟨h1, He.eqO_ok h2⟩, ⟨e, ⟨_, rfl⟩⟩⟩
  · cases h3
/-- the law's own def, at its end -/
theorem law_sp {T : Tab} {F : Fn} {n : Nat} (hn : n ≤ sizeLine) (hrun : ∀ ns : List Int, ns.length ≤ n → ∃ S', F [.scr (ns.map .int)] [] = .ok (.d (.bl true)) S') {H : Hp} {a : Addr} {ns : List Int} (hl : ns.length ≤ n) (hS : SqL T.K H a (ns.map V.int)) :
    spR T F [.ref a] H (fun v _ => v = .bl true) fun _ _ _ => False := by
  obtain ⟨S', e⟩ := hrun ns hl
  refine ⟨[.scr (ns.map .int)], [], H, [], ⟨Le.refl _, rfl, List.nodup_nil, fun n l h => by simp at h, fun a h => by simp at h⟩, .cons (.scr hS (by rw [List.length_map]; omega) Reps.ints) .nil, ?_⟩
  rw [e]
  intro x H' G' ι' st g vr
  have vr : Rep T G' ι' x (.bl true) := vr
  cases vr
  rfl
theorem exf_of {K : PySem.W.Frag} {mg : Str → Option Value} {cn : List (Str × List Str)} {x : Str} {c : Nat} {ms : List Bool} (hc : (tab cn K).cad c = He.ga K x) (h : (Xf.exc x ms).ok K = true) (hg : ∀ y ∈ markNames, mg y = some (.ref (He.ga K y))) (hs : mg "SiftError" = some (.ref (He.ga K "SiftError"))) (hv : mg "ValueError" = none) : ExF (tab cn K) mg c ms := by
  unfold Xf.ok at h
  simp only [Bool.and_eq_true, decide_eq_true_eq] at h
  obtain ⟨h1, h2, h3, h4, h5, h6, h7, h8, h9, h10, h11, h12, h13, h14⟩ := h
  refine ⟨⟨by rw [hc]; exact h1, ⟨by rw [hc]; exact He.eqO_ok h2, by rw [hc]; exact He.eqO_ok h3, by rw [hc]; exact h4, by rw [hc]; exact h5, by rw [hc]; exact He.eqO_ok h6, He.eqO_ok h7, h8, by rw [hc]; exact h9⟩⟩, h10, fun j y b k1 k2 => ?_, ?_, ?_⟩
  · have hz : (markNames.zip ms)[j]? = some (y, b) := by
      rw [List.getElem?_zip_eq_some]; exact ⟨k1, k2⟩
    have hm := List.all_eq_true.mp h11 _ (List.mem_of_getElem? hz)
    have hy : okName y = true := by
      have := List.mem_of_getElem? k1
      revert y
      unfold markNames
      intro y _ _ _ hy
      simp only [List.mem_cons, List.not_mem_nil, or_false] at hy
      rcases hy with rfl | rfl | rfl | rfl | rfl | rfl | rfl | rfl | rfl | rfl <;> decide +kernel
    exact isC_own (hg y (List.mem_of_getElem? k1)) (by rw [hc]; exact of_decide_eq_true hm) hy
  · exact isC_own hs (by rw [hc]; exact h12) (by decide +kernel)
  · exact isC_ty (n := "ValueError") hv (by decide +kernel) (by rw [hc]; exact h13) (by decide +kernel)
theorem exm_of {K : PySem.W.Frag} {x : Str} {ms : List Bool} (h : (Xf.exc x ms).ok K = true) : PySem.W.exmOne K (.ref (He.ga K x)) (.ref (He.ga K "SiftError")) = some true := by
  unfold Xf.ok at h
  simp only [Bool.and_eq_true, decide_eq_true_eq] at h
  exact h.2.2.2.2.2.2.2.2.2.2.2.2.2
theorem raf_of {x : Str} {c : Nat} (hc : Γ.T.cad c = He.ga Γ.T.K x) (h : (He.Fa.exc x).ok Γ.T.K = true) (hg : Γ.mg x = some (.ref (He.ga Γ.T.K x))) : RaF Γ x c := by
  obtain ⟨h1, h2, h3, h4⟩ := He.exc_ok h
  exact ⟨by rw [hc]; exact h1, by rw [hc]; exact hg, by rw [hc]; exact h2, by rw [hc]; exact h3, by rw [hc]; exact h4⟩
/-- what the text says of such an __init__ -/
structure SupT (st : Stmt) (fl : List (Str × Str)) : Prop where
  body : ∃ (ps : List (Str × Str × Pos × Pos × Pos × Pos)) (p0 p1 p2 p3 p4 p5 : Pos) (m : Str) (j : Nat), (p2.endLine == p4.line) = true ∧ defBody st = .Expr (.Call (.Attribute (.Call (.Name "super" p0) [] [] p1) "__init__" p2) [.Constant (.str m) j p3] [] p4) p5 :: storesOf ps ∧ ps.map (fun z => (z.1, z.2.1)) = fl
  ar : ∃ (ar : Arg), ((defArgs st).posonlyargs ++ (defArgs st).args).head? = some ar ∧ ar.arg = ("self" : Str)
  bind : ∀ (name qual : Str) (body : List Stmt) (scope : Scope) (kV doc pm ct : Value) (an : Option Addr) (cda cc : Addr) (us : List Value), us.length = fl.length + 1 → bindArgs (PySem.W.ksFn name qual (defArgs st) body scope .none kV doc pm an (.ref cda) ct cc) ⟨us, []⟩ = pure ((("self" : Str) :: fl.map (·.2)).zip us)
  sc : (defScope st).kind = .function ∧ (defScope st).isCoroutine = false ∧ (defScope st).isGenerator = false ∧ (∀ x ∈ (defScope st).names, x.2 ≠ .cell) ∧ (∀ x ∈ (("self" : Str) :: fl.map (·.2)), (defScope st).names.lookup x = some .local) ∧
    (defScope st).names.lookup ("super" : Str) = some .globalImplicit ∧ (defScope st).names.lookup ("__class__" : Str) = some .free
  db : ∀ q ∈ fl, (q.2 == ("__debug__" : Str)) = false
  nd : (("self" : Str) :: fl.map (·.2)).Nodup
  nn : (fl.map (·.1)).Nodup
  len : fl.length ≤ 3 ∧ fl ≠ []
theorem sup_of {prog : Program} {fa : List He.Fa} {fn : List He.FnD} {xf : List Xf} {cf : List He.FnD} {ef : List (Str × Str × Stmt)} {K : PySem.W.Frag} {mg : Str → Option Value} {x q : Str} {st : Stmt} {fl : List (Str × Str)} {file : Str} (c : SaysX fa fn xf cf ef K) (hx : (x, q, st) ∈ ef)
    (hf : (Xf.sup x fl file).ok K = true) (T : SupT st fl) (hs : mg "super" = none) (hfile : ((prog.main.file : Str) == file) = true) (htop : (prog.main.scope.names.lookup ("super" : Str)).isSome = false) : SupC prog K mg (He.ga K x) (He.ma K (He.ga K x) "__init__") fl := by
  unfold Xf.ok at hf
  simp only [Bool.and_eq_true, decide_eq_true_eq] at hf
  obtain ⟨h1, h2, h3, h4, h5, h6, h7, h8, h9, h10, h11⟩ := hf
  have eo : efObs K x = efVal (x, q, st) := by
    obtain ⟨i, hi, e⟩ := List.mem_iff_getElem.mp hx
    have e1 : ef.map (fun d => efObs K d.1) = ef.map efVal := congrArg (fun z : AlX => z.2.2.2) c
    have e2 : (ef.map fun d => efObs K d.1)[i]? = (ef.map efVal)[i]? := by rw [e1]
    rw [List.getElem?_map, List.getElem?_map, List.getElem?_eq_getElem hi, e] at e2
    exact Option.some.inj e2
  refine ⟨?_, He.eqO_ok h2, h3, h4, h5, He.eqO_ok h6, h7, h8, He.eqO_ok h9, fun z hz => He.eqO_ok (List.all_eq_true.mp h10 z hz), ?_, T.db, T.nd, T.nn, hs, htop, T.len⟩
  · unfold supCls at h1
    split at h1
    · rename_i dd cd sl ho
      split at h1
      · rename_i C' bm k0 k1 k2 k3 n k5 hm hsl0
        simp only [Bool.and_eq_true, beq_iff_eq, Bool.not_eq_true'] at h1
        obtain ⟨rfl, rfl, hdel, hd, hr⟩ := h1
        obtain ⟨nm, bs, mro, ns, qn, hd', sn, sub, ab, col, del⟩ := cd
        dsimp only at hm hdel hd
        subst hm hdel hd
        have hsl : sl = #[k0, k1, k2, k3, some (.builtin "ValueError.__new__"), k5] := by
          obtain ⟨l⟩ := sl
          simp only at hsl0
          rw [hsl0]
        subst hsl
        exact ⟨nm, qn, ns, bs, bm, sn, sub, ab, col, dd, k0, k1, k2, k3, k5, ho, hr⟩
      · cases h1
    · cases h1
  · unfold supFn at h11
    unfold efObs efVal at eo
    dsimp only at eo
    cases ek : K.lookup (He.ma K (He.ga K x) "__init__") with
    | none => rw [ek] at h11; cases h11
    | some o =>
      obtain ⟨oc, od, dt, osl⟩ := o
      rw [ek] at h11 eo
      cases dt with
      | func fd =>
        obtain ⟨n1, n2, n3, n4, n5, n6, n7, n8, n9, n10, n11, n12, n13, n14, n15⟩ := fd
        simp only [Option.some.injEq, Prod.mk.injEq] at eo
        obtain ⟨e1, e2, e3, e4, e5, e6, e7, e8, e9⟩ := eo
        dsimp only at h11
        subst e1 e2 e3 e4 e5 e6 e8 e9
        split at h11
        · rename_i cda k cc
          have hk : k = ("__class__" : Str) := by simpa using e7
          subst hk
          simp only [Bool.and_eq_true] at h11
          obtain ⟨g1, g2, g3⟩ := h11
          obtain ⟨ps, p0, p1, p2, p3, p4, p5, m, j, hline, hb, hps⟩ := T.body
          obtain ⟨sc1, sc2, sc3, sc4, sc5, sc6, sc7⟩ := T.sc
          split at g2
          · rename_i ccl cdd vs ccs hcode
            split at g2
            · rename_i f tf hvs
              split at g3
              · rename_i cl cld D csl hcell
                simp only [Bool.and_eq_true, decide_eq_true_eq] at g3
                obtain ⟨d1, d2, d3⟩ := g3
                have hff : f = file := (beq_iff_eq.mp g2).symm
                refine ⟨oc, od, osl, _, _, _, _, _, _, _, _, _, _, _, cda, cc, D, ps, p0, p1, p2, p3, p4, p5, m, j, hline, rfl, g1, hb, hps, T.ar, fun us hu => T.bind _ _ _ _ _ _ _ _ _ _ _ us hu, sc1, sc2, sc3, sc4, sc5, sc6, sc7, ⟨ccl, cdd, vs, ccs, f, tf, hcode, hvs, by rw [hff]; exact hfile⟩, ⟨cl, cld, csl, hcell⟩, d1, d2, He.eqO_ok d3⟩
              · cases g3
            · cases g2
          · cases g2
        · cases h11
      | _ => cases h11
theorem isi_own {x : Str} {ys : List Str} {c : Nat} {cs : List Nat} (h : (Xf.iso x ys).ok Γ.T.K = true) (hc : Γ.T.cad c = He.ga Γ.T.K x) (hm : Γ.mg x = some (.ref (He.ga Γ.T.K x))) (hcs : ∀ k ∈ cs, Cls Γ.T.K (Γ.T.cad k) ∧ ∃ y ∈ ys, Γ.T.cad k = He.ga Γ.T.K y ∧ decide (y = x) = (c == k)) : IsiF Γ x (.own c) cs (.ref (Γ.T.cad c)) (.ref (Γ.T.cad c)) := by
  unfold Xf.ok at h
  simp only [Bool.and_eq_true, decide_eq_true_eq] at h
  obtain ⟨h1, h2, h3, h4⟩ := h
  have base : ∀ k, k ∈ baseKinds → PySem.W.kitOne Γ.T.K (kdV0 k) (.ref (Γ.T.cad c)) = some false := fun k hk => by rw [hc]; exact of_decide_eq_true (List.all_eq_true.mp h1 k hk)
  have obj : ∀ k, k ∈ cs → PySem.W.kitOne Γ.T.K (.ref (Γ.T.cad k)) (.ref (Γ.T.cad c)) = some (c == k) ∧ ClsI Γ.T k := fun k hk => by
    obtain ⟨hC, y, hy, e1, e2⟩ := hcs k hk
    have q := List.all_eq_true.mp h4 y hy
    simp only [Bool.and_eq_true, decide_eq_true_eq] at q
    exact ⟨by rw [e1, hc, q.1, e2], ⟨hC, by rw [e1]; exact He.eqO_ok q.2.1, He.eqO_ok h2, h3, by rw [e1]; exact q.2.2⟩⟩
  refine ⟨.own _, rfl, fun k hk => ?_, fun k hk => ?_, .inl (by rw [hc]; exact hm)⟩
  · cases k with
    | obj k => exact (obj k (by simpa [kdIn] using hk)).1
    | non => exact base .non (by simp [baseKinds])
    | bl => exact base .bl (by simp [baseKinds])
    | int => exact base .int (by simp [baseKinds])
    | str => exact base .str (by simp [baseKinds])
    | tup => exact base .tup (by simp [baseKinds])
    | lst => exact base .lst (by simp [baseKinds])
  · cases k with
    | obj k => exact (obj k (by simpa [kdIn] using hk)).2
    | _ => trivial
theorem xfc_of {K : PySem.W.Frag} {x : Str} {ms : List Bool} (h : (Xf.exc x ms).ok K = true) : XfC K (He.ga K x) := by
  unfold Xf.ok at h
  simp only [Bool.and_eq_true, decide_eq_true_eq] at h
  exact ⟨He.eqO_ok h.2.1, He.eqO_ok h.2.2.1, h.2.2.2.1, h.2.2.2.2.1⟩
theorem supno_of {K : PySem.W.Frag} {x : Str} {fl : List (Str × Str)} {file : Str} (h : (Xf.sup x fl file).ok K = true) : ∀ f ∈ fl.map (·.1), PySem.W.findIn K (.ref (He.ga K x)) f = some none := by
  unfold Xf.ok at h
  simp only [Bool.and_eq_true] at h
  intro f hf
  obtain ⟨q, hq, rfl⟩ := List.mem_map.mp hf
  exact He.eqO_ok (List.all_eq_true.mp h.2.2.2.2.2.2.2.2.2.1 q hq)
end
end Sf
end
section
set_option linter.all false
set_option maxRecDepth 100000
set_option maxHeartbeats 2000000
/-! Sf.End: the law's end. -/
namespace Sf
open PySem PySem.Spec PyProof.Rows L2
theorem walk_ofX {l : PySem.W.OpenLaw} {n k : Nat} {q : Program} {loose : List Str} {XP : (Str → Option Value) → Heap → Prop} {YP : World → Heap → Prop} {d : DefRec} {CX : World → CXT} {x : Str}
    (hn : l.most = some n) (hn2 : n ≤ sizeLine) (hdf : d.params.defaults = []) (hr : Room k callerA)
    (F : ∀ (w : World) (mg : Str → Option Value) (fa : Addr) (h : Heap), YP w h → h.Ns mainGlobals mg → mg d.name = some (.ref fa) →
      ∃ (K : PySem.W.Frag) (fd : FuncData) (sp : Sp), K.In h ∧ (∀ (s : Shared) (u : Value), BindsTo s fd ⟨[u], []⟩ [(x, u)]) ∧
        (∀ (H : Hp) (a : Addr) (ns : List Int), ns.length ≤ n → (∀ z ∈ ns, Builtin.Int.intBits z ≤ 1048576) → SqL K H a (ns.map V.int) → sp [.ref a] H (fun v _ => v = .bl true) fun _ _ _ => False) ∧
        ∀ base : Heap, K.In base → base.Ns mainGlobals mg → FnOk l.prog w K mg base (CX w) k fa fd [x] sp)
    (hCX : ∀ (w : World) (H : Hp) (s : Shared) (e : Value) (s' : Shared), CX w [] H s (fun _ _ _ => False) e s' → False) :
    PySem.W.WalkO q loose XP YP l.row.toRowW d [] (fun f vs => PySem.call f vs) := by
  refine Att.attach_callB hn hdf fun w s₀ s₁ mg mb fa o pm cd doc a vs ns G Y ho hd hcd hmg hobj hints hlen hbits hg => ?_
  obtain ⟨K, fd, sp, KX, hb, hsp, hF⟩ := F w mg fa _ Y G.T.g hmg
  exact law_call KX G.T.g G.T.b G.T.builtins G.T.nolimit hg hobj hints (Nat.le_trans hlen hn2) hr hF hb (fun H hO hS => hsp H a ns hlen hbits hS) fun H e s' => hCX w H s₁ e s'
end Sf
end
section
set_option linter.all false
set_option maxRecDepth 100000
set_option maxHeartbeats 4000000
namespace K01
open PySem L2 Sf
abbrev P : Program := PySem.Challenge.pw_siftshares_k01_lots_of_kinds
def top (i : Nat) : Stmt := PySem.Challenge.pw_siftshares_k01_lots_of_kinds.main.body.getD i (.Pass ⟨0, 0, 0, 0⟩)
def cn : List (Str × List Str) := [("Number", ["columns", "size", "terms"]), ("Lot", ["columns", "inside"]), ("Frame", ["columns", "kinds"]), ("BadFrame", []), ("NoKind", ["kind"])]
abbrev st_law_start : Stmt := (top 35)
abbrev st_law_draw : Stmt := (top 36)
abbrev st_law_name : Stmt := (top 37)
abbrev st_law_columns : Stmt := (top 38)
abbrev st_law_cells : Stmt := (top 39)
abbrev st_is_name : Stmt := (top 29)
abbrev st_kinds_of : Stmt := (top 19)
abbrev st_Frame_d_init : Stmt := (inClass (top 28) 2)
abbrev st_law_frame : Stmt := (top 40)
abbrev st_law_is_int : Stmt := (top 33)
abbrev st_Lot_d_init : Stmt := (inClass (top 27) 0)
abbrev st_Frame_lot : Stmt := (inClass (top 28) 3)
abbrev st_law_call : Stmt := (top 41)
abbrev st_Lot_d_len : Stmt := (inClass (top 27) 2)
abbrev st_Lot_d_contains : Stmt := (inClass (top 27) 3)
abbrev st_law_is_lot : Stmt := (top 34)
abbrev st_law_holds : Stmt := (top 42)
abbrev st_law : Stmt := (top 43)
abbrev st_Lot_d_iter : Stmt := (inClass (top 27) 1)
abbrev st_law_marks : Stmt := (top 31)
abbrev st_law_one : Stmt := (top 32)
def mst : List (Nat × List Bool) := [(3, [true, false, false, false, false, false, false, false, false, false]), (4, [false, false, false, false, true, false, false, false, false, false])]
def xclT : List (Nat × List Str) := [(4, ["kind"])]
abbrev st_xNoKind : Stmt := (inClass (top 7) 0)
def fn : List He.FnD := [dOf ("_law_start", none) "_law_start" "_law_start" st_law_start, dOf ("_law_draw", none) "_law_draw" "_law_draw" st_law_draw, dOf ("_law_name", none) "_law_name" "_law_name" st_law_name, dOf ("_law_columns", none) "_law_columns" "_law_columns" st_law_columns, dOf ("_law_cells", none) "_law_cells" "_law_cells" st_law_cells, dOf ("is_name", none) "is_name" "is_name" st_is_name, dOf ("kinds_of", none) "kinds_of" "kinds_of" st_kinds_of, dOf ("Frame", some "__init__") "__init__" "Frame.__init__" st_Frame_d_init, dOf ("_law_frame", none) "_law_frame" "_law_frame" st_law_frame, dOf ("_law_is_int", none) "_law_is_int" "_law_is_int" st_law_is_int, dOf ("Lot", some "__init__") "__init__" "Lot.__init__" st_Lot_d_init, dOf ("Frame", some "lot") "lot" "Frame.lot" st_Frame_lot, dOf ("_law_call", none) "_law_call" "_law_call" st_law_call, dOf ("Lot", some "__len__") "__len__" "Lot.__len__" st_Lot_d_len, dOf ("Lot", some "__contains__") "__contains__" "Lot.__contains__" st_Lot_d_contains, dOf ("_law_is_lot", none) "_law_is_lot" "_law_is_lot" st_law_is_lot, dOf ("_law_holds", none) "_law_holds" "_law_holds" st_law_holds, dOf ("law", none) "law" "law" st_law, dOf ("Lot", some "__iter__") "__iter__" "Lot.__iter__" st_Lot_d_iter, dOf ("_law_marks", none) "_law_marks" "_law_marks" st_law_marks, dOf ("_law_one", none) "_law_one" "_law_one" st_law_one]
def ef : List (Str × Str × Stmt) := [("NoKind", "NoKind.__init__", st_xNoKind)]
def cf : List He.FnD := []
def free : List Str := ["len", "int", "abs", "list", "tuple", "sum", "all", "any", "range", "isinstance", "iter", "set", "sorted", "bool", "enumerate", "str", "ValueError", "super"]
def fa : List He.Fa := free.map He.Fa.free ++ [.glo "_law_start", .glo "_law_draw", .glo "_law_name", .glo "_law_columns", .glo "_law_cells", .glo "is_name", .glo "kinds_of", .glo "_law_frame", .glo "_law_is_int", .glo "_law_call", .glo "_law_is_lot", .glo "_law_holds", .glo "law", .glo "Lot", .glo "Frame", .glo "_law_marks", .glo "_law_one", .glo "BadFrame", .glo "OtherFrame", .glo "BadDivisor", .glo "NothingToUndo", .glo "NoKind", .glo "BadAmount", .glo "TooLarge", .glo "NoColumn", .glo "NoValue", .glo "NoName", .glo "SiftError", .keep "_law_start", .keep "_law_draw", .keep "_law_name", .keep "_law_columns", .keep "_law_cells", .keep "is_name", .keep "kinds_of", .keep "_law_frame", .keep "_law_is_int", .keep "_law_call", .keep "_law_is_lot", .keep "_law_holds", .keep "law", .keep "_law_marks", .keep "_law_one", .exc "BadFrame", .cls "Lot", .mkr "Lot", .noat "Lot" "columns", .noat "Lot" "inside", .cls "Frame", .mkr "Frame", .noat "Frame" "columns", .noat "Frame" "kinds", .meth "Frame" "__init__", .meth "Lot" "__init__", .meth "Frame" "lot", .meth "Lot" "__len__", .meth "Lot" "__contains__", .meth "Lot" "__iter__"]
def xf : List Xf := [.exc "BadFrame" [true, false, false, false, false, false, false, false, false, false], .exc "NoKind" [false, false, false, false, true, false, false, false, false, false], .sup "NoKind" [("kind", "kind")] PySem.Challenge.pw_siftshares_k01_lots_of_kinds.main.file, .iso "Lot" ["Lot"], .con "Frame" "MOST_COLUMNS" 3, .con "Frame" "MOST_KINDS" 6, .isi .bool "bool", .isi .int "int"]
def clsT : List (Nat × List Str) := [(1, ["columns", "inside"]), (2, ["columns", "kinds"])]
def isiT : List (Str × Tk × List Nat) := [("bool", .bool, []), ("int", .int, []), ("Lot", .own 1, [1])]
def N_law_start : List Str := ["_law_script"]
def b_law_start : Ss := (.cons (.ret (.lst (.cons (.blt .list (.cons (.var 0) .nil)) (.cons (.int 0) (.cons (.int 0) (.cons (.int 7) (.cons (.int 19) .nil))))))) .nil)
noncomputable def sg_law_start : Sg := ⟨[], [], [], []⟩
def A_law_start : Stc := { N := N_law_start, fnN := [], meN := [], maN := [], free := free, gi := [], cls := clsT, isi := isiT, ops := [], lens := [], con := [], its := [], cas := [], ses := [], lsts := [], cms := [] }
noncomputable def F_law_start : Fn := runDef sg_law_start 1 1 b_law_start
theorem look_law_start : okSs A_law_start (defScope st_law_start) b_law_start (defBody st_law_start) = true := by decide +kernel
theorem sc_law_start : FnScope N_law_start ["_law_script"] (defScope st_law_start) := ⟨rfl, rfl, rfl, by decide +kernel, rfl, by decide +kernel, by decide +kernel⟩
theorem bd_law_start {K : PySem.W.Frag} {f : Addr} {fd : FuncData} (F : Fun K "_law_start" "_law_start" st_law_start f fd) : Binds K fd ["_law_script"] [] := F.binds fun _ _ _ _ _ _ us hl => match us, hl with | [_], _ => rfl
def N_law_draw : List Str := ["_law_state", "_law_many", "_law_cell", "_law_digit"]
def b_law_draw : Ss := (.cons (.ite (.and (.cmp .Eq (.ix (.var 0) (.int 2)) (.int 0)) (.cmp .Lt (.ix (.var 0) (.int 1)) (.blt .len (.cons (.ix (.var 0) (.int 0)) .nil)))) (.cons (.set 2 (.ix (.ix (.var 0) (.int 0)) (.ix (.var 0) (.int 1)))) (.cons (.setLoc (.var 0) (.int 1) (.bin .Add (.ix (.var 0) (.int 1)) (.int 1))) (.cons (.ite (.cmp .GtE (.blt .abs (.cons (.var 2) .nil)) (.bin .Pow (.int 10) (.int 18))) (.cons (.setLoc (.var 0) (.int 2) (.blt .abs (.cons (.var 2) .nil))) .nil) (.cons (.setLoc (.var 0) (.int 3) (.bin .Mod (.blt .int (.cons (.bin .Add (.ix (.var 0) (.int 3)) (.var 2)) .nil)) (.int 1009))) (.cons (.setLoc (.var 0) (.int 4) (.bin .Mod (.blt .int (.cons (.bin .Add (.ix (.var 0) (.int 4)) (.bin .Mult (.var 2) (.int 3))) .nil)) (.int 997))) .nil))) .nil))) .nil) (.cons (.ite (.cmp .Gt (.ix (.var 0) (.int 2)) (.int 0)) (.cons (.set 3 (.bin .Mod (.blt .int (.cons (.ix (.var 0) (.int 2)) .nil)) (.var 1))) (.cons (.setLoc (.var 0) (.int 2) (.bin .FloorDiv (.ix (.var 0) (.int 2)) (.var 1))) (.cons (.ret (.var 3)) .nil))) .nil) (.cons (.setLoc (.var 0) (.int 3) (.bin .Mod (.blt .int (.cons (.bin .Add (.bin .Mult (.ix (.var 0) (.int 3)) (.int 37)) (.int 11)) .nil)) (.int 1009))) (.cons (.setLoc (.var 0) (.int 4) (.bin .Mod (.blt .int (.cons (.bin .Add (.bin .Mult (.ix (.var 0) (.int 4)) (.int 41)) (.int 7)) .nil)) (.int 997))) (.cons (.ret (.bin .Mod (.blt .int (.cons (.bin .Add (.ix (.var 0) (.int 3)) (.bin .Mult (.ix (.var 0) (.int 4)) (.int 1009))) .nil)) (.var 1))) .nil)))))
noncomputable def sg_law_draw : Sg := ⟨[], [], [], []⟩
def A_law_draw : Stc := { N := N_law_draw, fnN := [], meN := [], maN := [], free := free, gi := [], cls := clsT, isi := isiT, ops := [], lens := [], con := [], its := [], cas := [], ses := [], lsts := [], cms := [] }
noncomputable def F_law_draw : Fn := runDef sg_law_draw 2 4 b_law_draw
theorem look_law_draw : okSs A_law_draw (defScope st_law_draw) b_law_draw (defBody st_law_draw) = true := by decide +kernel
theorem sc_law_draw : FnScope N_law_draw ["_law_state", "_law_many"] (defScope st_law_draw) := ⟨rfl, rfl, rfl, by decide +kernel, rfl, by decide +kernel, by decide +kernel⟩
theorem bd_law_draw {K : PySem.W.Frag} {f : Addr} {fd : FuncData} (F : Fun K "_law_draw" "_law_draw" st_law_draw f fd) : Binds K fd ["_law_state", "_law_many"] [] := F.binds fun _ _ _ _ _ _ us hl => match us, hl with | [_, _], _ => rfl
def N_law_name : List Str := ["_law_state", "_law_used", "_law_size", "_law_name_here", "_law_k", "_law_spare"]
def b_law_name : Ss := (.cons (.set 2 (.bin .Add (.int 1) (.call 0 (.cons (.var 0) (.cons (.int 8) .nil))))) (.cons (.set 3 (.join (.str "") (.comp (.one 4) [4] (.rng1 (.var 2)) (.ix (.str "abcdefghijklmnopqrstuvwxyz") (.call 0 (.cons (.var 0) (.cons (.int 26) .nil))))))) (.cons (.ite (.or (.cmp .Eq (.var 3) (.str "self")) (.cmp .In (.var 3) (.var 1))) (.cons (.set 3 (.ix (.compIf (.one 5) [5] (.seq (.lst (.cons (.str "p") (.cons (.str "q") (.cons (.str "r") (.cons (.str "s") .nil)))))) (.cmp .NotIn (.var 5) (.var 1)) (.var 5)) (.int 0))) .nil) .nil) (.cons (.ret (.var 3)) .nil))))
noncomputable def sg_law_name : Sg := ⟨[F_law_draw], [], [], []⟩
def A_law_name : Stc := { N := N_law_name, fnN := ["_law_draw"], meN := [], maN := [], free := free, gi := [], cls := clsT, isi := isiT, ops := [], lens := [], con := [], its := [], cas := [], ses := [], lsts := [], cms := [] }
noncomputable def F_law_name : Fn := runDef sg_law_name 2 6 b_law_name
theorem look_law_name : okSs A_law_name (defScope st_law_name) b_law_name (defBody st_law_name) = true := by decide +kernel
theorem sc_law_name : FnScope N_law_name ["_law_state", "_law_used"] (defScope st_law_name) := ⟨rfl, rfl, rfl, by decide +kernel, rfl, by decide +kernel, by decide +kernel⟩
theorem bd_law_name {K : PySem.W.Frag} {f : Addr} {fd : FuncData} (F : Fun K "_law_name" "_law_name" st_law_name f fd) : Binds K fd ["_law_state", "_law_used"] [] := F.binds fun _ _ _ _ _ _ us hl => match us, hl with | [_, _], _ => rfl
def N_law_columns : List Str := ["_law_state", "_law_most", "_law_many", "_law_columns_here", "_law_room", "_law_k", "_law_size", "_law_column"]
def b_law_columns : Ss := (.cons (.set 2 (.bin .Add (.int 1) (.call 0 (.cons (.var 0) (.cons (.int 3) .nil))))) (.cons (.setA 3 (.lst .nil)) (.cons (.set 4 (.var 1)) (.cons (.forS (.one 5) (.rng1 (.var 2)) (.cons (.set 6 (.bin .Add (.int 1) (.call 0 (.cons (.var 0) (.cons (.var 4) .nil))))) (.cons (.set 4 (.bin .FloorDiv (.var 4) (.var 6))) (.cons (.app 3 (.tup (.cons (.call 1 (.cons (.var 0) (.cons (.comp (.one 7) [7] (.seq (.var 3)) (.ix (.var 7) (.int 0))) .nil))) (.cons (.var 6) .nil)))) .nil)))) (.cons (.ret (.var 3)) .nil)))))
noncomputable def sg_law_columns : Sg := ⟨[F_law_draw, F_law_name], [], [], []⟩
def A_law_columns : Stc := { N := N_law_columns, fnN := ["_law_draw", "_law_name"], meN := [], maN := [], free := free, gi := [], cls := clsT, isi := isiT, ops := [], lens := [], con := [], its := [], cas := [], ses := [], lsts := [], cms := [] }
noncomputable def F_law_columns : Fn := runDef sg_law_columns 2 8 b_law_columns
theorem look_law_columns : okSs A_law_columns (defScope st_law_columns) b_law_columns (defBody st_law_columns) = true := by decide +kernel
theorem sc_law_columns : FnScope N_law_columns ["_law_state", "_law_most"] (defScope st_law_columns) := ⟨rfl, rfl, rfl, by decide +kernel, rfl, by decide +kernel, by decide +kernel⟩
theorem bd_law_columns {K : PySem.W.Frag} {f : Addr} {fd : FuncData} (F : Fun K "_law_columns" "_law_columns" st_law_columns f fd) : Binds K fd ["_law_state", "_law_most"] [] := F.binds fun _ _ _ _ _ _ us hl => match us, hl with | [_, _], _ => rfl
def N_law_cells : List Str := ["_law_columns_here", "_law_cells_here", "_law_column", "_law_longer", "_law_at", "_law_value"]
def b_law_cells : Ss := (.cons (.set 1 (.lst (.cons (.lst .nil) .nil))) (.cons (.forS (.one 2) (.seq (.var 0)) (.cons (.setA 3 (.lst .nil)) (.cons (.forS (.one 4) (.rng1 (.blt .len (.cons (.var 1) .nil))) (.cons (.forS (.one 5) (.rng1 (.ix (.var 2) (.int 1))) (.cons (.app 3 (.bin .Add (.ix (.var 1) (.var 4)) (.lst (.cons (.var 5) .nil)))) .nil)) .nil)) (.cons (.fz 3) (.cons (.set 1 (.var 3)) .nil))))) (.cons (.ret (.var 1)) .nil)))
noncomputable def sg_law_cells : Sg := ⟨[], [], [], []⟩
def A_law_cells : Stc := { N := N_law_cells, fnN := [], meN := [], maN := [], free := free, gi := [], cls := clsT, isi := isiT, ops := [], lens := [], con := [], its := [], cas := [], ses := [], lsts := [], cms := [] }
noncomputable def F_law_cells : Fn := runDef sg_law_cells 1 6 b_law_cells
theorem look_law_cells : okSs A_law_cells (defScope st_law_cells) b_law_cells (defBody st_law_cells) = true := by decide +kernel
theorem sc_law_cells : FnScope N_law_cells ["_law_columns_here"] (defScope st_law_cells) := ⟨rfl, rfl, rfl, by decide +kernel, rfl, by decide +kernel, by decide +kernel⟩
theorem bd_law_cells {K : PySem.W.Frag} {f : Addr} {fd : FuncData} (F : Fun K "_law_cells" "_law_cells" st_law_cells f fd) : Binds K fd ["_law_columns_here"] [] := F.binds fun _ _ _ _ _ _ us hl => match us, hl with | [_], _ => rfl
def N_is_name : List Str := ["text"]
def b_is_name : Ss := (.cons (.ret (.and (.chn .LtE .LtE (.int 1) (.blt .len (.cons (.var 0) .nil)) (.int 8)) (.and (.strm .isalpha (.var 0)) (.strm .islower (.var 0))))) .nil)
noncomputable def sg_is_name : Sg := ⟨[], [], [], []⟩
def A_is_name : Stc := { N := N_is_name, fnN := [], meN := [], maN := [], free := free, gi := [], cls := clsT, isi := isiT, ops := [], lens := [], con := [], its := [], cas := [], ses := [], lsts := [], cms := [] }
noncomputable def F_is_name : Fn := runDef sg_is_name 1 1 b_is_name
theorem look_is_name : okSs A_is_name (defScope st_is_name) b_is_name (defBody st_is_name) = true := by decide +kernel
theorem sc_is_name : FnScope N_is_name ["text"] (defScope st_is_name) := ⟨rfl, rfl, rfl, by decide +kernel, rfl, by decide +kernel, by decide +kernel⟩
theorem bd_is_name {K : PySem.W.Frag} {f : Addr} {fd : FuncData} (F : Fun K "is_name" "is_name" st_is_name f fd) : Binds K fd ["text"] [] := F.binds fun _ _ _ _ _ _ us hl => match us, hl with | [_], _ => rfl
def N_kinds_of : List Str := ["columns", "many", "name", "values"]
def b_kinds_of : Ss := (.cons (.set 1 (.int 1)) (.cons (.forS (.tup [2, 3]) (.seq (.var 0)) (.cons (.set 1 (.bin .Mult (.var 1) (.var 3))) .nil)) (.cons (.ret (.var 1)) .nil)))
noncomputable def sg_kinds_of : Sg := ⟨[], [], [], []⟩
def A_kinds_of : Stc := { N := N_kinds_of, fnN := [], meN := [], maN := [], free := free, gi := [], cls := clsT, isi := isiT, ops := [], lens := [], con := [], its := [], cas := [], ses := [], lsts := [], cms := [] }
noncomputable def F_kinds_of : Fn := runDef sg_kinds_of 1 4 b_kinds_of
theorem look_kinds_of : okSs A_kinds_of (defScope st_kinds_of) b_kinds_of (defBody st_kinds_of) = true := by decide +kernel
theorem sc_kinds_of : FnScope N_kinds_of ["columns"] (defScope st_kinds_of) := ⟨rfl, rfl, rfl, by decide +kernel, rfl, by decide +kernel, by decide +kernel⟩
theorem bd_kinds_of {K : PySem.W.Frag} {f : Addr} {fd : FuncData} (F : Fun K "kinds_of" "kinds_of" st_kinds_of f fd) : Binds K fd ["columns"] [] := F.binds fun _ _ _ _ _ _ us hl => match us, hl with | [_], _ => rfl
def N_Frame_d_init : List Str := ["self", "columns", "names", "name", "values"]
def b_Frame_d_init : Ss := (.cons (.set 2 (.comp (.tup [3, 4]) [3, 4] (.seq (.var 1)) (.var 3))) (.cons (.ite (.or (.cmp .Eq (.blt .len (.cons (.var 1) .nil)) (.int 0)) (.or (.cmp .Gt (.blt .len (.cons (.var 1) .nil)) (.gcon "Frame" "MOST_COLUMNS" 3)) (.cmp .Lt (.lenSet (.var 2)) (.blt .len (.cons (.var 2) .nil))))) (.cons (.raise 3 .nil) .nil) .nil) (.cons (.forS (.tup [3, 4]) (.seq (.var 1)) (.cons (.ite (.or (.not (.call 0 (.cons (.var 3) .nil))) (.or (.cmp .Eq (.var 3) (.str "self")) (.cmp .Lt (.var 4) (.int 1)))) (.cons (.raise 3 .nil) .nil) .nil) .nil)) (.cons (.ite (.cmp .Gt (.call 1 (.cons (.var 1) .nil)) (.gcon "Frame" "MOST_KINDS" 6)) (.cons (.raise 3 .nil) .nil) .nil) (.cons (.fldS 0 2 0 "columns" (.blt .tuple (.cons (.comp (.tup [3, 4]) [3, 4] (.seq (.var 1)) (.tup (.cons (.var 3) (.cons (.var 4) .nil)))) .nil))) (.cons (.fldS 0 2 1 "kinds" (.call 1 (.cons (.var 1) .nil))) .nil))))))
noncomputable def sg_Frame_d_init : Sg := ⟨[F_is_name, F_kinds_of], [], [], []⟩
def A_Frame_d_init : Stc := { N := N_Frame_d_init, fnN := ["is_name", "kinds_of"], meN := [], maN := [], free := free, gi := [], cls := clsT, isi := isiT, ops := [], lens := [], con := [("Frame", "MOST_COLUMNS", 3), ("Frame", "MOST_KINDS", 6)], its := [], cas := [], ses := [], lsts := [], cms := [], exs := [("BadFrame", 3)] }
noncomputable def I_Frame_d_init : List D → Hs → Res (List D) := runInitStar sg_Frame_d_init 0 4 2 2 b_Frame_d_init
theorem look_Frame_d_init : okSs A_Frame_d_init (defScope st_Frame_d_init) b_Frame_d_init (defBody st_Frame_d_init) = true := by decide +kernel
theorem sc_Frame_d_init : FnScope N_Frame_d_init ["self", "columns"] (defScope st_Frame_d_init) := ⟨rfl, rfl, rfl, by decide +kernel, rfl, by decide +kernel, by decide +kernel⟩
theorem bd_Frame_d_init {K : PySem.W.Frag} {f : Addr} {fd : FuncData} (F : Fun K "__init__" "Frame.__init__" st_Frame_d_init f fd) : ∀ us rest : List Value, us.length = (["self"] : List Str).length → bindArgs fd ⟨us ++ rest, []⟩ = (newTuple rest >>= fun t => pure ((["self"] : List Str).zip us ++ [(("columns" : Str), t)])) := by
  obtain ⟨oc, od, kV, doc, pm, an, cdv, ct, osl, rfl, lk, hcd⟩ := F.ex
  exact StX.bind_star1 (B := fun l => bindArgs _ ⟨l, []⟩) (fun _ => rfl) fun _ _ _ => rfl
def N_law_frame : List Str := ["_law_columns_here"]
def b_law_frame : Ss := (.cons (.ite (.cmp .Eq (.blt .len (.cons (.var 0) .nil)) (.int 1)) (.cons (.ret (.make 0 (.cons (.ix (.var 0) (.int 0)) .nil))) .nil) .nil) (.cons (.ite (.cmp .Eq (.blt .len (.cons (.var 0) .nil)) (.int 2)) (.cons (.ret (.make 0 (.cons (.ix (.var 0) (.int 0)) (.cons (.ix (.var 0) (.int 1)) .nil)))) .nil) .nil) (.cons (.ret (.make 0 (.cons (.ix (.var 0) (.int 0)) (.cons (.ix (.var 0) (.int 1)) (.cons (.ix (.var 0) (.int 2)) .nil))))) .nil)))
noncomputable def sg_law_frame : Sg := ⟨[], [], [(2, makeF 2 I_Frame_d_init)], []⟩
def A_law_frame : Stc := { N := N_law_frame, fnN := [], meN := [], maN := ["Frame"], free := free, gi := [], cls := clsT, isi := isiT, ops := [], lens := [], con := [], its := [], cas := [], ses := [], lsts := [], cms := [] }
noncomputable def F_law_frame : Fn := runDef sg_law_frame 1 1 b_law_frame
theorem look_law_frame : okSs A_law_frame (defScope st_law_frame) b_law_frame (defBody st_law_frame) = true := by decide +kernel
theorem sc_law_frame : FnScope N_law_frame ["_law_columns_here"] (defScope st_law_frame) := ⟨rfl, rfl, rfl, by decide +kernel, rfl, by decide +kernel, by decide +kernel⟩
theorem bd_law_frame {K : PySem.W.Frag} {f : Addr} {fd : FuncData} (F : Fun K "_law_frame" "_law_frame" st_law_frame f fd) : Binds K fd ["_law_columns_here"] [] := F.binds fun _ _ _ _ _ _ us hl => match us, hl with | [_], _ => rfl
def N_law_is_int : List Str := ["_law_actual"]
def b_law_is_int : Ss := (.cons (.ret (.and (.isi .int [] (.var 0)) (.not (.isi .bool [] (.var 0))))) .nil)
noncomputable def sg_law_is_int : Sg := ⟨[], [], [], []⟩
def A_law_is_int : Stc := { N := N_law_is_int, fnN := [], meN := [], maN := [], free := free, gi := [], cls := clsT, isi := isiT, ops := [], lens := [], con := [], its := [], cas := [], ses := [], lsts := [], cms := [] }
noncomputable def F_law_is_int : Fn := runDef sg_law_is_int 1 1 b_law_is_int
theorem look_law_is_int : okSs A_law_is_int (defScope st_law_is_int) b_law_is_int (defBody st_law_is_int) = true := by decide +kernel
theorem sc_law_is_int : FnScope N_law_is_int ["_law_actual"] (defScope st_law_is_int) := ⟨rfl, rfl, rfl, by decide +kernel, rfl, by decide +kernel, by decide +kernel⟩
theorem bd_law_is_int {K : PySem.W.Frag} {f : Addr} {fd : FuncData} (F : Fun K "_law_is_int" "_law_is_int" st_law_is_int f fd) : Binds K fd ["_law_actual"] [] := F.binds fun _ _ _ _ _ _ us hl => match us, hl with | [_], _ => rfl
def N_Lot_d_init : List Str := ["self", "columns", "inside"]
def b_Lot_d_init : Ss := (.cons (.fldS 0 1 0 "columns" (.var 1)) (.cons (.fldS 0 1 1 "inside" (.var 2)) .nil))
noncomputable def sg_Lot_d_init : Sg := ⟨[], [], [], []⟩
def A_Lot_d_init : Stc := { N := N_Lot_d_init, fnN := [], meN := [], maN := [], free := free, gi := [], cls := clsT, isi := isiT, ops := [], lens := [], con := [], its := [], cas := [], ses := [], lsts := [], cms := [] }
noncomputable def I_Lot_d_init : List D → Hs → Res (List D) := runInit sg_Lot_d_init 2 2 1 2 b_Lot_d_init
theorem look_Lot_d_init : okSs A_Lot_d_init (defScope st_Lot_d_init) b_Lot_d_init (defBody st_Lot_d_init) = true := by decide +kernel
theorem sc_Lot_d_init : FnScope N_Lot_d_init ["self", "columns", "inside"] (defScope st_Lot_d_init) := ⟨rfl, rfl, rfl, by decide +kernel, rfl, by decide +kernel, by decide +kernel⟩
theorem bd_Lot_d_init {K : PySem.W.Frag} {f : Addr} {fd : FuncData} (F : Fun K "__init__" "Lot.__init__" st_Lot_d_init f fd) : Binds K fd ["self", "columns", "inside"] [] := F.binds fun _ _ _ _ _ _ us hl => match us, hl with | [_, _, _], _ => rfl
def N_Frame_lot : List Str := ["self", "kinds", "kind"]
def b_Frame_lot : Ss := (.cons (.forS (.one 2) (.seq (.var 1)) (.cons (.ite (.or (.cmp .Lt (.var 2) (.int 0)) (.cmp .GtE (.var 2) (.fld "kinds" [(2, 1)] (.var 0)))) (.cons (.raise 4 (.cons (.var 2) .nil)) .nil) .nil) .nil)) (.cons (.ret (.make 0 (.cons (.fld "columns" [(2, 0)] (.var 0)) (.cons (.blt .tuple (.cons (.compIf (.one 2) [2] (.rng1 (.fld "kinds" [(2, 1)] (.var 0))) (.cmp .In (.var 2) (.var 1)) (.var 2)) .nil)) .nil)))) .nil))
noncomputable def sg_Frame_lot : Sg := ⟨[], [], [(1, makeF 1 I_Lot_d_init)], []⟩
def A_Frame_lot : Stc := { N := N_Frame_lot, fnN := [], meN := [], maN := ["Lot"], free := free, gi := [], cls := clsT, isi := isiT, ops := [], lens := [], con := [], its := [], cas := [], ses := [], lsts := [], cms := [], exS := [("NoKind", 4, [("kind", "kind")])] }
noncomputable def F_Frame_lot : Fn := runStar sg_Frame_lot 1 3 b_Frame_lot
theorem look_Frame_lot : okSs A_Frame_lot (defScope st_Frame_lot) b_Frame_lot (defBody st_Frame_lot) = true := by decide +kernel
theorem sc_Frame_lot : FnScope N_Frame_lot ["self", "kinds"] (defScope st_Frame_lot) := ⟨rfl, rfl, rfl, by decide +kernel, rfl, by decide +kernel, by decide +kernel⟩
theorem bd_Frame_lot {K : PySem.W.Frag} {f : Addr} {fd : FuncData} (F : Fun K "lot" "Frame.lot" st_Frame_lot f fd) : ∀ us rest : List Value, us.length = (["self"] : List Str).length → bindArgs fd ⟨us ++ rest, []⟩ = (newTuple rest >>= fun t => pure ((["self"] : List Str).zip us ++ [(("kinds" : Str), t)])) := by
  obtain ⟨oc, od, kV, doc, pm, an, cdv, ct, osl, rfl, lk, hcd⟩ := F.ex
  exact StX.bind_star1 (B := fun l => bindArgs _ ⟨l, []⟩) (fun _ => rfl) fun _ _ _ => rfl
def N_law_call : List Str := ["_law_frame_here", "_law_asked", "_law_many", "_law_row"]
def b_law_call : Ss := (.cons (.ite (.cmp .Eq (.var 2) (.int 0)) (.cons (.ret (.meth 0 (.var 0) .nil)) .nil) .nil) (.cons (.ite (.cmp .Eq (.var 2) (.int 1)) (.cons (.ret (.meth 0 (.var 0) (.cons (.ix (.var 1) (.int 0)) .nil))) .nil) .nil) (.cons (.ite (.cmp .Eq (.var 2) (.int 3)) (.cons (.ret (.meth 0 (.var 0) (.cons (.ix (.var 1) (.int 0)) (.cons (.ix (.var 1) (.int 1)) (.cons (.ix (.var 1) (.int 2)) .nil))))) .nil) .nil) (.cons (.ite (.cmp .Eq (.var 2) (.int 6)) (.cons (.ret (.meth 0 (.var 0) (.cons (.ix (.var 1) (.int 0)) (.cons (.ix (.var 1) (.int 1)) (.cons (.ix (.var 1) (.int 2)) (.cons (.ix (.var 1) (.int 3)) (.cons (.ix (.var 1) (.int 4)) (.cons (.ix (.var 1) (.int 5)) .nil)))))))) .nil) .nil) (.cons (.set 3 (.var 1)) (.cons (.ret (.meth 0 (.var 0) (.cons (.ix (.var 3) (.int 0)) (.cons (.ix (.var 3) (.int 1)) (.cons (.ix (.var 3) (.int 2)) (.cons (.ix (.var 3) (.int 3)) (.cons (.ix (.var 3) (.int 4)) (.cons (.ix (.var 3) (.int 5)) (.cons (.ix (.var 3) (.int 6)) (.cons (.ix (.var 3) (.int 7)) (.cons (.ix (.var 3) (.int 8)) .nil))))))))))) .nil))))))
noncomputable def sg_law_call : Sg := ⟨[], [[(2, F_Frame_lot)]], [], []⟩
def A_law_call : Stc := { N := N_law_call, fnN := [], meN := ["lot"], maN := [], free := free, gi := [], cls := clsT, isi := isiT, ops := [], lens := [], con := [], its := [], cas := [], ses := [], lsts := [], cms := [] }
noncomputable def F_law_call : Fn := runDef sg_law_call 3 4 b_law_call
theorem look_law_call : okSs A_law_call (defScope st_law_call) b_law_call (defBody st_law_call) = true := by decide +kernel
theorem sc_law_call : FnScope N_law_call ["_law_frame_here", "_law_asked", "_law_many"] (defScope st_law_call) := ⟨rfl, rfl, rfl, by decide +kernel, rfl, by decide +kernel, by decide +kernel⟩
theorem bd_law_call {K : PySem.W.Frag} {f : Addr} {fd : FuncData} (F : Fun K "_law_call" "_law_call" st_law_call f fd) : Binds K fd ["_law_frame_here", "_law_asked", "_law_many"] [] := F.binds fun _ _ _ _ _ _ us hl => match us, hl with | [_, _, _], _ => rfl
def N_Lot_d_len : List Str := ["self"]
def b_Lot_d_len : Ss := (.cons (.ret (.blt .len (.cons (.fld "inside" [(1, 1)] (.var 0)) .nil))) .nil)
noncomputable def sg_Lot_d_len : Sg := ⟨[], [], [], []⟩
def A_Lot_d_len : Stc := { N := N_Lot_d_len, fnN := [], meN := [], maN := [], free := free, gi := [], cls := clsT, isi := isiT, ops := [], lens := [], con := [], its := [], cas := [], ses := [], lsts := [], cms := [] }
noncomputable def F_Lot_d_len : Fn := runDef sg_Lot_d_len 1 1 b_Lot_d_len
theorem look_Lot_d_len : okSs A_Lot_d_len (defScope st_Lot_d_len) b_Lot_d_len (defBody st_Lot_d_len) = true := by decide +kernel
theorem sc_Lot_d_len : FnScope N_Lot_d_len ["self"] (defScope st_Lot_d_len) := ⟨rfl, rfl, rfl, by decide +kernel, rfl, by decide +kernel, by decide +kernel⟩
theorem bd_Lot_d_len {K : PySem.W.Frag} {f : Addr} {fd : FuncData} (F : Fun K "__len__" "Lot.__len__" st_Lot_d_len f fd) : Binds K fd ["self"] [] := F.binds fun _ _ _ _ _ _ us hl => match us, hl with | [_], _ => rfl
def N_Lot_d_contains : List Str := ["self", "kind"]
def b_Lot_d_contains : Ss := (.cons (.ret (.cmp .In (.var 1) (.fld "inside" [(1, 1)] (.var 0)))) .nil)
noncomputable def sg_Lot_d_contains : Sg := ⟨[], [], [], []⟩
def A_Lot_d_contains : Stc := { N := N_Lot_d_contains, fnN := [], meN := [], maN := [], free := free, gi := [], cls := clsT, isi := isiT, ops := [], lens := [], con := [], its := [], cas := [], ses := [], lsts := [], cms := [] }
noncomputable def F_Lot_d_contains : Fn := runDef sg_Lot_d_contains 2 2 b_Lot_d_contains
theorem look_Lot_d_contains : okSs A_Lot_d_contains (defScope st_Lot_d_contains) b_Lot_d_contains (defBody st_Lot_d_contains) = true := by decide +kernel
theorem sc_Lot_d_contains : FnScope N_Lot_d_contains ["self", "kind"] (defScope st_Lot_d_contains) := ⟨rfl, rfl, rfl, by decide +kernel, rfl, by decide +kernel, by decide +kernel⟩
theorem bd_Lot_d_contains {K : PySem.W.Frag} {f : Addr} {fd : FuncData} (F : Fun K "__contains__" "Lot.__contains__" st_Lot_d_contains f fd) : Binds K fd ["self", "kind"] [] := F.binds fun _ _ _ _ _ _ us hl => match us, hl with | [_, _], _ => rfl
def N_law_is_lot : List Str := ["_law_lot", "_law_inside", "_law_told", "_law_kind"]
def b_law_is_lot : Ss := (.cons (.set 2 (.comp (.one 3) [3] (.itm [(1, 1)] (.var 0)) (.var 3))) (.cons (.ite (.or (.cmp .NotEq (.var 2) (.var 1)) (.not (.blt .all (.cons (.comp (.one 3) [3] (.seq (.var 2)) (.call 0 (.cons (.var 3) .nil))) .nil)))) (.cons (.ret (.bl false)) .nil) .nil) (.cons (.ite (.or (.not (.call 0 (.cons (.lenO 0 (.var 0)) .nil))) (.cmp .NotEq (.lenO 0 (.var 0)) (.blt .len (.cons (.var 1) .nil)))) (.cons (.ret (.bl false)) .nil) .nil) (.cons (.forS (.one 3) (.seq (.lst (.cons (.neg (.int 2)) (.cons (.neg (.int 1)) (.cons (.int 0) (.cons (.int 1) (.cons (.int 2) (.cons (.int 3) (.cons (.int 4) (.cons (.int 5) (.cons (.int 6) (.cons (.int 7) (.cons (.bin .Pow (.int 10) (.int 12)) .nil))))))))))))) (.cons (.ite (.cmp .NotEq (.inO false 1 (.var 3) (.var 0)) (.cmp .In (.var 3) (.var 1))) (.cons (.ret (.bl false)) .nil) .nil) .nil)) (.cons (.ret (.bl true)) .nil)))))
noncomputable def sg_law_is_lot : Sg := ⟨[F_law_is_int], [[(1, F_Lot_d_len)], [(1, F_Lot_d_contains)]], [], []⟩
def A_law_is_lot : Stc := { N := N_law_is_lot, fnN := ["_law_is_int"], meN := ["__len__", "__contains__"], maN := [], free := free, gi := [], cls := clsT, isi := isiT, ops := [], lens := [0], con := [], its := [(1, 1)], cas := [], ses := [], lsts := [], cms := [] }
noncomputable def F_law_is_lot : Fn := runDef sg_law_is_lot 2 4 b_law_is_lot
theorem look_law_is_lot : okSs A_law_is_lot (defScope st_law_is_lot) b_law_is_lot (defBody st_law_is_lot) = true := by decide +kernel
theorem sc_law_is_lot : FnScope N_law_is_lot ["_law_lot", "_law_inside"] (defScope st_law_is_lot) := ⟨rfl, rfl, rfl, by decide +kernel, rfl, by decide +kernel, by decide +kernel⟩
theorem bd_law_is_lot {K : PySem.W.Frag} {f : Addr} {fd : FuncData} (F : Fun K "_law_is_lot" "_law_is_lot" st_law_is_lot f fd) : Binds K fd ["_law_lot", "_law_inside"] [] := F.binds fun _ _ _ _ _ _ us hl => match us, hl with | [_, _], _ => rfl
def N_law_holds : List Str := ["_law_frame_here", "_law_kinds", "_law_asked", "_law_many", "_law_due", "_law_bad", "_law_lot", "_law_kind", "_law_e"]
def b_law_holds : Ss := (.cons (.set 4 (.slc (.var 2) .no (.so (.var 3)))) (.cons (.set 5 (.compIf (.one 7) [7] (.seq (.var 4)) (.or (.cmp .Lt (.var 7) (.int 0)) (.cmp .GtE (.var 7) (.var 1))) (.var 7))) (.cons (.tryF 6 0 (.cons (.var 0) (.cons (.var 2) (.cons (.var 3) .nil))) 8 mst [.pur (.cmp .NotEq (.var 5) (.lst .nil)), .one (.int 4), .int "kind" [(4, 0)], .feq "kind" [(4, 0)] (.ix (.var 5) (.int 0))]) (.cons (.ite (.or (.cmp .NotEq (.var 5) (.lst .nil)) (.not (.isi (.own 1) [1] (.var 6)))) (.cons (.ret (.bl false)) .nil) .nil) (.cons (.ret (.call 1 (.cons (.var 6) (.cons (.compIf (.one 7) [7] (.rng1 (.var 1)) (.cmp .In (.var 7) (.var 4)) (.var 7)) .nil)))) .nil)))))
noncomputable def sg_law_holds : Sg := ⟨[F_law_call, F_law_is_lot], [], [], []⟩
def A_law_holds : Stc := { N := N_law_holds, fnN := ["_law_call", "_law_is_lot"], meN := [], maN := [], free := free, gi := [], cls := clsT, isi := isiT, ops := [], lens := [], con := [], its := [], cas := [], ses := [], lsts := [], cms := [], trs := [mst], xcl := xclT }
noncomputable def F_law_holds : Fn := runDef sg_law_holds 4 9 b_law_holds
theorem look_law_holds : okSs A_law_holds (defScope st_law_holds) b_law_holds (defBody st_law_holds) = true := by decide +kernel
theorem sc_law_holds : FnScope N_law_holds ["_law_frame_here", "_law_kinds", "_law_asked", "_law_many"] (defScope st_law_holds) := ⟨rfl, rfl, rfl, by decide +kernel, rfl, by decide +kernel, by decide +kernel⟩
theorem bd_law_holds {K : PySem.W.Frag} {f : Addr} {fd : FuncData} (F : Fun K "_law_holds" "_law_holds" st_law_holds f fd) : Binds K fd ["_law_frame_here", "_law_kinds", "_law_asked", "_law_many"] [] := F.binds fun _ _ _ _ _ _ us hl => match us, hl with | [_, _, _, _], _ => rfl
def N_law : List Str := ["_law_script", "_law_state", "_law_columns_here", "_law_kinds", "_law_frame_here", "_law_asked", "_law_turn", "_law_many", "_law_at", "_law_strange", "_law_k"]
def b_law : Ss := (.cons (.setC 1 (.call 0 (.cons (.var 0) .nil))) (.cons (.set 2 (.call 1 (.cons (.var 1) (.cons (.int 6) .nil)))) (.cons (.set 3 (.blt .len (.cons (.call 2 (.cons (.var 2) .nil)) .nil))) (.cons (.set 4 (.call 3 (.cons (.var 2) .nil))) (.cons (.ite (.or (.not (.call 4 (.cons (.fld "kinds" [(2, 1)] (.var 4)) .nil))) (.cmp .NotEq (.fld "kinds" [(2, 1)] (.var 4)) (.var 3))) (.cons (.ret (.bl false)) .nil) .nil) (.cons (.setC 5 (.comp (.one 10) [10] (.rng1 (.int 6)) (.call 5 (.cons (.var 1) (.cons (.var 3) .nil))))) (.cons (.forS (.one 6) (.rng1 (.int 2)) (.cons (.set 8 (.call 5 (.cons (.var 1) (.cons (.int 12) .nil)))) (.cons (.ite (.cmp .Lt (.var 8) (.int 6)) (.cons (.set 9 (.lst (.cons (.neg (.int 1)) (.cons (.var 3) (.cons (.bin .Add (.bin .Add (.var 3) (.int 1)) (.call 5 (.cons (.var 1) (.cons (.bin .Pow (.int 10) (.int 9)) .nil)))) (.cons (.bin .Sub (.neg (.int 2)) (.call 5 (.cons (.var 1) (.cons (.bin .Pow (.int 10) (.int 9)) .nil)))) .nil)))))) (.cons (.setLoc (.var 5) (.var 8) (.ix (.var 9) (.call 5 (.cons (.var 1) (.cons (.int 4) .nil))))) .nil)) .nil) .nil))) (.cons (.setC 5 (.bin .Add (.var 5) (.comp (.one 10) [10] (.rng1 (.int 3)) (.call 5 (.cons (.var 1) (.cons (.bin .Add (.var 3) (.int 1)) .nil)))))) (.cons (.forS (.one 7) (.seq (.lst (.cons (.int 0) (.cons (.int 1) (.cons (.int 3) (.cons (.int 6) (.cons (.int 1) (.cons (.int 9) .nil)))))))) (.cons (.ite (.not (.call 6 (.cons (.var 4) (.cons (.var 3) (.cons (.var 5) (.cons (.var 7) .nil)))))) (.cons (.ret (.bl false)) .nil) .nil) .nil)) (.cons (.ret (.bl true)) .nil))))))))))
noncomputable def sg_law : Sg := ⟨[F_law_start, F_law_columns, F_law_cells, F_law_frame, F_law_is_int, F_law_draw, F_law_holds], [], [], []⟩
def A_law : Stc := { N := N_law, fnN := ["_law_start", "_law_columns", "_law_cells", "_law_frame", "_law_is_int", "_law_draw", "_law_holds"], meN := [], maN := [], free := free, gi := [], cls := clsT, isi := isiT, ops := [], lens := [], con := [], its := [], cas := [], ses := [], lsts := [], cms := [] }
noncomputable def F_law : Fn := runDef sg_law 1 11 b_law
theorem look_law : okSs A_law (defScope st_law) b_law (defBody st_law) = true := by decide +kernel
theorem sc_law : FnScope N_law ["_law_script"] (defScope st_law) := ⟨rfl, rfl, rfl, by decide +kernel, rfl, by decide +kernel, by decide +kernel⟩
theorem bd_law {K : PySem.W.Frag} {f : Addr} {fd : FuncData} (F : Fun K "law" "law" st_law f fd) : Binds K fd ["_law_script"] [] := F.binds fun _ _ _ _ _ _ us hl => match us, hl with | [_], _ => rfl
section
variable {w : World} {K : PySem.W.Frag} {mg : Str → Option Value} {base h : Heap}
abbrev Gm (P : Program) (w : World) (K : PySem.W.Frag) (mg : Str → Option Value) (base : Heap) (k : Nat) (N : List Str) : Gam := ⟨P, w, tab cn K, mg, base, N, k⟩
structure Zs (K : PySem.W.Frag) (mg : Str → Option Value) (h : Heap) : Prop where
  X : K.In h
  G : h.Ns mainGlobals mg
  c : SaysX fa fn xf cf ef K
theorem free_all (Z : Zs K mg h) : ∀ x, x ∈ free → mg x = none := fun x hx => He.free_ok Z.X Z.G (Z.c.f (f := .free x) (List.mem_append_left _ (List.mem_map_of_mem hx)))
theorem glo_all (Z : Zs K mg h) {x : Str} (hx : He.Fa.glo x ∈ fa) : mg x = some (.ref (He.ga K x)) := He.glo_ok Z.X Z.G (Z.c.f hx)
theorem cls_all (Z : Zs K mg h) : ∀ (c : Nat) (fs : List Str), clsT.lookup c = some fs → (tab cn K).cfl c = fs ∧ Cls K ((tab cn K).cad c) ∧ fs.Nodup ∧ fs.length < 1000 ∧ ∀ f, f ∈ fs → NoAttr K ((tab cn K).cad c) f := by
  intro c fs hl
  have hm := mem_lk hl
  revert hm
  unfold clsT
  simp only [List.mem_cons, List.not_mem_nil, or_false, Prod.mk.injEq]
  rintro (⟨rfl, rfl⟩ | ⟨rfl, rfl⟩)
  · refine ⟨rfl, He.cls_ok (Z.c.f (f := .cls "Lot") (List.mem_of_getElem? (i := 62) rfl)), by decide, by decide, fun f hf => ?_⟩
    simp only [List.mem_cons, List.not_mem_nil, or_false] at hf
    rcases hf with rfl | rfl
    · exact He.noat_ok (Z.c.f (f := .noat "Lot" "columns") (List.mem_of_getElem? (i := 64) rfl))
    · exact He.noat_ok (Z.c.f (f := .noat "Lot" "inside") (List.mem_of_getElem? (i := 65) rfl))
  · refine ⟨rfl, He.cls_ok (Z.c.f (f := .cls "Frame") (List.mem_of_getElem? (i := 66) rfl)), by decide, by decide, fun f hf => ?_⟩
    simp only [List.mem_cons, List.not_mem_nil, or_false] at hf
    rcases hf with rfl | rfl
    · exact He.noat_ok (Z.c.f (f := .noat "Frame" "columns") (List.mem_of_getElem? (i := 68) rfl))
    · exact He.noat_ok (Z.c.f (f := .noat "Frame" "kinds") (List.mem_of_getElem? (i := 69) rfl))
theorem isi_all (Z : Zs K mg h) {k : Nat} {N : List Str} : ∀ q ∈ isiT, ∃ c u, IsiF (Gm P w K mg base k N) q.1 q.2.1 q.2.2 c u := by
  intro q hq
  unfold isiT at hq
  simp only [List.mem_cons, List.not_mem_nil, or_false] at hq
  rcases hq with rfl | rfl | rfl
  · exact ⟨_, _, isi_base (n := "bool") (Z.c.x (x := .isi .bool "bool") (List.mem_of_getElem? (i := 6) rfl)) (free_all Z _ (by decide)) (by decide +kernel)⟩
  · exact ⟨_, _, isi_base (n := "int") (Z.c.x (x := .isi .int "int") (List.mem_of_getElem? (i := 7) rfl)) (free_all Z _ (by decide)) (by decide +kernel)⟩
  · refine ⟨_, _, isi_own (x := "Lot") (ys := ["Lot"]) (Z.c.x (x := .iso "Lot" ["Lot"]) (List.mem_of_getElem? (i := 3) rfl)) rfl (glo_all Z (List.mem_of_getElem? (i := 31) rfl)) (fun k hk => ?_)⟩
    simp only [List.mem_cons, List.not_mem_nil, or_false] at hk
    subst hk
    · exact ⟨(cls_all Z 1 _ rfl).2.1, "Lot", by simp, rfl, by decide⟩
theorem exf_all (Z : Zs K mg h) : ∀ c bs, mst.lookup c = some bs → ExF (tab cn K) mg c bs := by
  intro c bs hl
  have hm := mem_lk hl
  revert hm
  unfold mst
  simp only [List.mem_cons, List.not_mem_nil, or_false, Prod.mk.injEq]
  rintro (⟨rfl, rfl⟩ | ⟨rfl, rfl⟩)
  · exact exf_of (cn := cn) (c := 3) (x := "BadFrame") rfl (Z.c.x (x := .exc "BadFrame" [true, false, false, false, false, false, false, false, false, false]) (List.mem_of_getElem? (i := 0) rfl)) (fun y hy => glo_all Z (by
      unfold markNames at hy
      simp only [List.mem_cons, List.not_mem_nil, or_false] at hy
      rcases hy with rfl | rfl | rfl | rfl | rfl | rfl | rfl | rfl | rfl | rfl
      · exact List.mem_of_getElem? (i := 35) rfl
      · exact List.mem_of_getElem? (i := 36) rfl
      · exact List.mem_of_getElem? (i := 37) rfl
      · exact List.mem_of_getElem? (i := 38) rfl
      · exact List.mem_of_getElem? (i := 39) rfl
      · exact List.mem_of_getElem? (i := 40) rfl
      · exact List.mem_of_getElem? (i := 41) rfl
      · exact List.mem_of_getElem? (i := 42) rfl
      · exact List.mem_of_getElem? (i := 43) rfl
      · exact List.mem_of_getElem? (i := 44) rfl)) (glo_all Z (List.mem_of_getElem? (i := 45) rfl)) (free_all Z _ (by decide))
  · exact exf_of (cn := cn) (c := 4) (x := "NoKind") rfl (Z.c.x (x := .exc "NoKind" [false, false, false, false, true, false, false, false, false, false]) (List.mem_of_getElem? (i := 1) rfl)) (fun y hy => glo_all Z (by
      unfold markNames at hy
      simp only [List.mem_cons, List.not_mem_nil, or_false] at hy
      rcases hy with rfl | rfl | rfl | rfl | rfl | rfl | rfl | rfl | rfl | rfl
      · exact List.mem_of_getElem? (i := 35) rfl
      · exact List.mem_of_getElem? (i := 36) rfl
      · exact List.mem_of_getElem? (i := 37) rfl
      · exact List.mem_of_getElem? (i := 38) rfl
      · exact List.mem_of_getElem? (i := 39) rfl
      · exact List.mem_of_getElem? (i := 40) rfl
      · exact List.mem_of_getElem? (i := 41) rfl
      · exact List.mem_of_getElem? (i := 42) rfl
      · exact List.mem_of_getElem? (i := 43) rfl
      · exact List.mem_of_getElem? (i := 44) rfl)) (glo_all Z (List.mem_of_getElem? (i := 45) rfl)) (free_all Z _ (by decide))
theorem supT_NoKind : SupT st_xNoKind [("kind", "kind")] where
  body := ⟨[("kind", "kind", _, _, _, _)], _, _, _, _, _, _, _, _, by decide +kernel, rfl, rfl⟩
  ar := ⟨_, rfl, rfl⟩
  bind := fun _ _ _ _ _ _ _ _ _ _ _ us hl => match us, hl with | [_, _], _ => rfl
  sc := ⟨rfl, rfl, rfl, by decide +kernel, by decide +kernel, by decide +kernel, by decide +kernel⟩
  db := by decide +kernel
  nd := by decide +kernel
  nn := by decide +kernel
  len := ⟨by decide, by decide⟩
theorem ras_NoKind (Z : Zs K mg h) (k : Nat) (N : List Str) : RaS (Gm P w K mg base (k + 1) N) "NoKind" 4 [("kind", "kind")] :=
  ⟨⟨_, sup_of (prog := P) (x := "NoKind") (q := "NoKind.__init__") (st := st_xNoKind) Z.c (by unfold ef; simp) (Z.c.x (x := .sup "NoKind" [("kind", "kind")] PySem.Challenge.pw_siftshares_k01_lots_of_kinds.main.file) (List.mem_of_getElem? (i := 2) rfl)) supT_NoKind (free_all Z _ (by decide)) (by rw [beq_self_eq_true]) (by kernel_rfl)⟩, rfl, glo_all Z (List.mem_of_getElem? (i := 39) rfl), ⟨_, rfl⟩⟩
theorem shape_marks : MarksShape (defBody st_law_marks) := ⟨_, _, _, _, _, _, _, _, _, _, _, _, _, _, _, _, _, _, _, _, _, _, _, _, _, _, _, _, _, _, _, _, _, _, _, _, _, _, _, _, _, _, _, _, _, _, _, _, _, _, _, _, rfl⟩
theorem shape_one : OneShape (oneScope st_law_one) (defBody st_law_one) := ⟨_, _, _, _, _, _, _, _, _, _, _, _, _, _, _, _, _, _, _, _, _, _, _, _, _, _, _, _, _, rfl⟩
theorem fe_marks (Z : Zs K mg h) : FnE P w K mg base 1 (He.fAd K ("_law_marks", none)) (spMarks (tab cn K) (fun c => mst.lookup c)) := by
  obtain ⟨fd, F⟩ := fun_of Z.c (at_ := ("_law_marks", none)) (n := "_law_marks") (q := "_law_marks") (st := st_law_marks) (by unfold fn; simp) (He.keep_ok (Z.c.f (f := .keep "_law_marks") (List.mem_of_getElem? (i := 59) rfl)))
  exact ex_marks (T := tab cn K) F ⟨rfl, rfl, rfl, by decide +kernel, rfl, by decide +kernel, by decide +kernel⟩ (F.binds fun _ _ _ _ _ _ us hl => match us, hl with | [_], _ => rfl) shape_marks (by decide +kernel) (free_all Z _ (by decide)) (exf_all Z)
theorem fe_one (Z : Zs K mg h) : FnE P w K mg base 2 (He.fAd K ("_law_one", none)) (spOne (tab cn K) (fun c => mst.lookup c)) := by
  obtain ⟨fd, F⟩ := fun_of Z.c (at_ := ("_law_one", none)) (n := "_law_one") (q := "_law_one") (st := st_law_one) (by unfold fn; simp) (He.keep_ok (Z.c.f (f := .keep "_law_one") (List.mem_of_getElem? (i := 60) rfl)))
  exact ex_one (T := tab cn K) F ⟨rfl, rfl, rfl, by decide +kernel, rfl, by decide +kernel, by decide +kernel⟩ (F.binds fun _ _ _ _ _ _ us hl => match us, hl with | [_, _], _ => rfl) (fe_marks Z) (glo_all Z (List.mem_of_getElem? (i := 33) rfl)) (He.keep_ok (Z.c.f (f := .keep "_law_marks") (List.mem_of_getElem? (i := 59) rfl))) shape_one (by decide +kernel) (free_all Z _ (by decide)) (free_all Z _ (by decide)) (exf_all Z)
theorem shape_int : IntShape (defBody st_law_is_int) := ⟨_, _, _, _, _, _, _, _, _, _, _, rfl⟩
theorem fe_int (Z : Zs K mg h) : FnE P w K mg base 1 (He.fAd K ("_law_is_int", none)) (spInt (tab cn K)) := by
  obtain ⟨fd, F⟩ := fun_of Z.c (at_ := ("_law_is_int", none)) (n := "_law_is_int") (q := "_law_is_int") (st := st_law_is_int) (by unfold fn; simp) (He.keep_ok (Z.c.f (f := .keep "_law_is_int") (List.mem_of_getElem? (i := 54) rfl)))
  obtain ⟨c1, u1, h1⟩ := isi_all (w := w) (base := base) Z (k := 0) (N := []) ("int", .int, []) (by unfold isiT; simp)
  obtain ⟨c2, u2, h2⟩ := isi_all (w := w) (base := base) Z (k := 0) (N := []) ("bool", .bool, []) (by unfold isiT; simp)
  exact ex_int (Γ := Gm P w K mg base 0 []) F ⟨rfl, rfl, rfl, by decide +kernel, rfl, by decide +kernel, by decide +kernel⟩ (F.binds fun _ _ _ _ _ _ us hl => match us, hl with | [_], _ => rfl) shape_int (by decide +kernel) (free_all Z _ (by decide)) h1 h2 0
theorem try_all (Z : Zs K mg h) (k : Nat) (hk : 2 ≤ k) (N : List Str) : TryF (Gm P w K mg base k N) mst xclT :=
  ⟨⟨_, FnE.mono (fe_one Z) hk, glo_all Z (List.mem_of_getElem? (i := 34) rfl), He.keep_ok (Z.c.f (f := .keep "_law_one") (List.mem_of_getElem? (i := 60) rfl))⟩, ⟨_, glo_all Z (List.mem_of_getElem? (i := 45) rfl), fun c bs hl => by
    have hm := mem_lk hl
    revert hm
    unfold mst
    simp only [List.mem_cons, List.not_mem_nil, or_false, Prod.mk.injEq]
    rintro (⟨rfl, rfl⟩ | ⟨rfl, rfl⟩)
    · exact exm_of (Z.c.x (x := .exc "BadFrame" [true, false, false, false, false, false, false, false, false, false]) (List.mem_of_getElem? (i := 0) rfl))
    · exact exm_of (Z.c.x (x := .exc "NoKind" [false, false, false, false, true, false, false, false, false, false]) (List.mem_of_getElem? (i := 1) rfl))
    ⟩, fun c fl hl => by
    have hm := mem_lk hl
    revert hm
    unfold xclT
    simp only [List.mem_cons, List.not_mem_nil, or_false, Prod.mk.injEq, false_implies]
    rintro (⟨rfl, rfl⟩)
    · exact ⟨xfc_of (Z.c.x (x := .exc "NoKind" [false, false, false, false, true, false, false, false, false, false]) (List.mem_of_getElem? (i := 1) rfl)), rfl, by decide, supno_of (Z.c.x (x := .sup "NoKind" [("kind", "kind")] PySem.Challenge.pw_siftshares_k01_lots_of_kinds.main.file) (List.mem_of_getElem? (i := 2) rfl))⟩
    , fun _ => ⟨_, FnE.mono (fe_int Z) (Nat.le_trans (Nat.le_of_ble_eq_true rfl) hk), glo_all Z (List.mem_of_getElem? (i := 26) rfl), He.keep_ok (Z.c.f (f := .keep "_law_is_int") (List.mem_of_getElem? (i := 54) rfl))⟩⟩
theorem bd_Lot_d_iter {f : Addr} {fd : FuncData} (F : Fun K "__iter__" "Lot.__iter__" st_Lot_d_iter f fd) : Binds K fd ["self"] [] := F.binds fun _ _ _ _ _ _ us hl => match us, hl with | [_], _ => rfl
theorem it_Lot_d_iter (Z : Zs K mg h) (k : Nat) (hk : 1 ≤ k) (N : List Str) : IterF (Gm P w K mg base k N) 1 1 := by
  have hm := He.meth_ok (Z.c.f (f := .meth "Lot" "__iter__") (List.mem_of_getElem? (i := 75) rfl))
  obtain ⟨fd, F⟩ := fun_of Z.c (at_ := ("Lot", some "__iter__")) (n := "__iter__") (q := "Lot.__iter__") (st := st_Lot_d_iter) (by unfold fn; simp) hm.kp
  obtain ⟨_, c1, c2, _, c3⟩ := cls_all Z 1 _ rfl
  exact ⟨_, IterR.mono (j := 1) (iter_ok (Γ := Gm P w K mg base 0 []) (g := "inside") F ⟨rfl, rfl, rfl, by decide +kernel, rfl, by decide +kernel, by decide +kernel⟩ (bd_Lot_d_iter F) rfl (by decide +kernel) (free_all Z _ (by decide)) (by decide +kernel) c1 (c3 _ (by decide)) rfl c2) hk, hm.at_, hm.fn⟩
theorem ax_law_start (Z : Zs K mg h) : Ax (Gm P w K mg base 0 N_law_start) sg_law_start A_law_start :=
  ax_of rfl .nil .nil .nil (free_all Z) (fun _ z => by cases z) (cls_all Z) (isi_all Z) .nil .nil (fun _ z => by cases z) (fun _ z => by cases z) .nil .nil (fun ne => absurd rfl ne) .nil (fun _ z => by cases z) (fun _ z => by cases z) (fun _ z => by cases z)
theorem fr_law_start (Z : Zs K mg h) : FR (Gm P w K mg base 1 []) (He.fAd K ("_law_start", none)) (spR (tab cn K) F_law_start) := by
  obtain ⟨fd, F⟩ := fun_of Z.c (at_ := ("_law_start", none)) (n := "_law_start") (q := "_law_start") (st := st_law_start) (by unfold fn; simp) (He.keep_ok (Z.c.f (f := .keep "_law_start") (List.mem_of_getElem? (i := 46) rfl)))
  exact fn_look (Γ := Gm P w K mg base 0 N_law_start) (ax_law_start Z) F sc_law_start (bd_law_start F) look_law_start
theorem ax_law_draw (Z : Zs K mg h) : Ax (Gm P w K mg base 0 N_law_draw) sg_law_draw A_law_draw :=
  ax_of rfl .nil .nil .nil (free_all Z) (fun _ z => by cases z) (cls_all Z) (isi_all Z) .nil .nil (fun _ z => by cases z) (fun _ z => by cases z) .nil .nil (fun ne => absurd rfl ne) .nil (fun _ z => by cases z) (fun _ z => by cases z) (fun _ z => by cases z)
theorem fr_law_draw (Z : Zs K mg h) : FR (Gm P w K mg base 1 []) (He.fAd K ("_law_draw", none)) (spR (tab cn K) F_law_draw) := by
  obtain ⟨fd, F⟩ := fun_of Z.c (at_ := ("_law_draw", none)) (n := "_law_draw") (q := "_law_draw") (st := st_law_draw) (by unfold fn; simp) (He.keep_ok (Z.c.f (f := .keep "_law_draw") (List.mem_of_getElem? (i := 47) rfl)))
  exact fn_look (Γ := Gm P w K mg base 0 N_law_draw) (ax_law_draw Z) F sc_law_draw (bd_law_draw F) look_law_draw
theorem ax_law_name (Z : Zs K mg h) : Ax (Gm P w K mg base 1 N_law_name) sg_law_name A_law_name :=
  ax_of rfl (.cons ⟨_, FR.mono (j := 1) (fr_law_draw Z) (Nat.le_of_ble_eq_true rfl), glo_all Z (List.mem_of_getElem? (i := 19) rfl), He.keep_ok (Z.c.f (f := .keep "_law_draw") (List.mem_of_getElem? (i := 47) rfl))⟩ .nil) .nil .nil (free_all Z) (fun _ z => by cases z) (cls_all Z) (isi_all Z) .nil .nil (fun _ z => by cases z) (fun _ z => by cases z) .nil .nil (fun ne => absurd rfl ne) .nil (fun _ z => by cases z) (fun _ z => by cases z) (fun _ z => by cases z)
theorem fr_law_name (Z : Zs K mg h) : FR (Gm P w K mg base 2 []) (He.fAd K ("_law_name", none)) (spR (tab cn K) F_law_name) := by
  obtain ⟨fd, F⟩ := fun_of Z.c (at_ := ("_law_name", none)) (n := "_law_name") (q := "_law_name") (st := st_law_name) (by unfold fn; simp) (He.keep_ok (Z.c.f (f := .keep "_law_name") (List.mem_of_getElem? (i := 48) rfl)))
  exact fn_look (Γ := Gm P w K mg base 1 N_law_name) (ax_law_name Z) F sc_law_name (bd_law_name F) look_law_name
theorem ax_law_columns (Z : Zs K mg h) : Ax (Gm P w K mg base 2 N_law_columns) sg_law_columns A_law_columns :=
  ax_of rfl (.cons ⟨_, FR.mono (j := 1) (fr_law_draw Z) (Nat.le_of_ble_eq_true rfl), glo_all Z (List.mem_of_getElem? (i := 19) rfl), He.keep_ok (Z.c.f (f := .keep "_law_draw") (List.mem_of_getElem? (i := 47) rfl))⟩ (.cons ⟨_, FR.mono (j := 2) (fr_law_name Z) (Nat.le_of_ble_eq_true rfl), glo_all Z (List.mem_of_getElem? (i := 20) rfl), He.keep_ok (Z.c.f (f := .keep "_law_name") (List.mem_of_getElem? (i := 48) rfl))⟩ .nil)) .nil .nil (free_all Z) (fun _ z => by cases z) (cls_all Z) (isi_all Z) .nil .nil (fun _ z => by cases z) (fun _ z => by cases z) .nil .nil (fun ne => absurd rfl ne) .nil (fun _ z => by cases z) (fun _ z => by cases z) (fun _ z => by cases z)
theorem fr_law_columns (Z : Zs K mg h) : FR (Gm P w K mg base 3 []) (He.fAd K ("_law_columns", none)) (spR (tab cn K) F_law_columns) := by
  obtain ⟨fd, F⟩ := fun_of Z.c (at_ := ("_law_columns", none)) (n := "_law_columns") (q := "_law_columns") (st := st_law_columns) (by unfold fn; simp) (He.keep_ok (Z.c.f (f := .keep "_law_columns") (List.mem_of_getElem? (i := 49) rfl)))
  exact fn_look (Γ := Gm P w K mg base 2 N_law_columns) (ax_law_columns Z) F sc_law_columns (bd_law_columns F) look_law_columns
theorem ax_law_cells (Z : Zs K mg h) : Ax (Gm P w K mg base 0 N_law_cells) sg_law_cells A_law_cells :=
  ax_of rfl .nil .nil .nil (free_all Z) (fun _ z => by cases z) (cls_all Z) (isi_all Z) .nil .nil (fun _ z => by cases z) (fun _ z => by cases z) .nil .nil (fun ne => absurd rfl ne) .nil (fun _ z => by cases z) (fun _ z => by cases z) (fun _ z => by cases z)
theorem fr_law_cells (Z : Zs K mg h) : FR (Gm P w K mg base 1 []) (He.fAd K ("_law_cells", none)) (spR (tab cn K) F_law_cells) := by
  obtain ⟨fd, F⟩ := fun_of Z.c (at_ := ("_law_cells", none)) (n := "_law_cells") (q := "_law_cells") (st := st_law_cells) (by unfold fn; simp) (He.keep_ok (Z.c.f (f := .keep "_law_cells") (List.mem_of_getElem? (i := 50) rfl)))
  exact fn_look (Γ := Gm P w K mg base 0 N_law_cells) (ax_law_cells Z) F sc_law_cells (bd_law_cells F) look_law_cells
theorem ax_is_name (Z : Zs K mg h) : Ax (Gm P w K mg base 0 N_is_name) sg_is_name A_is_name :=
  ax_of rfl .nil .nil .nil (free_all Z) (fun _ z => by cases z) (cls_all Z) (isi_all Z) .nil .nil (fun _ z => by cases z) (fun _ z => by cases z) .nil .nil (fun ne => absurd rfl ne) .nil (fun _ z => by cases z) (fun _ z => by cases z) (fun _ z => by cases z)
theorem fr_is_name (Z : Zs K mg h) : FR (Gm P w K mg base 1 []) (He.fAd K ("is_name", none)) (spR (tab cn K) F_is_name) := by
  obtain ⟨fd, F⟩ := fun_of Z.c (at_ := ("is_name", none)) (n := "is_name") (q := "is_name") (st := st_is_name) (by unfold fn; simp) (He.keep_ok (Z.c.f (f := .keep "is_name") (List.mem_of_getElem? (i := 51) rfl)))
  exact fn_look (Γ := Gm P w K mg base 0 N_is_name) (ax_is_name Z) F sc_is_name (bd_is_name F) look_is_name
theorem ax_kinds_of (Z : Zs K mg h) : Ax (Gm P w K mg base 0 N_kinds_of) sg_kinds_of A_kinds_of :=
  ax_of rfl .nil .nil .nil (free_all Z) (fun _ z => by cases z) (cls_all Z) (isi_all Z) .nil .nil (fun _ z => by cases z) (fun _ z => by cases z) .nil .nil (fun ne => absurd rfl ne) .nil (fun _ z => by cases z) (fun _ z => by cases z) (fun _ z => by cases z)
theorem fr_kinds_of (Z : Zs K mg h) : FR (Gm P w K mg base 1 []) (He.fAd K ("kinds_of", none)) (spR (tab cn K) F_kinds_of) := by
  obtain ⟨fd, F⟩ := fun_of Z.c (at_ := ("kinds_of", none)) (n := "kinds_of") (q := "kinds_of") (st := st_kinds_of) (by unfold fn; simp) (He.keep_ok (Z.c.f (f := .keep "kinds_of") (List.mem_of_getElem? (i := 52) rfl)))
  exact fn_look (Γ := Gm P w K mg base 0 N_kinds_of) (ax_kinds_of Z) F sc_kinds_of (bd_kinds_of F) look_kinds_of
theorem len_Frame_d_init : ∀ ds S l S', I_Frame_d_init ds S = .ok l S' → l.length = ((tab cn K).cfl 2).length := fun _ _ _ _ h => runInitStar_len h
theorem ax_Frame_d_init (Z : Zs K mg h) : Ax (Gm P w K mg base 1 N_Frame_d_init) sg_Frame_d_init A_Frame_d_init :=
  ax_of rfl (.cons ⟨_, FR.mono (j := 1) (fr_is_name Z) (Nat.le_of_ble_eq_true rfl), glo_all Z (List.mem_of_getElem? (i := 23) rfl), He.keep_ok (Z.c.f (f := .keep "is_name") (List.mem_of_getElem? (i := 51) rfl))⟩ (.cons ⟨_, FR.mono (j := 1) (fr_kinds_of Z) (Nat.le_of_ble_eq_true rfl), glo_all Z (List.mem_of_getElem? (i := 24) rfl), He.keep_ok (Z.c.f (f := .keep "kinds_of") (List.mem_of_getElem? (i := 52) rfl))⟩ .nil)) .nil .nil (free_all Z) (fun _ z => by cases z) (cls_all Z) (isi_all Z) .nil .nil (fun q hq => by simp only [A_Frame_d_init, List.mem_cons, List.not_mem_nil, or_false] at hq; rcases hq with rfl | rfl <;> first | exact con_f (glo_all Z (List.mem_of_getElem? (i := 32) rfl)) (Z.c.x (x := .con "Frame" "MOST_COLUMNS" 3) (List.mem_of_getElem? (i := 4) rfl)) | exact con_f (glo_all Z (List.mem_of_getElem? (i := 32) rfl)) (Z.c.x (x := .con "Frame" "MOST_KINDS" 6) (List.mem_of_getElem? (i := 5) rfl))) (fun _ z => by cases z) .nil .nil (fun ne => absurd rfl ne) .nil (fun q hq => by
    simp only [A_Frame_d_init, List.mem_cons, List.not_mem_nil, or_false] at hq
    subst hq
    · exact raf_of rfl (Z.c.f (f := .exc "BadFrame") (List.mem_of_getElem? (i := 61) rfl)) (glo_all Z (List.mem_of_getElem? (i := 35) rfl))) (fun _ z => by cases z) (fun _ z => by cases z)
theorem fr_Frame_d_init (Z : Zs K mg h) : FR (Gm P w K mg base 2 []) (He.fAd K ("Frame", some "__init__")) (spInit (tab cn K) 2 I_Frame_d_init) := by
  obtain ⟨fd, F⟩ := fun_of Z.c (at_ := ("Frame", some "__init__")) (n := "__init__") (q := "Frame.__init__") (st := st_Frame_d_init) (by unfold fn; simp) ((He.meth_ok (Z.c.f (f := .meth "Frame" "__init__") (List.mem_of_getElem? (i := 70) rfl))).kp)
  exact initStar_look (Γ := Gm P w K mg base 1 N_Frame_d_init) (c := 2) (p0 := "self") (ps := []) (ax_Frame_d_init Z) F sc_Frame_d_init (bd_Frame_d_init F) look_Frame_d_init
theorem ax_law_frame (Z : Zs K mg h) : Ax (Gm P w K mg base 3 N_law_frame) sg_law_frame A_law_frame :=
  ax_of rfl .nil .nil (.cons ⟨I_Frame_d_init, rfl, 2, rfl, ⟨_, FR.mono (j := 2) (fr_Frame_d_init Z) (Nat.le_of_ble_eq_true rfl), glo_all Z (List.mem_of_getElem? (i := 32) rfl), He.mkr_ok (Z.c.f (f := .mkr "Frame") (List.mem_of_getElem? (i := 67) rfl)), len_Frame_d_init⟩⟩ .nil) (free_all Z) (fun _ z => by cases z) (cls_all Z) (isi_all Z) .nil .nil (fun _ z => by cases z) (fun _ z => by cases z) .nil .nil (fun ne => absurd rfl ne) .nil (fun _ z => by cases z) (fun _ z => by cases z) (fun _ z => by cases z)
theorem fr_law_frame (Z : Zs K mg h) : FR (Gm P w K mg base 4 []) (He.fAd K ("_law_frame", none)) (spR (tab cn K) F_law_frame) := by
  obtain ⟨fd, F⟩ := fun_of Z.c (at_ := ("_law_frame", none)) (n := "_law_frame") (q := "_law_frame") (st := st_law_frame) (by unfold fn; simp) (He.keep_ok (Z.c.f (f := .keep "_law_frame") (List.mem_of_getElem? (i := 53) rfl)))
  exact fn_look (Γ := Gm P w K mg base 3 N_law_frame) (ax_law_frame Z) F sc_law_frame (bd_law_frame F) look_law_frame
theorem ax_law_is_int (Z : Zs K mg h) : Ax (Gm P w K mg base 0 N_law_is_int) sg_law_is_int A_law_is_int :=
  ax_of rfl .nil .nil .nil (free_all Z) (fun _ z => by cases z) (cls_all Z) (isi_all Z) .nil .nil (fun _ z => by cases z) (fun _ z => by cases z) .nil .nil (fun ne => absurd rfl ne) .nil (fun _ z => by cases z) (fun _ z => by cases z) (fun _ z => by cases z)
theorem fr_law_is_int (Z : Zs K mg h) : FR (Gm P w K mg base 1 []) (He.fAd K ("_law_is_int", none)) (spR (tab cn K) F_law_is_int) := by
  obtain ⟨fd, F⟩ := fun_of Z.c (at_ := ("_law_is_int", none)) (n := "_law_is_int") (q := "_law_is_int") (st := st_law_is_int) (by unfold fn; simp) (He.keep_ok (Z.c.f (f := .keep "_law_is_int") (List.mem_of_getElem? (i := 54) rfl)))
  exact fn_look (Γ := Gm P w K mg base 0 N_law_is_int) (ax_law_is_int Z) F sc_law_is_int (bd_law_is_int F) look_law_is_int
theorem len_Lot_d_init : ∀ ds S l S', I_Lot_d_init ds S = .ok l S' → l.length = ((tab cn K).cfl 1).length := fun _ _ _ _ h => runInit_len h
theorem ax_Lot_d_init (Z : Zs K mg h) : Ax (Gm P w K mg base 0 N_Lot_d_init) sg_Lot_d_init A_Lot_d_init :=
  ax_of rfl .nil .nil .nil (free_all Z) (fun _ z => by cases z) (cls_all Z) (isi_all Z) .nil .nil (fun _ z => by cases z) (fun _ z => by cases z) .nil .nil (fun ne => absurd rfl ne) .nil (fun _ z => by cases z) (fun _ z => by cases z) (fun _ z => by cases z)
theorem fr_Lot_d_init (Z : Zs K mg h) : FR (Gm P w K mg base 1 []) (He.fAd K ("Lot", some "__init__")) (spInit (tab cn K) 1 I_Lot_d_init) := by
  obtain ⟨fd, F⟩ := fun_of Z.c (at_ := ("Lot", some "__init__")) (n := "__init__") (q := "Lot.__init__") (st := st_Lot_d_init) (by unfold fn; simp) ((He.meth_ok (Z.c.f (f := .meth "Lot" "__init__") (List.mem_of_getElem? (i := 71) rfl))).kp)
  exact init_look (Γ := Gm P w K mg base 0 N_Lot_d_init) (c := 1) (p0 := "self") (ps := ["columns", "inside"]) (ax_Lot_d_init Z) F sc_Lot_d_init (bd_Lot_d_init F) look_Lot_d_init
theorem ax_Frame_lot (Z : Zs K mg h) : Ax (Gm P w K mg base 2 N_Frame_lot) sg_Frame_lot A_Frame_lot :=
  ax_of rfl .nil .nil (.cons ⟨I_Lot_d_init, rfl, 1, rfl, ⟨_, FR.mono (j := 1) (fr_Lot_d_init Z) (Nat.le_of_ble_eq_true rfl), glo_all Z (List.mem_of_getElem? (i := 31) rfl), He.mkr_ok (Z.c.f (f := .mkr "Lot") (List.mem_of_getElem? (i := 63) rfl)), len_Lot_d_init⟩⟩ .nil) (free_all Z) (fun _ z => by cases z) (cls_all Z) (isi_all Z) .nil .nil (fun _ z => by cases z) (fun _ z => by cases z) .nil .nil (fun ne => absurd rfl ne) .nil (fun _ z => by cases z) (fun _ z => by cases z) (fun q hq => by
    simp only [A_Frame_lot, List.mem_cons, List.not_mem_nil, or_false] at hq
    subst hq
    · exact ras_NoKind Z 1 _)
theorem fr_Frame_lot (Z : Zs K mg h) : FR (Gm P w K mg base 3 []) (He.fAd K ("Frame", some "lot")) (spR (tab cn K) F_Frame_lot) := by
  obtain ⟨fd, F⟩ := fun_of Z.c (at_ := ("Frame", some "lot")) (n := "lot") (q := "Frame.lot") (st := st_Frame_lot) (by unfold fn; simp) ((He.meth_ok (Z.c.f (f := .meth "Frame" "lot") (List.mem_of_getElem? (i := 72) rfl))).kp)
  exact star_look (Γ := Gm P w K mg base 2 N_Frame_lot) (ps := ["self"]) (ax_Frame_lot Z) F sc_Frame_lot (bd_Frame_lot F) look_Frame_lot
theorem ax_law_call (Z : Zs K mg h) : Ax (Gm P w K mg base 3 N_law_call) sg_law_call A_law_call :=
  ax_of rfl .nil (.cons (.cons ⟨_, ⟨FR.mono (j := 3) (fr_Frame_lot Z) (Nat.le_of_ble_eq_true rfl), He.cls_ok (Z.c.f (f := .cls "Frame") (List.mem_of_getElem? (i := 66) rfl)), He.meth_ok (Z.c.f (f := .meth "Frame" "lot") (List.mem_of_getElem? (i := 72) rfl)), (show ("lot" : Str) ∉ (["columns", "kinds"] : List Str) from by decide)⟩⟩ .nil) .nil) .nil (free_all Z) (fun _ z => by cases z) (cls_all Z) (isi_all Z) .nil .nil (fun _ z => by cases z) (fun _ z => by cases z) .nil .nil (fun ne => absurd rfl ne) .nil (fun _ z => by cases z) (fun _ z => by cases z) (fun _ z => by cases z)
theorem fr_law_call (Z : Zs K mg h) : FR (Gm P w K mg base 4 []) (He.fAd K ("_law_call", none)) (spR (tab cn K) F_law_call) := by
  obtain ⟨fd, F⟩ := fun_of Z.c (at_ := ("_law_call", none)) (n := "_law_call") (q := "_law_call") (st := st_law_call) (by unfold fn; simp) (He.keep_ok (Z.c.f (f := .keep "_law_call") (List.mem_of_getElem? (i := 55) rfl)))
  exact fn_look (Γ := Gm P w K mg base 3 N_law_call) (ax_law_call Z) F sc_law_call (bd_law_call F) look_law_call
theorem ax_Lot_d_len (Z : Zs K mg h) : Ax (Gm P w K mg base 0 N_Lot_d_len) sg_Lot_d_len A_Lot_d_len :=
  ax_of rfl .nil .nil .nil (free_all Z) (fun _ z => by cases z) (cls_all Z) (isi_all Z) .nil .nil (fun _ z => by cases z) (fun _ z => by cases z) .nil .nil (fun ne => absurd rfl ne) .nil (fun _ z => by cases z) (fun _ z => by cases z) (fun _ z => by cases z)
theorem fr_Lot_d_len (Z : Zs K mg h) : FR (Gm P w K mg base 1 []) (He.fAd K ("Lot", some "__len__")) (spR (tab cn K) F_Lot_d_len) := by
  obtain ⟨fd, F⟩ := fun_of Z.c (at_ := ("Lot", some "__len__")) (n := "__len__") (q := "Lot.__len__") (st := st_Lot_d_len) (by unfold fn; simp) ((He.meth_ok (Z.c.f (f := .meth "Lot" "__len__") (List.mem_of_getElem? (i := 73) rfl))).kp)
  exact fn_look (Γ := Gm P w K mg base 0 N_Lot_d_len) (ax_Lot_d_len Z) F sc_Lot_d_len (bd_Lot_d_len F) look_Lot_d_len
theorem ax_Lot_d_contains (Z : Zs K mg h) : Ax (Gm P w K mg base 0 N_Lot_d_contains) sg_Lot_d_contains A_Lot_d_contains :=
  ax_of rfl .nil .nil .nil (free_all Z) (fun _ z => by cases z) (cls_all Z) (isi_all Z) .nil .nil (fun _ z => by cases z) (fun _ z => by cases z) .nil .nil (fun ne => absurd rfl ne) .nil (fun _ z => by cases z) (fun _ z => by cases z) (fun _ z => by cases z)
theorem fr_Lot_d_contains (Z : Zs K mg h) : FR (Gm P w K mg base 1 []) (He.fAd K ("Lot", some "__contains__")) (spR (tab cn K) F_Lot_d_contains) := by
  obtain ⟨fd, F⟩ := fun_of Z.c (at_ := ("Lot", some "__contains__")) (n := "__contains__") (q := "Lot.__contains__") (st := st_Lot_d_contains) (by unfold fn; simp) ((He.meth_ok (Z.c.f (f := .meth "Lot" "__contains__") (List.mem_of_getElem? (i := 74) rfl))).kp)
  exact fn_look (Γ := Gm P w K mg base 0 N_Lot_d_contains) (ax_Lot_d_contains Z) F sc_Lot_d_contains (bd_Lot_d_contains F) look_Lot_d_contains
theorem ax_law_is_lot (Z : Zs K mg h) : Ax (Gm P w K mg base 2 N_law_is_lot) sg_law_is_lot A_law_is_lot :=
  ax_of rfl (.cons ⟨_, FR.mono (j := 1) (fr_law_is_int Z) (Nat.le_of_ble_eq_true rfl), glo_all Z (List.mem_of_getElem? (i := 26) rfl), He.keep_ok (Z.c.f (f := .keep "_law_is_int") (List.mem_of_getElem? (i := 54) rfl))⟩ .nil) (.cons (.cons ⟨_, ⟨FR.mono (j := 1) (fr_Lot_d_len Z) (Nat.le_of_ble_eq_true rfl), He.cls_ok (Z.c.f (f := .cls "Lot") (List.mem_of_getElem? (i := 62) rfl)), He.meth_ok (Z.c.f (f := .meth "Lot" "__len__") (List.mem_of_getElem? (i := 73) rfl)), (show ("__len__" : Str) ∉ (["columns", "inside"] : List Str) from by decide)⟩⟩ .nil) (.cons (.cons ⟨_, ⟨FR.mono (j := 1) (fr_Lot_d_contains Z) (Nat.le_of_ble_eq_true rfl), He.cls_ok (Z.c.f (f := .cls "Lot") (List.mem_of_getElem? (i := 62) rfl)), He.meth_ok (Z.c.f (f := .meth "Lot" "__contains__") (List.mem_of_getElem? (i := 74) rfl)), (show ("__contains__" : Str) ∉ (["columns", "inside"] : List Str) from by decide)⟩⟩ .nil) .nil)) .nil (free_all Z) (fun _ z => by cases z) (cls_all Z) (isi_all Z) .nil (.cons ⟨1, _, rfl, rfl, (.cons ⟨_, ⟨FR.mono (j := 1) (fr_Lot_d_len Z) (Nat.le_of_ble_eq_true rfl), He.cls_ok (Z.c.f (f := .cls "Lot") (List.mem_of_getElem? (i := 62) rfl)), He.meth_ok (Z.c.f (f := .meth "Lot" "__len__") (List.mem_of_getElem? (i := 73) rfl)), (show ("__len__" : Str) ∉ (["columns", "inside"] : List Str) from by decide)⟩⟩ .nil)⟩ .nil) (fun _ z => by cases z) (fun q hq => by simp only [A_law_is_lot, List.mem_cons, List.not_mem_nil, or_false] at hq; subst hq; exact it_Lot_d_iter Z 2 (Nat.le_of_ble_eq_true rfl) _) .nil .nil (fun ne => absurd rfl ne) .nil (fun _ z => by cases z) (fun _ z => by cases z) (fun _ z => by cases z)
theorem fr_law_is_lot (Z : Zs K mg h) : FR (Gm P w K mg base 3 []) (He.fAd K ("_law_is_lot", none)) (spR (tab cn K) F_law_is_lot) := by
  obtain ⟨fd, F⟩ := fun_of Z.c (at_ := ("_law_is_lot", none)) (n := "_law_is_lot") (q := "_law_is_lot") (st := st_law_is_lot) (by unfold fn; simp) (He.keep_ok (Z.c.f (f := .keep "_law_is_lot") (List.mem_of_getElem? (i := 56) rfl)))
  exact fn_look (Γ := Gm P w K mg base 2 N_law_is_lot) (ax_law_is_lot Z) F sc_law_is_lot (bd_law_is_lot F) look_law_is_lot
theorem ax_law_holds (Z : Zs K mg h) : Ax (Gm P w K mg base 4 N_law_holds) sg_law_holds A_law_holds :=
  ax_of rfl (.cons ⟨_, FR.mono (j := 4) (fr_law_call Z) (Nat.le_of_ble_eq_true rfl), glo_all Z (List.mem_of_getElem? (i := 27) rfl), He.keep_ok (Z.c.f (f := .keep "_law_call") (List.mem_of_getElem? (i := 55) rfl))⟩ (.cons ⟨_, FR.mono (j := 3) (fr_law_is_lot Z) (Nat.le_of_ble_eq_true rfl), glo_all Z (List.mem_of_getElem? (i := 28) rfl), He.keep_ok (Z.c.f (f := .keep "_law_is_lot") (List.mem_of_getElem? (i := 56) rfl))⟩ .nil)) .nil .nil (free_all Z) (fun _ z => by cases z) (cls_all Z) (isi_all Z) .nil .nil (fun _ z => by cases z) (fun _ z => by cases z) .nil .nil (fun ne => absurd rfl ne) .nil (fun _ z => by cases z) (fun q hq => by
    simp only [A_law_holds, List.mem_cons, List.not_mem_nil, or_false] at hq
    subst hq
    exact try_all Z 4 (Nat.le_of_ble_eq_true rfl) _) (fun _ z => by cases z)
theorem fr_law_holds (Z : Zs K mg h) : FR (Gm P w K mg base 5 []) (He.fAd K ("_law_holds", none)) (spR (tab cn K) F_law_holds) := by
  obtain ⟨fd, F⟩ := fun_of Z.c (at_ := ("_law_holds", none)) (n := "_law_holds") (q := "_law_holds") (st := st_law_holds) (by unfold fn; simp) (He.keep_ok (Z.c.f (f := .keep "_law_holds") (List.mem_of_getElem? (i := 57) rfl)))
  exact fn_look (Γ := Gm P w K mg base 4 N_law_holds) (ax_law_holds Z) F sc_law_holds (bd_law_holds F) look_law_holds
theorem ax_law (Z : Zs K mg h) : Ax (Gm P w K mg base 5 N_law) sg_law A_law :=
  ax_of rfl (.cons ⟨_, FR.mono (j := 1) (fr_law_start Z) (Nat.le_of_ble_eq_true rfl), glo_all Z (List.mem_of_getElem? (i := 18) rfl), He.keep_ok (Z.c.f (f := .keep "_law_start") (List.mem_of_getElem? (i := 46) rfl))⟩ (.cons ⟨_, FR.mono (j := 3) (fr_law_columns Z) (Nat.le_of_ble_eq_true rfl), glo_all Z (List.mem_of_getElem? (i := 21) rfl), He.keep_ok (Z.c.f (f := .keep "_law_columns") (List.mem_of_getElem? (i := 49) rfl))⟩ (.cons ⟨_, FR.mono (j := 1) (fr_law_cells Z) (Nat.le_of_ble_eq_true rfl), glo_all Z (List.mem_of_getElem? (i := 22) rfl), He.keep_ok (Z.c.f (f := .keep "_law_cells") (List.mem_of_getElem? (i := 50) rfl))⟩ (.cons ⟨_, FR.mono (j := 4) (fr_law_frame Z) (Nat.le_of_ble_eq_true rfl), glo_all Z (List.mem_of_getElem? (i := 25) rfl), He.keep_ok (Z.c.f (f := .keep "_law_frame") (List.mem_of_getElem? (i := 53) rfl))⟩ (.cons ⟨_, FR.mono (j := 1) (fr_law_is_int Z) (Nat.le_of_ble_eq_true rfl), glo_all Z (List.mem_of_getElem? (i := 26) rfl), He.keep_ok (Z.c.f (f := .keep "_law_is_int") (List.mem_of_getElem? (i := 54) rfl))⟩ (.cons ⟨_, FR.mono (j := 1) (fr_law_draw Z) (Nat.le_of_ble_eq_true rfl), glo_all Z (List.mem_of_getElem? (i := 19) rfl), He.keep_ok (Z.c.f (f := .keep "_law_draw") (List.mem_of_getElem? (i := 47) rfl))⟩ (.cons ⟨_, FR.mono (j := 5) (fr_law_holds Z) (Nat.le_of_ble_eq_true rfl), glo_all Z (List.mem_of_getElem? (i := 29) rfl), He.keep_ok (Z.c.f (f := .keep "_law_holds") (List.mem_of_getElem? (i := 57) rfl))⟩ .nil))))))) .nil .nil (free_all Z) (fun _ z => by cases z) (cls_all Z) (isi_all Z) .nil .nil (fun _ z => by cases z) (fun _ z => by cases z) .nil .nil (fun ne => absurd rfl ne) .nil (fun _ z => by cases z) (fun _ z => by cases z) (fun _ z => by cases z)
theorem fr_law (Z : Zs K mg h) : FR (Gm P w K mg base 6 []) (He.fAd K ("law", none)) (spR (tab cn K) F_law) := by
  obtain ⟨fd, F⟩ := fun_of Z.c (at_ := ("law", none)) (n := "law") (q := "law") (st := st_law) (by unfold fn; simp) (He.keep_ok (Z.c.f (f := .keep "law") (List.mem_of_getElem? (i := 58) rfl)))
  exact fn_look (Γ := Gm P w K mg base 5 N_law) (ax_law Z) F sc_law (bd_law F) look_law
end
def loose0 : List Str := ["_wall", "__name__", "SiftError", "BadFrame", "OtherFrame", "BadDivisor", "NothingToUndo", "NoKind", "BadAmount", "TooLarge", "NamedError", "NoColumn", "NoValue", "NoName", "MOST_SHARES", "lowest"]
def loose1 : List Str := ["added", "meet", "kinds_of", "value_on", "sifted_term", "check_size", "check_same", "Number", "multiplied", "Lot", "Frame", "is_name", "_law_marks", "_law_one", "_law_is_int", "_law_is_lot"]
def loose2 : List Str := ["_law_start", "_law_draw", "_law_name", "_law_columns", "_law_cells", "_law_frame", "_law_call", "_law_holds"]
def loose : List Str := loose0 ++ loose1 ++ loose2
abbrev R : PySem.W.OpenRow := PySem.W.OpenLaw.row PySem.Challenge.rw_siftshares_k01_lots_of_kinds
abbrev hk : PySem.W.Hook := hookX 5 fa fn xf cf ef
def ob (s : PySem.W.SharedT) : AlX := obsXG 5 fa fn xf cf ef (HandSHeadRun.getT s)
theorem ob_eq (s : PySem.W.SharedT) : ob s = hk.obs s.abs := obsXG_eq (HandSHeadRun.getT_eq s)
theorem run (w : World) : HandSHeadRun.RunEq R (PySem.W.view R.prog [43]) hk ob 7000 loose w := by
  intro os
  kernel_rfl
theorem facts {w : World} {K : PySem.W.Frag} {h : Heap} {mg : Str → Option Value} {f : Addr} (X : K.In h) (Gn : h.Ns mainGlobals mg) (hfa : mg ("law" : Str) = some (.ref f)) (c : SaysX fa fn xf cf ef K) :
    ∃ fd : FuncData, (∀ (s : Shared) (v : Value), BindsTo s fd ⟨[v], []⟩ [("_law_script", v)]) ∧ ∀ base : Heap, K.In base → base.Ns mainGlobals mg → FnOk P w K mg base (L2N.CX P w) 6 f fd ["_law_script"] (fun vs H Q E => vs.length = 1 ∧ spR (tab cn K) F_law vs H Q E) := by
  have Z : Zs K mg h := ⟨X, Gn, c⟩
  have e := hfa.symm.trans (glo_all Z (List.mem_of_getElem? (i := 30) rfl))
  cases e
  obtain ⟨fd, F⟩ := fun_of Z.c (at_ := ("law", none)) (n := "law") (q := "law") (st := st_law) (by unfold fn; simp) (He.keep_ok (Z.c.f (f := .keep "law") (List.mem_of_getElem? (i := 58) rfl)))
  exact ⟨fd, fun s v => by
    obtain ⟨oc, od, kV, doc, pm, an, cdv, ct, osl, rfl, lk, hcd⟩ := F.ex
    exact BindsTo.of_eq rfl, fun base _ _ => def_okF (Γ := Gm P w K mg base 5 N_law) F sc_law fun _ => okSs_good (ax_law Z) _ _ look_law⟩
end K01
end
section
set_option linter.all false
set_option maxRecDepth 100000
set_option maxHeartbeats 4000000
namespace K01
open PySem Sf
def cell (l : List Int) (p b a c : Int) : List D := [.lst (l.map .int), .int p, .int b, .int a, .int c]
structure CellOk (p b a c : Int) : Prop where
  p0 : 0 ≤ p
  b0 : 0 ≤ b
  a0 : 0 ≤ a
  a1 : a < 1009
  c0 : 0 ≤ c
  c1 : c < 997
theorem at_nat {l : List Int} {p : Int} (h0 : 0 ≤ p) (h1 : p < l.length) : L2.atI (l.map D.int) p = some (.int (l.getD p.toNat 0)) := by
  unfold L2.atI L2.ixN
  have h2 : p.toNat < l.length := by omega
  rw [if_pos h0, if_pos (by rw [List.length_map]; exact h1)]
  simp [List.getElem?_map, List.getD_eq_getElem?_getD, List.getElem?_eq_getElem h2]
theorem log_small {i : Int} {k : Nat} (h : i.natAbs < 2 ^ k) (hk : 0 < k) : i.natAbs.log2 < k := by
  by_cases h0 : i.natAbs = 0
  · rw [h0]; simpa using hk
  · exact (Nat.log2_lt h0).mpr h
theorem mul_ok {i j : Int} (k m : Nat) (h : i.natAbs < 2 ^ k) (h2 : j.natAbs < 2 ^ m) (hk : 0 < k) (hm : 0 < m) (hkm : k + m < 100000) : mulOk i j = true := by
  unfold mulOk
  have := log_small h hk
  have := log_small h2 hm
  exact decide_eq_true (by omega)
theorem div_ok {j : Int} (k : Nat) (h0 : j ≠ 0) (h : j.natAbs < 2 ^ k) (hk : 0 < k) (hk2 : k < 9000) : divOk j = true := by
  unfold divOk
  have := log_small h hk
  rw [Bool.and_eq_true]
  exact ⟨decide_eq_true h0, decide_eq_true (by omega)⟩
theorem abs_nn (x : Int) : 0 ≤ (if x < 0 then -x else x) := by split <;> omega
theorem fm_lo (x : Int) {m : Int} (h : 0 < m) : 0 ≤ x.fmod m := Int.fmod_nonneg_of_pos x h
theorem fm_hi (x : Int) {m : Int} (h : 0 < m) : x.fmod m < m := Int.fmod_lt_of_pos x h
theorem fd_nn {x m : Int} (h0 : 0 ≤ x) (h : 0 < m) : 0 ≤ x.fdiv m := Int.fdiv_nonneg h0 (Int.le_of_lt h)
theorem set_same {α : Type} {l : List α} {n : Nat} {x : α} (h : l[n]? = some x) : l.set n x = l := by
  obtain ⟨h1, h2⟩ := List.getElem?_eq_some_iff.mp h
  rw [← h2]
  exact List.set_getElem_self h1
theorem set_get {α : Type} {l : List α} {n : Nat} {x y : α} (h : l[n]? = some x) : (l.set n y)[n]? = some y := List.getElem?_set_self (List.getElem?_eq_some_iff.mp h).1
section
variable {G : Sg} {S : Hs} {n : Nat} {l : List Int} {p b a c many : Int} {x2 x3 : Sl}
/-- the slots of _law_draw -/
abbrev dr (n : Nat) (many : Int) (x2 x3 : Sl) : Rho := [.va (.loc n), .va (.int many), x2, x3]
theorem rd (hS : S[n]? = some (cell l p b a c)) {k : Int} {d : D} (h : L2.atI (cell l p b a c) k = some d) : ev G (.ix (.var 0) (.int k)) (dr n many x2 x3) S = .ok (.d d) S := E_ix (ev_va rfl) ev_int (ix_loc hS h)
theorem m_int {x : Int} {e : C} {ρ : Rho} {S' : Hs} (h : ev G e ρ S = .ok (.d (.int x)) S') : ev G (.blt .int (.cons e .nil)) ρ S = .ok (.d (.int x)) S' := E_blt (evv_one h) rfl
theorem m_mod {e : C} {ρ : Rho} {S' : Hs} {x m : Int} (hm : m ≠ 0) (h : ev G e ρ S = .ok (.d (.int x)) S') : ev G (.bin .Mod e (.int m)) ρ S = .ok (.d (.int (x.fmod m))) S' := E_bin h ev_int (if_pos hm)
theorem m_add {e f : C} {ρ : Rho} {S1 S2 : Hs} {x y : Int} (h : ev G e ρ S = .ok (.d (.int x)) S1) (h2 : ev G f ρ S1 = .ok (.d (.int y)) S2) : ev G (.bin .Add e f) ρ S = .ok (.d (.int (x + y))) S2 := E_bin h h2 rfl
theorem m_mul {e f : C} {ρ : Rho} {S1 S2 : Hs} {x y : Int} (hm : mulOk x y = true) (h : ev G e ρ S = .ok (.d (.int x)) S1) (h2 : ev G f ρ S1 = .ok (.d (.int y)) S2) : ev G (.bin .Mult e f) ρ S = .ok (.d (.int (x * y))) S2 := E_bin h h2 (if_pos hm)
theorem c_cmp {op : CmpOp} {e f : C} {ρ : Rho} {S1 S2 : Hs} {x y : Int} {k : Bool} (h : ev G e ρ S = .ok (.d (.int x)) S1) (h2 : ev G f ρ S1 = .ok (.d (.int y)) S2) (hk : cmpV op ρ S2 (.d (.int x)) (.d (.int y)) = some k) : ev G (.cmp op e f) ρ S = .ok (.d (.bl k)) S2 := E_cmp h h2 hk
def d1 : Sx := match b_law_draw with
  | .cons s _ => s
  | _ => .pass
def d2 : Ss := match b_law_draw with
  | .cons _ r => r
  | _ => .nil
theorem draw1 (hS : S[n]? = some (cell l p b a c)) (ok : CellOk p b a c) :
    ∃ x p' b' a' c', Sf.exec G d1 (dr n many .no .no) S = .nx (dr n many x .no) (S.set n (cell l p' b' a' c')) ∧ CellOk p' b' a' c' := by
  obtain ⟨h0, h1, h2, h3, h4, h5⟩ := ok
  unfold d1 b_law_draw
  dsimp only
  have eb : ev G (.cmp .Eq (.ix (.var 0) (.int 2)) (.int 0)) (dr n many .no .no) S = .ok (.d (.bl (b == 0))) S := c_cmp (rd hS rfl) ev_int rfl
  cases hb : (b == 0) with
  | false =>
    rw [hb] at eb
    refine ⟨.no, p, b, a, c, ?_, ⟨h0, h1, h2, h3, h4, h5⟩⟩
    rw [X_iteF (E_andF eb), Sf.execs_nil, set_same hS]
  | true =>
    rw [hb] at eb
    have b0 : b = 0 := by simpa using hb
    subst b0
    have el : ev G (.cmp .Lt (.ix (.var 0) (.int 1)) (.blt .len (.cons (.ix (.var 0) (.int 0)) .nil))) (dr n many .no .no) S = .ok (.d (.bl (decide (p < (l.length : Int))))) S := by
      refine c_cmp (y := (l.length : Int)) (rd hS rfl) (E_blt (evv_one (rd hS rfl)) ?_) rfl
      show some (Val.d (.int ((l.map D.int).length : Nat))) = _
      rw [List.length_map]
    cases hp : decide (p < (l.length : Int)) with
    | false =>
      rw [hp] at el
      refine ⟨.no, p, 0, a, c, ?_, ⟨h0, h1, h2, h3, h4, h5⟩⟩
      rw [X_iteF ((E_andT eb).trans el), Sf.execs_nil, set_same hS]
    | true =>
      rw [hp] at el
      have hp := of_decide_eq_true hp
      rw [X_iteT ((E_andT eb).trans el)]
      have hat := at_nat h0 hp
      generalize hx : l.getD p.toNat 0 = x at hat
      have ex : ev G (.ix (.ix (.var 0) (.int 0)) (.ix (.var 0) (.int 1))) (dr n many .no .no) S = .ok (.d (.int x)) S := E_ix (rd hS rfl) (rd hS rfl) (ix_lst hat)
      have hS1 := set_get (y := cell l (p + 1) 0 a c) hS
      have s2 : Sf.exec G (.setLoc (.var 0) (.int 1) (.bin .Add (.ix (.var 0) (.int 1)) (.int 1))) (dr n many (.va (.int x)) .no) S = .nx (dr n many (.va (.int x)) .no) (S.set n (cell l (p + 1) 0 a c)) :=
        X_setLoc (j := 1) rfl (m_add (rd hS rfl) ev_int) hS rfl
      have eabs : ∀ S' : Hs, ev G (.blt .abs (.cons (.var 2) .nil)) (dr n many (.va (.int x)) .no) S' = .ok (.d (.int (if x < 0 then -x else x))) S' := fun S' => E_blt (evv_one (ev_va rfl)) rfl
      have epow : ∀ S' : Hs, ev G (.bin .Pow (.int 10) (.int 18)) (dr n many (.va (.int x)) .no) S' = .ok (.d (.int (10 ^ 18))) S' := fun S' => E_bin ev_int ev_int rfl
      have eg : ∀ S' : Hs, ev G (.cmp .GtE (.blt .abs (.cons (.var 2) .nil)) (.bin .Pow (.int 10) (.int 18))) (dr n many (.va (.int x)) .no) S' = .ok (.d (.bl (decide ((10 : Int) ^ 18 ≤ (if x < 0 then -x else x))))) S' := fun S' => c_cmp (eabs S') (epow S') rfl
      cases hg : decide ((10 : Int) ^ 18 ≤ (if x < 0 then -x else x)) with
      | true =>
        refine ⟨.va (.int x), p + 1, (if x < 0 then -x else x), a, c, ?_, ⟨by omega, abs_nn x, h2, h3, h4, h5⟩⟩
        have eg := eg (S.set n (cell l (p + 1) 0 a c))
        rw [hg] at eg
        refine Xs_cons (X_set ex rfl) (Xs_cons s2 (Xs_cons ((X_iteT eg).trans (Xs_cons (X_setLoc (j := 2) rfl (eabs _) hS1 rfl) Sf.execs_nil)) ?_))
        rw [Sf.execs_nil, List.set_set]; rfl
      | false =>
        have eg := eg (S.set n (cell l (p + 1) 0 a c))
        rw [hg] at eg
        have hg := of_decide_eq_false hg
        have hx1 : x.natAbs < 2 ^ 60 := by
          have : (10 : Int) ^ 18 < 2 ^ 60 := by decide
          split at hg <;> omega
        refine ⟨.va (.int x), p + 1, 0, (a + x).fmod 1009, (c + x * 3).fmod 997, ?_, ⟨by omega, by omega, fm_lo _ (by omega), fm_hi _ (by omega), fm_lo _ (by omega), fm_hi _ (by omega)⟩⟩
        have hS2 := set_get (y := cell l (p + 1) 0 ((a + x).fmod 1009) c) hS1
        refine Xs_cons (X_set ex rfl) (Xs_cons s2 (Xs_cons ((X_iteF eg).trans (Xs_cons (X_setLoc (j := 3) rfl (m_mod (by omega) (m_int (m_add (rd hS1 rfl) (ev_va rfl)))) hS1 rfl) (Xs_cons (X_setLoc (j := 4) rfl (m_mod (by omega) (m_int (m_add (rd hS2 rfl) (m_mul (mul_ok 60 2 hx1 (by decide) (by decide) (by decide) (by decide)) (ev_va rfl) ev_int)))) hS2 rfl) Sf.execs_nil))) ?_))
        rw [Sf.execs_nil, List.set_set, List.set_set]; rfl
theorem draw2 (hS : S[n]? = some (cell l p b a c)) (ok : CellOk p b a c) (hm : 1 ≤ many) (hm2 : many < 2 ^ 60) :
    ∃ d p' b' a' c', Sf.execs G d2 (dr n many x2 .no) S = .rt (.d (.int d)) (S.set n (cell l p' b' a' c')) ∧ CellOk p' b' a' c' ∧ 0 ≤ d ∧ d < many := by
  obtain ⟨h0, h1, h2, h3, h4, h5⟩ := ok
  unfold d2 b_law_draw
  dsimp only
  have eb : ev G (.cmp .Gt (.ix (.var 0) (.int 2)) (.int 0)) (dr n many x2 .no) S = .ok (.d (.bl (decide (0 < b)))) S := c_cmp (rd hS rfl) ev_int rfl
  have mv : ∀ {e : C} {x : Int} {x3 : Sl} {S1 S2 : Hs}, ev G e (dr n many x2 x3) S1 = .ok (.d (.int x)) S2 → ev G (.bin .Mod e (.var 1)) (dr n many x2 x3) S1 = .ok (.d (.int (x.fmod many))) S2 := fun h => E_bin h (ev_va rfl) (if_pos (by omega))
  cases hb : decide (0 < b) with
  | true =>
    rw [hb] at eb
    have hb := of_decide_eq_true hb
    refine ⟨b.fmod many, p, b.fdiv many, a, c, ?_, ⟨h0, fd_nn h1 (by omega), h2, h3, h4, h5⟩, fm_lo _ (by omega), fm_hi _ (by omega)⟩
    refine Xs_rt ((X_iteT eb).trans ?_)
    refine Xs_cons (X_set (mv (m_int (rd hS rfl))) rfl) (Xs_cons (X_setLoc (j := 2) rfl (E_bin (rd hS rfl) (ev_va rfl) (if_pos (div_ok 60 (by omega) (by omega) (by decide) (by decide)))) hS rfl) (Xs_rt (X_ret (ev_va rfl))))
  | false =>
    rw [hb] at eb
    have hS1 := set_get (y := cell l p b ((a * 37 + 11).fmod 1009) c) hS
    refine ⟨((a * 37 + 11).fmod 1009 + (c * 41 + 7).fmod 997 * 1009).fmod many, p, b, (a * 37 + 11).fmod 1009, (c * 41 + 7).fmod 997, ?_, ⟨h0, h1, fm_lo _ (by omega), fm_hi _ (by omega), fm_lo _ (by omega), fm_hi _ (by omega)⟩, fm_lo _ (by omega), fm_hi _ (by omega)⟩
    · have hS2 := set_get (y := cell l p b ((a * 37 + 11).fmod 1009) ((c * 41 + 7).fmod 997)) hS1
      have k1 := fm_lo (c * 41 + 7) (m := 997) (by omega)
      have k2 := fm_hi (c * 41 + 7) (m := 997) (by omega)
      refine Xs_cons ((X_iteF eb).trans Sf.execs_nil) (Xs_cons (X_setLoc (j := 3) rfl (m_mod (by omega) (m_int (m_add (m_mul (mul_ok 20 20 (by omega) (by omega) (by decide) (by decide) (by decide)) (rd hS rfl) ev_int) ev_int))) hS rfl)
        (Xs_cons (X_setLoc (j := 4) rfl (m_mod (by omega) (m_int (m_add (m_mul (mul_ok 20 20 (by omega) (by omega) (by decide) (by decide) (by decide)) (rd hS1 rfl) ev_int) ev_int))) hS1 rfl) ?_))
      have e := X_ret (mv (x3 := .no) (x := (a * 37 + 11).fmod 1009 + (c * 41 + 7).fmod 997 * 1009) (m_int (m_add (rd (k := 3) hS2 rfl) (m_mul (mul_ok 20 20 (by omega) (by omega) (by decide) (by decide) (by decide)) (rd (k := 4) hS2 rfl) ev_int))))
      refine (Xs_rt e).trans ?_
      show Out.rt _ _ = _
      rw [List.set_set]
theorem draw_spec (hS : S[n]? = some (cell l p b a c)) (ok : CellOk p b a c) (hm : 1 ≤ many) (hm2 : many < 2 ^ 60) :
    ∃ d p' b' a' c', F_law_draw [.loc n, .int many] S = .ok (.d (.int d)) (S.set n (cell l p' b' a' c')) ∧ CellOk p' b' a' c' ∧ 0 ≤ d ∧ d < many := by
  obtain ⟨x, p1, b1, a1, c1, e1, ok1⟩ := draw1 (G := sg_law_draw) (many := many) hS ok
  obtain ⟨d, p2, b2, a2, c2, e2, ok2, hd⟩ := draw2 (G := sg_law_draw) (many := many) (x2 := x) (set_get (y := cell l p1 b1 a1 c1) hS) ok1 hm hm2
  refine ⟨d, p2, b2, a2, c2, ?_, ok2, hd⟩
  have q := Xs_cons (r := d2) e1 e2
  rw [List.set_set] at q
  exact run_rt rfl q
end
/-- the law's state stands in cell n, the other cells as in S0 -/
def StL (S0 : Hs) (n : Nat) (l : List Int) (S : Hs) : Prop := ∃ p b a c, S = S0.set n (cell l p b a c) ∧ n < S0.length ∧ CellOk p b a c
section
variable {S0 S : Hs} {n : Nat} {l : List Int} {many : Int}
theorem draw_st (h : StL S0 n l S) (hm : 1 ≤ many) (hm2 : many < 2 ^ 60) : ∃ d S', F_law_draw [.loc n, .int many] S = .ok (.d (.int d)) S' ∧ StL S0 n l S' ∧ 0 ≤ d ∧ d < many := by
  obtain ⟨p, b, a, c, rfl, hn, ok⟩ := h
  obtain ⟨d, p', b', a', c', e, ok', hd⟩ := draw_spec (S := S0.set n (cell l p b a c)) (n := n) (many := many) (List.getElem?_set_self hn) ok hm hm2
  rw [List.set_set] at e
  exact ⟨d, _, e, ⟨p', b', a', c', rfl, hn, ok'⟩, hd⟩
def alphabet : Str := "abcdefghijklmnopqrstuvwxyz"
theorem alpha_facts : ((List.range 26).all fun i => L2.atI alphabet.cps.toList (i : Int) == some (97 + i)) = true := by decide +kernel
theorem alpha_at {ρ : Rho} {S : Hs} {d : Int} (h0 : 0 ≤ d) (h1 : d < 26) : ixV ρ S (.d (.str alphabet)) (.d (.int d)) = some (.d (.str (chS (97 + d.toNat)))) := by
  have q := List.all_eq_true.mp alpha_facts d.toNat (List.mem_range.mpr (by omega))
  rw [show ((d.toNat : Nat) : Int) = d by omega] at q
  show (if alphabet.length ≤ big then (L2.atI alphabet.cps.toList d).map fun c => Val.d (.str ⟨#[c]⟩) else none) = _
  rw [if_pos (by decide +kernel), beq_iff_eq.mp q]; rfl
theorem chars_of : ∀ {ys : List D}, (∀ y ∈ ys, ∃ c : Nat, y = .str (chS c) ∧ 97 ≤ c ∧ c ≤ 122) → ∃ cs : List Nat, ys = (cs.map chS).map .str ∧ ∀ c ∈ cs, 97 ≤ c ∧ c ≤ 122
  | [], _ => ⟨[], rfl, fun _ h => by simp at h⟩
  | y :: r, h => by
    obtain ⟨c, e, hc⟩ := h y (by simp)
    obtain ⟨cs, e2, hcs⟩ := chars_of (ys := r) fun z hz => h z (by simp [hz])
    refine ⟨c :: cs, by rw [e, e2]; rfl, fun d hd => ?_⟩
    rcases List.mem_cons.mp hd with rfl | hd
    · exact hc
    · exact hcs d hd
theorem letters_of {cs : List Nat} (h1 : 1 ≤ cs.length) (h2 : cs.length ≤ 8) (h : ∀ c ∈ cs, 97 ≤ c ∧ c ≤ 122) : Letters ⟨cs.toArray⟩ := ⟨by simpa using h1, by simpa using h2, by simpa using h⟩
theorem fr_head {ρ : Rho} {S : Hs} {x : D} {r : List D} : ixV ρ S (.fr (x :: r)) (.d (.int 0)) = some (.d x) := by
  show (L2.atI (x :: r) 0).map Val.d = _
  unfold L2.atI L2.ixN
  rw [if_pos (by decide), if_pos (by rw [List.length_cons]; omega)]
  rfl
theorem nodup_le : ∀ {l u : List Str}, l.Nodup → (∀ x ∈ l, x ∈ u) → l.length ≤ u.length
  | [], u, _, _ => Nat.zero_le _
  | x :: r, u, nd, h => by
    have hx := h x (by simp)
    obtain ⟨n1, n2⟩ := List.nodup_cons.mp nd
    have q := nodup_le (l := r) (u := u.erase x) n2 fun y hy => (List.mem_erase_of_ne (by rintro rfl; exact n1 hy)).mpr (h y (by simp [hy]))
    rw [List.length_erase_of_mem hx] at q
    have := List.length_pos_of_mem hx
    rw [List.length_cons]
    omega
theorem spare_some : ∀ {used : List Str}, used.length ≤ 3 → ∃ z r, ([("p" : Str), "q", "r", "s"].filter fun x => !used.any (· == x)) = z :: r := by
  intro used h
  cases e : ([("p" : Str), "q", "r", "s"].filter fun x => !used.any (· == x)) with
  | cons z r => exact ⟨z, r, rfl⟩
  | nil =>
    exfalso
    have all : ∀ x ∈ [("p" : Str), "q", "r", "s"], x ∈ used := fun x hx => by
      have q := List.filter_eq_nil_iff.mp e x hx
      simp only [Bool.not_eq_true', Bool.not_eq_false, List.any_eq_true, beq_iff_eq] at q
      obtain ⟨y, hy, rfl⟩ := q
      exact hy
    have nd : [("p" : Str), "q", "r", "s"].Nodup := by decide +kernel
    have := nodup_le nd all
    have : [("p" : Str), "q", "r", "s"].length = 4 := rfl
    omega
theorem name_spec {used : List Str} (h : StL S0 n l S) (hu : used.length ≤ 3) (hk : ∀ y ∈ used, PyData.strOk y = true) :
    ∃ nm S', F_law_name [.loc n, .lst (used.map .str)] S = .ok (.d (.str nm)) S' ∧ StL S0 n l S' ∧ Letters nm ∧ nm ≠ ("self" : Str) ∧ nm ∉ used := by
  obtain ⟨d, S1, e1, i1, d0, d1⟩ := draw_st h (many := 8) (by decide) (by decide)
  let U : D := .lst (used.map .str)
  have es : Sf.exec sg_law_name (.set 2 (.bin .Add (.int 1) (.call 0 (.cons (.var 0) (.cons (.int 8) .nil))))) [.va (.loc n), .va U, .no, .no, .no, .no] S = .nx [.va (.loc n), .va U, .va (.int (1 + d)), .no, .no, .no] S1 :=
    X_set (m_add ev_int (E_call rfl (evs_cons (ev_va rfl) rfl (evs_cons ev_int rfl evs_nil)) e1)) rfl
  let f : D → Hs → Res (Option D) := fun x S => match setTg (.one 4) x (wipeR [.va (.loc n), .va U, .va (.int (1 + d)), .no, .no, .no] [4]) with
      | some ρ' => (ev sg_law_name (.ix (.str alphabet) (.call 0 (.cons (.var 0) (.cons (.int 26) .nil)))) ρ' S).bind fun y S => match y.toD with
        | some y => .ok (some y) S
        | none => .bad
      | none => .bad
  obtain ⟨ys, S2, e2, i2, p2, l2⟩ := comp_st (Iv := StL S0 n l) (P := fun y => ∃ c : Nat, y = .str (chS c) ∧ 97 ≤ c ∧ c ≤ 122) (f := f) (l := rngL 0 (1 + d).toNat) (fun x hx S hS => by
    obtain ⟨q, S1, e1, i1, q0, q1⟩ := draw_st hS (many := 26) (by decide) (by decide)
    refine ⟨.str (chS (97 + q.toNat)), S1, ?_, i1, _, rfl, by omega, by omega⟩
    show ((ev sg_law_name (.ix (.str alphabet) (.call 0 (.cons (.var 0) (.cons (.int 26) .nil)))) [.va (.loc n), .va U, .va (.int (1 + d)), .no, .va x, .no] S).bind fun y S => match y.toD with
        | some y => .ok (some y) S
        | none => .bad) = _
    rw [E_ix ev_str (E_call rfl (evs_cons (ev_va rfl) rfl (evs_cons ev_int rfl evs_nil)) e1) (alpha_at q0 q1)]
    rfl) i1 (acc := [])
  obtain ⟨cs, ecs, hcs⟩ := chars_of p2
  have hlen : cs.length = (1 + d).toNat := by
    have : ys.length = cs.length := by rw [ecs]; simp
    rw [← this, l2]
    unfold rngL
    simp
  have hL := letters_of (cs := cs) (by omega) (by omega) hcs
  have hj : joinV [.va (.loc n), .va U, .va (.int (1 + d)), .no, .no, .no] S2 (.d (.str Str.empty)) (.fr ys) = some (.d (.str ⟨cs.toArray⟩)) := by
    show ((strsD ys).bind fun ys => if (ys.map (·.length)).sum + ys.length * Str.empty.length ≤ 16777216 then some (Val.d (.str (Txt.join Str.empty ys))) else none) = _
    rw [ecs, strsD_map]
    show (if ((cs.map chS).map (·.length)).sum + (cs.map chS).length * 0 ≤ 16777216 then some (Val.d (.str (Txt.join Str.empty (cs.map chS)))) else none) = _
    have hs : ((cs.map chS).map (·.length)).sum = cs.length := by
      rw [List.map_map]
      clear hL hlen ecs hcs
      induction cs with
      | nil => rfl
      | cons c r ih => rw [List.map_cons, List.sum_cons, ih]; show 1 + r.length = _; rw [List.length_cons]; omega
    rw [hs, if_pos (by omega), join_ch cs (by intro z; rw [z] at hlen; simp at hlen; omega)]
  have ej : ev sg_law_name (.join (.str "") (.comp (.one 4) [4] (.rng1 (.var 2)) (.ix (.str "abcdefghijklmnopqrstuvwxyz") (.call 0 (.cons (.var 0) (.cons (.int 26) .nil)))))) [.va (.loc n), .va U, .va (.int (1 + d)), .no, .no, .no] S1 = .ok (.d (.str ⟨cs.toArray⟩)) S2 :=
    E_join ev_str (E_comp (f := f) (I_rng1 (ev_va rfl) (rng_ok (by omega) (by omega))) (fun _ _ => rfl) e2) hj
  have s2 := X_set (i := 3) ej rfl
  generalize hnm : (⟨cs.toArray⟩ : Str) = nm at hL s2
  have hself : PyData.strOk ("self" : Str) = true := by decide +kernel
  have eeq : ev sg_law_name (.cmp .Eq (.var 3) (.str "self")) [.va (.loc n), .va U, .va (.int (1 + d)), .va (.str nm), .no, .no] S2 = .ok (.d (.bl (nm == ("self" : Str)))) S2 := E_cmp (ev_va rfl) ev_str (cmp_str hL.ok hself)
  have ein : ev sg_law_name (.cmp .In (.var 3) (.var 1)) [.va (.loc n), .va U, .va (.int (1 + d)), .va (.str nm), .no, .no] S2 = .ok (.d (.bl (used.any (· == nm)))) S2 := E_cmp (ev_va rfl) (ev_va rfl) (cmp_inS hL.ok hk)
  have eor : ev sg_law_name (.or (.cmp .Eq (.var 3) (.str "self")) (.cmp .In (.var 3) (.var 1))) [.va (.loc n), .va U, .va (.int (1 + d)), .va (.str nm), .no, .no] S2 = .ok (.d (.bl (nm == ("self" : Str) || used.any (· == nm)))) S2 := by
    cases hq : (nm == ("self" : Str)) with
    | true => rw [hq] at eeq; exact E_orT eeq
    | false => rw [hq] at eeq; exact (E_orF eeq).trans ein
  cases ho : (nm == ("self" : Str) || used.any (· == nm)) with
  | false =>
    rw [ho] at eor
    rw [Bool.or_eq_false_iff] at ho
    refine ⟨nm, S2, run_rt rfl (Xs_cons es (Xs_cons s2 (Xs_cons ((X_iteF eor).trans Sf.execs_nil) (Xs_rt (X_ret (ev_va rfl)))))), i2, hL, fun e => ?_, fun hm => ?_⟩
    · have q := ho.1
      rw [e] at q
      simp at q
    · have hany : used.any (· == nm) = true := List.any_eq_true.mpr ⟨nm, hm, beq_self_eq_true nm⟩
      rw [ho.2] at hany
      cases hany
  | true =>
    rw [ho] at eor
    obtain ⟨z, r, hz⟩ := spare_some hu
    have four : ∀ x ∈ [("p" : Str), "q", "r", "s"], Letters x ∧ x ≠ ("self" : Str) := by
      intro x hx
      simp only [List.mem_cons, List.not_mem_nil, or_false] at hx
      rcases hx with rfl | rfl | rfl | rfl <;> exact ⟨⟨by decide +kernel, by decide +kernel, by decide +kernel⟩, by decide +kernel⟩
    have hz1 : z ∈ ([("p" : Str), "q", "r", "s"].filter fun x => !used.any (· == x)) := by rw [hz]; simp
    obtain ⟨hz2, hz3⟩ := List.mem_filter.mp hz1
    obtain ⟨zL, zs⟩ := four z hz2
    let g : D → Hs → Res (Option D) := fun x S => match setTg (.one 5) x (wipeR [.va (.loc n), .va U, .va (.int (1 + d)), .va (.str nm), .no, .no] [5]) with
      | some ρ' => (ev sg_law_name (.cmp .NotIn (.var 5) (.var 1)) ρ' S).bind fun b S => match b with
        | .d (.bl true) => (ev sg_law_name (.var 5) ρ' S).bind fun y S => match y.toD with
          | some y => .ok (some y) S
          | none => .bad
        | .d (.bl false) => .ok none S
        | _ => .bad
      | none => .bad
    have e4 := comp_filter (S := S2) (acc := []) (f := g) (g := fun x => match x with
      | .str x => if used.any (· == x) = true then none else some (.str x)
      | x => some x) (l := [("p" : Str), "q", "r", "s"].map .str) (fun x hx => by
        obtain ⟨x, hx4, rfl⟩ := List.mem_map.mp hx
        show ((ev sg_law_name (.cmp .NotIn (.var 5) (.var 1)) [.va (.loc n), .va U, .va (.int (1 + d)), .va (.str nm), .no, .va (.str x)] S2).bind fun b S => match b with
          | .d (.bl true) => (ev sg_law_name (.var 5) [.va (.loc n), .va U, .va (.int (1 + d)), .va (.str nm), .no, .va (.str x)] S).bind fun y S => match y.toD with
            | some y => .ok (some y) S
            | none => .bad
          | .d (.bl false) => .ok none S
          | _ => .bad) = _
        rw [E_cmp (ev_va rfl) (ev_va rfl) (cmp_ninS (four x hx4).1.ok hk), Res.bind_ok]
        cases hq : used.any (· == x) with
        | true => simp [hq]
        | false =>
          simp only [Bool.not_false]
          rw [ev_va (x := .str x) rfl]
          simp [hq])
    have hfm : ([("p" : Str), "q", "r", "s"].map D.str).filterMap (fun x => match x with
      | .str x => if used.any (· == x) = true then none else some (.str x)
      | x => some x) = (z :: r).map .str := by
      rw [← hz]
      generalize [("p" : Str), "q", "r", "s"] = L
      induction L with
      | nil => rfl
      | cons y q ih =>
        rw [List.map_cons, List.filterMap_cons, List.filter_cons, ih]
        cases hq : used.any (· == y) with
        | true => simp only [hq, if_true, Bool.not_true, Bool.false_eq_true, if_false]
        | false => simp only [hq, Bool.false_eq_true, if_false, Bool.not_false, if_true, List.map_cons]
    rw [hfm] at e4
    have ex : ev sg_law_name (.ix (.compIf (.one 5) [5] (.seq (.lst (.cons (.str "p") (.cons (.str "q") (.cons (.str "r") (.cons (.str "s") .nil)))))) (.cmp .NotIn (.var 5) (.var 1)) (.var 5)) (.int 0)) [.va (.loc n), .va U, .va (.int (1 + d)), .va (.str nm), .no, .no] S2 = .ok (.d (.str z)) S2 :=
      E_ix (E_compIf (f := g) (I_fr (E_lst (evs_cons ev_str rfl (evs_cons ev_str rfl (evs_cons ev_str rfl (evs_cons ev_str rfl evs_nil)))))) (fun _ _ => rfl) e4) ev_int (fr_head (r := r.map .str))
    refine ⟨z, S2, run_rt rfl (Xs_cons es (Xs_cons s2 (Xs_cons ((X_iteT eor).trans (Xs_cons (X_set (i := 3) ex rfl) Sf.execs_nil)) (Xs_rt (X_ret (ev_va rfl)))))), i2, zL, zs, fun hm => ?_⟩
    simp only [Bool.not_eq_true', List.any_eq_false] at hz3
    exact hz3 z hm (by simp)
theorem is_name_spec {nm : Str} {S : Hs} (h : Letters nm) : F_is_name [.str nm] S = .ok (.d (.bl true)) S := by
  have e1 : ev sg_is_name (.chn .LtE .LtE (.int 1) (.blt .len (.cons (.var 0) .nil)) (.int 8)) [.va (.str nm)] S = .ok (.d (.bl true)) S := by
    have hlen : nm.length ≤ big := Nat.le_trans h.hi (by decide)
    refine E_chnT ev_int (y := .d (.int nm.length)) (E_blt (evv_one (ev_va rfl)) (if_pos hlen)) ?_ ev_int ?_
    · show some (decide ((1 : Int) ≤ nm.length)) = _
      rw [decide_eq_true]; have := h.lo; show (1 : Int) ≤ (nm.cps.size : Nat); omega
    · show some (decide ((nm.length : Int) ≤ 8)) = _
      rw [decide_eq_true]; have := h.hi; show ((nm.cps.size : Nat) : Int) ≤ 8; omega
  have e2 : ev sg_is_name (.strm .isalpha (.var 0)) [.va (.str nm)] S = .ok (.d (.bl true)) S := (E_strm (ev_va rfl)).trans (by rw [show smV .isalpha nm = Txt.isalpha nm from rfl, h.alpha])
  have e3 : ev sg_is_name (.strm .islower (.var 0)) [.va (.str nm)] S = .ok (.d (.bl true)) S := (E_strm (ev_va rfl)).trans (by rw [show smV .islower nm = Txt.islower nm from rfl, h.lower])
  exact run_rt rfl (Xs_rt (X_ret ((E_andT e1).trans ((E_andT e2).trans e3))))
theorem start_spec {ns : List Int} {S : Hs} : F_law_start [.scr (ns.map .int)] S = .ok (.fr (cell ns 0 0 7 19)) S :=
  run_rt rfl (Xs_rt (X_retF (E_lst (evs_cons (E_blt (evv_one (ev_va rfl)) rfl) rfl (evs_cons ev_int rfl (evs_cons ev_int rfl (evs_cons ev_int rfl (evs_cons ev_int rfl evs_nil))))))))
/-- the columns as data, their number of kinds -/
def colD (q : Str × Int) : D := .tup [.str q.1, .int q.2]
def kinds (cols : List (Str × Int)) : Int := cols.foldl (fun m q => m * q.2) 1
theorem kinds_succ {cols : List (Str × Int)} {j : Nat} {q : Str × Int} (h : cols[j]? = some q) : kinds (cols.take (j + 1)) = kinds (cols.take j) * q.2 := by
  unfold kinds
  rw [List.take_add_one, h, List.foldl_append]
  rfl
theorem kinds_spec {cols : List (Str × Int)} {S : Hs} (hs : ∀ j, 0 ≤ kinds (cols.take j) ∧ kinds (cols.take j) < 2 ^ 40) (hv : ∀ q ∈ cols, 0 ≤ q.2 ∧ q.2 < 2 ^ 40) : F_kinds_of [.tup (cols.map colD)] S = .ok (.d (.int (kinds cols))) S := by
  let J : Nat → Rho → Hs → Prop := fun j ρ S' => S' = S ∧ ∃ x2 x3, ρ = [.va (.tup (cols.map colD)), .va (.int (kinds (cols.take j))), x2, x3]
  obtain ⟨ρ', S', e, hS, x2, x3, hρ⟩ := for_st (J := J) (i := 0) (l := cols.map colD) (ρ := [.va (.tup (cols.map colD)), .va (.int 1), .no, .no]) (S := S) (f := fun x ρ S => match setTg (.tup [2, 3]) x ρ with
    | some ρ' => Sf.execs sg_kinds_of (.cons (.set 1 (.bin .Mult (.var 1) (.var 3))) .nil) ρ' S
    | none => .bad) (fun j x ρ S1 hj hJ => by
      obtain ⟨rfl, x2, x3, rfl⟩ := hJ
      rw [List.getElem?_map, Option.map_eq_some_iff] at hj
      obtain ⟨q, hq, rfl⟩ := hj
      have hm : mulOk (kinds (cols.take (0 + j))) q.2 = true := by
        have h1 := hs (0 + j)
        have h2 := hv q (List.mem_of_getElem? hq)
        exact mul_ok 40 40 (by omega) (by omega) (by decide) (by decide) (by decide)
      refine ⟨_, _, Xs_cons (X_set (E_bin (ev_va rfl) (ev_va rfl) (if_pos hm)) rfl) Sf.execs_nil, rfl, .va (.str q.1), .va (.int q.2), ?_⟩
      rw [kinds_succ (j := 0 + j) (by rw [Nat.zero_add]; exact hq)]
      rfl) ⟨rfl, .no, .no, rfl⟩
  subst hS hρ
  rw [show (cols.take (0 + (cols.map colD).length)) = cols from List.take_of_length_le (by simp)] at e
  exact run_rt rfl (Xs_cons (X_set ev_int rfl) (Xs_cons (X_for (I_tup (ev_va rfl)) e) (Xs_rt (X_ret (ev_va rfl)))))
theorem cols_ok {cols : List (Str × Int)} (h : ∀ q ∈ cols, PyData.strOk q.1 = true) : dOk deep (.tup (cols.map colD)) = true := by
  show (cols.map colD).all (dOk 19) = true
  rw [List.all_map, List.all_eq_true]
  intro q hq
  show [D.str q.1, D.int q.2].all (dOk 18) = true
  simp [dOk, h q hq]
theorem cols_eq : ∀ (cols : List (Str × Int)), dEqs (cols.map colD) (cols.map colD) = true
  | [] => rfl
  | q :: r => by
    show (dEq (colD q) (colD q) && dEqs (r.map colD) (r.map colD)) = true
    rw [cols_eq r, Bool.and_true]
    show dEqs [D.str q.1, D.int q.2] [D.str q.1, D.int q.2] = true
    simp [dEqs, dEq]
theorem cols_ne {ρ : Rho} {S : Hs} {cols : List (Str × Int)} (h : ∀ q ∈ cols, PyData.strOk q.1 = true) : cmpV .NotEq ρ S (.d (.tup (cols.map colD))) (.d (.tup (cols.map colD))) = some false := by
  show (if (dOk deep (.tup (cols.map colD)) && dOk deep (.tup (cols.map colD))) = true then some (dEq (.tup (cols.map colD)) (.tup (cols.map colD))) else none).map (!·) = _
  rw [cols_ok h]
  show (some (dEqs (cols.map colD) (cols.map colD))).map (!·) = _
  rw [cols_eq]; rfl
/-- a lot as data -/
def lotD (cols : List (Str × Int)) (ks : List Int) : D := .obj 1 [.tup (cols.map colD), .tup (ks.map .int)]
theorem lotI_spec {cols : List (Str × Int)} {ks : List Int} {S : Hs} : I_Lot_d_init [.tup (cols.map colD), .tup (ks.map .int)] S = .ok [.tup (cols.map colD), .tup (ks.map .int)] S :=
  run_init rfl (Xs_cons (X_fld rfl rfl (ev_va rfl) rfl) (Xs_cons (X_fld rfl rfl (ev_va rfl) rfl) Sf.execs_nil)) rfl rfl
theorem len_spec {cols : List (Str × Int)} {a : List Int} {S : Hs} : F_Lot_d_len [lotD cols a] S = .ok (.d (.int a.length)) S :=
  run_rt rfl (Xs_rt (X_ret (E_blt (evv_one (E_fld (ev_va rfl) rfl rfl)) (by
    show some (Val.d (.int ((a.map D.int).length : Nat))) = _
    rw [List.length_map]))))
theorem has_spec {cols : List (Str × Int)} {a : List Int} {x : Int} {S : Hs} : F_Lot_d_contains [lotD cols a, .int x] S = .ok (.d (.bl (a.any (· == x)))) S :=
  run_rt rfl (Xs_rt (X_ret (E_cmp (ev_va rfl) (E_fld (ev_va rfl) rfl rfl) cmp_inT)))
theorem is_int_spec {i : Int} {S : Hs} : F_law_is_int [.int i] S = .ok (.d (.bl true)) S :=
  run_rt rfl (Xs_rt (X_ret ((E_andT (E_isi (t := .int) (k := .int) (ev_va rfl) rfl rfl)).trans (ev_not (k := false) (E_isi (t := .bool) (k := .int) (ev_va rfl) rfl rfl)))))
/-- 0, 1, .., k - 1 -/
def upto (k : Int) : List Int := (List.range k.toNat).map fun (i : Nat) => (i : Int)
theorem rngL_upto {k : Int} : rngL 0 k.toNat = (upto k).map .int := by
  unfold rngL upto
  rw [List.map_map]
  exact List.map_congr_left fun i _ => by show D.int (0 + (i : Int)) = _; rw [Int.zero_add]; rfl
/-- columns whose numbers stay small -/
structure ColsOk (cols : List (Str × Int)) : Prop where
  str : ∀ q ∈ cols, PyData.strOk q.1 = true
  pre : ∀ j, 0 ≤ kinds (cols.take j) ∧ kinds (cols.take j) < 2 ^ 40
  val : ∀ q ∈ cols, 0 ≤ q.2 ∧ q.2 < 2 ^ 40
  lo : 0 ≤ kinds cols
  hi : kinds cols ≤ 6
theorem ne_bl {ρ : Rho} {S : Hs} {p q : Bool} : cmpV .NotEq ρ S (.d (.bl p)) (.d (.bl q)) = some (p != q) := by cases p <;> cases q <;> rfl
theorem is_lot_spec {cols : List (Str × Int)} {a : List Int} {S : Hs} (hl : a.length < 1000) : F_law_is_lot [lotD cols a, .lst (a.map .int)] S = .ok (.d (.bl true)) S := by
  let A : D := .lst (a.map .int)
  have e1 : ev sg_law_is_lot (.comp (.one 3) [3] (.itm [(1, 1)] (.var 0)) (.var 3)) [.va (lotD cols a), .va A, .no, .no] S = .ok (.fr ((a.map .int).map id)) S :=
    E_each (I_itm (ev_va rfl) rfl rfl) fun x _ => ⟨.d x, ev_va rfl, rfl⟩
  rw [List.map_id] at e1
  have eall : ev sg_law_is_lot (.blt .all (.cons (.comp (.one 3) [3] (.seq (.var 2)) (.call 0 (.cons (.var 3) .nil))) .nil)) [.va (lotD cols a), .va A, .va A, .no] S = .ok (.d (.bl true)) S := by
    refine E_blt (evv_one (E_each (g := fun _ => .bl true) (I_lst (ev_va rfl)) fun x hx => ?_)) ?_
    · obtain ⟨i, _, rfl⟩ := List.mem_map.mp hx
      exact ⟨.d (.bl true), E_call rfl (evs_cons (ev_va rfl) rfl evs_nil) is_int_spec, rfl⟩
    · show ((boolsD ((a.map D.int).map fun _ => D.bl true)).map fun l => Val.d (.bl (l.all id))) = _
      have : ((a.map D.int).map fun _ => D.bl true) = (a.map fun _ => true).map .bl := by rw [List.map_map, List.map_map]; rfl
      rw [this, boolsD_map]
      show some (Val.d (.bl ((a.map fun _ => true).all id))) = _
      rw [List.all_map]
      congr 3
      exact List.all_eq_true.mpr fun _ _ => rfl
  have elen : ev sg_law_is_lot (.lenO 0 (.var 0)) [.va (lotD cols a), .va A, .va A, .no] S = .ok (.d (.int a.length)) S := E_lenO (ev_va rfl) rfl len_spec ⟨by omega, by omega⟩
  have c1 : ev sg_law_is_lot (.or (.cmp .NotEq (.var 2) (.var 1)) (.not (.blt .all (.cons (.comp (.one 3) [3] (.seq (.var 2)) (.call 0 (.cons (.var 3) .nil))) .nil)))) [.va (lotD cols a), .va A, .va A, .no] S = .ok (.d (.bl false)) S :=
    (E_orF (E_cmp (ev_va rfl) (ev_va rfl) ints_ne)).trans (ev_not eall)
  have c2 : ev sg_law_is_lot (.or (.not (.call 0 (.cons (.lenO 0 (.var 0)) .nil))) (.cmp .NotEq (.lenO 0 (.var 0)) (.blt .len (.cons (.var 1) .nil)))) [.va (lotD cols a), .va A, .va A, .no] S = .ok (.d (.bl false)) S := by
    refine (E_orF (ev_not (E_call rfl (evs_cons elen rfl evs_nil) is_int_spec))).trans (E_cmp elen (y := .d (.int a.length)) (E_blt (evv_one (ev_va rfl)) ?_) ?_)
    · show some (Val.d (.int ((a.map D.int).length : Nat))) = _
      rw [List.length_map]
    · show (some ((a.length : Int) == (a.length : Int))).map (!·) = _
      simp
  have el : ∃ K : List Int, ev sg_law_is_lot (.lst (.cons (.neg (.int 2)) (.cons (.neg (.int 1)) (.cons (.int 0) (.cons (.int 1) (.cons (.int 2) (.cons (.int 3) (.cons (.int 4) (.cons (.int 5) (.cons (.int 6) (.cons (.int 7) (.cons (.bin .Pow (.int 10) (.int 12)) .nil)))))))))))) [.va (lotD cols a), .va A, .va A, .no] S = .ok (.fr (K.map .int)) S :=
    ⟨[-2, -1, 0, 1, 2, 3, 4, 5, 6, 7, 10 ^ 12], E_lst (evs_cons (E_neg ev_int) rfl (evs_cons (E_neg ev_int) rfl (evs_cons ev_int rfl (evs_cons ev_int rfl (evs_cons ev_int rfl (evs_cons ev_int rfl (evs_cons ev_int rfl (evs_cons ev_int rfl (evs_cons ev_int rfl (evs_cons ev_int rfl (evs_cons (E_bin (z := .d (.int (10 ^ 12))) ev_int ev_int rfl) rfl evs_nil)))))))))))⟩
  obtain ⟨K, el⟩ := el
  obtain ⟨ρ', S', e, hS, x3, hρ⟩ := for_st (J := fun _ ρ S' => S' = S ∧ ∃ x3, ρ = [.va (lotD cols a), .va A, .va A, x3]) (i := 0) (l := K.map .int) (ρ := [.va (lotD cols a), .va A, .va A, .no]) (S := S) (f := fun x ρ S => match setTg (.one 3) x ρ with
    | some ρ' => Sf.execs sg_law_is_lot (.cons (.ite (.cmp .NotEq (.inO false 1 (.var 3) (.var 0)) (.cmp .In (.var 3) (.var 1))) (.cons (.ret (.bl false)) .nil) .nil) .nil) ρ' S
    | none => .bad) (fun j x ρ S1 hj hJ => by
      obtain ⟨rfl, x3, rfl⟩ := hJ
      rw [List.getElem?_map, Option.map_eq_some_iff] at hj
      obtain ⟨q, hq, rfl⟩ := hj
      have ec : ev sg_law_is_lot (.cmp .NotEq (.inO false 1 (.var 3) (.var 0)) (.cmp .In (.var 3) (.var 1))) [.va (lotD cols a), .va A, .va A, .va (.int q)] S1 = .ok (.d (.bl false)) S1 := by
        refine E_cmp (E_inO (ev_va rfl) (ev_va rfl) rfl has_spec) (E_cmp (ev_va rfl) (ev_va rfl) cmp_inI) ?_
        rw [ne_bl]
        cases a.any (· == q) <;> rfl
      exact ⟨_, _, Xs_cons ((X_iteF ec).trans Sf.execs_nil) Sf.execs_nil, rfl, .va (.int q), rfl⟩) ⟨rfl, .no, rfl⟩
  subst hS hρ
  exact run_rt rfl (Xs_cons (X_set e1 rfl) (Xs_cons ((X_iteF c1).trans Sf.execs_nil) (Xs_cons ((X_iteF c2).trans Sf.execs_nil) (Xs_cons (X_for (I_fr el) e) (Xs_rt (X_ret ev_bl))))))
end
end K01
set_option linter.all false
set_option maxRecDepth 100000
set_option maxHeartbeats 4000000
namespace Sf
open PySem
section
variable {G : Sg} {ρ : Rho} {S S0 : Hs} {a b c : C} {i : Nat} {it : I}
theorem E_or2 {p q : Bool} (ha : ev G a ρ S = .ok (.d (.bl p)) S) (hb : ev G b ρ S = .ok (.d (.bl q)) S) : ev G (.or a b) ρ S = .ok (.d (.bl (p || q))) S := by
  cases p with
  | true => exact E_orT ha
  | false => exact (E_orF ha).trans hb
theorem E_and2 {p q : Bool} (ha : ev G a ρ S = .ok (.d (.bl p)) S) (hb : ev G b ρ S = .ok (.d (.bl q)) S) : ev G (.and a b) ρ S = .ok (.d (.bl (p && q))) S := by
  cases p with
  | false => exact E_andF ha
  | true => exact (E_andT ha).trans hb
/-- all([c for x in ints]) -/
theorem E_allc {l : List Int} {p : Int → Bool} (hi : evI G true it ρ S0 = .ok (l.map .int, none) S)
    (hc : ∀ x ∈ l, ev G c ((wipeR ρ [i]).set i (.va (.int x))) S = .ok (.d (.bl (p x))) S) : ev G (.blt .all (.cons (.comp (.one i) [i] it c) .nil)) ρ S0 = .ok (.d (.bl (l.all p))) S := by
  refine E_blt (evv_one (E_each (g := fun x => match x with
    | .int x => .bl (p x)
    | x => x) hi fun x hx => ?_)) ?_
  · obtain ⟨x, hx2, rfl⟩ := List.mem_map.mp hx
    exact ⟨_, hc x hx2, rfl⟩
  · show ((boolsD ((l.map D.int).map _)).map fun l => Val.d (.bl (l.all id))) = _
    have : ((l.map D.int).map fun x => match x with
      | .int x => D.bl (p x)
      | x => x) = (l.map p).map .bl := by rw [List.map_map, List.map_map]; rfl
    rw [this, boolsD_map]
    show some (Val.d (.bl ((l.map p).all id))) = _
    rw [List.all_map]; rfl
theorem eq_bl {p q : Bool} : cmpV .Eq ρ S (.d (.bl p)) (.d (.bl q)) = some (p == q) := by cases p <;> cases q <;> rfl
/-- the items of a list that a slot owns -/
theorem I_ac {l : List D} (h : ρ[i]? = some (.ac l)) : evI G true (.seq (.var i)) ρ S = .ok (l, none) S := by
  rw [evI, ev_ac h, Res.bind_ok]
  show Res.of ((contL ρ S (.ow i)).map fun l => (l, none)) S = _
  unfold contL
  dsimp only
  rw [h]; rfl
theorem X_retO {l : List D} (h : ρ[i]? = some (.ac l)) : Sf.exec G (.ret (.var i)) ρ S = .rt (.fr l) S := by
  rw [exec_ret, ev_ac h, Res.out_ok]
  dsimp only
  rw [h]
end
end Sf
namespace K01
open PySem Sf
abbrev Sub (K : Int) (a : List Int) : Prop := a.Sublist (upto K)
section
variable {K : Int} {a b : List Int}
theorem upto_mem {x : Int} : x ∈ upto K ↔ 0 ≤ x ∧ x < K := by
  unfold upto
  rw [List.mem_map]
  constructor
  · rintro ⟨i, hi, rfl⟩
    have := List.mem_range.mp hi
    omega
  · rintro ⟨h0, h1⟩
    exact ⟨x.toNat, List.mem_range.mpr (by omega), by omega⟩
theorem upto_lt : (upto K).Pairwise (· < ·) := by
  unfold upto
  rw [List.pairwise_map]
  exact List.pairwise_lt_range.imp fun h => by omega
theorem upto_len : (upto K).length = K.toNat := by unfold upto; rw [List.length_map, List.length_range]
theorem Sub.srt (h : Sub K a) : a.Pairwise (· < ·) := List.Pairwise.sublist h upto_lt
theorem Sub.len (h : Sub K a) : a.length ≤ K.toNat := by rw [← upto_len]; exact h.length_le
theorem Sub.in (h : Sub K a) {x : Int} (hx : x ∈ a) : 0 ≤ x ∧ x < K := upto_mem.mp (h.subset hx)
theorem any_mem {x : Int} : (a.any (· == x)) = true ↔ x ∈ a := by
  rw [List.any_eq_true]
  constructor
  · rintro ⟨y, h, e⟩
    rw [beq_iff_eq] at e
    exact e ▸ h
  · exact fun h => ⟨x, h, beq_self_eq_true x⟩
theorem Sub.filt (h : Sub K a) : ((upto K).filter fun x => a.any (· == x)) = a :=
  srt_uniq (List.Pairwise.sublist List.filter_sublist upto_lt) h.srt fun k => by
    rw [List.mem_filter, any_mem]
    exact ⟨fun h => h.2, fun q => ⟨h.subset q, q⟩⟩
theorem or_eq (ha : Sub K a) (hb : Sub K b) : srtI (a ++ b) = (upto K).filter fun x => a.any (· == x) || b.any (· == x) :=
  srt_uniq (srtI_srt _) (List.Pairwise.sublist List.filter_sublist upto_lt) fun k => by
    rw [srtI_mem, List.mem_filter, List.mem_append, Bool.or_eq_true, any_mem, any_mem]
    exact ⟨fun h => ⟨h.elim (fun q => ha.subset q) (fun q => hb.subset q), h⟩, fun h => h.2⟩
theorem Sub.filter (h : Sub K a) (p : Int → Bool) : Sub K (a.filter p) := List.filter_sublist.trans h
theorem upto_sub (p : Int → Bool) : Sub K ((upto K).filter p) := List.filter_sublist
theorem within_eq : ((((a.filter fun x => b.any (· == x)).length : Nat) : Int) == ((a.length : Nat) : Int)) = a.all fun x => b.any (· == x) := by
  rw [Bool.eq_iff_iff, beq_iff_eq, List.all_eq_true, Int.ofNat_inj, List.length_filter_eq_length_iff]
theorem I_upto {G : Sg} {ρ : Rho} {S S1 : Hs} {e : C} {fx : Bool} (h0 : 0 ≤ K) (h1 : K ≤ 65536) (h : ev G e ρ S = .ok (.d (.int K)) S1) : evI G fx (.rng1 e) ρ S = .ok ((upto K).map .int, none) S1 :=
  I_rng1 h ((rng_ok h0 h1).trans (congrArg some rngL_upto))
end
section
variable {cols : List (Str × Int)} {a b : List Int} {S : Hs}
end
end K01
set_option linter.all false
set_option maxRecDepth 100000
set_option maxHeartbeats 4000000
namespace K01
open PySem Sf
/-- columns with good names, and values -/
structure ColsW (cols : List (Str × Int)) : Prop where
  nm : ∀ q ∈ cols, Letters q.1 ∧ q.1 ≠ ("self" : Str)
  nd : (cols.map (·.1)).Nodup
  vl : ∀ q ∈ cols, 1 ≤ q.2
theorem kinds_go : ∀ (l : List (Str × Int)) (m : Int), l.foldl (fun m q => m * q.2) m = m * kinds l
  | [], m => by show m = m * 1; omega
  | q :: r, m => by
    unfold kinds
    rw [List.foldl_cons, List.foldl_cons, kinds_go r, kinds_go r (1 * q.2), Int.one_mul, Int.mul_assoc]
theorem kinds_app (l r : List (Str × Int)) : kinds (l ++ r) = kinds l * kinds r := by
  unfold kinds
  rw [List.foldl_append, kinds_go]; rfl
theorem kinds_cons (q : Str × Int) (r : List (Str × Int)) : kinds (q :: r) = q.2 * kinds r := by
  show (q :: r).foldl (fun m q => m * q.2) 1 = _
  rw [List.foldl_cons, kinds_go, Int.one_mul]
theorem kinds_pos : ∀ {l : List (Str × Int)}, (∀ q ∈ l, 1 ≤ q.2) → 1 ≤ kinds l
  | [], _ => Int.le_refl 1
  | q :: r, h => by
    rw [kinds_cons]
    have h1 := h q (by simp)
    have h2 := kinds_pos (l := r) fun z hz => h z (by simp [hz])
    have := Int.mul_le_mul h1 h2 (by omega) (by omega)
    omega
theorem le_mul_l {x y : Int} (hx : 1 ≤ x) (hy : 1 ≤ y) : x ≤ x * y := by
  have := Int.mul_le_mul_of_nonneg_left hy (show 0 ≤ x by omega)
  omega
theorem le_mul_r {x y : Int} (hx : 1 ≤ x) (hy : 1 ≤ y) : y ≤ x * y := by
  rw [Int.mul_comm]; exact le_mul_l hy hx
theorem ColsW.take {cols : List (Str × Int)} (h : ColsW cols) (j : Nat) : 1 ≤ kinds (cols.take j) ∧ kinds (cols.take j) ≤ kinds cols := by
  have h1 := kinds_pos (l := cols.take j) fun q hq => h.vl q (List.mem_of_mem_take hq)
  have h2 := kinds_pos (l := cols.drop j) fun q hq => h.vl q (List.mem_of_mem_drop hq)
  have e : kinds cols = kinds (cols.take j) * kinds (cols.drop j) := by rw [← kinds_app, List.take_append_drop]
  exact ⟨h1, by rw [e]; exact le_mul_l h1 h2⟩
theorem ColsW.le {cols : List (Str × Int)} (h : ColsW cols) {q : Str × Int} (hq : q ∈ cols) : q.2 ≤ kinds cols := by
  obtain ⟨s, t, rfl⟩ := List.append_of_mem hq
  rw [kinds_app, kinds_cons]
  have h1 := kinds_pos (l := s) fun q hq => h.vl q (by simp [hq])
  have h2 := kinds_pos (l := t) fun q hq => h.vl q (by simp [hq])
  have h3 := h.vl q (by simp)
  have h4 := le_mul_l h3 h2
  have h5 := le_mul_r h1 (y := q.2 * kinds t) (by omega)
  omega
theorem ColsW.ok {cols : List (Str × Int)} (h : ColsW cols) (h6 : kinds cols ≤ 6) : ColsOk cols where
  str := fun q hq => (h.nm q hq).1.ok
  pre := fun j => by have := h.take j; omega
  val := fun q hq => by have := h.le hq; have := h.vl q hq; omega
  lo := by have := kinds_pos h.vl; omega
  hi := h6
theorem ColsW.snoc {cols : List (Str × Int)} (h : ColsW cols) {nm : Str} {v : Int} (h1 : Letters nm) (h2 : nm ≠ ("self" : Str)) (h3 : nm ∉ cols.map (·.1)) (h4 : 1 ≤ v) : ColsW (cols ++ [(nm, v)]) where
  nm := fun q hq => by
    rcases List.mem_append.mp hq with hq | hq
    · exact h.nm q hq
    · rw [List.mem_singleton] at hq; subst hq; exact ⟨h1, h2⟩
  nd := by
    rw [List.map_append, List.nodup_append]
    refine ⟨h.nd, by simp, fun x hx y hy => ?_⟩
    simp only [List.map_cons, List.map_nil, List.mem_singleton] at hy
    subst hy
    rintro rfl
    exact h3 hx
  vl := fun q hq => by
    rcases List.mem_append.mp hq with hq | hq
    · exact h.vl q hq
    · rw [List.mem_singleton] at hq; subst hq; exact h4
section
variable {S0 S : Hs} {n : Nat} {l : List Int}
theorem names_ev {G : Sg} {ρ : Rho} {S : Hs} {cols : List (Str × Int)} (h : ρ[3]? = some (.ac (cols.map colD))) (hl : 7 < ρ.length) : ev G (.comp (.one 7) [7] (.seq (.var 3)) (.ix (.var 7) (.int 0))) ρ S = .ok (.fr ((cols.map (·.1)).map .str)) S := by
  have e := E_each (G := G) (ρ := ρ) (S := S) (i := 7) (e := .ix (.var 7) (.int 0)) (l := cols.map colD) (g := fun x => match x with
    | .tup (y :: _) => y
    | x => x) (I_ac h) fun x hx => by
      obtain ⟨q, hq, rfl⟩ := List.mem_map.mp hx
      refine ⟨.d (.str q.1), E_ix (ev_va (List.getElem?_set_self (by show 7 < (ρ.set 7 .no).length; rw [List.length_set]; exact hl))) ev_int (ix_tup rfl), rfl⟩
  rw [e, List.map_map, List.map_map]
  rfl
theorem columns_spec {most : Int} (h : StL S0 n l S) (hm : 1 ≤ most) (hm2 : most ≤ 1000) : ∃ cols S', F_law_columns [.loc n, .int most] S = .ok (.fr (cols.map colD)) S' ∧ StL S0 n l S' ∧ ColsW cols ∧ kinds cols ≤ most ∧ 1 ≤ cols.length ∧ cols.length ≤ 3 := by
  obtain ⟨d, S1, e1, i1, d0, d1⟩ := draw_st h (many := 3) (by decide) (by decide)
  obtain ⟨ρ', S', e, i2, cols, room, x5, x6, x7, hρ, hlen, hw, hr, hk⟩ := for_st (J := fun j ρ S' => StL S0 n l S' ∧ ∃ (cols : List (Str × Int)) (room : Int) (x5 x6 x7 : Sl), ρ = [.va (.loc n), .va (.int most), .va (.int (1 + d)), .ac (cols.map colD), .va (.int room), x5, x6, x7] ∧ cols.length = j ∧ ColsW cols ∧ 1 ≤ room ∧ kinds cols * room ≤ most)
    (i := 0) (l := rngL 0 (1 + d).toNat) (ρ := [.va (.loc n), .va (.int most), .va (.int (1 + d)), .ac [], .va (.int most), .no, .no, .no]) (S := S1) (f := fun x ρ S => match setTg (.one 5) x ρ with
    | some ρ' => Sf.execs sg_law_columns (.cons (.set 6 (.bin .Add (.int 1) (.call 0 (.cons (.var 0) (.cons (.var 4) .nil))))) (.cons (.set 4 (.bin .FloorDiv (.var 4) (.var 6))) (.cons (.app 3 (.tup (.cons (.call 1 (.cons (.var 0) (.cons (.comp (.one 7) [7] (.seq (.var 3)) (.ix (.var 7) (.int 0))) .nil))) (.cons (.var 6) .nil)))) .nil))) ρ' S
    | none => .bad) (fun j x ρ S hj hJ => by
      obtain ⟨i, cols, room, x5, x6, x7, rfl, hlen, hw, hr, hk⟩ := hJ
      have hj2 : j < (1 + d).toNat := by
        have := (List.getElem?_eq_some_iff.mp hj).1
        unfold rngL at this
        rw [List.length_map, List.length_range] at this
        exact this
      have hkp := kinds_pos hw.vl
      have hroom := le_mul_r hkp hr
      obtain ⟨q, S2, e2, i2, q0, q1⟩ := draw_st i (many := room) hr (by omega)
      have hdv : room.fdiv (1 + q) = room / (1 + q) := Int.fdiv_eq_ediv_of_nonneg _ (by omega)
      have hr2 : 1 ≤ room.fdiv (1 + q) := by rw [hdv]; exact (Int.le_ediv_iff_mul_le (by omega)).mpr (by omega)
      have hmul : (1 + q) * room.fdiv (1 + q) ≤ room := by rw [hdv, Int.mul_comm]; exact Int.ediv_mul_le _ (by omega)
      obtain ⟨nm, S3, e3, i3, hL, hs, hu⟩ := name_spec (used := cols.map (·.1)) i2 (by rw [List.length_map]; omega) (fun y hy => by
        obtain ⟨c, hc, rfl⟩ := List.mem_map.mp hy
        exact (hw.nm c hc).1.ok)
      refine ⟨_, S3, Xs_cons (X_set (m_add ev_int (E_call rfl (evs_cons (ev_va rfl) rfl (evs_cons (ev_va rfl) rfl evs_nil)) e2)) rfl)
        (Xs_cons (X_set (E_bin (z := .d (.int (room.fdiv (1 + q)))) (ev_va rfl) (ev_va rfl) (if_pos (div_ok 60 (by omega) (by omega) (by decide) (by decide)))) rfl)
        (Xs_cons (X_app (d := colD (nm, 1 + q)) rfl (E_tup (evs_cons (E_call rfl (evs_cons (ev_va rfl) rfl (evs_cons (names_ev rfl (Nat.le_of_ble_eq_true rfl)) rfl evs_nil)) e3) rfl (evs_cons (ev_va rfl) rfl evs_nil))) rfl (by rw [List.length_map]; unfold big; omega)) Sf.execs_nil)), i3, cols ++ [(nm, 1 + q)], room.fdiv (1 + q), _, _, _, by rw [List.map_append]; rfl, by rw [List.length_append, hlen]; rfl, hw.snoc hL hs hu (by omega), hr2, ?_⟩
      rw [kinds_app, kinds_cons]
      show kinds cols * ((1 + q) * 1) * _ ≤ most
      rw [Int.mul_one, Int.mul_assoc]
      exact Int.le_trans (Int.mul_le_mul_of_nonneg_left hmul (by omega)) hk) ⟨i1, [], most, .no, .no, .no, rfl, rfl, ⟨by simp, by simp, by simp⟩, hm, by show (1 : Int) * most ≤ most; omega⟩
  subst hρ
  have hl2 : (rngL 0 (1 + d).toNat).length = (1 + d).toNat := by unfold rngL; rw [List.length_map, List.length_range]
  rw [hl2] at hlen
  have hkp := kinds_pos hw.vl
  refine ⟨cols, S', run_rt rfl (Xs_cons (X_set (m_add ev_int (E_call rfl (evs_cons (ev_va rfl) rfl (evs_cons ev_int rfl evs_nil)) e1)) rfl) (Xs_cons (X_setA (E_lst evs_nil)) (Xs_cons (X_set (ev_va rfl) rfl) (Xs_cons (X_for (I_rng1 (ev_va rfl) (rng_ok (by omega) (by omega))) e) (Xs_rt (X_retO rfl)))))), i2, hw, ?_, by omega, by omega⟩
  have := le_mul_l hkp hr
  omega
end
end K01
set_option linter.all false
set_option maxRecDepth 100000
set_option maxHeartbeats 4000000
namespace K01
open PySem Sf
/-- a list of lists of j values -/
def Cells (j : Nat) (L : List D) : Prop := ∀ x ∈ L, ∃ c : List D, x = .lst c ∧ c.length = j
theorem Cells.app {j : Nat} {L : List D} (h : Cells j L) {c : List D} (hc : c.length = j) : Cells j (L ++ [.lst c]) := fun x hx => by
  rcases List.mem_append.mp hx with hx | hx
  · exact h x hx
  · rw [List.mem_singleton] at hx; subst hx; exact ⟨c, rfl, hc⟩
theorem rngL_len {lo : Int} {k : Nat} : (rngL lo k).length = k := by unfold rngL; rw [List.length_map, List.length_range]
theorem rngL_at {k j : Nat} {x : D} (h : (rngL 0 k)[j]? = some x) : x = .int j ∧ j < k := by
  unfold rngL at h
  rw [List.getElem?_map, Option.map_eq_some_iff] at h
  obtain ⟨i, hi, rfl⟩ := h
  obtain ⟨h1, h2⟩ := List.getElem?_eq_some_iff.mp hi
  rw [List.length_range] at h1
  rw [List.getElem_range] at h2
  subst h2
  exact ⟨by rw [Int.zero_add], h1⟩
theorem atI_nat {l : List D} {j : Nat} {x : D} (h : l[j]? = some x) : L2.atI l (j : Int) = some x := by
  unfold L2.atI L2.ixN
  have := (List.getElem?_eq_some_iff.mp h).1
  rw [if_pos (by omega), if_pos (by omega)]
  exact h
theorem bin_app {ρ : Rho} {S : Hs} {c : List D} {x : D} (h : c.length + 1 ≤ big) : binV .Add ρ S (.d (.lst c)) (.fr [x]) = some (.fr (c ++ [x])) := by
  show (if c.length + [x].length ≤ big then some (Val.fr (c ++ [x])) else none) = _
  exact if_pos h
section
variable {S : Hs} {cols : List (Str × Int)}
theorem cells_spec (hw : ColsW cols) (h6 : kinds cols ≤ 6) (h3 : cols.length ≤ 3) : ∃ L, F_law_cells [.lst (cols.map colD)] S = .ok (.d (.lst L)) S ∧ L.length = (kinds cols).toNat := by
  let A : D := .lst (cols.map colD)
  obtain ⟨ρ', S', e, hS, L, x2, x3, x4, x5, hρ, hL, hC⟩ := for_st (J := fun j ρ S' => S' = S ∧ ∃ (L : List D) (x2 x3 x4 x5 : Sl), ρ = [.va A, .va (.lst L), x2, x3, x4, x5] ∧ L.length = (kinds (cols.take j)).toNat ∧ Cells j L)
    (i := 0) (l := cols.map colD) (ρ := [.va A, .va (.lst [.lst []]), .no, .no, .no, .no]) (S := S) (f := fun x ρ S => match setTg (.one 2) x ρ with
    | some ρ' => Sf.execs sg_law_cells (.cons (.setA 3 (.lst .nil)) (.cons (.forS (.one 4) (.rng1 (.blt .len (.cons (.var 1) .nil))) (.cons (.forS (.one 5) (.rng1 (.ix (.var 2) (.int 1))) (.cons (.app 3 (.bin .Add (.ix (.var 1) (.var 4)) (.lst (.cons (.var 5) .nil)))) .nil)) .nil)) (.cons (.fz 3) (.cons (.set 1 (.var 3)) .nil)))) ρ' S
    | none => .bad) (fun j x ρ S1 hj hJ => by
      obtain ⟨rfl, L, x2, x3, x4, x5, rfl, hL, hC⟩ := hJ
      rw [List.getElem?_map, Option.map_eq_some_iff] at hj
      obtain ⟨q, hq, rfl⟩ := hj
      rw [Nat.zero_add] at hL hC
      have hq1 := hw.vl q (List.mem_of_getElem? hq)
      have hk := hw.take j
      have hk1 := hw.take (j + 1)
      rw [kinds_succ hq] at hk1
      have hv := hw.le (List.mem_of_getElem? hq)
      have hj3 : j < cols.length := (List.getElem?_eq_some_iff.mp hq).1
      -- the number of values
      have hvN : (kinds (cols.take j) * q.2).toNat = L.length * q.2.toNat := by rw [hL, Int.toNat_mul (by omega) (by omega)]
      obtain ⟨ρ2, S2, e2, rfl, M, y4, y5, rfl, hM, hCM⟩ := for_st (J := fun i ρ S' => S' = S1 ∧ ∃ (M : List D) (y4 y5 : Sl), ρ = [.va A, .va (.lst L), .va (colD q), .ac M, y4, y5] ∧ M.length = i * q.2.toNat ∧ Cells (j + 1) M)
        (i := 0) (l := rngL 0 L.length) (ρ := [.va A, .va (.lst L), .va (colD q), .ac [], x4, x5]) (S := S1) (f := fun x ρ S => match setTg (.one 4) x ρ with
        | some ρ' => Sf.execs sg_law_cells (.cons (.forS (.one 5) (.rng1 (.ix (.var 2) (.int 1))) (.cons (.app 3 (.bin .Add (.ix (.var 1) (.var 4)) (.lst (.cons (.var 5) .nil)))) .nil)) .nil) ρ' S
        | none => .bad) (fun i x ρ S2 hi hJ => by
          obtain ⟨rfl, M, y4, y5, rfl, hM, hCM⟩ := hJ
          rw [Nat.zero_add] at hM
          obtain ⟨rfl, hi2⟩ := rngL_at hi
          have hat : L[i]? = some L[i] := List.getElem?_eq_getElem hi2
          obtain ⟨c, hc, hcl⟩ := hC L[i] (List.getElem_mem hi2)
          rw [hc] at hat
          obtain ⟨ρ3, S3, e3, rfl, M3, z5, rfl, hM3, hCM3⟩ := for_st (J := fun t ρ S' => S' = S2 ∧ ∃ (M : List D) (z5 : Sl), ρ = [.va A, .va (.lst L), .va (colD q), .ac M, .va (.int i), z5] ∧ M.length = i * q.2.toNat + t ∧ Cells (j + 1) M)
            (i := 0) (l := rngL 0 q.2.toNat) (ρ := [.va A, .va (.lst L), .va (colD q), .ac M, .va (.int i), y5]) (S := S2) (f := fun x ρ S => match setTg (.one 5) x ρ with
            | some ρ' => Sf.execs sg_law_cells (.cons (.app 3 (.bin .Add (.ix (.var 1) (.var 4)) (.lst (.cons (.var 5) .nil)))) .nil) ρ' S
            | none => .bad) (fun t x ρ S3 ht hJ => by
              obtain ⟨rfl, M, z5, rfl, hM, hCM⟩ := hJ
              rw [Nat.zero_add] at hM
              obtain ⟨rfl, ht2⟩ := rngL_at ht
              have hb : (i + 1) * q.2.toNat ≤ L.length * q.2.toNat := Nat.mul_le_mul_right _ hi2
              have hb2 : i * q.2.toNat + q.2.toNat ≤ 6 := by rw [Nat.add_mul, Nat.one_mul] at hb; omega
              refine ⟨_, _, Xs_cons (X_app (x := .fr (c ++ [.int t])) rfl (E_bin (E_ix (z := .d (.lst c)) (ev_va rfl) (ev_va rfl) (ix_lst (atI_nat hat))) (E_lst (evs_cons (ev_va rfl) rfl evs_nil)) (bin_app (by rw [hcl]; unfold big; omega))) rfl (by unfold big; omega)) Sf.execs_nil, rfl, M ++ [.lst (c ++ [.int t])], _, rfl, by rw [List.length_append, hM, Nat.zero_add]; rfl, hCM.app (by rw [List.length_append, hcl]; rfl)⟩) ⟨rfl, M, y5, rfl, hM, hCM⟩
          rw [rngL_len, Nat.zero_add] at hM3
          refine ⟨_, _, Xs_cons (X_for (I_rng1 (E_ix (z := .d (.int q.2)) (ev_va rfl) ev_int (ix_tup rfl)) (rng_ok (by omega) (by omega))) e3) Sf.execs_nil, rfl, M3, _, _, rfl, by rw [hM3, Nat.zero_add, Nat.add_mul, Nat.one_mul], hCM3⟩) ⟨rfl, [], x4, x5, rfl, by simp, fun x hx => by simp at hx⟩
      rw [rngL_len, Nat.zero_add] at hM
      have hLen : (L.length : Int) ≤ 6 := by omega
      refine ⟨_, _, Xs_cons (X_setA (E_lst evs_nil)) (Xs_cons (X_for (I_rng1 (n := L.length) (l := rngL 0 L.length) (E_blt (evv_one (ev_va rfl)) rfl) ((rng_ok (by omega) (by omega)).trans (by rw [Int.toNat_natCast]))) e2) (Xs_cons (X_fz rfl) (Xs_cons (X_set (ev_va rfl) rfl) Sf.execs_nil))), rfl, M, _, _, _, _, rfl, ?_, by rw [Nat.zero_add]; exact hCM⟩
      rw [Nat.zero_add, kinds_succ hq, hM, hvN]) ⟨rfl, [.lst []], .no, .no, .no, .no, rfl, rfl, fun x hx => by rw [List.mem_singleton] at hx; exact ⟨[], hx, rfl⟩⟩
  subst hS hρ
  rw [List.length_map, Nat.zero_add, List.take_length] at hL
  exact ⟨L, run_rt rfl (Xs_cons (X_set (E_lst (evs_cons (E_lst evs_nil) rfl evs_nil)) rfl) (Xs_cons (X_for (I_lst (ev_va rfl)) e) (Xs_rt (X_ret (ev_va rfl))))), hL⟩
end
end K01
set_option linter.all false
set_option maxRecDepth 100000
set_option maxHeartbeats 4000000
namespace Sf
open PySem
theorem dcnt_nodup {xs : List Str} (h : xs.Nodup) : ∀ {i : Nat}, i ≤ xs.length → dcnt xs i = i
  | 0, _ => rfl
  | i + 1, hi => by
    unfold dcnt
    have hf : ((xs.take i).any (· == xs.getD i Str.empty)) = false := by
      rw [List.any_eq_false]
      intro x hx e
      rw [beq_iff_eq] at e
      obtain ⟨j, hj, e2⟩ := List.mem_iff_getElem.mp hx
      rw [List.length_take] at hj
      rw [List.getElem_take] at e2
      have hg : xs.getD i Str.empty = xs[i] := by rw [List.getD_eq_getElem?_getD, List.getElem?_eq_getElem (by omega)]; rfl
      rw [hg, ← e2] at e
      exact List.pairwise_iff_getElem.mp h j i (by omega) (by omega) (by omega) e
    rw [if_neg (by rw [hf]; decide), dcnt_nodup h (by omega)]
section
variable {G : Sg} {ρ : Rho} {S S0 : Hs} {a b c : C} {i : Nat} {it : I}
theorem cmp_eqI {i j : Int} : cmpV .Eq ρ S (.d (.int i)) (.d (.int j)) = some (i == j) := rfl
/-- len of a list, of a tuple -/
theorem len_lst {l : List D} : bltV .len ρ S [.d (.lst l)] = some (.d (.int l.length)) := rfl
theorem len_tup {l : List D} : bltV .len ρ S [.d (.tup l)] = some (.d (.int l.length)) := rfl
/-- [e for x, y in l], e pure -/
theorem E_eachT {t : Tg} {own : List Nat} {e : C} {l : List D} {g : D → D} (hi : evI G true it ρ S0 = .ok (l, none) S) (hc : ∀ x ∈ l, ∃ ρ' v, setTg t x (wipeR ρ own) = some ρ' ∧ ev G e ρ' S = .ok v S ∧ v.toD = some (g x)) :
    ev G (.comp t own it e) ρ S0 = .ok (.fr (l.map g)) S := by
  have e4 := comp_map (S := S) (acc := []) (f := fun x S => match setTg t x (wipeR ρ own) with
    | some ρ' => (ev G e ρ' S).bind fun y S => match y.toD with
      | some y => .ok (some y) S
      | none => .bad
    | none => .bad) (g := g) (l := l) (fun x hx => by
      obtain ⟨ρ', v, h0, h1, h2⟩ := hc x hx
      rw [h0]
      dsimp only
      rw [h1, Res.bind_ok, h2])
  exact E_comp hi (fun _ _ => rfl) e4
end
end Sf
namespace K01
open PySem Sf
/-- a frame as data -/
def frameD (cols : List (Str × Int)) : D := .obj 2 [.tup (cols.map colD), .int (kinds cols)]
section
variable {S : Hs} {cols : List (Str × Int)}
theorem frameI_spec (hw : ColsW cols) (h6 : kinds cols ≤ 6) (h1 : 1 ≤ cols.length) (h3 : cols.length ≤ 3) : I_Frame_d_init (cols.map colD) S = .ok [.tup (cols.map colD), .int (kinds cols)] S := by
  let A : D := .tup (cols.map colD)
  have hk := hw.ok h6
  have ek : ∀ ρ : Rho, ρ[1]? = some (.va A) → ev sg_Frame_d_init (.call 1 (.cons (.var 1) .nil)) ρ S = .ok (.d (.int (kinds cols))) S := fun ρ h => E_call rfl (evs_cons (ev_va h) rfl evs_nil) (kinds_spec hk.pre hk.val)
  unfold I_Frame_d_init runInitStar
  rw [if_pos ⟨Nat.zero_le _, by rw [List.length_map]; unfold big; omega⟩]
  -- the names
  have e1 : ev sg_Frame_d_init (.comp (.tup [3, 4]) [3, 4] (.seq (.var 1)) (.var 3)) [.ini 2 [], .va A, .no, .no, .no] S = .ok (.fr ((cols.map (·.1)).map .str)) S := by
    have e := E_eachT (G := sg_Frame_d_init) (ρ := [.ini 2 [], .va A, .no, .no, .no]) (S := S) (t := .tup [3, 4]) (own := [3, 4]) (it := .seq (.var 1)) (e := .var 3) (l := cols.map colD) (g := fun x => match x with
      | .tup (y :: _) => y
      | x => x) (I_tup (ev_va rfl)) fun x hx => by
        obtain ⟨q, hq, rfl⟩ := List.mem_map.mp hx
        exact ⟨_, _, rfl, ev_va rfl, rfl⟩
    rw [e, List.map_map, List.map_map]; rfl
  have c1 : ev sg_Frame_d_init (.or (.cmp .Eq (.blt .len (.cons (.var 1) .nil)) (.int 0)) (.or (.cmp .Gt (.blt .len (.cons (.var 1) .nil)) (.gcon "Frame" "MOST_COLUMNS" 3)) (.cmp .Lt (.lenSet (.var 2)) (.blt .len (.cons (.var 2) .nil))))) [.ini 2 [], .va A, .va (.lst ((cols.map (·.1)).map .str)), .no, .no] S = .ok (.d (.bl false)) S := by
    have q1 := E_cmp (G := sg_Frame_d_init) (ρ := [.ini 2 [], .va A, .va (.lst ((cols.map (·.1)).map .str)), .no, .no]) (S := S) (op := .Eq) (E_blt (evv_one (ev_va (i := 1) rfl)) len_tup) (ev_int (k := 0)) cmp_eqI
    have q2 := E_cmp (G := sg_Frame_d_init) (ρ := [.ini 2 [], .va A, .va (.lst ((cols.map (·.1)).map .str)), .no, .no]) (S := S) (op := .Gt) (E_blt (evv_one (ev_va (i := 1) rfl)) len_tup) (E_gcon (x := "Frame") (f := "MOST_COLUMNS") (k := 3)) rfl
    have q3 := E_cmp (G := sg_Frame_d_init) (ρ := [.ini 2 [], .va A, .va (.lst ((cols.map (·.1)).map .str)), .no, .no]) (S := S) (op := .Lt) (E_lenSet (z := .d (.int cols.length)) (ev_va (i := 2) rfl) (by
      show ((strsD ((cols.map (·.1)).map .str)).bind fun l => if l.length ≤ 1000 then some (Val.d (.int (dcnt l l.length))) else none) = _
      rw [strsD_map]
      show (if (cols.map (·.1)).length ≤ 1000 then some (Val.d (.int (dcnt (cols.map (·.1)) (cols.map (·.1)).length))) else none) = _
      rw [dcnt_nodup hw.nd (Nat.le_refl _), List.length_map, if_pos (by omega)])) (E_blt (evv_one (ev_va (i := 2) rfl)) len_lst) rfl
    have q := E_or2 q1 (E_or2 q2 q3)
    rw [q]
    congr 3
    rw [Bool.or_eq_false_iff, Bool.or_eq_false_iff]
    simp only [List.length_map, decide_eq_false_iff_not, beq_eq_false_iff_ne, ne_eq]
    omega
  obtain ⟨ρ2, S2, e2, rfl, x3, x4, rfl⟩ := for_st (J := fun j ρ S' => S' = S ∧ ∃ x3 x4 : Sl, ρ = [.ini 2 [], .va A, .va (.lst ((cols.map (·.1)).map .str)), x3, x4])
    (i := 0) (l := cols.map colD) (ρ := [.ini 2 [], .va A, .va (.lst ((cols.map (·.1)).map .str)), .no, .no]) (S := S) (f := fun x ρ S => match setTg (.tup [3, 4]) x ρ with
    | some ρ' => Sf.execs sg_Frame_d_init (.cons (.ite (.or (.not (.call 0 (.cons (.var 3) .nil))) (.or (.cmp .Eq (.var 3) (.str "self")) (.cmp .Lt (.var 4) (.int 1)))) (.cons (.raise 3 .nil) .nil) .nil) .nil) ρ' S
    | none => .bad) (fun j x ρ S1 hj hJ => by
      obtain ⟨rfl, x3, x4, rfl⟩ := hJ
      rw [List.getElem?_map, Option.map_eq_some_iff] at hj
      obtain ⟨q, hq, rfl⟩ := hj
      have hm := List.mem_of_getElem? hq
      obtain ⟨hL, hs⟩ := hw.nm q hm
      have hv := hw.vl q hm
      have hself : PyData.strOk ("self" : Str) = true := by decide +kernel
      refine ⟨_, _, Xs_cons ((X_iteF ?_).trans Sf.execs_nil) Sf.execs_nil, rfl, .va (.str q.1), .va (.int q.2), rfl⟩
      refine (E_orF (ev_not (k := true) (E_call rfl (evs_cons (ev_va rfl) rfl evs_nil) (is_name_spec hL)))).trans ((E_or2 (E_cmp (ev_va rfl) ev_str (cmp_str hL.ok hself)) (E_cmp (ev_va rfl) ev_int rfl)).trans ?_)
      congr 3
      rw [Bool.or_eq_false_iff]
      exact ⟨beq_eq_false_iff_ne.mpr hs, decide_eq_false (by omega)⟩) ⟨rfl, .no, .no, rfl⟩
  have c3 : ev sg_Frame_d_init (.cmp .Gt (.call 1 (.cons (.var 1) .nil)) (.gcon "Frame" "MOST_KINDS" 6)) [.ini 2 [], .va A, .va (.lst ((cols.map (·.1)).map .str)), x3, x4] S2 = .ok (.d (.bl false)) S2 := by
    refine (E_cmp (ek _ rfl) (E_gcon (k := 6)) rfl).trans ?_
    congr 3
    exact decide_eq_false (by omega)
  have e4 : ev sg_Frame_d_init (.comp (.tup [3, 4]) [3, 4] (.seq (.var 1)) (.tup (.cons (.var 3) (.cons (.var 4) .nil)))) [.ini 2 [], .va A, .va (.lst ((cols.map (·.1)).map .str)), x3, x4] S2 = .ok (.fr (cols.map colD)) S2 := by
    have e := E_eachT (G := sg_Frame_d_init) (ρ := [.ini 2 [], .va A, .va (.lst ((cols.map (·.1)).map .str)), x3, x4]) (S := S2) (t := .tup [3, 4]) (own := [3, 4]) (it := .seq (.var 1)) (e := .tup (.cons (.var 3) (.cons (.var 4) .nil))) (l := cols.map colD) (g := id) (I_tup (ev_va rfl)) fun x hx => by
        obtain ⟨q, hq, rfl⟩ := List.mem_map.mp hx
        exact ⟨_, _, rfl, E_tup (evs_cons (ev_va rfl) rfl (evs_cons (ev_va rfl) rfl evs_nil)), rfl⟩
    rw [List.map_id] at e
    exact e
  exact run_init rfl (Xs_cons (X_set e1 rfl) (Xs_cons ((X_iteF c1).trans Sf.execs_nil) (Xs_cons (X_for (I_tup (ev_va rfl)) e2) (Xs_cons ((X_iteF c3).trans Sf.execs_nil) (Xs_cons (X_fld rfl rfl (E_blt (z := .d A) (evv_one e4) rfl) rfl) (Xs_cons (X_fld rfl rfl (ek _ rfl) rfl) Sf.execs_nil)))))) rfl rfl
theorem frame_spec (hw : ColsW cols) (h6 : kinds cols ≤ 6) (h1 : 1 ≤ cols.length) (h3 : cols.length ≤ 3) : F_law_frame [.lst (cols.map colD)] S = .ok (.d (frameD cols)) S := by
  have hI := frameI_spec (S := S) hw h6 h1 h3
  have hc : ∀ (k : Int), ev sg_law_frame (.cmp .Eq (.blt .len (.cons (.var 0) .nil)) (.int k)) [.va (.lst (cols.map colD))] S = .ok (.d (.bl ((cols.length : Int) == k))) S := fun k => by
    refine (E_cmp (E_blt (evv_one (ev_va rfl)) len_lst) ev_int cmp_eqI).trans ?_
    rw [List.length_map]
  refine run_rt rfl ?_
  have c1 := hc 1
  have c2 := hc 2
  match cols, h1, h3, hI, c1, c2 with
  | [p], _, _, hI, c1, c2 => exact Xs_rt ((X_iteT c1).trans (Xs_rt (X_ret (E_make rfl (evs_cons (E_ix (ev_va rfl) ev_int (ix_lst rfl)) rfl evs_nil) hI))))
  | [p, q], _, _, hI, c1, c2 => exact Xs_cons ((X_iteF c1).trans Sf.execs_nil) (Xs_rt ((X_iteT c2).trans (Xs_rt (X_ret (E_make rfl (evs_cons (E_ix (ev_va rfl) ev_int (ix_lst rfl)) rfl (evs_cons (E_ix (ev_va rfl) ev_int (ix_lst rfl)) rfl evs_nil)) hI)))))
  | [p, q, r], _, _, hI, c1, c2 => exact Xs_cons ((X_iteF c1).trans Sf.execs_nil) (Xs_cons ((X_iteF c2).trans Sf.execs_nil) (Xs_rt (X_ret (E_make rfl (evs_cons (E_ix (ev_va rfl) ev_int (ix_lst rfl)) rfl (evs_cons (E_ix (ev_va rfl) ev_int (ix_lst rfl)) rfl (evs_cons (E_ix (ev_va rfl) ev_int (ix_lst rfl)) rfl evs_nil))) hI))))
  | _ :: _ :: _ :: _ :: r, _, h, _, _, _ => exfalso; simp at h
theorem lot_spec {a : List Int} (h6 : kinds cols ≤ 6) (h0 : 0 ≤ kinds cols) (ha : Sub (kinds cols) a) : F_Frame_lot (frameD cols :: a.map .int) S = .ok (.d (lotD cols a)) S := by
  have hl := ha.len
  refine run_star (Nat.le_add_left _ _) (by rw [List.length_cons, List.length_map]; unfold big; omega) ?_
  let A : D := .tup (a.map .int)
  have ekk : ∀ ρ : Rho, ρ[0]? = some (.va (frameD cols)) → ev sg_Frame_lot (.fld "kinds" [(2, 1)] (.var 0)) ρ S = .ok (.d (.int (kinds cols))) S := fun ρ h => E_fld (ev_va h) rfl rfl
  obtain ⟨ρ2, S2, e2, rfl, x2, rfl⟩ := for_st (J := fun j ρ S' => S' = S ∧ ∃ x2 : Sl, ρ = [.va (frameD cols), .va A, x2])
    (i := 0) (l := a.map .int) (ρ := [.va (frameD cols), .va A, .no]) (S := S) (f := fun x ρ S => match setTg (.one 2) x ρ with
    | some ρ' => Sf.execs sg_Frame_lot (.cons (.ite (.or (.cmp .Lt (.var 2) (.int 0)) (.cmp .GtE (.var 2) (.fld "kinds" [(2, 1)] (.var 0)))) (.cons (.raise 4 (.cons (.var 2) .nil)) .nil) .nil) .nil) ρ' S
    | none => .bad) (fun j x ρ S1 hj hJ => by
      obtain ⟨rfl, x2, rfl⟩ := hJ
      rw [List.getElem?_map, Option.map_eq_some_iff] at hj
      obtain ⟨q, hq, rfl⟩ := hj
      have hb := ha.in (List.mem_of_getElem? hq)
      refine ⟨_, _, Xs_cons ((X_iteF ?_).trans Sf.execs_nil) Sf.execs_nil, rfl, .va (.int q), rfl⟩
      refine (E_or2 (E_cmp (ev_va rfl) ev_int rfl) (E_cmp (ev_va rfl) (ekk _ rfl) rfl)).trans ?_
      congr 3
      rw [Bool.or_eq_false_iff]
      exact ⟨decide_eq_false (by omega), decide_eq_false (by omega)⟩) ⟨rfl, .no, rfl⟩
  have e3 := E_filt (G := sg_Frame_lot) (ρ := [.va (frameD cols), .va A, x2]) (S := S2) (S0 := S2) (i := 2) (it := .rng1 (.fld "kinds" [(2, 1)] (.var 0))) (c := .cmp .In (.var 2) (.var 1)) (l := upto (kinds cols)) (p := fun x => a.any (· == x)) (I_upto h0 (by omega) (ekk _ rfl)) (Nat.le_of_ble_eq_true rfl) fun x _ => E_cmp (ev_va rfl) (ev_va rfl) cmp_inT
  rw [ha.filt] at e3
  exact run_rt rfl (Xs_cons (X_for (I_tup (ev_va rfl)) e2) (Xs_rt (X_ret (E_make rfl (evs_cons (E_fld (ev_va rfl) rfl rfl) rfl (evs_cons (E_blt (evv_one e3) rfl) rfl evs_nil)) lotI_spec))))
end
end K01
end
section
set_option linter.all false
set_option maxRecDepth 100000
set_option maxHeartbeats 4000000
namespace K01
open PySem Sf
def toO : Res Val → Out
  | .ok v S => .rt v S
  | .ex n fs S => .ex n fs S
  | .bad => .bad
def goodR : Res Val → Prop
  | .ok (.d _) _ => True
  | .ex _ _ _ => True
  | _ => False
section
variable {G : Sg} {ρ : Rho} {S S1 : Hs} {c e : C} {p q rest : Ss} {r : Res Val}
theorem run_R {np n : Nat} {ds : List D} (hl : ds.length = np) (hr : goodR r) (h : Sf.execs G p (ds.map .va ++ List.replicate (n - np) .no) S = toO r) : runDef G np n p ds S = r := by
  unfold runDef
  rw [if_pos hl, h]
  match r, hr with
  | .ok (.d _) _, _ => rfl
  | .ex _ _ _, _ => rfl
theorem Xs_retR (hr : goodR r) (h : ev G e ρ S = r) : Sf.execs G (.cons (.ret e) rest) ρ S = toO r := by
  match r, hr, h with
  | .ok (.d _) _, _, h => exact Xs_rt (X_ret h)
  | .ex _ _ _, _, h => exact Xs_ex (X_retX h)
theorem Xs_iteR (hr : goodR r) (hc : ev G c ρ S = .ok (.d (.bl true)) S1) (h : Sf.execs G p ρ S1 = toO r) : Sf.execs G (.cons (.ite c p q) rest) ρ S = toO r := by
  match r, hr, h with
  | .ok (.d _) _, _, h => exact Xs_rt ((X_iteT hc).trans h)
  | .ex _ _ _, _, h => exact Xs_ex ((X_iteT hc).trans h)
theorem Xs_iteN (hc : ev G c ρ S = .ok (.d (.bl false)) S1) : Sf.execs G (.cons (.ite c p .nil) rest) ρ S = Sf.execs G rest ρ S1 := Xs_cons ((X_iteF hc).trans Sf.execs_nil) rfl
theorem X_raiseA {k : Nat} {as : Cs} {ds : List D} (h : evs G as ρ S = .ok ds S1) : Sf.exec G (.raise k as) ρ S = .ex k ds S1 := by rw [Sf.exec, h]; rfl
end
/-- the kinds that are not of the frame -/
def badOf (K : Int) (due : List Int) : List Int := due.filter fun x => decide (x < 0) || decide (K ≤ x)
def lotOf (K : Int) (due : List Int) : List Int := (upto K).filter fun x => due.any (· == x)
section
variable {S : Hs} {cols : List (Str × Int)}
noncomputable def lotF : D → Rho → Hs → Out := fun x ρ S => match setTg (.one 2) x ρ with
    | some ρ' => Sf.execs sg_Frame_lot (.cons (.ite (.or (.cmp .Lt (.var 2) (.int 0)) (.cmp .GtE (.var 2) (.fld "kinds" [(2, 1)] (.var 0)))) (.cons (.raise 4 (.cons (.var 2) .nil)) .nil) .nil) .nil) ρ' S
    | none => .bad
theorem lotF_step {A : Sl} {x : Int} {x2 : Sl} : lotF (.int x) [.va (frameD cols), A, x2] S = if (decide (x < 0) || decide (kinds cols ≤ x)) = true then .ex 4 [.int x] S else .nx [.va (frameD cols), A, .va (.int x)] S := by
  have ekk : ∀ ρ : Rho, ρ[0]? = some (.va (frameD cols)) → ev sg_Frame_lot (.fld "kinds" [(2, 1)] (.var 0)) ρ S = .ok (.d (.int (kinds cols))) S := fun ρ h => E_fld (ev_va h) rfl rfl
  have ec : ev sg_Frame_lot (.or (.cmp .Lt (.var 2) (.int 0)) (.cmp .GtE (.var 2) (.fld "kinds" [(2, 1)] (.var 0)))) [.va (frameD cols), A, .va (.int x)] S = .ok (.d (.bl (decide (x < 0) || decide (kinds cols ≤ x)))) S :=
    E_or2 (E_cmp (ev_va rfl) ev_int rfl) (E_cmp (ev_va rfl) (ekk _ rfl) rfl)
  show Sf.execs sg_Frame_lot _ [.va (frameD cols), A, .va (.int x)] S = _
  cases hb : (decide (x < 0) || decide (kinds cols ≤ x)) with
  | true =>
    rw [hb] at ec
    rw [if_pos rfl]
    exact Xs_ex ((X_iteT ec).trans (Xs_ex (X_raiseA (evs_cons (ev_va rfl) rfl evs_nil))))
  | false =>
    rw [hb] at ec
    rw [if_neg (by decide)]
    exact (Xs_iteN ec).trans Sf.execs_nil
theorem lot_loop {A : Sl} : ∀ (due : List Int) (x2 : Sl), (badOf (kinds cols) due = [] → ∃ x2', forGo none lotF (due.map .int) [.va (frameD cols), A, x2] S = .nx [.va (frameD cols), A, x2'] S) ∧
    (∀ b r, badOf (kinds cols) due = b :: r → forGo none lotF (due.map .int) [.va (frameD cols), A, x2] S = .ex 4 [.int b] S)
  | [], x2 => ⟨fun _ => ⟨x2, by rw [List.map_nil, forGo]⟩, fun b r h => by simp [badOf] at h⟩
  | x :: xs, x2 => by
    have hs := lotF_step (S := S) (cols := cols) (A := A) (x := x) (x2 := x2)
    have ih := lot_loop (A := A) xs (.va (.int x))
    unfold badOf at ih ⊢
    rw [List.filter_cons]
    cases hb : (decide (x < 0) || decide (kinds cols ≤ x)) with
    | true =>
      rw [hb, if_pos rfl] at hs
      rw [if_pos rfl]
      refine ⟨fun h => (by cases h), fun b r h => ?_⟩
      cases h
      exact forGo_ex hs
    | false =>
      rw [hb, if_neg (by decide)] at hs
      rw [if_neg (by decide)]
      refine ⟨fun h => ?_, fun b r h => ?_⟩
      · obtain ⟨x2', e⟩ := ih.1 h
        exact ⟨x2', (forGo_nx hs).trans e⟩
      · exact (forGo_nx hs).trans (ih.2 b r h)
theorem lot_ok {due : List Int} (h6 : kinds cols ≤ 6) (h0 : 0 ≤ kinds cols) (hl : due.length ≤ 9) (hb : badOf (kinds cols) due = []) : F_Frame_lot (frameD cols :: due.map .int) S = .ok (.d (lotD cols (lotOf (kinds cols) due))) S := by
  refine run_star (Nat.le_add_left _ _) (by rw [List.length_cons, List.length_map]; unfold big; omega) ?_
  let A : D := .tup (due.map .int)
  have ekk : ∀ ρ : Rho, ρ[0]? = some (.va (frameD cols)) → ev sg_Frame_lot (.fld "kinds" [(2, 1)] (.var 0)) ρ S = .ok (.d (.int (kinds cols))) S := fun ρ h => E_fld (ev_va h) rfl rfl
  obtain ⟨x2, e2⟩ := (lot_loop (S := S) (A := .va A) due .no).1 hb
  have e3 := E_filt (G := sg_Frame_lot) (ρ := [.va (frameD cols), .va A, x2]) (S := S) (S0 := S) (i := 2) (it := .rng1 (.fld "kinds" [(2, 1)] (.var 0))) (c := .cmp .In (.var 2) (.var 1)) (l := upto (kinds cols)) (p := fun x => due.any (· == x)) (I_upto h0 (by omega) (ekk _ rfl)) (Nat.le_of_ble_eq_true rfl) fun x _ => E_cmp (ev_va rfl) (ev_va rfl) cmp_inT
  exact run_rt rfl (Xs_cons (X_for (I_tup (ev_va rfl)) e2) (Xs_rt (X_ret (E_make rfl (evs_cons (E_fld (ev_va rfl) rfl rfl) rfl (evs_cons (E_blt (evv_one e3) rfl) rfl evs_nil)) lotI_spec))))
theorem lot_bad {due : List Int} {b : Int} {r : List Int} (hl : due.length ≤ 9) (hb : badOf (kinds cols) due = b :: r) : F_Frame_lot (frameD cols :: due.map .int) S = .ex 4 [.int b] S := by
  refine run_star (Nat.le_add_left _ _) (by rw [List.length_cons, List.length_map]; unfold big; omega) ?_
  exact run_ex rfl (Xs_ex (X_for (I_tup (ev_va rfl)) ((lot_loop (S := S) (A := .va (.tup (due.map .int))) due .no).2 b r hb)))
/-- one of the law's five ways to ask -/
theorem call_spec {asked : List Int} {m : Nat} {many : Nat} {r : Res Val} (hr : goodR r) (ha : asked.length = 9) (hS : S[m]? = some (asked.map .int)) (hm : many = 0 ∨ many = 1 ∨ many = 3 ∨ many = 6 ∨ many = 9)
    (h : F_Frame_lot (frameD cols :: (asked.take many).map .int) S = r) : F_law_call [frameD cols, .loc m, .int many] S = r := by
  match asked, ha with
  | [a0, a1, a2, a3, a4, a5, a6, a7, a8], _ =>
    have ec : ∀ (k : Int), ev sg_law_call (.cmp .Eq (.var 2) (.int k)) [.va (frameD cols), .va (.loc m), .va (.int many), .no] S = .ok (.d (.bl ((many : Int) == k))) S := fun k => E_cmp (ev_va rfl) ev_int cmp_eqI
    refine run_R rfl hr ?_
    rcases hm with rfl | rfl | rfl | rfl | rfl
    · exact Xs_iteR hr (ec 0) (Xs_retR hr (E_meth (ev_va rfl) rfl evs_nil h))
    · exact (Xs_iteN (ec 0)).trans (Xs_iteR hr (ec 1) (Xs_retR hr (E_meth (ev_va rfl) rfl (evs_cons (E_ix (ev_va rfl) ev_int (ix_loc hS rfl)) rfl evs_nil) h)))
    · exact (Xs_iteN (ec 0)).trans ((Xs_iteN (ec 1)).trans (Xs_iteR hr (ec 3) (Xs_retR hr (E_meth (ev_va rfl) rfl (evs_cons (E_ix (ev_va rfl) ev_int (ix_loc hS rfl)) rfl (evs_cons (E_ix (ev_va rfl) ev_int (ix_loc hS rfl)) rfl (evs_cons (E_ix (ev_va rfl) ev_int (ix_loc hS rfl)) rfl evs_nil))) h))))
    · exact (Xs_iteN (ec 0)).trans ((Xs_iteN (ec 1)).trans ((Xs_iteN (ec 3)).trans (Xs_iteR hr (ec 6) (Xs_retR hr (E_meth (ev_va rfl) rfl (evs_cons (E_ix (ev_va rfl) ev_int (ix_loc hS rfl)) rfl (evs_cons (E_ix (ev_va rfl) ev_int (ix_loc hS rfl)) rfl (evs_cons (E_ix (ev_va rfl) ev_int (ix_loc hS rfl)) rfl
        (evs_cons (E_ix (ev_va rfl) ev_int (ix_loc hS rfl)) rfl (evs_cons (E_ix (ev_va rfl) ev_int (ix_loc hS rfl)) rfl (evs_cons (E_ix (ev_va rfl) ev_int (ix_loc hS rfl)) rfl evs_nil)))))) h)))))
    · exact (Xs_iteN (ec 0)).trans ((Xs_iteN (ec 1)).trans ((Xs_iteN (ec 3)).trans ((Xs_iteN (ec 6)).trans (Xs_cons (X_set (ev_va rfl) rfl) (Xs_retR hr (E_meth (ev_va rfl) rfl (evs_cons (E_ix (ev_va rfl) ev_int (ix_loc hS rfl)) rfl (evs_cons (E_ix (ev_va rfl) ev_int (ix_loc hS rfl)) rfl (evs_cons (E_ix (ev_va rfl) ev_int (ix_loc hS rfl)) rfl
        (evs_cons (E_ix (ev_va rfl) ev_int (ix_loc hS rfl)) rfl (evs_cons (E_ix (ev_va rfl) ev_int (ix_loc hS rfl)) rfl (evs_cons (E_ix (ev_va rfl) ev_int (ix_loc hS rfl)) rfl (evs_cons (E_ix (ev_va rfl) ev_int (ix_loc hS rfl)) rfl (evs_cons (E_ix (ev_va rfl) ev_int (ix_loc hS rfl)) rfl (evs_cons (E_ix (ev_va rfl) ev_int (ix_loc hS rfl)) rfl evs_nil))))))))) h))))))
theorem ne_nil {ρ : Rho} {bad : List Int} : cmpV .NotEq ρ S (.d (.lst (bad.map .int))) (.fr []) = some (!bad.isEmpty) := by
  have hd := ints_ok bad
  show (eqV ρ S (.d (.lst (bad.map .int))) (.fr [])).map (!·) = _
  unfold eqV
  show (if (dOk deep (.lst (bad.map .int)) && dOk deep (.lst [])) = true then some (dEq (.lst (bad.map .int)) (.lst [])) else none).map (!·) = _
  rw [hd, show dOk deep (.lst []) = true from rfl, Bool.and_self, if_pos rfl]
  cases bad <;> rfl
theorem holds_spec {asked : List Int} {m many : Nat} (hw : ColsW cols) (h6 : kinds cols ≤ 6) (ha : asked.length = 9) (hS : S[m]? = some (asked.map .int)) (hm : many = 0 ∨ many = 1 ∨ many = 3 ∨ many = 6 ∨ many = 9) :
    F_law_holds [frameD cols, .int (kinds cols), .loc m, .int many] S = .ok (.d (.bl true)) S := by
  have hp := kinds_pos hw.vl
  let due := asked.take many
  have hdl : due.length ≤ 9 := by rw [List.length_take]; omega
  let bad := badOf (kinds cols) due
  have s1 : Sf.exec sg_law_holds (.set 4 (.slc (.var 2) .no (.so (.var 3)))) [.va (frameD cols), .va (.int (kinds cols)), .va (.loc m), .va (.int many), .no, .no, .no, .no, .no] S = .nx [.va (frameD cols), .va (.int (kinds cols)), .va (.loc m), .va (.int many), .va (.lst (due.map .int)), .no, .no, .no, .no] S := by
    refine X_set (x := .fr (due.map .int)) (E_slc (ev_va rfl) O_no (O_so (ev_va rfl)) ((slc_loc hS).trans ?_)) rfl
    rw [cut_pre (by rw [List.length_map]; omega), ← List.map_take]
  have s2 : Sf.exec sg_law_holds (.set 5 (.compIf (.one 7) [7] (.seq (.var 4)) (.or (.cmp .Lt (.var 7) (.int 0)) (.cmp .GtE (.var 7) (.var 1))) (.var 7))) [.va (frameD cols), .va (.int (kinds cols)), .va (.loc m), .va (.int many), .va (.lst (due.map .int)), .no, .no, .no, .no] S = .nx [.va (frameD cols), .va (.int (kinds cols)), .va (.loc m), .va (.int many), .va (.lst (due.map .int)), .va (.lst (bad.map .int)), .no, .no, .no] S :=
    X_set (E_filt (I_lst (ev_va rfl)) (Nat.le_of_ble_eq_true rfl) fun x _ => E_or2 (E_cmp (ev_va rfl) ev_int rfl) (E_cmp (ev_va rfl) (ev_va rfl) rfl)) rfl
  cases hb : bad with
  | nil =>
    have e3 := call_spec (r := .ok (.d (lotD cols (lotOf (kinds cols) due))) S) trivial ha hS hm (lot_ok h6 (by omega) hdl hb)
    let R : Rho := [.va (frameD cols), .va (.int (kinds cols)), .va (.loc m), .va (.int many), .va (.lst (due.map .int)), .va (.lst (bad.map .int)), .va (lotD cols (lotOf (kinds cols) due)), .no, .no]
    have ec : ev sg_law_holds (.or (.cmp .NotEq (.var 5) (.lst .nil)) (.not (.isi (.own 1) [1] (.var 6)))) R S = .ok (.d (.bl false)) S := by
      have q1 : ev sg_law_holds (.cmp .NotEq (.var 5) (.lst .nil)) R S = .ok (.d (.bl (!bad.isEmpty))) S := E_cmp (ev_va rfl) (E_lst evs_nil) ne_nil
      rw [hb] at q1
      exact (E_orF q1).trans (ev_not (k := true) (E_isi (t := .own 1) (k := .obj 1) (ev_va rfl) rfl rfl))
    have hsub : (lotOf (kinds cols) due).length < 1000 := by
      have := (upto_sub (K := kinds cols) fun x => due.any (· == x)).len
      unfold lotOf
      omega
    exact run_rt rfl (Xs_cons s1 (Xs_cons s2 (Xs_cons (X_tryT (F := F_law_call) rfl (evs_cons (ev_va rfl) rfl (evs_cons (ev_va rfl) rfl (evs_cons (ev_va rfl) rfl evs_nil))) e3 rfl)
      (Xs_cons ((X_iteF ec).trans Sf.execs_nil) (Xs_rt (X_ret (E_call rfl (evs_cons (ev_va rfl) rfl (evs_cons (E_filt (I_upto (by omega) (by omega) (ev_va rfl)) (Nat.le_of_ble_eq_true rfl) fun x _ => E_cmp (ev_va rfl) (ev_va rfl) cmp_inI) rfl evs_nil)) (is_lot_spec hsub))))))))
  | cons b r =>
    have e3 := call_spec (r := .ex 4 [.int b] S) trivial ha hS hm (lot_bad hdl hb)
    let R : Rho := [.va (frameD cols), .va (.int (kinds cols)), .va (.loc m), .va (.int many), .va (.lst (due.map .int)), .va (.lst (bad.map .int)), .no, .no, .no]
    refine run_rt rfl (Xs_cons s1 (Xs_cons s2 (Xs_rt (X_tryE (n := 4) (fs := [.int b]) (bs := [false, false, false, false, true, false, false, false, false, false]) (r := true) (F := F_law_call) rfl (evs_cons (ev_va rfl) rfl (evs_cons (ev_va rfl) rfl (evs_cons (ev_va rfl) rfl evs_nil))) e3 rfl rfl ?_))))
    have a1 : haV sg_law_holds mst 4 [.int b] (.pur (.cmp .NotEq (.var 5) (.lst .nil))) R S = .ok true S := by
      have q1 : ev sg_law_holds (.cmp .NotEq (.var 5) (.lst .nil)) R S = .ok (.d (.bl (!bad.isEmpty))) S := E_cmp (ev_va rfl) (E_lst evs_nil) ne_nil
      rw [hb] at q1
      simp only [haV]
      rw [q1, Res.bind_ok]; rfl
    have a2 : haV sg_law_holds mst 4 [.int b] (.one (.int 4)) R S = .ok true S := by
      simp only [haV]
      rw [ev_int, Res.bind_ok]; rfl
    have a3 : haV sg_law_holds mst 4 [.int b] (.int "kind" [(4, 0)]) R S = .ok true S := by
      simp only [haV]; rfl
    have a4 : haV sg_law_holds mst 4 [.int b] (.feq "kind" [(4, 0)] (.ix (.var 5) (.int 0))) R S = .ok true S := by
      have q : ev sg_law_holds (.ix (.var 5) (.int 0)) R S = .ok (.d (.int b)) S := E_ix (ev_va rfl) ev_int (ix_lst (by rw [hb]; exact atI_nat (j := 0) rfl))
      simp only [haV]
      rw [q]
      show (match eqV R S (.d (.int b)) (.d (.int b)) with
        | some b => Res.ok b S
        | none => .bad) = _
      rw [eqV_int, beq_self_eq_true]
    have h4 : hdV sg_law_holds mst 4 [.int b] [.feq "kind" [(4, 0)] (.ix (.var 5) (.int 0))] R S = .ok true S := by simp only [hdV]; exact a4
    have h3 : hdV sg_law_holds mst 4 [.int b] [.int "kind" [(4, 0)], .feq "kind" [(4, 0)] (.ix (.var 5) (.int 0))] R S = .ok true S := by
      rw [hdV, a3, Res.bind_ok, if_pos rfl]
      exact h4
      exact fun h => by cases h
    have h2 : hdV sg_law_holds mst 4 [.int b] [.one (.int 4), .int "kind" [(4, 0)], .feq "kind" [(4, 0)] (.ix (.var 5) (.int 0))] R S = .ok true S := by
      rw [hdV, a2, Res.bind_ok, if_pos rfl]
      exact h3
      exact fun h => by cases h
    show hdV sg_law_holds mst 4 [.int b] [.pur (.cmp .NotEq (.var 5) (.lst .nil)), .one (.int 4), .int "kind" [(4, 0)], .feq "kind" [(4, 0)] (.ix (.var 5) (.int 0))] R S = .ok true S
    rw [hdV, a1, Res.bind_ok, if_pos rfl]
    exact h2
    exact fun h => by cases h
end
end K01
end
section
set_option linter.all false
set_option maxRecDepth 100000
set_option maxHeartbeats 4000000
namespace K01
open PySem Sf
theorem ints_of : ∀ {ys : List D}, (∀ y ∈ ys, ∃ i : Int, y = .int i) → ∃ as : List Int, ys = as.map .int
  | [], _ => ⟨[], rfl⟩
  | y :: r, h => by
    obtain ⟨i, rfl⟩ := h y (by simp)
    obtain ⟨as, rfl⟩ := ints_of (ys := r) fun z hz => h z (List.mem_cons_of_mem _ hz)
    exact ⟨i :: as, rfl⟩
theorem StL.app {S0 S : Hs} {n : Nat} {l : List Int} {x : List D} (h : StL S0 n l S) : StL (S0 ++ [x]) n l (S ++ [x]) := by
  obtain ⟨p, b, a, c, rfl, hn, ok⟩ := h
  refine ⟨p, b, a, c, ?_, by rw [List.length_append]; omega, ok⟩
  rw [List.set_append_left _ _ hn]
theorem StL.two {c a : List D} {l : List Int} {S : Hs} (h : StL [c, a] 0 l S) : S[1]? = some a ∧ S.length = 2 ∧ ∀ x, StL [c, x] 0 l (S.set 1 x) := by
  obtain ⟨p, b, a', c', rfl, hn, ok⟩ := h
  exact ⟨rfl, rfl, fun x => ⟨p, b, a', c', rfl, by simp, ok⟩⟩
theorem StL.keep {S0 S : Hs} {n m : Nat} {l : List Int} (h : StL S0 n l S) (hm : m ≠ n) : S[m]? = S0[m]? := by
  obtain ⟨p, b, a', c', rfl, hn, ok⟩ := h
  exact List.getElem?_set_ne (Ne.symm hm)
section
variable {S0 : Hs} {n : Nat} {l : List Int}
theorem draws_spec {ρ : Rho} {S : Hs} {e2 : C} {k many : Int} (h : StL S0 n l S) (h1 : ρ[1]? = some (.va (.loc n))) (hm : 1 ≤ many) (hm2 : many < 2 ^ 60) (hk : 0 ≤ k) (hk2 : k ≤ 1000)
    (he : ∀ x S, ev sg_law e2 ((wipeR ρ [10]).set 10 x) S = .ok (.d (.int many)) S) :
    ∃ (as : List Int) (S' : Hs), ev sg_law (.comp (.one 10) [10] (.rng1 (.int k)) (.call 5 (.cons (.var 1) (.cons e2 .nil)))) ρ S = .ok (.fr (as.map .int)) S' ∧ StL S0 n l S' ∧ as.length = k.toNat := by
  let f : D → Hs → Res (Option D) := fun x S => match setTg (.one 10) x (wipeR ρ [10]) with
    | some ρ' => (ev sg_law (.call 5 (.cons (.var 1) (.cons e2 .nil))) ρ' S).bind fun y S => match y.toD with
      | some y => .ok (some y) S
      | none => .bad
    | none => .bad
  have h1' : ∀ x, ((wipeR ρ [10]).set 10 x)[1]? = some (.va (.loc n)) := fun x => by
    show ((ρ.set 10 .no).set 10 x)[1]? = _
    rw [List.getElem?_set_ne (by decide), List.getElem?_set_ne (by decide), h1]
  obtain ⟨ys, S', e, i, hP, hl⟩ := comp_st (Iv := StL S0 n l) (P := fun y => ∃ i : Int, y = .int i) (f := f) (l := rngL 0 k.toNat) (fun x hx S hS => by
    obtain ⟨d, S1, e1, i1, d0, d1⟩ := draw_st hS hm hm2
    refine ⟨.int d, S1, ?_, i1, d, rfl⟩
    show (match setTg (.one 10) x (wipeR ρ [10]) with
    | some ρ' => (ev sg_law (.call 5 (.cons (.var 1) (.cons e2 .nil))) ρ' S).bind fun y S => match y.toD with
      | some y => Res.ok (some y) S
      | none => .bad
    | none => .bad) = _
    show ((ev sg_law (.call 5 (.cons (.var 1) (.cons e2 .nil))) ((wipeR ρ [10]).set 10 (.va x)) S).bind fun y S => match y.toD with
      | some y => Res.ok (some y) S
      | none => .bad) = _
    rw [E_call rfl (evs_cons (ev_va (h1' _)) rfl (evs_cons (he _ _) rfl evs_nil)) e1, Res.bind_ok]; rfl) h (acc := [])
  obtain ⟨as, rfl⟩ := ints_of hP
  refine ⟨as, S', E_comp (f := f) (I_rng1 ev_int (rng_ok hk (by omega))) (fun _ _ => rfl) e, i, ?_⟩
  rw [List.length_map, rngL_len] at hl
  exact hl
end
theorem plain (ns : List Int) (h : ns.length ≤ 63) : ∃ S', F_law [.scr (ns.map .int)] [] = .ok (.d (.bl true)) S' := by
  have i0 : StL [cell ns 0 0 7 19] 0 ns [cell ns 0 0 7 19] := ⟨0, 0, 7, 19, rfl, by simp, ⟨by omega, by omega, by omega, by omega, by omega, by omega⟩⟩
  obtain ⟨cols, S1, e1, i1, hw, h6, hl1, hl3⟩ := columns_spec i0 (most := 6) (by decide) (by decide)
  have hp := kinds_pos hw.vl
  obtain ⟨L, e2, hL⟩ := cells_spec (S := S1) hw h6 hl3
  have hLk : ((L.length : Nat) : Int) = kinds cols := by omega
  have hf := frame_spec (S := S1) hw h6 hl1 hl3
  let A0 : Sl := .va (.scr (ns.map .int))
  let A2 : Sl := .va (.lst (cols.map colD))
  let A3 : Sl := .va (.int (kinds cols))
  let A4 : Sl := .va (frameD cols)
  have s3 : ev sg_law (.blt .len (.cons (.call 2 (.cons (.var 2) .nil)) .nil)) [A0, .va (.loc 0), A2, .no, .no, .no, .no, .no, .no, .no, .no] S1 = .ok (.d (.int (kinds cols))) S1 := by
    rw [← hLk]
    exact E_blt (evv_one (E_call rfl (evs_cons (ev_va rfl) rfl evs_nil) e2)) len_lst
  have ef : ev sg_law (.fld "kinds" [(2, 1)] (.var 4)) [A0, .va (.loc 0), A2, A3, A4, .no, .no, .no, .no, .no, .no] S1 = .ok (.d (.int (kinds cols))) S1 := E_fld (ev_va rfl) rfl rfl
  have ec : ev sg_law (.or (.not (.call 4 (.cons (.fld "kinds" [(2, 1)] (.var 4)) .nil))) (.cmp .NotEq (.fld "kinds" [(2, 1)] (.var 4)) (.var 3))) [A0, .va (.loc 0), A2, A3, A4, .no, .no, .no, .no, .no, .no] S1 = .ok (.d (.bl false)) S1 := by
    refine ((E_orF (ev_not (k := true) (E_call rfl (evs_cons ef rfl evs_nil) is_int_spec))).trans (E_cmp ef (ev_va rfl) (k := !(kinds cols == kinds cols)) rfl)).trans ?_
    rw [beq_self_eq_true]; rfl
  obtain ⟨as, S2, e4, i2, la⟩ := draws_spec (ρ := [A0, .va (.loc 0), A2, A3, A4, .no, .no, .no, .no, .no, .no]) (e2 := .var 3) (k := 6) i1 rfl hp (by omega) (by decide) (by decide) (fun x S => ev_va rfl)
  have i3 : StL [cell ns 0 0 7 19, as.map .int] 0 ns (S2 ++ [as.map .int]) := i2.app (x := as.map .int)
  have hlen2 : S2.length = 1 := by
    obtain ⟨p, b, a', c', rfl, hn, ok⟩ := i2
    rfl
  -- the two turns
  obtain ⟨ρ', S3, e5, asked, x6, x8, x9, rfl, l6, i4⟩ := for_st (J := fun j ρ S' => ∃ (asked : List Int) (x6 x8 x9 : Sl), ρ = [A0, .va (.loc 0), A2, A3, A4, .va (.loc 1), x6, .no, x8, x9, .no] ∧ asked.length = 6 ∧ StL [cell ns 0 0 7 19, asked.map .int] 0 ns S')
    (i := 0) (l := rngL 0 (2 : Int).toNat) (ρ := [A0, .va (.loc 0), A2, A3, A4, .va (.loc 1), .no, .no, .no, .no, .no]) (S := S2 ++ [as.map .int]) (f := fun x ρ S => match setTg (.one 6) x ρ with
    | some ρ' => Sf.execs sg_law (.cons (.set 8 (.call 5 (.cons (.var 1) (.cons (.int 12) .nil)))) (.cons (.ite (.cmp .Lt (.var 8) (.int 6)) (.cons (.set 9 (.lst (.cons (.neg (.int 1)) (.cons (.var 3) (.cons (.bin .Add (.bin .Add (.var 3) (.int 1)) (.call 5 (.cons (.var 1) (.cons (.bin .Pow (.int 10) (.int 9)) .nil)))) (.cons (.bin .Sub (.neg (.int 2)) (.call 5 (.cons (.var 1) (.cons (.bin .Pow (.int 10) (.int 9)) .nil)))) .nil)))))) (.cons (.setLoc (.var 5) (.var 8) (.ix (.var 9) (.call 5 (.cons (.var 1) (.cons (.int 4) .nil))))) .nil)) .nil) .nil)) ρ' S
    | none => .bad) (fun j x ρ S hj hJ => by
      obtain ⟨asked, x6, x8, x9, rfl, l6, i⟩ := hJ
      obtain ⟨d, S1, e1, i1, d0, d1⟩ := draw_st i (many := 12) (by decide) (by decide)
      have s1 : Sf.exec sg_law (.set 8 (.call 5 (.cons (.var 1) (.cons (.int 12) .nil)))) [A0, .va (.loc 0), A2, A3, A4, .va (.loc 1), .va x, .no, x8, x9, .no] S = .nx [A0, .va (.loc 0), A2, A3, A4, .va (.loc 1), .va x, .no, .va (.int d), x9, .no] S1 :=
        X_set (E_call rfl (evs_cons (ev_va rfl) rfl (evs_cons ev_int rfl evs_nil)) e1) rfl
      have ec : ev sg_law (.cmp .Lt (.var 8) (.int 6)) [A0, .va (.loc 0), A2, A3, A4, .va (.loc 1), .va x, .no, .va (.int d), x9, .no] S1 = .ok (.d (.bl (decide (d < 6)))) S1 := E_cmp (ev_va rfl) ev_int rfl
      by_cases hd : d < 6
      · rw [decide_eq_true hd] at ec
        obtain ⟨u, S2, e2, i2, u0, u1⟩ := draw_st i1 (many := 10 ^ 9) (by decide) (by decide)
        obtain ⟨v, S3, e3, i3, v0, v1⟩ := draw_st i2 (many := 10 ^ 9) (by decide) (by decide)
        obtain ⟨q, S4, e4, i4, q0, q1⟩ := draw_st i3 (many := 4) (by decide) (by decide)
        have pw : ∀ {ρ : Rho} {S : Hs}, ev sg_law (.bin .Pow (.int 10) (.int 9)) ρ S = .ok (.d (.int (10 ^ 9))) S := E_bin ev_int ev_int rfl
        let st : List Int := [-1, kinds cols, kinds cols + 1 + u, -2 - v]
        have s2 : Sf.exec sg_law (.set 9 (.lst (.cons (.neg (.int 1)) (.cons (.var 3) (.cons (.bin .Add (.bin .Add (.var 3) (.int 1)) (.call 5 (.cons (.var 1) (.cons (.bin .Pow (.int 10) (.int 9)) .nil)))) (.cons (.bin .Sub (.neg (.int 2)) (.call 5 (.cons (.var 1) (.cons (.bin .Pow (.int 10) (.int 9)) .nil)))) .nil)))))) [A0, .va (.loc 0), A2, A3, A4, .va (.loc 1), .va x, .no, .va (.int d), x9, .no] S1 = .nx [A0, .va (.loc 0), A2, A3, A4, .va (.loc 1), .va x, .no, .va (.int d), .va (.lst (st.map .int)), .no] S3 :=
          X_set (x := .fr (st.map .int)) (E_lst (evs_cons (E_neg ev_int) rfl (evs_cons (ev_va rfl) rfl (evs_cons (m_add (m_add (ev_va rfl) ev_int) (E_call rfl (evs_cons (ev_va rfl) rfl (evs_cons pw rfl evs_nil)) e2)) rfl (evs_cons (E_bin (E_neg ev_int) (E_call rfl (evs_cons (ev_va rfl) rfl (evs_cons pw rfl evs_nil)) e3) rfl) rfl evs_nil))))) rfl
        obtain ⟨g1, g2, g3⟩ := i4.two
        have hj : L2.ixN (asked.map D.int).length d = some d.toNat := by
          unfold L2.ixN
          rw [if_pos d0, if_pos (by rw [List.length_map, l6]; omega)]
        have s3 := X_setLocG (G := sg_law) (ρ := [A0, .va (.loc 0), A2, A3, A4, .va (.loc 1), .va x, .no, .va (.int d), .va (.lst (st.map .int)), .no]) (S := S3) (o := .var 5) (k := .var 8) (e := .ix (.var 9) (.call 5 (.cons (.var 1) (.cons (.int 4) .nil))))
          (E_ix (ev_va rfl) (E_call rfl (evs_cons (ev_va rfl) rfl (evs_cons ev_int rfl evs_nil)) e4) (ix_lst (at_nat q0 (by show q < 4; exact q1)))) rfl (ev_va rfl) (ev_va rfl) g1 hj
        refine ⟨_, _, Xs_cons s1 (Xs_cons ((X_iteT ec).trans (Xs_cons s2 (Xs_cons s3 Sf.execs_nil))) Sf.execs_nil), asked.set d.toNat (st.getD q.toNat 0), _, _, _, rfl, by rw [List.length_set]; exact l6, ?_⟩
        rw [List.map_set]
        exact g3 _
      · rw [decide_eq_false hd] at ec
        exact ⟨_, _, Xs_cons s1 ((Xs_iteN ec).trans Sf.execs_nil), asked, _, _, _, rfl, l6, i1⟩) ⟨as, .no, .no, .no, rfl, la, i3⟩
  obtain ⟨g1, g2, g3⟩ := i4.two
  obtain ⟨bs, S4, e6, i5, lb⟩ := draws_spec (ρ := [A0, .va (.loc 0), A2, A3, A4, .va (.loc 1), x6, .no, x8, x9, .no]) (e2 := .bin .Add (.var 3) (.int 1)) (k := 3) i4 rfl (many := kinds cols + 1) (by omega) (by omega) (by decide) (by decide) (fun x S => m_add (ev_va rfl) ev_int)
  obtain ⟨q1, q2, _⟩ := i5.two
  have e7 : ev sg_law (.bin .Add (.var 5) (.comp (.one 10) [10] (.rng1 (.int 3)) (.call 5 (.cons (.var 1) (.cons (.bin .Add (.var 3) (.int 1)) .nil))))) [A0, .va (.loc 0), A2, A3, A4, .va (.loc 1), x6, .no, x8, x9, .no] S3 = .ok (.fr ((asked ++ bs).map .int)) S4 := by
    rw [List.map_append]
    exact E_bin (ev_va rfl) e6 (add_loc q1 (by rw [List.length_map, List.length_map, l6, lb]; decide))
  have hS5 : (S4 ++ [(asked ++ bs).map D.int])[2]? = some ((asked ++ bs).map .int) := by
    rw [List.getElem?_append_right (by omega), q2]; rfl
  obtain ⟨ρ6, S6, e8, rfl, x7, rfl⟩ := for_st (J := fun j ρ S' => S' = S4 ++ [(asked ++ bs).map D.int] ∧ ∃ x7 : Sl, ρ = [A0, .va (.loc 0), A2, A3, A4, .va (.loc 2), x6, x7, x8, x9, .no])
    (i := 0) (l := ([0, 1, 3, 6, 1, 9] : List Int).map .int) (ρ := [A0, .va (.loc 0), A2, A3, A4, .va (.loc 2), x6, .no, x8, x9, .no]) (S := S4 ++ [(asked ++ bs).map .int]) (f := fun x ρ S => match setTg (.one 7) x ρ with
    | some ρ' => Sf.execs sg_law (.cons (.ite (.not (.call 6 (.cons (.var 4) (.cons (.var 3) (.cons (.var 5) (.cons (.var 7) .nil)))))) (.cons (.ret (.bl false)) .nil) .nil) .nil) ρ' S
    | none => .bad) (fun j x ρ S hj hJ => by
      obtain ⟨rfl, x7, rfl⟩ := hJ
      have hx := List.mem_of_getElem? hj
      obtain ⟨k, hk, rfl⟩ := List.mem_map.mp hx
      have hkk : ∃ many : Nat, k = many ∧ (many = 0 ∨ many = 1 ∨ many = 3 ∨ many = 6 ∨ many = 9) := by
        simp only [List.mem_cons, List.not_mem_nil, or_false] at hk
        rcases hk with rfl | rfl | rfl | rfl | rfl | rfl
        · exact ⟨0, rfl, by decide⟩
        · exact ⟨1, rfl, by decide⟩
        · exact ⟨3, rfl, by decide⟩
        · exact ⟨6, rfl, by decide⟩
        · exact ⟨1, rfl, by decide⟩
        · exact ⟨9, rfl, by decide⟩
      obtain ⟨many, rfl, hm⟩ := hkk
      have hh := holds_spec (m := 2) hw h6 (by rw [List.length_append, l6, lb]; rfl) hS5 hm
      exact ⟨_, _, (Xs_iteN (ev_not (k := true) (E_call rfl (evs_cons (ev_va rfl) rfl (evs_cons (ev_va rfl) rfl (evs_cons (ev_va rfl) rfl (evs_cons (ev_va rfl) rfl evs_nil)))) hh))).trans Sf.execs_nil, rfl, _, rfl⟩) ⟨rfl, .no, rfl⟩
  refine ⟨S4 ++ [(asked ++ bs).map .int], run_rt rfl (Xs_cons (X_setC (E_call rfl (evs_cons (ev_va rfl) rfl evs_nil) start_spec)) (Xs_cons (X_set (E_call rfl (evs_cons (ev_va rfl) rfl (evs_cons ev_int rfl evs_nil)) e1) rfl)
    (Xs_cons (X_set s3 rfl) (Xs_cons (X_set (E_call rfl (evs_cons (ev_va rfl) rfl evs_nil) hf) rfl) ((Xs_iteN ec).trans (Xs_cons (X_setC e4) ?_))))))⟩
  rw [hlen2]
  refine Xs_cons (X_for (I_rng1 ev_int (rng_ok (by decide) (by decide))) e5) (Xs_cons (X_setC e7) ?_)
  rw [q2]
  exact Xs_cons (X_for (I_fr (E_lst (ev_lstC [0, 1, 3, 6, 1, 9]))) e8) (Xs_rt (X_ret ev_bl))
end K01
end
set_option linter.all false
set_option maxRecDepth 100000
set_option maxHeartbeats 4000000
open PySem PySem.W PySem.Calls PyProof.Rows in
theorem PySem.Challenge.cw_siftshares_k01_lots_of_kinds_holds : PySem.Challenge.rw_siftshares_k01_lots_of_kinds.Holds := by
  w_on; o_law
  refine HandSHeadRun.head_any (r := OpenLaw.row PySem.Challenge.rw_siftshares_k01_lots_of_kinds) (q := view (OpenLaw.row PySem.Challenge.rw_siftshares_k01_lots_of_kinds).prog [43]) (H := K01.hk) (ob := K01.ob) (M := 7000) (loose := K01.loose) (d := HandSHeadRun.topDef (OpenLaw.row PySem.Challenge.rw_siftshares_k01_lots_of_kinds).prog 43) (kwd := []) K01.ob_eq
    (by kernel_rfl) (fun s => by kernel_rfl) K01.run (by kernel_rfl) (by kernel_rfl) (by kernel_rfl) (by rfl) (by first | assumption | decide +kernel) (by decide +kernel) ⟨rfl, rfl, rfl, rfl, rfl, by decide +kernel⟩ ?hw ?hc
  case hw => w_witness2
  case hc =>
    refine Sf.walk_ofX (l := PySem.Challenge.rw_siftshares_k01_lots_of_kinds) (n := 63) (k := 6) (x := "_law_script") (CX := fun w => L2N.CX (PySem.Challenge.rw_siftshares_k01_lots_of_kinds).prog w) rfl (by decide) (by kernel_rfl) ⟨rfl, by decide, by decide⟩ ?F (fun w H s e s' z => by obtain ⟨_, _, _, _, _, _, _, _, _, _, _, _, hE⟩ := z; exact hE)
    intro w mg fa h Y G hmg0
    obtain ⟨K, KX, c⟩ := Y
    have hmg : mg ("law" : PySem.Str) = some (.ref fa) := by
      have e : (HandSHeadRun.topDef (OpenLaw.row PySem.Challenge.rw_siftshares_k01_lots_of_kinds).prog 43).name = ("law" : PySem.Str) := by kernel_rfl
      rw [← e]
      exact hmg0
    obtain ⟨fd, hb, hF⟩ := K01.facts (w := w) KX G hmg c
    exact ⟨K, fd, _, KX, hb, fun H a ns hl _ hS => ⟨rfl, Sf.law_sp (T := Sf.tab K01.cn K) (n := 63) (by decide) K01.plain hl hS⟩, hF⟩
