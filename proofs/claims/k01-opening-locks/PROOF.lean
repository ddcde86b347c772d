import PyProof.Rows.All
import HandS.ForMost
import HandS.Wide
import HandS.Deep
import HandS.IsInst
import HandS.TupAny
import HandS.Zip
import HandS.Conv
import HandS.Style
import HandS.ForExc
import KE.GoesEnum
import HandS.WordsExc
import HandS.Defaults
import HandS.HeadEnd
import HandS.HeadHook2
import KE.KStateDown
import HandS.Head0
import HandS.Head1
import HandS.Head2
import PySem.Challenge.RW_keyedapart_k01_opening_locks
set_option Elab.async false
set_option linter.all false
set_option maxRecDepth 100000
set_option autoImplicit false
/-! KACore: a small core language and its plain evaluator. -/
namespace KA
open PySem

abbrev PD := PyData
/-- the longest list -/
abbrev SZ : Nat := 16777216

/-- a mutable list; a list that is no longer changed -/
inductive O where
  | lst (ds : List PD)
  | frz (ds : List PD)
abbrev Sto := List O
/-- an exception: its class's name, its fields -/
structure Ex where
  c : Str
  fs : List (Str × PD)
/-- what a name holds -/
inductive VV where
  | d (x : PD)
  | loc (l : Nat)
  | ex (e : Ex)
abbrev Sg := List (Option VV)
inductive R (α : Type) where
  | ok (a : α) (S : Sto)
  | exc (e : Ex) (S : Sto)
  | bad

namespace R
variable {α β : Type}
def bind (r : R α) (f : α → Sto → R β) : R β := match r with
  | .ok a S => f a S
  | .exc e S => .exc e S
  | .bad => .bad
@[simp] theorem bind_ok (a : α) (S : Sto) (f : α → Sto → R β) : (R.ok a S).bind f = f a S := Eq.trans rfl rfl
@[simp] theorem bind_exc (e : Ex) (S : Sto) (f : α → Sto → R β) : (R.exc e S : R α).bind f = .exc e S := Eq.trans rfl rfl
@[simp] theorem bind_bad (f : α → Sto → R β) : (R.bad : R α).bind f = .bad := Eq.trans rfl rfl
/-- an option's value -/
def opt (o : Option α) (S : Sto) : R α := match o with
  | some a => .ok a S
  | none => .bad
@[simp] theorem opt_some (a : α) (S : Sto) : opt (some a) S = .ok a S := Eq.trans rfl rfl
@[simp] theorem opt_none (S : Sto) : (opt none S : R α) = .bad := Eq.trans rfl rfl
end R

/-- what is read -/
def rd (S : Sto) : VV → Option PD
  | .d x => some x
  | .loc l => match S[l]? with
    | some (.lst ds) => some (.list ds)
    | some (.frz ds) => some (.list ds)
    | none => none
  | .ex _ => none
@[simp] theorem rd_d (S : Sto) (x : PD) : rd S (.d x) = some x := Eq.trans rfl rfl
/-- what goes into an object, or is walked: a mutable list stays as it is from then on -/
def esc (S : Sto) : VV → R PD
  | .d x => .ok x S
  | .loc l => match S[l]? with
    | some (.lst ds) => .ok (.list ds) (S.set l (.frz ds))
    | some (.frz ds) => .ok (.list ds) S
    | none => .bad
  | .ex _ => .bad
@[simp] theorem esc_d (S : Sto) (x : PD) : esc S (.d x) = .ok x S := Eq.trans rfl rfl

/-- an operation on what is read -/
def op1 {β : Type} (f : PD → Option β) (S : Sto) (v : VV) : R β := match rd S v with
  | some x => R.opt (f x) S
  | none => .bad
def op2 {β : Type} (f : PD → PD → Option β) (S : Sto) (v w : VV) : R β := match rd S v, rd S w with
  | some x, some y => R.opt (f x y) S
  | _, _ => .bad
@[simp] theorem op1_d {β : Type} (f : PD → Option β) (S : Sto) (x : PD) : op1 f S (.d x) = R.opt (f x) S := Eq.trans rfl rfl
@[simp] theorem op2_d {β : Type} (f : PD → PD → Option β) (S : Sto) (x y : PD) : op2 f S (.d x) (.d y) = R.opt (f x y) S := Eq.trans rfl rfl
def rds (S : Sto) : List VV → Option (List PD)
  | [] => some []
  | v :: vs => match rd S v, rds S vs with
    | some x, some xs => some (x :: xs)
    | _, _ => none
@[simp] theorem rds_nil (S : Sto) : rds S [] = some [] := Eq.trans rfl rfl

/-! ### the language -/
/-- a target: a name, a tuple of names -/
inductive Tg where
  | nm (i : Nat)
  | tp (is : List Nat)
def Tg.slots : Tg → List Nat
  | .nm i => [i]
  | .tp is => is
/-- a class that isinstance asks for -/
inductive Tn where
  | ty (n : String)
  | own (x : Str)
/-- built-in functions of values -/
inductive Bn where
  | len | sum | all_ | any_ | max_ | min_ | int_ | repr_ | str_ | tuple_ | list_ | listM | sorted_ | lenset | sortset
  deriving DecidableEq
mutual
inductive CE where
  | var (i : Nat)
  | con (d : PD)
  | gcon (x : Str) (d : PD)
  | bin (op : Operator) (a b : CE)
  | neg (a : CE)
  | bnot (a : CE)
  | band (as : CEs)
  | bor (as : CEs)
  | ifx (t a b : CE)
  | cmp (op : CmpOp) (a b : CE)
  | cmp2 (op1 op2 : CmpOp) (a b c : CE)
  | isn (neg : Bool) (a : CE)
  | call (f : Nat) (as : CEs)
  | callk (f : Nat) (ks : List Str) (as : CEs)
  | blt (b : Bn) (as : CEs)
  | isin (a : CE) (ts : List Tn)
  | meth (m : Str) (o : CE) (as : CEs)
  | sub (a i : CE)
  | slc (a : CE) (lo hi : CO)
  | rev (a : CE)
  | tup (es : CEs)
  | lst (m : Bool) (es : CEs)
  | rng (t m : Bool) (i : CI)
  | comp (m : Bool) (elt : CE) (g : CG)
  | comp2 (m : Bool) (elt : CE) (g h : CG)
inductive CEs where
  | nil
  | cons (e : CE) (es : CEs)
inductive CO where
  | none
  | some (e : CE)
inductive CI where
  | seq (e : CE)
  | rng (e : CE)
  | rng2 (a b : CE)
  | enum (e : CE)
  | zip (a b : CE)
inductive CG where
  | mk (tg : Tg) (it : CI) (cond : CO)
end
mutual
inductive CS where
  | set (i : Nat) (e : CE)
  | par (is : List Nat) (es : CEs)
  | unp (is : List Nat) (e : CE)
  | sst (o i e : CE)
  | expr (e : CE)
  | ret (e : CE)
  | retN
  | ifs (t : CE) (a b : CSs)
  | for_ (tg : Tg) (it : CI) (b : CSs)
  | whil (n : Nat) (t : CE) (b : CSs)
  | aug (i : Nat) (op : Operator) (e : CE)
  | raise_ (c : Str) (as : CEs)
  | try_ (b : CSs) (c : Str) (i j : Nat)
  | pass
inductive CSs where
  | nil
  | cons (s : CS) (ss : CSs)
end
/-- a def: its name, its names (parameters first), the parameters' number, its body, whether it hands back a mutable list -/
structure FD where
  name : Str
  N : List Str
  np : Nat
  body : CSs
  retM : Bool := false

/-! ### operations on values -/
def mulOk (i j : Int) : Bool := decide ((-(2 ^ 64) < i ∧ i < 2 ^ 64) ∨ (-(2 ^ 64) < j ∧ j < 2 ^ 64)) || decide (i.natAbs.log2 + j.natAbs.log2 < 1000000)
def binD : Operator → PD → PD → Option PD
  | .Add, .int i, .int j => some (.int (i + j))
  | .Add, .str x, .str y => if x.length + y.length ≤ SZ then some (.str (x ++ y)) else none
  | .Add, .list x, .list y => if x.length + y.length ≤ SZ then some (.list (x ++ y)) else none
  | .Add, .tuple x, .tuple y => if x.length + y.length ≤ SZ then some (.tuple (x ++ y)) else none
  | .Sub, .int i, .int j => some (.int (i - j))
  | .Mult, .int i, .int j => if mulOk i j then some (.int (i * j)) else none
  | .FloorDiv, .int i, .int j => if 0 < j ∧ j.natAbs.log2 < 9000 then some (.int (i / j)) else none
  | .Mod, .int i, .int j => if 0 < j then some (.int (i % j)) else none
  | .Pow, .int i, .int j => if 0 ≤ j ∧ j ≤ 1000000 ∧ i.natAbs < 2 ^ 64 then some (.int (i ^ j.toNat)) else none
  | _, _, _ => none
def negD : PD → Option PD
  | .int i => some (.int (-i))
  | _ => none
def truthD : PD → Option Bool
  | .none => some false
  | .bool b => some b
  | .int i => some (i != 0)
  | .str x => if x.length ≤ SZ then some (x.length != 0) else none
  | .list ds => some (!ds.isEmpty)
  | .tuple ds => some (!ds.isEmpty)
  | .dict _ => none
def boolD : PD → Option Bool
  | .bool b => some b
  | _ => none
/-- == of data -/
def eqD (x y : PD) : Option Bool := match x, y with
  | .int i, .int j => some (i == j)
  | .str i, .str j => some (i == j)
  | .bool i, .bool j => some (i == j)
  | x, y => if SeqAt.shaped x && SeqAt.shaped y then some (PyData.eqv x y) else none
def inD (x : PD) (ds : List PD) : Option Bool := if SeqAt.shaped x && SeqAt.shaped (.list ds) then some (ds.any fun z => PyData.eqv z x) else none
def cmpD : CmpOp → PD → PD → Option Bool
  | .Eq, x, y => eqD x y
  | .NotEq, x, y => (eqD x y).map (!·)
  | .Lt, .int i, .int j => some (decide (i < j))
  | .LtE, .int i, .int j => some (decide (i ≤ j))
  | .Gt, .int i, .int j => some (decide (j < i))
  | .GtE, .int i, .int j => some (decide (j ≤ i))
  | .In, x, .list ds => inD x ds
  | .In, x, .tuple ds => inD x ds
  | .NotIn, x, .list ds => (inD x ds).map (!·)
  | .NotIn, x, .tuple ds => (inD x ds).map (!·)
  | _, _, _ => none
def intsD : List PD → Option (List Int)
  | [] => some []
  | .int i :: r => (intsD r).map (i :: ·)
  | _ :: _ => none
def boolsD : List PD → Option (List Bool)
  | [] => some []
  | .bool i :: r => (boolsD r).map (i :: ·)
  | _ :: _ => none
/-- the greatest of some ints -/
def maxI : Int → List Int → Int
  | m, [] => m
  | m, x :: r => maxI (if x > m then x else m) r
def minI : Int → List Int → Int
  | m, [] => m
  | m, x :: r => minI (if x < m then x else m) r
def insI (x : Int) : List Int → List Int
  | [] => [x]
  | y :: r => if x ≤ y then x :: y :: r else y :: insI x r
def sortI : List Int → List Int
  | [] => []
  | x :: r => insI x (sortI r)
def seqOf : PD → Option (List PD)
  | .list ds => some ds
  | .tuple ds => some ds
  | _ => none
def bltD : Bn → List PD → Option PD
  | .len, [.list ds] => some (.int ds.length)
  | .len, [.tuple ds] => some (.int ds.length)
  | .len, [.str x] => if x.length ≤ SZ then some (.int x.length) else none
  | .sum, [.list ds] => (intsD ds).map fun ns => .int ns.sum
  | .all_, [.list ds] => (boolsD ds).map fun bs => .bool (bs.all id)
  | .any_, [.list ds] => (boolsD ds).map fun bs => .bool (bs.any id)
  | .max_, [.int i, .int j] => some (.int (if j > i then j else i))
  | .min_, [.int i, .int j] => some (.int (if j < i then j else i))
  | .max_, [.list ds] => match intsD ds with
    | some (n :: ns) => some (.int (maxI n ns))
    | _ => none
  | .min_, [.list ds] => match intsD ds with
    | some (n :: ns) => some (.int (minI n ns))
    | _ => none
  | .int_, [.int i] => some (.int i)
  | .int_, [.bool b] => some (.int (if b then 1 else 0))
  | .str_, [.int i] => if i.natAbs.log2 < 1920 then some (.str (toString i)) else none
  | .repr_, [x] => match x with
    | .list _ | .tuple _ => if x.showable && !x.hasDict && decide (x.depth ≤ 64) && decide (x.shown.length ≤ SZ) then some (.str x.shown) else none
    | _ => none
  | .tuple_, [.list ds] => some (.tuple ds)
  | .tuple_, [.tuple ds] => some (.tuple ds)
  | .list_, [.list ds] => some (.list ds)
  | .list_, [.tuple ds] => some (.list ds)
  | .sorted_, [.list ds] => match intsD ds with
    | some ns => if ns.length < 64 then some (.list ((sortI ns).map .int)) else none
    | none => none
  | _, _ => none
def tyD : PD → String
  | .none => "NoneType"
  | .bool _ => "bool"
  | .int _ => "int"
  | .str _ => "str"
  | .list _ => "list"
  | .tuple _ => "tuple"
  | .dict _ => "dict"
/-- isinstance of data by built-in types' names -/
def isTy (d : PD) (n : String) : Bool := tyD d == n || (n == "int" && tyD d == "bool")
def isinD (d : PD) : List Tn → Option Bool
  | [] => some false
  | .ty n :: r => if ["int", "bool", "str", "list", "tuple", "dict"].contains n then (if isTy d n then some true else isinD d r) else none
  | .own _ :: _ => none
def atD (ds : List PD) (i : Int) : Option PD := L2.atI ds i
def subD : PD → PD → Option PD
  | .list ds, .int i => atD ds i
  | .tuple ds, .int i => atD ds i
  | .str x, .int i => if x.length ≤ SZ then (L2.atI x.cps.toList i).map fun c => .str ⟨#[c]⟩ else none
  | _, _ => none
def cutD (xs : List PD) (lo hi : Option Int) : List PD := (xs.drop (HT.sIx xs.length 0 lo)).take (HT.sIx xs.length xs.length hi - HT.sIx xs.length 0 lo)
def slcD : PD → Option Int → Option Int → Option PD
  | .list ds, lo, hi => some (.list (cutD ds lo hi))
  | .tuple ds, lo, hi => some (.tuple (cutD ds lo hi))
  | _, _, _ => none
def revD : PD → Option PD
  | .list ds => some (.list ds.reverse)
  | .tuple ds => some (.tuple ds.reverse)
  | _ => none
def intD : PD → Option Int
  | .int i => some i
  | _ => none
/-- lo, lo + 1, .. -/
def rngD (lo hi : Int) : List PD := (List.range (hi - lo).toNat).map fun i => .int (lo + (i : Nat))
def rngOk (lo hi : Int) : Bool := decide (-(2 ^ 62) ≤ lo ∧ lo < 2 ^ 62 ∧ -(2 ^ 62) ≤ hi ∧ hi < 2 ^ 62 ∧ (hi - lo).toNat ≤ SZ)
def zipD : List PD → List PD → List PD
  | x :: xs, y :: ys => .tuple [x, y] :: zipD xs ys
  | _, _ => []
def zipP : PD → PD → Option (List PD)
  | .list xs, .list ys => some (zipD xs ys)
  | .tuple xs, .tuple ys => some (zipD xs ys)
  | _, _ => none
def enumD : Nat → List PD → List PD
  | _, [] => []
  | i, x :: xs => .tuple [.int i, x] :: enumD (i + 1) xs

/-! ### the evaluator -/
/-- a new mutable list -/
def newM (m : Bool) (d : PD) (S : Sto) : R VV := match m, d with
  | false, d => .ok (.d d) S
  | true, .list ds => .ok (.loc S.length) (S ++ [.lst ds])
  | true, _ => .bad
def bltV (b : Bn) (xs : List PD) (S : Sto) : R VV := match b with
  | .listM => (R.opt (bltD .list_ xs) S).bind fun z S => newM true z S
  | b => (R.opt (bltD b xs) S).bind fun z S => .ok (.d z) S
def bltVs (b : Bn) (vs : List VV) (S : Sto) : R VV := match rds S vs with
  | none => .bad
  | some xs => bltV b xs S
def bindTg : Tg → PD → Sg → Option Sg
  | .nm i, x, σ => some (σ.set i (some (.d x)))
  | .tp is, .tuple xs, σ => if xs.length = is.length then some ((is.zip xs).foldl (fun σ p => σ.set p.1 (some (.d p.2))) σ) else none
  | .tp _, _, _ => none
def wipeD (σ : Sg) : List Nat → Sg
  | [] => σ
  | v :: vs => (wipeD σ vs).set v none
/-- a comprehension's turns; acc: what is made so far -/
def loopC (f : PD → Sto → R (Option PD)) : List PD → List PD → Sto → R (List PD)
  | [], acc, S => .ok acc S
  | x :: xs, acc, S => match f x S with
    | .ok none S' => loopC f xs acc S'
    | .ok (some y) S' => if acc.length < SZ then loopC f xs (acc ++ [y]) S' else .bad
    | _ => .bad
/-- a comprehension of two clauses: the outer turns -/
def loopC2 (f : PD → List PD → Sto → R (List PD)) : List PD → List PD → Sto → R (List PD)
  | [], acc, S => .ok acc S
  | x :: xs, acc, S => match f x acc S with
    | .ok acc' S' => loopC2 f xs acc' S'
    | _ => .bad
def keyArgs (ps ks : List Str) (vs : List VV) : Option (List VV) :=
  ps.mapM fun p => (ks.zip vs).lookup p
def mutD (S : Sto) (l : Nat) (f : List PD → Option (PD × List PD)) : R VV := match S[l]? with
  | some (.lst ds) => match f ds with
    | some (r, ds') => .ok (.d r) (S.set l (.lst ds'))
    | none => .bad
  | _ => .bad
def popAt (ds : List PD) (i : Int) : Option (PD × List PD) := if -(2 ^ 63) ≤ i ∧ i < 2 ^ 63 then
    match seqIndex? i ds.length with
    | some k => match ds[k]? with
      | some y => some (y, ds.eraseIdx k)
      | none => none
    | none => none
  else none
/-- o.m(..) of a built-in kind -/
def methV (m : Str) (o : VV) (vs : List PD) (S : Sto) : R VV :=
  match o with
  | .loc l =>
    if m = "append" then match vs with
      | [x] => mutD S l fun ds => if ds.length < SZ then some (.none, ds ++ [x]) else none
      | _ => .bad
    else if m = "extend" then match vs with
      | [.list xs] => mutD S l fun ds => if ds.length + xs.length ≤ SZ then some (.none, ds ++ xs) else none
      | _ => .bad
    else if m = "pop" then match vs with
      | [.int i] => mutD S l fun ds => popAt ds i
      | _ => .bad
    else .bad
  | _ => .bad
/-- what is walked, by values -/
def isNonV : VV → Bool
  | .d .none => true
  | _ => false
def itemsD : PD → Option (List PD)
  | .list ds => some ds
  | .tuple ds => some ds
  | _ => none

def augD : Operator → PD → PD → Option PD
  | .Add, .int a, .int b => some (.int (a + b))
  | .Sub, .int a, .int b => some (.int (a - b))
  | _, _, _ => none

variable (call : Nat → List VV → Sto → R VV) (par : Nat → List Str)
mutual
@[simp] def evE (σ : Sg) : CE → Sto → R VV
  | .var i, S => match σ[i]? with
    | some (some v) => .ok v S
    | _ => .bad
  | .con d, S => .ok (.d d) S
  | .gcon _ d, S => .ok (.d d) S
  | .bin op a b, S => (evE σ a S).bind fun v S => (evE σ b S).bind fun w S => (op2 (binD op) S v w).bind fun z S => .ok (.d z) S
  | .neg a, S => (evE σ a S).bind fun v S => (op1 negD S v).bind fun z S => .ok (.d z) S
  | .bnot a, S => (evE σ a S).bind fun v S => (op1 boolD S v).bind fun b S => .ok (.d (.bool !b)) S
  | .band as, S => evAnd σ as S
  | .bor as, S => evOr σ as S
  | .ifx t a b, S => (evT σ t S).bind fun c S => if c = true then evE σ a S else evE σ b S
  | .cmp op a b, S => (evE σ a S).bind fun v S => (evE σ b S).bind fun w S => (op2 (cmpD op) S v w).bind fun z S => .ok (.d (.bool z)) S
  | .cmp2 o1 o2 a b c, S => (evE σ a S).bind fun v S => (evE σ b S).bind fun w S => (op2 (cmpD o1) S v w).bind fun k S =>
      if k = true then (evE σ c S).bind fun x S => (op2 (cmpD o2) S w x).bind fun k S => .ok (.d (.bool k)) S else .ok (.d (.bool false)) S
  | .isn neg a, S => (evE σ a S).bind fun v S => .ok (.d (.bool (isNonV v != neg))) S
  | .call f as, S => (evEs σ as S).bind fun vs S => call f vs S
  | .callk f ks as, S => (evEs σ as S).bind fun vs S => (R.opt (keyArgs (par f) ks vs) S).bind fun vs S => call f vs S
  | .blt b as, S => (evEs σ as S).bind fun vs S => bltVs b vs S
  | .isin a ts, S => (evE σ a S).bind fun v S => (op1 (fun x => isinD x ts) S v).bind fun z S => .ok (.d (.bool z)) S
  | .meth m o as, S => (evE σ o S).bind fun v S => match v with
    | .loc l => (evXs σ as S).bind fun xs S => methV m (.loc l) xs S
    | _ => .bad
  | .sub a i, S => (evE σ a S).bind fun v S => (evE σ i S).bind fun w S => (op2 subD S v w).bind fun z S => .ok (.d z) S
  | .slc a lo hi, S => (evE σ a S).bind fun v S => (evO σ lo S).bind fun l S => (evO σ hi S).bind fun h S => (op1 (fun x => slcD x l h) S v).bind fun z S => .ok (.d z) S
  | .rev a, S => (evE σ a S).bind fun v S => (op1 revD S v).bind fun z S => .ok (.d z) S
  | .tup es, S => (evXs σ es S).bind fun xs S => if xs.length ≤ SZ then .ok (.d (.tuple xs)) S else .bad
  | .lst m es, S => (evXs σ es S).bind fun xs S => if xs.length ≤ SZ then newM m (.list xs) S else .bad
  | .rng t m i, S => (evI σ i S).bind fun xs S => if t = true then .ok (.d (.tuple xs)) S else newM m (.list xs) S
  | .comp m elt (.mk tg it c), S => (evI σ it S).bind fun items S =>
      (loopC (fun x S => (R.opt (bindTg tg x (wipeD σ tg.slots)) S).bind fun σ' S => (evC σ' c S).bind fun k S =>
        if k = true then ((evE σ' elt S).bind fun v S => esc S v).bind fun y S => .ok (some y) S else .ok none S) items [] S).bind fun ds S => newM m (.list ds) S
  | .comp2 m elt (.mk tg it c) (.mk tg1 it1 c1), S => (evI σ it S).bind fun items S =>
      (loopC2 (fun x acc S => (R.opt (bindTg tg x (wipeD σ (tg.slots ++ tg1.slots))) S).bind fun σ' S => (evC σ' c S).bind fun k S =>
        if k = true then (evI σ' it1 S).bind fun items1 S =>
          loopC (fun x S => (R.opt (bindTg tg1 x (wipeD σ' tg1.slots)) S).bind fun σ2 S => (evC σ2 c1 S).bind fun k S =>
            if k = true then ((evE σ2 elt S).bind fun v S => esc S v).bind fun y S => .ok (some y) S else .ok none S) items1 acc S
        else .ok acc S) items [] S).bind fun ds S => newM m (.list ds) S
@[simp] def evEs (σ : Sg) : CEs → Sto → R (List VV)
  | .nil, S => .ok [] S
  | .cons e es, S => (evE σ e S).bind fun v S => (evEs σ es S).bind fun vs S => .ok (v :: vs) S
/-- for an object -/
@[simp] def evXs (σ : Sg) : CEs → Sto → R (List PD)
  | .nil, S => .ok [] S
  | .cons e es, S => ((evE σ e S).bind fun v S => esc S v).bind fun v S => (evXs σ es S).bind fun vs S => .ok (v :: vs) S
@[simp] def evAnd (σ : Sg) : CEs → Sto → R VV
  | .nil, _ => .bad
  | .cons e .nil, S => evE σ e S
  | .cons e es, S => (evE σ e S).bind fun v S => (op1 boolD S v).bind fun b S => if b = true then evAnd σ es S else .ok (.d (.bool false)) S
@[simp] def evOr (σ : Sg) : CEs → Sto → R VV
  | .nil, _ => .bad
  | .cons e .nil, S => evE σ e S
  | .cons e es, S => (evE σ e S).bind fun v S => (op1 boolD S v).bind fun b S => if b = true then .ok (.d (.bool true)) S else evOr σ es S
/-- a test -/
def evT (σ : Sg) : CE → Sto → R Bool
  | .bnot a, S => (evT σ a S).bind fun b S => .ok (!b) S
  | .band as, S => evTAnd σ as S
  | .bor as, S => evTOr σ as S
  | .ifx _ _ _, _ => .bad
  | e, S => (evE σ e S).bind fun v S => op1 truthD S v
@[simp] def evTAnd (σ : Sg) : CEs → Sto → R Bool
  | .nil, _ => .bad
  | .cons e .nil, S => evT σ e S
  | .cons e es, S => (evT σ e S).bind fun b S => if b = true then evTAnd σ es S else .ok false S
@[simp] def evTOr (σ : Sg) : CEs → Sto → R Bool
  | .nil, _ => .bad
  | .cons e .nil, S => evT σ e S
  | .cons e es, S => (evT σ e S).bind fun b S => if b = true then .ok true S else evTOr σ es S
@[simp] def evC (σ : Sg) : CO → Sto → R Bool
  | .none, S => .ok true S
  | .some e, S => evT σ e S
@[simp] def evO (σ : Sg) : CO → Sto → R (Option Int)
  | .none, S => .ok none S
  | .some e, S => (evE σ e S).bind fun v S => (op1 intD S v).bind fun i S => .ok (some i) S
@[simp] def evI (σ : Sg) : CI → Sto → R (List PD)
  | .seq e, S => ((evE σ e S).bind fun v S => esc S v).bind fun x S => R.opt (itemsD x) S
  | .rng e, S => (evE σ e S).bind fun v S => (op1 intD S v).bind fun n S => if rngOk 0 n = true then .ok (rngD 0 n) S else .bad
  | .rng2 a b, S => (evE σ a S).bind fun v S => (evE σ b S).bind fun w S => (op1 intD S v).bind fun i S => (op1 intD S w).bind fun j S => if rngOk i j = true then .ok (rngD i j) S else .bad
  | .enum e, S => ((evE σ e S).bind fun v S => esc S v).bind fun x S => (R.opt (itemsD x) S).bind fun xs S => .ok (enumD 0 xs) S
  | .zip a b, S => ((evE σ a S).bind fun v S => esc S v).bind fun x S => ((evE σ b S).bind fun v S => esc S v).bind fun y S =>
      R.opt (zipP x y) S
end

/-! ### statements -/
inductive SR where
  | nx (σ : Sg) (S : Sto)
  | rt (v : VV) (S : Sto)
  | exc (e : Ex) (σ : Sg) (S : Sto)
  | bad
def SR.bind (r : SR) (f : Sg → Sto → SR) : SR := match r with
  | .nx σ S => f σ S
  | r => r
@[simp] theorem SR.bind_nx (σ : Sg) (S : Sto) (f) : (SR.nx σ S).bind f = f σ S := Eq.trans rfl rfl
@[simp] theorem SR.bind_rt (v : VV) (S : Sto) (f) : (SR.rt v S).bind f = .rt v S := Eq.trans rfl rfl
@[simp] theorem SR.bind_exc (e) (σ : Sg) (S : Sto) (f) : (SR.exc e σ S).bind f = .exc e σ S := Eq.trans rfl rfl
@[simp] theorem SR.bind_bad (f) : SR.bad.bind f = .bad := Eq.trans rfl rfl
/-- an expression's end in a statement -/
def R.thenS {α : Type} (r : R α) (σ : Sg) (f : α → Sto → SR) : SR := match r with
  | .ok a S => f a S
  | .exc e S => .exc e σ S
  | .bad => .bad
@[simp] theorem R.thenS_ok {α : Type} (a : α) (S : Sto) (σ : Sg) (f) : (R.ok a S).thenS σ f = f a S := Eq.trans rfl rfl
@[simp] theorem R.thenS_exc {α : Type} (e) (S : Sto) (σ : Sg) (f : α → Sto → SR) : (R.exc e S).thenS σ f = .exc e σ S := Eq.trans rfl rfl
@[simp] theorem R.thenS_bad {α : Type} (σ : Sg) (f : α → Sto → SR) : R.bad.thenS σ f = .bad := Eq.trans rfl rfl
def loopF (f : PD → Sg → Sto → SR) : List PD → Sg → Sto → SR
  | [], σ, S => .nx σ S
  | x :: xs, σ, S => (f x σ S).bind fun σ S => loopF f xs σ S
def loopW (t : Sg → Sto → R Bool) (f : Sg → Sto → SR) : Nat → Sg → Sto → SR
  | 0, _, _ => .bad
  | n + 1, σ, S => (t σ S).thenS σ fun b S => if b = true then (f σ S).bind fun σ S => loopW t f n σ S else .nx σ S
def setItem (S : Sto) (o : VV) (i : PD) (v : PD) : R Unit := match o, i with
  | .loc l, .int k => match S[l]? with
    | some (.lst ds) => match L2.ixN ds.length k with
      | some j => .ok () (S.set l (.lst (ds.set j v)))
      | none => .bad
    | _ => .bad
  | _, _ => .bad
mutual
@[simp] def evS : CS → Sg → Sto → SR
  | .set i e, σ, S => (evE call par σ e S).thenS σ fun v S => .nx (σ.set i (some v)) S
  | .par is es, σ, S => (evEs call par σ es S).thenS σ fun vs S => if vs.length = is.length then .nx ((is.zip vs).foldl (fun σ p => σ.set p.1 (some p.2)) σ) S else .bad
  | .unp is e, σ, S => ((evE call par σ e S).bind fun v S => op1 some S v).thenS σ fun x S => match x with
    | .tuple xs => if xs.length = is.length then .nx ((is.zip xs).foldl (fun σ p => σ.set p.1 (some (.d p.2))) σ) S else .bad
    | _ => .bad
  | .sst o i e, σ, S => ((evE call par σ e S).bind fun v S => esc S v).thenS σ fun x S => (evE call par σ o S).thenS σ fun v S => ((evE call par σ i S).bind fun v S => op1 some S v).thenS σ fun y S =>
      (setItem S v y x).thenS σ fun _ S => .nx σ S
  | .expr e, σ, S => (evE call par σ e S).thenS σ fun _ S => .nx σ S
  | .ret e, σ, S => (evE call par σ e S).thenS σ fun v S => .rt v S
  | .retN, _, S => .rt (.d .none) S
  | .ifs t a b, σ, S => (evT call par σ t S).thenS σ fun c S => if c = true then evSs a σ S else evSs b σ S
  | .for_ tg it b, σ, S => (evI call par σ it S).thenS σ fun items S => loopF (fun x σ S => match bindTg tg x σ with | some σ => evSs b σ S | none => .bad) items σ S
  | .whil n t b, σ, S => loopW (fun σ S => evT call par σ t S) (fun σ S => evSs b σ S) n σ S
  | .aug i op e, σ, S => match σ[i]? with
    | some (some v) => (evE call par σ e S).thenS σ fun w S => (op2 (augD op) S v w).thenS σ fun z S => .nx (σ.set i (some (.d z))) S
    | _ => .bad
  | .raise_ c as, σ, S => .exc ⟨c, []⟩ σ S
  | .try_ b c i j, σ, S => match evSs b σ S with
    | .exc e σ' S' => if e.c = c then .nx ((σ'.set j (some (.ex e))).set i none) S' else .bad
    | r => r
  | .pass, σ, S => .nx σ S
@[simp] def evSs : CSs → Sg → Sto → SR
  | .nil, σ, S => .nx σ S
  | .cons s ss, σ, S => (evS s σ S).bind fun σ S => evSs ss σ S
end

/-! ### calls -/
def startD (n : Nat) (vs : List VV) : Sg := vs.map some ++ List.replicate (n - vs.length) none
/-- behind a call: what the callee made is gone, but for what it hands back -/
def finD (m : Bool) (n : Nat) : SR → R VV
  | .nx _ S => .ok (.d .none) (S.take n)
  | .rt (.loc l) S => if l < n then .ok (.loc l) (S.take n) else match S[l]? with
    | some (.lst ds) => if m = true then .ok (.loc n) (S.take n ++ [.lst ds]) else .ok (.d (.list ds)) (S.take n)
    | some (.frz ds) => .ok (.d (.list ds)) (S.take n)
    | none => .bad
  | .rt v S => .ok v (S.take n)
  | .exc e _ S => .exc e (S.take n)
  | .bad => .bad
abbrev Tab := Nat → Option FD
def parOf (T : Tab) (f : Nat) : List Str := match T f with
  | some d => d.N.take d.np
  | none => []
def evCall (T : Tab) : Nat → Nat → List VV → Sto → R VV
  | 0, _, _, _ => .bad
  | k + 1, f, vs, S => match T f with
    | none => .bad
    | some d => if vs.length = d.np then finD d.retM S.length (evSs (evCall T k) (parOf T) d.body (startD d.N.length vs) S) else .bad
end KA
/-! KARel: how the evaluator's values, names and store lie in the layer's abstract heap. -/
namespace KA
open PySem PySem.Spec PyProof.Rows L2

/-- a list, a tuple that is never changed again (M: what may still change) -/
def SqFL (K : PySem.W.Frag) (H : Hp) (M : Addr → Prop) (a : Addr) (xs : List V) : Prop := ((Rd H a (.lst xs) ∧ ¬ M a) ∨ SqL K (fun _ => none) a xs) ∧ xs.length ≤ SZ
def SqFT (K : PySem.W.Frag) (H : Hp) (M : Addr → Prop) (a : Addr) (xs : List V) : Prop := ((Rd H a (.tup xs) ∧ ¬ M a) ∨ SqT K (fun _ => none) a xs) ∧ xs.length ≤ SZ
mutual
inductive Rp (K : PySem.W.Frag) (H : Hp) (M : Addr → Prop) : PD → V → Prop
  | non : Rp K H M .none .non
  | bl (b : Bool) : Rp K H M (.bool b) (.bl b)
  | int (i : Int) : Rp K H M (.int i) (.int i)
  | str (x : Str) : Rp K H M (.str x) (.str x)
  | lst {a : Addr} {xs : List V} {ds : List PD} : SqFL K H M a xs → Rps K H M ds xs → Rp K H M (.list ds) (.ref a)
  | tup {a : Addr} {xs : List V} {ds : List PD} : SqFT K H M a xs → Rps K H M ds xs → Rp K H M (.tuple ds) (.ref a)
inductive Rps (K : PySem.W.Frag) (H : Hp) (M : Addr → Prop) : List PD → List V → Prop
  | nil : Rps K H M [] []
  | cons {d : PD} {v : V} {ds : List PD} {vs : List V} : Rp K H M d v → Rps K H M ds vs → Rps K H M (d :: ds) (v :: vs)
end
section
variable {K : PySem.W.Frag} {H H' : Hp} {M M' : Addr → Prop} {a : Addr} {xs : List V}
/-- what stands still stays -/
def Stay (H : Hp) (M : Addr → Prop) (H' : Hp) (M' : Addr → Prop) : Prop := ∀ a o, H a = some o → ¬ M a → H' a = some o ∧ ¬ M' a
theorem Stay.refl : Stay H M H M := fun _ _ h n => ⟨h, n⟩
theorem Stay.trans {H2 : Hp} {M2 : Addr → Prop} (f : Stay H M H' M') (g : Stay H' M' H2 M2) : Stay H M H2 M2 := fun a o h n => let ⟨h1, n1⟩ := f a o h n; g a o h1 n1
theorem Rd.stay {u : HO} (s : Stay H M H' M') (h : Rd H a u ∧ ¬ M a) : Rd H' a u ∧ ¬ M' a := by
  obtain ⟨r, n⟩ := h
  rcases r with r | ⟨o, r⟩
  · exact ⟨.inl (s a _ r n).1, (s a _ r n).2⟩
  · exact ⟨.inr ⟨o, (s a _ r n).1⟩, (s a _ r n).2⟩
theorem SqFL.stay (s : Stay H M H' M') (h : SqFL K H M a xs) : SqFL K H' M' a xs := ⟨h.1.elim (fun r => .inl (Rd.stay s r)) .inr, h.2⟩
theorem SqFT.stay (s : Stay H M H' M') (h : SqFT K H M a xs) : SqFT K H' M' a xs := ⟨h.1.elim (fun r => .inl (Rd.stay s r)) .inr, h.2⟩
theorem SqFL.sq (h : SqFL K H M a xs) : SqL K H a xs := by
  rcases h.1 with ⟨r, _⟩ | r
  · exact .inl r
  · rcases r with (r | ⟨_, r⟩) | r
    · cases r
    · cases r
    · exact .inr r
theorem SqFT.sq (h : SqFT K H M a xs) : SqT K H a xs := by
  rcases h.1 with ⟨r, _⟩ | r
  · exact .inl r
  · rcases r with (r | ⟨_, r⟩) | r
    · cases r
    · cases r
    · exact .inr r
theorem SqFL.of (h : H a = some (.lst xs)) (n : ¬ M a) (z : xs.length ≤ SZ) : SqFL K H M a xs := ⟨.inl ⟨.inl h, n⟩, z⟩
theorem SqFT.of (h : H a = some (.tup xs)) (n : ¬ M a) (z : xs.length ≤ SZ) : SqFT K H M a xs := ⟨.inl ⟨.inl h, n⟩, z⟩
mutual
theorem Rp.stay (s : Stay H M H' M') : ∀ {d : PD} {v : V}, Rp K H M d v → Rp K H' M' d v
  | _, _, .non => .non
  | _, _, .bl b => .bl b
  | _, _, .int i => .int i
  | _, _, .str x => .str x
  | _, _, .lst h r => .lst (h.stay s) (Rps.stay s r)
  | _, _, .tup h r => .tup (h.stay s) (Rps.stay s r)
theorem Rps.stay (s : Stay H M H' M') : ∀ {ds : List PD} {vs : List V}, Rps K H M ds vs → Rps K H' M' ds vs
  | _, _, .nil => .nil
  | _, _, .cons h r => .cons (Rp.stay s h) (Rps.stay s r)
end
mutual
theorem Rp.dp : ∀ {d : PD} {v : V}, Rp K H M d v → Dp K H v d
  | _, _, .non => .non
  | _, _, .bl b => .bl b
  | _, _, .int i => .int i
  | _, _, .str x => .str x
  | _, _, .lst h r => .lst h.sq (Rps.dp r)
  | _, _, .tup h r => .tup h.sq (Rps.dp r)
theorem Rps.dp : ∀ {ds : List PD} {vs : List V}, Rps K H M ds vs → DpAll K H vs ds
  | _, _, .nil => .nil
  | _, _, .cons h r => .cons (Rp.dp h) (Rps.dp r)
end
theorem Rps.length : ∀ {ds : List PD} {vs : List V}, Rps K H M ds vs → ds.length = vs.length
  | _, _, .nil => rfl
  | _, _, .cons _ r => by rw [List.length_cons, List.length_cons, Rps.length r]
theorem Rps.get : ∀ {ds : List PD} {vs : List V} {i : Nat} {d : PD}, Rps K H M ds vs → ds[i]? = some d → ∃ v, vs[i]? = some v ∧ Rp K H M d v
  | _, _, _, _, .nil, e => by simp at e
  | _, _, 0, _, .cons r _, e => by simp at e; subst e; exact ⟨_, rfl, r⟩
  | _, _, i + 1, d, .cons _ t, e => by
    obtain ⟨u, h1, h2⟩ := Rps.get (i := i) (d := d) t (by simpa using e)
    exact ⟨u, by simpa using h1, h2⟩
theorem Rps.getV : ∀ {ds : List PD} {vs : List V} {i : Nat} {v : V}, Rps K H M ds vs → vs[i]? = some v → ∃ d, ds[i]? = some d ∧ Rp K H M d v
  | _, _, _, _, .nil, e => by simp at e
  | _, _, 0, _, .cons r _, e => by simp at e; subst e; exact ⟨_, rfl, r⟩
  | _, _, i + 1, v, .cons _ t, e => by
    obtain ⟨u, h1, h2⟩ := Rps.getV (i := i) (v := v) t (by simpa using e)
    exact ⟨u, by simpa using h1, h2⟩
theorem Rps.append : ∀ {ds es : List PD} {vs ws : List V}, Rps K H M ds vs → Rps K H M es ws → Rps K H M (ds ++ es) (vs ++ ws)
  | _, _, _, _, .nil, s => s
  | _, _, _, _, .cons r t, s => .cons r (Rps.append t s)
theorem Rps.take : ∀ {ds : List PD} {vs : List V} (n : Nat), Rps K H M ds vs → Rps K H M (ds.take n) (vs.take n)
  | _, _, 0, _ => .nil
  | _, _, _ + 1, .nil => .nil
  | _, _, n + 1, .cons r t => .cons r (Rps.take n t)
theorem Rps.drop : ∀ {ds : List PD} {vs : List V} (n : Nat), Rps K H M ds vs → Rps K H M (ds.drop n) (vs.drop n)
  | _, _, 0, r => r
  | _, _, _ + 1, .nil => .nil
  | _, _, n + 1, .cons _ t => Rps.drop n t
theorem Rps.set {d : PD} {v : V} (r : Rp K H M d v) : ∀ {ds : List PD} {vs : List V} (i : Nat), Rps K H M ds vs → Rps K H M (ds.set i d) (vs.set i v)
  | _, _, _, .nil => .nil
  | _, _, 0, .cons _ t => .cons r t
  | _, _, i + 1, .cons q t => .cons q (Rps.set r i t)
theorem Rps.erase : ∀ {ds : List PD} {vs : List V} (i : Nat), Rps K H M ds vs → Rps K H M (ds.eraseIdx i) (vs.eraseIdx i)
  | _, _, _, .nil => .nil
  | _, _, 0, .cons _ t => t
  | _, _, i + 1, .cons q t => .cons q (Rps.erase i t)
theorem Rps.reverse : ∀ {ds : List PD} {vs : List V}, Rps K H M ds vs → Rps K H M ds.reverse vs.reverse
  | _, _, .nil => .nil
  | _, _, .cons r t => by
    rw [List.reverse_cons, List.reverse_cons]
    exact (Rps.reverse t).append (.cons r .nil)
theorem Rps.at_ {ds : List PD} {vs : List V} {i : Int} {d : PD} (r : Rps K H M ds vs) (h : atI ds i = some d) : ∃ v, atI vs i = some v ∧ Rp K H M d v := by
  unfold atI at h ⊢
  rw [← r.length]
  cases q : ixN ds.length i with
  | none => rw [q] at h; cases h
  | some j =>
    rw [q] at h
    exact r.get h
end


/-! ### the store -/
/-- a list of the store that may still be changed stands at a -/
def Mt (A : List Addr) (S : Sto) (a : Addr) : Prop := ∃ (l : Nat) (ds : List PD), S[l]? = some (O.lst ds) ∧ A[l]? = some a
structure Rel (K : PySem.W.Frag) (H : Hp) (M : Addr → Prop) (A : List Addr) (S : Sto) : Prop where
  len : A.length = S.length
  nd : A.Nodup
  lst : ∀ (l : Nat) (ds : List PD) (a : Addr), S[l]? = some (O.lst ds) → A[l]? = some a → M a ∧ ∃ xs, H a = some (HO.lst xs) ∧ Rps K H M ds xs ∧ xs.length ≤ SZ
  frz : ∀ (l : Nat) (ds : List PD) (a : Addr), S[l]? = some (O.frz ds) → A[l]? = some a → Rp K H M (.list ds) (.ref a) ∧ (∃ o, H a = some o) ∧ ¬ M a
  al : ∀ a, M a → ∃ o, H a = some o
structure Fm (H : Hp) (M : Addr → Prop) (A : List Addr) (S : Sto) (H' : Hp) (M' : Addr → Prop) (A' : List Addr) (S' : Sto) : Prop where
  st : Stay H M H' M'
  ex : ∀ a o, H a = some o → M a → ¬ Mt A S a → H' a = some o ∧ M' a ∧ ¬ Mt A' S' a
  pre : ∃ B, A' = A ++ B
section
variable {K : PySem.W.Frag} {H H' H2 : Hp} {M M' M2 : Addr → Prop} {A A' A2 : List Addr} {S S' S2 : Sto} {p : Addr} {o : HO}
theorem Fm.refl : Fm H M A S H M A S := ⟨Stay.refl, fun _ _ h m n => ⟨h, m, n⟩, ⟨[], by simp⟩⟩
theorem Fm.trans (f : Fm H M A S H' M' A' S') (g : Fm H' M' A' S' H2 M2 A2 S2) : Fm H M A S H2 M2 A2 S2 :=
  ⟨f.st.trans g.st, fun a o h m n => let ⟨h1, m1, n1⟩ := f.ex a o h m n; g.ex a o h1 m1 n1, by
    obtain ⟨B, e⟩ := f.pre
    obtain ⟨C, e2⟩ := g.pre
    exact ⟨B ++ C, by rw [e2, e, List.append_assoc]⟩⟩
theorem Fm.at_ (f : Fm H M A S H' M' A' S') {l : Nat} {a : Addr} (h : A[l]? = some a) : A'[l]? = some a := by
  obtain ⟨B, e⟩ := f.pre
  rw [e, List.getElem?_append_left (List.getElem?_eq_some_iff.mp h).1]
  exact h
theorem Rel.nM (r : Rel K H M A S) (h : H p = none) : ¬ M p := fun m => by
  obtain ⟨o, e⟩ := r.al p m
  rw [h] at e; cases e
theorem stay_new (h : H p = none) : Stay H M (upd H p o) M := fun a u e n => ⟨by rw [upd_ne (ne_of_none e h)]; exact e, n⟩
/-- a new object that is never changed -/
theorem Rel.new (r : Rel K H M A S) (h : H p = none) : Rel K (upd H p o) M A S where
  len := r.len
  nd := r.nd
  lst := fun l ds a e1 e2 => by
    obtain ⟨m, xs, e, rs, z⟩ := r.lst l ds a e1 e2
    exact ⟨m, xs, by rw [upd_ne (ne_of_none e h)]; exact e, rs.stay (stay_new h), z⟩
  frz := fun l ds a e1 e2 => by
    obtain ⟨q, ⟨u, e⟩, n⟩ := r.frz l ds a e1 e2
    exact ⟨q.stay (stay_new h), ⟨u, by rw [upd_ne (ne_of_none e h)]; exact e⟩, n⟩
  al := fun a m => by
    obtain ⟨u, e⟩ := r.al a m
    exact ⟨u, by rw [upd_ne (ne_of_none e h)]; exact e⟩
theorem Fm.new (h : H p = none) : Fm H M A S (upd H p o) M A S := ⟨stay_new h, fun a u e m n => ⟨by rw [upd_ne (ne_of_none e h)]; exact e, m, n⟩, ⟨[], by simp⟩⟩
theorem sto_cases {S : Sto} {l : Nat} (h : l < S.length) : (∃ ds : List PD, S[l]? = some (O.lst ds)) ∨ ∃ ds : List PD, S[l]? = some (O.frz ds) := by
  cases q : S[l] with
  | lst ds => exact .inl ⟨ds, by rw [List.getElem?_eq_getElem h, q]⟩
  | frz ds => exact .inr ⟨ds, by rw [List.getElem?_eq_getElem h, q]⟩
theorem Rel.inH (r : Rel K H M A S) {a : Addr} (h : a ∈ A) : ∃ o, H a = some o := by
  obtain ⟨l, e⟩ := List.getElem?_of_mem h
  have lt : l < S.length := by rw [← r.len]; exact (List.getElem?_eq_some_iff.mp e).1
  rcases sto_cases lt with ⟨ds, q⟩ | ⟨ds, q⟩
  · obtain ⟨_, ys, e', _⟩ := r.lst l ds a q e
    exact ⟨_, e'⟩
  · exact (r.frz l ds a q e).2.1
theorem Mt.mem {a : Addr} (h : Mt A S a) : a ∈ A := by
  obtain ⟨l, ds, _, e⟩ := h
  exact List.mem_of_getElem? e
theorem nodup_at (h : A.Nodup) {i j : Nat} {a : Addr} (hi : A[i]? = some a) (hj : A[j]? = some a) : i = j := by
  obtain ⟨h1, e1⟩ := List.getElem?_eq_some_iff.mp hi
  obtain ⟨h2, e2⟩ := List.getElem?_eq_some_iff.mp hj
  exact (List.getElem_inj h).mp (e1.trans e2.symm)
/-- a new list that may be changed -/
theorem Rel.newM {xs : List V} {ds : List PD} (r : Rel K H M A S) (h : H p = none) (rs : Rps K H M ds xs) (z : xs.length ≤ SZ) :
    Rel K (upd H p (.lst xs)) (fun a => M a ∨ a = p) (A ++ [p]) (S ++ [O.lst ds]) ∧ Fm H M A S (upd H p (.lst xs)) (fun a => M a ∨ a = p) (A ++ [p]) (S ++ [O.lst ds]) := by
  have st : Stay H M (upd H p (.lst xs)) (fun a => M a ∨ a = p) := fun a u e n => ⟨by rw [upd_ne (ne_of_none e h)]; exact e, fun z => z.elim n fun q => by rw [q, h] at e; cases e⟩
  have hpA : p ∉ A := fun hm => by
    obtain ⟨o, e⟩ := r.inH hm
    rw [h] at e; cases e
  have hl : ∀ (l : Nat) (a : Addr), (A ++ [p])[l]? = some a → A[l]? = some a ∨ (l = A.length ∧ a = p) := fun l a e => by
    by_cases hlt : l < A.length
    · rw [List.getElem?_append_left hlt] at e; exact .inl e
    · rw [List.getElem?_append_right (by omega)] at e
      have e0 : l - A.length = 0 := by
        have := (List.getElem?_eq_some_iff.mp e).1
        simp at this; omega
      rw [e0] at e
      exact .inr ⟨by omega, by simpa using e.symm⟩
  have hS : ∀ (l : Nat) (o : Addr), A[l]? = some o → (S ++ [O.lst ds])[l]? = S[l]? := fun l o e => by
    rw [List.getElem?_append_left]
    rw [← r.len]; exact (List.getElem?_eq_some_iff.mp e).1
  refine ⟨⟨by simp [r.len], ?_, fun l ds' a e1 e2 => ?_, fun l ds' a e1 e2 => ?_, fun a m => ?_⟩, ⟨st, fun a u e m n => ?_, ⟨[p], rfl⟩⟩⟩
  · exact List.nodup_append.mpr ⟨r.nd, by simp, fun a ha b hb => by
      have : b = p := by simpa using hb
      subst this
      exact fun e => hpA (e ▸ ha)⟩
  · rcases hl l a e2 with e | ⟨e, rfl⟩
    · rw [hS l a e] at e1
      obtain ⟨m, ys, e', rs', z'⟩ := r.lst l ds' a e1 e
      exact ⟨.inl m, ys, by rw [upd_ne (ne_of_none e' h)]; exact e', rs'.stay st, z'⟩
    · rw [e, r.len, List.getElem?_append_right (Nat.le_refl _)] at e1
      have : ds = ds' := by simpa using e1
      subst this
      exact ⟨.inr rfl, xs, upd_same, rs.stay st, z⟩
  · rcases hl l a e2 with e | ⟨e, rfl⟩
    · rw [hS l a e] at e1
      obtain ⟨q, ⟨u, e'⟩, n⟩ := r.frz l ds' a e1 e
      exact ⟨q.stay st, ⟨u, (st a u e' n).1⟩, (st a u e' n).2⟩
    · rw [e, r.len, List.getElem?_append_right (Nat.le_refl _)] at e1
      simp at e1
  · rcases m with m | rfl
    · obtain ⟨u, e⟩ := r.al a m
      exact ⟨u, by rw [upd_ne (ne_of_none e h)]; exact e⟩
    · exact ⟨_, upd_same⟩
  · refine ⟨by rw [upd_ne (ne_of_none e h)]; exact e, .inl m, fun ⟨l, ds', e1, e2⟩ => ?_⟩
    rcases hl l a e2 with e3 | ⟨_, rfl⟩
    · rw [hS l a e3] at e1
      exact n ⟨l, ds', e1, e3⟩
    · rw [h] at e; cases e
/-- a list of the store is changed -/
theorem Rel.put {l : Nat} {a : Addr} {xs : List V} {ds ds' : List PD} (r : Rel K H M A S) (e1 : S[l]? = some (O.lst ds)) (e2 : A[l]? = some a) (rs : Rps K H M ds' xs) (z : xs.length ≤ SZ) :
    Rel K (upd H a (.lst xs)) M A (S.set l (O.lst ds')) ∧ Fm H M A S (upd H a (.lst xs)) M A (S.set l (O.lst ds')) := by
  obtain ⟨mA, ys, eA, rsA, zA⟩ := r.lst l ds a e1 e2
  have st : Stay H M (upd H a (.lst xs)) M := fun b u e n => ⟨by rw [upd_ne (show b ≠ a from fun q => n (by rw [q]; exact mA))]; exact e, n⟩
  have ls : l < S.length := (List.getElem?_eq_some_iff.mp e1).1
  refine ⟨⟨by simp [r.len], r.nd, fun j ds2 b f1 f2 => ?_, fun j ds2 b f1 f2 => ?_, fun b m => ?_⟩, ⟨st, fun b u e m n => ?_, ⟨[], by simp⟩⟩⟩
  · by_cases hj : j = l
    · subst hj
      rw [e2] at f2; cases f2
      rw [List.getElem?_set_self ls] at f1
      have : ds' = ds2 := by simpa using f1
      subst this
      exact ⟨mA, xs, upd_same, rs.stay st, z⟩
    · rw [List.getElem?_set_ne (Ne.symm hj)] at f1
      obtain ⟨m, zs, e', rs', z'⟩ := r.lst j ds2 b f1 f2
      have nb : b ≠ a := fun q => hj (nodup_at r.nd f2 (q ▸ e2))
      exact ⟨m, zs, by rw [upd_ne nb]; exact e', rs'.stay st, z'⟩
  · by_cases hj : j = l
    · subst hj
      rw [List.getElem?_set_self ls] at f1
      simp at f1
    · rw [List.getElem?_set_ne (Ne.symm hj)] at f1
      obtain ⟨q, ⟨u, e'⟩, n⟩ := r.frz j ds2 b f1 f2
      exact ⟨q.stay st, ⟨u, (st b u e' n).1⟩, n⟩
  · obtain ⟨u, e⟩ := r.al b m
    by_cases hb : b = a
    · exact ⟨_, by rw [hb]; exact upd_same⟩
    · exact ⟨u, by rw [upd_ne hb]; exact e⟩
  · have nb : b ≠ a := fun q => n ⟨l, ds, e1, q ▸ e2⟩
    refine ⟨by rw [upd_ne nb]; exact e, m, fun ⟨j, ds2, f1, f2⟩ => ?_⟩
    by_cases hj : j = l
    · subst hj
      rw [e2] at f2
      exact nb (Option.some.inj f2).symm
    · rw [List.getElem?_set_ne (Ne.symm hj)] at f1
      exact n ⟨j, ds2, f1, f2⟩
/-- a list of the store is not changed any more -/
theorem Rel.still {l : Nat} {a : Addr} {ds : List PD} (r : Rel K H M A S) (e1 : S[l]? = some (O.lst ds)) (e2 : A[l]? = some a) :
    Rel K H (fun b => M b ∧ b ≠ a) A (S.set l (O.frz ds)) ∧ Fm H M A S H (fun b => M b ∧ b ≠ a) A (S.set l (O.frz ds)) ∧ Rp K H (fun b => M b ∧ b ≠ a) (.list ds) (.ref a) := by
  obtain ⟨mA, ys, eA, rsA, zA⟩ := r.lst l ds a e1 e2
  have st : Stay H M H (fun b => M b ∧ b ≠ a) := fun b u e n => ⟨e, fun q => n q.1⟩
  have ls : l < S.length := (List.getElem?_eq_some_iff.mp e1).1
  have q0 : Rp K H (fun b => M b ∧ b ≠ a) (.list ds) (.ref a) := .lst (.of eA (fun q => q.2 rfl) zA) (rsA.stay st)
  refine ⟨⟨by simp [r.len], r.nd, fun j ds2 b f1 f2 => ?_, fun j ds2 b f1 f2 => ?_, fun b m => r.al b m.1⟩, ⟨st, fun b u e m n => ?_, ⟨[], by simp⟩⟩, q0⟩
  · by_cases hj : j = l
    · subst hj
      rw [List.getElem?_set_self ls] at f1
      simp at f1
    · rw [List.getElem?_set_ne (Ne.symm hj)] at f1
      obtain ⟨m, zs, e', rs', z'⟩ := r.lst j ds2 b f1 f2
      exact ⟨⟨m, fun q => hj (nodup_at r.nd f2 (q ▸ e2))⟩, zs, e', rs'.stay st, z'⟩
  · by_cases hj : j = l
    · subst hj
      rw [List.getElem?_set_self ls] at f1
      have : ds = ds2 := by simpa using f1
      subst this
      rw [e2] at f2; cases f2
      exact ⟨q0, ⟨_, eA⟩, fun q => q.2 rfl⟩
    · rw [List.getElem?_set_ne (Ne.symm hj)] at f1
      obtain ⟨q, ⟨u, e'⟩, n⟩ := r.frz j ds2 b f1 f2
      exact ⟨q.stay st, ⟨u, e'⟩, fun q => n q.1⟩
  · have nb : b ≠ a := fun q => n ⟨l, ds, e1, q ▸ e2⟩
    refine ⟨e, ⟨m, nb⟩, fun ⟨j, ds2, f1, f2⟩ => ?_⟩
    by_cases hj : j = l
    · subst hj
      rw [List.getElem?_set_self ls] at f1
      simp at f1
    · rw [List.getElem?_set_ne (Ne.symm hj)] at f1
      exact n ⟨j, ds2, f1, f2⟩
end

/-! ### what names hold -/
/-- an exception that flies or is held -/
def Er (mg : Str → Option Value) (e : Ex) (c : Value) (d : Option Addr) (H : Hp) : Prop := mg e.c = some c ∧ (e.fs = [] → d = none)
def Vr (K : PySem.W.Frag) (H : Hp) (M : Addr → Prop) (A : List Addr) : VV → V → Prop
  | .d x, v => Rp K H M x v
  | .loc l, v => ∃ a, A[l]? = some a ∧ v = .ref a
  | .ex _, _ => False
inductive Vs (K : PySem.W.Frag) (H : Hp) (M : Addr → Prop) (A : List Addr) : List VV → List V → Prop
  | nil : Vs K H M A [] []
  | cons {d : VV} {v : V} {ds : List VV} {vs : List V} : Vr K H M A d v → Vs K H M A ds vs → Vs K H M A (d :: ds) (v :: vs)
section
variable {K : PySem.W.Frag} {H H' H2 : Hp} {M M' M2 : Addr → Prop} {A A' A2 : List Addr} {S S' S2 : Sto} {p : Addr} {o : HO}
theorem Vr.mono (f : Fm H M A S H' M' A' S') : ∀ {x : VV} {v : V}, Vr K H M A x v → Vr K H' M' A' x v
  | .d x, v, h => Rp.stay f.st (show Rp K H M x v from h)
  | .loc l, v, h => by
    obtain ⟨a, e, q⟩ := (show ∃ a, A[l]? = some a ∧ v = .ref a from h)
    exact ⟨a, f.at_ e, q⟩
  | .ex _, _, h => h
theorem Vs.mono (f : Fm H M A S H' M' A' S') : ∀ {xs : List VV} {vs : List V}, Vs K H M A xs vs → Vs K H' M' A' xs vs
  | _, _, .nil => .nil
  | _, _, .cons h r => .cons (h.mono f) (Vs.mono f r)
theorem Vs.length : ∀ {xs : List VV} {vs : List V}, Vs K H M A xs vs → xs.length = vs.length
  | _, _, .nil => rfl
  | _, _, .cons _ r => by rw [List.length_cons, List.length_cons, Vs.length r]
theorem Vs.get : ∀ {ds : List VV} {vs : List V} {i : Nat} {d : VV}, Vs K H M A ds vs → ds[i]? = some d → ∃ v, vs[i]? = some v ∧ Vr K H M A d v
  | _, _, _, _, .nil, e => by simp at e
  | _, _, 0, _, .cons r _, e => by simp at e; subst e; exact ⟨_, rfl, r⟩
  | _, _, i + 1, d, .cons _ t, e => by
    obtain ⟨u, h1, h2⟩ := Vs.get (i := i) (d := d) t (by simpa using e)
    exact ⟨u, by simpa using h1, h2⟩
/-- the names -/
structure Sr (K : PySem.W.Frag) (H : Hp) (M : Addr → Prop) (A : List Addr) (σd : Sg) (σ : L2.St) : Prop where
  len : σd.length = σ.length
  at_ : ∀ (i : Nat) (v : VV), σd[i]? = some (some v) → ∃ u, σ[i]? = some (some u) ∧ Vr K H M A v u
theorem Sr.mono {σd : Sg} {σ : L2.St} (s : Sr K H M A σd σ) (f : Fm H M A S H' M' A' S') : Sr K H' M' A' σd σ :=
  ⟨s.len, fun i v e => let ⟨u, h, r⟩ := s.at_ i v e; ⟨u, h, r.mono f⟩⟩
theorem Sr.set {σd : Sg} {σ : L2.St} {i : Nat} {v : VV} {u : V} (s : Sr K H M A σd σ) (r : Vr K H M A v u) : Sr K H M A (σd.set i (some v)) (σ.set i (some u)) := by
  refine ⟨by simp [s.len], fun j w e => ?_⟩
  by_cases hj : j = i
  · subst hj
    have lt : j < σd.length := by
      have := (List.getElem?_eq_some_iff.mp e).1
      simpa using this
    rw [List.getElem?_set_self lt] at e
    have : v = w := by simpa using e
    subst this
    exact ⟨u, by rw [List.getElem?_set_self (by rw [← s.len]; exact lt)], r⟩
  · rw [List.getElem?_set_ne (Ne.symm hj)] at e ⊢
    exact s.at_ j w e
theorem Sr.gone {σd : Sg} {σ : L2.St} {i : Nat} (s : Sr K H M A σd σ) : Sr K H M A (σd.set i none) (σ.set i none) := by
  refine ⟨by simp [s.len], fun j w e => ?_⟩
  by_cases hj : j = i
  · subst hj
    have lt : j < σd.length := by
      have := (List.getElem?_eq_some_iff.mp e).1
      simpa using this
    rw [List.getElem?_set_self lt] at e
    simp at e
  · rw [List.getElem?_set_ne (Ne.symm hj)] at e ⊢
    exact s.at_ j w e
theorem Sr.wipe {σd : Sg} {σ : L2.St} (s : Sr K H M A σd σ) : ∀ vs : List Nat, Sr K H M A (wipeD σd vs) (wipe σ vs)
  | [] => s
  | v :: vs => (Sr.wipe s vs).gone
/-- what is read of a value -/
theorem Rel.dp (r : Rel K H M A S) {v : VV} {u : V} {d : PD} (h : Vr K H M A v u) (e : rd S v = some d) : Dp K H u d := by
  cases v with
  | d x =>
    have : x = d := by simpa [rd] using e
    subst this
    exact Rp.dp h
  | ex _ => exact h.elim
  | loc l =>
    obtain ⟨a, ea, rfl⟩ := h
    unfold rd at e
    dsimp only at e
    have lt : l < S.length := by rw [← r.len]; exact (List.getElem?_eq_some_iff.mp ea).1
    rcases sto_cases lt with ⟨ds, q⟩ | ⟨ds, q⟩
    · rw [q] at e
      have : PyData.list ds = d := by simpa using e
      subst this
      obtain ⟨_, xs, e', rs, _⟩ := r.lst l ds a q ea
      exact .lst (SqL.of e') rs.dp
    · rw [q] at e
      have : PyData.list ds = d := by simpa using e
      subst this
      exact Rp.dp (r.frz l ds a q ea).1
theorem Rel.rdL (r : Rel K H M A S) {v : VV} {u : V} {ds : List PD} (h : Vr K H M A v u) (e : rd S v = some (.list ds)) : ∃ a xs, u = .ref a ∧ SqL K H a xs ∧ Rps K H M ds xs ∧ xs.length ≤ SZ := by
  have fin : ∀ {u : V}, Rp K H M (.list ds) u → ∃ a xs, u = .ref a ∧ SqL K H a xs ∧ Rps K H M ds xs ∧ xs.length ≤ SZ := fun q => by
    cases q with
    | lst hs hr => exact ⟨_, _, rfl, hs.sq, hr, hs.2⟩
  cases v with
  | d x =>
    have : x = .list ds := by simpa [rd] using e
    subst this
    exact fin h
  | ex _ => exact h.elim
  | loc l =>
    obtain ⟨a, ea, rfl⟩ := h
    unfold rd at e
    dsimp only at e
    have lt : l < S.length := by rw [← r.len]; exact (List.getElem?_eq_some_iff.mp ea).1
    rcases sto_cases lt with ⟨ds', q⟩ | ⟨ds', q⟩
    · rw [q] at e
      have : ds' = ds := by simpa using e
      subst this
      obtain ⟨_, xs, e', rs, z⟩ := r.lst l ds' a q ea
      exact ⟨a, xs, rfl, SqL.of e', rs, z⟩
    · rw [q] at e
      have : ds' = ds := by simpa using e
      subst this
      exact fin (r.frz l ds' a q ea).1
theorem rd_flat {v : VV} {u : V} {d : PD} (h : Vr K H M A v u) (e : rd S v = some d) (n : ∀ ds, d ≠ .list ds) : Rp K H M d u := by
  cases v with
  | d x =>
    have : x = d := by simpa [rd] using e
    subst this
    exact h
  | ex _ => exact h.elim
  | loc l =>
    unfold rd at e
    dsimp only at e
    split at e
    · exact absurd (Option.some.inj e).symm (n _)
    · exact absurd (Option.some.inj e).symm (n _)
    · cases e
theorem rdT {v : VV} {u : V} {ds : List PD} (h : Vr K H M A v u) (e : rd S v = some (.tuple ds)) : ∃ a xs, u = .ref a ∧ SqT K H a xs ∧ SqFT K H M a xs ∧ Rps K H M ds xs ∧ xs.length ≤ SZ := by
  cases rd_flat h e (fun _ q => by cases q) with
  | tup hs hr => exact ⟨_, _, rfl, hs.sq, hs, hr, hs.2⟩
theorem rd_int {v : VV} {u : V} {i : Int} (h : Vr K H M A v u) (e : rd S v = some (.int i)) : u = .int i := by
  cases rd_flat h e (fun _ q => by cases q); rfl
theorem rd_str {v : VV} {u : V} {i : Str} (h : Vr K H M A v u) (e : rd S v = some (.str i)) : u = .str i := by
  cases rd_flat h e (fun _ q => by cases q); rfl
theorem rd_bl {v : VV} {u : V} {i : Bool} (h : Vr K H M A v u) (e : rd S v = some (.bool i)) : u = .bl i := by
  cases rd_flat h e (fun _ q => by cases q); rfl
theorem rd_non {v : VV} {u : V} (h : Vr K H M A v u) (e : rd S v = some .none) : u = .non := by
  cases rd_flat h e (fun _ q => by cases q); rfl
end

/-! ### what an evaluation promises -/
section
variable {K : PySem.W.Frag} {mg : Str → Option Value}
/-- from a state on: r's end. W: the wish of exceptions at the names -/
def post {α : Type} (K : PySem.W.Frag) (mg : Str → Option Value) (W : XK) (H : Hp) (M : Addr → Prop) (A : List Addr) (S : Sto) (r : R α) (Q : α → Hp → (Addr → Prop) → List Addr → Sto → Prop) : Prop := match r with
  | .ok a S' => ∀ H' M' A', Fm H M A S H' M' A' S' → Rel K H' M' A' S' → Q a H' M' A' S'
  | .exc e S' => ∀ H' M' A' c d, Fm H M A S H' M' A' S' → Rel K H' M' A' S' → Er mg e c d H' → W c d H'
  | .bad => False
variable {W : XK} {H : Hp} {M : Addr → Prop} {A : List Addr} {S : Sto} {α β : Type}
theorem post.imp {r : R α} {Q Q' : α → Hp → (Addr → Prop) → List Addr → Sto → Prop} (h : post K mg W H M A S r Q) (q : ∀ a H' M' A' S', Fm H M A S H' M' A' S' → Rel K H' M' A' S' → Q a H' M' A' S' → Q' a H' M' A' S') : post K mg W H M A S r Q' := by
  cases r with
  | ok a S' => exact fun H' M' A' f rl => q a H' M' A' S' f rl (h H' M' A' f rl)
  | exc e S' => exact h
  | bad => exact h
theorem post.from {H1 : Hp} {M1 : Addr → Prop} {A1 : List Addr} {S1 : Sto} {r : R α} {Q : α → Hp → (Addr → Prop) → List Addr → Sto → Prop} (h : post K mg W H M A S r Q) (f : Fm H M A S H1 M1 A1 S1) : post K mg W H1 M1 A1 S1 r Q := by
  cases r with
  | ok a S' => exact fun H' M' A' g rl => h H' M' A' (f.trans g) rl
  | exc e S' => exact fun H' M' A' c d g rl x => h H' M' A' c d (f.trans g) rl x
  | bad => exact h
theorem post.bind {r : R α} {g : α → Sto → R β} {Q : β → Hp → (Addr → Prop) → List Addr → Sto → Prop} (h : post K mg W H M A S (r.bind g) Q) : post K mg W H M A S r fun a H' M' A' S' => post K mg W H' M' A' S' (g a S') Q := by
  cases r with
  | ok a S' => exact fun H' M' A' f rl => post.from (K := K) h f
  | exc e S' => exact h
  | bad => exact h
theorem post.opt {o : Option α} {g : α → Sto → R β} {Q : β → Hp → (Addr → Prop) → List Addr → Sto → Prop} (h : post K mg W H M A S ((R.opt o S).bind g) Q) : ∃ a, o = some a ∧ post K mg W H M A S (g a S) Q := by
  cases o with
  | none => exact h.elim
  | some a => exact ⟨a, rfl, h⟩
end
end KA
/-! KAChk: when a core term is the text's; where one stands. -/
namespace KA
open PySem PySem.Spec PyProof.Rows L2

/-- the law's own data: its defs, its modules' constants, the built-in names it uses, how defs are called by keywords -/
structure Dom where
  T : Tab
  C : List (Str × PD)
  B : List Str
  KW : List (Nat × List Str)
def Dom.const (D : Dom) (x : Str) (d : PD) : Bool := match D.C.lookup x, d with
  | some (.int i), .int j => decide (i = j)
  | some (.str a), .str b => decide (a = b)
  | _, _ => false
def Dom.fnB (D : Dom) (f : Nat) (x : Str) : Bool := match D.T f with
  | some d => decide (d.name = x)
  | none => false
/-- where a term stands: the names by slot, the block's scope, the names whose cells are its own -/
structure Cs where
  N : List Str
  sc : Scope
  fn : Str → Bool
def visB (sc : Scope) (x : Str) : Bool := match sc.names.lookup x with
  | some .local => true
  | some .cell => true
  | some .free => true
  | _ => false
def okN (x : Str) : Bool := !(x == ("__debug__" : Str)) && !(x == ("__classdict__" : Str)) && !decide (x = "__name__")
def glB (sc : Scope) (x : Str) : Bool := decide (sc.names.lookup x = some .globalImplicit) && okN x
/-- a name that is stored in this block -/
def stB (Γ : Cs) (x : Str) : Bool := match Γ.sc.names.lookup x with
  | some .local => true
  | some .cell => Γ.fn x
  | _ => false
def starB : Expr → Bool
  | .Starred _ _ => true
  | _ => false
def Bn.name : Bn → Str
  | .len => "len"
  | .sum => "sum"
  | .all_ => "all"
  | .any_ => "any"
  | .max_ => "max"
  | .min_ => "min"
  | .int_ => "int"
  | .repr_ => "repr"
  | .str_ => "str"
  | .tuple_ => "tuple"
  | .list_ => "list"
  | .listM => "list"
  | .sorted_ => "sorted"
  | .lenset => "len"
  | .sortset => "sorted"
def Bn.plain : Bn → Bool
  | .lenset => false
  | .sortset => false
  | _ => true
def blB (D : Dom) (Γ : Cs) (x : Str) : Bool := glB Γ.sc x && D.B.contains x
def ixB : Expr → Bool
  | .Slice _ _ _ _ => false
  | _ => true
def setB : Expr → Bool
  | .Set _ _ _ => true
  | _ => false
def tnB (D : Dom) (Γ : Cs) : Tn → Expr → Bool
  | .ty n, .Name x _ => decide (x = Str.ofString n) && blB D Γ x && ["int", "bool", "str", "list", "tuple", "dict"].contains n
  | _, _ => false
def tnsB (D : Dom) (Γ : Cs) : List Tn → List Expr → Bool
  | [], [] => true
  | t :: ts, e :: es => tnB D Γ t e && tnsB D Γ ts es
  | _, _ => false
def chkTn (D : Dom) (Γ : Cs) : List Tn → Expr → Bool
  | ts, .Tuple es _ _ => decide (ts.length < 100) && tnsB D Γ ts es
  | [t], e => tnB D Γ t e
  | _, _ => false
def nmB (Γ : Cs) (i : Nat) : Expr → Bool
  | .Name x _ => decide (Γ.N[i]? = some x) && stB Γ x
  | _ => false
def nmsB (Γ : Cs) : List Nat → List Expr → Bool
  | [], [] => true
  | i :: is, e :: es => nmB Γ i e && nmsB Γ is es
  | _, _ => false
def chkG (Γ : Cs) : Tg → Expr → Bool
  | .nm i, e => nmB Γ i e
  | .tp is, .Tuple es _ _ => nmsB Γ is es
  | _, _ => false
def ownOf (N : List Str) (is : List Nat) : List (Str × Nat) := is.filterMap fun i => (N[i]?).map fun x => (x, i)
/-- inside a comprehension -/
def Cs.blk (Γ : Cs) (scope : Scope) : Cs := { N := Γ.N, sc := relS scope Γ.sc, fn := fun x => scope.names.lookup x == some .cell }
def ownB (N : List Str) (is : List Nat) : Bool := is.all fun i => (N[i]?).isSome
/-- the value of a unary minus one -/
def minus1 : Expr → Bool
  | .UnaryOp .USub (.Constant (.int i) _ _) _ => decide (i = 1)
  | _ => false
def tupB : Expr → Bool
  | .Tuple _ _ _ => true
  | _ => false
mutual
def chkE (D : Dom) (Γ : Cs) : CE → Expr → Bool
  | .var i, .Name x _ => decide (Γ.N[i]? = some x) && visB Γ.sc x && okN x
  | .con (.int i), .Constant (.int j) _ _ => decide (i = j)
  | .con (.bool i), .Constant (.bool j) _ _ => decide (i = j)
  | .con (.str i), .Constant (.str j) _ _ => decide (i = j)
  | .con .none, .Constant .none _ _ => true
  | .gcon x d, .Name y _ => decide (x = y) && glB Γ.sc x && D.const x d
  | .bin op a b, .BinOp x o y _ => decide (op = o) && chkE D Γ a x && chkE D Γ b y
  | .neg a, .UnaryOp .USub x _ => chkE D Γ a x
  | .bnot a, .UnaryOp .Not x _ => chkE D Γ a x
  | .band as, .BoolOp .And xs _ => chkEs D Γ as xs
  | .bor as, .BoolOp .Or xs _ => chkEs D Γ as xs
  | .ifx t a b, .IfExp x y z _ => chkE D Γ t x && chkE D Γ a y && chkE D Γ b z
  | .cmp op a b, .Compare x [o] [y] _ => decide (op = o) && chkE D Γ a x && chkE D Γ b y && !setB y
  | .cmp2 p q a b c, .Compare x [p', q'] [y, z] _ => decide (p = p') && decide (q = q') && chkE D Γ a x && chkE D Γ b y && chkE D Γ c z && !setB y && !setB z
  | .isn neg a, .Compare x [o] [.Constant .none _ _] _ => decide (o = if neg = true then .IsNot else .Is) && chkE D Γ a x
  | .call f as, .Call (.Name x _) (e :: es) [] _ => D.fnB f x && glB Γ.sc x && chkEs D Γ as (e :: es)
  | .callk f ks as, .Call (.Name x _) [] kws _ => D.fnB f x && glB Γ.sc x && D.KW.contains (f, ks) && chkKs D Γ ks as kws
  | .blt b as, .Call (.Name x _) (e :: es) [] _ => b.plain && decide (x = b.name) && blB D Γ x && chkEs D Γ as (e :: es)
  | .isin a ts, .Call (.Name x _) [e, t] [] _ => decide (x = "isinstance") && blB D Γ x && chkE D Γ a e && !starB e && chkTn D Γ ts t
  | .meth m (.var i) as, .Call (.Attribute (.Name x p) n ap) (e :: es) [] cp => decide (m = "append" ∨ m = "extend" ∨ m = "pop") && decide (m = n) && decide (Γ.N[i]? = some x) && visB Γ.sc x && okN x && (ap.endLine == cp.line) && decide (es.length < 20) && chkEs D Γ as (e :: es)
  | .sub a i, .Subscript x y _ => chkE D Γ a x && chkE D Γ i y && ixB y
  | .slc a lo hi, .Subscript x (.Slice l h none _) _ => chkE D Γ a x && chkO D Γ lo l && chkO D Γ hi h
  | .tup es, .Tuple xs _ _ => chkEs D Γ es xs
  | .lst _ es, .List xs _ => chkEs D Γ es xs
  | .rng t _ i, .Call (.Name x _) [r] [] _ => decide (x = if t = true then "tuple" else "list") && blB D Γ x && chkR D Γ i r
  | .comp _ elt (.mk tg it c), .ListComp x [⟨t, i, ifs, 0⟩] scope _ => chkI D Γ it i && (tupB t || !needT it) && blkC Γ.N Γ.sc scope (ownOf Γ.N tg.slots) && ownB Γ.N tg.slots && chkG (Γ.blk scope) tg t && chkC D (Γ.blk scope) c ifs && chkE D (Γ.blk scope) elt x
  | .comp2 _ elt (.mk tg it c) (.mk tg1 it1 c1), .ListComp x [⟨t, i, ifs, 0⟩, ⟨t1, i1, ifs1, 0⟩] scope _ => chkI D Γ it i && (tupB t || !needT it) && (tupB t1 || !needT it1) && blkC Γ.N Γ.sc scope (ownOf Γ.N (tg.slots ++ tg1.slots)) && ownB Γ.N (tg.slots ++ tg1.slots) &&
      chkG (Γ.blk scope) tg t && chkC D (Γ.blk scope) c ifs && chkI D (Γ.blk scope) it1 i1 && chkG (Γ.blk scope) tg1 t1 && chkC D (Γ.blk scope) c1 ifs1 && chkE D (Γ.blk scope) elt x
  | _, _ => false
def chkEs (D : Dom) (Γ : Cs) : CEs → List Expr → Bool
  | .nil, [] => true
  | .cons a as, e :: es => chkE D Γ a e && !starB e && chkEs D Γ as es
  | _, _ => false
def chkKs (D : Dom) (Γ : Cs) : List Str → CEs → List Keyword → Bool
  | [], .nil, [] => true
  | k :: ks, .cons a as, ⟨some n, e, _⟩ :: kws => decide (k = n) && chkE D Γ a e && chkKs D Γ ks as kws
  | _, _, _ => false
def chkO (D : Dom) (Γ : Cs) : CO → Option Expr → Bool
  | .none, none => true
  | .some a, some e => chkE D Γ a e
  | _, _ => false
def chkC (D : Dom) (Γ : Cs) : CO → List Expr → Bool
  | .none, [] => true
  | .some a, [e] => chkE D Γ a e
  | _, _ => false
def chkR (D : Dom) (Γ : Cs) : CI → Expr → Bool
  | .rng a, .Call (.Name x _) [e] [] _ => decide (x = "range") && blB D Γ x && chkE D Γ a e && !starB e
  | .rng2 a b, .Call (.Name x _) [e, e2] [] _ => decide (x = "range") && blB D Γ x && chkE D Γ a e && !starB e && chkE D Γ b e2 && !starB e2
  | _, _ => false
def chkI (D : Dom) (Γ : Cs) : CI → Expr → Bool
  | .seq a, e => chkE D Γ a e && !setB e
  | .rng a, .Call (.Name x _) [e] [] _ => decide (x = "range") && blB D Γ x && chkE D Γ a e && !starB e
  | .rng2 a b, .Call (.Name x _) [e, e2] [] _ => decide (x = "range") && blB D Γ x && chkE D Γ a e && !starB e && chkE D Γ b e2 && !starB e2
  | .enum a, .Call (.Name x _) [e] [] _ => decide (x = "enumerate") && blB D Γ x && chkE D Γ a e && !starB e
  | .zip a b, .Call (.Name x _) [e, e2] [] _ => decide (x = "zip") && blB D Γ x && chkE D Γ a e && !starB e && chkE D Γ b e2 && !starB e2
  | _, _ => false
def needT : CI → Bool
  | .enum _ => true
  | .zip _ _ => true
  | _ => false
end

/-! ### a def's promise, with what repr asks (no object is being written) -/
structure FnG (P : Program) (w : World) (K : PySem.W.Frag) (mg : Str → Option Value) (base : Heap) (k : Nat) (f : Addr) (fd : FuncData) (ps : List Str) (sp : Sp) : Prop where
  len : ∀ vs H Q E, sp vs H Q E → vs.length = ps.length
  run : ∀ (A : Around) (outer : List Env) (s : Shared) (H : Hp) (args : Args) (us : List Value) (vs : List V) (Q : VK) (E : XK), Room k A → A.guards = some [] → Env0 P w K mg base A outer s H → BindsTo s fd args (ps.zip us) → Vals vs us → sp vs H Q E →
    codeAny (model P w) A (.call (.ref f) args) (CR (L2.CX P w) outer P w H s Q E) s
/-- the promise of the def f -/
def spC (D : Dom) (K : PySem.W.Frag) (mg : Str → Option Value) (k f n : Nat) : Sp := fun vs H Q E => ∃ M A S args, Rel K H M A S ∧ Vs K H M A args vs ∧ vs.length = n ∧
  post K mg E H M A S (evCall D.T k f args S) fun v H' M' A' _ => ∀ u, Vr K H' M' A' v u → Q u H'
/-- the keywords ks in the parameters' sequence -/
def kwG (ps ks : List Str) (ws : List Value) : List Value := ps.filterMap fun p => (ks.zip ws).lookup p
def KwB (K : PySem.W.Frag) (fd : FuncData) (ps ks : List Str) : Prop := (∀ p ∈ ps, p ∈ ks) ∧ ∀ (s : Shared) (ws : List Value), K.In s.heap → ws.length = ks.length → BindsTo s fd ⟨[], ks.zip ws⟩ (ps.zip (kwG ps ks ws))
/-- where a term is evaluated -/
structure Wd (D : Dom) (k : Nat) (Γ : Cs) (X : Cx) : Prop where
  hN : X.N = Γ.N
  nd : Γ.N.Nodup
  scp : X.env.scope = Γ.sc
  fn : ∀ x, Γ.fn x = true → X.fn x = true
  calm : X.calm = true
  room : Room k X.A
  grd : X.A.guards = some []
  fns : ∀ f d, D.T f = some d → d.np ≤ d.N.length ∧ ∃ fa fd, X.mg d.name = some (.ref fa) ∧ PySem.W.keepIn X.K (.ref fa) = true ∧ FnG X.prog X.w X.K X.mg X.base k fa fd (d.N.take d.np) (spC D X.K X.mg k f (d.N.take d.np).length) ∧ Binds X.K fd (d.N.take d.np) [] ∧
    ∀ ks, D.KW.contains (f, ks) = true → KwB X.K fd (d.N.take d.np) ks
  blt : ∀ x, D.B.contains x = true → X.mg x = none
  con : ∀ x d, D.const x d = true → ∃ u v, X.mg x = some u ∧ RelV v u ∧ ∀ H M, Rp X.K H M d v
/-! ### readings -/
def tV (K : PySem.W.Frag) (mg : Str → Option Value) (W : WX) (r : Sg → Sto → R VV) : TE := fun σ H Q => ∃ M A S σd, Rel K H M A S ∧ Sr K H M A σd σ ∧
  post K mg (fun c d H => W c d σ H) H M A S (r σd S) fun v H' M' A' _ => ∀ u, Vr K H' M' A' v u → Q u H'
def tBo (K : PySem.W.Frag) (mg : Str → Option Value) (W : WX) (r : Sg → Sto → R Bool) : TT := fun σ H Q => ∃ M A S σd, Rel K H M A S ∧ Sr K H M A σd σ ∧
  post K mg (fun c d H => W c d σ H) H M A S (r σd S) fun b H' _ _ _ => Q b H'
def tVs (K : PySem.W.Frag) (mg : Str → Option Value) (W : WX) (r : Sg → Sto → R (List VV)) : TA := fun σ H Q => ∃ M A S σd, Rel K H M A S ∧ Sr K H M A σd σ ∧
  post K mg (fun c d H => W c d σ H) H M A S (r σd S) fun vs H' M' A' _ => ∀ us, Vs K H' M' A' vs us → Q us H'
def tXs (K : PySem.W.Frag) (mg : Str → Option Value) (W : WX) (r : Sg → Sto → R (List PD)) : TA := fun σ H Q => ∃ M A S σd, Rel K H M A S ∧ Sr K H M A σd σ ∧
  post K mg (fun c d H => W c d σ H) H M A S (r σd S) fun ds H' M' _ _ => ∀ us, Rps K H' M' ds us → Q us H'
abbrev EV (D : Dom) (k : Nat) := evE (evCall D.T k) (parOf D.T)
def SE (D : Dom) (k : Nat) (c : CE) : Prop := ∀ (X : Cx) (W : WX) (Γ : Cs) (e : Expr), Wd D k Γ X → Takes X W → chkE D Γ c e = true → PE X e (tV X.K X.mg W fun σ S => evE (evCall D.T k) (parOf D.T) σ c S)
def ST (D : Dom) (k : Nat) (c : CE) : Prop := ∀ (X : Cx) (W : WX) (Γ : Cs) (e : Expr), Wd D k Γ X → Takes X W → chkE D Γ c e = true → PT X e (tBo X.K X.mg W fun σ S => evT (evCall D.T k) (parOf D.T) σ c S)
def SEs (D : Dom) (k : Nat) (cs : CEs) : Prop := ∀ (X : Cx) (W : WX) (Γ : Cs) (es : List Expr), Wd D k Γ X → Takes X W → chkEs D Γ cs es = true → PA X es (tVs X.K X.mg W fun σ S => evEs (evCall D.T k) (parOf D.T) σ cs S)
def SXs (D : Dom) (k : Nat) (cs : CEs) : Prop := ∀ (X : Cx) (W : WX) (Γ : Cs) (es : List Expr), Wd D k Γ X → Takes X W → chkEs D Γ cs es = true → PA X es (tXs X.K X.mg W fun σ S => evXs (evCall D.T k) (parOf D.T) σ cs S)
section
variable {X : Cx} {e : Expr} {es : List Expr}
theorem _root_.L2.PE.imp {t t' : TE} (h : PE X e t) (i : ∀ σ H Q, t' σ H Q → t σ H Q) : PE X e t' := ⟨fun pins s σ H Q I q => h.run pins s σ H Q I (i σ H Q q)⟩
theorem _root_.L2.PT.imp {t t' : TT} (h : PT X e t) (i : ∀ σ H Q, t' σ H Q → t σ H Q) : PT X e t' := ⟨fun pins s σ H Q I q => h.run pins s σ H Q I (i σ H Q q)⟩
theorem _root_.L2.PA.imp {t t' : TA} (h : PA X es t) (i : ∀ σ H Q, t' σ H Q → t σ H Q) : PA X es t' := ⟨fun pos pins s σ H Q I q => h.run pos pins s σ H Q I (i σ H Q q)⟩
theorem ba {a b : Bool} (h : (a && b) = true) : a = true ∧ b = true := by simpa using h
theorem vis_of {sc : Scope} {x : Str} (h : visB sc x = true) : Vis sc x := by
  unfold visB at h
  split at h
  · exact .inl (by assumption)
  · exact .inr (.inl (by assumption))
  · exact .inr (.inr (by assumption))
  · cases h
theorem ok_of {x : Str} (h : okN x = true) : (x == ("__debug__" : Str)) = false ∧ (x == ("__classdict__" : Str)) = false ∧ x ≠ "__name__" := by
  unfold okN at h
  obtain ⟨h1, h2⟩ := ba h
  obtain ⟨h3, h4⟩ := ba h1
  exact ⟨by simpa using h3, by simpa using h4, of_decide_eq_false (by simpa using h2)⟩
theorem gl_of {D : Dom} {k : Nat} {Γ : Cs} {x : Str} (w : Wd D k Γ X) (h : glB Γ.sc x = true) : Gl X x ∧ (x == ("__debug__" : Str)) = false ∧ x ≠ "__name__" := by
  obtain ⟨h1, h2⟩ := ba h
  have h1' := of_decide_eq_true h1
  exact ⟨by show X.env.scope.names.lookup x = _; rw [w.scp]; exact h1', (ok_of h2).1, (ok_of h2).2.2⟩
theorem bl_of {D : Dom} {k : Nat} {Γ : Cs} {x : Str} (w : Wd D k Γ X) (h : blB D Γ x = true) : Gl X x ∧ (x == ("__debug__" : Str)) = false ∧ x ≠ "__name__" ∧ X.mg x = none := by
  obtain ⟨h1, h2⟩ := ba h
  obtain ⟨g1, g2, g3⟩ := gl_of w h1
  exact ⟨g1, g2, g3, w.blt x h2⟩
theorem star_cons {env : Env} (h : starB e = false) : starEach (e :: es) env = (false, eval e env) :: starEach es env := by
  cases e <;> first | rfl | cases h
theorem star_plain {D : Dom} {Γ : Cs} {pos : Pos} {env : Env} : ∀ {as : CEs} {es : List Expr}, chkEs D Γ as es = true → (backTo pos (starEach es env)).any (·.1) = false
  | .nil, [], _ => rfl
  | .nil, _ :: _, h => by cases h
  | .cons _ _, [], h => by cases h
  | .cons a as, e :: es, h => by
    unfold chkEs at h
    obtain ⟨h1, h2⟩ := ba h
    obtain ⟨_, h3⟩ := ba h1
    rw [star_cons (by simpa using h3)]
    exact star_plain h2
theorem chkEs_cons {D : Dom} {Γ : Cs} {a : CE} {as : CEs} (h : chkEs D Γ (.cons a as) (e :: es) = true) : chkE D Γ a e = true ∧ starB e = false ∧ chkEs D Γ as es = true := by
  unfold chkEs at h
  obtain ⟨h1, h2⟩ := ba h
  obtain ⟨h4, h3⟩ := ba h1
  exact ⟨h4, by simpa using h3, h2⟩
end
end KA
/-! KAOps: the operations of the evaluator, by the layer's rules. -/
namespace KA
open PySem PySem.Spec PyProof.Rows L2

/-- two operands as they are read, an answer of data -/
def rB (K : PySem.W.Frag) (g : PD → PD → Option PD) : R2 := fun x y H Q => ∃ M A S v w a b z, Rel K H M A S ∧ Vr K H M A v x ∧ Vr K H M A w y ∧ rd S v = some a ∧ rd S w = some b ∧ g a b = some z ∧
  ∀ H' u, Fm H M A S H' M A S → Rel K H' M A S → Rp K H' M z u → Q u H'
theorem list_extendW (l : Addr) (items : Array Value) (n : Nat) (b : Addr) (items2 : Array Value) (n2 : Nat) (dd : Option Addr) (sl : Array (Option Value)) (hc0 : ¬(!items.isEmpty && Builtin.List.listTooLong (items.size + items2.size)) = true) (hc1 : items.size ≤ sizeLine) (hs2 : items.size + items2.size ≤ sizeLine + 1 := by seq_fits) :
    Meets (Builtin.«list.extend» ⟨[.ref l, .ref b], []⟩) (fun _ R s => s.heap.get? l = some { cls := .type "list", dict := none, data := .seq items n, slots := #[] } ∧ s.heap.get? b = some { cls := .type "list", dict := dd, data := .seq items2 n2, slots := sl } ∧ R (.ok (.ret Value.none)) { s with heap := s.heap.update l (Obj.mapSeq fun x => x ++ items2), toks := s.toks }) :=
  .of_wp fun prog w A R s h => by
    obtain ⟨hp, g, d, tk, os⟩ := s; obtain ⟨hl, hb, h⟩ := h; have f1 := PySem.AutoSeq1.idx_int; have f2 := PySem.AutoSeq1.sub_tuple_tuple; have f3 := PySem.AutoSeq1.sub_list_list; have f4 := PySem.AutoSeq1.sub_tuple_list; have f5 := PySem.AutoSeq1.sub_list_tuple;
    have hz' : (items ++ items2).size ≤ sizeLine + 1 := by rw [Array.size_append]; exact hs2
    wp_walk using (wpAny_updateSeq hl rfl (hz := hc1) (_hz' := hz')), PySem.AutoSeq1.wpAny_loadPart' hl, PySem.AutoSeq1.wpAny_loadPart' hb; exact ⟨_, rfl, h⟩

section
variable {X : Cx}
theorem mt_extendL : MtM X "list.extend" (fun x vs H Q => ∃ l b xs zs, x = .ref l ∧ vs = [.ref b] ∧ H l = some (.lst xs) ∧ SqL X.K H b zs ∧ xs.length + zs.length ≤ sizeLine ∧ Q .non (upd H l (.lst (xs ++ zs)))) := by
  intro pins s σ H x vs v us Q I rx rv h
  obtain ⟨l, b, xs, zs, rfl, rfl, hH, hB, hz, q⟩ := h
  cases rx
  obtain ⟨u, rfl, ru⟩ := rv.one
  cases ru
  obtain ⟨z, its, n, r, hl, e⟩ := I.lstM hH
  obtain ⟨its2, r2, ⟨⟨cls2, dd2, data2, sl2⟩, n2, e2, hc2, _, hd2⟩, _⟩ := I.list hB
  simp only at hc2 hd2
  subst hc2 hd2
  have hl2 := r2.length
  have hsz : its.toArray.size + its2.toArray.size ≤ sizeLine := by rw [List.size_toArray, List.size_toArray]; omega
  have hlong : ¬ (!its.toArray.isEmpty && Builtin.List.listTooLong (its.toArray.size + its2.toArray.size)) = true := by
    rw [notLongL hsz, Bool.and_false]
    exact Bool.false_ne_true
  refine call_meets F.slot_list_extend ⟨_, e, rfl⟩ F.entry_list_extend (F.args_list_extend_2 _ _)
    (list_extendW l its.toArray n b its2.toArray n2 dd2 sl2 hlong (by rw [List.size_toArray]; omega) (by omega)) ⟨e, e2, ?_⟩
  refine ⟨.non, _, I.lset (its' := its ++ its2) hH e (by simp) (r.append r2) ?_, rfl, q⟩
  rw [List.length_append]
  omega
theorem sz_eq : (sizeLine : Nat) = SZ := sizeLine_eq
theorem op_catL : OpR X (binaryOp .Add) (fun x y H Q => ∃ l b xs zs, x = .ref l ∧ y = .ref b ∧ SqL X.K H l xs ∧ SqL X.K H b zs ∧ xs.length + zs.length ≤ sizeLine ∧ ∀ p, H p = none → Q (.ref p) (upd H p (.lst (xs ++ zs)))) := by
  intro pins s σ H x y v u Q I rx ry h
  obtain ⟨l, b, xs, zs, rfl, rfl, hH, hB, hz, q⟩ := h
  cases rx
  cases ry
  obtain ⟨its, r, ⟨⟨cls, dd, data, sl⟩, n, ho, hc, _, hd⟩, _⟩ := I.list hH
  obtain ⟨its2, r2, ⟨⟨cls2, dd2, data2, sl2⟩, n2, ho2, hc2, _, hd2⟩, _⟩ := I.list hB
  have hl := r.length
  have hl2 := r2.length
  simp only at hc hd hc2 hd2
  subst hc hd hc2 hd2
  have ea : its.toArray ++ its2.toArray = (its ++ its2).toArray := by simp
  refine concat_meets ⟨_, ho, rfl⟩ ⟨_, ho2, rfl⟩ noFill_list_add seq_list_add PySem.F.slot_list_add PySem.F.entry_list_add (PySem.F.args_list_add_2 _ _) (list_addW l b its.toArray its2.toArray n n2 dd dd2 sl sl2 (by rw [List.size_toArray, List.size_toArray]; omega)) ⟨ho, ho2, ?_⟩
  rw [ea]
  exact ⟨.ref _, _, I.lnew (t' := s.toks) (r.append r2) (by rw [List.length_append]; omega), rfl, q _ I.fresh⟩

theorem mulOk_ok {i j : Int} (h : mulOk i j = true) : IntMulOk i j := by
  unfold mulOk at h
  rcases Bool.or_eq_true_iff.mp h with q | q
  · have q' := of_decide_eq_true q
    exact CMul.ok q'
  · have q' := of_decide_eq_true q
    exact CMulW.ok q'
theorem op_mulK : OpR X (binaryOp .Mult) (rI (fun i j => mulOk i j = true) fun i j => .int (i * j)) := opI fun _ _ _ _ _ _ _ hc q => mul_int q (mulOk_ok hc)
theorem op_binD (op : Operator) : OpR X (binaryOp op) (rB X.K (binD op)) := by
  intro pins s σ H x y v0 u0 Q I rx ry h
  obtain ⟨M, A, S, v, w, a, b, z, R, hv, hw, ea, eb, e, q⟩ := h
  have q0 : ∀ u, Rp X.K H M z u → Q u H := fun u r => q H u Fm.refl R r
  unfold binD at e
  split at e
  · obtain rfl := rd_int hv ea
    obtain rfl := rd_int hw eb
    cases e
    exact op_add pins s σ H _ _ v0 u0 Q I rx ry ⟨_, _, rfl, rfl, q0 _ (.int _)⟩
  · split at e
    · obtain rfl := rd_str hv ea
      obtain rfl := rd_str hw eb
      cases e
      exact op_add_str pins s σ H _ _ v0 u0 Q I rx ry ⟨_, _, rfl, rfl, (by rw [sz_eq]; assumption), q0 _ (.str _)⟩
    · cases e
  · split at e
    · obtain ⟨a1, xs, rfl, s1, r1, z1⟩ := R.rdL hv ea
      obtain ⟨a2, ys, rfl, s2, r2, z2⟩ := R.rdL hw eb
      cases e
      rename_i hz
      have hl : xs.length + ys.length ≤ SZ := by rw [← r1.length, ← r2.length]; exact hz
      refine op_catL pins s σ H _ _ v0 u0 Q I rx ry ⟨_, _, _, _, rfl, rfl, s1, s2, by rw [sz_eq]; exact hl, fun p hp => ?_⟩
      exact q _ _ (Fm.new hp) (R.new hp) (.lst (.of upd_same (R.nM hp) (by rw [List.length_append]; exact hl)) ((r1.append r2).stay (stay_new hp)))
    · cases e
  · split at e
    · obtain ⟨a1, xs, rfl, s1, f1, r1, z1⟩ := rdT hv ea
      obtain ⟨a2, ys, rfl, s2, f2, r2, z2⟩ := rdT hw eb
      cases e
      rename_i hz
      have hl : xs.length + ys.length ≤ SZ := by rw [← r1.length, ← r2.length]; exact hz
      refine op_catA pins s σ H _ _ v0 u0 Q I rx ry ⟨_, _, _, _, rfl, rfl, s1, s2, by rw [sz_eq]; exact hl, fun e1 => ?_, fun _ e2 => ?_, fun _ _ p hp => ?_⟩
      · subst e1
        cases r1
        exact q0 _ (.tup f2 r2)
      · subst e2
        cases r2
        rw [List.append_nil] at q0
        exact q0 _ (.tup f1 r1)
      · exact q _ _ (Fm.new hp) (R.new hp) (.tup (.of upd_same (R.nM hp) (by rw [List.length_append]; exact hl)) ((r1.append r2).stay (stay_new hp)))
    · cases e
  · obtain rfl := rd_int hv ea
    obtain rfl := rd_int hw eb
    cases e
    exact op_sub pins s σ H _ _ v0 u0 Q I rx ry ⟨_, _, rfl, rfl, q0 _ (.int _)⟩
  · split at e
    · obtain rfl := rd_int hv ea
      obtain rfl := rd_int hw eb
      cases e
      exact op_mulK pins s σ H _ _ v0 u0 Q I rx ry ⟨_, _, rfl, rfl, by assumption, q0 _ (.int _)⟩
    · cases e
  · split at e
    · obtain rfl := rd_int hv ea
      obtain rfl := rd_int hw eb
      cases e
      exact op_fdivW pins s σ H _ _ v0 u0 Q I rx ry ⟨_, _, rfl, rfl, by assumption, q0 _ (.int _)⟩
    · cases e
  · split at e
    · obtain rfl := rd_int hv ea
      obtain rfl := rd_int hw eb
      cases e
      exact op_mod pins s σ H _ _ v0 u0 Q I rx ry ⟨_, _, rfl, rfl, by assumption, q0 _ (.int _)⟩
    · cases e
  · split at e
    · obtain rfl := rd_int hv ea
      obtain rfl := rd_int hw eb
      cases e
      exact op_pow pins s σ H _ _ v0 u0 Q I rx ry ⟨_, _, rfl, rfl, by assumption, q0 _ (.int _)⟩
    · cases e
  · cases e
/-- a comparison of what is read -/
def rC (K : PySem.W.Frag) (g : PD → PD → Option Bool) : R2 := fun x y H Q => ∃ M A S v w a b z, Rel K H M A S ∧ Vr K H M A v x ∧ Vr K H M A w y ∧ rd S v = some a ∧ rd S w = some b ∧ g a b = some z ∧ Q (.bl z) H
theorem shaped_and {x y : PD} {c : Bool} (h : (if SeqAt.shaped x && SeqAt.shaped y then some c else none) = some true ∨ True) : True := trivial
theorem op_eqK (hu : X.A.units + 64 < cLine) : OpR X (compareOp .Eq) (rC X.K eqD) := by
  intro pins s σ H x y v0 u0 Q I rx ry h
  obtain ⟨M, A, S, v, w, a, b, z, R, hv, hw, ea, eb, e, q⟩ := h
  have gen : SeqAt.shaped a = true → SeqAt.shaped b = true → PyData.eqv a b = z → wpAny (model X.prog X.w) X.A (compareOp .Eq v0 u0) (EP X pins σ Q) X.xe s := fun h1 h2 h3 =>
    op_eqD hu pins s σ H x y v0 u0 Q I rx ry ⟨a, b, R.dp hv ea, R.dp hw eb, h1, h2, by rw [h3]; exact q⟩
  unfold eqD at e
  split at e
  · obtain rfl := rd_int hv ea
    obtain rfl := rd_int hw eb
    cases e
    exact op_eq pins s σ H _ _ v0 u0 Q I rx ry ⟨rfl, by rw [dec_int]; exact q⟩
  · obtain rfl := rd_str hv ea
    obtain rfl := rd_str hw eb
    cases e
    exact op_eq pins s σ H _ _ v0 u0 Q I rx ry ⟨rfl, by rw [dec_str]; exact q⟩
  · obtain rfl := rd_bl hv ea
    obtain rfl := rd_bl hw eb
    cases e
    exact op_eq pins s σ H _ _ v0 u0 Q I rx ry ⟨rfl, by rw [dec_bl]; exact q⟩
  · split at e
    · rename_i hs
      obtain ⟨h1, h2⟩ := ba hs
      cases e
      exact gen h1 h2 rfl
    · cases e
theorem op_neK (hu : X.A.units + 64 < cLine) : OpR X (compareOp .NotEq) (rC X.K fun a b => (eqD a b).map (!·)) := by
  intro pins s σ H x y v0 u0 Q I rx ry h
  obtain ⟨M, A, S, v, w, a, b, z, R, hv, hw, ea, eb, e, q⟩ := h
  obtain ⟨c, e2, rfl⟩ := Option.map_eq_some_iff.mp e
  clear e
  have gen : SeqAt.shaped a = true → SeqAt.shaped b = true → PyData.eqv a b = c → wpAny (model X.prog X.w) X.A (compareOp .NotEq v0 u0) (EP X pins σ Q) X.xe s := fun h1 h2 h3 =>
    op_neD hu pins s σ H x y v0 u0 Q I rx ry ⟨a, b, R.dp hv ea, R.dp hw eb, h1, h2, by rw [h3]; exact q⟩
  unfold eqD at e2
  split at e2
  · obtain rfl := rd_int hv ea
    obtain rfl := rd_int hw eb
    cases e2
    exact op_ne pins s σ H _ _ v0 u0 Q I rx ry ⟨rfl, by rw [dec_int]; exact q⟩
  · obtain rfl := rd_str hv ea
    obtain rfl := rd_str hw eb
    cases e2
    exact op_ne pins s σ H _ _ v0 u0 Q I rx ry ⟨rfl, by rw [dec_str]; exact q⟩
  · obtain rfl := rd_bl hv ea
    obtain rfl := rd_bl hw eb
    cases e2
    exact op_ne pins s σ H _ _ v0 u0 Q I rx ry ⟨rfl, by rw [dec_bl]; exact q⟩
  · split at e2
    · rename_i hs
      obtain ⟨h1, h2⟩ := ba hs
      cases e2
      exact gen h1 h2 rfl
    · cases e2
theorem lay_of {ds : List PD} (h : SeqAt.shaped (.list ds) = true) : PyData.canLay0 (.list ds) = true ∧ PyData.canLay0 (.tuple ds) = true := by
  have h1 := SeqAt.canLay_of_shaped h
  exact ⟨h1, by simpa [PyData.canLay0] using h1⟩
/-- x in xs, x not in xs: lists, tuples -/
theorem op_inK (neg : Bool) (hu : X.A.units + 65 < cLine) : OpR X (compareOp (if neg = true then .NotIn else .In)) (rC X.K fun a b => match b with
    | .list ds => if neg = true then (inD a ds).map (!·) else inD a ds
    | .tuple ds => if neg = true then (inD a ds).map (!·) else inD a ds
    | _ => none) := by
  intro pins s σ H x y v0 u0 Q I rx ry h
  obtain ⟨M, A, S, v, w, a, b, z, R, hv, hw, ea, eb, e, q⟩ := h
  obtain ⟨as, r1⟩ := Dp.reads I a x v0 (R.dp hv ea) rx
  obtain ⟨bs, r2⟩ := Dp.reads I b y u0 (R.dp hw eb) ry
  have key : ∀ ds, (if neg = true then (inD a ds).map (!·) else inD a ds) = some z → SeqAt.shaped a = true ∧ SeqAt.shaped (.list ds) = true ∧ z = (if neg = true then !ds.any fun z => PyData.eqv z a else ds.any fun z => PyData.eqv z a) := fun ds e => by
    unfold inD at e
    cases neg with
    | true =>
      simp only [if_true] at e ⊢
      split at e
      · rename_i hs
        obtain ⟨h1, h2⟩ := ba hs
        cases e
        exact ⟨h1, h2, rfl⟩
      · cases e
    | false =>
      simp only [Bool.false_eq_true, if_false] at e ⊢
      split at e
      · rename_i hs
        obtain ⟨h1, h2⟩ := ba hs
        cases e
        exact ⟨h1, h2, rfl⟩
      · cases e
  dsimp only at e
  split at e
  · rename_i ds
    obtain ⟨h1, h2, rfl⟩ := key ds e
    have l1 := SeqAt.canLay_of_shaped h1
    cases neg with
    | true => exact SeqAt.notIn_list_reads r2 r1 (lay_of h2).1 l1 (PyProof.Rows.room_in_shaped h1 hu) ⟨.bl _, H, I, rfl, q⟩
    | false => exact SeqAt.in_list_reads r2 r1 (lay_of h2).1 l1 (PyProof.Rows.room_in_shaped h1 hu) ⟨.bl _, H, I, rfl, q⟩
  · rename_i ds
    obtain ⟨h1, h2, rfl⟩ := key ds e
    have l1 := SeqAt.canLay_of_shaped h1
    cases neg with
    | true => exact SeqAt.notIn_tuple_reads r2 r1 (lay_of h2).2 l1 (PyProof.Rows.room_in_shaped h1 hu) ⟨.bl _, H, I, rfl, q⟩
    | false => exact SeqAt.in_tuple_reads r2 r1 (lay_of h2).2 l1 (PyProof.Rows.room_in_shaped h1 hu) ⟨.bl _, H, I, rfl, q⟩
  · cases e
theorem op_cmpD (op : CmpOp) (hu : X.A.units + 65 < cLine) : OpR X (compareOp op) (rC X.K (cmpD op)) := by
  intro pins s σ H x y v0 u0 Q I rx ry h
  have h0 := h
  obtain ⟨M, A, S, v, w, a, b, z, R, hv, hw, ea, eb, e, q⟩ := h
  unfold cmpD at e
  split at e
  · exact op_eqK (by omega) pins s σ H x y v0 u0 Q I rx ry ⟨M, A, S, v, w, _, _, z, R, hv, hw, ea, eb, e, q⟩
  · exact op_neK (by omega) pins s σ H x y v0 u0 Q I rx ry ⟨M, A, S, v, w, _, _, z, R, hv, hw, ea, eb, e, q⟩
  · obtain rfl := rd_int hv ea
    obtain rfl := rd_int hw eb
    cases e
    exact op_lt pins s σ H _ _ v0 u0 Q I rx ry ⟨_, _, rfl, rfl, q⟩
  · obtain rfl := rd_int hv ea
    obtain rfl := rd_int hw eb
    cases e
    exact op_le pins s σ H _ _ v0 u0 Q I rx ry ⟨_, _, rfl, rfl, q⟩
  · obtain rfl := rd_int hv ea
    obtain rfl := rd_int hw eb
    cases e
    exact op_gt pins s σ H _ _ v0 u0 Q I rx ry ⟨_, _, rfl, rfl, q⟩
  · obtain rfl := rd_int hv ea
    obtain rfl := rd_int hw eb
    cases e
    exact op_ge pins s σ H _ _ v0 u0 Q I rx ry ⟨_, _, rfl, rfl, q⟩
  · exact op_inK false hu pins s σ H x y v0 u0 Q I rx ry ⟨M, A, S, v, w, _, _, z, R, hv, hw, ea, eb, e, q⟩
  · exact op_inK false hu pins s σ H x y v0 u0 Q I rx ry ⟨M, A, S, v, w, _, _, z, R, hv, hw, ea, eb, e, q⟩
  · exact op_inK true hu pins s σ H x y v0 u0 Q I rx ry ⟨M, A, S, v, w, _, _, z, R, hv, hw, ea, eb, e, q⟩
  · exact op_inK true hu pins s σ H x y v0 u0 Q I rx ry ⟨M, A, S, v, w, _, _, z, R, hv, hw, ea, eb, e, q⟩
  · cases e
/-- one operand -/
def rU1 {β : Type} (K : PySem.W.Frag) (g : PD → Option β) (P : β → V → Hp → Prop) : V → Hp → VK → Prop := fun x H Q => ∃ M A S v a z, Rel K H M A S ∧ Vr K H M A v x ∧ rd S v = some a ∧ g a = some z ∧ ∀ u, P z u H → Q u H
theorem un_negD : UnR X (unaryOp .USub) (rU1 X.K negD fun z u _ => ∃ i, z = .int i ∧ u = .int i) := by
  intro pins s σ H x v0 Q I rx h
  obtain ⟨M, A, S, v, a, z, R, hv, ea, e, q⟩ := h
  unfold negD at e
  split at e
  · obtain rfl := rd_int hv ea
    cases e
    exact un_neg pins s σ H _ v0 Q I rx ⟨_, rfl, q _ ⟨_, rfl, rfl⟩⟩
  · cases e
/-- truth -/
theorem tru_K {K : PySem.W.Frag} {H : Hp} {M : Addr → Prop} {A : List Addr} {S : Sto} {v : VV} {u : V} {a : PD} {b : Bool} (R : Rel K H M A S) (hv : Vr K H M A v u) (ea : rd S v = some a) (e : truthD a = some b) : TruV K u H b := by
  cases a with
  | none =>
    obtain rfl := rd_non hv ea
    cases e; rfl
  | bool c =>
    obtain rfl := rd_bl hv ea
    cases e; rfl
  | int i =>
    obtain rfl := rd_int hv ea
    cases e; rfl
  | str x =>
    obtain rfl := rd_str hv ea
    unfold truthD at e
    dsimp only at e
    split at e
    · cases e
      refine ⟨by rw [sz_eq]; assumption, ?_⟩
      rw [Bool.eq_iff_iff]
      simp
    · cases e
  | list ds =>
    obtain ⟨p, xs, rfl, hs, r, _⟩ := R.rdL hv ea
    cases e
    refine .inl ⟨xs, hs, ?_⟩
    cases r <;> rfl
  | tuple ds =>
    obtain ⟨p, xs, rfl, hs, _, r, _⟩ := rdT hv ea
    cases e
    refine .inr (.inl ⟨xs, hs, ?_⟩)
    cases r <;> rfl
  | dict _ => cases e
end
end KA
/-! KABlt: built-in functions of the evaluator. -/
namespace KA
open PySem PySem.Spec PyProof.Rows L2

def Bn.val : Bn → Value
  | .len => .builtin "len"
  | .sum => .builtin "sum"
  | .all_ => .builtin "all"
  | .any_ => .builtin "any"
  | .max_ => .builtin "max"
  | .min_ => .builtin "min"
  | .int_ => .type "int"
  | .repr_ => .builtin "repr"
  | .str_ => .type "str"
  | .tuple_ => .type "tuple"
  | .list_ => .type "list"
  | .listM => .type "list"
  | .sorted_ => .builtin "sorted"
  | .lenset => .builtin "len"
  | .sortset => .builtin "sorted"
theorem Bn.boot (b : Bn) : bootBuiltins b.name = some b.val := by
  cases b <;> decide +kernel
def rBn (K : PySem.W.Frag) (b : Bn) : List V → Hp → VK → Prop := fun us H Q => ∃ M A S vs xs z, Rel K H M A S ∧ Vs K H M A vs us ∧ rds S vs = some xs ∧ bltD b xs = some z ∧
  ∀ H' u, Fm H M A S H' M A S → Rel K H' M A S → Rp K H' M z u → Q u H'
section
variable {K : PySem.W.Frag} {H : Hp} {M : Addr → Prop} {A : List Addr} {S : Sto}
theorem rds_one {vs : List VV} {us : List V} {x : PD} (h : Vs K H M A vs us) (e : rds S vs = some [x]) : ∃ v u, vs = [v] ∧ us = [u] ∧ Vr K H M A v u ∧ rd S v = some x := by
  cases h with
  | nil => cases e
  | cons r t =>
    unfold rds at e
    split at e
    · rename_i x0 xs0 e1 e2
      cases e
      cases t with
      | nil => exact ⟨_, _, rfl, rfl, r, e1⟩
      | cons r' t' =>
        unfold rds at e2
        split at e2 <;> cases e2
    · cases e
theorem rds_two {vs : List VV} {us : List V} {x y : PD} (h : Vs K H M A vs us) (e : rds S vs = some [x, y]) : ∃ v w u z, vs = [v, w] ∧ us = [u, z] ∧ Vr K H M A v u ∧ Vr K H M A w z ∧ rd S v = some x ∧ rd S w = some y := by
  cases h with
  | nil => cases e
  | cons r t =>
    unfold rds at e
    split at e
    · rename_i x0 xs0 e1 e2
      cases e
      obtain ⟨v, u, rfl, rfl, r2, e3⟩ := rds_one t e2
      exact ⟨_, _, _, _, rfl, rfl, r, r2, e1, e3⟩
    · cases e
theorem intsD_map : ∀ {ds : List PD} {ns : List Int}, intsD ds = some ns → ds = ns.map PyData.int
  | [], ns, e => by cases e; rfl
  | d :: r, ns, e => by
    cases d with
    | int i =>
      unfold intsD at e
      obtain ⟨ms, e1, rfl⟩ := Option.map_eq_some_iff.mp e
      rw [intsD_map e1]; rfl
    | _ => cases e
theorem boolsD_map : ∀ {ds : List PD} {ns : List Bool}, boolsD ds = some ns → ds = ns.map PyData.bool
  | [], ns, e => by cases e; rfl
  | d :: r, ns, e => by
    cases d with
    | bool i =>
      unfold boolsD at e
      obtain ⟨ms, e1, rfl⟩ := Option.map_eq_some_iff.mp e
      rw [boolsD_map e1]; rfl
    | _ => cases e
theorem Rps.ints : ∀ {ns : List Int} {us : List V}, Rps K H M (ns.map PyData.int) us → us = ns.map V.int
  | [], _, .nil => rfl
  | n :: ns, _, .cons r t => by
    cases r
    rw [Rps.ints t]; rfl
theorem Rps.bools : ∀ {ns : List Bool} {us : List V}, Rps K H M (ns.map PyData.bool) us → us = ns.map V.bl
  | [], _, .nil => rfl
  | n :: ns, _, .cons r t => by
    cases r
    rw [Rps.bools t]; rfl
theorem Rps.of_ints : ∀ (ns : List Int), Rps K H M (ns.map PyData.int) (ns.map V.int)
  | [] => .nil
  | n :: ns => .cons (.int n) (Rps.of_ints ns)
end
theorem maxI_spec : ∀ (m : Int) (ns : List Int), maxI m ns ∈ m :: ns ∧ ∀ y ∈ m :: ns, y ≤ maxI m ns
  | m, [] => ⟨by simp [maxI], fun y h => by
    have : y = m := by simpa using h
    rw [this]; exact Int.le_refl _⟩
  | m, x :: r => by
    obtain ⟨h1, h2⟩ := maxI_spec (if x > m then x else m) r
    refine ⟨?_, fun y hy => ?_⟩
    · show maxI (if x > m then x else m) r ∈ m :: x :: r
      rcases List.mem_cons.mp h1 with e | e
      · rw [e]; split <;> simp
      · exact List.mem_cons_of_mem _ (List.mem_cons_of_mem _ e)
    · show y ≤ maxI (if x > m then x else m) r
      have h0 := h2 (if x > m then x else m) List.mem_cons_self
      rcases List.mem_cons.mp hy with e | e
      · rw [e]
        by_cases hx : x > m
        · rw [if_pos hx] at h0 ⊢; omega
        · rw [if_neg hx] at h0 ⊢; omega
      · rcases List.mem_cons.mp e with e | e
        · rw [e]
          by_cases hx : x > m
          · rw [if_pos hx] at h0 ⊢; omega
          · rw [if_neg hx] at h0 ⊢; omega
        · exact h2 y (List.mem_cons_of_mem _ e)
theorem minI_spec : ∀ (m : Int) (ns : List Int), minI m ns ∈ m :: ns ∧ ∀ y ∈ m :: ns, minI m ns ≤ y
  | m, [] => ⟨by simp [minI], fun y h => by
    have : y = m := by simpa using h
    rw [this]; exact Int.le_refl _⟩
  | m, x :: r => by
    obtain ⟨h1, h2⟩ := minI_spec (if x < m then x else m) r
    refine ⟨?_, fun y hy => ?_⟩
    · show minI (if x < m then x else m) r ∈ m :: x :: r
      rcases List.mem_cons.mp h1 with e | e
      · rw [e]; split <;> simp
      · exact List.mem_cons_of_mem _ (List.mem_cons_of_mem _ e)
    · show minI (if x < m then x else m) r ≤ y
      have h0 := h2 (if x < m then x else m) List.mem_cons_self
      rcases List.mem_cons.mp hy with e | e
      · rw [e]
        by_cases hx : x < m
        · rw [if_pos hx] at h0 ⊢; omega
        · rw [if_neg hx] at h0 ⊢; omega
      · rcases List.mem_cons.mp e with e | e
        · rw [e]
          by_cases hx : x < m
          · rw [if_pos hx] at h0 ⊢; omega
          · rw [if_neg hx] at h0 ⊢; omega
        · exact h2 y (List.mem_cons_of_mem _ e)
theorem insI_perm (x : Int) : ∀ l : List Int, (insI x l).Perm (x :: l)
  | [] => .refl _
  | y :: r => by
    unfold insI
    split
    · exact .refl _
    · exact ((insI_perm x r).cons y).trans (.swap x y r)
theorem insI_sorted (x : Int) : ∀ l : List Int, l.Pairwise (· ≤ ·) → (insI x l).Pairwise (· ≤ ·)
  | [], _ => by simp [insI]
  | y :: r, h => by
    unfold insI
    obtain ⟨h1, h2⟩ := List.pairwise_cons.mp h
    split
    · rename_i hxy
      refine List.pairwise_cons.mpr ⟨fun z hz => ?_, h⟩
      rcases List.mem_cons.mp hz with e | e
      · rw [e]; exact hxy
      · exact Int.le_trans hxy (h1 z e)
    · rename_i hxy
      refine List.pairwise_cons.mpr ⟨fun z hz => ?_, insI_sorted x r h2⟩
      rcases List.mem_cons.mp ((insI_perm x r).mem_iff.mp hz) with e | e
      · rw [e]; omega
      · exact h1 z e
theorem sortI_perm : ∀ l : List Int, (sortI l).Perm l
  | [] => .refl _
  | x :: r => (insI_perm x (sortI r)).trans ((sortI_perm r).cons x)
theorem sortI_sorted : ∀ l : List Int, (sortI l).Pairwise (· ≤ ·)
  | [] => by simp [sortI]
  | x :: r => insI_sorted x _ (sortI_sorted r)
theorem sort_same {a b : List Int} (hp : a.Perm b) (ha : a.Pairwise (· ≤ ·)) (hb : b.Pairwise (· ≤ ·)) : a = b :=
  hp.eq_of_pairwise (fun x y _ _ h1 h2 => Int.le_antisymm h1 h2) ha hb
section
variable {X : Cx}
/-- repr of a list, a tuple of data -/
theorem call_reprD (hg : X.A.guards = some []) (hu : X.A.units + 100 < cLine) : CallR X (.builtin "repr") (fun us H Q => ∃ (a : Addr) (d : PD), us = [.ref a] ∧ Dp X.K H (.ref a) d ∧ d.showable = true ∧ d.hasDict = false ∧ d.depth ≤ 64 ∧ d.shown.length ≤ SZ ∧ Q (.str d.shown) H) := by
  intro pins s σ H xs us Q I r h
  obtain ⟨a, d, rfl, hd, h1, h2, h3, h4, q⟩ := h
  rw [Vals.ref1 r]
  obtain ⟨as, rr⟩ := Dp.reads I d _ _ hd (rfl : RelV (.ref a) (.ref a))
  refine PySem.repr_of_reads' rr h1 (fun z => by rw [h2] at z; cases z) hg (by omega) (fun _ _ e => e) (fun h' u tk k => ?_) (by rw [sz_eq]; exact h4)
  exact ⟨.str d.shown, H, I.kept k, ⟨_, rfl⟩, q⟩
theorem call_bn (b : Bn) (hc : X.calm = true) (hg : X.A.guards = some []) (hu : X.A.units + 100 < cLine) : CallR X b.val (rBn X.K b) := by
  intro pins s σ H us ws Q I r h
  obtain ⟨M, A, S, vs, xs, z, R, hv, ex, e, q⟩ := h
  have q0 : ∀ u, Rp X.K H M z u → Q u H := fun u r => q H u Fm.refl R r
  unfold bltD at e
  split at e
  · obtain ⟨v, u, rfl, rfl, r1, e1⟩ := rds_one hv ex
    obtain ⟨a, ys, rfl, hs, rs, hz⟩ := R.rdL r1 e1
    cases e
    exact call_len pins s σ H _ ws Q I r ⟨_, _, rfl, .inl ⟨ys, hs, rs.length⟩, q0 _ (.int _)⟩
  · obtain ⟨v, u, rfl, rfl, r1, e1⟩ := rds_one hv ex
    obtain ⟨a, ys, rfl, hs, _, rs, hz⟩ := rdT r1 e1
    cases e
    exact call_len pins s σ H _ ws Q I r ⟨_, _, rfl, .inr ⟨ys, hs, rs.length⟩, q0 _ (.int _)⟩
  · obtain ⟨v, u, rfl, rfl, r1, e1⟩ := rds_one hv ex
    obtain rfl := rd_str r1 e1
    split at e
    · cases e
      exact call_len pins s σ H _ ws Q I r ⟨_, _, rfl, ⟨by rw [sz_eq]; assumption, rfl⟩, q0 _ (.int _)⟩
    · cases e
  · obtain ⟨v, u, rfl, rfl, r1, e1⟩ := rds_one hv ex
    obtain ⟨a, ys, rfl, hs, rs, hz⟩ := R.rdL r1 e1
    obtain ⟨ns, e2, rfl⟩ := Option.map_eq_some_iff.mp e
    have e3 := intsD_map e2
    subst e3
    rw [rs.ints] at hs
    exact cr_sum hc pins s σ H _ ws Q I r ⟨a, ns, rfl, hs, q0 _ (.int _)⟩
  · obtain ⟨v, u, rfl, rfl, r1, e1⟩ := rds_one hv ex
    obtain ⟨a, ys, rfl, hs, rs, hz⟩ := R.rdL r1 e1
    obtain ⟨ns, e2, rfl⟩ := Option.map_eq_some_iff.mp e
    have e3 := boolsD_map e2
    subst e3
    rw [rs.bools] at hs
    exact cr_all hc pins s σ H _ ws Q I r ⟨a, ns, rfl, hs, q0 _ (.bl _)⟩
  · obtain ⟨v, u, rfl, rfl, r1, e1⟩ := rds_one hv ex
    obtain ⟨a, ys, rfl, hs, rs, hz⟩ := R.rdL r1 e1
    obtain ⟨ns, e2, rfl⟩ := Option.map_eq_some_iff.mp e
    have e3 := boolsD_map e2
    subst e3
    rw [rs.bools] at hs
    exact cr_any hc pins s σ H _ ws Q I r ⟨a, ns, rfl, hs, q0 _ (.bl _)⟩
  · obtain ⟨v, w, u, y, rfl, rfl, r1, r2, e1, e2⟩ := rds_two hv ex
    obtain rfl := rd_int r1 e1
    obtain rfl := rd_int r2 e2
    cases e
    exact call_max2 hc pins s σ H _ ws Q I r ⟨_, _, rfl, q0 _ (.int _)⟩
  · obtain ⟨v, w, u, y, rfl, rfl, r1, r2, e1, e2⟩ := rds_two hv ex
    obtain rfl := rd_int r1 e1
    obtain rfl := rd_int r2 e2
    cases e
    exact call_min2 hc pins s σ H _ ws Q I r ⟨_, _, rfl, q0 _ (.int _)⟩
  · obtain ⟨v, u, rfl, rfl, r1, e1⟩ := rds_one hv ex
    obtain ⟨a, ys, rfl, hs, rs, hz⟩ := R.rdL r1 e1
    split at e
    · rename_i n ns e2
      have e3 := intsD_map e2
      subst e3
      rw [rs.ints] at hs
      cases e
      refine cr_max hc pins s σ H _ ws Q I r ⟨a, n :: ns, rfl, hs, by simp, fun m h1 h2 => ?_⟩
      obtain ⟨g1, g2⟩ := maxI_spec n ns
      have : m = maxI n ns := Int.le_antisymm (g2 m h1) (h2 _ g1)
      rw [this]; exact q0 _ (.int _)
    · cases e
  · obtain ⟨v, u, rfl, rfl, r1, e1⟩ := rds_one hv ex
    obtain ⟨a, ys, rfl, hs, rs, hz⟩ := R.rdL r1 e1
    split at e
    · rename_i n ns e2
      have e3 := intsD_map e2
      subst e3
      rw [rs.ints] at hs
      cases e
      refine cr_min hc pins s σ H _ ws Q I r ⟨a, n :: ns, rfl, hs, by simp, fun m h1 h2 => ?_⟩
      obtain ⟨g1, g2⟩ := minI_spec n ns
      have : m = minI n ns := Int.le_antisymm (h2 _ g1) (g2 m h1)
      rw [this]; exact q0 _ (.int _)
    · cases e
  · obtain ⟨v, u, rfl, rfl, r1, e1⟩ := rds_one hv ex
    obtain rfl := rd_int r1 e1
    cases e
    exact call_int1 pins s σ H _ ws Q I r (.inl ⟨_, rfl, q0 _ (.int _)⟩)
  · obtain ⟨v, u, rfl, rfl, r1, e1⟩ := rds_one hv ex
    obtain rfl := rd_bl r1 e1
    cases e
    exact call_int1 pins s σ H _ ws Q I r (.inr ⟨_, rfl, q0 _ (.int _)⟩)
  · obtain ⟨v, u, rfl, rfl, r1, e1⟩ := rds_one hv ex
    obtain rfl := rd_int r1 e1
    split at e
    · cases e
      exact call_str_int pins s σ H _ ws Q I r ⟨_, rfl, by assumption, q0 _ (.str _)⟩
    · cases e
  · obtain ⟨v, u, rfl, rfl, r1, e1⟩ := rds_one hv ex
    have dp := R.dp r1 e1
    have fin : ∀ (d : PD) (a : Addr), u = .ref a → Dp X.K H u d → (if d.showable && !d.hasDict && decide (d.depth ≤ 64) && decide (d.shown.length ≤ SZ) then some (PyData.str d.shown) else none) = some z →
        wpAny (model X.prog X.w) X.A (call (Bn.repr_).val ws) (EP X pins σ Q) X.xe s := fun d a eu dq eq => by
      subst eu
      split at eq
      · rename_i hh
        obtain ⟨h1, h2⟩ := ba hh
        obtain ⟨h3, h4⟩ := ba h1
        obtain ⟨h5, h6⟩ := ba h3
        cases eq
        exact call_reprD hg hu pins s σ H _ ws Q I r ⟨a, d, rfl, dq, h5, by simpa using h6, of_decide_eq_true h4, of_decide_eq_true h2, q0 _ (.str _)⟩
      · cases eq
    split at e
    · obtain ⟨a, ys, rfl, _⟩ := R.rdL r1 e1
      exact fin _ a rfl dp e
    · obtain ⟨a, ys, rfl, _⟩ := rdT r1 e1
      exact fin _ a rfl dp e
    · cases e
  · obtain ⟨v, u, rfl, rfl, r1, e1⟩ := rds_one hv ex
    obtain ⟨a, ys, rfl, hs, rs, hz⟩ := R.rdL r1 e1
    cases e
    refine call_tuple_of pins s σ H _ ws Q I r ⟨a, ys, rfl, .inl ⟨hs, fun p hp => ?_⟩⟩
    exact q _ _ (Fm.new hp) (R.new hp) (.tup (.of upd_same (R.nM hp) hz) (rs.stay (stay_new hp)))
  · obtain ⟨v, u, rfl, rfl, r1, e1⟩ := rds_one hv ex
    obtain ⟨a, ys, rfl, hs, f1, rs, hz⟩ := rdT r1 e1
    cases e
    exact call_tuple_of pins s σ H _ ws Q I r ⟨a, ys, rfl, .inr ⟨hs, q0 _ (.tup f1 rs)⟩⟩
  · obtain ⟨v, u, rfl, rfl, r1, e1⟩ := rds_one hv ex
    obtain ⟨a, ys, rfl, hs, rs, hz⟩ := R.rdL r1 e1
    cases e
    refine call_list_of pins s σ H _ ws Q I r ⟨a, ys, rfl, .inl hs, fun p hp => ?_⟩
    exact q _ _ (Fm.new hp) (R.new hp) (.lst (.of upd_same (R.nM hp) hz) (rs.stay (stay_new hp)))
  · obtain ⟨v, u, rfl, rfl, r1, e1⟩ := rds_one hv ex
    obtain ⟨a, ys, rfl, hs, f1, rs, hz⟩ := rdT r1 e1
    cases e
    refine call_list_of pins s σ H _ ws Q I r ⟨a, ys, rfl, .inr hs, fun p hp => ?_⟩
    exact q _ _ (Fm.new hp) (R.new hp) (.lst (.of upd_same (R.nM hp) hz) (rs.stay (stay_new hp)))
  · obtain ⟨v, u, rfl, rfl, r1, e1⟩ := rds_one hv ex
    obtain ⟨a, ys, rfl, hs, rs, hz⟩ := R.rdL r1 e1
    split at e
    · rename_i ns e2
      have e3 := intsD_map e2
      subst e3
      rw [rs.ints] at hs
      split at e
      · rename_i h64
        cases e
        refine cr_sorted pins s σ H _ ws Q I r ⟨a, ns, rfl, hs, h64, fun ns' p hp hs' hn => ?_⟩
        have : ns' = sortI ns := sort_same (hp.trans (sortI_perm ns).symm) hs' (sortI_sorted ns)
        subst this
        refine q _ _ (Fm.new hn) (R.new hn) (.lst (.of upd_same (R.nM hn) ?_) (Rps.of_ints _))
        rw [List.length_map, hp.length_eq]
        show ns.length ≤ 16777216
        omega
      · cases e
    · cases e
  · cases e
/-- a new list that may be changed -/
def rListM (K : PySem.W.Frag) : List V → Hp → VK → Prop := fun us H Q => ∃ M A S vs xs ds, Rel K H M A S ∧ Vs K H M A vs us ∧ rds S vs = some xs ∧ bltD .list_ xs = some (.list ds) ∧
  ∀ p ys, H p = none → Rps K H M ds ys → ys.length ≤ SZ → Q (.ref p) (upd H p (.lst ys))
theorem listD_cases {xs : List PD} {ds : List PD} (e : bltD .list_ xs = some (.list ds)) : xs = [.list ds] ∨ xs = [.tuple ds] := by
  cases xs with
  | nil => cases e
  | cons x r =>
    cases r with
    | cons y t => cases x <;> cases e
    | nil =>
      cases x with
      | list d => cases e; exact .inl rfl
      | tuple d => cases e; exact .inr rfl
      | _ => cases e
theorem call_listM : CallR X (.type "list") (rListM X.K) := by
  intro pins s σ H us ws Q I r h
  obtain ⟨M, A, S, vs, xs, ds, R, hv, ex, e, q⟩ := h
  rcases listD_cases e with rfl | rfl
  · obtain ⟨v, u, rfl, rfl, r1, e1⟩ := rds_one hv ex
    obtain ⟨a, ys, rfl, hs, rs, hz⟩ := R.rdL r1 e1
    exact call_list_of pins s σ H _ ws Q I r ⟨a, ys, rfl, .inl hs, fun p hp => q p ys hp rs hz⟩
  · obtain ⟨v, u, rfl, rfl, r1, e1⟩ := rds_one hv ex
    obtain ⟨a, ys, rfl, hs, f1, rs, hz⟩ := rdT r1 e1
    exact call_list_of pins s σ H _ ws Q I r ⟨a, ys, rfl, .inr hs, fun p hp => q p ys hp rs hz⟩
end
end KA
/-! KAExpr: an expression's evaluation is the text's. -/
namespace KA
open PySem PySem.Spec PyProof.Rows L2

section
variable {K : PySem.W.Frag} {mg : Str → Option Value} {W : XK} {H : Hp} {M : Addr → Prop} {A : List Addr} {S : Sto} {α β γ : Type}
theorem op1_post {f : PD → Option β} {v : VV} {g : β → Sto → R γ} {Q : γ → Hp → (Addr → Prop) → List Addr → Sto → Prop} (h : post K mg W H M A S ((op1 f S v).bind g) Q) : ∃ a z, rd S v = some a ∧ f a = some z ∧ post K mg W H M A S (g z S) Q := by
  unfold op1 at h
  cases e : rd S v with
  | none => rw [e] at h; exact h.elim
  | some a =>
    rw [e] at h
    obtain ⟨z, e2, h⟩ := post.opt h
    exact ⟨a, z, rfl, e2, h⟩
theorem op2_post {f : PD → PD → Option β} {v w : VV} {g : β → Sto → R γ} {Q : γ → Hp → (Addr → Prop) → List Addr → Sto → Prop} (h : post K mg W H M A S ((op2 f S v w).bind g) Q) :
    ∃ a b z, rd S v = some a ∧ rd S w = some b ∧ f a b = some z ∧ post K mg W H M A S (g z S) Q := by
  unfold op2 at h
  cases e : rd S v with
  | none => rw [e] at h; exact h.elim
  | some a =>
    cases e2 : rd S w with
    | none => rw [e, e2] at h; exact h.elim
    | some b =>
      rw [e, e2] at h
      obtain ⟨z, e3, h⟩ := post.opt h
      exact ⟨a, b, z, rfl, rfl, e3, h⟩
theorem esc_post {v : VV} {u : V} {g : PD → Sto → R γ} {Q : γ → Hp → (Addr → Prop) → List Addr → Sto → Prop} (R : Rel K H M A S) (hv : Vr K H M A v u) (h : post K mg W H M A S ((esc S v).bind g) Q) :
    ∃ x S' M', Rel K H M' A S' ∧ Fm H M A S H M' A S' ∧ Rp K H M' x u ∧ post K mg W H M' A S' (g x S') Q := by
  cases v with
  | d x => exact ⟨x, S, M, R, Fm.refl, hv, h⟩
  | ex e => exact hv.elim
  | loc l =>
    obtain ⟨a, ea, rfl⟩ := hv
    have lt : l < S.length := by rw [← R.len]; exact (List.getElem?_eq_some_iff.mp ea).1
    unfold esc at h
    dsimp only at h
    rcases sto_cases lt with ⟨ds, q⟩ | ⟨ds, q⟩
    · rw [q] at h
      obtain ⟨R', f', rp⟩ := R.still q ea
      exact ⟨_, _, _, R', f', rp, post.from (K := K) h f'⟩
    · rw [q] at h
      exact ⟨_, S, M, R, Fm.refl, (R.frz l ds a q ea).1, h⟩
theorem post.ok {a : α} {Q : α → Hp → (Addr → Prop) → List Addr → Sto → Prop} (R : Rel K H M A S) (h : post K mg W H M A S (.ok a S) Q) : Q a H M A S := h H M A Fm.refl R
theorem newM_post {m : Bool} {ds : List PD} {xs : List V} {p : Addr} {Q : VK} (R : Rel K H M A S) (hp : H p = none) (rs : Rps K H M ds xs) (z : xs.length ≤ SZ)
    (h : post K mg W H M A S (newM m (.list ds) S) fun v H' M' A' _ => ∀ u, Vr K H' M' A' v u → Q u H') : Q (.ref p) (upd H p (.lst xs)) := by
  cases m with
  | false => exact h _ _ _ (Fm.new hp) (R.new hp) _ (Rp.lst (.of upd_same (R.nM hp) z) (rs.stay (stay_new hp)))
  | true =>
    obtain ⟨R', f'⟩ := R.newM hp rs z
    exact h _ _ _ f' R' _ ⟨p, by rw [← R.len, List.getElem?_append_right (Nat.le_refl _)]; simp, rfl⟩
end

section
variable {D : Dom} {k : Nat}
theorem units_of {Γ : Cs} {X : Cx} (w : Wd D k Γ X) : X.A.units + 200 < cLine := by
  have := w.room.un
  omega
theorem se_var (i : Nat) : SE D k (.var i) := by
  intro X W Γ e w tk c
  cases e with
  | Name x pos =>
    obtain ⟨c1, c2⟩ := ba (show (decide (Γ.N[i]? = some x) && visB Γ.sc x && okN x) = true from c)
    obtain ⟨c3, c4⟩ := ba c1
    obtain ⟨o1, o2, _⟩ := ok_of c2
    refine (pe_var (i := i) (by rw [w.hN]; exact of_decide_eq_true c3) (by rw [w.scp]; exact vis_of c4) o1 o2).imp fun σ H Q ⟨M, A, S, σd, R, sr, p⟩ => ?_
    simp only [evE] at p
    split at p
    · rename_i v hv
      obtain ⟨u, hu, r⟩ := sr.at_ i v hv
      exact ⟨u, hu, post.ok R p u r⟩
    · exact p.elim
  | _ => exact absurd (show false = true from c) Bool.false_ne_true
theorem se_con (d : PD) : SE D k (.con d) := by
  intro X W Γ e w tk c
  cases e with
  | Constant v j pos =>
    cases v with
    | none =>
      cases d with
      | none => exact pe_non.imp fun σ H Q ⟨M, A, S, σd, R, sr, p⟩ => by simp only [evE] at p; exact post.ok R p _ Rp.non
      | _ => exact absurd (show false = true from c) Bool.false_ne_true
    | bool b =>
      cases d with
      | bool b' =>
        have e := of_decide_eq_true (show decide (b' = b) = true from c)
        subst e
        exact pe_bl.imp fun σ H Q ⟨M, A, S, σd, R, sr, p⟩ => by simp only [evE] at p; exact post.ok R p _ (Rp.bl _)
      | _ => exact absurd (show false = true from c) Bool.false_ne_true
    | int b =>
      cases d with
      | int b' =>
        have e := of_decide_eq_true (show decide (b' = b) = true from c)
        subst e
        exact pe_int.imp fun σ H Q ⟨M, A, S, σd, R, sr, p⟩ => by simp only [evE] at p; exact post.ok R p _ (Rp.int _)
      | _ => exact absurd (show false = true from c) Bool.false_ne_true
    | str b =>
      cases d with
      | str b' =>
        have e := of_decide_eq_true (show decide (b' = b) = true from c)
        subst e
        exact pe_str.imp fun σ H Q ⟨M, A, S, σd, R, sr, p⟩ => by simp only [evE] at p; exact post.ok R p _ (Rp.str _)
      | _ => exact absurd (show false = true from c) Bool.false_ne_true
    | _ => cases d <;> exact absurd (show false = true from c) Bool.false_ne_true
  | _ => cases d <;> exact absurd (show false = true from c) Bool.false_ne_true
theorem se_gcon (x : Str) (d : PD) : SE D k (.gcon x d) := by
  intro X W Γ e w tk c
  cases e with
  | Name y pos =>
    obtain ⟨c1, c2⟩ := ba (show (decide (x = y) && glB Γ.sc x && D.const x d) = true from c)
    obtain ⟨c3, c4⟩ := ba c1
    have e := of_decide_eq_true c3
    subst e
    obtain ⟨g1, g2, g3⟩ := gl_of w c4
    obtain ⟨u, v, hm, r, rp⟩ := w.con x d c2
    exact (pe_glob g1 hm r g2).imp fun σ H Q ⟨M, A, S, σd, R, sr, p⟩ => by simp only [evE] at p; exact post.ok R p _ (rp H M)
  | _ => exact absurd (show false = true from c) Bool.false_ne_true
theorem se_bin (op : Operator) {a b : CE} (ia : SE D k a) (ib : SE D k b) : SE D k (.bin op a b) := by
  intro X W Γ e w tk c
  cases e with
  | BinOp x o y pos =>
    obtain ⟨c1, c2⟩ := ba (show (decide (op = o) && chkE D Γ a x && chkE D Γ b y) = true from c)
    obtain ⟨c3, c4⟩ := ba c1
    have e := of_decide_eq_true c3
    subst e
    refine (pe_op (op_binD op) (ia X W Γ x w tk c4) (ib X W Γ y w tk c2)).imp fun σ H Q ⟨M, A, S, σd, R, sr, p⟩ => ?_
    simp only [evE] at p
    refine ⟨M, A, S, σd, R, sr, (post.bind p).imp fun v H1 M1 A1 S1 f1 R1 p1 u1 r1 => ?_⟩
    refine ⟨M1, A1, S1, σd, R1, sr.mono f1, (post.bind p1).imp fun v2 H2 M2 A2 S2 f2 R2 p2 u2 r2 => ?_⟩
    obtain ⟨a', b', z, ea, eb, e, p3⟩ := op2_post p2
    exact ⟨M2, A2, S2, v, v2, a', b', z, R2, r1.mono f2, r2, ea, eb, e, fun H' u f' R' rp => p3 H' M2 A2 f' R' u rp⟩
  | _ => exact absurd (show false = true from c) Bool.false_ne_true
theorem se_neg {a : CE} (ia : SE D k a) : SE D k (.neg a) := by
  intro X W Γ e w tk c
  cases e with
  | UnaryOp o x pos =>
    cases o with
    | USub =>
      refine (pe_un un_negD (ia X W Γ x w tk c)).imp fun σ H Q ⟨M, A, S, σd, R, sr, p⟩ => ?_
      simp only [evE] at p
      refine ⟨M, A, S, σd, R, sr, (post.bind p).imp fun v H1 M1 A1 S1 f1 R1 p1 u1 r1 => ?_⟩
      obtain ⟨a', z, ea, e, p2⟩ := op1_post p1
      refine ⟨M1, A1, S1, v, a', z, R1, r1, ea, e, fun u ⟨i, ez, eu⟩ => ?_⟩
      subst ez eu
      exact post.ok R1 p2 _ (Rp.int i)
    | _ => exact absurd (show false = true from c) Bool.false_ne_true
  | _ => exact absurd (show false = true from c) Bool.false_ne_true
theorem boolD_eq {d : PD} {b : Bool} (h : boolD d = some b) : d = .bool b := by
  cases d with
  | bool c => cases h; rfl
  | _ => cases h
theorem se_bnot {a : CE} (ia : SE D k a) : SE D k (.bnot a) := by
  intro X W Γ e w tk c
  cases e with
  | UnaryOp o x pos =>
    cases o with
    | Not =>
      refine (pe_not (ia X W Γ x w tk c)).imp fun σ H Q ⟨M, A, S, σd, R, sr, p⟩ => ?_
      simp only [evE] at p
      refine ⟨M, A, S, σd, R, sr, (post.bind p).imp fun v H1 M1 A1 S1 f1 R1 p1 u1 r1 => ?_⟩
      obtain ⟨a', z, ea, e, p2⟩ := op1_post p1
      rw [boolD_eq e] at ea
      exact ⟨z, rd_bl r1 ea, post.ok R1 p2 _ (Rp.bl _)⟩
    | _ => exact absurd (show false = true from c) Bool.false_ne_true
  | _ => exact absurd (show false = true from c) Bool.false_ne_true
/-- and, or: values -/
def SAnd (D : Dom) (k : Nat) (cs : CEs) : Prop := ∀ (X : Cx) (W : WX) (Γ : Cs) (es : List Expr) (pos : Pos), Wd D k Γ X → Takes X W → chkEs D Γ cs es = true → PE X (.BoolOp .And es pos) (tV X.K X.mg W fun σ S => evAnd (evCall D.T k) (parOf D.T) σ cs S)
def SOr (D : Dom) (k : Nat) (cs : CEs) : Prop := ∀ (X : Cx) (W : WX) (Γ : Cs) (es : List Expr) (pos : Pos), Wd D k Γ X → Takes X W → chkEs D Γ cs es = true → PE X (.BoolOp .Or es pos) (tV X.K X.mg W fun σ S => evOr (evCall D.T k) (parOf D.T) σ cs S)
theorem _root_.L2.PE.bad {X : Cx} {e : Expr} {t : TE} (h : ∀ σ H Q, ¬ t σ H Q) : PE X e t := ⟨fun _ _ σ H Q _ q => (h σ H Q q).elim⟩
theorem chkEs_nil {Γ : Cs} {es : List Expr} (h : chkEs D Γ .nil es = true) : es = [] := by
  cases es with
  | nil => rfl
  | cons a b => simp [chkEs] at h
theorem chkEs_more {Γ : Cs} {a : CE} {as : CEs} {es : List Expr} (h : chkEs D Γ (.cons a as) es = true) : ∃ e r, es = e :: r := by
  cases es with
  | nil => simp [chkEs] at h
  | cons a b => exact ⟨a, b, rfl⟩
theorem sand_nil : SAnd D k .nil := fun X W Γ es pos w tk c => .bad fun σ H Q ⟨M, A, S, σd, R, sr, p⟩ => by
  simp only [evAnd] at p
  exact p
theorem sor_nil : SOr D k .nil := fun X W Γ es pos w tk c => .bad fun σ H Q ⟨M, A, S, σd, R, sr, p⟩ => by
  simp only [evOr] at p
  exact p
theorem sand_cons {a : CE} {as : CEs} (ia : SE D k a) (is : SAnd D k as) : SAnd D k (.cons a as) := by
  intro X W Γ es pos w tk c
  obtain ⟨e, r, rfl⟩ := chkEs_more c
  obtain ⟨c1, c2, c3⟩ := chkEs_cons c
  cases as with
  | nil =>
    rw [chkEs_nil c3]
    refine (pe_one (ia X W Γ e w tk c1)).imp fun σ H Q ⟨M, A, S, σd, R, sr, p⟩ => ?_
    simp only [evAnd] at p
    exact ⟨M, A, S, σd, R, sr, p⟩
  | cons b bs =>
    obtain ⟨e2, r2, rfl⟩ := chkEs_more c3
    refine (pe_and (ia X W Γ e w tk c1) (is X W Γ _ pos w tk c3)).imp fun σ H Q ⟨M, A, S, σd, R, sr, p⟩ => ?_
    simp only [evAnd] at p
    refine ⟨M, A, S, σd, R, sr, (post.bind p).imp fun v H1 M1 A1 S1 f1 R1 p1 u1 r1 => ?_⟩
    obtain ⟨a', z, ea, e, p2⟩ := op1_post p1
    rw [boolD_eq e] at ea
    refine ⟨z, rd_bl r1 ea, ?_⟩
    cases z with
    | true =>
      rw [if_pos rfl] at p2 ⊢
      exact ⟨M1, A1, S1, σd, R1, sr.mono f1, p2⟩
    | false =>
      rw [if_neg Bool.false_ne_true] at p2 ⊢
      exact post.ok R1 p2 _ (Rp.bl _)
theorem sor_cons {a : CE} {as : CEs} (ia : SE D k a) (is : SOr D k as) : SOr D k (.cons a as) := by
  intro X W Γ es pos w tk c
  obtain ⟨e, r, rfl⟩ := chkEs_more c
  obtain ⟨c1, c2, c3⟩ := chkEs_cons c
  cases as with
  | nil =>
    rw [chkEs_nil c3]
    refine (pe_one (ia X W Γ e w tk c1)).imp fun σ H Q ⟨M, A, S, σd, R, sr, p⟩ => ?_
    simp only [evOr] at p
    exact ⟨M, A, S, σd, R, sr, p⟩
  | cons b bs =>
    obtain ⟨e2, r2, rfl⟩ := chkEs_more c3
    refine (pe_or (ia X W Γ e w tk c1) (is X W Γ _ pos w tk c3)).imp fun σ H Q ⟨M, A, S, σd, R, sr, p⟩ => ?_
    simp only [evOr] at p
    refine ⟨M, A, S, σd, R, sr, (post.bind p).imp fun v H1 M1 A1 S1 f1 R1 p1 u1 r1 => ?_⟩
    obtain ⟨a', z, ea, e, p2⟩ := op1_post p1
    rw [boolD_eq e] at ea
    refine ⟨z, rd_bl r1 ea, ?_⟩
    cases z with
    | true =>
      rw [if_pos rfl] at p2 ⊢
      exact post.ok R1 p2 _ (Rp.bl _)
    | false =>
      rw [if_neg Bool.false_ne_true] at p2 ⊢
      exact ⟨M1, A1, S1, σd, R1, sr.mono f1, p2⟩
theorem se_band {as : CEs} (i : SAnd D k as) : SE D k (.band as) := by
  intro X W Γ e w tk c
  cases e with
  | BoolOp o xs pos =>
    cases o with
    | And =>
      refine (i X W Γ xs pos w tk c).imp fun σ H Q ⟨M, A, S, σd, R, sr, p⟩ => ?_
      simp only [evE] at p
      exact ⟨M, A, S, σd, R, sr, p⟩
    | _ => exact absurd (show false = true from c) Bool.false_ne_true
  | _ => exact absurd (show false = true from c) Bool.false_ne_true
theorem se_bor {as : CEs} (i : SOr D k as) : SE D k (.bor as) := by
  intro X W Γ e w tk c
  cases e with
  | BoolOp o xs pos =>
    cases o with
    | Or =>
      refine (i X W Γ xs pos w tk c).imp fun σ H Q ⟨M, A, S, σd, R, sr, p⟩ => ?_
      simp only [evE] at p
      exact ⟨M, A, S, σd, R, sr, p⟩
    | _ => exact absurd (show false = true from c) Bool.false_ne_true
  | _ => exact absurd (show false = true from c) Bool.false_ne_true
theorem se_ifx {t a b : CE} (it : ST D k t) (ia : SE D k a) (ib : SE D k b) : SE D k (.ifx t a b) := by
  intro X W Γ e w tk c
  cases e with
  | IfExp x y z pos =>
    obtain ⟨c1, c2⟩ := ba (show (chkE D Γ t x && chkE D Γ a y && chkE D Γ b z) = true from c)
    obtain ⟨c3, c4⟩ := ba c1
    refine (pe_ifExp (it X W Γ x w tk c3) (ia X W Γ y w tk c4) (ib X W Γ z w tk c2)).imp fun σ H Q ⟨M, A, S, σd, R, sr, p⟩ => ?_
    simp only [evE] at p
    refine ⟨M, A, S, σd, R, sr, (post.bind p).imp fun v H1 M1 A1 S1 f1 R1 p1 => ?_⟩
    cases v with
    | true =>
      rw [if_pos rfl] at p1 ⊢
      exact ⟨M1, A1, S1, σd, R1, sr.mono f1, p1⟩
    | false =>
      rw [if_neg Bool.false_ne_true] at p1 ⊢
      exact ⟨M1, A1, S1, σd, R1, sr.mono f1, p1⟩
  | _ => exact absurd (show false = true from c) Bool.false_ne_true
theorem marks {e : Expr} {op : CmpOp} (h : (!setB e) = true) : behindInMarks op e = false := by
  cases e <;> first | rfl | cases h
/-- a comparison's reading, before its truth is asked -/
theorem cmp_read {X : Cx} {W : WX} {op : CmpOp} {a b : CE} {σ : L2.St} {H : Hp} {M : Addr → Prop} {A : List Addr} {S : Sto} {σd : Sg} {Q : VK} (R : Rel X.K H M A S) (sr : Sr X.K H M A σd σ)
    (p : post X.K X.mg (fun c d H => W c d σ H) H M A S ((evE (evCall D.T k) (parOf D.T) σd a S).bind fun v S => (evE (evCall D.T k) (parOf D.T) σd b S).bind fun w S => (op2 (cmpD op) S v w).bind fun z S => KA.R.ok z S) fun z H' _ _ _ => Q (.bl z) H') :
    tOp (rC X.K (cmpD op)) (tV X.K X.mg W fun σ S => evE (evCall D.T k) (parOf D.T) σ a S) (tV X.K X.mg W fun σ S => evE (evCall D.T k) (parOf D.T) σ b S) σ H Q := by
  refine ⟨M, A, S, σd, R, sr, (post.bind p).imp fun v H1 M1 A1 S1 f1 R1 p1 u1 r1 => ?_⟩
  refine ⟨M1, A1, S1, σd, R1, sr.mono f1, (post.bind p1).imp fun v2 H2 M2 A2 S2 f2 R2 p2 u2 r2 => ?_⟩
  obtain ⟨a', b', z, ea, eb, e, p3⟩ := op2_post p2
  exact ⟨M2, A2, S2, v, v2, a', b', z, R2, r1.mono f2, r2, ea, eb, e, post.ok R2 p3⟩

theorem se_cmp (op : CmpOp) {a b : CE} (ia : SE D k a) (ib : SE D k b) : SE D k (.cmp op a b) := by
  intro X W Γ e w tk c
  cases e with
  | Compare x os ys pos =>
    match os, ys, c with
    | [o], [y], c =>
      obtain ⟨c1, c2⟩ := ba (show (decide (op = o) && chkE D Γ a x && chkE D Γ b y && !setB y) = true from c)
      obtain ⟨c3, c4⟩ := ba c1
      obtain ⟨c5, c6⟩ := ba c3
      have e := of_decide_eq_true c5
      subst e
      refine (pe_cmpR (op_cmpD op (by have := units_of w; omega)) (ia X W Γ x w tk c6) (ib X W Γ y w tk c4) (marks c2)).imp fun σ H Q ⟨M, A, S, σd, R, sr, p⟩ => ?_
      simp only [evE] at p
      refine ⟨M, A, S, σd, R, sr, (post.bind p).imp fun v H1 M1 A1 S1 f1 R1 p1 u1 r1 => ?_⟩
      refine ⟨M1, A1, S1, σd, R1, sr.mono f1, (post.bind p1).imp fun v2 H2 M2 A2 S2 f2 R2 p2 u2 r2 => ?_⟩
      obtain ⟨a', b', z, ea, eb, e, p3⟩ := op2_post p2
      exact ⟨M2, A2, S2, v, v2, a', b', z, R2, r1.mono f2, r2, ea, eb, e, post.ok R2 p3 _ (Rp.bl _)⟩
    | [], _, c => exact absurd (show false = true from c) Bool.false_ne_true
    | [o], [], c => exact absurd (show false = true from c) Bool.false_ne_true
    | [o], _ :: _ :: _, c => exact absurd (show false = true from c) Bool.false_ne_true
    | _ :: _ :: _, _, c => exact absurd (show false = true from c) Bool.false_ne_true
  | _ => exact absurd (show false = true from c) Bool.false_ne_true
theorem se_cmp2 (o1 o2 : CmpOp) {a b c0 : CE} (ia : SE D k a) (ib : SE D k b) (ic : SE D k c0) : SE D k (.cmp2 o1 o2 a b c0) := by
  intro X W Γ e w tk c
  cases e with
  | Compare x os ys pos =>
    match os, ys, c with
    | [o, o'], [y, z], c =>
      obtain ⟨c1, c2⟩ := ba (show (decide (o1 = o) && decide (o2 = o') && chkE D Γ a x && chkE D Γ b y && chkE D Γ c0 z && !setB y && !setB z) = true from c)
      obtain ⟨c3, c4⟩ := ba c1
      obtain ⟨c5, c6⟩ := ba c3
      obtain ⟨c7, c8⟩ := ba c5
      obtain ⟨c9, c10⟩ := ba c7
      obtain ⟨c11, c12⟩ := ba c9
      have e := of_decide_eq_true c11
      subst e
      have e := of_decide_eq_true c12
      subst e
      have hu : X.A.units + 65 < cLine := by have := units_of w; omega
      refine (pe_chain (op_cmpD o1 hu) (op_cmpD o2 hu) (ia X W Γ x w tk c10) (ib X W Γ y w tk c8) (ic X W Γ z w tk c6) (by show behindInMarks o2 z = false; exact marks c2)).imp fun σ H Q ⟨M, A, S, σd, R, sr, p⟩ => ?_
      simp only [evE] at p
      refine ⟨M, A, S, σd, R, sr, (post.bind p).imp fun v H1 M1 A1 S1 f1 R1 p1 u1 r1 => ?_⟩
      refine ⟨M1, A1, S1, σd, R1, sr.mono f1, (post.bind p1).imp fun v2 H2 M2 A2 S2 f2 R2 p2 u2 r2 => ?_⟩
      obtain ⟨a', b', q, ea, eb, e, p3⟩ := op2_post p2
      refine ⟨M2, A2, S2, v, v2, a', b', q, R2, r1.mono f2, r2, ea, eb, e, q, rfl, ?_⟩
      cases q with
      | true =>
        rw [if_pos rfl] at p3 ⊢
        refine ⟨M2, A2, S2, σd, R2, (sr.mono f1).mono f2, (post.bind p3).imp fun v3 H3 M3 A3 S3 f3 R3 p4 u3 r3 => ?_⟩
        obtain ⟨a2, b2, q2, ea2, eb2, e2, p5⟩ := op2_post p4
        exact ⟨M3, A3, S3, v2, v3, a2, b2, q2, R3, r2.mono f3, r3, ea2, eb2, e2, post.ok R3 p5 _ (Rp.bl _)⟩
      | false =>
        rw [if_neg Bool.false_ne_true] at p3 ⊢
        exact post.ok R2 p3 _ (Rp.bl _)
    | [], _, c => exact absurd (show false = true from c) Bool.false_ne_true
    | [_], [], c => exact absurd (show false = true from c) Bool.false_ne_true
    | [_], _ :: _, c => exact absurd (show false = true from c) Bool.false_ne_true
    | [_, _], [], c => exact absurd (show false = true from c) Bool.false_ne_true
    | [_, _], [_], c => exact absurd (show false = true from c) Bool.false_ne_true
    | [_, _], _ :: _ :: _ :: _, c => exact absurd (show false = true from c) Bool.false_ne_true
    | _ :: _ :: _ :: _, _, c => exact absurd (show false = true from c) Bool.false_ne_true
  | _ => exact absurd (show false = true from c) Bool.false_ne_true
/-- None or not -/
theorem non_iff {K : PySem.W.Frag} {H : Hp} {M : Addr → Prop} {A : List Addr} {v : VV} {u : V} (r : Vr K H M A v u) : decide (u = V.non) = isNonV v := by
  cases v with
  | d x =>
    have r' : Rp K H M x u := r
    cases r' <;> rfl
  | loc l =>
    obtain ⟨a, _, rfl⟩ := r
    rfl
  | ex e => exact r.elim
theorem isn_of {neg : Bool} {a : CE} {o : CmpOp} {x : Expr} {j : Nat} {p pos : Pos} {Γ : Cs} (c : chkE D Γ (.isn neg a) (.Compare x [o] [.Constant .none j p] pos) = true) : o = (if neg = true then .IsNot else .Is) ∧ chkE D Γ a x = true := by
  obtain ⟨c1, c2⟩ := ba (show (decide (o = if neg = true then .IsNot else .Is) && chkE D Γ a x) = true from c)
  exact ⟨of_decide_eq_true c1, c2⟩
theorem no {P : Prop} (h : false = true) : P := Bool.noConfusion h
theorem se_isn (neg : Bool) {a : CE} (ia : SE D k a) : SE D k (.isn neg a) := by
  intro X W Γ e w tk c
  cases e with
  | Compare x os ys pos =>
    cases os with
    | nil => exact no c
    | cons o os =>
      cases os with
      | cons _ _ => exact no c
      | nil =>
        cases ys with
        | nil => exact no c
        | cons y ys =>
          cases ys with
          | cons _ _ => cases y <;> first | exact no c | (rename_i v _ _; cases v <;> exact no c)
          | nil =>
            cases y with
            | Constant v j p =>
              cases v with
              | none =>
                obtain ⟨rfl, c2⟩ := isn_of c
                have fin : ∀ (σ : L2.St) (H : Hp) (Q : VK), tV X.K X.mg W (fun σ S => evE (evCall D.T k) (parOf D.T) σ (.isn neg a) S) σ H Q →
                    tV X.K X.mg W (fun σ S => evE (evCall D.T k) (parOf D.T) σ a S) σ H fun u H' => Q (.bl (decide (u = V.non) != neg)) H' := fun σ H Q ⟨M, A, S, σd, R, sr, p⟩ => by
                  simp only [evE] at p
                  refine ⟨M, A, S, σd, R, sr, (post.bind p).imp fun v H1 M1 A1 S1 f1 R1 p1 u1 r1 => ?_⟩
                  have q := post.ok R1 p1 (.bl _) (Rp.bl _)
                  show Q (V.bl (decide (u1 = V.non) != neg)) H1
                  rw [non_iff r1]
                  exact q
                cases neg with
                | true =>
                  refine (pe_cmp (pc_notN (ia X W Γ x w tk c2))).imp fun σ H Q t => ?_
                  have q := fin σ H Q t
                  simpa [tNotN] using q
                | false =>
                  refine (pe_cmp (pc_isN (ia X W Γ x w tk c2))).imp fun σ H Q t => ?_
                  have q := fin σ H Q t
                  simpa [tIsN] using q
              | _ => exact no c
            | _ => exact no c
  | _ => exact no c
end
end KA
/-! KAExpr2: tests, calls, built-in calls, subscripts, displays. -/
namespace KA
open PySem PySem.Spec PyProof.Rows L2
section
variable {D : Dom} {k : Nat}
/-! ### tests -/
/-- a test that is a value's truth -/
theorem st_value {cc : CE} (i : SE D k cc) (hp : ∀ (Γ : Cs) (e : Expr) (env : Env), chkE D Γ cc e = true → ∀ whole, isTrue e env whole = (do let v ← whole; standAt e.pos; holding [v] (truthy v)))
    (he : ∀ σ S, evT (evCall D.T k) (parOf D.T) σ cc S = (evE (evCall D.T k) (parOf D.T) σ cc S).bind fun v S => op1 truthD S v) : ST D k cc := by
  intro X W Γ e w tk c
  refine (pt_truth (i X W Γ e w tk c) (hp Γ e X.env c)).imp fun σ H Q ⟨M, A, S, σd, R, sr, p⟩ => ?_
  simp only [he] at p
  refine ⟨M, A, S, σd, R, sr, (post.bind p).imp fun v H1 M1 A1 S1 f1 R1 p1 u1 r1 => ?_⟩
  unfold op1 at p1
  cases e1 : rd S1 v with
  | none => rw [e1] at p1; exact p1.elim
  | some a =>
    rw [e1] at p1
    cases e2 : truthD a with
    | none => simp only [e2] at p1; exact p1.elim
    | some b =>
      simp only [e2] at p1
      exact ⟨b, tru_K R1 r1 e1 e2, post.ok R1 p1⟩
/-- a comparison as a test: its value is a bool -/
theorem st_bool {cc : CE} {X : Cx} {W : WX} {e : Expr} {t : TE} (h : PT X e (tTest t)) (hi : ∀ σ H Q, tV X.K X.mg W (fun σ S => evE (evCall D.T k) (parOf D.T) σ cc S) σ H Q → t σ H Q)
    (hb : ∀ σ S v S', evE (evCall D.T k) (parOf D.T) σ cc S = .ok v S' → ∃ b, v = .d (.bool b))
    (he : ∀ σ S, evT (evCall D.T k) (parOf D.T) σ cc S = (evE (evCall D.T k) (parOf D.T) σ cc S).bind fun v S => op1 truthD S v) :
    PT X e (tBo X.K X.mg W fun σ S => evT (evCall D.T k) (parOf D.T) σ cc S) := by
  refine h.imp fun σ H Q ⟨M, A, S, σd, R, sr, p⟩ => hi σ H _ ?_
  simp only [he] at p
  refine ⟨M, A, S, σd, R, sr, ?_⟩
  dsimp only
  have hq := hb σd S
  cases q : evE (evCall D.T k) (parOf D.T) σd cc S with
  | bad => rw [q] at p; exact p
  | exc e1 S1 => rw [q] at p; exact p
  | ok v S1 =>
    obtain ⟨b, rfl⟩ := hq v S1 q
    rw [q] at p
    intro H' M' A' f' R' u r
    have r' : Rp X.K H' M' (.bool b) u := r
    cases r'
    exact ⟨b, rfl, p H' M' A' f' R'⟩
theorem R.bind_eq {α β : Type} {r : R α} {f : α → Sto → R β} {b : β} {S' : Sto} (h : r.bind f = .ok b S') : ∃ a S1, r = .ok a S1 ∧ f a S1 = .ok b S' := by
  cases r with
  | ok a S1 => exact ⟨a, S1, rfl, h⟩
  | exc _ _ => cases h
  | bad => cases h
theorem st_cmp (op : CmpOp) {a b : CE} (ia : SE D k a) (ib : SE D k b) : ST D k (.cmp op a b) := by
  intro X W Γ e w tk c
  cases e with
  | Compare x os ys pos =>
    match os, ys, c with
    | [o], [y], c =>
      obtain ⟨c1, c2⟩ := ba (show (decide (op = o) && chkE D Γ a x && chkE D Γ b y && !setB y) = true from c)
      obtain ⟨c3, c4⟩ := ba c1
      obtain ⟨c5, c6⟩ := ba c3
      have e := of_decide_eq_true c5
      subst e
      refine st_bool (cc := .cmp op a b) (pt_cmpR (op_cmpD op (by have := units_of w; omega)) (ia X W Γ x w tk c6) (ib X W Γ y w tk c4) (marks c2)) (fun σ H Q ⟨M, A, S, σd, R, sr, p⟩ => ?_) (fun σ S v S' h => ?_) (fun σ S => by simp only [evT])
      · simp only [evE] at p
        refine ⟨M, A, S, σd, R, sr, (post.bind p).imp fun v H1 M1 A1 S1 f1 R1 p1 u1 r1 => ?_⟩
        refine ⟨M1, A1, S1, σd, R1, sr.mono f1, (post.bind p1).imp fun v2 H2 M2 A2 S2 f2 R2 p2 u2 r2 => ?_⟩
        obtain ⟨a', b', z, ea, eb, e, p3⟩ := op2_post p2
        exact ⟨M2, A2, S2, v, v2, a', b', z, R2, r1.mono f2, r2, ea, eb, e, post.ok R2 p3 _ (Rp.bl _)⟩
      · simp only [evE] at h
        obtain ⟨_, _, _, h⟩ := R.bind_eq h
        obtain ⟨_, _, _, h⟩ := R.bind_eq h
        obtain ⟨z, _, _, h⟩ := R.bind_eq h
        cases h
        exact ⟨z, rfl⟩
    | [], _, c => exact absurd (show false = true from c) Bool.false_ne_true
    | [o], [], c => exact absurd (show false = true from c) Bool.false_ne_true
    | [o], _ :: _ :: _, c => exact absurd (show false = true from c) Bool.false_ne_true
    | _ :: _ :: _, _, c => exact absurd (show false = true from c) Bool.false_ne_true
  | _ => exact absurd (show false = true from c) Bool.false_ne_true
theorem st_cmp2 (o1 o2 : CmpOp) {a b c0 : CE} (ia : SE D k a) (ib : SE D k b) (ic : SE D k c0) : ST D k (.cmp2 o1 o2 a b c0) := by
  intro X W Γ e w tk c
  cases e with
  | Compare x os ys pos =>
    match os, ys, c with
    | [o, o'], [y, z], c =>
      obtain ⟨c1, c2⟩ := ba (show (decide (o1 = o) && decide (o2 = o') && chkE D Γ a x && chkE D Γ b y && chkE D Γ c0 z && !setB y && !setB z) = true from c)
      obtain ⟨c3, c4⟩ := ba c1
      obtain ⟨c5, c6⟩ := ba c3
      obtain ⟨c7, c8⟩ := ba c5
      obtain ⟨c9, c10⟩ := ba c7
      obtain ⟨c11, c12⟩ := ba c9
      have e := of_decide_eq_true c11
      subst e
      have e := of_decide_eq_true c12
      subst e
      have hu : X.A.units + 65 < cLine := by have := units_of w; omega
      refine st_bool (cc := .cmp2 o1 o2 a b c0) (pt_chain (op_cmpD o1 hu) (op_cmpD o2 hu) (ia X W Γ x w tk c10) (ib X W Γ y w tk c8) (ic X W Γ z w tk c6) (by show behindInMarks o2 z = false; exact marks c2)) (fun σ H Q ⟨M, A, S, σd, R, sr, p⟩ => ?_) (fun σ S v S' h => ?_) (fun σ S => by simp only [evT])
      · simp only [evE] at p
        refine ⟨M, A, S, σd, R, sr, (post.bind p).imp fun v H1 M1 A1 S1 f1 R1 p1 u1 r1 => ?_⟩
        refine ⟨M1, A1, S1, σd, R1, sr.mono f1, (post.bind p1).imp fun v2 H2 M2 A2 S2 f2 R2 p2 u2 r2 => ?_⟩
        obtain ⟨a', b', q, ea, eb, e, p3⟩ := op2_post p2
        refine ⟨M2, A2, S2, v, v2, a', b', q, R2, r1.mono f2, r2, ea, eb, e, q, rfl, ?_⟩
        cases q with
        | true =>
          rw [if_pos rfl] at p3 ⊢
          refine ⟨M2, A2, S2, σd, R2, (sr.mono f1).mono f2, (post.bind p3).imp fun v3 H3 M3 A3 S3 f3 R3 p4 u3 r3 => ?_⟩
          obtain ⟨a2, b2, q2, ea2, eb2, e2, p5⟩ := op2_post p4
          exact ⟨M3, A3, S3, v2, v3, a2, b2, q2, R3, r2.mono f3, r3, ea2, eb2, e2, post.ok R3 p5 _ (Rp.bl _)⟩
        | false =>
          rw [if_neg Bool.false_ne_true] at p3 ⊢
          exact post.ok R2 p3 _ (Rp.bl _)
      · simp only [evE] at h
        obtain ⟨_, _, _, h⟩ := R.bind_eq h
        obtain ⟨_, _, _, h⟩ := R.bind_eq h
        obtain ⟨z, _, _, h⟩ := R.bind_eq h
        split at h
        · obtain ⟨_, _, _, h⟩ := R.bind_eq h
          obtain ⟨z2, _, _, h⟩ := R.bind_eq h
          cases h
          exact ⟨_, rfl⟩
        · cases h
          exact ⟨_, rfl⟩
    | [], _, c => exact absurd (show false = true from c) Bool.false_ne_true
    | [_], [], c => exact absurd (show false = true from c) Bool.false_ne_true
    | [_], _ :: _, c => exact absurd (show false = true from c) Bool.false_ne_true
    | [_, _], [], c => exact absurd (show false = true from c) Bool.false_ne_true
    | [_, _], [_], c => exact absurd (show false = true from c) Bool.false_ne_true
    | [_, _], _ :: _ :: _ :: _, c => exact absurd (show false = true from c) Bool.false_ne_true
    | _ :: _ :: _ :: _, _, c => exact absurd (show false = true from c) Bool.false_ne_true
  | _ => exact absurd (show false = true from c) Bool.false_ne_true
theorem st_isn (neg : Bool) {a : CE} (ia : SE D k a) : ST D k (.isn neg a) := by
  intro X W Γ e w tk c
  cases e with
  | Compare x os ys pos =>
    cases os with
    | nil => exact no c
    | cons o os =>
      cases os with
      | cons _ _ => exact no c
      | nil =>
        cases ys with
        | nil => exact no c
        | cons y ys =>
          cases ys with
          | cons _ _ => cases y <;> first | exact no c | (rename_i v _ _; cases v <;> exact no c)
          | nil =>
            cases y with
            | Constant v j p =>
              cases v with
              | none =>
                obtain ⟨rfl, c2⟩ := isn_of c
                have fin : ∀ (σ : L2.St) (H : Hp) (Q : VK), tV X.K X.mg W (fun σ S => evE (evCall D.T k) (parOf D.T) σ (.isn neg a) S) σ H Q →
                    tV X.K X.mg W (fun σ S => evE (evCall D.T k) (parOf D.T) σ a S) σ H fun u H' => Q (.bl (decide (u = V.non) != neg)) H' := fun σ H Q ⟨M, A, S, σd, R, sr, p⟩ => by
                  simp only [evE] at p
                  refine ⟨M, A, S, σd, R, sr, (post.bind p).imp fun v H1 M1 A1 S1 f1 R1 p1 u1 r1 => ?_⟩
                  have q := post.ok R1 p1 (.bl _) (Rp.bl _)
                  show Q (V.bl (decide (u1 = V.non) != neg)) H1
                  rw [non_iff r1]
                  exact q
                have hb : ∀ σ S v S', evE (evCall D.T k) (parOf D.T) σ (.isn neg a) S = .ok v S' → ∃ b, v = .d (.bool b) := fun σ S v S' h => by
                  simp only [evE] at h
                  obtain ⟨_, _, _, h⟩ := R.bind_eq h
                  cases h
                  exact ⟨_, rfl⟩
                cases neg with
                | true =>
                  refine st_bool (cc := .isn true a) (t := tNotN (tV X.K X.mg W fun σ S => evE (evCall D.T k) (parOf D.T) σ a S)) (pt_cmp (pc_notN (ia X W Γ x w tk c2))) (fun σ H Q t => ?_) hb (fun σ S => by simp only [evT])
                  have q := fin σ H Q t
                  simpa [tNotN] using q
                | false =>
                  refine st_bool (cc := .isn false a) (t := tIsN (tV X.K X.mg W fun σ S => evE (evCall D.T k) (parOf D.T) σ a S)) (pt_cmp (pc_isN (ia X W Γ x w tk c2))) (fun σ H Q t => ?_) hb (fun σ S => by simp only [evT])
                  have q := fin σ H Q t
                  simpa [tIsN] using q
              | _ => exact no c
            | _ => exact no c
  | _ => exact no c
theorem st_bnot {a : CE} (ia : ST D k a) : ST D k (.bnot a) := by
  intro X W Γ e w tk c
  cases e with
  | UnaryOp o x pos =>
    cases o with
    | Not =>
      refine (pt_not (ia X W Γ x w tk c)).imp fun σ H Q ⟨M, A, S, σd, R, sr, p⟩ => ?_
      simp only [evT] at p
      exact ⟨M, A, S, σd, R, sr, (post.bind p).imp fun b H1 M1 A1 S1 f1 R1 p1 => post.ok R1 p1⟩
    | _ => exact absurd (show false = true from c) Bool.false_ne_true
  | _ => exact absurd (show false = true from c) Bool.false_ne_true
def STAnd (D : Dom) (k : Nat) (cs : CEs) : Prop := ∀ (X : Cx) (W : WX) (Γ : Cs) (es : List Expr) (pos : Pos), Wd D k Γ X → Takes X W → chkEs D Γ cs es = true → PW X (.BoolOp .And es pos) (tBo X.K X.mg W fun σ S => evTAnd (evCall D.T k) (parOf D.T) σ cs S)
def STOr (D : Dom) (k : Nat) (cs : CEs) : Prop := ∀ (X : Cx) (W : WX) (Γ : Cs) (es : List Expr) (pos : Pos), Wd D k Γ X → Takes X W → chkEs D Γ cs es = true → PW X (.BoolOp .Or es pos) (tBo X.K X.mg W fun σ S => evTOr (evCall D.T k) (parOf D.T) σ cs S)
theorem _root_.L2.PW.imp {X : Cx} {e : Expr} {t t' : TT} (h : PW X e t) (i : ∀ σ H Q, t' σ H Q → t σ H Q) : PW X e t' := ⟨fun wh pins s σ H Q I q => h.run wh pins s σ H Q I (i σ H Q q)⟩
theorem _root_.L2.PW.bad {X : Cx} {e : Expr} {t : TT} (h : ∀ σ H Q, ¬ t σ H Q) : PW X e t := ⟨fun _ _ _ σ H Q _ q => (h σ H Q q).elim⟩
theorem stand_nil : STAnd D k .nil := fun X W Γ es pos w tk c => .bad fun σ H Q ⟨M, A, S, σd, R, sr, p⟩ => by
  simp only [evTAnd] at p
  exact p
theorem stor_nil : STOr D k .nil := fun X W Γ es pos w tk c => .bad fun σ H Q ⟨M, A, S, σd, R, sr, p⟩ => by
  simp only [evTOr] at p
  exact p
theorem stand_cons {a : CE} {as : CEs} (ia : ST D k a) (is : STAnd D k as) : STAnd D k (.cons a as) := by
  intro X W Γ es pos w tk c
  obtain ⟨e, r, rfl⟩ := chkEs_more c
  obtain ⟨c1, c2, c3⟩ := chkEs_cons c
  cases as with
  | nil =>
    rw [chkEs_nil c3]
    refine (pw_and1 (ia X W Γ e w tk c1)).imp fun σ H Q ⟨M, A, S, σd, R, sr, p⟩ => ?_
    simp only [evTAnd] at p
    exact ⟨M, A, S, σd, R, sr, p⟩
  | cons b bs =>
    obtain ⟨e2, r2, rfl⟩ := chkEs_more c3
    refine (pw_and (ia X W Γ e w tk c1) (is X W Γ _ pos w tk c3)).imp fun σ H Q ⟨M, A, S, σd, R, sr, p⟩ => ?_
    simp only [evTAnd] at p
    refine ⟨M, A, S, σd, R, sr, (post.bind p).imp fun z H1 M1 A1 S1 f1 R1 p2 => ?_⟩
    cases z with
    | true =>
      rw [if_pos rfl] at p2 ⊢
      exact ⟨M1, A1, S1, σd, R1, sr.mono f1, p2⟩
    | false =>
      rw [if_neg Bool.false_ne_true] at p2 ⊢
      exact post.ok R1 p2
theorem stor_cons {a : CE} {as : CEs} (ia : ST D k a) (is : STOr D k as) : STOr D k (.cons a as) := by
  intro X W Γ es pos w tk c
  obtain ⟨e, r, rfl⟩ := chkEs_more c
  obtain ⟨c1, c2, c3⟩ := chkEs_cons c
  cases as with
  | nil =>
    rw [chkEs_nil c3]
    refine (pw_or1 (ia X W Γ e w tk c1)).imp fun σ H Q ⟨M, A, S, σd, R, sr, p⟩ => ?_
    simp only [evTOr] at p
    exact ⟨M, A, S, σd, R, sr, p⟩
  | cons b bs =>
    obtain ⟨e2, r2, rfl⟩ := chkEs_more c3
    refine (pw_or (ia X W Γ e w tk c1) (is X W Γ _ pos w tk c3)).imp fun σ H Q ⟨M, A, S, σd, R, sr, p⟩ => ?_
    simp only [evTOr] at p
    refine ⟨M, A, S, σd, R, sr, (post.bind p).imp fun z H1 M1 A1 S1 f1 R1 p2 => ?_⟩
    cases z with
    | true =>
      rw [if_pos rfl] at p2 ⊢
      exact post.ok R1 p2
    | false =>
      rw [if_neg Bool.false_ne_true] at p2 ⊢
      exact ⟨M1, A1, S1, σd, R1, sr.mono f1, p2⟩
theorem st_band {as : CEs} (i : STAnd D k as) : ST D k (.band as) := by
  intro X W Γ e w tk c
  cases e with
  | BoolOp o xs pos =>
    cases o with
    | And =>
      refine ((i X W Γ xs pos w tk c).pt).imp fun σ H Q ⟨M, A, S, σd, R, sr, p⟩ => ?_
      simp only [evT] at p
      exact ⟨M, A, S, σd, R, sr, p⟩
    | _ => exact absurd (show false = true from c) Bool.false_ne_true
  | _ => exact absurd (show false = true from c) Bool.false_ne_true
theorem st_bor {as : CEs} (i : STOr D k as) : ST D k (.bor as) := by
  intro X W Γ e w tk c
  cases e with
  | BoolOp o xs pos =>
    cases o with
    | Or =>
      refine ((i X W Γ xs pos w tk c).pt).imp fun σ H Q ⟨M, A, S, σd, R, sr, p⟩ => ?_
      simp only [evT] at p
      exact ⟨M, A, S, σd, R, sr, p⟩
    | _ => exact absurd (show false = true from c) Bool.false_ne_true
  | _ => exact absurd (show false = true from c) Bool.false_ne_true
theorem st_ifx {a b c : CE} : ST D k (.ifx a b c) := fun X W Γ e w tk cc => ⟨fun pins s σ H Q I ⟨M, A, S, σd, R, sr, p⟩ => by
  simp only [evT] at p
  exact p.elim⟩
end
end KA
/-! KAExpr3: argument lists, calls, built-in calls, subscripts, displays. -/
namespace KA
open PySem PySem.Spec PyProof.Rows L2
section
variable {D : Dom} {k : Nat}
theorem _root_.L2.PA.bad {X : Cx} {es : List Expr} {t : TA} (h : ∀ σ H Q, ¬ t σ H Q) : PA X es t := ⟨fun _ _ _ σ H Q _ q => (h σ H Q q).elim⟩
theorem ses_nil : SEs D k .nil := fun X W Γ es w tk c => by
  rw [chkEs_nil c]
  refine pa_nil.imp fun σ H Q ⟨M, A, S, σd, R, sr, p⟩ => ?_
  simp only [evEs] at p
  exact post.ok R p _ .nil
theorem ses_cons {a : CE} {as : CEs} (ia : SE D k a) (is : SEs D k as) : SEs D k (.cons a as) := by
  intro X W Γ es w tk c
  obtain ⟨e, r, rfl⟩ := chkEs_more c
  obtain ⟨c1, c2, c3⟩ := chkEs_cons c
  refine (pa_cons (ia X W Γ e w tk c1) (is X W Γ r w tk c3) (star_cons c2)).imp fun σ H Q ⟨M, A, S, σd, R, sr, p⟩ => ?_
  simp only [evEs] at p
  refine ⟨M, A, S, σd, R, sr, (post.bind p).imp fun v H1 M1 A1 S1 f1 R1 p1 u1 r1 => ?_⟩
  refine ⟨M1, A1, S1, σd, R1, sr.mono f1, (post.bind p1).imp fun vs H2 M2 A2 S2 f2 R2 p2 us rs => ?_⟩
  exact post.ok R2 p2 _ (.cons (r1.mono f2) rs)
theorem sxs_nil : SXs D k .nil := fun X W Γ es w tk c => by
  rw [chkEs_nil c]
  refine pa_nil.imp fun σ H Q ⟨M, A, S, σd, R, sr, p⟩ => ?_
  simp only [evXs] at p
  exact post.ok R p _ .nil
theorem post.assoc {α β γ : Type} {K : PySem.W.Frag} {mg : Str → Option Value} {W : XK} {H : Hp} {M : Addr → Prop} {A : List Addr} {S : Sto} {r : R α} {f : α → Sto → R β} {g : β → Sto → R γ} {Q : γ → Hp → (Addr → Prop) → List Addr → Sto → Prop}
    (h : post K mg W H M A S ((r.bind f).bind g) Q) : post K mg W H M A S (r.bind fun a S => (f a S).bind g) Q := by
  cases r <;> exact h
theorem sxs_cons {a : CE} {as : CEs} (ia : SE D k a) (is : SXs D k as) : SXs D k (.cons a as) := by
  intro X W Γ es w tk c
  obtain ⟨e, r, rfl⟩ := chkEs_more c
  obtain ⟨c1, c2, c3⟩ := chkEs_cons c
  refine (pa_cons (ia X W Γ e w tk c1) (is X W Γ r w tk c3) (star_cons c2)).imp fun σ H Q ⟨M, A, S, σd, R, sr, p⟩ => ?_
  simp only [evXs] at p
  refine ⟨M, A, S, σd, R, sr, (post.bind (post.assoc p)).imp fun v H1 M1 A1 S1 f1 R1 p1 u1 r1 => ?_⟩
  obtain ⟨x, S2, M2, R2, f2, rp, p2⟩ := esc_post R1 r1 p1
  refine ⟨M2, A1, S2, σd, R2, (sr.mono f1).mono f2, (post.bind p2).imp fun vs H3 M3 A3 S3 f3 R3 p3 us rs => ?_⟩
  exact post.ok R3 p3 _ (.cons (rp.stay f3.st) rs)
/-! ### calls of defs -/
section
variable {X : Cx} {W : WX} {kk : Nat} {f : Addr} {fd : FuncData} {ps ks : List Str} {sp : Sp} {x : Str} {p pos : Pos} {e : Expr} {es : List Expr} {t : TA} {kws : List Keyword}
theorem run_fnG {pins : List (Addr × Obj)} {σ : L2.St} {H : Hp} {s : Shared} {Q : VK} {us : List Value} {vs : List V} {args : Args} (F : FnG X.prog X.w X.K X.mg X.base kk f fd ps sp) (hr : Room kk X.A) (hg : X.A.guards = some []) (tk : Takes X W)
    (I : Inv X pins σ H s) (hb : BindsTo s fd args (ps.zip us)) (r : Vals vs us) (h : sp vs H Q fun c d H => W c d σ H) : codeAny (model X.prog X.w) X.A (.call (.ref f) args) (fun r s' => match r with | .ok (.ret u) => EP X pins σ Q u s' | .ok _ => False | .error e => X.xe e s') s := by
  refine codeAny_mono (F.run X.A X.stack s H args us vs Q _ hr hg I.env0 hb r h) fun r s' hq => ?_
  cases r with
  | error e => exact passAt (W := W) tk σ pins H s e s' I hq
  | ok fl =>
    cases fl with
    | ret u => exact I.after hq
    | next => exact False.elim hq
    | brk => exact False.elim hq
    | cont => exact False.elim hq
theorem call_mono {pins : List (Addr × Obj)} {σ : L2.St} {Q : VK} {s : Shared} {args : Args} (h : codeAny (model X.prog X.w) X.A (.call (.ref f) args) (fun r s' => match r with | .ok (.ret u) => EP X pins σ Q u s' | .ok _ => False | .error e => X.xe e s') s) :
    wpAny (model X.prog X.w) X.A (call (.ref f) args.pos args.kw) (EP X pins σ Q) X.xe s := by
  refine wpAny_call (codeAny_mono h fun r s' hq => ?_)
  cases r with
  | error e => exact hq
  | ok fl =>
    cases fl with
    | ret u => exact hq
    | next => exact False.elim hq
    | brk => exact False.elim hq
    | cont => exact False.elim hq
/-- f(e, ..) -/
def tCallG (sp : Sp) (W : WX) (t : TA) : TE := fun σ H Q => t σ H fun vs H1 => sp vs H1 Q fun c d H => W c d σ H
theorem pe_callG (F : FnG X.prog X.w X.K X.mg X.base kk f fd ps sp) (hr : Room kk X.A) (hgd : X.A.guards = some []) (hg : Gl X x) (hm : X.mg x = some (.ref f)) (hk : PySem.W.keepIn X.K (.ref f) = true) (hb : Binds X.K fd ps []) (tk : Takes X W)
    (ha : PA X (e :: es) t) (hdb : (x == ("__debug__" : Str)) = false) (he : starEach (e :: es) X.env = (false, eval e X.env) :: starEach es X.env) (hpl : (backTo pos (starEach es X.env)).any (·.1) = false) :
    PE X (.Call (.Name x p) (e :: es) [] pos) (tCallG sp W t) := by
  refine ⟨fun pins s σ H Q I h => ?_⟩
  refine wpAny_Call_Name_kw (ld_glob I hg hm ?_ hdb)
  refine PySem.W.callWith_K (h₀ := X.base) I.ok.mod.kin hk (thn (ha.run pos pins s σ H _ I h) fun us s1 ⟨vs, H1, I1, r, q⟩ => ⟨I1.kIn, ?_⟩) he hpl
  have hl : us.length = ps.length := by rw [← r.length]; exact F.len _ _ _ _ q
  have b := hb s1 us I1.kIn (by rw [List.append_nil]; exact hl)
  rw [List.append_nil] at b
  exact call_mono (args := ⟨us, []⟩) (run_fnG F hr hgd tk I1 b r q)
end
theorem arity {T : Tab} {f : Nat} {d : FD} {kk : Nat} {vs : List VV} {S : Sto} {K : PySem.W.Frag} {mg : Str → Option Value} {W : XK} {H : Hp} {M : Addr → Prop} {A : List Addr} {Q : VV → Hp → (Addr → Prop) → List Addr → Sto → Prop} (hd : T f = some d)
    (h : post K mg W H M A S (evCall T kk f vs S) Q) : vs.length = d.np := by
  cases kk with
  | zero => exact h.elim
  | succ n =>
    unfold evCall at h
    rw [hd] at h
    dsimp only at h
    split at h
    · assumption
    · exact h.elim
theorem fnB_of {f : Nat} {x : Str} (h : D.fnB f x = true) : ∃ d, D.T f = some d ∧ d.name = x := by
  unfold Dom.fnB at h
  split at h
  · exact ⟨_, by assumption, of_decide_eq_true h⟩
  · cases h
theorem se_call (f : Nat) {as : CEs} (is : SEs D k as) : SE D k (.call f as) := by
  intro X W Γ e w tk c
  cases e with
  | Call fn es kws pos =>
    cases fn with
    | Name x p =>
      cases es with
      | nil => cases kws <;> exact no c
      | cons e es =>
        cases kws with
        | cons _ _ => exact no c
        | nil =>
          obtain ⟨c1, c2⟩ := ba (show (D.fnB f x && glB Γ.sc x && chkEs D Γ as (e :: es)) = true from c)
          obtain ⟨c3, c4⟩ := ba c1
          obtain ⟨d, hd, rfl⟩ := fnB_of c3
          obtain ⟨g1, g2, g3⟩ := gl_of w c4
          obtain ⟨hnp, fa, fd, hm, hk, F, hb, _⟩ := w.fns f d hd
          cases as with
          | nil => exact no (by simp [chkEs] at c2)
          | cons a as =>
            obtain ⟨c5, c6, c7⟩ := chkEs_cons c2
            refine (pe_callG F w.room w.grd g1 hm hk hb tk (is X W Γ _ w tk c2) g2 (star_cons c6) (star_plain c7)).imp fun σ H Q ⟨M, A, S, σd, R, sr, p⟩ => ?_
            simp only [evE] at p
            refine ⟨M, A, S, σd, R, sr, (post.bind p).imp fun vs H1 M1 A1 S1 f1 R1 p1 us rs => ?_⟩
            refine ⟨M1, A1, S1, vs, R1, rs, ?_, p1⟩
            rw [← rs.length, arity hd p1, List.length_take]
            omega
    | _ => exact no c
  | _ => exact no c
/-! ### calls by keywords -/
theorem lookup_rel {K : PySem.W.Frag} {H : Hp} {M : Addr → Prop} {A : List Addr} {p : Str} : ∀ {ks : List Str} {vs : List VV} {us : List V}, Vs K H M A vs us → ∀ v, (ks.zip vs).lookup p = some v → ∃ u, (ks.zip us).lookup p = some u ∧ Vr K H M A v u
  | [], _, _, _, v, h => by simp at h
  | _ :: _, _, _, .nil, v, h => by simp at h
  | k0 :: ks, _, _, .cons r t, v, h => by
    rw [List.zip_cons_cons, List.lookup_cons] at h ⊢
    cases hb : p == k0 with
    | true =>
      rw [hb] at h
      have : _ = v := Option.some.inj h
      subst this
      exact ⟨_, rfl, r⟩
    | false =>
      rw [hb] at h
      exact lookup_rel t v h
theorem lookup_vals {p : Str} : ∀ {ks : List Str} {us : List V} {ws : List Value}, Vals us ws → ∀ u, (ks.zip us).lookup p = some u → ∃ w, (ks.zip ws).lookup p = some w ∧ RelV u w
  | [], _, _, _, v, h => by simp at h
  | _ :: _, _, _, .nil, v, h => by simp at h
  | k0 :: ks, _, _, .cons r t, v, h => by
    rw [List.zip_cons_cons, List.lookup_cons] at h ⊢
    cases hb : p == k0 with
    | true =>
      rw [hb] at h
      have : _ = v := Option.some.inj h
      subst this
      exact ⟨_, rfl, r⟩
    | false =>
      rw [hb] at h
      exact lookup_vals t v h
def kwV (ps ks : List Str) (us : List V) : List V := ps.filterMap fun p => (ks.zip us).lookup p
theorem keyArgs_rel {K : PySem.W.Frag} {H : Hp} {M : Addr → Prop} {A : List Addr} {ks : List Str} {vs : List VV} {us : List V} (r : Vs K H M A vs us) : ∀ {ps : List Str} {xs : List VV}, keyArgs ps ks vs = some xs → Vs K H M A xs (kwV ps ks us)
  | [], xs, h => by
    have : xs = [] := by simpa [keyArgs] using h.symm
    subst this
    exact .nil
  | p :: ps, xs, h => by
    unfold keyArgs at h
    rw [List.mapM_cons] at h
    cases e : (ks.zip vs).lookup p with
    | none => rw [e] at h; simp at h
    | some v =>
      rw [e] at h
      cases e2 : ps.mapM fun p => (ks.zip vs).lookup p with
      | none => rw [e2] at h; simp at h
      | some ys =>
        rw [e2] at h
        have : v :: ys = xs := by simpa using h
        subst this
        obtain ⟨u, hu, ru⟩ := lookup_rel r v e
        unfold kwV
        rw [List.filterMap_cons, hu]
        exact .cons ru (keyArgs_rel r e2)
theorem kw_vals {ks : List Str} {us : List V} {ws : List Value} (r : Vals us ws) : ∀ {ps : List Str}, (∀ p ∈ ps, ∃ u, (ks.zip us).lookup p = some u) → Vals (kwV ps ks us) (kwG ps ks ws)
  | [], _ => .nil
  | p :: ps, h => by
    obtain ⟨u, hu⟩ := h p List.mem_cons_self
    obtain ⟨w', hw, rw'⟩ := lookup_vals r u hu
    unfold kwV kwG
    rw [List.filterMap_cons, List.filterMap_cons, hu, hw]
    exact .cons rw' (kw_vals r fun q hq => h q (List.mem_cons_of_mem _ hq))
theorem lookup_has {p : Str} : ∀ {ks : List Str} {us : List V}, ks.length = us.length → p ∈ ks → ∃ u, (ks.zip us).lookup p = some u
  | [], _, _, h => by simp at h
  | k0 :: ks, [], hl, _ => by simp at hl
  | k0 :: ks, u :: us, hl, h => by
    rw [List.zip_cons_cons, List.lookup_cons]
    cases hb : p == k0 with
    | true => exact ⟨u, rfl⟩
    | false =>
      rcases List.mem_cons.mp h with e | e
      · subst e; simp at hb
      · exact lookup_has (by simpa using hl) e
theorem keys_ok {Γ : Cs} {env : Env} {pos : Pos} : ∀ {ks : List Str} {as : CEs} {kws : List Keyword}, chkKs D Γ ks as kws = true → (backToKw pos (keywordEach kws env)).filterMap (·.1) = ks ∧ (backToKw pos (keywordEach kws env)).all (·.1.isSome) = true
  | [], .nil, [], _ => ⟨rfl, rfl⟩
  | [], .nil, _ :: _, h => by simp [chkKs] at h
  | [], .cons _ _, kws, h => by cases kws <;> simp [chkKs] at h
  | k0 :: ks, .nil, kws, h => by cases kws <;> simp [chkKs] at h
  | k0 :: ks, .cons a as, [], h => by simp [chkKs] at h
  | k0 :: ks, .cons a as, ⟨none, e, q⟩ :: kws, h => by simp [chkKs] at h
  | k0 :: ks, .cons a as, ⟨some n, e, q⟩ :: kws, h => by
    obtain ⟨c1, c2⟩ := ba (show (decide (k0 = n) && chkE D Γ a e && chkKs D Γ ks as kws) = true from h)
    obtain ⟨c3, c4⟩ := ba c1
    have e0 := of_decide_eq_true c3
    subst e0
    obtain ⟨h1, h2⟩ := keys_ok (env := env) (pos := pos) c2
    refine ⟨?_, ?_⟩
    · show (k0 :: (backToKw pos (keywordEach kws env)).filterMap (·.1)) = _
      rw [h1]
    · show (true && (backToKw pos (keywordEach kws env)).all (·.1.isSome)) = true
      rw [h2]; rfl
def SKs (D : Dom) (k : Nat) (cs : CEs) : Prop := ∀ (X : Cx) (W : WX) (Γ : Cs) (ks : List Str) (kws : List Keyword), Wd D k Γ X → Takes X W → chkKs D Γ ks cs kws = true → PK X kws (tVs X.K X.mg W fun σ S => evEs (evCall D.T k) (parOf D.T) σ cs S) ∧ True
theorem _root_.L2.PK.imp {X : Cx} {kws : List Keyword} {t t' : TA} (h : PK X kws t) (i : ∀ σ H Q, t' σ H Q → t σ H Q) : PK X kws t' := ⟨fun pos pins s σ H Q I q => h.run pos pins s σ H Q I (i σ H Q q)⟩
theorem sks_nil : SKs D k .nil := fun X W Γ ks kws w tk c => by
  cases ks with
  | cons _ _ => cases kws <;> simp [chkKs] at c
  | nil =>
    cases kws with
    | cons _ _ => simp [chkKs] at c
    | nil =>
      refine ⟨pk_nil.imp fun σ H Q ⟨M, A, S, σd, R, sr, p⟩ => ?_, trivial⟩
      simp only [evEs] at p
      exact post.ok R p _ .nil
theorem sks_cons {a : CE} {as : CEs} (ia : SE D k a) (is : SKs D k as) : SKs D k (.cons a as) := by
  intro X W Γ ks kws w tk c
  cases ks with
  | nil => cases kws <;> simp [chkKs] at c
  | cons k0 ks =>
    cases kws with
    | nil => simp [chkKs] at c
    | cons kw kws =>
      obtain ⟨n, e, q⟩ := kw
      cases n with
      | none => simp [chkKs] at c
      | some n =>
        obtain ⟨c1, c2⟩ := ba (show (decide (k0 = n) && chkE D Γ a e && chkKs D Γ ks as kws) = true from c)
        obtain ⟨c3, c4⟩ := ba c1
        refine ⟨(pk_cons (ia X W Γ e w tk c4) (is X W Γ ks kws w tk c2).1).imp fun σ H Q ⟨M, A, S, σd, R, sr, p⟩ => ?_, trivial⟩
        simp only [evEs] at p
        refine ⟨M, A, S, σd, R, sr, (post.bind p).imp fun v H1 M1 A1 S1 f1 R1 p1 u1 r1 => ?_⟩
        refine ⟨M1, A1, S1, σd, R1, sr.mono f1, (post.bind p1).imp fun vs H2 M2 A2 S2 f2 R2 p2 us rs => ?_⟩
        exact post.ok R2 p2 _ (.cons (r1.mono f2) rs)
theorem chkKs_len {Γ : Cs} : ∀ {ks : List Str} {as : CEs} {kws : List Keyword} {σ : Sg} {S : Sto} {vs : List VV} {S' : Sto}, chkKs D Γ ks as kws = true → evEs (evCall D.T k) (parOf D.T) σ as S = .ok vs S' → ks.length = vs.length
  | [], .nil, [], σ, S, vs, S', _, h => by
    simp only [evEs] at h
    cases h; rfl
  | [], .nil, _ :: _, _, _, _, _, h, _ => by simp [chkKs] at h
  | [], .cons _ _, kws, _, _, _, _, h, _ => by cases kws <;> simp [chkKs] at h
  | k0 :: ks, .nil, kws, _, _, _, _, h, _ => by cases kws <;> simp [chkKs] at h
  | k0 :: ks, .cons a as, [], _, _, _, _, h, _ => by simp [chkKs] at h
  | k0 :: ks, .cons a as, ⟨none, e, q⟩ :: kws, _, _, _, _, h, _ => by simp [chkKs] at h
  | k0 :: ks, .cons a as, ⟨some n, e, q⟩ :: kws, σ, S, vs, S', h, h2 => by
    obtain ⟨c1, c2⟩ := ba (show (decide (k0 = n) && chkE D Γ a e && chkKs D Γ ks as kws) = true from h)
    simp only [evEs] at h2
    obtain ⟨v, S1, _, h3⟩ := R.bind_eq h2
    obtain ⟨ws, S2, h4, h5⟩ := R.bind_eq h3
    cases h5
    rw [List.length_cons, List.length_cons, chkKs_len c2 h4]
theorem se_callk (f : Nat) (ks : List Str) {as : CEs} (is : SKs D k as) : SE D k (.callk f ks as) := by
  intro X W Γ e w tk c
  cases e with
  | Call fn es kws pos =>
    cases fn with
    | Name x p =>
      cases es with
      | cons e es => exact no c
      | nil =>
        obtain ⟨c1, c2⟩ := ba (show (D.fnB f x && glB Γ.sc x && D.KW.contains (f, ks) && chkKs D Γ ks as kws) = true from c)
        obtain ⟨c3, c0⟩ := ba c1
        obtain ⟨c5, c4⟩ := ba c3
        obtain ⟨d, hd, rfl⟩ := fnB_of c5
        obtain ⟨g1, g2, g3⟩ := gl_of w c4
        obtain ⟨hnp, fa, fd, hm, hk, F, _, hkb⟩ := w.fns f d hd
        obtain ⟨hsub, hb⟩ := hkb ks c0
        obtain ⟨k1, k2⟩ := keys_ok (env := X.env) (pos := pos) c2
        obtain ⟨pk, _⟩ := is X W Γ ks kws w tk c2
        refine ⟨fun pins s σ H Q I ⟨M, A, S, σd, R, sr, p⟩ => ?_⟩
        simp only [evE] at p
        refine wpAny_Call_Name_kw (ld_glob I g1 hm ?_ g2)
        have plain : ((backTo pos (starEach [] X.env)).any (·.1) || (backToKw pos (keywordEach kws X.env)).any (·.1.isNone)) = false := by
          show (false || _) = false
          rw [Bool.false_or]
          rw [List.any_eq_false]
          intro y hy
          have := List.all_eq_true.mp k2 y hy
          cases q : y.1 <;> simp_all
        have hlen : ∀ v S', evEs (evCall D.T k) (parOf D.T) σd as S = .ok v S' → ks.length = v.length := fun v S' h => chkKs_len c2 h
        refine PySem.W.callWith_KW0 (h₀ := X.base) I.ok.mod.kin hk k2 (thn (pk.run pos pins s σ H (fun us H1 => ∃ M1 A1 S1 vs, Rel X.K H1 M1 A1 S1 ∧ Vs X.K H1 M1 A1 vs us ∧ ks.length = vs.length ∧
          post X.K X.mg (fun c d H => W c d σ H) H1 M1 A1 S1 ((KA.R.opt (keyArgs (parOf D.T f) ks vs) S1).bind fun vs S => evCall D.T k f vs S) fun v H' M' A' _ => ∀ u, Vr X.K H' M' A' v u → Q u H') I ⟨M, A, S, σd, R, sr, ?_⟩) fun ws s1 ⟨us, H1, I1, r, M1, A1, S1, vs, R1, rv, hl, q⟩ => ⟨I1.kIn, ?_⟩) plain
        · have pb := post.bind p
          dsimp only
          cases q : evEs (evCall D.T k) (parOf D.T) σd as S with
          | bad => rw [q] at pb; exact pb
          | exc e1 S1 => rw [q] at pb; exact pb
          | ok vs S1 =>
            rw [q] at pb
            intro H' M' A' f' R' us rs
            exact ⟨M', A', S1, vs, R', rs, hlen vs S1 q, pb H' M' A' f' R'⟩
        · rw [k1]
          obtain ⟨xs, ex, q⟩ := post.opt q
          have hpar : parOf D.T f = d.N.take d.np := by unfold parOf; rw [hd]
          rw [hpar] at ex
          have rx := keyArgs_rel rv ex
          have hlu : ks.length = us.length := by rw [hl, rv.length]
          have vk : Vals (kwV (d.N.take d.np) ks us) (kwG (d.N.take d.np) ks ws) := kw_vals r fun p hp => lookup_has hlu (hsub p hp)
          have hlw : ws.length = ks.length := by rw [← r.length, hlu]
          refine call_mono (args := ⟨[], ks.zip ws⟩) (run_fnG F w.room w.grd tk I1 (hb s1 ws I1.kIn hlw) vk ⟨M1, A1, S1, xs, R1, rx, ?_, q⟩)
          rw [← rx.length, arity hd q, List.length_take]
          omega
    | _ => cases es <;> exact no c
  | _ => exact no c
end
end KA
/-! KAExpr4: built-in calls, isinstance, methods, subscripts, displays. -/
namespace KA
open PySem PySem.Spec PyProof.Rows L2
section
variable {D : Dom} {k : Nat}
theorem pe_bn {X : Cx} {b : Bn} {x : Str} {p pos : Pos} {e : Expr} {es : List Expr} {t : TA} {r : List V → Hp → VK → Prop} (hc : CallR X b.val r) (hx : x = b.name) (hg : Gl X x) (hm : X.mg x = none) (ha : PA X (e :: es) t) (hn : x ≠ "__name__") (hdb : (x == ("__debug__" : Str)) = false)
    (he : starEach (e :: es) X.env = (false, eval e X.env) :: starEach es X.env) (hpl : (backTo pos (starEach es X.env)).any (·.1) = false) : PE X (.Call (.Name x p) (e :: es) [] pos) (tCB r t) := by
  subst hx
  have hv := b.boot
  cases b <;> first
    | exact pe_callB hc hg hm hv ha hn hdb he hpl
    | exact pe_callTy hc hg hm hv ha hn hdb he hpl
theorem bltV_ne {b : Bn} (hb : b ≠ .listM) (xs : List PD) (S : Sto) : bltV b xs S = (R.opt (bltD b xs) S).bind fun z S => .ok (.d z) S := by
  cases b <;> first
    | exact absurd rfl hb
    | rfl
theorem se_blt (b : Bn) {as : CEs} (is : SEs D k as) : SE D k (.blt b as) := by
  intro X W Γ e w tk c
  cases e with
  | Call fn es kws pos =>
    cases fn with
    | Name x p =>
      cases es with
      | nil => cases kws <;> exact no c
      | cons e es =>
        cases kws with
        | cons _ _ => exact no c
        | nil =>
          obtain ⟨c1, c2⟩ := ba (show (b.plain && decide (x = b.name) && blB D Γ x && chkEs D Γ as (e :: es)) = true from c)
          obtain ⟨c3, c4⟩ := ba c1
          obtain ⟨c5, c6⟩ := ba c3
          have hx := of_decide_eq_true c6
          obtain ⟨g1, g2, g3, g4⟩ := bl_of w c4
          cases as with
          | nil => exact no (by simp [chkEs] at c2)
          | cons a as =>
            obtain ⟨d5, d6, d7⟩ := chkEs_cons c2
            have hu : X.A.units + 100 < cLine := by have := units_of w; omega
            by_cases hb : b = .listM
            · subst hb
              refine (pe_bn (call_listM (X := X)) hx g1 g4 (is X W Γ _ w tk c2) g3 g2 (star_cons d6) (star_plain d7)).imp fun σ H Q ⟨M, A, S, σd, R, sr, p⟩ => ?_
              simp only [evE] at p
              refine ⟨M, A, S, σd, R, sr, (post.bind p).imp fun vs H1 M1 A1 S1 f1 R1 p1 us rs => ?_⟩
              unfold bltVs at p1
              cases e1 : rds S1 vs with
              | none => rw [e1] at p1; exact p1.elim
              | some xs =>
                rw [e1] at p1
                obtain ⟨z, ez, p2⟩ := post.opt (show post _ _ _ _ _ _ _ ((KA.R.opt (bltD .list_ xs) S1).bind fun z S => newM true z S) _ from p1)
                cases z with
                | list ds => exact ⟨M1, A1, S1, vs, xs, ds, R1, rs, e1, ez, fun q ys hq ry zy => newM_post R1 hq ry zy p2⟩
                | _ => exact p2.elim
            · refine (pe_bn (call_bn b w.calm w.grd hu) hx g1 g4 (is X W Γ _ w tk c2) g3 g2 (star_cons d6) (star_plain d7)).imp fun σ H Q ⟨M, A, S, σd, R, sr, p⟩ => ?_
              simp only [evE] at p
              refine ⟨M, A, S, σd, R, sr, (post.bind p).imp fun vs H1 M1 A1 S1 f1 R1 p1 us rs => ?_⟩
              unfold bltVs at p1
              cases e1 : rds S1 vs with
              | none => rw [e1] at p1; exact p1.elim
              | some xs =>
                rw [e1] at p1
                dsimp only at p1
                rw [bltV_ne hb] at p1
                obtain ⟨z, ez, p2⟩ := post.opt p1
                exact ⟨M1, A1, S1, vs, xs, z, R1, rs, e1, ez, fun H' u f' R' rp => p2 H' M1 A1 f' R' u rp⟩
    | _ => cases es <;> exact no c
  | _ => exact no c
/-! ### isinstance -/
theorem tyx {K : PySem.W.Frag} {H : Hp} {M : Addr → Prop} {A : List Addr} {S : Sto} {v : VV} {u : V} {d : PD} (R : Rel K H M A S) (hv : Vr K H M A v u) (e : rd S v = some d) : TyX K H u (.type (tyD d)) := by
  cases d with
  | none => rw [rd_non hv e]; exact .base .non
  | bool b => rw [rd_bl hv e]; exact .base (.bl b)
  | int b => rw [rd_int hv e]; exact .base (.int b)
  | str b => rw [rd_str hv e]; exact .base (.str b)
  | dict b => exact absurd (R.dp hv e) (fun q => by cases q)
  | list ds =>
    obtain ⟨a, xs, rfl, hs, _, _⟩ := R.rdL hv e
    rcases hs with (h | ⟨o, h⟩) | ⟨o, its, n, h1, h2, _⟩
    · exact .base (.lst h)
    · exact .base (.frz h)
    · exact .kList h1 h2
  | tuple ds =>
    obtain ⟨a, xs, rfl, hs, _, _, _⟩ := rdT hv e
    rcases hs with (h | ⟨o, h⟩) | ⟨o, its, n, h1, h2, _⟩
    · exact .base (.tup h)
    · exact .fTuple h
    · exact .kTuple h1 h2
theorem kit_all : (["NoneType", "bool", "int", "str", "list", "tuple", "dict"].all fun a => ["int", "bool", "str", "list", "tuple", "dict"].all fun b => kitB a b == some (a == b || (b == "int" && a == "bool"))) = true := by decide +kernel
theorem kit_one {K : PySem.W.Frag} {d : PD} {n : String} (hn : ["int", "bool", "str", "list", "tuple", "dict"].contains n = true) : PySem.W.kitOne K (.type (tyD d)) (.type n) = some (isTy d n) := by
  have h1 : tyD d ∈ ["NoneType", "bool", "int", "str", "list", "tuple", "dict"] := by cases d <;> simp [tyD]
  have h2 := List.all_eq_true.mp kit_all _ h1
  have h3 := List.all_eq_true.mp h2 n (List.contains_iff_mem.mp hn)
  refine kit_ty ?_
  unfold isTy
  have h4 : kitB (tyD d) n = some (tyD d == n || (n == "int" && tyD d == "bool")) := eq_of_beq h3
  exact h4
def tnV : Tn → Value
  | .ty n => .type n
  | .own _ => .none
def tnU : Tn → V
  | .ty n => .ty n
  | .own _ => .non
theorem kit_any {K : PySem.W.Frag} {d : PD} : ∀ {ts : List Tn} {b : Bool}, isinD d ts = some b → PySem.W.kitAny K (.type (tyD d)) (ts.map tnV) = some b
  | [], b, h => by cases h; exact kitAny_nil
  | .own _ :: _, b, h => by cases h
  | .ty n :: r, b, h => by
    unfold isinD at h
    split at h
    · rename_i hn
      split at h
      · rename_i hi
        cases h
        exact kitAny_cons (b := true) (by rw [show tnV (.ty n) = .type n from rfl, kit_one hn, hi]) (fun z => by cases z) (fun _ => rfl)
      · rename_i hi
        refine kitAny_cons (b := false) (by rw [show tnV (.ty n) = .type n from rfl, kit_one hn]; simpa using hi) (fun _ => kit_any h) (fun z => by cases z)
    · cases h
theorem boot_tn {n : String} (hn : ["int", "bool", "str", "list", "tuple", "dict"].contains n = true) : bootBuiltins (Str.ofString n) = some (.type n) := by
  have h := List.contains_iff_mem.mp hn
  simp only [List.mem_cons, List.not_mem_nil, or_false] at h
  rcases h with rfl | rfl | rfl | rfl | rfl | rfl <;> decide +kernel
theorem pe_tn {X : Cx} {Γ : Cs} {t : Tn} {e : Expr} (w : Wd D k Γ X) (c : tnB D Γ t e = true) : PE X e (tC (tnU t)) ∧ starB e = false ∧ ClsV (tnU t) (tnV t) := by
  cases t with
  | own x => cases e <;> exact no c
  | ty n =>
    cases e with
    | Name x pos =>
      obtain ⟨c1, c2⟩ := ba (show (decide (x = Str.ofString n) && blB D Γ x && ["int", "bool", "str", "list", "tuple", "dict"].contains n) = true from c)
      obtain ⟨c3, c4⟩ := ba c1
      have hx := of_decide_eq_true c3
      obtain ⟨g1, g2, g3, g4⟩ := bl_of w c4
      subst hx
      exact ⟨pe_bltn g1 g4 (boot_tn c2) rfl g3 g2, rfl, .ty n⟩
    | _ => exact no c
theorem pa_tns {X : Cx} {Γ : Cs} (w : Wd D k Γ X) : ∀ {ts : List Tn} {es : List Expr}, tnsB D Γ ts es = true → PA X es (fun _ H Q => Q (ts.map tnU) H) ∧ Paired ClsV (ts.map tnU) (ts.map tnV)
  | [], [], _ => ⟨pa_nil, .nil⟩
  | [], _ :: _, h => by cases h
  | _ :: _, [], h => by cases h
  | t :: ts, e :: es, h => by
    obtain ⟨h1, h2⟩ := ba h
    obtain ⟨p1, p2, p3⟩ := pe_tn w h1
    obtain ⟨q1, q2⟩ := pa_tns w h2
    exact ⟨pa_cons p1 q1 (star_cons p2), .cons p3 q2⟩
theorem isin_one {d : PD} {t : Tn} {b : Bool} {K : PySem.W.Frag} (h : isinD d [t] = some b) : PySem.W.kitOne K (.type (tyD d)) (tnV t) = some b := by
  cases t with
  | own x => cases h
  | ty n =>
    unfold isinD at h
    split at h
    · rename_i hn
      show PySem.W.kitOne K (.type (tyD d)) (.type n) = some b
      rw [kit_one hn]
      split at h
      · rename_i hi; cases h; rw [hi]
      · rename_i hi
        cases h
        simpa using hi
    · cases h
theorem se_isin {a : CE} (ts : List Tn) (ia : SE D k a) : SE D k (.isin a ts) := by
  intro X W Γ e w tk c
  cases e with
  | Call fn es kws pos =>
    cases fn with
    | Name x p =>
      match es, kws, c with
      | [e, t], [], c =>
        obtain ⟨c1, c2⟩ := ba (show (decide (x = "isinstance") && blB D Γ x && chkE D Γ a e && !starB e && chkTn D Γ ts t) = true from c)
        obtain ⟨c3, c4⟩ := ba c1
        obtain ⟨c5, c6⟩ := ba c3
        obtain ⟨c7, c8⟩ := ba c5
        have hx := of_decide_eq_true c7
        obtain ⟨g1, g2, g3, g4⟩ := bl_of w c8
        have hs : starB e = false := by simpa using c4
        subst hx
        have tupd : ∀ (es : List Expr) (j : Nat) (q : Pos), t = .Tuple es j q → (decide (ts.length < 100) && tnsB D Γ ts es) = true → PE X (.Call (.Name "isinstance" p) [e, t] [] pos) (tV X.K X.mg W fun σ S => evE (evCall D.T k) (parOf D.T) σ (.isin a ts) S) := fun es j q et ht => by
          subst et
          obtain ⟨hlen, ht⟩ := ba ht
          have hlen := of_decide_eq_true hlen
          obtain ⟨q1, q2⟩ := pa_tns w ht
          refine (pe_callB call_isiT g1 g4 boot_isinstance (pa_cons (ia X W Γ e w tk c6) (pa_cons (pe_tup q1) pa_nil) (star_cons hs)) g3 g2 (star_cons hs)).imp fun σ H Q ⟨M, A, S, σd, R, sr, p⟩ => ?_
          simp only [evE] at p
          refine ⟨M, A, S, σd, R, sr, (post.bind p).imp fun v H1 M1 A1 S1 f1 R1 p1 u1 r1 => ?_⟩
          obtain ⟨a', z, ea, e', p2⟩ := op1_post p1
          refine ⟨?_, fun l hl => ?_⟩
          · rw [List.length_map, sz_eq]
            show ts.length ≤ 16777216
            omega
          · have q3 := post.ok (R1.new (o := .tup (ts.map tnU)) hl) (post.from (K := X.K) p2 (Fm.new (o := .tup (ts.map tnU)) hl)) (.bl z) (Rp.bl z)
            exact ⟨u1, l, ts.map tnU, .type (tyD a'), ts.map tnV, z, rfl, upd_same, q2, tyx (R1.new hl) (r1.mono (Fm.new (A := A1) (S := S1) hl)) ea, kit_any e', q3⟩
        have oned : ∀ t0, ts = [t0] → tnB D Γ t0 t = true → PE X (.Call (.Name "isinstance" p) [e, t] [] pos) (tV X.K X.mg W fun σ S => evE (evCall D.T k) (parOf D.T) σ (.isin a ts) S) := fun t0 et ht => by
          subst et
          obtain ⟨q1, q2, q3⟩ := pe_tn w ht
          refine (pe_callB call_isi g1 g4 boot_isinstance (pa_cons (ia X W Γ e w tk c6) (pa_cons q1 pa_nil (star_cons q2)) (star_cons hs)) g3 g2 (star_cons hs) (by rw [star_cons q2]; rfl)).imp fun σ H Q ⟨M, A, S, σd, R, sr, p⟩ => ?_
          simp only [evE] at p
          refine ⟨M, A, S, σd, R, sr, (post.bind p).imp fun v H1 M1 A1 S1 f1 R1 p1 u1 r1 => ?_⟩
          obtain ⟨a', z, ea, e', p2⟩ := op1_post p1
          exact ⟨u1, tnU t0, .type (tyD a'), tnV t0, z, rfl, q3, tyx R1 r1 ea, isin_one e', post.ok R1 p2 _ (Rp.bl z)⟩
        cases t with
        | Tuple es j q => exact tupd es j q rfl c2
        | _ =>
          cases ts with
          | nil => exact no c2
          | cons t0 r =>
            cases r with
            | nil => exact oned t0 rfl c2
            | cons _ _ => exact no c2
      | [], _, c => exact no c
      | [_], _, c => exact no c
      | _ :: _ :: _ :: _, _, c => exact no c
      | [_, _], _ :: _, c => exact no c
    | _ => exact no c
  | _ => exact no c

/-! ### methods of lists -/
theorem backTo_all {Γ : Cs} {pos : Pos} {env : Env} : ∀ {as : CEs} {es : List Expr}, chkEs D Γ as es = true → (backTo pos (starEach es env)).all (fun x => !x.1) = true
  | .nil, [], _ => rfl
  | .nil, _ :: _, h => by cases h
  | .cons _ _, [], h => by cases h
  | .cons a as, e :: es, h => by
    obtain ⟨h1, h2, h3⟩ := chkEs_cons h
    rw [star_cons h2]
    show (true && _) = true
    rw [Bool.true_and]
    exact backTo_all h3
/-- a method that changes the list: f's answer and the new list -/
def rMut (K : PySem.W.Frag) (m : Str) : V → List V → Hp → VK → Prop := fun x us H Q => ∃ (W : XK) (mg : Str → Option Value) (M : Addr → Prop) (A : List Addr) (S : Sto) (l : Nat) (a : Addr) (xs : List PD), Rel K H M A S ∧ A[l]? = some a ∧ x = .ref a ∧ Rps K H M xs us ∧
  post K mg W H M A S (methV m (.loc l) xs S) fun v H' M' A' _ => ∀ u, Vr K H' M' A' v u → Q u H'
theorem mutD_post {K : PySem.W.Frag} {mg : Str → Option Value} {W : XK} {H : Hp} {M : Addr → Prop} {A : List Addr} {S : Sto} {l : Nat} {f : List PD → Option (PD × List PD)} {Q : VV → Hp → (Addr → Prop) → List Addr → Sto → Prop} (h : post K mg W H M A S (mutD S l f) Q) :
    ∃ ds r ds', S[l]? = some (O.lst ds) ∧ f ds = some (r, ds') ∧ post K mg W H M A S (.ok (.d r) (S.set l (O.lst ds'))) Q := by
  unfold mutD at h
  split at h
  · rename_i ds e
    split at h
    · rename_i r ds' e2
      exact ⟨ds, r, ds', e, e2, h⟩
    · exact h.elim
  · exact h.elim
theorem mt_appendK {X : Cx} : MtR X "list.append" (rMut X.K "append") := by
  intro pins s σ H x vs v us Q I rx rv h
  obtain ⟨W, mg, M, A, S, l, a, xs, R, ea, rfl, rs, p⟩ := h
  unfold methV at p
  dsimp only at p
  rw [if_pos rfl] at p
  split at p
  · rename_i y
    obtain ⟨ds, r, ds', e1, e2, p⟩ := mutD_post p
    split at e2
    · rename_i hz
      cases e2
      obtain ⟨mA, ys, eA, rA, zA⟩ := R.lst l ds a e1 ea
      cases rs with
      | cons r1 r2 =>
        cases r2
        rename_i u1
        have hl : ds.length = ys.length := rA.length
        obtain ⟨R', f'⟩ := R.put e1 ea (rA.append (.cons r1 .nil)) (by rw [List.length_append, ← hl]; exact hz)
        refine mt_append pins s σ H _ _ v us Q I rx rv ⟨a, ys, u1, rfl, rfl, eA, by rw [sz_eq, ← hl]; exact hz, ?_⟩
        exact p _ _ _ f' R' _ Rp.non
    · cases e2
  · exact p.elim
theorem mt_extendK {X : Cx} : MtR X "list.extend" (rMut X.K "extend") := by
  intro pins s σ H x vs v us Q I rx rv h
  obtain ⟨W, mg, M, A, S, l, a, xs, R, ea, rfl, rs, p⟩ := h
  unfold methV at p
  dsimp only at p
  rw [if_neg (by decide +kernel), if_pos rfl] at p
  split at p
  · rename_i y
    obtain ⟨ds, r, ds', e1, e2, p⟩ := mutD_post p
    split at e2
    · rename_i hz
      cases e2
      obtain ⟨mA, ys, eA, rA, zA⟩ := R.lst l ds a e1 ea
      cases rs with
      | cons r1 r2 =>
        cases r2
        cases r1 with
        | lst hs hr =>
          rename_i b zs
          have hl : ds.length = ys.length := rA.length
          have hl2 : y.length = zs.length := hr.length
          have hz2 : (ys ++ zs).length ≤ SZ := by rw [List.length_append, ← hl, ← hl2]; exact hz
          obtain ⟨R', f'⟩ := R.put e1 ea (rA.append hr) hz2
          refine mt_extendL pins s σ H _ _ v us Q I rx rv ⟨a, b, ys, zs, rfl, rfl, eA, hs.sq, by rw [sz_eq]; rw [List.length_append] at hz2; exact hz2, ?_⟩
          exact p _ _ _ f' R' _ Rp.non
    · cases e2
  · exact p.elim
theorem mt_popK {X : Cx} : MtR X "list.pop" (rMut X.K "pop") := by
  intro pins s σ H x vs v us Q I rx rv h
  obtain ⟨W, mg, M, A, S, l, a, xs, R, ea, rfl, rs, p⟩ := h
  unfold methV at p
  dsimp only at p
  rw [if_neg (by decide +kernel), if_neg (by decide +kernel), if_pos rfl] at p
  split at p
  · rename_i i
    obtain ⟨ds, r, ds', e1, e2, p⟩ := mutD_post p
    unfold popAt at e2
    split at e2
    · rename_i hz
      split at e2
      · rename_i j ej
        split at e2
        · rename_i y ey
          cases e2
          obtain ⟨mA, ys, eA, rA, zA⟩ := R.lst l ds a e1 ea
          cases rs with
          | cons r1 r2 =>
            cases r2
            cases r1
            obtain ⟨u1, hu1, ru1⟩ := rA.get ey
            have hl : ds.length = ys.length := rA.length
            obtain ⟨R', f'⟩ := R.put e1 ea (rA.erase j) (Nat.le_trans (len_erase ys j) zA)
            refine mt_popAt pins s σ H _ _ v us Q I rx rv ⟨a, ys, i, j, u1, rfl, rfl, eA, hz.1, hz.2, by rw [← hl]; exact ej, hu1, ?_⟩
            exact p _ _ _ f' R' _ (ru1.stay f'.st)
        · cases e2
      · cases e2
    · cases e2
  · exact p.elim
theorem se_meth (m : Str) {o : CE} {as : CEs} (io : SE D k o) (is : SXs D k as) : SE D k (.meth m o as) := by
  intro X W Γ e w tk c
  cases o with
  | var i =>
    cases e with
    | Call fn es kws cp =>
      cases fn with
      | Attribute ob n ap =>
        cases ob with
        | Name x p0 =>
          cases es with
          | nil => cases kws <;> exact no c
          | cons e es =>
            cases kws with
            | cons _ _ => exact no c
            | nil =>
              obtain ⟨c1, c2⟩ := ba (show (decide (m = "append" ∨ m = "extend" ∨ m = "pop") && decide (m = n) && decide (Γ.N[i]? = some x) && visB Γ.sc x && okN x && (ap.endLine == cp.line) && decide (es.length < 20) && chkEs D Γ as (e :: es)) = true from c)
              obtain ⟨c3, c4⟩ := ba c1
              obtain ⟨c5, c6⟩ := ba c3
              obtain ⟨c7, c8⟩ := ba c5
              obtain ⟨c9, c10⟩ := ba c7
              obtain ⟨c13, c12⟩ := ba c9
              obtain ⟨c14, c11⟩ := ba c13
              have hmm := of_decide_eq_true c14
              have e0 := of_decide_eq_true c11
              subst e0
              have hlen := of_decide_eq_true c4
              have co : chkE D Γ (.var i) (.Name x p0) = true := by
                show (decide (Γ.N[i]? = some x) && visB Γ.sc x && okN x) = true
                rw [c12, c10, c8]; rfl
              cases as with
              | nil => exact no (by simp [chkEs] at c2)
              | cons a as =>
                obtain ⟨d5, d6, d7⟩ := chkEs_cons c2
                have few : ((backTo cp (starEach (e :: es) X.env)).all (fun x => !x.1) && (backToKw cp (keywordEach [] X.env)).all (fun x => x.1.isSome) && decide ((e :: es).length + ([] : List Keyword).length + (if ([] : List Keyword).isEmpty then 0 else 1) < 30)) = true := by
                  rw [backTo_all c2]
                  show (true && true && _) = true
                  simp
                  omega
                have fin : ∀ {id : String} (slot : Slot "list" m id) (hty : typeOf (.builtin id) = pure (.type "method_descriptor")) (hm : MtR X id (rMut X.K m)), PE X (.Call (.Attribute (.Name x p0) m ap) (e :: es) [] cp) (tV X.K X.mg W fun σ S => evE (evCall D.T k) (parOf D.T) σ (.meth m (.var i) (.cons a as)) S) := fun slot hty hm => by
                  refine (pe_bm PySem.F.plainAttrs_list slot hty hm (io X W Γ _ w tk co) (is X W Γ _ w tk c2) rfl few c6 (star_cons d6) (star_plain d7)).imp fun σ H Q ⟨M, A, S, σd, R, sr, p⟩ => ?_
                  unfold evE at p
                  refine ⟨M, A, S, σd, R, sr, (post.bind p).imp fun v H1 M1 A1 S1 f1 R1 p1 u1 r1 => ?_⟩
                  cases v with
                  | d _ => exact p1.elim
                  | ex _ => exact p1.elim
                  | loc l =>
                    obtain ⟨ad, ea, rfl⟩ := r1
                    refine ⟨.inl ⟨rfl, ?_⟩, M1, A1, S1, σd, R1, sr.mono f1, (post.bind p1).imp fun xs H2 M2 A2 S2 f2 R2 p2 us rs => ?_⟩
                    · have lt : l < S1.length := by rw [← R1.len]; exact (List.getElem?_eq_some_iff.mp ea).1
                      rcases sto_cases lt with ⟨ds, q⟩ | ⟨ds, q⟩
                      · obtain ⟨_, ys, e', _, _⟩ := R1.lst l ds ad q ea
                        exact ⟨ys, SqL.of e'⟩
                      · cases (R1.frz l ds ad q ea).1 with
                        | lst hs _ => exact ⟨_, hs.sq⟩
                    · exact ⟨_, _, M2, A2, S2, l, ad, xs, R2, f2.at_ ea, rfl, rs, p2⟩
                rcases hmm with h1 | h1 | h1
                · subst h1; exact fin PySem.F.slot_list_append PySem.F.type_list_append mt_appendK
                · subst h1; exact fin PySem.F.slot_list_extend PySem.F.type_list_extend mt_extendK
                · subst h1; exact fin PySem.F.slot_list_pop PySem.F.type_list_pop mt_popK
        | _ => cases es <;> cases kws <;> exact no c
      | _ => cases es <;> cases kws <;> exact no c
    | _ => exact no c
  | _ => cases e <;> exact no c
end
end KA
/-! KAExpr5: subscripts, slices, displays, ranges. -/
namespace KA
open PySem PySem.Spec PyProof.Rows L2
section
variable {D : Dom} {k : Nat}
theorem sub_read {K : PySem.W.Frag} {H : Hp} {M : Addr → Prop} {A : List Addr} {S : Sto} {v w : VV} {u1 u2 : V} {a b z : PD} {Q : VK} (R : Rel K H M A S) (r1 : Vr K H M A v u1) (r2 : Vr K H M A w u2) (ea : rd S v = some a) (eb : rd S w = some b) (e : subD a b = some z)
    (q : ∀ u, Rp K H M z u → Q u H) : rIx K u1 u2 H Q := by
  unfold subD at e
  split at e
  · rename_i ds i
    obtain ⟨p, xs, rfl, hs, rs, _⟩ := R.rdL r1 ea
    obtain ⟨y, hy, ry⟩ := rs.at_ e
    exact .inl ⟨p, xs, i, y, rfl, rd_int r2 eb, hs, hy, q y ry⟩
  · rename_i ds i
    obtain ⟨p, xs, rfl, hs, _, rs, _⟩ := rdT r1 ea
    obtain ⟨y, hy, ry⟩ := rs.at_ e
    exact .inr (.inl ⟨p, xs, i, y, rfl, rd_int r2 eb, hs, hy, q y ry⟩)
  · rename_i x i
    split at e
    · rename_i hz
      cases h : L2.atI x.cps.toList i with
      | none => rw [h] at e; cases e
      | some c =>
        rw [h] at e
        cases e
        exact .inr (.inr ⟨x, i, c, rd_str r1 ea, rd_int r2 eb, by rw [sz_eq]; exact hz, h, q _ (Rp.str _)⟩)
    · cases e
  · cases e
theorem plain_ix {e : Expr} (h : ixB e = true) : PlainIx e := by
  cases e <;> first
    | exact fun _ _ => rfl
    | cases h
theorem se_sub {a i : CE} (ia : SE D k a) (ii : SE D k i) : SE D k (.sub a i) := by
  intro X W Γ e w tk c
  cases e with
  | Subscript x y pos =>
    cases y with
    | Slice l h st p2 => 
      have c' : (chkE D Γ a x && chkE D Γ i (.Slice l h st p2) && ixB (.Slice l h st p2)) = true := by
        unfold chkE at c; exact c
      exact no (ba c').2
    | _ =>
      obtain ⟨c1, c2⟩ := ba (show (chkE D Γ a x && chkE D Γ i _ && ixB _) = true by unfold chkE at c; exact c)
      obtain ⟨c3, c4⟩ := ba c1
      refine (pe_ix ix_seq (ia X W Γ x w tk c3) (ii X W Γ _ w tk c4) (plain_ix c2)).imp fun σ H Q ⟨M, A, S, σd, R, sr, p⟩ => ?_
      simp only [evE] at p
      refine ⟨M, A, S, σd, R, sr, (post.bind p).imp fun v H1 M1 A1 S1 f1 R1 p1 u1 r1 => ?_⟩
      refine ⟨M1, A1, S1, σd, R1, sr.mono f1, (post.bind p1).imp fun v2 H2 M2 A2 S2 f2 R2 p2 u2 r2 => ?_⟩
      obtain ⟨a', b', z, ea, eb, e, p3⟩ := op2_post p2
      exact sub_read R2 (r1.mono f2) r2 ea eb e fun u rp => post.ok R2 p3 u rp
  | _ => exact no (by cases c)
def SO (D : Dom) (k : Nat) (c : CO) : Prop := ∀ (X : Cx) (W : WX) (Γ : Cs) (e : Option Expr), Wd D k Γ X → Takes X W → chkO D Γ c e = true → PO X e fun σ H Q => ∃ M A S σd, Rel X.K H M A S ∧ Sr X.K H M A σd σ ∧
  post X.K X.mg (fun c d H => W c d σ H) H M A S (evO (evCall D.T k) (parOf D.T) σd c S) fun i H' _ _ _ => Q i H'
theorem _root_.L2.PO.imp {X : Cx} {e : Option Expr} {t t' : TO} (h : PO X e t) (i : ∀ σ H Q, t' σ H Q → t σ H Q) : PO X e t' := ⟨fun pins s σ H Q I q => h.run pins s σ H Q I (i σ H Q q)⟩
theorem intD_eq {d : PD} {i : Int} (h : intD d = some i) : d = .int i := by
  cases d with
  | int c => cases h; rfl
  | _ => cases h
theorem so_none : SO D k .none := fun X W Γ e w tk c => by
  cases e with
  | none => exact po_none.imp fun σ H Q ⟨M, A, S, σd, R, sr, p⟩ => by simp only [evO] at p; exact post.ok R p
  | some e => exact no (by simp [chkO] at c)
theorem so_some {a : CE} (ia : SE D k a) : SO D k (.some a) := fun X W Γ e w tk c => by
  cases e with
  | none => exact no (by simp [chkO] at c)
  | some e =>
    refine (po_some (ia X W Γ e w tk (by unfold chkO at c; exact c))).imp fun σ H Q ⟨M, A, S, σd, R, sr, p⟩ => ?_
    simp only [evO] at p
    refine ⟨M, A, S, σd, R, sr, (post.bind p).imp fun v H1 M1 A1 S1 f1 R1 p1 u1 r1 => ?_⟩
    obtain ⟨a', z, ea, e, p2⟩ := op1_post p1
    rw [intD_eq e] at ea
    exact ⟨z, rd_int r1 ea, post.ok R1 p2⟩
theorem cut_rel {K : PySem.W.Frag} {H : Hp} {M : Addr → Prop} {ds : List PD} {xs : List V} (rs : Rps K H M ds xs) (lo hi : Option Int) : Rps K H M (cutD ds lo hi) (cutV xs lo hi) := by
  unfold cutD cutV
  rw [rs.length]
  exact (rs.drop _).take _
theorem cut_whole {ds : List PD} {lo hi : Option Int} {n : Nat} (hn : ds.length = n) (h : HT.sIx n 0 lo = 0 ∧ HT.sIx n n hi = n) : cutD ds lo hi = ds := by
  unfold cutD
  rw [hn, h.1, h.2, List.drop_zero, Nat.sub_zero, ← hn, List.take_length]
theorem se_slc {a : CE} {lo hi : CO} (ia : SE D k a) (il : SO D k lo) (ih : SO D k hi) : SE D k (.slc a lo hi) := by
  intro X W Γ e w tk c
  cases e with
  | Subscript x y pos =>
    cases y with
    | Slice l h st p2 =>
      cases st with
      | some _ => exact no (by unfold chkE at c; exact c)
      | none =>
        obtain ⟨c1, c2⟩ := ba (show (chkE D Γ a x && chkO D Γ lo l && chkO D Γ hi h) = true by unfold chkE at c; exact c)
        obtain ⟨c3, c4⟩ := ba c1
        refine (pe_slice (SlR.or sl_list sl_tupA) (ia X W Γ x w tk c3) (il X W Γ l w tk c4) (ih X W Γ h w tk c2)).imp fun σ H Q ⟨M, A, S, σd, R, sr, p⟩ => ?_
        simp only [evE] at p
        refine ⟨M, A, S, σd, R, sr, (post.bind p).imp fun v H1 M1 A1 S1 f1 R1 p1 u1 r1 => ?_⟩
        refine ⟨M1, A1, S1, σd, R1, sr.mono f1, (post.bind p1).imp fun l' H2 M2 A2 S2 f2 R2 p2 => ?_⟩
        refine ⟨M2, A2, S2, σd, R2, (sr.mono f1).mono f2, (post.bind p2).imp fun h' H3 M3 A3 S3 f3 R3 p3 => ?_⟩
        have r3 := (r1.mono f2).mono f3
        obtain ⟨a', z, ea, e, p4⟩ := op1_post p3
        cases a' with
        | list ds =>
          cases e
          obtain ⟨q, xs, rfl, hs, rs, hz⟩ := R3.rdL r3 ea
          refine .inl ⟨q, xs, rfl, hs, fun p' hp' => ?_⟩
          exact p4 _ _ _ (Fm.new hp') (R3.new hp') _ (Rp.lst (.of upd_same (R3.nM hp') (Nat.le_trans (cutV_length _ _ _) hz)) ((cut_rel rs _ _).stay (stay_new hp')))
        | tuple ds =>
          cases e
          obtain ⟨q, xs, rfl, hs, hf, rs, hz⟩ := rdT r3 ea
          refine .inr ⟨q, xs, rfl, hs, fun hw => ?_, fun hw p' hp' => ?_⟩
          · rw [cut_whole rs.length hw] at p4
            exact post.ok R3 p4 _ (Rp.tup hf rs)
          · exact p4 _ _ _ (Fm.new hp') (R3.new hp') _ (Rp.tup (.of upd_same (R3.nM hp') (Nat.le_trans (cutV_length _ _ _) hz)) ((cut_rel rs _ _).stay (stay_new hp')))
        | _ => cases e
    | _ => exact no (by unfold chkE at c; exact c)
  | _ => exact no (by unfold chkE at c; exact c)
theorem se_tup {es : CEs} (is : SXs D k es) : SE D k (.tup es) := by
  intro X W Γ e w tk c
  cases e with
  | Tuple xs x1 pos =>
    refine (pe_tup (is X W Γ xs w tk (by unfold chkE at c; exact c))).imp fun σ H Q ⟨M, A, S, σd, R, sr, p⟩ => ?_
    simp only [evE] at p
    refine ⟨M, A, S, σd, R, sr, (post.bind p).imp fun ds H1 M1 A1 S1 f1 R1 p1 us rs => ?_⟩
    split at p1
    · rename_i hz
      have hz' : us.length ≤ SZ := by rw [← rs.length]; exact hz
      refine ⟨by rw [sz_eq]; exact hz', fun q hq => ?_⟩
      exact p1 _ _ _ (Fm.new hq) (R1.new hq) _ (Rp.tup (.of upd_same (R1.nM hq) hz') (rs.stay (stay_new hq)))
    · exact p1.elim
  | _ => exact no (by unfold chkE at c; exact c)
theorem se_lst (m : Bool) {es : CEs} (is : SXs D k es) : SE D k (.lst m es) := by
  intro X W Γ e w tk c
  cases e with
  | List xs pos =>
    refine (pe_lst (is X W Γ xs w tk (by unfold chkE at c; exact c))).imp fun σ H Q ⟨M, A, S, σd, R, sr, p⟩ => ?_
    simp only [evE] at p
    refine ⟨M, A, S, σd, R, sr, (post.bind p).imp fun ds H1 M1 A1 S1 f1 R1 p1 us rs => ?_⟩
    split at p1
    · rename_i hz
      have hz' : us.length ≤ SZ := by rw [← rs.length]; exact hz
      exact ⟨by rw [sz_eq]; exact hz', fun q hq => newM_post R1 hq rs hz' p1⟩
    · exact p1.elim
  | _ => exact no (by unfold chkE at c; exact c)
/-! ### ranges -/
def SR_ (D : Dom) (k : Nat) (c : CI) : Prop := ∀ (X : Cx) (W : WX) (Γ : Cs) (e : Expr), Wd D k Γ X → Takes X W → chkR D Γ c e = true → PRg X e (fun σ H Q => ∃ M A S σd, Rel X.K H M A S ∧ Sr X.K H M A σd σ ∧
  post X.K X.mg (fun c d H => W c d σ H) H M A S (evI (evCall D.T k) (parOf D.T) σd c S) fun ds H' M' A' S' => ∀ i j, RgOk i j → ds = rngD i j → Rel X.K H' M' A' S' → Q i j H') ∧ starB e = false
theorem rgok {i j : Int} (h : rngOk i j = true) : RgOk i j := by
  obtain ⟨a, b, c, d, e⟩ := of_decide_eq_true h
  exact ⟨a, b, c, d, e⟩
theorem rps_ints {K : PySem.W.Frag} {H : Hp} {M : Addr → Prop} : ∀ (l : List Nat) (f : Nat → Int), Rps K H M (l.map fun i => .int (f i)) (l.map fun i => .int (f i))
  | [], _ => .nil
  | x :: r, f => .cons (.int _) (rps_ints r f)
theorem rps_rng {K : PySem.W.Frag} {H : Hp} {M : Addr → Prop} (i j : Int) : Rps K H M (rngD i j) (rgV i j) := rps_ints _ _
theorem sr_1 {a : CE} (ia : SE D k a) : SR_ D k (.rng a) := by
  intro X W Γ e w tk c
  cases e with
  | Call fn es kws pos =>
    cases fn with
    | Name x p =>
      match es, kws, c with
      | [e], [], c =>
        obtain ⟨c1, c2⟩ := ba (show (decide (x = "range") && blB D Γ x && chkE D Γ a e && !starB e) = true by unfold chkR at c; exact c)
        obtain ⟨c3, c4⟩ := ba c1
        obtain ⟨c5, c6⟩ := ba c3
        have hx := of_decide_eq_true c5
        obtain ⟨g1, g2, g3, g4⟩ := bl_of w c6
        have hs : starB e = false := by simpa using c2
        subst hx
        refine ⟨fun pins s σ H Q I ⟨M, A, S, σd, R, sr, pp⟩ => prg_1 g1 g4 (ia X W Γ e w tk c4) (star_cons hs) pins s σ H Q I ?_, rfl⟩
        simp only [evI] at pp
        refine ⟨M, A, S, σd, R, sr, (post.bind pp).imp fun v H1 M1 A1 S1 f1 R1 p1 u1 r1 => ?_⟩
        obtain ⟨a', z, ea, e', p2⟩ := op1_post p1
        rw [intD_eq e'] at ea
        split at p2
        · rename_i hk
          exact ⟨z, rd_int r1 ea, post.ok R1 p2 0 z (rgok hk) rfl R1⟩
        · exact p2.elim
      | [], _, c => exact no (by unfold chkR at c; cases c)
      | [_], _ :: _, c => exact no (by unfold chkR at c; cases c)
      | _ :: _ :: _, _, c => exact no (by unfold chkR at c; cases c)
    | _ => exact no (by unfold chkR at c; cases c)
  | _ => exact no (by unfold chkR at c; cases c)
theorem sr_2 {a b : CE} (ia : SE D k a) (ib : SE D k b) : SR_ D k (.rng2 a b) := by
  intro X W Γ e w tk c
  cases e with
  | Call fn es kws pos =>
    cases fn with
    | Name x p =>
      match es, kws, c with
      | [e, e2], [], c =>
        obtain ⟨c1, c2⟩ := ba (show (decide (x = "range") && blB D Γ x && chkE D Γ a e && !starB e && chkE D Γ b e2 && !starB e2) = true by unfold chkR at c; exact c)
        obtain ⟨c3, c4⟩ := ba c1
        obtain ⟨c5, c6⟩ := ba c3
        obtain ⟨c7, c8⟩ := ba c5
        obtain ⟨c9, c10⟩ := ba c7
        have hx := of_decide_eq_true c9
        obtain ⟨g1, g2, g3, g4⟩ := bl_of w c10
        have hs : starB e = false := by simpa using c6
        have hs2 : starB e2 = false := by simpa using c2
        subst hx
        refine ⟨fun pins s σ H Q I ⟨M, A, S, σd, R, sr, pp⟩ => prg_2 g1 g4 (ia X W Γ e w tk c8) (ib X W Γ e2 w tk c4) (star_cons hs) (star_cons hs2) (by rw [star_cons hs2]; rfl) pins s σ H Q I ?_, rfl⟩
        simp only [evI] at pp
        refine ⟨M, A, S, σd, R, sr, (post.bind pp).imp fun v H1 M1 A1 S1 f1 R1 p1 u1 r1 => ?_⟩
        refine ⟨M1, A1, S1, σd, R1, sr.mono f1, (post.bind p1).imp fun v2 H2 M2 A2 S2 f2 R2 p2 u2 r2 => ?_⟩
        obtain ⟨a', z, ea, e', p3⟩ := op1_post p2
        obtain ⟨b', z2, eb, e2', p4⟩ := op1_post p3
        rw [intD_eq e'] at ea
        rw [intD_eq e2'] at eb
        split at p4
        · rename_i hk
          exact ⟨z, z2, rd_int (r1.mono f2) ea, rd_int r2 eb, post.ok R2 p4 z z2 (rgok hk) rfl R2⟩
        · exact p4.elim
      | [], _, c => exact no (by unfold chkR at c; cases c)
      | [_], _, c => exact no (by unfold chkR at c; cases c)
      | [_, _], _ :: _, c => exact no (by unfold chkR at c; cases c)
      | _ :: _ :: _ :: _, _, c => exact no (by unfold chkR at c; cases c)
    | _ => exact no (by unfold chkR at c; cases c)
  | _ => exact no (by unfold chkR at c; cases c)
theorem sr_no {c : CI} (h : ∀ Γ e, chkR D Γ c e = false) : SR_ D k c := fun X W Γ e w tk q => by rw [h] at q; cases q
theorem se_rng (t m : Bool) {i : CI} (ii : SR_ D k i) : SE D k (.rng t m i) := by
  intro X W Γ e w tk c
  cases e with
  | Call fn es kws pos =>
    cases fn with
    | Name x p =>
      match es, kws, c with
      | [r], [], c =>
        obtain ⟨c1, c2⟩ := ba (show (decide (x = if t = true then "tuple" else "list") && blB D Γ x && chkR D Γ i r) = true by unfold chkE at c; exact c)
        obtain ⟨c3, c4⟩ := ba c1
        have hx := of_decide_eq_true c3
        obtain ⟨g1, g2, g3, g4⟩ := bl_of w c4
        obtain ⟨hr, hs⟩ := ii X W Γ r w tk c2
        have hz : ∀ {a b : Int}, RgOk a b → (rgV a b).length ≤ SZ := fun h => by rw [rgV_length]; exact h.2.2.2.2
        cases t with
        | true =>
          simp only [if_true] at hx
          subst hx
          refine (pe_tupRg w.calm g1 g4 hr (star_cons hs)).imp fun σ H Q ⟨M, A, S, σd, R, sr, p⟩ => ?_
          simp only [evE] at p
          refine ⟨M, A, S, σd, R, sr, (post.bind p).imp fun ds H1 M1 A1 S1 f1 R1 p1 a b ok e R1 => ?_⟩
          subst e
          simp only [if_true] at p1
          exact ⟨ok, fun q hq => p1 _ _ _ (Fm.new hq) (R1.new hq) _ (Rp.tup (.of upd_same (R1.nM hq) (hz ok)) (rps_rng a b))⟩
        | false =>
          simp only [Bool.false_eq_true, if_false] at hx
          subst hx
          refine (pe_listRg w.calm g1 g4 hr (star_cons hs)).imp fun σ H Q ⟨M, A, S, σd, R, sr, p⟩ => ?_
          simp only [evE] at p
          refine ⟨M, A, S, σd, R, sr, (post.bind p).imp fun ds H1 M1 A1 S1 f1 R1 p1 a b ok e R1 => ?_⟩
          subst e
          simp only [Bool.false_eq_true, if_false] at p1
          exact ⟨ok, fun q hq => newM_post R1 hq (rps_rng a b) (hz ok) p1⟩
      | [], _, c => exact no (by unfold chkE at c; cases c)
      | [_], _ :: _, c => exact no (by unfold chkE at c; cases c)
      | _ :: _ :: _, _, c => exact no (by unfold chkE at c; cases c)
    | _ => exact no (by unfold chkE at c; cases c)
  | _ => exact no (by unfold chkE at c; cases c)
end
end KA
/-! KAIter: what is walked. -/
namespace KA
open PySem PySem.Spec PyProof.Rows L2
open AutoSeq1 (wpAny_loadPart')
/-! ### enumerate of a tuple -/
theorem meets_enumT_new (l : Addr) (items : Array Value) :
    Meets (Builtin.«enumerate.__new__» ⟨[.type "enumerate", .ref l], []⟩) (fun _ R s => s.heap.IsTuple l items ∧
      R (.ok (.ret (.ref (s.heap.push { cls := .type "tuple_iterator", data := .fields #[.ref l, .int 0 0] }).objs.size)))
        { s with heap := (s.heap.push { cls := .type "tuple_iterator", data := .fields #[.ref l, .int 0 0] }).push { cls := .type "enumerate", data := .fields #[.none, .bool false, .ref s.heap.objs.size, rawInt 0, .none, .none] } }) :=
  .of_wp fun prog w A R s h => by
    obtain ⟨hp, g, d, tk, os⟩ := s; obtain ⟨hl, h⟩ := h
    have hsub := sub_enumerate
    have hL : Heap.IsTuple (Shared.heap ⟨hp, g, d, tk, os⟩) l items := hl
    wp_walk
    refine wpAny_stack_any fun st => wpAny_pure ?_
    split
    · rename_i c _ _ _ _ _
      cases (c == Value.type "enumerate")
      · wp_walk using wpAny_pyIter_tuple hL
        exact ⟨_, rfl, h⟩
      · wp_walk using wpAny_pyIter_tuple hL
        exact ⟨_, rfl, h⟩
    · wp_walk using wpAny_pyIter_tuple hL
      exact ⟨_, rfl, h⟩
section
variable {prog : Program} {w : World} {A : Around} {E : Value → Shared → Prop} {s : Shared}
theorem call_enumT {l : Addr} {items : Array Value} {Q : Value → Shared → Prop} (hL : s.heap.IsTuple l items)
    (h : ∀ h', IsEnum h' (s.heap.objs.size + 1) s.heap.objs.size 0 .none → h'.IsTupleIter s.heap.objs.size l 0 → h'.objs.size = s.heap.objs.size + 2 →
      (∀ b o, s.heap.get? b = some o → h'.get? b = some o) → Q (.ref (s.heap.objs.size + 1)) { s with heap := h' }) :
    wpAny (model prog w) A (call (.type "enumerate") [.ref l]) Q E s := by
  refine callType_new F.called_enumerate (by decide) (F.typeCall_enumerate_1 _) (F.newCall_enumerate_1 _) (fun obj => F.args_object_init_2 obj _) F.entry_enumerate_new
    (meets_enumT_new l items) ⟨hL, ?_⟩
  have hz : (s.heap.push { cls := .type "tuple_iterator", data := .fields #[.ref l, .int 0 0] }).objs.size = s.heap.objs.size + 1 := Heap.size_push ..
  show _ ∧ _
  rw [hz]
  have he : IsEnum ((s.heap.push { cls := .type "tuple_iterator", data := .fields #[.ref l, .int 0 0] }).push
      { cls := .type "enumerate", data := .fields #[.none, .bool false, .ref s.heap.objs.size, rawInt 0, .none, .none] }) (s.heap.objs.size + 1) s.heap.objs.size 0 .none := by
    have := Heap.get?_push_size (s.heap.push { cls := .type "tuple_iterator", data := .fields #[.ref l, .int 0 0] })
      (o := { cls := .type "enumerate", data := .fields #[.none, .bool false, .ref s.heap.objs.size, rawInt 0, .none, .none] }) rfl
    rw [hz] at this; exact this
  refine ⟨⟨_, he, rfl⟩, h _ he ⟨_, Heap.get?_push_of_some _ (Heap.get?_push_size _ rfl), rfl, rfl⟩ (by rw [Heap.size_push, hz]) fun b o x => Heap.get?_push_of_some _ (Heap.get?_push_of_some _ x)⟩
end
def IteT (K : PySem.W.Frag) (a : Addr) : It :=
  ⟨fun i H => ∃ (xs : List V) (x : V), SqT K H a xs ∧ xs[i]? = some x, fun i H v H' => ∃ T x, v = .ref T ∧ H T = none ∧ H' = upd H T (.tup [.int (i : Nat), x]) ∧ ∀ xs, SqT K H a xs → xs[i]? = some x, fun i H => ∃ xs : List V, SqT K H a xs ∧ xs.length ≤ i⟩
theorem apart_tup {h : Heap} {a it : Addr} {items : Array Value} {i : Nat} (h1 : h.IsTuple a items) (h2 : h.IsTupleIter it a i) : a ≠ it := fun e => by
  subst e
  obtain ⟨o, e, c, _⟩ := h1
  obtain ⟨o2, e2, c2, _⟩ := h2
  rw [e] at e2; cases e2
  rw [c] at c2
  injection c2 with z
  exact absurd z (by decide)
theorem turn_enumT {P : Program} {w : World} {K : PySem.W.Frag} {elts : List Expr} {kk : Nat} {tpos : Pos} (a e it : Addr) :
    Turn P w K (.Tuple elts kk tpos) (IteT K a) [e, it] e (fun i h => (∃ old, IsEnum h e it ((i : Nat) : Int) old) ∧ h.IsTupleIter it a i ∧ e ≠ it ∧ e ≠ a) where
  mem := by simp
  obj := fun i h st b hb => by
    obtain ⟨⟨old, he⟩, ⟨o, ho, hc, hd⟩, _⟩ := st
    have e' : b = e ∨ b = it := by simpa using hb
    rcases e' with z | z
    · rw [z]; exact ⟨_, he, fun v q => nomatch q⟩
    · rw [z]; exact ⟨o, ho, fun v q => by rw [hd] at q; cases q⟩
  keep := fun i h h' st k => let ⟨⟨old, he⟩, hi, hne⟩ := st; ⟨⟨old, k e (by simp) _ he⟩, hi.at fun o q => k it (by simp) o q, hne⟩
  item := by
    intro X hP hw hK hc i pins s σ H E I hf st hg
    subst hP hw hK
    obtain ⟨⟨old, he⟩, hit, hne, hna⟩ := st
    obtain ⟨xs, x, hq, hx⟩ := hg
    obtain ⟨its, rv, p, hz⟩ := I.tuple hq
    obtain ⟨u, hu, ru⟩ := rv.get hx
    have hel : e < s.heap.objs.size := Heap.lt_size he
    have hil : it < s.heap.objs.size := by obtain ⟨_, q, _⟩ := hit; exact Heap.lt_size q
    have p' : s.heap.IsTuple a its.toArray := p
    have hai : a ≠ it := apart_tup p' hit
    have hlt : i < its.toArray.size := by
      have := (List.getElem?_eq_some_iff.mp hu).1
      simpa using this
    refine wpAny_pyNext_enum_itemD (Draws.tuple (show X.A.in1.handled = none from I.ok.hd hc) it a hai its.toArray) he ⟨hit, p'⟩ hlt hne (by simp; exact ⟨hne, hna⟩) fun y h' tk hy ho hit' hT hsz hk => ?_
    have ey : y = u := by
      have h1 : its.toArray[i]? = some u := by simpa using hu
      rw [h1] at hy
      exact (Option.some.inj hy).symm
    subst ey
    refine ⟨_, rfl, wpAny_letOwnedTupleGo_enum (s := { s with heap := h', toks := tk + 1 }) ho fun h'' he' sb => ?_⟩
    have hT2 : h''.get? s.heap.objs.size = some { cls := .type "tuple", data := .seq #[.int i tk, y] } := (sb.2 _ (Nat.ne_of_gt hel)).trans hT
    have new : ObjOk X.prog X.w (upd H s.heap.objs.size (.tup [.int (i : Nat), x])) h'' s.heap.objs.size (.tup [.int (i : Nat), x]) :=
      ⟨by show 2 ≤ sizeLine; decide, [.int i tk, y], .cons ⟨_, rfl⟩ (.cons ru .nil), ⟨_, hT2, rfl, _, rfl⟩⟩
    have I1 : Inv X pins σ (upd H s.heap.objs.size (.tup [.int (i : Nat), x])) { s with heap := h'', toks := tk + 1 } :=
      I.turnedNew (ch := [e, it]) (fun b ob hb q => (sb.2 b (fun z => hb (by simp [z]))).trans (hk b ob (fun z => hb (by simp [z])) (fun z => hb (by simp [z])) q)) hf (Nat.le_refl _) new
    refine ⟨.ref s.heap.objs.size, _, I1, rfl, ⟨_, x, rfl, I.hok.fresh (Nat.le_refl _), rfl, fun ys hy => by rw [I.tuple_inj hy hq]; exact hx⟩, ⟨⟨y, ?_⟩, hit'.1.at fun o q => (sb.2 it (Ne.symm hne)).trans q, hne, hna⟩, fun b hb => ?_⟩
    · have e1 : ((i + 1 : Nat) : Int) = (i : Int) + 1 := by omega
      rw [e1]; exact he'
    · have hb' : b < s.heap.objs.size := by
        have e' : b = e ∨ b = it := by simpa using hb
        rcases e' with z | z
        · rw [z]; exact hel
        · rw [z]; exact hil
      rw [upd_ne (Nat.ne_of_lt hb')]
      exact (hf b hb).1
  done := by
    intro X hP hw hK hc i pins s σ H E I hf st hg
    subst hP hw hK
    obtain ⟨⟨old, he⟩, hit, hne, hna⟩ := st
    obtain ⟨xs, hq, hx⟩ := hg
    obtain ⟨its, rv, p, hz⟩ := I.tuple hq
    obtain ⟨f0, f1, f2, f3, f4, f5⟩ := hf it (by simp)
    have hl := rv.length
    have p' : s.heap.IsTuple a its.toArray := p
    unfold pyNext
    refine wpAny_bind (wpAny_attempt (wpAny_callSpecial?_slot (name := Str.ofString "__next__") (show s.TypeIs (.ref e) "enumerate" from ⟨_, he, rfl⟩) F.slot_enumerate_next
      (wpAny_call_entry F.slot_enumerate_next (show s.TypeIs (.ref e) "enumerate" from ⟨_, he, rfl⟩) F.entry_enumerate_next ?_ (F.args_enumerate_next_1 _))))
    show wpAny _ _ (field (.ref e) 2 >>= _) _ _ _
    refine wpAny_bind (wpAny_field he rfl (x := .ref it) rfl ?_)
    refine wpAny_bind (wpAny_nextOf_tuple_end (show X.A.in1.handled = none from I.ok.hd hc) hit p' (by simp; omega) fun h' x eb hx' => ?_)
    obtain ⟨o, ho, hcl⟩ := hx'
    refine wpAny_bind (wpAny_isInstance (T := "StopIteration") (b := true) ⟨o, ho, hcl⟩ isSubtype_stop ?_)
    exact wpAny_pure ⟨rfl, I.turned (t' := s.toks) (fun b o hb q => eb b o hb q) f0 f1 f3 f4 f5⟩
  self := fun A i s Q E st h => let ⟨⟨_, he⟩, _⟩ := st; wpAny_pyIter_enum he h
def iEnumA (K : PySem.W.Frag) (ta : TA) : TI := fun σ H R => ta σ H fun vs H1 => ∃ a xs, vs = [.ref a] ∧ ((SqL K H1 a xs ∧ R (Ite K a) H1) ∨ (SqT K H1 a xs ∧ R (IteT K a) H1))
theorem pi_enumA {X : Cx} {e : Expr} {ta : TA} {p pos tpos : Pos} {elts : List Expr} {kk : Nat} (hg : Gl X "enumerate") (hm : X.mg "enumerate" = none) (ha : PA X [e] ta) (hs : starEach [e] X.env = [(false, eval e X.env)] := by rfl) :
    PI X (.Tuple elts kk tpos) (.Call (.Name "enumerate" p) [e] [] pos) (iEnumA X.K ta) := by
  refine ⟨fun pins s σ H R I h => ?_⟩
  refine Call_ (ld_blt I hg hm boot_enumerate (PyProof.Rows.callWith_type1 (thn (ha.run pos pins s σ H _ I h) fun us s1 ⟨vs, H1, I1, r1, q1⟩ => ?_) hs rfl))
  obtain ⟨a, xs, ex, q1⟩ := q1
  subst ex
  cases r1 with
  | cons r rr =>
    cases rr
    cases r
    have fr : ∀ b ∈ [s1.heap.objs.size + 1, s1.heap.objs.size], FpOk X pins H1 b := fun b hb => by
      have e' : b = s1.heap.objs.size + 1 ∨ b = s1.heap.objs.size := by simpa using hb
      have hle : s1.heap.objs.size ≤ b := by
        rcases e' with z | z
        · rw [z]; exact Nat.le_add_right _ _
        · rw [z]; exact Nat.le_refl _
      exact I1.fpOk hle (I1.hok.fresh hle)
    rcases q1 with ⟨hq, q⟩ | ⟨hq, q⟩
    · obtain ⟨its, rv, p', hz⟩ := I1.list hq
      refine call_enumerate_list p'.isList fun h' he hit hsz hk => wpAny_pyIter_enum he ?_
      have I2 : Inv X pins σ H1 { s1 with heap := h' } := I1.kept (t' := s1.toks) hk
      exact ⟨s1.heap.objs.size + 1, [s1.heap.objs.size + 1, s1.heap.objs.size], _, _, H1, rfl, I2, turn_enum a (s1.heap.objs.size + 1) s1.heap.objs.size, ⟨⟨.none, he⟩, hit, Nat.succ_ne_self _⟩, fr, q⟩
    · obtain ⟨its, rv, p', hz⟩ := I1.tuple hq
      have p2 : s1.heap.IsTuple a its.toArray := p'
      have hlt : a < s1.heap.objs.size := by obtain ⟨o, e, _⟩ := p2; exact Heap.lt_size e
      refine call_enumT p2 fun h' he hit hsz hk => wpAny_pyIter_enum he ?_
      have I2 : Inv X pins σ H1 { s1 with heap := h' } := I1.kept (t' := s1.toks) hk
      exact ⟨s1.heap.objs.size + 1, [s1.heap.objs.size + 1, s1.heap.objs.size], _, _, H1, rfl, I2, turn_enumT a (s1.heap.objs.size + 1) s1.heap.objs.size, ⟨⟨.none, he⟩, hit, Nat.succ_ne_self _, fun z => Nat.lt_irrefl _ (Nat.lt_trans (z ▸ hlt) (Nat.lt_succ_self _))⟩, fr, q⟩
end KA
/-! KAIter2: what is walked, by the evaluator's items. -/
namespace KA
open PySem PySem.Spec PyProof.Rows L2
def Al (H : Hp) (M : Addr → Prop) : Prop := ∀ a, M a → ∃ o, H a = some o
/-- the iterator yields these items, whatever else happens -/
def Wk (K : PySem.W.Frag) (J : It) (items : List PD) (H : Hp) (M : Addr → Prop) : Prop := ∀ H1 M1, Stay H M H1 M1 → Al H1 M1 →
  (∀ i, i < items.length → J.go i H1) ∧ (∀ i, items.length ≤ i → J.stop i H1) ∧
  ∀ i d, items[i]? = some d → ∀ x H2, J.yld i H1 x H2 → Rp K H2 M1 d x ∧ (H2 = H1 ∨ ∃ T o, H1 T = none ∧ H2 = upd H1 T o)
section
variable {K : PySem.W.Frag} {H H' : Hp} {M M' : Addr → Prop} {a b : Addr} {xs ys : List V} {ds es : List PD}
theorem Wk.stay {J : It} (w : Wk K J ds H M) (s : Stay H M H' M') : Wk K J ds H' M' := fun H1 M1 s1 al => w H1 M1 (s.trans s1) al
theorem Al.no (al : Al H M) (h : H a = none) : ¬ M a := fun m => by
  obtain ⟨o, e⟩ := al a m
  rw [h] at e; cases e
theorem Rps.at? (rs : Rps K H M ds xs) {i : Nat} (h : i < ds.length) : ∃ v, xs[i]? = some v ∧ Rp K H M ds[i] v := rs.get (by simp [h])
theorem wk_list (hs : SqFL K H M a xs) (rs : Rps K H M ds xs) : Wk K (Itl K a) ds H M := by
  intro H1 M1 s al
  have hs1 := (hs.stay s).sq
  have rs1 := rs.stay s
  refine ⟨fun i hi => ?_, fun i hi => ⟨xs, hs1, by rw [← rs.length]; exact hi⟩, fun i d e x H2 ⟨e2, y⟩ => ?_⟩
  · obtain ⟨v, hv, _⟩ := rs1.at? hi
    exact ⟨xs, v, hs1, hv⟩
  · subst e2
    obtain ⟨v, hv, r⟩ := rs1.get e
    have := y xs hs1
    rw [hv] at this
    cases this
    exact ⟨r, .inl rfl⟩
theorem wk_tup (hs : SqFT K H M a xs) (rs : Rps K H M ds xs) : Wk K (Itt K a) ds H M := by
  intro H1 M1 s al
  have hs1 := (hs.stay s).sq
  have rs1 := rs.stay s
  refine ⟨fun i hi => ?_, fun i hi => ⟨xs, hs1, by rw [← rs.length]; exact hi⟩, fun i d e x H2 ⟨e2, y⟩ => ?_⟩
  · obtain ⟨v, hv, _⟩ := rs1.at? hi
    exact ⟨xs, v, hs1, hv⟩
  · subst e2
    obtain ⟨v, hv, r⟩ := rs1.get e
    have := y xs hs1
    rw [hv] at this
    cases this
    exact ⟨r, .inl rfl⟩
theorem enumD_len : ∀ (n : Nat) (ds : List PD), (enumD n ds).length = ds.length
  | _, [] => rfl
  | n, _ :: r => by unfold enumD; rw [List.length_cons, List.length_cons, enumD_len (n + 1) r]
theorem enumD_get : ∀ {n i : Nat} {ds : List PD} {d : PD}, (enumD n ds)[i]? = some d → ∃ x, ds[i]? = some x ∧ d = .tuple [.int ((n + i : Nat) : Int), x]
  | _, _, [], _, e => by simp [enumD] at e
  | n, 0, x :: r, d, e => by
    unfold enumD at e
    simp at e
    exact ⟨x, rfl, by rw [← e]; simp⟩
  | n, i + 1, x :: r, d, e => by
    unfold enumD at e
    obtain ⟨y, h1, h2⟩ := enumD_get (n := n + 1) (i := i) (ds := r) (d := d) (by simpa using e)
    exact ⟨y, by simpa using h1, by rw [h2]; congr 4; omega⟩
theorem zipD_len : ∀ (ds es : List PD), (zipD ds es).length = min ds.length es.length
  | [], _ => by simp [zipD]
  | _ :: _, [] => by simp [zipD]
  | _ :: r, _ :: r2 => by unfold zipD; simp only [List.length_cons]; rw [zipD_len r r2]; omega
theorem zipD_get : ∀ {i : Nat} {ds es : List PD} {d : PD}, (zipD ds es)[i]? = some d → ∃ x y, ds[i]? = some x ∧ es[i]? = some y ∧ d = .tuple [x, y]
  | _, [], _, _, e => by simp [zipD] at e
  | _, _ :: _, [], _, e => by simp [zipD] at e
  | 0, x :: _, y :: _, d, e => by
    unfold zipD at e
    simp at e
    exact ⟨x, y, rfl, rfl, e.symm⟩
  | i + 1, x :: r, y :: r2, d, e => by
    unfold zipD at e
    obtain ⟨u, v, h1, h2, h3⟩ := zipD_get (i := i) (ds := r) (es := r2) (d := d) (by simpa using e)
    exact ⟨u, v, by simpa using h1, by simpa using h2, h3⟩
theorem pair_rp {H1 : Hp} {M1 : Addr → Prop} {T : Addr} {x y : PD} {u v : V} (al : Al H1 M1) (hT : H1 T = none) (r1 : Rp K H1 M1 x u) (r2 : Rp K H1 M1 y v) : Rp K (upd H1 T (.tup [u, v])) M1 (.tuple [x, y]) (.ref T) :=
  .tup (.of upd_same (al.no hT) (by show 2 ≤ SZ; decide)) (.cons (r1.stay (stay_new hT)) (.cons (r2.stay (stay_new hT)) .nil))
theorem wk_enum (hs : SqFL K H M a xs) (rs : Rps K H M ds xs) : Wk K (Ite K a) (enumD 0 ds) H M := by
  intro H1 M1 s al
  have hs1 := (hs.stay s).sq
  have rs1 := rs.stay s
  refine ⟨fun i hi => ?_, fun i hi => ⟨xs, hs1, by rw [← rs.length, ← enumD_len 0]; exact hi⟩, fun i d e x H2 ⟨T, u, e1, e2, e3, y⟩ => ?_⟩
  · obtain ⟨v, hv, _⟩ := rs1.at? (by rw [← enumD_len 0]; exact hi)
    exact ⟨xs, v, hs1, hv⟩
  · subst e1 e3
    obtain ⟨z, hz, ez⟩ := enumD_get e
    obtain ⟨v, hv, r⟩ := rs1.get hz
    have := y xs hs1
    rw [hv] at this
    cases this
    subst ez
    refine ⟨?_, .inr ⟨T, _, e2, rfl⟩⟩
    rw [Nat.zero_add]
    exact pair_rp al e2 (.int _) r
theorem wk_enumT (hs : SqFT K H M a xs) (rs : Rps K H M ds xs) : Wk K (IteT K a) (enumD 0 ds) H M := by
  intro H1 M1 s al
  have hs1 := (hs.stay s).sq
  have rs1 := rs.stay s
  refine ⟨fun i hi => ?_, fun i hi => ⟨xs, hs1, by rw [← rs.length, ← enumD_len 0]; exact hi⟩, fun i d e x H2 ⟨T, u, e1, e2, e3, y⟩ => ?_⟩
  · obtain ⟨v, hv, _⟩ := rs1.at? (by rw [← enumD_len 0]; exact hi)
    exact ⟨xs, v, hs1, hv⟩
  · subst e1 e3
    obtain ⟨z, hz, ez⟩ := enumD_get e
    obtain ⟨v, hv, r⟩ := rs1.get hz
    have := y xs hs1
    rw [hv] at this
    cases this
    subst ez
    refine ⟨?_, .inr ⟨T, _, e2, rfl⟩⟩
    rw [Nat.zero_add]
    exact pair_rp al e2 (.int _) r
theorem wk_zip (hs : SqFL K H M a xs) (hs2 : SqFL K H M b ys) (rs : Rps K H M ds xs) (rs2 : Rps K H M es ys) : Wk K (Itz K a b) (zipD ds es) H M := by
  intro H1 M1 s al
  have h1 := (hs.stay s).sq
  have h2 := (hs2.stay s).sq
  have r1 := rs.stay s
  have r2 := rs2.stay s
  refine ⟨fun i hi => ?_, fun i hi => ⟨xs, ys, h1, h2, ?_⟩, fun i d e x H2 ⟨T, u, u2, e1, e2, e3, y, y2⟩ => ?_⟩
  · rw [zipD_len] at hi
    obtain ⟨v, hv, _⟩ := r1.at? (show i < ds.length by omega)
    obtain ⟨v2, hv2, _⟩ := r2.at? (show i < es.length by omega)
    exact ⟨xs, ys, v, v2, h1, h2, hv, hv2⟩
  · rw [zipD_len] at hi
    rw [← rs.length, ← rs2.length]
    omega
  · subst e1 e3
    obtain ⟨z, z2, hz, hz2, ez⟩ := zipD_get e
    obtain ⟨v, hv, q⟩ := r1.get hz
    obtain ⟨v2, hv2, q2⟩ := r2.get hz2
    have t1 := y xs h1
    rw [hv] at t1
    cases t1
    have t2 := y2 ys h2
    rw [hv2] at t2
    cases t2
    subst ez
    exact ⟨pair_rp al e2 q q2, .inr ⟨T, _, e2, rfl⟩⟩
theorem wk_zipT (hs : SqFT K H M a xs) (hs2 : SqFT K H M b ys) (rs : Rps K H M ds xs) (rs2 : Rps K H M es ys) : Wk K (RZ.ItzT K a b) (zipD ds es) H M := by
  intro H1 M1 s al
  have h1 := (hs.stay s).sq
  have h2 := (hs2.stay s).sq
  have r1 := rs.stay s
  have r2 := rs2.stay s
  refine ⟨fun i hi => ?_, fun i hi => ⟨xs, ys, h1, h2, ?_⟩, fun i d e x H2 ⟨T, u, u2, e1, e2, e3, y, y2⟩ => ?_⟩
  · rw [zipD_len] at hi
    obtain ⟨v, hv, _⟩ := r1.at? (show i < ds.length by omega)
    obtain ⟨v2, hv2, _⟩ := r2.at? (show i < es.length by omega)
    exact ⟨xs, ys, v, v2, h1, h2, hv, hv2⟩
  · rw [zipD_len] at hi
    rw [← rs.length, ← rs2.length]
    omega
  · subst e1 e3
    obtain ⟨z, z2, hz, hz2, ez⟩ := zipD_get e
    obtain ⟨v, hv, q⟩ := r1.get hz
    obtain ⟨v2, hv2, q2⟩ := r2.get hz2
    have t1 := y xs h1
    rw [hv] at t1
    cases t1
    have t2 := y2 ys h2
    rw [hv2] at t2
    cases t2
    subst ez
    exact ⟨pair_rp al e2 q q2, .inr ⟨T, _, e2, rfl⟩⟩
theorem rngD_len (i j : Int) : (rngD i j).length = (j - i).toNat := by unfold rngD; rw [List.length_map, List.length_range]
theorem rngD_get {i j : Int} {n : Nat} {d : PD} (h : (rngD i j)[n]? = some d) : n < (j - i).toNat ∧ d = .int (i + (n : Nat)) := by
  have hl : n < (j - i).toNat := by
    have := (List.getElem?_eq_some_iff.mp h).1
    rw [rngD_len] at this
    exact this
  unfold rngD at h
  rw [List.getElem?_map, List.getElem?_range hl] at h
  exact ⟨hl, (Option.some.inj h).symm⟩
theorem wk_rng (i j : Int) : Wk K (Itr i (j - i).toNat) (rngD i j) H M := by
  intro H1 M1 s al
  refine ⟨fun n hn => by rw [rngD_len] at hn; exact hn, fun n hn => by rw [rngD_len] at hn; exact hn, fun n d e x H2 ⟨e2, y⟩ => ?_⟩
  obtain ⟨_, ed⟩ := rngD_get e
  subst e2 y ed
  exact ⟨.int _, .inl rfl⟩
end
/-! ### the walk of an expression -/
section
variable {D : Dom} {k : Nat}
def tWk (K : PySem.W.Frag) (mg : Str → Option Value) (W : WX) (r : Sg → Sto → R (List PD)) : TI := fun σ H Q => ∃ M A S σd, Rel K H M A S ∧ Sr K H M A σd σ ∧
  post K mg (fun c d H => W c d σ H) H M A S (r σd S) fun items H' M' A' S' => ∀ J, Wk K J items H' M' → Q J H'
def SI (D : Dom) (k : Nat) (c : CI) : Prop := ∀ (X : Cx) (W : WX) (Γ : Cs) (tg e : Expr), Wd D k Γ X → Takes X W → chkI D Γ c e = true → (tupB tg || !needT c) = true →
  PI X tg e (tWk X.K X.mg W fun σ S => evI (evCall D.T k) (parOf D.T) σ c S) ∧ ∀ x, foldedSetIterable e X.env x = pure x
theorem _root_.L2.PI.imp {X : Cx} {tg e : Expr} {t t' : TI} (h : PI X tg e t) (i : ∀ σ H Q, t' σ H Q → t σ H Q) : PI X tg e t' := ⟨fun pins s σ H Q I q => h.run pins s σ H Q I (i σ H Q q)⟩
def iSeq (K : PySem.W.Frag) (tl : TE) : TI := fun σ H R => tl σ H fun x H1 => ∃ a, x = .ref a ∧ ((∃ xs, SqL K H1 a xs) ∧ R (Itl K a) H1 ∨ (∃ xs, SqT K H1 a xs) ∧ R (Itt K a) H1)
theorem pi_seq {X : Cx} {tg l : Expr} {tl : TE} (hl : PE X l tl) : PI X tg l (iSeq X.K tl) := by
  refine ⟨fun pins s σ H R I h => ?_⟩
  refine thn (hl.run pins s σ H _ I h) fun v s1 ⟨x, H1, I1, r1, q1⟩ => ?_
  obtain ⟨a, e, q1⟩ := q1
  subst e
  cases r1
  have fr : ∀ b ∈ [s1.heap.objs.size], FpOk X pins H1 b := fun b hb => by
    have e : b = s1.heap.objs.size := by simpa using hb
    subst e
    exact I1.fpOk (Nat.le_refl _) (I1.hok.fresh (Nat.le_refl _))
  rcases q1 with ⟨⟨xs, hq⟩, q⟩ | ⟨⟨xs, hq⟩, q⟩
  · obtain ⟨its, rv, p, hz⟩ := I1.list hq
    refine wpAny_pyIter_list p.isList ?_
    exact ⟨s1.heap.objs.size, [s1.heap.objs.size], _, _, H1, rfl, I1.kept (t' := s1.toks) fun b o e => Heap.get?_push_of_some _ e, turn_list a _, ⟨_, Heap.get?_push_size _ rfl, rfl, rfl⟩, fr, q⟩
  · obtain ⟨its, rv, p, hz⟩ := I1.tuple hq
    refine wpAny_pyIter_tuple (show s1.heap.IsTuple a its.toArray from p) ?_
    exact ⟨s1.heap.objs.size, [s1.heap.objs.size], _, _, H1, rfl, I1.kept (t' := s1.toks) fun b o e => Heap.get?_push_of_some _ e, turn_tuple a _, ⟨_, Heap.get?_push_size _ rfl, rfl, rfl⟩, fr, q⟩
theorem itemsD_eq {d : PD} {ds : List PD} (h : itemsD d = some ds) : d = .list ds ∨ d = .tuple ds := by
  cases d with
  | list x => cases h; exact .inl rfl
  | tuple x => cases h; exact .inr rfl
  | _ => cases h
theorem post.opt0 {α : Type} {K : PySem.W.Frag} {mg : Str → Option Value} {W : XK} {H : Hp} {M : Addr → Prop} {A : List Addr} {S : Sto} {o : Option α} {Q : α → Hp → (Addr → Prop) → List Addr → Sto → Prop} (h : post K mg W H M A S (R.opt o S) Q) : ∃ a, o = some a ∧ post K mg W H M A S (.ok a S) Q := by
  cases o with
  | none => exact h.elim
  | some a => exact ⟨a, rfl, h⟩
theorem foldset {e : Expr} {env : Env} (h : setB e = false) : ∀ x, foldedSetIterable e env x = pure x := by
  cases e <;> first
    | exact fun _ => rfl
    | cases h
theorem si_seq {a : CE} (ia : SE D k a) : SI D k (.seq a) := by
  intro X W Γ tg e w tk c ht
  obtain ⟨c1, c2⟩ := ba (show (chkE D Γ a e && !setB e) = true by unfold chkI at c; exact c)
  refine ⟨(pi_seq (ia X W Γ e w tk c1)).imp fun σ H Q ⟨M, A, S, σd, R, sr, p⟩ => ?_, foldset (by simpa using c2)⟩
  simp only [evI] at p
  refine ⟨M, A, S, σd, R, sr, (post.bind (post.assoc p)).imp fun v H1 M1 A1 S1 f1 R1 p1 u1 r1 => ?_⟩
  obtain ⟨x, S2, M2, R2, f2, rp, p2⟩ := esc_post R1 r1 p1
  obtain ⟨ds, e2, p3⟩ := post.opt0 p2
  have q := post.ok R2 p3
  rcases itemsD_eq e2 with z | z
  · subst z
    cases rp with
    | lst hs hr => exact ⟨_, rfl, .inl ⟨⟨_, hs.sq⟩, q _ (wk_list hs hr)⟩⟩
  · subst z
    cases rp with
    | tup hs hr => exact ⟨_, rfl, .inr ⟨⟨_, hs.sq⟩, q _ (wk_tup hs hr)⟩⟩
theorem si_rng {a : CE} (ia : SE D k a) : SI D k (.rng a) := by
  intro X W Γ tg e w tk c ht
  cases e with
  | Call fn es kws pos =>
    cases fn with
    | Name x p =>
      match es, kws, c with
      | [e], [], c =>
        obtain ⟨c1, c2⟩ := ba (show (decide (x = "range") && blB D Γ x && chkE D Γ a e && !starB e) = true by unfold chkI at c; exact c)
        obtain ⟨c3, c4⟩ := ba c1
        obtain ⟨c5, c6⟩ := ba c3
        have hx := of_decide_eq_true c5
        obtain ⟨g1, g2, g3, g4⟩ := bl_of w c6
        have hs : starB e = false := by simpa using c2
        subst hx
        refine ⟨(pi_range1 g1 g4 (pa_cons (ia X W Γ e w tk c4) pa_nil (star_cons hs)) (star_cons hs)).imp fun σ H Q ⟨M, A, S, σd, R, sr, pp⟩ => ?_, fun _ => rfl⟩
        simp only [evI] at pp
        refine ⟨M, A, S, σd, R, sr, (post.bind pp).imp fun v H1 M1 A1 S1 f1 R1 p1 u1 r1 => ?_⟩
        obtain ⟨a', z, ea, e', p2⟩ := op1_post p1
        rw [intD_eq e'] at ea
        split at p2
        · rename_i hk
          obtain ⟨_, _, k3, k4, _⟩ := rgok hk
          have q := post.ok R1 p2 (Itr 0 z.toNat) (by have := wk_rng (K := X.K) (H := H1) (M := M1) 0 z; simpa using this)
          exact ⟨z, by rw [rd_int r1 ea], k3, k4, q⟩
        · exact p2.elim
      | [], _, c => exact no (by unfold chkI at c; cases c)
      | [_], _ :: _, c => exact no (by unfold chkI at c; cases c)
      | _ :: _ :: _, _, c => exact no (by unfold chkI at c; cases c)
    | _ => exact no (by unfold chkI at c; cases c)
  | _ => exact no (by unfold chkI at c; cases c)
theorem si_rng2 {a b : CE} (ia : SE D k a) (ib : SE D k b) : SI D k (.rng2 a b) := by
  intro X W Γ tg e w tk c ht
  cases e with
  | Call fn es kws pos =>
    cases fn with
    | Name x p =>
      match es, kws, c with
      | [e, e2], [], c =>
        obtain ⟨c1, c2⟩ := ba (show (decide (x = "range") && blB D Γ x && chkE D Γ a e && !starB e && chkE D Γ b e2 && !starB e2) = true by unfold chkI at c; exact c)
        obtain ⟨c3, c4⟩ := ba c1
        obtain ⟨c5, c6⟩ := ba c3
        obtain ⟨c7, c8⟩ := ba c5
        obtain ⟨c9, c10⟩ := ba c7
        have hx := of_decide_eq_true c9
        obtain ⟨g1, g2, g3, g4⟩ := bl_of w c10
        have hs : starB e = false := by simpa using c6
        have hs2 : starB e2 = false := by simpa using c2
        subst hx
        refine ⟨(pi_range2 g1 g4 (pa_cons (ia X W Γ e w tk c8) (pa_cons (ib X W Γ e2 w tk c4) pa_nil (star_cons hs2)) (star_cons hs)) (by rw [star_cons hs, star_cons hs2]; rfl) (star_cons hs2)).imp fun σ H Q ⟨M, A, S, σd, R, sr, pp⟩ => ?_, fun _ => rfl⟩
        simp only [evI] at pp
        refine ⟨M, A, S, σd, R, sr, (post.bind pp).imp fun v H1 M1 A1 S1 f1 R1 p1 u1 r1 => ?_⟩
        refine ⟨M1, A1, S1, σd, R1, sr.mono f1, (post.bind p1).imp fun v2 H2 M2 A2 S2 f2 R2 p2 u2 r2 => ?_⟩
        obtain ⟨a', z, ea, e', p3⟩ := op1_post p2
        obtain ⟨b', z2, eb, e2', p4⟩ := op1_post p3
        rw [intD_eq e'] at ea
        rw [intD_eq e2'] at eb
        split at p4
        · rename_i hk
          obtain ⟨k1, k2, k3, k4, _⟩ := rgok hk
          exact ⟨z, z2, by rw [rd_int (r1.mono f2) ea, rd_int r2 eb], ⟨k1, k2, k3, k4⟩, post.ok R2 p4 _ (wk_rng z z2)⟩
        · exact p4.elim
      | [], _, c => exact no (by unfold chkI at c; cases c)
      | [_], _, c => exact no (by unfold chkI at c; cases c)
      | [_, _], _ :: _, c => exact no (by unfold chkI at c; cases c)
      | _ :: _ :: _ :: _, _, c => exact no (by unfold chkI at c; cases c)
    | _ => exact no (by unfold chkI at c; cases c)
  | _ => exact no (by unfold chkI at c; cases c)
theorem si_enum {a : CE} (ia : SE D k a) : SI D k (.enum a) := by
  intro X W Γ tg e w tk c ht
  cases e with
  | Call fn es kws pos =>
    cases fn with
    | Name x p =>
      match es, kws, c with
      | [e], [], c =>
        obtain ⟨c1, c2⟩ := ba (show (decide (x = "enumerate") && blB D Γ x && chkE D Γ a e && !starB e) = true by unfold chkI at c; exact c)
        obtain ⟨c3, c4⟩ := ba c1
        obtain ⟨c5, c6⟩ := ba c3
        have hx := of_decide_eq_true c5
        obtain ⟨g1, g2, g3, g4⟩ := bl_of w c6
        have hs : starB e = false := by simpa using c2
        subst hx
        cases tg with
        | Tuple elts kk tpos =>
          refine ⟨(pi_enumA g1 g4 (pa_cons (ia X W Γ e w tk c4) pa_nil (star_cons hs)) (star_cons hs)).imp fun σ H Q ⟨M, A, S, σd, R, sr, pp⟩ => ?_, fun _ => rfl⟩
          simp only [evI] at pp
          refine ⟨M, A, S, σd, R, sr, (post.bind (post.assoc pp)).imp fun v H1 M1 A1 S1 f1 R1 p1 u1 r1 => ?_⟩
          obtain ⟨x, S2, M2, R2, f2, rp, p2⟩ := esc_post R1 r1 p1
          obtain ⟨ds, e2, p3⟩ := post.opt p2
          have q := post.ok R2 p3
          rcases itemsD_eq e2 with z | z
          · subst z
            cases rp with
            | lst hs hr => exact ⟨_, _, rfl, .inl ⟨hs.sq, q _ (wk_enum hs hr)⟩⟩
          · subst z
            cases rp with
            | tup hs hr => exact ⟨_, _, rfl, .inr ⟨hs.sq, q _ (wk_enumT hs hr)⟩⟩
        | _ => exact absurd ht (by simp [tupB, needT])
      | [], _, c => exact no (by unfold chkI at c; cases c)
      | [_], _ :: _, c => exact no (by unfold chkI at c; cases c)
      | _ :: _ :: _, _, c => exact no (by unfold chkI at c; cases c)
    | _ => exact no (by unfold chkI at c; cases c)
  | _ => exact no (by unfold chkI at c; cases c)
theorem zipP_eq {x y : PD} {zs : List PD} (h : zipP x y = some zs) : ∃ xs ys, zs = zipD xs ys ∧ ((x = .list xs ∧ y = .list ys) ∨ (x = .tuple xs ∧ y = .tuple ys)) := by
  unfold zipP at h
  split at h
  · cases h; exact ⟨_, _, rfl, .inl ⟨rfl, rfl⟩⟩
  · cases h; exact ⟨_, _, rfl, .inr ⟨rfl, rfl⟩⟩
  · cases h
theorem si_zip {a b : CE} (ia : SE D k a) (ib : SE D k b) : SI D k (.zip a b) := by
  intro X W Γ tg e w tk c ht
  cases e with
  | Call fn es kws pos =>
    cases fn with
    | Name x p =>
      match es, kws, c with
      | [e, e2], [], c =>
        obtain ⟨c1, c2⟩ := ba (show (decide (x = "zip") && blB D Γ x && chkE D Γ a e && !starB e && chkE D Γ b e2 && !starB e2) = true by unfold chkI at c; exact c)
        obtain ⟨c3, c4⟩ := ba c1
        obtain ⟨c5, c6⟩ := ba c3
        obtain ⟨c7, c8⟩ := ba c5
        obtain ⟨c9, c10⟩ := ba c7
        have hx := of_decide_eq_true c9
        obtain ⟨g1, g2, g3, g4⟩ := bl_of w c10
        have hs : starB e = false := by simpa using c6
        have hs2 : starB e2 = false := by simpa using c2
        subst hx
        cases tg with
        | Tuple elts kk tpos =>
          refine ⟨(RZ.pi_zipA g1 g4 (pa_cons (ia X W Γ e w tk c8) (pa_cons (ib X W Γ e2 w tk c4) pa_nil (star_cons hs2)) (star_cons hs)) (star_cons hs) (by rw [star_cons hs2]; rfl)).imp fun σ H Q ⟨M, A, S, σd, R, sr, pp⟩ => ?_, fun _ => rfl⟩
          simp only [evI] at pp
          refine ⟨M, A, S, σd, R, sr, (post.bind (post.assoc pp)).imp fun v H1 M1 A1 S1 f1 R1 p1 u1 r1 => ?_⟩
          obtain ⟨x, S2, M2, R2, f2, rp, p2⟩ := esc_post R1 r1 p1
          refine ⟨M2, A1, S2, σd, R2, (sr.mono f1).mono f2, (post.bind (post.assoc p2)).imp fun v2 H3 M3 A3 S3 f3 R3 p3 u2 r2 => ?_⟩
          obtain ⟨y, S4, M4, R4, f4, rp2, p4⟩ := esc_post R3 r2 p3
          obtain ⟨zs, e3, p5⟩ := post.opt0 p4
          have q := post.ok R4 p5
          have rp1 := (rp.stay f3.st).stay f4.st
          obtain ⟨xs, ys, e4, e5⟩ := zipP_eq e3
          subst e4
          rcases e5 with ⟨z1, z2⟩ | ⟨z1, z2⟩
          · subst z1 z2
            cases rp1 with
            | lst hs hr =>
              cases rp2 with
              | lst hs2 hr2 => exact ⟨_, _, _, _, rfl, .inl ⟨hs.sq, hs2.sq, q _ (wk_zip hs hs2 hr hr2)⟩⟩
          · subst z1 z2
            cases rp1 with
            | tup hs hr =>
              cases rp2 with
              | tup hs2 hr2 => exact ⟨_, _, _, _, rfl, .inr ⟨hs.sq, hs2.sq, q _ (wk_zipT hs hs2 hr hr2)⟩⟩
        | _ => exact absurd ht (by simp [tupB, needT])
      | [], _, c => exact no (by unfold chkI at c; cases c)
      | [_], _, c => exact no (by unfold chkI at c; cases c)
      | [_, _], _ :: _, c => exact no (by unfold chkI at c; cases c)
      | _ :: _ :: _ :: _, _, c => exact no (by unfold chkI at c; cases c)
    | _ => exact no (by unfold chkI at c; cases c)
  | _ => exact no (by unfold chkI at c; cases c)
/-! ### targets -/
theorem loc_of {X : Cx} {Γ : Cs} {x : Str} (w : Wd D k Γ X) (h : stB Γ x = true) : Loc X.env.scope x ∧ (X.fn x = true ∨ X.env.scope.names.lookup x = some .local) := by
  unfold stB at h
  split at h
  · rename_i e
    rw [← w.scp] at e
    exact ⟨.inl e, .inr e⟩
  · rename_i e
    rw [← w.scp] at e
    exact ⟨.inr e, .inl (w.fn x h)⟩
  · cases h
theorem pg_nm {X : Cx} {Γ : Cs} {i : Nat} {e : Expr} (w : Wd D k Γ X) (h : nmB Γ i e = true) : PG X e (gName i) ∧ (∀ (env : Env) (r : List Expr), ∃ b, assignEach (e :: r) env = (false, b) :: assignEach r env ∧ b = assign e env) := by
  cases e with
  | Name x pos =>
    obtain ⟨h1, h2⟩ := ba (show (decide (Γ.N[i]? = some x) && stB Γ x) = true from h)
    obtain ⟨l1, l2⟩ := loc_of w h2
    exact ⟨pg_name (by rw [w.hN]; exact w.nd) (by rw [w.hN]; exact of_decide_eq_true h1) l1 l2, fun env r => ⟨_, rfl, rfl⟩⟩
  | _ => cases h
def gNames : List Nat → TGs
  | [] => gNil
  | i :: r => gCons (gName i) (gNames r)
theorem pgs_nms {X : Cx} {Γ : Cs} (w : Wd D k Γ X) : ∀ {is : List Nat} {es : List Expr}, nmsB Γ is es = true → PGs X es (gNames is) ∧ (∀ env, (assignEach es env).length = is.length) ∧ ∀ env, (assignEach es env).findIdx? (·.1) = none
  | [], [], _ => ⟨pgs_nil, fun _ => rfl, fun _ => rfl⟩
  | [], _ :: _, h => by cases h
  | _ :: _, [], h => by cases h
  | i :: is, e :: es, h => by
    obtain ⟨h1, h2⟩ := ba h
    obtain ⟨p1, p2⟩ := pg_nm w h1
    obtain ⟨q1, q2, q3⟩ := pgs_nms w h2
    refine ⟨pgs_cons p1 q1 ?_, fun env => ?_, fun env => ?_⟩
    · obtain ⟨b, e1, e2⟩ := p2 X.env es
      rw [e1, e2]; rfl
    · obtain ⟨b, e1, e2⟩ := p2 env es
      rw [e1, List.length_cons, List.length_cons, q2 env]
    · obtain ⟨b, e1, e2⟩ := p2 env es
      rw [e1, List.findIdx?_cons, q3 env]; rfl
/-- what a target does to the names -/
def gOf (K : PySem.W.Frag) : Tg → TG
  | .nm i => gName i
  | .tp is => gTup K is.length (gNames is)
theorem pg_of {X : Cx} {Γ : Cs} {tg : Tg} {e : Expr} (w : Wd D k Γ X) (h : chkG Γ tg e = true) : PG X e (gOf X.K tg) := by
  cases tg with
  | nm i => exact (pg_nm w (show nmB Γ i e = true from h)).1
  | tp is =>
    cases e with
    | Tuple es kk pos =>
      obtain ⟨q1, q2, q3⟩ := pgs_nms w (show nmsB Γ is es = true from h)
      exact pg_tup w.calm q1 (q2 _) (q3 _)
    | _ => cases h
section
variable {K : PySem.W.Frag} {H : Hp} {M : Addr → Prop} {A : List Addr}
theorem names_bind : ∀ {is : List Nat} {ds : List PD} {xs : List V} {σd : Sg} {σ : L2.St} {Q : L2.St → Hp → Prop}, ds.length = is.length → Rps K H M ds xs → Sr K H M A σd σ →
    (∀ σ', Sr K H M A ((is.zip ds).foldl (fun σ p => σ.set p.1 (some (.d p.2))) σd) σ' → Q σ' H) → gNames is xs σ H Q
  | [], [], _, _, _, _, _, .nil, s, q => ⟨rfl, q _ s⟩
  | [], _ :: _, _, _, _, _, l, _, _, _ => by cases l
  | _ :: _, [], _, _, _, _, l, _, _, _ => by cases l
  | i :: is, d :: ds, _, σd, σ, Q, l, .cons r rs, s, q => ⟨_, _, rfl, names_bind (is := is) (ds := ds) (by simpa using l) rs (s.set (i := i) (v := .d d) r) q⟩
/-- a target takes an item -/
theorem tg_bind {tg : Tg} {d : PD} {x : V} {σd σd' : Sg} {σ : L2.St} {Q : L2.St → Hp → Prop} (h : bindTg tg d σd = some σd') (r : Rp K H M d x) (s : Sr K H M A σd σ) (q : ∀ σ', Sr K H M A σd' σ' → Q σ' H) : gOf K tg x σ H Q := by
  cases tg with
  | nm i =>
    cases h
    exact q _ (s.set (v := .d d) r)
  | tp is =>
    cases d with
    | tuple ds =>
      unfold bindTg at h
      dsimp only at h
      split at h
      · rename_i hl
        cases h
        cases r with
        | tup hs hr => exact ⟨_, _, rfl, hs.sq, by rw [← hr.length]; exact hl, names_bind hl hr s q⟩
      · cases h
    | _ => cases h
end
end
end KA
/-! KAComp: comprehensions. -/
namespace KA
open PySem PySem.Spec PyProof.Rows L2
/-! ### forgotten names -/
theorem wipe_get : ∀ {vs : List Nat} {σ : L2.St} {j : Nat}, (wipe σ vs)[j]? = if j ∈ vs then (if j < σ.length then some none else none) else σ[j]?
  | [], σ, j => by simp [wipe]
  | v :: vs, σ, j => by
    unfold wipe
    by_cases h : v = j
    · subst h
      by_cases hl : v < σ.length
      · rw [List.getElem?_set_self (by rw [wipe_length]; exact hl)]; simp [hl]
      · rw [List.getElem?_eq_none (by rw [List.length_set, wipe_length]; omega)]; simp [hl]
    · rw [List.getElem?_set_ne h, wipe_get (vs := vs)]
      have : (j ∈ v :: vs) ↔ j ∈ vs := by simp [Ne.symm h]
      simp only [this]
theorem wipe_idem {vs : List Nat} {σ : L2.St} : wipe (wipe σ vs) vs = wipe σ vs := by
  apply List.ext_getElem?
  intro j
  rw [wipe_get, wipe_get, wipe_length]
  split <;> rfl
theorem wipe_set {vs : List Nat} {σ : L2.St} {i : Nat} {x : Option V} (h : i ∈ vs) : wipe (σ.set i x) vs = wipe σ vs := by
  apply List.ext_getElem?
  intro j
  rw [wipe_get, wipe_get, List.length_set]
  split
  · rfl
  · rename_i hj
    rw [List.getElem?_set_ne (show i ≠ j from fun e => hj (by rw [← e]; exact h))]
section
variable {K : PySem.W.Frag} {H : Hp} {M : Addr → Prop} {A : List Addr}
theorem names_bind2 {vs : List Nat} {σ0 : L2.St} : ∀ {is : List Nat} {ds : List PD} {xs : List V} {σd : Sg} {σ : L2.St} {Q : L2.St → Hp → Prop}, ds.length = is.length → Rps K H M ds xs → Sr K H M A σd σ → (∀ i ∈ is, i ∈ vs) → wipe σ vs = σ0 →
    (∀ σ', Sr K H M A ((is.zip ds).foldl (fun σ p => σ.set p.1 (some (.d p.2))) σd) σ' → wipe σ' vs = σ0 → Q σ' H) → gNames is xs σ H Q
  | [], [], _, _, _, _, _, .nil, s, _, z, q => ⟨rfl, q _ s z⟩
  | [], _ :: _, _, _, _, _, l, _, _, _, _, _ => by cases l
  | _ :: _, [], _, _, _, _, l, _, _, _, _, _ => by cases l
  | i :: is, d :: ds, _, σd, σ, Q, l, .cons r rs, s, m, z, q => ⟨_, _, rfl, names_bind2 (is := is) (ds := ds) (by simpa using l) rs (s.set (i := i) (v := .d d) r) (fun j hj => m j (by simp [hj])) (by rw [wipe_set (m i (by simp))]; exact z) q⟩
theorem tg_bind2 {tg : Tg} {d : PD} {x : V} {σd σd' : Sg} {σ : L2.St} {vs : List Nat} {Q : L2.St → Hp → Prop} (h : bindTg tg d σd = some σd') (r : Rp K H M d x) (s : Sr K H M A σd σ) (m : ∀ i ∈ tg.slots, i ∈ vs)
    (q : ∀ σ', Sr K H M A σd' σ' → wipe σ' vs = wipe σ vs → Q σ' H) : gOf K tg x σ H Q := by
  cases tg with
  | nm i =>
    cases h
    exact q _ (s.set (v := .d d) r) (wipe_set (m i (by simp [Tg.slots])))
  | tp is =>
    cases d with
    | tuple ds =>
      unfold bindTg at h
      dsimp only at h
      split at h
      · rename_i hl
        cases h
        cases r with
        | tup hs hr => exact ⟨_, _, rfl, hs.sq, by rw [← hr.length]; exact hl, names_bind2 hl hr s m rfl q⟩
      · cases h
    | _ => cases h
end
/-! ### the growing list -/
section
variable {K : PySem.W.Frag} {mg : Str → Option Value} {H H' H1 : Hp} {M M' M1 : Addr → Prop} {A A' A1 : List Addr} {S S' S1 : Sto} {D : Addr}
theorem esc_ok {v : VV} {u : V} (R : Rel K H M A S) (hv : Vr K H M A v u) : ∃ x S' M', esc S v = .ok x S' ∧ Rel K H M' A S' ∧ Fm H M A S H M' A S' ∧ Rp K H M' x u := by
  cases v with
  | d x => exact ⟨x, S, M, rfl, R, Fm.refl, hv⟩
  | ex e => exact hv.elim
  | loc l =>
    obtain ⟨a, ea, rfl⟩ := hv
    have lt : l < S.length := by rw [← R.len]; exact (List.getElem?_eq_some_iff.mp ea).1
    rcases sto_cases lt with ⟨ds, q⟩ | ⟨ds, q⟩
    · obtain ⟨R', f', rp⟩ := R.still q ea
      exact ⟨_, _, _, by unfold esc; dsimp only; rw [q], R', f', rp⟩
    · exact ⟨_, S, M, by unfold esc; dsimp only; rw [q], R, Fm.refl, (R.frz l ds a q ea).1⟩
/-- a list that grows at D, no list of the store -/
structure Grow (K : PySem.W.Frag) (D : Addr) (acc : List PD) (H : Hp) (M : Addr → Prop) (A : List Addr) (S : Sto) : Prop where
  rel : Rel K H M A S
  at_ : ∃ xs, H D = some (.lst xs) ∧ Rps K H M acc xs ∧ xs.length ≤ SZ
  mu : M D
  nt : ¬ Mt A S D
theorem Grow.notA {acc : List PD} (g : Grow K D acc H M A S) : D ∉ A := fun h => by
  obtain ⟨l, e⟩ := List.getElem?_of_mem h
  have lt : l < S.length := by rw [← g.rel.len]; exact (List.getElem?_eq_some_iff.mp e).1
  rcases sto_cases lt with ⟨ds, q⟩ | ⟨ds, q⟩
  · exact g.nt ⟨l, ds, q, e⟩
  · exact (g.rel.frz l ds D q e).2.2 g.mu
theorem Grow.mono {acc : List PD} (g : Grow K D acc H M A S) (f : Fm H M A S H' M' A' S') (r : Rel K H' M' A' S') : Grow K D acc H' M' A' S' := by
  obtain ⟨xs, e, rs, z⟩ := g.at_
  obtain ⟨e', m', n'⟩ := f.ex D _ e g.mu g.nt
  exact ⟨r, ⟨xs, e', rs.stay f.st, z⟩, m', n'⟩
theorem stay_mut {o : HO} (m : M D) : Stay H M (upd H D o) M := fun a u e n => ⟨by rw [upd_ne (show a ≠ D from fun q => n (q ▸ m))]; exact e, n⟩
theorem Rel.putAt {o : HO} (r : Rel K H M A S) (m : M D) (n : D ∉ A) : Rel K (upd H D o) M A S where
  len := r.len
  nd := r.nd
  lst := fun l ds a e1 e2 => by
    obtain ⟨q, xs, e, rs, z⟩ := r.lst l ds a e1 e2
    exact ⟨q, xs, by rw [upd_ne (show a ≠ D from fun z => n (z ▸ List.mem_of_getElem? e2))]; exact e, rs.stay (stay_mut m), z⟩
  frz := fun l ds a e1 e2 => by
    obtain ⟨q, ⟨u, e⟩, k⟩ := r.frz l ds a e1 e2
    exact ⟨q.stay (stay_mut m), ⟨u, by rw [upd_ne (show a ≠ D from fun z => n (z ▸ List.mem_of_getElem? e2))]; exact e⟩, k⟩
  al := fun a q => by
    obtain ⟨u, e⟩ := r.al a q
    by_cases h : a = D
    · exact ⟨_, by rw [h]; exact upd_same⟩
    · exact ⟨u, by rw [upd_ne h]; exact e⟩
theorem Grow.more {acc : List PD} {d : PD} {u : V} (g : Grow K D acc H M A S) (r : Rp K H M d u) (z : acc.length < SZ) : ∃ xs, H D = some (.lst xs) ∧ xs.length < sizeLine ∧ Grow K D (acc ++ [d]) (upd H D (.lst (xs ++ [u]))) M A S ∧ Stay H M (upd H D (.lst (xs ++ [u]))) M := by
  obtain ⟨xs, e, rs, _⟩ := g.at_
  have hl := rs.length
  refine ⟨xs, e, by rw [sz_eq, ← hl]; exact z, ⟨g.rel.putAt g.mu g.notA, ⟨_, upd_same, (rs.append (.cons r .nil)).stay (stay_mut g.mu), ?_⟩, g.mu, g.nt⟩, stay_mut g.mu⟩
  rw [List.length_append, ← hl]
  exact z
/-- the list begins -/
theorem Grow.start (r : Rel K H M A S) (h : H D = none) : Grow K D [] (upd H D (.lst [])) (fun a => M a ∨ a = D) A S ∧ Fm H M A S (upd H D (.lst [])) (fun a => M a ∨ a = D) A S := by
  have st : Stay H M (upd H D (.lst [])) (fun a => M a ∨ a = D) := fun a u e n => ⟨by rw [upd_ne (ne_of_none e h)]; exact e, fun z => z.elim n fun q => by rw [q, h] at e; cases e⟩
  have nA : D ∉ A := fun hm => by
    obtain ⟨o, e⟩ := r.inH hm
    rw [h] at e; cases e
  refine ⟨⟨⟨r.len, r.nd, fun l ds a e1 e2 => ?_, fun l ds a e1 e2 => ?_, fun a m => ?_⟩, ⟨[], upd_same, .nil, Nat.zero_le _⟩, .inr rfl, fun m => nA m.mem⟩, st, fun a u e m n => ⟨by rw [upd_ne (ne_of_none e h)]; exact e, .inl m, n⟩, ⟨[], by simp⟩⟩
  · obtain ⟨m, xs, e, rs, z⟩ := r.lst l ds a e1 e2
    exact ⟨.inl m, xs, by rw [upd_ne (ne_of_none e h)]; exact e, rs.stay st, z⟩
  · obtain ⟨q, ⟨u, e⟩, n⟩ := r.frz l ds a e1 e2
    exact ⟨q.stay st, ⟨u, (st a u e n).1⟩, (st a u e n).2⟩
  · rcases m with m | rfl
    · obtain ⟨u, e⟩ := r.al a m
      exact ⟨u, by rw [upd_ne (ne_of_none e h)]; exact e⟩
    · exact ⟨_, upd_same⟩
/-- younger objects may change -/
theorem Fm.young {o : HO} (f : Fm H1 M1 A1 S1 H M A S) (h : H1 D = none) : Fm H1 M1 A1 S1 (upd H D o) M A S :=
  ⟨fun a u e n => let ⟨q, q2⟩ := f.st a u e n; ⟨by rw [upd_ne (ne_of_none e h)]; exact q, q2⟩, fun a u e m n => let ⟨q, q2⟩ := f.ex a u e m n; ⟨by rw [upd_ne (ne_of_none e h)]; exact q, q2⟩, f.pre⟩
/-- the list is done: a value -/
theorem Grow.done {acc : List PD} (g : Grow K D acc H M A S) (f : Fm H1 M1 A1 S1 H M A S) (h : H1 D = none) :
    Rel K H (fun b => M b ∧ b ≠ D) A S ∧ Fm H1 M1 A1 S1 H (fun b => M b ∧ b ≠ D) A S ∧ Rp K H (fun b => M b ∧ b ≠ D) (.list acc) (.ref D) := by
  have st : Stay H M H (fun b => M b ∧ b ≠ D) := fun a u e n => ⟨e, fun q => n q.1⟩
  obtain ⟨xs, e, rs, z⟩ := g.at_
  refine ⟨⟨g.rel.len, g.rel.nd, fun l ds a e1 e2 => ?_, fun l ds a e1 e2 => ?_, fun a m => g.rel.al a m.1⟩, ⟨f.st.trans st, fun a u e m n => ?_, f.pre⟩, .lst (.of e (fun q => q.2 rfl) z) (rs.stay st)⟩
  · obtain ⟨m, ys, e', rs', z'⟩ := g.rel.lst l ds a e1 e2
    exact ⟨⟨m, fun q => g.notA (q ▸ List.mem_of_getElem? e2)⟩, ys, e', rs'.stay st, z'⟩
  · obtain ⟨q, w, n⟩ := g.rel.frz l ds a e1 e2
    exact ⟨q.stay st, w, fun q => n q.1⟩
  · obtain ⟨q1, q2, q3⟩ := f.ex a u e m n
    exact ⟨q1, ⟨q2, ne_of_none e h⟩, q3⟩
/-- the list is done: a list of the store -/
theorem Grow.doneM {acc : List PD} (g : Grow K D acc H M A S) (f : Fm H1 M1 A1 S1 H M A S) (h : H1 D = none) :
    Rel K H M (A ++ [D]) (S ++ [O.lst acc]) ∧ Fm H1 M1 A1 S1 H M (A ++ [D]) (S ++ [O.lst acc]) := by
  have hl : ∀ (l : Nat) (a : Addr), (A ++ [D])[l]? = some a → A[l]? = some a ∨ (l = A.length ∧ a = D) := fun l a e => by
    by_cases hlt : l < A.length
    · rw [List.getElem?_append_left hlt] at e; exact .inl e
    · rw [List.getElem?_append_right (by omega)] at e
      have e0 : l - A.length = 0 := by
        have := (List.getElem?_eq_some_iff.mp e).1
        simp at this; omega
      rw [e0] at e
      exact .inr ⟨by omega, by simpa using e.symm⟩
  have hS : ∀ (l : Nat) (o : Addr), A[l]? = some o → (S ++ [O.lst acc])[l]? = S[l]? := fun l o e => by
    rw [List.getElem?_append_left]
    rw [← g.rel.len]; exact (List.getElem?_eq_some_iff.mp e).1
  refine ⟨⟨by simp [g.rel.len], ?_, fun l ds a e1 e2 => ?_, fun l ds a e1 e2 => ?_, g.rel.al⟩, f.st, fun a u e m n => ?_, ?_⟩
  · exact List.nodup_append.mpr ⟨g.rel.nd, by simp, fun a ha b hb => by
      have : b = D := by simpa using hb
      subst this
      exact fun e => g.notA (e ▸ ha)⟩
  · rcases hl l a e2 with e | ⟨e, rfl⟩
    · rw [hS l a e] at e1
      exact g.rel.lst l ds a e1 e
    · rw [e, g.rel.len, List.getElem?_append_right (Nat.le_refl _)] at e1
      have : acc = ds := by simpa using e1
      subst this
      exact ⟨g.mu, g.at_⟩
  · rcases hl l a e2 with e | ⟨e, rfl⟩
    · rw [hS l a e] at e1
      exact g.rel.frz l ds a e1 e
    · rw [e, g.rel.len, List.getElem?_append_right (Nat.le_refl _)] at e1
      simp at e1
  · obtain ⟨q1, q2, q3⟩ := f.ex a u e m n
    refine ⟨q1, q2, fun ⟨l, ds', e1, e2⟩ => ?_⟩
    rcases hl l a e2 with e3 | ⟨_, rfl⟩
    · rw [hS l a e3] at e1
      exact q3 ⟨l, ds', e1, e3⟩
    · rw [h] at e; cases e
  · obtain ⟨B, e⟩ := f.pre
    exact ⟨B ++ [D], by rw [e, List.append_assoc]⟩
theorem Grow.fin {acc : List PD} {m : Bool} {W : XK} {Q : VK} (g : Grow K D acc H M A S) (f : Fm H1 M1 A1 S1 H M A S) (h : H1 D = none)
    (p : post K mg W H1 M1 A1 S1 (newM m (.list acc) S) fun v H' M' A' _ => ∀ u, Vr K H' M' A' v u → Q u H') : Q (.ref D) H := by
  cases m with
  | false =>
    obtain ⟨r, f', rp⟩ := g.done f h
    exact p _ _ _ f' r _ rp
  | true =>
    obtain ⟨r, f'⟩ := g.doneM f h
    exact p _ _ _ f' r _ ⟨D, by rw [← g.rel.len, List.getElem?_append_right (Nat.le_refl _)]; simp, rfl⟩
end
/-! ### a comprehension's turns -/
section
variable {K : PySem.W.Frag} {mg : Str → Option Value}
/-- what stays true while other things happen -/
def Stab (P : Hp → (Addr → Prop) → List Addr → Prop) : Prop := ∀ H M A H' M' A', Stay H M H' M' → (∃ B, A' = A ++ B) → P H M A → P H' M' A'
theorem Sr.stab {σd : Sg} {σ : L2.St} : Stab (fun H M A => Sr K H M A σd σ) := fun H M A H' M' A' s ⟨B, e⟩ h => by
  refine ⟨h.len, fun i v q => ?_⟩
  obtain ⟨u, h1, h2⟩ := h.at_ i v q
  refine ⟨u, h1, ?_⟩
  cases v with
  | d x => exact Rp.stay s (show Rp K H M x u from h2)
  | ex _ => exact h2
  | loc l =>
    obtain ⟨a, e1, e2⟩ := (show ∃ a, A[l]? = some a ∧ u = .ref a from h2)
    refine ⟨a, ?_, e2⟩
    rw [e, List.getElem?_append_left (List.getElem?_eq_some_iff.mp e1).1]
    exact e1
theorem Wk.stab {J : It} {items : List PD} : Stab (fun H M _ => Wk K J items H M) := fun H M A H' M' A' s _ h => h.stay s
theorem Stab.and {P P' : Hp → (Addr → Prop) → List Addr → Prop} (h : Stab P) (h' : Stab P') : Stab (fun H M A => P H M A ∧ P' H M A) := fun H M A H' M' A' s b p => ⟨h _ _ _ _ _ _ s b p.1, h' _ _ _ _ _ _ s b p.2⟩
def bodyC (tg : Tg) (σ : Sg) (rc : Sg → Sto → R Bool) (re : Sg → Sto → R VV) : PD → Sto → R (Option PD) := fun x S => (R.opt (bindTg tg x σ) S).bind fun σ' S => (rc σ' S).bind fun k S =>
  if k = true then ((re σ' S).bind fun v S => esc S v).bind fun y S => .ok (some y) S else .ok none S
def W0 : WX := fun _ _ _ _ => False
theorem lc_loop {β : Type} {W : XK} {H1 : Hp} {M1 : Addr → Prop} {A1 : List Addr} {S1 : Sto} {D : Addr} {J : It} {items acc0 : List PD} {tg : Tg} {vs : List Nat} {σd : Sg} {σ : L2.St} {rc : Sg → Sto → R Bool} {re : Sg → Sto → R VV} {fin : List PD → Sto → R β}
    {Q : β → Hp → (Addr → Prop) → List Addr → Sto → Prop} {P : Hp → (Addr → Prop) → List Addr → Prop} {F : Hp → Prop} {H : Hp} {M : Addr → Prop} {A : List Addr} {S : Sto}
    (hD : H1 D = none) (hv : ∀ i ∈ tg.slots, i ∈ vs) (sP : Stab P) (pP : ∀ {H M A}, P H M A → Sr K H M A (wipeD σd vs) (wipe σ vs) ∧ Wk K J items H M)
    (hF : ∀ {acc H M A S}, Grow K D acc H M A S → P H M A → Fm H1 M1 A1 S1 H M A S → post K mg W H1 M1 A1 S1 (fin acc S) Q → F H)
    (g0 : Grow K D acc0 H M A S) (p0 : P H M A) (f0 : Fm H1 M1 A1 S1 H M A S) (q0 : post K mg W H1 M1 A1 S1 ((loopC (bodyC tg (wipeD σd vs) rc re) items acc0 S).bind fin) Q) :
    ∃ Wt : Nat → Nat → Hp → Prop, (∃ m, Wt 0 m H) ∧ ∀ i m H, Wt i m H →
      (J.stop i H ∧ F H) ∨ (J.go i H ∧ ∃ Nx : Hp → Prop, (∀ H', Nx H' → ∃ m', m' < m ∧ Wt (i + 1) m' H') ∧ ∀ x H', J.yld i H x H' → gOf K tg x (wipe σ vs) H' fun σ2 H2 => wipe σ2 vs = wipe σ vs ∧ tBo K mg W0 rc σ2 H2 fun b H3 =>
        if b = true then tV K mg W0 re σ2 H3 fun y H4 => ∃ acc, H4 D = some (.lst acc) ∧ acc.length < sizeLine ∧ Nx (upd H4 D (.lst (acc ++ [y]))) else Nx H3) := by
  let Wt : Nat → Nat → Hp → Prop := fun i m H => m = items.length - i ∧ i ≤ items.length ∧ ∃ M A S acc, Grow K D acc H M A S ∧ P H M A ∧ Fm H1 M1 A1 S1 H M A S ∧ post K mg W H1 M1 A1 S1 ((loopC (bodyC tg (wipeD σd vs) rc re) (items.drop i) acc S).bind fin) Q
  refine ⟨Wt, ⟨items.length, by simp, Nat.zero_le _, M, A, S, acc0, g0, p0, f0, q0⟩, ?_⟩
  rintro i m H ⟨rfl, hi, M, A, S, acc, g, p, f, q⟩
  obtain ⟨sr, wk⟩ := pP p
  obtain ⟨w1, w2, w3⟩ := wk H M Stay.refl g.rel.al
  by_cases hlt : i < items.length
  · refine .inr ⟨w1 i hlt, fun H' => Wt (i + 1) (items.length - (i + 1)) H', fun H' h => ⟨_, by omega, h⟩, fun x H2 y => ?_⟩
    have hd : items[i]? = some items[i] := by simp [hlt]
    obtain ⟨rp, hh⟩ := w3 i _ hd x H2 y
    rw [List.drop_eq_getElem_cons hlt] at q
    have f2 : Fm H M A S H2 M A S ∧ Rel K H2 M A S := by
      rcases hh with rfl | ⟨T, o, e, rfl⟩
      · exact ⟨Fm.refl, g.rel⟩
      · exact ⟨Fm.new e, g.rel.new e⟩
    obtain ⟨f2, R2⟩ := f2
    have g2 := g.mono f2 R2
    have p2 := sP _ _ _ _ _ _ f2.st f2.pre p
    have F2 := f.trans f2
    generalize items[i] = d at *
    unfold loopC at q
    cases hb : bindTg tg d (wipeD σd vs) with
    | none => rw [show bodyC tg (wipeD σd vs) rc re d S = .bad by unfold bodyC; rw [hb]; rfl] at q; exact q.elim
    | some σ' =>
      refine tg_bind2 hb rp (pP p2).1 hv fun σ2 sr2 hw => ⟨hw.trans wipe_idem, M, A, S, σ', R2, sr2, ?_⟩
      cases hc : rc σ' S with
      | bad => rw [show bodyC tg (wipeD σd vs) rc re d S = .bad by unfold bodyC; rw [hb, R.opt_some, R.bind_ok, hc]; rfl] at q; exact q.elim
      | exc e S' => rw [show bodyC tg (wipeD σd vs) rc re d S = .exc e S' by unfold bodyC; rw [hb, R.opt_some, R.bind_ok, hc]; rfl] at q; exact q.elim
      | ok b S3 =>
        intro H3 M3 A3 f3 R3
        have g3 := g2.mono f3 R3
        have p3 := sP _ _ _ _ _ _ f3.st f3.pre p2
        have F3 := F2.trans f3
        cases b with
        | false =>
          rw [show bodyC tg (wipeD σd vs) rc re d S = .ok none S3 by unfold bodyC; rw [hb, R.opt_some, R.bind_ok, hc, R.bind_ok, if_neg Bool.false_ne_true]] at q
          show Wt (i + 1) (items.length - (i + 1)) H3
          exact ⟨rfl, hlt, M3, A3, S3, acc, g3, p3, F3, q⟩
        | true =>
          refine ⟨M3, A3, S3, σ', R3, sr2.mono f3, ?_⟩
          cases he : re σ' S3 with
          | bad => rw [show bodyC tg (wipeD σd vs) rc re d S = .bad by unfold bodyC; rw [hb, R.opt_some, R.bind_ok, hc, R.bind_ok, if_pos rfl, he]; rfl] at q; exact q.elim
          | exc e S' => rw [show bodyC tg (wipeD σd vs) rc re d S = .exc e S' by unfold bodyC; rw [hb, R.opt_some, R.bind_ok, hc, R.bind_ok, if_pos rfl, he]; rfl] at q; exact q.elim
          | ok v S4 =>
            intro H4 M4 A4 f4 R4 u hu
            obtain ⟨y, S5, M5, ey, R5, f5, rp5⟩ := esc_ok R4 hu
            rw [show bodyC tg (wipeD σd vs) rc re d S = .ok (some y) S5 by unfold bodyC; rw [hb, R.opt_some, R.bind_ok, hc, R.bind_ok, if_pos rfl, he, R.bind_ok, ey, R.bind_ok]] at q
            dsimp only at q
            have f45 := f4.trans f5
            have g5 := g3.mono f45 R5
            have p5 := sP _ _ _ _ _ _ f45.st f45.pre p3
            have F5 := F3.trans f45
            split at q
            · rename_i hz
              obtain ⟨xs, ex, hxs, g6, s6⟩ := g5.more rp5 hz
              exact ⟨xs, ex, hxs, rfl, hlt, M5, A4, S5, _, g6, sP _ _ _ _ _ _ s6 ⟨[], by simp⟩ p5, F5.young hD, q⟩
            · exact q.elim
  · have e : i = items.length := by omega
    subst e
    rw [List.drop_length] at q
    exact .inl ⟨w2 _ (Nat.le_refl _), hF g p f q⟩
end
end KA
/-! KAComp2: comprehensions are the text's. -/
namespace KA
open PySem PySem.Spec PyProof.Rows L2
section
variable {D : Dom} {k : Nat}
theorem wd_blk {Γ : Cs} {X : Cx} {s : Shared} {H : Hp} {scope : Scope} {cl : List (Str × Addr)} {C : Addr} {fp : List Addr} (w : Wd D k Γ X) : Wd D k (Γ.blk scope) (X.blk s H scope (compEnvC scope cl C X.env) fp) where
  hN := w.hN
  nd := w.nd
  scp := by
    show relS scope X.env.scope = relS scope Γ.sc
    rw [w.scp]
  fn := fun x h => h
  calm := w.calm
  room := w.room
  grd := w.grd
  fns := w.fns
  blt := w.blt
  con := w.con
def SC (D : Dom) (k : Nat) (c : CO) : Prop := ∀ (X : Cx) (W : WX) (Γ : Cs) (es : List Expr), Wd D k Γ X → Takes X W → chkC D Γ c es = true → PTs X es (tBo X.K X.mg W fun σ S => evC (evCall D.T k) (parOf D.T) σ c S)
theorem _root_.L2.PTs.imp {X : Cx} {es : List Expr} {t t' : TT} (h : PTs X es t) (i : ∀ σ H Q, t' σ H Q → t σ H Q) : PTs X es t' := ⟨fun pins s σ H Q I q => h.run pins s σ H Q I (i σ H Q q)⟩
theorem sc_none : SC D k .none := fun X W Γ es w tk c => by
  cases es with
  | nil => exact pts_nil.imp fun σ H Q ⟨M, A, S, σd, R, sr, p⟩ => by simp only [evC] at p; exact post.ok R p
  | cons e r => exact no (by unfold chkC at c; cases c)
theorem sc_some {a : CE} (ia : ST D k a) : SC D k (.some a) := fun X W Γ es w tk c => by
  match es, c with
  | [], c => exact no (by unfold chkC at c; cases c)
  | _ :: _ :: _, c => exact no (by unfold chkC at c; cases c)
  | [e], c =>
    refine (pts_one (ia X W Γ e w tk (by unfold chkC at c; exact c))).imp fun σ H Q ⟨M, A, S, σd, R, sr, p⟩ => ?_
    simp only [evC] at p
    exact ⟨M, A, S, σd, R, sr, p⟩
theorem own_slots {N : List Str} : ∀ {is : List Nat}, ownB N is = true → (ownOf N is).map (·.2) = is
  | [], _ => rfl
  | i :: is, h => by
    have h' : ((N[i]?).isSome && ownB N is) = true := h
    obtain ⟨h1, h2⟩ := ba h'
    obtain ⟨x, hx⟩ := Option.isSome_iff_exists.mp h1
    unfold ownOf
    rw [List.filterMap_cons, hx]
    show i :: (ownOf N is).map (·.2) = _
    rw [own_slots h2]
/-- a comprehension's parts in its context -/
structure CompOk (D : Dom) (k : Nat) (X : Cx) (W : WX) (tg : Tg) (it : CI) (c : CO) (elt : CE) (x t i : Expr) (ifs : List Expr) (scope : Scope) (own : List (Str × Nat)) : Prop where
  nd : X.N.Nodup
  ow : own.map (·.2) = tg.slots
  pi : PI X t i (tWk X.K X.mg W fun σ S => evI (evCall D.T k) (parOf D.T) σ it S)
  fs : ∀ x, foldedSetIterable i X.env x = pure x
  ok : BlkOk X.N X.env.scope scope own
  pg : ∀ (s : Shared) (H : Hp) (C : Addr) (cl : List (Str × Addr)) (fp : List Addr), PG (X.blk s H scope (compEnvC scope cl C X.env) fp) t (gOf X.K tg)
  pt : ∀ (s : Shared) (H : Hp) (C : Addr) (cl : List (Str × Addr)) (fp : List Addr), PTs (X.blk s H scope (compEnvC scope cl C X.env) fp) ifs (tBo X.K X.mg W0 fun σ S => evC (evCall D.T k) (parOf D.T) σ c S)
  pe : ∀ (s : Shared) (H : Hp) (C : Addr) (cl : List (Str × Addr)) (fp : List Addr), PE (X.blk s H scope (compEnvC scope cl C X.env) fp) x (tV X.K X.mg W0 fun σ S => evE (evCall D.T k) (parOf D.T) σ elt S)
theorem comp_ok {X : Cx} {W : WX} {Γ : Cs} {m : Bool} {elt : CE} {tg : Tg} {it : CI} {c : CO} {x t i : Expr} {ifs : List Expr} {scope : Scope} {pos : Pos} (ie : SE D k elt) (ii : SI D k it) (ic : SC D k c) (w : Wd D k Γ X) (tk : Takes X W)
    (h : chkE D Γ (.comp m elt (.mk tg it c)) (.ListComp x [⟨t, i, ifs, 0⟩] scope pos) = true) : CompOk D k X W tg it c elt x t i ifs scope (ownOf Γ.N tg.slots) := by
  unfold chkE at h
  obtain ⟨h1, c1⟩ := ba h
  obtain ⟨h2, c2⟩ := ba h1
  obtain ⟨h3, c3⟩ := ba h2
  obtain ⟨h4, c4⟩ := ba h3
  obtain ⟨h5, c5⟩ := ba h4
  obtain ⟨c7, c6⟩ := ba h5
  obtain ⟨p1, p2⟩ := ii X W Γ t i w tk c7 c6
  exact ⟨by rw [w.hN]; exact w.nd, own_slots c4, p1, p2, by rw [w.hN, w.scp]; exact blkOk_by c5, fun s H C cl fp => pg_of (wd_blk w) c3, fun s H C cl fp => ic _ W0 _ _ (wd_blk w) takes0 c2, fun s H C cl fp => ie _ W0 _ _ (wd_blk w) takes0 c1⟩
theorem comp_post {X : Cx} {W : WX} {m : Bool} {elt : CE} {tg : Tg} {it : CI} {c : CO} {own : List (Str × Nat)} (ow : own.map (·.2) = tg.slots) {σ : L2.St} {H : Hp} {Q : VK}
    (h : tV X.K X.mg W (fun σ S => evE (evCall D.T k) (parOf D.T) σ (.comp m elt (.mk tg it c)) S) σ H Q) :
    tLc (tWk X.K X.mg W fun σ S => evI (evCall D.T k) (parOf D.T) σ it S) (gOf X.K tg) (tBo X.K X.mg W0 fun σ S => evC (evCall D.T k) (parOf D.T) σ c S) (tV X.K X.mg W0 fun σ S => evE (evCall D.T k) (parOf D.T) σ elt S) (own.map (·.2)) σ H Q := by
  obtain ⟨M, A, S, σd, R, sr, p⟩ := h
  simp only [evE] at p
  rw [ow]
  refine ⟨M, A, S, σd, R, sr, (post.bind p).imp fun items H1 M1 A1 S1 f1 R1 p1 J wk Dn hD => ?_⟩
  obtain ⟨g, f⟩ := Grow.start R1 hD
  exact lc_loop (K := X.K) (mg := X.mg) (σd := σd) (P := fun H M A => Sr X.K H M A (wipeD σd tg.slots) (wipe σ tg.slots) ∧ Wk X.K J items H M) (F := Q (.ref Dn)) hD (fun i hi => hi) (Stab.and Sr.stab Wk.stab) (fun h => h)
    (fun g p f q => g.fin f hD q) g ⟨((sr.mono f1).mono f).wipe _, wk.stay f.st⟩ f p1
theorem se_comp (m : Bool) {elt : CE} {tg : Tg} {it : CI} {c : CO} (ie : SE D k elt) (ii : SI D k it) (ic : SC D k c) : SE D k (.comp m elt (.mk tg it c)) := by
  intro X W Γ e w tk h
  cases e with
  | ListComp x gs scope pos =>
    cases gs with
    | nil => exact no (by unfold chkE at h; cases h)
    | cons g r =>
      obtain ⟨t, i, ifs, as⟩ := g
      have z : as = 0 ∧ r = [] := by
        unfold chkE at h
        split at h <;> simp_all
      obtain ⟨z1, z2⟩ := z
      subst z1 z2
      · · have ok := comp_ok ie ii ic w tk h
          exact (pe_lc w.calm ok.nd ok.pi ok.ok ok.pg ok.pt ok.pe ok.fs).imp fun σ H Q q => comp_post (own := ownOf Γ.N tg.slots) ok.ow q
  | _ => exact no (by unfold chkE at h; cases h)
/-! ### two clauses -/
structure CompOk2 (D : Dom) (k : Nat) (X : Cx) (W : WX) (tg : Tg) (it : CI) (c : CO) (tg1 : Tg) (it1 : CI) (c1 : CO) (elt : CE) (x t i : Expr) (ifs : List Expr) (t1 i1 : Expr) (ifs1 : List Expr) (scope : Scope) (own : List (Str × Nat)) : Prop where
  nd : X.N.Nodup
  ow : own.map (·.2) = tg.slots ++ tg1.slots
  pi : PI X t i (tWk X.K X.mg W fun σ S => evI (evCall D.T k) (parOf D.T) σ it S)
  fs : ∀ x, foldedSetIterable i X.env x = pure x
  ok : BlkOk X.N X.env.scope scope own
  pg : ∀ (s : Shared) (H : Hp) (C : Addr) (cl : List (Str × Addr)) (fp : List Addr), PG (X.blk s H scope (compEnvC scope cl C X.env) fp) t (gOf X.K tg)
  pt : ∀ (s : Shared) (H : Hp) (C : Addr) (cl : List (Str × Addr)) (fp : List Addr), PTs (X.blk s H scope (compEnvC scope cl C X.env) fp) ifs (tBo X.K X.mg W0 fun σ S => evC (evCall D.T k) (parOf D.T) σ c S)
  pi1 : ∀ (s : Shared) (H : Hp) (C : Addr) (cl : List (Str × Addr)) (fp : List Addr), PI (X.blk s H scope (compEnvC scope cl C X.env) fp) t1 i1 (tWk X.K X.mg W0 fun σ S => evI (evCall D.T k) (parOf D.T) σ it1 S)
  fs1 : ∀ env x, foldedSetIterable i1 env x = pure x
  pg1 : ∀ (s : Shared) (H : Hp) (C : Addr) (cl : List (Str × Addr)) (fp : List Addr), PG (X.blk s H scope (compEnvC scope cl C X.env) fp) t1 (gOf X.K tg1)
  pt1 : ∀ (s : Shared) (H : Hp) (C : Addr) (cl : List (Str × Addr)) (fp : List Addr), PTs (X.blk s H scope (compEnvC scope cl C X.env) fp) ifs1 (tBo X.K X.mg W0 fun σ S => evC (evCall D.T k) (parOf D.T) σ c1 S)
  pe : ∀ (s : Shared) (H : Hp) (C : Addr) (cl : List (Str × Addr)) (fp : List Addr), PE (X.blk s H scope (compEnvC scope cl C X.env) fp) x (tV X.K X.mg W0 fun σ S => evE (evCall D.T k) (parOf D.T) σ elt S)
theorem fold_chkI {Γ : Cs} {it : CI} {e : Expr} (h : chkI D Γ it e = true) : ∀ env x, foldedSetIterable e env x = pure x := fun env => by
  cases e with
  | Set es pos => 
    cases it with
    | seq a =>
      unfold chkI at h
      exact absurd (ba h).2 (by simp [setB])
    | _ => unfold chkI at h; cases h
  | _ => exact fun _ => rfl
theorem comp_ok2 {X : Cx} {W : WX} {Γ : Cs} {m : Bool} {elt : CE} {tg tg1 : Tg} {it it1 : CI} {c c1 : CO} {x t i t1 i1 : Expr} {ifs ifs1 : List Expr} {scope : Scope} {pos : Pos} (ie : SE D k elt) (ii : SI D k it) (ic : SC D k c) (ii1 : SI D k it1) (ic1 : SC D k c1) (w : Wd D k Γ X) (tk : Takes X W)
    (h : chkE D Γ (.comp2 m elt (.mk tg it c) (.mk tg1 it1 c1)) (.ListComp x [⟨t, i, ifs, 0⟩, ⟨t1, i1, ifs1, 0⟩] scope pos) = true) : CompOk2 D k X W tg it c tg1 it1 c1 elt x t i ifs t1 i1 ifs1 scope (ownOf Γ.N (tg.slots ++ tg1.slots)) := by
  unfold chkE at h
  obtain ⟨h1, d1⟩ := ba h
  obtain ⟨h2, d2⟩ := ba h1
  obtain ⟨h3, d3⟩ := ba h2
  obtain ⟨h4, d4⟩ := ba h3
  obtain ⟨h5, d5⟩ := ba h4
  obtain ⟨h6, d6⟩ := ba h5
  obtain ⟨h7, d7⟩ := ba h6
  obtain ⟨h8, d8⟩ := ba h7
  obtain ⟨h9, d9⟩ := ba h8
  obtain ⟨d11, d10⟩ := ba h9
  obtain ⟨p1, p2⟩ := ii X W Γ t i w tk d11 d10
  exact ⟨by rw [w.hN]; exact w.nd, own_slots d7, p1, p2, by rw [w.hN, w.scp]; exact blkOk_by d8, fun s H C cl fp => pg_of (wd_blk w) d6, fun s H C cl fp => ic _ W0 _ _ (wd_blk w) takes0 d5, fun s H C cl fp => (ii1 _ W0 _ _ _ (wd_blk w) takes0 d4 d9).1,
    fold_chkI d4, fun s H C cl fp => pg_of (wd_blk w) d3, fun s H C cl fp => ic1 _ W0 _ _ (wd_blk w) takes0 d2, fun s H C cl fp => ie _ W0 _ _ (wd_blk w) takes0 d1⟩

def body2 (call : Nat → List VV → Sto → R VV) (par : Nat → List Str) (tg tg1 : Tg) (c c1 : CO) (it1 : CI) (elt : CE) (σ : Sg) : PD → List PD → Sto → R (List PD) := fun x acc S => (R.opt (bindTg tg x σ) S).bind fun σ' S => (evC call par σ' c S).bind fun k S =>
  if k = true then (evI call par σ' it1 S).bind fun items1 S => loopC (bodyC tg1 (wipeD σ' tg1.slots) (fun σ S => evC call par σ c1 S) (fun σ S => evE call par σ elt S)) items1 acc S else .ok acc S
theorem comp_post2 {X : Cx} {W : WX} {m : Bool} {elt : CE} {tg tg1 : Tg} {it it1 : CI} {c c1 : CO} {own : List (Str × Nat)} (ow : own.map (·.2) = tg.slots ++ tg1.slots) {σ : L2.St} {H : Hp} {Q : VK}
    (h : tV X.K X.mg W (fun σ S => evE (evCall D.T k) (parOf D.T) σ (.comp2 m elt (.mk tg it c) (.mk tg1 it1 c1)) S) σ H Q) :
    tLc2 (tWk X.K X.mg W fun σ S => evI (evCall D.T k) (parOf D.T) σ it S) (gOf X.K tg) (tBo X.K X.mg W0 fun σ S => evC (evCall D.T k) (parOf D.T) σ c S) (tWk X.K X.mg W0 fun σ S => evI (evCall D.T k) (parOf D.T) σ it1 S) (gOf X.K tg1)
      (tBo X.K X.mg W0 fun σ S => evC (evCall D.T k) (parOf D.T) σ c1 S) (tV X.K X.mg W0 fun σ S => evE (evCall D.T k) (parOf D.T) σ elt S) (own.map (·.2)) tg1.slots σ H Q := by
  obtain ⟨M, A, S, σd, R, sr, p⟩ := h
  simp only [evE] at p
  rw [ow]
  refine ⟨M, A, S, σd, R, sr, (post.bind p).imp fun items H1 M1 A1 S1 f1 R1 p1 J wk Dn hD => ?_⟩
  obtain ⟨g0, f0⟩ := Grow.start R1 hD
  generalize hvs : tg.slots ++ tg1.slots = vs at *
  have hv : ∀ i ∈ tg.slots, i ∈ vs := fun i hi => by rw [← hvs]; simp [hi]
  let f2 := body2 (evCall D.T k) (parOf D.T) tg tg1 c c1 it1 elt (wipeD σd vs)
  have p1 : post X.K X.mg (fun c d H => W c d σ H) H1 M1 A1 S1 ((loopC2 f2 items [] S1).bind fun ds S => newM m (.list ds) S) _ := p1
  let Wt : Nat → Nat → Hp → Prop := fun i n H => n = items.length - i ∧ i ≤ items.length ∧ ∃ M A S acc, Grow X.K Dn acc H M A S ∧ (Sr X.K H M A (wipeD σd vs) (wipe σ vs) ∧ Wk X.K J items H M) ∧ Fm H1 M1 A1 S1 H M A S ∧
    post X.K X.mg (fun c d H => W c d σ H) H1 M1 A1 S1 ((loopC2 f2 (items.drop i) acc S).bind fun ds S => newM m (.list ds) S) fun v H' M' A' _ => ∀ u, Vr X.K H' M' A' v u → Q u H'
  have sP : Stab (fun H M A => Sr X.K H M A (wipeD σd vs) (wipe σ vs) ∧ Wk X.K J items H M) := Stab.and Sr.stab Wk.stab
  refine ⟨Wt, ⟨items.length, by simp, Nat.zero_le _, _, _, _, _, g0, ⟨((sr.mono f1).mono f0).wipe _, wk.stay f0.st⟩, f0, p1⟩, ?_⟩
  rintro i n H ⟨rfl, hi, M, A, S, acc, g, pp, f, q⟩
  obtain ⟨sr, wk⟩ := id pp
  obtain ⟨w1, w2, w3⟩ := wk H M Stay.refl g.rel.al
  by_cases hlt : i < items.length
  · refine .inr ⟨w1 i hlt, fun H' => Wt (i + 1) (items.length - (i + 1)) H', fun H' h => ⟨_, by omega, h⟩, fun x H2 y => ?_⟩
    have hd : items[i]? = some items[i] := by simp [hlt]
    obtain ⟨rp, hh⟩ := w3 i _ hd x H2 y
    rw [List.drop_eq_getElem_cons hlt] at q
    have f2' : Fm H M A S H2 M A S ∧ Rel X.K H2 M A S := by
      rcases hh with rfl | ⟨T, o, e, rfl⟩
      · exact ⟨Fm.refl, g.rel⟩
      · exact ⟨Fm.new e, g.rel.new e⟩
    obtain ⟨fz, R2⟩ := f2'
    have g2 := g.mono fz R2
    have p2 := sP _ _ _ _ _ _ fz.st fz.pre pp
    have F2 := f.trans fz
    generalize items[i] = d at *
    unfold loopC2 at q
    cases hb : bindTg tg d (wipeD σd vs) with
    | none => rw [show f2 d acc S = .bad by show body2 _ _ _ _ _ _ _ _ _ _ _ _ = _; unfold body2; rw [hb]; rfl] at q; exact q.elim
    | some σ' =>
      refine tg_bind2 hb rp p2.1 hv fun σ2 sr2 hw => ⟨hw.trans wipe_idem, M, A, S, σ', R2, sr2, ?_⟩
      show post X.K X.mg _ H2 M A S (evC (evCall D.T k) (parOf D.T) σ' c S) _
      cases hc : evC (evCall D.T k) (parOf D.T) σ' c S with
      | bad => rw [show f2 d acc S = .bad by show body2 _ _ _ _ _ _ _ _ _ _ _ _ = _; unfold body2; rw [hb, KA.R.opt_some, KA.R.bind_ok, hc]; rfl] at q; exact q.elim
      | exc e S' => rw [show f2 d acc S = .exc e S' by show body2 _ _ _ _ _ _ _ _ _ _ _ _ = _; unfold body2; rw [hb, KA.R.opt_some, KA.R.bind_ok, hc]; rfl] at q; exact q.elim
      | ok b S3 =>
        intro H3 M3 A3 f3 R3
        have g3 := g2.mono f3 R3
        have p3 := sP _ _ _ _ _ _ f3.st f3.pre p2
        have F3 := F2.trans f3
        cases b with
        | false =>
          rw [show f2 d acc S = .ok acc S3 by show body2 _ _ _ _ _ _ _ _ _ _ _ _ = _; unfold body2; rw [hb, KA.R.opt_some, KA.R.bind_ok, hc, KA.R.bind_ok, if_neg Bool.false_ne_true]] at q
          show Wt (i + 1) (items.length - (i + 1)) H3
          exact ⟨rfl, hlt, M3, A3, S3, acc, g3, p3, F3, q⟩
        | true =>
          refine ⟨M3, A3, S3, σ', R3, sr2.mono f3, ?_⟩
          show post X.K X.mg _ H3 M3 A3 S3 (evI (evCall D.T k) (parOf D.T) σ' it1 S3) _
          cases he : evI (evCall D.T k) (parOf D.T) σ' it1 S3 with
          | bad => rw [show f2 d acc S = .bad by show body2 _ _ _ _ _ _ _ _ _ _ _ _ = _; unfold body2; rw [hb, KA.R.opt_some, KA.R.bind_ok, hc, KA.R.bind_ok, if_pos rfl, he]; rfl] at q; exact q.elim
          | exc e S' => rw [show f2 d acc S = .exc e S' by show body2 _ _ _ _ _ _ _ _ _ _ _ _ = _; unfold body2; rw [hb, KA.R.opt_some, KA.R.bind_ok, hc, KA.R.bind_ok, if_pos rfl, he]; rfl] at q; exact q.elim
          | ok items1 S4 =>
            intro H4 M4 A4 f4 R4 J1 wk1
            rw [show f2 d acc S = loopC (bodyC tg1 (wipeD σ' tg1.slots) (fun σ S => evC (evCall D.T k) (parOf D.T) σ c1 S) (fun σ S => evE (evCall D.T k) (parOf D.T) σ elt S)) items1 acc S4 by
              show body2 _ _ _ _ _ _ _ _ _ _ _ _ = _; unfold body2; rw [hb, KA.R.opt_some, KA.R.bind_ok, hc, KA.R.bind_ok, if_pos rfl, he, KA.R.bind_ok]] at q
            have q' : post X.K X.mg (fun c d H => W c d σ H) H1 M1 A1 S1 ((loopC (bodyC tg1 (wipeD σ' tg1.slots) (fun σ S => evC (evCall D.T k) (parOf D.T) σ c1 S) (fun σ S => evE (evCall D.T k) (parOf D.T) σ elt S)) items1 acc S4).bind
                fun acc' S => (loopC2 f2 (items.drop (i + 1)) acc' S).bind fun ds S => newM m (.list ds) S) fun v H' M' A' _ => ∀ u, Vr X.K H' M' A' v u → Q u H' := by
              generalize loopC (bodyC tg1 (wipeD σ' tg1.slots) (fun σ S => evC (evCall D.T k) (parOf D.T) σ c1 S) (fun σ S => evE (evCall D.T k) (parOf D.T) σ elt S)) items1 acc S4 = rr at q
              cases rr with
              | ok a b => exact q
              | exc e S => exact q.elim
              | bad => exact q
            have g4 := g3.mono f4 R4
            have p4 := sP _ _ _ _ _ _ f4.st f4.pre p3
            have F4 := F3.trans f4
            exact lc_loop (K := X.K) (mg := X.mg) (σd := σ') (σ := σ2) (P := fun H M A => (Sr X.K H M A (wipeD σd vs) (wipe σ vs) ∧ Wk X.K J items H M) ∧ (Sr X.K H M A (wipeD σ' tg1.slots) (wipe σ2 tg1.slots) ∧ Wk X.K J1 items1 H M)) (F := fun H' => Wt (i + 1) (items.length - (i + 1)) H')
              hD (fun i hi => hi) (Stab.and sP (Stab.and Sr.stab Wk.stab)) (fun h => h.2)
              (fun g p f q => ⟨rfl, hlt, _, _, _, _, g, p.1, f, q⟩) g4 ⟨p4, ((sr2.mono f3).mono f4).wipe _, wk1⟩ F4 q'
  · have e : i = items.length := by omega
    subst e
    rw [List.drop_length] at q
    exact .inl ⟨w2 _ (Nat.le_refl _), g.fin f hD q⟩
theorem se_comp2 (m : Bool) {elt : CE} {tg tg1 : Tg} {it it1 : CI} {c c1 : CO} (ie : SE D k elt) (ii : SI D k it) (ic : SC D k c) (ii1 : SI D k it1) (ic1 : SC D k c1) : SE D k (.comp2 m elt (.mk tg it c) (.mk tg1 it1 c1)) := by
  intro X W Γ e w tk h
  cases e with
  | ListComp x gs scope pos =>
    cases gs with
    | nil => exact no (by unfold chkE at h; cases h)
    | cons g r =>
      obtain ⟨t, i, ifs, as⟩ := g
      have z : ∃ t1 i1 ifs1, as = 0 ∧ r = [⟨t1, i1, ifs1, 0⟩] := by
        unfold chkE at h
        split at h <;> simp_all
      obtain ⟨t1, i1, ifs1, z1, z2⟩ := z
      subst z1 z2
      · · · · 
              have ok := comp_ok2 ie ii ic ii1 ic1 w tk h
              exact (pe_lc2 w.calm ok.nd ok.pi ok.ok (by intro j hj; rw [ok.ow]; simp [hj]) ok.pg ok.pt ok.pi1 ok.pg1 ok.pt1 ok.pe ok.fs ok.fs1).imp fun σ H Q q => comp_post2 (own := ownOf Γ.N (tg.slots ++ tg1.slots)) ok.ow q
  | _ => exact no (by unfold chkE at h; cases h)
end
end KA
/-! KAAll: every expression's evaluation is the text's. -/
namespace KA
open PySem PySem.Spec PyProof.Rows L2
section
variable {D : Dom} {k : Nat}
def plainT : Expr → Bool
  | .UnaryOp .Not _ _ => false
  | .BoolOp _ _ _ => false
  | .Compare _ _ _ _ => false
  | .IfExp _ _ _ _ => false
  | .NamedExpr _ _ _ => false
  | _ => true
theorem plain_true {e : Expr} (h : plainT e = true) (env : Env) : ∀ whole, isTrue e env whole = (do let v ← whole; standAt e.pos; holding [v] (truthy v)) := by
  cases e with
  | UnaryOp o x p => cases o <;> first | (intro _; rfl) | cases h
  | _ => first | (intro _; rfl) | cases h
theorem se_rev {a : CE} : SE D k (.rev a) := fun X W Γ e w tk c => by unfold chkE at c; cases c
mutual
theorem se_all : ∀ c : CE, SE D k c
  | .var i => se_var i
  | .con d => se_con d
  | .gcon x d => se_gcon x d
  | .bin op a b => se_bin op (se_all a) (se_all b)
  | .neg a => se_neg (se_all a)
  | .bnot a => se_bnot (se_all a)
  | .band as => se_band (sand_all as)
  | .bor as => se_bor (sor_all as)
  | .ifx t a b => se_ifx (st_all t) (se_all a) (se_all b)
  | .cmp op a b => se_cmp op (se_all a) (se_all b)
  | .cmp2 p q a b c => se_cmp2 p q (se_all a) (se_all b) (se_all c)
  | .isn n a => se_isn n (se_all a)
  | .call f as => se_call f (ses_all as)
  | .callk f ks as => se_callk f ks (sks_all as)
  | .blt b as => se_blt b (ses_all as)
  | .isin a ts => se_isin ts (se_all a)
  | .meth m o as => se_meth m (se_all o) (sxs_all as)
  | .sub a i => se_sub (se_all a) (se_all i)
  | .slc a lo hi => se_slc (se_all a) (so_all lo) (so_all hi)
  | .rev a => se_rev
  | .tup es => se_tup (sxs_all es)
  | .lst m es => se_lst m (sxs_all es)
  | .rng t m i => se_rng t m (sr_all i)
  | .comp m elt (.mk tg it c) => se_comp m (se_all elt) (si_all it) (sc_all c)
  | .comp2 m elt (.mk tg it c) (.mk tg1 it1 c1) => se_comp2 m (se_all elt) (si_all it) (sc_all c) (si_all it1) (sc_all c1)
theorem st_all : ∀ c : CE, ST D k c
  | .cmp op a b => st_cmp op (se_all a) (se_all b)
  | .cmp2 p q a b c => st_cmp2 p q (se_all a) (se_all b) (se_all c)
  | .isn n a => st_isn n (se_all a)
  | .bnot a => st_bnot (st_all a)
  | .band as => st_band (stand_all as)
  | .bor as => st_bor (stor_all as)
  | .ifx t a b => st_ifx
  | .var i => st_value (se_var i) (fun Γ e env c => plain_true (by cases e <;> first | rfl | (unfold chkE at c; cases c)) env) (by intros; simp only [evT])
  | .con d => st_value (se_con d) (fun Γ e env c => plain_true (by cases e <;> first | rfl | (cases d <;> (unfold chkE at c; cases c))) env) (by intros; simp only [evT])
  | .gcon x d => st_value (se_gcon x d) (fun Γ e env c => plain_true (by cases e <;> first | rfl | (unfold chkE at c; cases c)) env) (by intros; simp only [evT])
  | .bin op a b => st_value (se_bin op (se_all a) (se_all b)) (fun Γ e env c => plain_true (by cases e <;> first | rfl | (unfold chkE at c; cases c)) env) (by intros; simp only [evT])
  | .neg a => st_value (se_neg (se_all a)) (fun Γ e env c => plain_true (by cases e with | UnaryOp o x p => (cases o <;> first | rfl | (unfold chkE at c; cases c)) | _ => first | rfl | (unfold chkE at c; cases c)) env) (by intros; simp only [evT])
  | .call f as => st_value (se_call f (ses_all as)) (fun Γ e env c => plain_true (by cases e <;> first | rfl | (unfold chkE at c; cases c)) env) (by intros; simp only [evT])
  | .callk f ks as => st_value (se_callk f ks (sks_all as)) (fun Γ e env c => plain_true (by cases e <;> first | rfl | (unfold chkE at c; cases c)) env) (by intros; simp only [evT])
  | .blt b as => st_value (se_blt b (ses_all as)) (fun Γ e env c => plain_true (by cases e <;> first | rfl | (unfold chkE at c; cases c)) env) (by intros; simp only [evT])
  | .isin a ts => st_value (se_isin ts (se_all a)) (fun Γ e env c => plain_true (by cases e <;> first | rfl | (unfold chkE at c; cases c)) env) (by intros; simp only [evT])
  | .meth m o as => st_value (se_meth m (se_all o) (sxs_all as)) (fun Γ e env c => plain_true (by cases e <;> first | rfl | (cases o <;> (unfold chkE at c; cases c))) env) (by intros; simp only [evT])
  | .sub a i => st_value (se_sub (se_all a) (se_all i)) (fun Γ e env c => plain_true (by cases e <;> first | rfl | (unfold chkE at c; cases c)) env) (by intros; simp only [evT])
  | .slc a lo hi => st_value (se_slc (se_all a) (so_all lo) (so_all hi)) (fun Γ e env c => plain_true (by cases e <;> first | rfl | (unfold chkE at c; cases c)) env) (by intros; simp only [evT])
  | .rev a => st_value se_rev (fun Γ e env c => plain_true (by cases e <;> first | rfl | (unfold chkE at c; cases c)) env) (by intros; simp only [evT])
  | .tup es => st_value (se_tup (sxs_all es)) (fun Γ e env c => plain_true (by cases e <;> first | rfl | (unfold chkE at c; cases c)) env) (by intros; simp only [evT])
  | .lst m es => st_value (se_lst m (sxs_all es)) (fun Γ e env c => plain_true (by cases e <;> first | rfl | (unfold chkE at c; cases c)) env) (by intros; simp only [evT])
  | .rng t m i => st_value (se_rng t m (sr_all i)) (fun Γ e env c => plain_true (by cases e <;> first | rfl | (unfold chkE at c; cases c)) env) (by intros; simp only [evT])
  | .comp m elt (.mk tg it c0) => st_value (se_comp m (se_all elt) (si_all it) (sc_all c0)) (fun Γ e env c => plain_true (by cases e <;> first | rfl | (unfold chkE at c; cases c)) env) (by intros; simp only [evT])
  | .comp2 m elt (.mk tg it c0) (.mk tg1 it1 c1) => st_value (se_comp2 m (se_all elt) (si_all it) (sc_all c0) (si_all it1) (sc_all c1)) (fun Γ e env c => plain_true (by cases e <;> first | rfl | (unfold chkE at c; cases c)) env) (by intros; simp only [evT])
theorem ses_all : ∀ c : CEs, SEs D k c
  | .nil => ses_nil
  | .cons a as => ses_cons (se_all a) (ses_all as)
theorem sxs_all : ∀ c : CEs, SXs D k c
  | .nil => sxs_nil
  | .cons a as => sxs_cons (se_all a) (sxs_all as)
theorem sks_all : ∀ c : CEs, SKs D k c
  | .nil => sks_nil
  | .cons a as => sks_cons (se_all a) (sks_all as)
theorem sand_all : ∀ c : CEs, SAnd D k c
  | .nil => sand_nil
  | .cons a as => sand_cons (se_all a) (sand_all as)
theorem sor_all : ∀ c : CEs, SOr D k c
  | .nil => sor_nil
  | .cons a as => sor_cons (se_all a) (sor_all as)
theorem stand_all : ∀ c : CEs, STAnd D k c
  | .nil => stand_nil
  | .cons a as => stand_cons (st_all a) (stand_all as)
theorem stor_all : ∀ c : CEs, STOr D k c
  | .nil => stor_nil
  | .cons a as => stor_cons (st_all a) (stor_all as)
theorem so_all : ∀ c : CO, SO D k c
  | .none => so_none
  | .some a => so_some (se_all a)
theorem sc_all : ∀ c : CO, SC D k c
  | .none => sc_none
  | .some a => sc_some (st_all a)
theorem si_all : ∀ c : CI, SI D k c
  | .seq a => si_seq (se_all a)
  | .rng a => si_rng (se_all a)
  | .rng2 a b => si_rng2 (se_all a) (se_all b)
  | .enum a => si_enum (se_all a)
  | .zip a b => si_zip (se_all a) (se_all b)
theorem sr_all : ∀ c : CI, SR_ D k c
  | .seq a => sr_no fun Γ e => by unfold chkR; rfl
  | .rng a => sr_1 (se_all a)
  | .rng2 a b => sr_2 (se_all a) (se_all b)
  | .enum a => sr_no fun Γ e => by unfold chkR; rfl
  | .zip a b => sr_no fun Γ e => by unfold chkR; rfl
end
end
end KA
/-! KAStmt: statements are the text's. -/
namespace KA
open PySem PySem.Spec PyProof.Rows L2
/-! ### when a core statement is the text's -/
def kfB (sc : Scope) : Bool := match sc.kind with
  | .function => true
  | _ => false
def compB : Expr → Bool
  | .ListComp _ _ _ _ => true
  | .SetComp _ _ _ _ => true
  | .DictComp _ _ _ _ _ => true
  | _ => false
/-- [..] into a local name of the same line -/
def swT (Γ : Cs) (x : Str) (px : Pos) : Expr → Bool
  | .ListComp _ _ scope pos => kfB Γ.sc && decide (Γ.sc.names.lookup x = some .local) && (px.line == pos.line) && !(scope.names.any fun (n, k) => n == x && (k == .local || k == .cell))
  | _ => false
/-- [..] into a name that is not plain local -/
def swF (Γ : Cs) (x : Str) : Expr → Bool
  | .ListComp _ _ _ _ => decide (Γ.sc.names.lookup x ≠ some .local)
  | _ => false
def parB (Γ : Cs) : List Nat → List Expr → List Expr → Bool
  | [i, j], [.Name x px, .Name y py], [a, b] => kfB Γ.sc && decide (i ≠ j) && decide (x ≠ y) && decide (Γ.N[i]? = some x) && decide (Γ.N[j]? = some y) && decide (Γ.sc.names.lookup x = some .local) && decide (Γ.sc.names.lookup y = some .local) && (py.line == px.line) &&
      !([a, b].all (foldedForSure 8)) && !([a, b].all (constantsAlone 8))
  | [i, j, l], [.Name x px, .Name y py, .Name z pz], [a, b, c] => kfB Γ.sc && decide (i ≠ j) && decide (i ≠ l) && decide (j ≠ l) && decide (x ≠ y) && decide (x ≠ z) && decide (y ≠ z) && decide (Γ.N[i]? = some x) && decide (Γ.N[j]? = some y) && decide (Γ.N[l]? = some z) &&
      decide (Γ.sc.names.lookup x = some .local) && decide (Γ.sc.names.lookup y = some .local) && decide (Γ.sc.names.lookup z = some .local) && (py.line == px.line) && (pz.line == px.line) && !([a, b, c].all (foldedForSure 8)) && !([a, b, c].all (constantsAlone 8))
  | _, _, _ => false
/-- several names, not all of them plain local (or all values constants): by a tuple -/
def parT (Γ : Cs) (is : List Nat) (ts vs : List Expr) : Bool := nmsB Γ is ts && decide (is.length < 100) && (ts.any (fun e => match e with | .Name id _ => !(Γ.sc.names.lookup id == some .local) | _ => true) || vs.all (foldedForSure 8))
mutual
def chkS (D : Dom) (Γ : Cs) : CS → Stmt → Bool
  | .set i e, .Assign [.Name x px] v _ => decide (Γ.N[i]? = some x) && stB Γ x && chkE D Γ e v && (!compB v || swT Γ x px v || swF Γ x v)
  | .par is es, .Assign [.Tuple ts _ _] (.Tuple vs _ _) _ => (parB Γ is ts vs || parT Γ is ts vs) && chkEs D Γ es vs
  | .unp is e, .Assign [.Tuple ts _ _] v _ => nmsB Γ is ts && chkE D Γ e v && !tupB v
  | .sst o i e, .Assign [.Subscript ob ix _] v _ => chkE D Γ o ob && chkE D Γ i ix && ixB ix && chkE D Γ e v
  | .expr e, .Expr v _ => chkE D Γ e v && !compB v
  | .ret e, .Return (some v) _ => chkE D Γ e v
  | .retN, .Return none _ => true
  | .ifs t a b, .If c p q _ => chkE D Γ t c && chkSs D Γ a p && chkSs D Γ b q
  | .for_ tg it b, .For t i body [] _ => chkG Γ tg t && chkI D Γ it i && (tupB t || !needT it) && chkSs D Γ b body
  | .whil 0 _ _, _ => true
  | .whil _ t b, .While c body [] _ => chkE D Γ t c && chkSs D Γ b body
  | .aug i op e, .AugAssign (.Name x _) o v _ => decide (op = o) && decide (op = .Add ∨ op = .Sub) && decide (Γ.N[i]? = some x) && stB Γ x && chkE D Γ e v
  | .pass, .Pass _ => true
  | .pass, .Expr (.Constant (.str _) _ _) _ => true
  | _, _ => false
def chkSs (D : Dom) (Γ : Cs) : CSs → List Stmt → Bool
  | .nil, [] => true
  | .cons s ss, st :: sts => chkS D Γ s st && chkSs D Γ ss sts
  | _, _ => false
end
/-! ### what a statement promises -/
section
variable {K : PySem.W.Frag} {mg : Str → Option Value}
def postS (K : PySem.W.Frag) (mg : Str → Option Value) (W : WX) (D : Ends) (H : Hp) (M : Addr → Prop) (A : List Addr) (S : Sto) : SR → Prop
  | .nx σd S' => ∀ H' M' A' σ, Fm H M A S H' M' A' S' → Rel K H' M' A' S' → Sr K H' M' A' σd σ → D.nx σ H'
  | .rt v S' => ∀ H' M' A' u, Fm H M A S H' M' A' S' → Rel K H' M' A' S' → Vr K H' M' A' v u → D.rt u H'
  | .exc e σd S' => ∀ H' M' A' σ c d, Fm H M A S H' M' A' S' → Rel K H' M' A' S' → Sr K H' M' A' σd σ → Er mg e c d H' → W c d σ H'
  | .bad => False
variable {W : WX} {D : Ends} {H H' : Hp} {M M' : Addr → Prop} {A A' : List Addr} {S S' : Sto}
theorem postS.from {r : SR} (h : postS K mg W D H M A S r) (f : Fm H M A S H' M' A' S') : postS K mg W D H' M' A' S' r := by
  cases r with
  | nx σd S2 => exact fun H2 M2 A2 σ g => h H2 M2 A2 σ (f.trans g)
  | rt v S2 => exact fun H2 M2 A2 u g => h H2 M2 A2 u (f.trans g)
  | exc e σd S2 => exact fun H2 M2 A2 σ c d g => h H2 M2 A2 σ c d (f.trans g)
  | bad => exact h
/-- a statement's end is another's beginning -/
theorem postS.bind {r : SR} {g : Sg → Sto → SR} (h : postS K mg W D H M A S (r.bind g)) : postS K mg W { D with nx := fun σ H' => ∃ M' A' S' σd, Rel K H' M' A' S' ∧ Sr K H' M' A' σd σ ∧ Fm H M A S H' M' A' S' ∧ postS K mg W D H' M' A' S' (g σd S') } H M A S r := by
  cases r with
  | nx σd S2 => exact fun H2 M2 A2 σ f R s => ⟨M2, A2, S2, σd, R, s, f, postS.from (K := K) h f⟩
  | rt v S2 => exact h
  | exc e σd S2 => exact h
  | bad => exact h
theorem postS.mono {r : SR} {nx nx' : L2.St → Hp → Prop} {rt : VK} {bk ct bk' ct' : L2.St → Hp → Prop} (h : postS K mg W ⟨nx, rt, bk, ct⟩ H M A S r) (f : ∀ σ H, nx σ H → nx' σ H) : postS K mg W ⟨nx', rt, bk', ct'⟩ H M A S r := by
  cases r with
  | nx σd S2 => exact fun H2 M2 A2 σ g R s => f _ _ (h H2 M2 A2 σ g R s)
  | rt v S2 => exact h
  | exc e σd S2 => exact h
  | bad => exact h
/-- an expression in a statement -/
theorem postS.thenS {α : Type} {r : R α} {σd : Sg} {σ : L2.St} {g : α → Sto → SR} (s : Sr K H M A σd σ) (h : postS K mg W D H M A S (r.thenS σd g)) : post K mg (fun c d H => W c d σ H) H M A S r fun a H' M' A' S' => postS K mg W D H' M' A' S' (g a S') := by
  cases r with
  | ok a S2 => exact fun H2 M2 A2 f R => postS.from (K := K) h f
  | exc e S2 => exact fun H2 M2 A2 c d f R x => h H2 M2 A2 σ c d f R (s.mono f) x
  | bad => exact h
def tS (K : PySem.W.Frag) (mg : Str → Option Value) (W : WX) (r : Sg → Sto → SR) : TS := fun D σ H => ∃ M A S σd, Rel K H M A S ∧ Sr K H M A σd σ ∧ postS K mg W D H M A S (r σd S)
end
section
variable {D : Dom} {k : Nat}
def Ow (X : Cx) : Prop := PassesOwn (model X.prog X.w) X.A X.env X.xe
def SS (D : Dom) (k : Nat) (c : CS) : Prop := ∀ (X : Cx) (W : WX) (Γ : Cs) (st : Stmt), Wd D k Γ X → Takes X W → Ow X → chkS D Γ c st = true → PS X st (tS X.K X.mg W fun σ S => evS (evCall D.T k) (parOf D.T) c σ S)
def SSs (D : Dom) (k : Nat) (cs : CSs) : Prop := ∀ (X : Cx) (W : WX) (Γ : Cs) (sts : List Stmt), Wd D k Γ X → Takes X W → Ow X → chkSs D Γ cs sts = true → PSs X sts (tS X.K X.mg W fun σ S => evSs (evCall D.T k) (parOf D.T) cs σ S)
theorem _root_.L2.PS.imp {X : Cx} {st : Stmt} {t t' : TS} (h : PS X st t) (i : ∀ E σ H, t' E σ H → t E σ H) : PS X st t' := ⟨fun pins s σ H E I q => h.run pins s σ H E I (i E σ H q)⟩
theorem _root_.L2.PSs.imp {X : Cx} {st : List Stmt} {t t' : TS} (h : PSs X st t) (i : ∀ E σ H, t' E σ H → t E σ H) : PSs X st t' := ⟨fun pins s σ H E I q => h.run pins s σ H E I (i E σ H q)⟩
theorem sss_nil : SSs D k .nil := fun X W Γ sts w tk ow c => by
  cases sts with
  | nil =>
    refine pss_nil.imp fun E σ H ⟨M, A, S, σd, R, sr, p⟩ => ?_
    simp only [evSs] at p
    exact p H M A σ Fm.refl R sr
  | cons a b => exact no (by unfold chkSs at c; cases c)
theorem sss_cons {s : CS} {ss : CSs} (i1 : SS D k s) (i2 : SSs D k ss) : SSs D k (.cons s ss) := fun X W Γ sts w tk ow c => by
  cases sts with
  | nil => exact no (by unfold chkSs at c; cases c)
  | cons st r =>
    obtain ⟨c1, c2⟩ := ba (show (chkS D Γ s st && chkSs D Γ ss r) = true by unfold chkSs at c; exact c)
    refine (pss_cons (i1 X W Γ st w tk ow c1) (i2 X W Γ r w tk ow c2)).imp fun E σ H ⟨M, A, S, σd, R, sr, p⟩ => ?_
    simp only [evSs] at p
    exact ⟨M, A, S, σd, R, sr, (postS.bind p).mono fun σ' H' ⟨M2, A2, S2, σ2, R2, s2, _, p2⟩ => ⟨M2, A2, S2, σ2, R2, s2, p2⟩⟩
theorem ss_pass : SS D k .pass := fun X W Γ st w tk ow c => by
  have fin : ∀ {E : Ends} {σ : L2.St} {H : Hp}, tS X.K X.mg W (fun σ S => evS (evCall D.T k) (parOf D.T) .pass σ S) E σ H → E.nx σ H := fun ⟨M, A, S, σd, R, sr, p⟩ => by
    simp only [evS] at p
    exact p _ M A _ Fm.refl R sr
  cases st with
  | Pass pos => exact ps_pass.imp fun E σ H q => fin q
  | Expr v pos =>
    cases v with
    | Constant cc j p =>
      cases cc with
      | str x => exact ps_doc.imp fun E σ H q => fin q
      | _ => exact no (by unfold chkS at c; cases c)
    | _ => exact no (by unfold chkS at c; cases c)
  | _ => exact no (by unfold chkS at c; cases c)
theorem ss_expr (e : CE) : SS D k (.expr e) := fun X W Γ st w tk ow c => by
  cases st with
  | Expr v pos =>
    obtain ⟨c1, c2⟩ := ba (show (chkE D Γ e v && !compB v) = true by unfold chkS at c; exact c)
    refine (ps_expr (se_all e X W Γ v w tk c1) (by cases v <;> first | rfl | (simp [compB] at c2))).imp fun E σ H ⟨M, A, S, σd, R, sr, p⟩ => ?_
    simp only [evS] at p
    exact ⟨M, A, S, σd, R, sr, (postS.thenS sr p).imp fun v H1 M1 A1 S1 f1 R1 p1 u r1 => p1 H1 M1 A1 σ Fm.refl R1 (sr.mono f1)⟩
  | _ => exact no (by unfold chkS at c; cases c)
theorem ss_ret (e : CE) : SS D k (.ret e) := fun X W Γ st w tk ow c => by
  cases st with
  | Return v pos =>
    cases v with
    | none => exact no (by unfold chkS at c; cases c)
    | some v =>
      refine (ps_ret (se_all e X W Γ v w tk (by unfold chkS at c; exact c))).imp fun E σ H ⟨M, A, S, σd, R, sr, p⟩ => ?_
      simp only [evS] at p
      exact ⟨M, A, S, σd, R, sr, (postS.thenS sr p).imp fun v H1 M1 A1 S1 f1 R1 p1 u r1 => p1 H1 M1 A1 u Fm.refl R1 r1⟩
  | _ => exact no (by unfold chkS at c; cases c)
theorem ss_retN : SS D k .retN := fun X W Γ st w tk ow c => by
  cases st with
  | Return v pos =>
    cases v with
    | some _ => exact no (by unfold chkS at c; cases c)
    | none =>
      refine ps_retN.imp fun E σ H ⟨M, A, S, σd, R, sr, p⟩ => ?_
      simp only [evS] at p
      exact p H M A .non Fm.refl R Rp.non
  | _ => exact no (by unfold chkS at c; cases c)
theorem ss_ifs (t : CE) {a b : CSs} (ia : SSs D k a) (ib : SSs D k b) : SS D k (.ifs t a b) := fun X W Γ st w tk ow c => by
  cases st with
  | If cc p q pos =>
    obtain ⟨c1, c2⟩ := ba (show (chkE D Γ t cc && chkSs D Γ a p && chkSs D Γ b q) = true by unfold chkS at c; exact c)
    obtain ⟨c3, c4⟩ := ba c1
    refine (ps_if (st_all t X W Γ cc w tk c3) (ia X W Γ p w tk ow c4) (ib X W Γ q w tk ow c2)).imp fun E σ H ⟨M, A, S, σd, R, sr, p⟩ => ?_
    simp only [evS] at p
    refine ⟨M, A, S, σd, R, sr, (postS.thenS sr p).imp fun bb H1 M1 A1 S1 f1 R1 p1 => ?_⟩
    cases bb with
    | true => exact ⟨M1, A1, S1, σd, R1, sr.mono f1, by simpa using p1⟩
    | false => exact ⟨M1, A1, S1, σd, R1, sr.mono f1, by simpa using p1⟩
  | _ => exact no (by unfold chkS at c; cases c)
/-! ### assignments -/
theorem kind_of {X : Cx} {Γ : Cs} (w : Wd D k Γ X) (h : kfB Γ.sc = true) : X.env.scope.kind = .function := by
  rw [w.scp]
  unfold kfB at h
  split at h
  · assumption
  · cases h
theorem set_post {X : Cx} {W : WX} {i : Nat} {e : CE} {E : Ends} {σ : L2.St} {H : Hp} (h : tS X.K X.mg W (fun σ S => evS (evCall D.T k) (parOf D.T) (.set i e) σ S) E σ H) :
    tV X.K X.mg W (fun σ S => evE (evCall D.T k) (parOf D.T) σ e S) σ H fun u H1 => E.nx (σ.set i (some u)) H1 := by
  obtain ⟨M, A, S, σd, R, sr, p⟩ := h
  simp only [evS] at p
  exact ⟨M, A, S, σd, R, sr, (postS.thenS sr p).imp fun v H1 M1 A1 S1 f1 R1 p1 u r1 => p1 H1 M1 A1 _ Fm.refl R1 ((sr.mono f1).set r1)⟩
theorem ss_set (i : Nat) (e : CE) : SS D k (.set i e) := fun X W Γ st w tk ow c => by
  cases st with
  | Assign ts v pos =>
    have z : ∃ x px, ts = [.Name x px] := by
      unfold chkS at c
      split at c <;> simp_all
    obtain ⟨x, px, rfl⟩ := z
    · 
      obtain ⟨c1, c2⟩ := ba (show (decide (Γ.N[i]? = some x) && stB Γ x && chkE D Γ e v && (!compB v || swT Γ x px v || swF Γ x v)) = true by unfold chkS at c; exact c)
      obtain ⟨c3, c4⟩ := ba c1
      obtain ⟨c5, c6⟩ := ba c3
      obtain ⟨l1, l2⟩ := loc_of w c6
      have hN : X.N.Nodup := by rw [w.hN]; exact w.nd
      have hi : X.N[i]? = some x := by rw [w.hN]; exact of_decide_eq_true c5
      have plain : swapsWith v (some (.Name x px)) pos.line X.env = pure false → PS X (.Assign [.Name x px] v pos) (tS X.K X.mg W fun σ S => evS (evCall D.T k) (parOf D.T) (.set i e) σ S) := fun hs =>
        (ps_set hN hi l1 (se_all e X W Γ v w tk c4) hs l2).imp fun E σ H q => set_post q
      by_cases hc : compB v = true
      · cases v with
        | ListComp elt gs scope lp =>
          by_cases hT : swT Γ x px (.ListComp elt gs scope lp) = true
          · obtain ⟨d1, d2⟩ := ba (show (kfB Γ.sc && decide (Γ.sc.names.lookup x = some .local) && (px.line == lp.line) && !(scope.names.any fun (n, k) => n == x && (k == .local || k == .cell))) = true from hT)
            obtain ⟨d3, d4⟩ := ba d1
            obtain ⟨d5, d6⟩ := ba d3
            have hl : X.env.scope.names.lookup x = some .local := by rw [w.scp]; exact of_decide_eq_true d6
            have hsw : swapsWith (.ListComp elt gs scope lp) (some (.Name x px)) pos.line X.env = pure true := sw_true (kind_of w d5) hl d4 (by simpa using d2)
            cases e with
            | comp m elt0 g =>
              obtain ⟨tg, it, cc⟩ := g
              cases gs with
              | nil => exact no (by unfold chkE at c4; cases c4)
              | cons g r =>
                obtain ⟨t, ii, ifs, as⟩ := g
                have z : as = 0 ∧ r = [] := by
                  unfold chkE at c4
                  split at c4 <;> simp_all
                obtain ⟨z1, z2⟩ := z
                subst z1 z2
                have ok := comp_ok (se_all elt0) (si_all it) (sc_all cc) w tk c4
                exact (ps_setLc w.calm hN hi hl hsw ok.pi ok.ok ok.pg ok.pt ok.pe ok.fs).imp fun E σ H q => comp_post (own := ownOf Γ.N tg.slots) ok.ow (set_post q)
            | comp2 m elt0 g g1 =>
              obtain ⟨tg, it, cc⟩ := g
              obtain ⟨tg1, it1, cc1⟩ := g1
              cases gs with
              | nil => exact no (by unfold chkE at c4; cases c4)
              | cons g r =>
                obtain ⟨t, ii, ifs, as⟩ := g
                have z : ∃ t1 i1 ifs1, as = 0 ∧ r = [⟨t1, i1, ifs1, 0⟩] := by
                  unfold chkE at c4
                  split at c4 <;> simp_all
                obtain ⟨t1, i1, ifs1, z1, z2⟩ := z
                subst z1 z2
                have ok := comp_ok2 (se_all elt0) (si_all it) (sc_all cc) (si_all it1) (sc_all cc1) w tk c4
                exact (ps_setLc2 w.calm hN hi hl hsw ok.pi ok.ok (by intro j hj; rw [ok.ow]; simp [hj]) ok.pg ok.pt ok.pi1 ok.pg1 ok.pt1 ok.pe ok.fs ok.fs1).imp fun E σ H q => comp_post2 (own := ownOf Γ.N (tg.slots ++ tg1.slots)) ok.ow (set_post q)
            | con dd => cases dd <;> exact no (by unfold chkE at c4; cases c4)
            | meth _ oo _ => cases oo <;> exact no (by unfold chkE at c4; cases c4)
            | _ => exact no (by unfold chkE at c4; cases c4)
          · have hF : swF Γ x (.ListComp elt gs scope lp) = true := by
              simp only [hc, Bool.not_true, Bool.false_or] at c2
              simpa [hT] using c2
            have hF' := of_decide_eq_true (show decide (Γ.sc.names.lookup x ≠ some .local) = true from hF)
            refine plain ?_
            have hk : (X.env.kindOf x == some .local) = false := by
              show (X.env.scope.names.lookup x == some .local) = false
              rw [w.scp]
              simpa using hF'
            unfold swapsWith
            simp only [hk, Bool.and_false, Bool.false_and]
        | SetComp _ _ _ _ =>
          cases e with
          | con dd => cases dd <;> exact no (by unfold chkE at c4; cases c4)
          | meth _ oo _ => cases oo <;> exact no (by unfold chkE at c4; cases c4)
          | comp _ _ g => cases g; exact no (by unfold chkE at c4; cases c4)
          | comp2 _ _ g g1 => cases g; cases g1; exact no (by unfold chkE at c4; cases c4)
          | _ => exact no (by unfold chkE at c4; cases c4)
        | DictComp _ _ _ _ _ =>
          cases e with
          | con dd => cases dd <;> exact no (by unfold chkE at c4; cases c4)
          | meth _ oo _ => cases oo <;> exact no (by unfold chkE at c4; cases c4)
          | comp _ _ g => cases g; exact no (by unfold chkE at c4; cases c4)
          | comp2 _ _ g g1 => cases g; cases g1; exact no (by unfold chkE at c4; cases c4)
          | _ => exact no (by unfold chkE at c4; cases c4)
        | _ => exact absurd hc (by simp [compB])
      · exact plain (by cases v <;> first | rfl | (simp [compB] at hc))
  | _ => exact no (by unfold chkS at c; cases c)
end
end KA
/-! KAStmt2: assignments to several names, items; loops. -/
namespace KA
open PySem PySem.Spec PyProof.Rows L2
section
variable {D : Dom} {k : Nat}
theorem ss_never (t : CE) (b : CSs) : SS D k (.whil 0 t b) := fun X W Γ st w tk ow c => ps_never.imp fun E σ H ⟨M, A, S, σd, R, sr, p⟩ => by
  simp only [evS, loopW] at p
  exact p
theorem ss_unp (is : List Nat) (e : CE) : SS D k (.unp is e) := fun X W Γ st w tk ow c => by
  cases st with
  | Assign ts v pos =>
    have z : ∃ es kt pt, ts = [.Tuple es kt pt] ∧ (nmsB Γ is es && chkE D Γ e v && !tupB v) = true := by
      unfold chkS at c
      split at c <;> simp_all
    obtain ⟨es, kt, pt, rfl, c⟩ := z
    obtain ⟨c1, c2⟩ := ba c
    obtain ⟨c3, c4⟩ := ba c1
    obtain ⟨q1, q2, q3⟩ := pgs_nms w c3
    have hp := pg_tup (k := kt) (pos := pt) w.calm q1 (q2 _) (q3 _)
    refine (ps_asg (se_all e X W Γ v w tk c4) hp (by cases v <;> rfl) (by cases v <;> first | rfl | (simp [tupB] at c2)) rfl).imp fun E σ H ⟨M, A, S, σd, R, sr, p⟩ => ?_
    simp only [evS] at p
    refine ⟨M, A, S, σd, R, sr, (post.bind (postS.thenS sr p)).imp fun v H1 M1 A1 S1 f1 R1 p1 u r1 => ?_⟩
    unfold op1 at p1
    cases e1 : rd S1 v with
    | none => rw [e1] at p1; exact p1.elim
    | some x =>
      rw [e1] at p1
      have p2 := post.ok R1 p1
      split at p2
      · rename_i xs
        split at p2
        · rename_i hl
          obtain ⟨a, ys, rfl, hs, _, rs, _⟩ := rdT r1 e1
          exact ⟨a, ys, rfl, hs, by rw [← rs.length]; exact hl, names_bind hl rs (sr.mono f1) fun σ' s' => p2 H1 M1 A1 σ' Fm.refl R1 s'⟩
        · exact p2.elim
      · exact p2.elim
  | _ => exact no (by unfold chkS at c; cases c)
theorem ss_aug (i : Nat) (op : Operator) (e : CE) : SS D k (.aug i op e) := fun X W Γ st w tk ow c => by
  cases st with
  | AugAssign t o v pos =>
    cases t with
    | Name x px =>
      obtain ⟨c1, c2⟩ := ba (show (decide (op = o) && decide (op = .Add ∨ op = .Sub) && decide (Γ.N[i]? = some x) && stB Γ x && chkE D Γ e v) = true by unfold chkS at c; exact c)
      obtain ⟨c3, c4⟩ := ba c1
      obtain ⟨c5, c6⟩ := ba c3
      obtain ⟨c7, c8⟩ := ba c5
      have ho := of_decide_eq_true c7
      subst ho
      obtain ⟨l1, l2⟩ := loc_of w c4
      have hN : X.N.Nodup := by rw [w.hN]; exact w.nd
      have hi : X.N[i]? = some x := by rw [w.hN]; exact of_decide_eq_true c6
      have fin : ∀ (f : Int → Int → Int), PIp X op (ipI f) → (∀ a b z, augD op a b = some z → ∃ i j, a = .int i ∧ b = .int j ∧ z = .int (f i j)) → PS X (.AugAssign (.Name x px) op v pos) (tS X.K X.mg W fun σ S => evS (evCall D.T k) (parOf D.T) (.aug i op e) σ S) := fun f hp hf => by
        refine (ps_aug hN hi l1 (se_all e X W Γ v w tk c2) hp l2).imp fun E σ H ⟨M, A, S, σd, R, sr, p⟩ => ?_
        simp only [evS] at p
        split at p
        · rename_i y hy
          obtain ⟨u, hu, ru⟩ := sr.at_ i y hy
          refine ⟨u, hu, M, A, S, σd, R, sr, (postS.thenS sr p).imp fun v2 H1 M1 A1 S1 f1 R1 p1 u2 r2 => ?_⟩
          unfold op2 at p1
          cases e1 : rd S1 y with
          | none => rw [e1] at p1; exact p1.elim
          | some a =>
            cases e2 : rd S1 v2 with
            | none => rw [e1, e2] at p1; exact p1.elim
            | some b =>
              rw [e1, e2] at p1
              dsimp only at p1
              cases e3 : augD op a b with
              | none => rw [e3] at p1; exact p1.elim
              | some z =>
                rw [e3] at p1
                obtain ⟨i1, j1, ea, eb, ez⟩ := hf a b z e3
                subst ea eb ez
                exact ⟨i1, j1, rd_int (ru.mono f1) e1, rd_int r2 e2, p1 H1 M1 A1 _ Fm.refl R1 ((sr.mono f1).set (v := .d (.int (f i1 j1))) (Rp.int _))⟩
        · exact p.elim
      have ha : ∀ {a b z : PD}, augD .Add a b = some z → ∃ i j, a = .int i ∧ b = .int j ∧ z = .int (i + j) := fun {a b z} h => by
        unfold augD at h
        split at h <;> first | (cases h; exact ⟨_, _, rfl, rfl, rfl⟩) | simp_all
      have hs : ∀ {a b z : PD}, augD .Sub a b = some z → ∃ i j, a = .int i ∧ b = .int j ∧ z = .int (i - j) := fun {a b z} h => by
        unfold augD at h
        split at h <;> first | (cases h; exact ⟨_, _, rfl, rfl, rfl⟩) | simp_all
      rcases of_decide_eq_true c8 with rfl | rfl
      · exact fin (fun i j => i + j) ip_add fun a b z h => ha h
      · exact fin (fun i j => i - j) ip_sub fun a b z h => hs h
    | _ => exact no (by unfold chkS at c; cases c)
  | _ => exact no (by unfold chkS at c; cases c)
theorem ss_sst (o i e : CE) : SS D k (.sst o i e) := fun X W Γ st w tk ow c => by
  cases st with
  | Assign ts v pos =>
    have z : ∃ ob ix sp, ts = [.Subscript ob ix sp] ∧ (chkE D Γ o ob && chkE D Γ i ix && ixB ix && chkE D Γ e v) = true := by
      unfold chkS at c
      split at c <;> simp_all
      exact ⟨_, _, ⟨rfl, rfl⟩, c.1.1, c.1.2⟩
    obtain ⟨ob, ix, sp, rfl, c⟩ := z
    obtain ⟨c1, c2⟩ := ba c
    obtain ⟨c3, c4⟩ := ba c1
    obtain ⟨c5, c6⟩ := ba c3
    have hp : PG X (.Subscript ob ix sp) (gSub _ _ rSetL) := pg_sub (se_all o X W Γ ob w tk c5) (se_all i X W Γ ix w tk c6) set_list (by cases ix <;> first | (intro _; rfl) | cases c4)
    refine (ps_asg (se_all e X W Γ v w tk c2) hp (by cases v <;> rfl) (by cases v <;> rfl) rfl).imp fun E σ H ⟨M, A, S, σd, R, sr, p⟩ => ?_
    simp only [evS] at p
    refine ⟨M, A, S, σd, R, sr, (post.bind (postS.thenS sr p)).imp fun v1 H1 M1 A1 S1 f1 R1 p1 u r1 => ?_⟩
    obtain ⟨x, S2, M2, ex, R2, f2, rp⟩ := esc_ok R1 r1
    rw [ex] at p1
    have p2 := postS.thenS ((sr.mono f1).mono f2) (post.ok R2 (p1.from f2))
    refine ⟨M2, A1, S2, σd, R2, (sr.mono f1).mono f2, p2.imp fun v3 H3 M3 A3 S3 f3 R3 p3 u3 r3 => ?_⟩
    have p4 := postS.thenS (((sr.mono f1).mono f2).mono f3) p3
    refine ⟨M3, A3, S3, σd, R3, ((sr.mono f1).mono f2).mono f3, (post.bind p4).imp fun v4 H4 M4 A4 S4 f4 R4 p5 u4 r4 => ?_⟩
    unfold op1 at p5
    cases e1 : rd S4 v4 with
    | none => rw [e1] at p5; exact p5.elim
    | some y =>
      rw [e1] at p5
      have p6 := post.ok R4 p5
      unfold KA.setItem at p6
      split at p6
      · rename_i l kk
        split at p6
        · rename_i ds hl
          split at p6
          · rename_i j hj
            obtain ⟨a, ea, rfl⟩ := r3.mono f4
            obtain ⟨mA, xs, eA, rA, zA⟩ := R4.lst l ds a hl ea
            have ru := (rp.stay f3.st).stay f4.st
            obtain ⟨R', f'⟩ := R4.put hl ea (rA.set ru j) (by rw [List.length_set]; exact zA)
            exact ⟨a, xs, kk, j, rfl, rd_int r4 e1, eA, by rw [← rA.length]; exact hj, p6 _ _ _ σ f' R' (((((sr.mono f1).mono f2).mono f3).mono f4).mono f')⟩
          · exact p6.elim
        · exact p6.elim
      · exact p6.elim
  | _ => exact no (by unfold chkS at c; cases c)
theorem nb {b : Bool} (h : (!b) = true) : b = false := by cases b <;> first | rfl | cases h
/-! ### several names at once -/
theorem two_vs {K : PySem.W.Frag} {H : Hp} {M : Addr → Prop} {A : List Addr} {vs : List VV} {us : List V} (r : Vs K H M A vs us) (h : vs.length = 2) : ∃ v1 v2 u1 u2, vs = [v1, v2] ∧ us = [u1, u2] ∧ Vr K H M A v1 u1 ∧ Vr K H M A v2 u2 := by
  cases r with
  | nil => cases h
  | cons a r =>
    cases r with
    | nil => cases h
    | cons b r =>
      cases r with
      | nil => exact ⟨_, _, _, _, rfl, rfl, a, b⟩
      | cons _ _ => simp at h
theorem three_vs {K : PySem.W.Frag} {H : Hp} {M : Addr → Prop} {A : List Addr} {vs : List VV} {us : List V} (r : Vs K H M A vs us) (h : vs.length = 3) : ∃ v1 v2 v3 u1 u2 u3, vs = [v1, v2, v3] ∧ us = [u1, u2, u3] ∧ Vr K H M A v1 u1 ∧ Vr K H M A v2 u2 ∧ Vr K H M A v3 u3 := by
  cases r with
  | nil => cases h
  | cons a r =>
    cases r with
    | nil => cases h
    | cons b r =>
      cases r with
      | nil => cases h
      | cons c r =>
        cases r with
        | nil => exact ⟨_, _, _, _, _, _, rfl, rfl, a, b, c⟩
        | cons _ _ => simp at h
theorem no_star {Γ : Cs} {es : CEs} {vs : List Expr} (h : chkEs D Γ es vs = true) : ∀ v ∈ vs, starB v = false := by
  induction vs generalizing es with
  | nil => simp
  | cons v r ih =>
    cases es with
    | nil => unfold chkEs at h; cases h
    | cons a as =>
      obtain ⟨_, h2, h3⟩ := chkEs_cons h
      intro u hu
      rcases List.mem_cons.mp hu with rfl | hu
      · exact h2
      · exact ih h3 u hu
theorem star_no {e : Expr} (h : starB e = false) : ¬ ((match e with | .Starred _ _ => true | _ => false) = true) := by
  cases e <;> first | exact Bool.false_ne_true | cases h
theorem swp2 {env : Env} {x y : Str} {px py pt pt2 : Pos} {kt k2 : Nat} {a b : Expr} (hk : env.scope.kind = .function) (hx : env.scope.names.lookup x = some .local) (hy : env.scope.names.lookup y = some .local) (hl : (py.line == px.line) = true) (hn : x ≠ y)
    (hs : ∀ v ∈ [a, b], starB v = false) (h1 : [a, b].all (foldedForSure 8) = false) (h2 : [a, b].all (constantsAlone 8) = false) :
    swappedStores [.Tuple [.Name x px, .Name y py] kt pt] (.Tuple [a, b] k2 pt2) env = pure (some [x, y]) := by
  have hb : env.blockKind = .function := by unfold Env.blockKind; rw [hk]; rfl
  have kx : env.kindOf x = some .local := hx
  have ky : env.kindOf y = some .local := hy
  have hn' : (y == x) = false := by simpa using (Ne.symm hn)
  unfold swappedStores
  simp only [List.length_cons, List.length_nil, hb, h1, h2, kx, ky, List.filterMap_cons, List.filterMap_nil, List.head?_cons, Expr.pos, Option.map_some, Option.getD_some, hl, beq_self_eq_true, Bool.and_true, if_true, Bool.and_self]
  simp [List.eraseDups_cons, hn']
  intro h
  exfalso
  rcases h with h | h
  · have hs' := hs a (by simp)
    cases a <;> first | exact absurd h Bool.false_ne_true | exact absurd hs' (by simp [starB])
  · have hs' := hs b (by simp)
    cases b <;> first | exact absurd h Bool.false_ne_true | exact absurd hs' (by simp [starB])
theorem swp3 {env : Env} {x y z : Str} {px py pz pt pt2 : Pos} {kt k2 : Nat} {a b c : Expr} (hk : env.scope.kind = .function) (hx : env.scope.names.lookup x = some .local) (hy : env.scope.names.lookup y = some .local) (hz : env.scope.names.lookup z = some .local) (hl : (py.line == px.line) = true) (hl2 : (pz.line == px.line) = true)
    (hn : x ≠ y) (hn2 : x ≠ z) (hn3 : y ≠ z) (hs : ∀ v ∈ [a, b, c], starB v = false) (h1 : [a, b, c].all (foldedForSure 8) = false) (h2 : [a, b, c].all (constantsAlone 8) = false) :
    swappedStores [.Tuple [.Name x px, .Name y py, .Name z pz] kt pt] (.Tuple [a, b, c] k2 pt2) env = pure (some [x, y, z]) := by
  have hb : env.blockKind = .function := by unfold Env.blockKind; rw [hk]; rfl
  have kx : env.kindOf x = some .local := hx
  have ky : env.kindOf y = some .local := hy
  have kz : env.kindOf z = some .local := hz
  have hn' : (y == x) = false := by simpa using (Ne.symm hn)
  have hn2' : (z == x) = false := by simpa using (Ne.symm hn2)
  have hn3' : (z == y) = false := by simpa using (Ne.symm hn3)
  unfold swappedStores
  simp only [List.length_cons, List.length_nil, hb, h1, h2, kx, ky, kz, List.filterMap_cons, List.filterMap_nil, List.head?_cons, Expr.pos, Option.map_some, Option.getD_some, hl, hl2, beq_self_eq_true, Bool.and_true, if_true, Bool.and_self]
  simp [List.eraseDups_cons, hn', hn2', hn3']
  intro h
  exfalso
  rcases h with h | h | h
  · have hs' := hs a (by simp)
    cases a <;> first | exact absurd h Bool.false_ne_true | exact absurd hs' (by simp [starB])
  · have hs' := hs b (by simp)
    cases b <;> first | exact absurd h Bool.false_ne_true | exact absurd hs' (by simp [starB])
  · have hs' := hs c (by simp)
    cases c <;> first | exact absurd h Bool.false_ne_true | exact absurd hs' (by simp [starB])
theorem names_bindV {K : PySem.W.Frag} {H : Hp} {M : Addr → Prop} {A : List Addr} : ∀ {is : List Nat} {ds : List VV} {xs : List V} {σd : Sg} {σ : L2.St} {Q : L2.St → Hp → Prop}, ds.length = is.length → Vs K H M A ds xs → Sr K H M A σd σ →
    (∀ σ', Sr K H M A ((is.zip ds).foldl (fun σ p => σ.set p.1 (some p.2)) σd) σ' → Q σ' H) → gNames is xs σ H Q
  | [], [], _, _, _, _, _, .nil, s, q => ⟨rfl, q _ s⟩
  | [], _ :: _, _, _, _, _, l, _, _, _ => by cases l
  | _ :: _, [], _, _, _, _, l, _, _, _ => by cases l
  | i :: is, d :: ds, _, σd, σ, Q, l, .cons r rs, s, q => ⟨_, _, rfl, names_bindV (is := is) (ds := ds) (by simpa using l) rs (s.set (i := i) (v := d) r) q⟩
theorem swp_none {ts vs : List Expr} {kt k2 : Nat} {pt pt2 : Pos} {env : Env} (h : (ts.any (fun e => match e with | .Name id _ => !(env.scope.names.lookup id == some .local) | _ => true) || vs.all (foldedForSure 8)) = true) :
    swappedStores [.Tuple ts kt pt] (.Tuple vs k2 pt2) env = pure none := by
  unfold swappedStores
  dsimp only
  split
  · rfl
  · split
    · rfl
    · split
      · rfl
      · rename_i hn
        split
        · rfl
        · rename_i hf
          exfalso
          rcases Bool.or_eq_true_iff.mp h with h | h
          · obtain ⟨e, he, q⟩ := List.any_eq_true.mp h
            simp at hn
            have hall := hn.1 e he
            cases e with
            | Name id pos =>
              have q' : (env.kindOf id == some .local) = false := by
                show (env.scope.names.lookup id == some .local) = false
                simpa using q
              have q2 : ¬ env.kindOf id = some .local := by simpa using q'
              simp [q2] at hall
            | _ => simp at hall
          · exact hf h
theorem par_tup {X : Cx} {W : WX} {Γ : Cs} {is : List Nat} {es : CEs} {tes vs : List Expr} {kt k2 : Nat} {pt pt2 pos : Pos} (w : Wd D k Γ X) (tk : Takes X W) (h : parT Γ is tes vs = true) (c2 : chkEs D Γ es vs = true) :
    PS X (.Assign [.Tuple tes kt pt] (.Tuple vs k2 pt2) pos) (tS X.K X.mg W fun σ S => evS (evCall D.T k) (parOf D.T) (.par is es) σ S) := by
  obtain ⟨h1, h2⟩ := ba h
  obtain ⟨h3, h4⟩ := ba h1
  obtain ⟨q1, q2, q3⟩ := pgs_nms w h3
  have hlt := of_decide_eq_true h4
  refine (ps_asg (pe_tup (ses_all es X W Γ vs w tk c2)) (pg_tup (k := kt) (pos := pt) w.calm q1 (q2 _) (q3 _)) rfl (swp_none (by rw [w.scp]; exact h2)) rfl).imp fun E σ H ⟨M, A, S, σd, R, sr, p⟩ => ?_
  simp only [evS] at p
  refine ⟨M, A, S, σd, R, sr, (postS.thenS sr p).imp fun vv H1 M1 A1 S1 f1 R1 p1 us rs => ?_⟩
  split at p1
  · rename_i hl
    have hl2 : us.length = is.length := by rw [← rs.length]; exact hl
    refine ⟨by rw [sz_eq, hl2]; show _ ≤ 16777216; omega, fun q hq => ?_⟩
    have fq : Fm H1 M1 A1 S1 (upd H1 q (.tup us)) M1 A1 S1 := Fm.new hq
    have Rq := R1.new (o := .tup us) hq
    exact ⟨q, us, rfl, SqT.of upd_same, hl2, names_bindV hl (rs.mono fq) ((sr.mono f1).mono fq) fun σ' s' => p1 _ _ _ σ' fq Rq s'⟩
  · exact p1.elim
theorem ss_par (is : List Nat) (es : CEs) : SS D k (.par is es) := fun X W Γ st w tk ow c => by
  cases st with
  | Assign ts v pos =>
    have z : ∃ tes kt pt vs k2 pt2, ts = [.Tuple tes kt pt] ∧ v = .Tuple vs k2 pt2 ∧ ((parB Γ is tes vs || parT Γ is tes vs) && chkEs D Γ es vs) = true := by
      unfold chkS at c
      split at c <;> simp_all
    obtain ⟨tes, kt, pt, vs, k2, pt2, rfl, rfl, c⟩ := z
    obtain ⟨c1, c2⟩ := ba c
    by_cases hT : parT Γ is tes vs = true
    · exact par_tup w tk hT c2
    replace c1 : parB Γ is tes vs = true := by
      cases q : parB Γ is tes vs with
      | true => rfl
      | false => rw [q, Bool.false_or] at c1; exact absurd c1 hT
    have hst := no_star c2
    have hN : X.N.Nodup := by rw [w.hN]; exact w.nd
    unfold parB at c1
    split at c1
    · rename_i i j x px y py a b _
      obtain ⟨d1, e1⟩ := ba c1
      obtain ⟨d2, e2⟩ := ba d1
      obtain ⟨d3, e3⟩ := ba d2
      obtain ⟨d4, e4⟩ := ba d3
      obtain ⟨d5, e5⟩ := ba d4
      obtain ⟨d6, e6⟩ := ba d5
      obtain ⟨d7, e7⟩ := ba d6
      obtain ⟨d8, e8⟩ := ba d7
      obtain ⟨d9, e9⟩ := ba d8
      have hx : X.env.scope.names.lookup x = some .local := by rw [w.scp]; exact of_decide_eq_true e5
      have hy : X.env.scope.names.lookup y = some .local := by rw [w.scp]; exact of_decide_eq_true e4
      refine (ps_par w.calm hN (by rw [w.hN]; exact of_decide_eq_true e7) (by rw [w.hN]; exact of_decide_eq_true e6) (of_decide_eq_true e9) hx hy (ses_all es X W Γ [a, b] w tk c2)
        (swp2 (kind_of w d9) hx hy e3 (of_decide_eq_true e8) hst (nb e2) (nb e1)) rfl).imp fun E σ H ⟨M, A, S, σd, R, sr, p⟩ => ?_
      simp only [evS] at p
      refine ⟨M, A, S, σd, R, sr, (postS.thenS sr p).imp fun vv H1 M1 A1 S1 f1 R1 p1 us rs => ?_⟩
      split at p1
      · rename_i hl
        obtain ⟨v1, v2, u1, u2, rfl, rfl, r1, r2⟩ := two_vs rs hl
        exact ⟨u1, u2, rfl, p1 H1 M1 A1 _ Fm.refl R1 (((sr.mono f1).set r1).set r2)⟩
      · exact p1.elim
    · rename_i i j l x px y py z pz a b cc _
      obtain ⟨d1, e1⟩ := ba c1
      obtain ⟨d2, e2⟩ := ba d1
      obtain ⟨d3, e3⟩ := ba d2
      obtain ⟨d4, e4⟩ := ba d3
      obtain ⟨d5, e5⟩ := ba d4
      obtain ⟨d6, e6⟩ := ba d5
      obtain ⟨d7, e7⟩ := ba d6
      obtain ⟨d8, e8⟩ := ba d7
      obtain ⟨d9, e9⟩ := ba d8
      obtain ⟨d10, e10⟩ := ba d9
      obtain ⟨d11, e11⟩ := ba d10
      obtain ⟨d12, e12⟩ := ba d11
      obtain ⟨d13, e13⟩ := ba d12
      obtain ⟨d14, e14⟩ := ba d13
      obtain ⟨d15, e15⟩ := ba d14
      obtain ⟨d16, e16⟩ := ba d15
      have hx : X.env.scope.names.lookup x = some .local := by rw [w.scp]; exact of_decide_eq_true e7
      have hy : X.env.scope.names.lookup y = some .local := by rw [w.scp]; exact of_decide_eq_true e6
      have hz : X.env.scope.names.lookup z = some .local := by rw [w.scp]; exact of_decide_eq_true e5
      refine (ps_par3 w.calm hN (by rw [w.hN]; exact of_decide_eq_true e10) (by rw [w.hN]; exact of_decide_eq_true e9) (by rw [w.hN]; exact of_decide_eq_true e8) (of_decide_eq_true e16) (of_decide_eq_true e15) (of_decide_eq_true e14) hx hy hz (ses_all es X W Γ [a, b, cc] w tk c2)
        (swp3 (kind_of w d16) hx hy hz e4 e3 (of_decide_eq_true e13) (of_decide_eq_true e12) (of_decide_eq_true e11) hst (nb e2) (nb e1)) rfl).imp fun E σ H ⟨M, A, S, σd, R, sr, p⟩ => ?_
      simp only [evS] at p
      refine ⟨M, A, S, σd, R, sr, (postS.thenS sr p).imp fun vv H1 M1 A1 S1 f1 R1 p1 us rs => ?_⟩
      split at p1
      · rename_i hl
        obtain ⟨v1, v2, v3, u1, u2, u3, rfl, rfl, r1, r2, r3⟩ := three_vs rs hl
        exact ⟨u1, u2, u3, rfl, p1 H1 M1 A1 _ Fm.refl R1 ((((sr.mono f1).set r1).set r2).set r3)⟩
      · exact p1.elim
    · cases c1
  | _ => exact no (by unfold chkS at c; cases c)
/-! ### loops -/
theorem ss_for (tg : Tg) (it : CI) {b : CSs} (ib : SSs D k b) : SS D k (.for_ tg it b) := fun X W Γ st w tk ow c => by
  cases st with
  | For t i body orelse pos =>
    cases orelse with
    | cons _ _ => exact no (by unfold chkS at c; cases c)
    | nil =>
      obtain ⟨c1, c2⟩ := ba (show (chkG Γ tg t && chkI D Γ it i && (tupB t || !needT it) && chkSs D Γ b body) = true by unfold chkS at c; exact c)
      obtain ⟨c3, c4⟩ := ba c1
      obtain ⟨c5, c6⟩ := ba c3
      obtain ⟨p1, p2⟩ := si_all it X W Γ t i w tk c6 c4
      refine (ps_for ow w.calm p1 (pg_of w c5) (ib X W Γ body w tk ow c2) p2).imp fun E σ H ⟨M, A, S, σd, R, sr, p⟩ => ?_
      simp only [evS] at p
      refine ⟨M, A, S, σd, R, sr, (postS.thenS sr p).imp fun items H1 M1 A1 S1 f1 R1 p1 J wk => ?_⟩
      generalize hf : (fun x σ S => match bindTg tg x σ with | some σ => evSs (evCall D.T k) (parOf D.T) b σ S | none => SR.bad) = f at p1
      let Wt : Nat → Nat → L2.St → Hp → Prop := fun i m σ H => m = items.length - i ∧ i ≤ items.length ∧ ∃ M A S σd, Rel X.K H M A S ∧ Sr X.K H M A σd σ ∧ Wk X.K J items H M ∧ postS X.K X.mg W E H M A S (loopF f (items.drop i) σd S)
      refine ⟨Wt, ⟨items.length, by simp, Nat.zero_le _, M1, A1, S1, σd, R1, sr.mono f1, wk, p1⟩, ?_⟩
      rintro i m σ H ⟨rfl, hi, M, A, S, σd, R, sr, wk, p⟩
      obtain ⟨w1, w2, w3⟩ := wk H M Stay.refl R.al
      by_cases hlt : i < items.length
      · refine .inr ⟨w1 i hlt, fun σ' H' => Wt (i + 1) (items.length - (i + 1)) σ' H', fun σ' H' h => ⟨_, by omega, h⟩, fun x H2 y => ?_⟩
        have hd : items[i]? = some items[i] := by simp [hlt]
        obtain ⟨rp, hh⟩ := w3 i _ hd x H2 y
        rw [List.drop_eq_getElem_cons hlt] at p
        have f2' : Fm H M A S H2 M A S ∧ Rel X.K H2 M A S := by
          rcases hh with rfl | ⟨T, o, e, rfl⟩
          · exact ⟨Fm.refl, R⟩
          · exact ⟨Fm.new e, R.new e⟩
        obtain ⟨fz, R2⟩ := f2'
        generalize items[i] = d at *
        unfold loopF at p
        have p := postS.from (K := X.K) p fz
        cases hb : bindTg tg d σd with
        | none => rw [show f d σd S = .bad by rw [← hf]; simp only [hb]] at p; exact p.elim
        | some σ' =>
          rw [show f d σd S = evSs (evCall D.T k) (parOf D.T) b σ' S by rw [← hf]; simp only [hb]] at p
          refine tg_bind hb rp (sr.mono fz) fun σ2 s2 => ⟨M, A, S, σ', R2, s2, ?_⟩
          refine (postS.bind p).mono fun σ3 H3 ⟨M3, A3, S3, σd3, R3, s3, f3, p3⟩ => ⟨rfl, hlt, M3, A3, S3, σd3, R3, s3, (wk.stay fz.st).stay f3.st, p3⟩
      · have e : i = items.length := by omega
        subst e
        rw [List.drop_length] at p
        exact .inl ⟨w2 _ (Nat.le_refl _), p H M A σ Fm.refl R sr⟩
  | _ => exact no (by unfold chkS at c; cases c)
theorem ss_whil (n : Nat) (t : CE) {b : CSs} (ib : SSs D k b) : SS D k (.whil n t b) := fun X W Γ st w tk ow c => by
  cases n with
  | zero => exact ss_never t b X W Γ st w tk ow c
  | succ n =>
    cases st with
    | While cc body orelse pos =>
      cases orelse with
      | cons _ _ => exact no (by unfold chkS at c; cases c)
      | nil =>
        obtain ⟨c1, c2⟩ := ba (show (chkE D Γ t cc && chkSs D Γ b body) = true by unfold chkS at c; exact c)
        refine (ps_while ow (st_all t X W Γ cc w tk c1) (ib X W Γ body w tk ow c2)).imp fun E σ H ⟨M, A, S, σd, R, sr, p⟩ => ?_
        simp only [evS] at p
        refine ⟨fun m σ H => ∃ M A S σd, Rel X.K H M A S ∧ Sr X.K H M A σd σ ∧ postS X.K X.mg W E H M A S (loopW (fun σ S => evT (evCall D.T k) (parOf D.T) σ t S) (fun σ S => evSs (evCall D.T k) (parOf D.T) b σ S) m σd S), ⟨n + 1, M, A, S, σd, R, sr, p⟩, ?_⟩
        rintro m σ H ⟨M, A, S, σd, R, sr, p⟩
        cases m with
        | zero => unfold loopW at p; exact p.elim
        | succ m =>
          unfold loopW at p
          refine ⟨M, A, S, σd, R, sr, (postS.thenS sr p).imp fun bb H1 M1 A1 S1 f1 R1 p1 => ?_⟩
          cases bb with
          | false => exact (show postS X.K X.mg W E H1 M1 A1 S1 (.nx σd S1) from p1) H1 M1 A1 σ Fm.refl R1 (sr.mono f1)
          | true =>
            have p1 : postS X.K X.mg W E H1 M1 A1 S1 ((evSs (evCall D.T k) (parOf D.T) b σd S1).bind fun σ S => loopW (fun σ S => evT (evCall D.T k) (parOf D.T) σ t S) (fun σ S => evSs (evCall D.T k) (parOf D.T) b σ S) m σ S) := p1
            refine ⟨fun σ' H' => ∃ M A S σd, Rel X.K H' M A S ∧ Sr X.K H' M A σd σ' ∧ postS X.K X.mg W E H' M A S (loopW (fun σ S => evT (evCall D.T k) (parOf D.T) σ t S) (fun σ S => evSs (evCall D.T k) (parOf D.T) b σ S) m σd S), fun σ' H' h => ⟨m, Nat.lt_succ_self _, h⟩, M1, A1, S1, σd, R1, sr.mono f1, ?_⟩
            exact (postS.bind p1).mono fun σ3 H3 ⟨M3, A3, S3, σd3, R3, s3, f3, p3⟩ => ⟨M3, A3, S3, σd3, R3, s3, p3⟩
    | _ => exact no (by unfold chkS at c; cases c)
theorem ss_no {c : CS} (h : ∀ Γ st, chkS D Γ c st = false) : SS D k c := fun X W Γ st w tk ow q => by rw [h] at q; cases q
mutual
theorem ss_all : ∀ c : CS, SS D k c
  | .set i e => ss_set i e
  | .par is es => ss_par is es
  | .unp is e => ss_unp is e
  | .sst o i e => ss_sst o i e
  | .expr e => ss_expr e
  | .ret e => ss_ret e
  | .retN => ss_retN
  | .ifs t a b => ss_ifs t (sss_all a) (sss_all b)
  | .for_ tg it b => ss_for tg it (sss_all b)
  | .whil n t b => ss_whil n t (sss_all b)
  | .aug i op e => ss_aug i op e
  | .raise_ c as => ss_no fun Γ st => by cases st <;> (unfold chkS; rfl)
  | .try_ b c i j => ss_no fun Γ st => by cases st <;> (unfold chkS; rfl)
  | .pass => ss_pass
theorem sss_all : ∀ c : CSs, SSs D k c
  | .nil => sss_nil
  | .cons s ss => sss_cons (ss_all s) (sss_all ss)
end
end
end KA
/-! KACall: defs keep their promises. -/
namespace KA
open PySem PySem.Spec PyProof.Rows L2
/-! ### behind a call -/
section
variable {K : PySem.W.Frag} {mg : Str → Option Value} {H H' : Hp} {M M' : Addr → Prop} {A A' : List Addr} {S S' : Sto} {a : Addr}
theorem take_at {α : Type} {l : List α} {n i : Nat} {x : α} (h : (l.take n)[i]? = some x) : i < n ∧ l[i]? = some x := by
  by_cases hi : i < n
  · rw [List.getElem?_take_of_lt hi] at h; exact ⟨hi, h⟩
  · rw [List.getElem?_eq_none (by rw [List.length_take]; omega)] at h; cases h
theorem Rel.take (r : Rel K H M A S) (n : Nat) : Rel K H M (A.take n) (S.take n) where
  len := by rw [List.length_take, List.length_take, r.len]
  nd := r.nd.sublist (List.take_sublist _ _)
  lst := fun l ds a e1 e2 => r.lst l ds a (take_at e1).2 (take_at e2).2
  frz := fun l ds a e1 e2 => r.frz l ds a (take_at e1).2 (take_at e2).2
  al := r.al
theorem Fm.take (f : Fm H M A S H' M' A' S') (hl : A.length = S.length) : Fm H M A S H' M' (A'.take S.length) (S'.take S.length) where
  st := f.st
  ex := fun a u e m n => let ⟨h1, h2, h3⟩ := f.ex a u e m n; ⟨h1, h2, fun ⟨l, ds, e1, e2⟩ => h3 ⟨l, ds, (take_at e1).2, (take_at e2).2⟩⟩
  pre := by
    obtain ⟨B, e⟩ := f.pre
    exact ⟨[], by rw [e, ← hl, List.take_left, List.append_nil]⟩
/-- one list is handed back -/
theorem Rel.hand (r : Rel K H M A S) {n l : Nat} {ds : List PD} (hn : n ≤ A.length) (hl : n ≤ l) (e1 : S[l]? = some (O.lst ds)) (e2 : A[l]? = some a) : Rel K H M (A.take n ++ [a]) (S.take n ++ [O.lst ds]) := by
  have lenA : (A.take n).length = n := by rw [List.length_take]; omega
  have lenS : (S.take n).length = n := by rw [List.length_take, ← r.len]; omega
  have cA : ∀ (j : Nat) (b : Addr), (A.take n ++ [a])[j]? = some b → (j < n ∧ A[j]? = some b) ∨ (j = n ∧ b = a) := fun j b e => by
    by_cases hj : j < n
    · rw [List.getElem?_append_left (by omega)] at e; exact .inl (take_at e)
    · rw [List.getElem?_append_right (by omega), lenA] at e
      have h0 : j - n = 0 := by
        have := (List.getElem?_eq_some_iff.mp e).1
        simp at this; omega
      rw [h0] at e
      exact .inr ⟨by omega, by simpa using e.symm⟩
  have cS : ∀ (j : Nat), j < n → (S.take n ++ [O.lst ds])[j]? = S[j]? := fun j hj => by
    rw [List.getElem?_append_left (by omega), List.getElem?_take_of_lt hj]
  have cN : (S.take n ++ [O.lst ds])[n]? = some (O.lst ds) := by rw [List.getElem?_append_right (by omega), lenS, Nat.sub_self]; rfl
  refine ⟨by simp [lenA, lenS], ?_, fun j ds' b f1 f2 => ?_, fun j ds' b f1 f2 => ?_, r.al⟩
  · refine List.nodup_append.mpr ⟨r.nd.sublist (List.take_sublist _ _), by simp, fun x hx y hy e => ?_⟩
    have hy' : y = a := by simpa using hy
    subst hy' e
    obtain ⟨j, hj⟩ := List.getElem?_of_mem hx
    obtain ⟨h1, h2⟩ := take_at hj
    have := nodup_at r.nd h2 e2
    omega
  · rcases cA j b f2 with ⟨hj, h⟩ | ⟨rfl, rfl⟩
    · rw [cS j hj] at f1
      exact r.lst j ds' b f1 h
    · rw [cN] at f1
      have : ds = ds' := by simpa using f1
      subst this
      exact r.lst l ds b e1 e2
  · rcases cA j b f2 with ⟨hj, h⟩ | ⟨rfl, rfl⟩
    · rw [cS j hj] at f1
      exact r.frz j ds' b f1 h
    · rw [cN] at f1
      simp at f1
theorem hand_at {α : Type} {l : List α} {n j : Nat} {x y : α} (hn : n ≤ l.length) (h : (l.take n ++ [x])[j]? = some y) : (j < n ∧ l[j]? = some y) ∨ (j = n ∧ y = x) := by
  have len : (l.take n).length = n := by rw [List.length_take]; omega
  by_cases hj : j < n
  · rw [List.getElem?_append_left (by omega)] at h; exact .inl (take_at h)
  · rw [List.getElem?_append_right (by omega), len] at h
    have h0 : j - n = 0 := by
      have := (List.getElem?_eq_some_iff.mp h).1
      simp at this; omega
    rw [h0] at h
    exact .inr ⟨by omega, by simpa using h.symm⟩
theorem Fm.len (f : Fm H M A S H' M' A' S') (r : Rel K H' M' A' S') (hl : A.length = S.length) : S.length ≤ A'.length ∧ S.length ≤ S'.length := by
  obtain ⟨B, e⟩ := f.pre
  have h1 := r.len
  have h2 : A'.length = A.length + B.length := by rw [e, List.length_append]
  omega
theorem Fm.hand (f : Fm H M A S H' M' A' S') (r : Rel K H' M' A' S') (hl : A.length = S.length) {l : Nat} {ds : List PD} (e1 : S'[l]? = some (O.lst ds)) (e2 : A'[l]? = some a) : Fm H M A S H' M' (A'.take S.length ++ [a]) (S'.take S.length ++ [O.lst ds]) where
  st := f.st
  ex := fun b u e m n => by
    obtain ⟨h1, h2, h3⟩ := f.ex b u e m n
    obtain ⟨z1, z2⟩ := f.len r hl
    refine ⟨h1, h2, fun ⟨j, ds', q1, q2⟩ => ?_⟩
    rcases hand_at z1 q2 with ⟨g1, g2⟩ | ⟨g1, g2⟩
    · rcases hand_at z2 q1 with ⟨g3, g4⟩ | ⟨g3, g4⟩
      · exact h3 ⟨j, ds', g4, g2⟩
      · exact absurd g1 (by rw [g3]; exact Nat.lt_irrefl _)
    · subst g2
      exact h3 ⟨l, ds, e1, e2⟩
  pre := by
    obtain ⟨B, e⟩ := f.pre
    exact ⟨[a], by rw [e, ← hl, List.take_left]⟩
/-- what a body's end is to the caller -/
theorem post_fin {W : WX} {E : XK} {Q : VK} {m : Bool} {r : SR} (R : Rel K H M A S) (hW : ∀ c d σ H, E c d H → W c d σ H)
    (h : post K mg E H M A S (finD m S.length r) fun v H' M' A' _ => ∀ u, Vr K H' M' A' v u → Q u H') : postS K mg W { nx := fun _ H' => Q .non H', rt := Q } H M A S r := by
  have hl := R.len
  cases r with
  | bad => exact h
  | nx σd S' => exact fun H' M' A' σ f R' s => h H' M' _ (f.take hl) (R'.take _) _ Rp.non
  | exc e σd S' => exact fun H' M' A' σ c d f R' s x => hW _ _ _ _ (h H' M' _ c d (f.take hl) (R'.take _) x)
  | rt v S' =>
    intro H' M' A' u f R' hu
    obtain ⟨z1, z2⟩ := f.len R' hl
    cases v with
    | d x => exact h H' M' _ (f.take hl) (R'.take _) u hu
    | ex e => exact hu.elim
    | loc l =>
      obtain ⟨a, ea, rfl⟩ := hu
      unfold finD at h
      dsimp only at h
      by_cases hlt : l < S.length
      · rw [if_pos hlt] at h
        exact h H' M' _ (f.take hl) (R'.take _) _ ⟨a, by rw [List.getElem?_take_of_lt hlt]; exact ea, rfl⟩
      · rw [if_neg hlt] at h
        have lt : l < S'.length := by rw [← R'.len]; exact (List.getElem?_eq_some_iff.mp ea).1
        rcases sto_cases lt with ⟨ds, q⟩ | ⟨ds, q⟩
        · rw [q] at h
          dsimp only at h
          cases m with
          | true =>
            rw [if_pos rfl] at h
            refine h H' M' _ (f.hand R' hl q ea) (R'.hand z1 (by omega) q ea) _ ⟨a, ?_, rfl⟩
            have : (A'.take S.length).length = S.length := by rw [List.length_take]; omega
            rw [List.getElem?_append_right (by omega), this, Nat.sub_self]; rfl
          | false =>
            rw [if_neg Bool.false_ne_true] at h
            obtain ⟨R2, f2, rp⟩ := R'.still q ea
            have e : (S'.set l (O.frz ds)).take S.length = S'.take S.length := by
              rw [List.take_set_of_le (by omega)]
            have h1 := (f.trans f2).take hl
            have h2 := R2.take S.length
            rw [e] at h1 h2
            exact h H' _ _ h1 h2 _ rp
        · rw [q] at h
          exact h H' M' _ (f.take hl) (R'.take _) _ (R'.frz l ds a q ea).1
end
end KA
/-! KACall2: every def of a law's text keeps its promise; the law's end. -/
namespace KA
open PySem PySem.Spec PyProof.Rows L2
/-- a def of the text, by its body: around it no object is being written -/
theorem fnG_of {P : Program} {w : World} {K : PySem.W.Frag} {mg : Str → Option Value} {base : Heap} {k : Nat} {f : Addr} {x qual : Str} {params : Arguments} {body : List Stmt} {scope : Scope} {fd : FuncData} {N ps : List Str} {sp : Sp}
    (F : FunD K x qual params body scope [] [] f fd) (S : FnScope N ps scope) (len : ∀ vs H Q E, sp vs H Q E → vs.length = ps.length)
    (hbody : ∀ (cdv : Value) (A : Around) (outer : List Env) (s : Shared) (H : Hp) (vs : List V) (Q : VK) (E : XK), Room k (A.deeper (envOfC qual scope s.heap.objs.size f cdv)) → A.guards = some [] → sp vs H Q E →
      ∃ t, PSs (cxOf (L2.CX P w) P w K mg base N qual scope f cdv A outer s H E) body t ∧ t { nx := fun _ H' => Q .non H', rt := Q } (L2.start N vs) H) : FnG P w K mg base (k + 1) f fd ps sp := by
  obtain ⟨oc, od, dV, kV, doc, pm, an, cdv, ct, osl, rfl, lk, hcd, _, _⟩ := F.ex
  refine ⟨len, fun A outer s H args us vs Q E hr hG e0 hb r hsp => ?_⟩
  have hl := len _ _ _ _ hsp
  have inH : ∀ (b : Addr) (o : Obj), base.get? b = some o → s.heap.get? b = some o := fun b o e => (e0.bs b o e).1
  have KX : K.In s.heap := e0.mod.kin.keeps inH
  have lim : s.heap.NoLimit := e0.mod.nolimit.keeps inH
  have cells : ∀ y ∈ ps.zip us, scope.names.lookup y.1 = some .local ∨ (scope.names.lookup y.1 = some .cell ∧ ((cellsFrom (s.heap.objs.size + 1) scope.names []).lookup y.1).isSome = true) := fun y hy => by
    obtain ⟨n, v⟩ := y
    rcases S.par n (List.of_mem_zip hy).1 with q | q
    · exact .inl q
    · exact .inr ⟨q, PySem.W.cellsFrom_some _ _ _ (.inl q)⟩
  refine codeAny_call_function hr.depth (KX _ _ lk) rfl S.co S.gen rfl (PySem.W.codeRec_of KX hcd) (hb _ _ _ _ ?_)
  refine wpAny_newFunctionEnv_cells S.kind cells fun env he s1 hin => ?_
  subst he
  obtain ⟨t, ht, hq⟩ := hbody cdv A outer s H vs Q E (hr.deeper _) hG hsp
  have I := inv_start (CX := L2.CX P w) (P := P) (w := w) (E := E) S hr.hd e0 hl r hin
  refine ⟨lim.keeps hin.toInCall.keep, codeAny_func (wpAny_mono (ht.run [] s1 (L2.start N vs) H _ I hq) (fun fl s' hs => ?_) fun e s' hs => hs)⟩
  cases fl with
  | ret u =>
    obtain ⟨v, σ', H', J, rv, q⟩ := hs
    exact ⟨v, H', J.os, J.bare, J.base, J.hok, rv, q⟩
  | next =>
    obtain ⟨σ', H', J, q⟩ := hs
    exact ⟨V.non, H', J.os, J.bare, J.base, J.hok, rfl, q⟩
  | brk =>
    obtain ⟨_, _, _, q⟩ := hs
    exact False.elim q
  | cont =>
    obtain ⟨_, _, _, q⟩ := hs
    exact False.elim q
/-- a def's datum is the text's -/
structure DfOk (D : Dom) (K : PySem.W.Frag) (mg : Str → Option Value) (f : Nat) (d : FD) : Prop where
  np : d.np ≤ d.N.length
  ex : ∃ (params : Arguments) (body : List Stmt) (scope : Scope) (fa : Addr) (fd : FuncData) (qual : Str), mg d.name = some (.ref fa) ∧ FunD K d.name qual params body scope [] [] fa fd ∧ FnScope d.N (d.N.take d.np) scope ∧
    chkSs D ⟨d.N, scope, fun _ => true⟩ d.body body = true ∧ Binds K fd (d.N.take d.np) [] ∧ ∀ ks, D.KW.contains (f, ks) = true → KwB K fd (d.N.take d.np) ks
/-- a law's text -/
structure LawOk (D : Dom) (K : PySem.W.Frag) (mg : Str → Option Value) : Prop where
  defs : ∀ f d, D.T f = some d → DfOk D K mg f d
  blt : ∀ x, D.B.contains x = true → mg x = none
  con : ∀ x d, D.const x d = true → ∃ u v, mg x = some u ∧ RelV v u ∧ ∀ H M, Rp K H M d v
section
variable {D : Dom} {P : Program} {w : World} {K : PySem.W.Frag} {mg : Str → Option Value} {base : Heap}
def FnsAt (D : Dom) (P : Program) (w : World) (K : PySem.W.Frag) (mg : Str → Option Value) (base : Heap) (k : Nat) : Prop := ∀ f d, D.T f = some d → d.np ≤ d.N.length ∧ ∃ fa fd, mg d.name = some (.ref fa) ∧ PySem.W.keepIn K (.ref fa) = true ∧ FnG P w K mg base k fa fd (d.N.take d.np) (spC D K mg k f (d.N.take d.np).length) ∧
  Binds K fd (d.N.take d.np) [] ∧ ∀ ks, D.KW.contains (f, ks) = true → KwB K fd (d.N.take d.np) ks
theorem spC_len {k f n : Nat} {ps : List Str} (h : ps.length = n) (vs : List V) (H : Hp) (Q : VK) (E : XK) (q : spC D K mg k f n vs H Q E) : vs.length = ps.length := by
  obtain ⟨_, _, _, _, _, _, e, _⟩ := q
  rw [e, h]
theorem sr_start {H : Hp} {M : Addr → Prop} {A : List Addr} {N : List Str} {args : List VV} {vs : List V} (r : Vs K H M A args vs) : Sr K H M A (startD N.length args) (L2.start N vs) := by
  have hl := r.length
  refine ⟨by unfold startD L2.start; simp [hl], fun i v e => ?_⟩
  unfold startD at e
  by_cases hi : i < args.length
  · rw [List.getElem?_append_left (by simpa using hi), List.getElem?_map] at e
    cases q : args[i]? with
    | none => rw [q] at e; cases e
    | some v' =>
      rw [q] at e
      have : v' = v := by simpa using e
      subst this
      obtain ⟨u, hu, ru⟩ := r.get q
      refine ⟨u, ?_, ru⟩
      unfold L2.start
      rw [List.getElem?_append_left (by rw [List.length_map, ← hl]; exact hi), List.getElem?_map, hu]; rfl
  · rw [List.getElem?_append_right (by simpa using hi), List.getElem?_replicate] at e
    split at e <;> cases e
theorem fns_all (L : LawOk D K mg) : ∀ k, FnsAt D P w K mg base k
  | 0 => fun f d hd => by
    obtain ⟨hnp, params, body, scope, fa, fd, qual, hm, F, S, _, hb, hk⟩ := L.defs f d hd
    exact ⟨hnp, fa, fd, hm, F.kp, ⟨spC_len rfl, fun A outer s H args us vs Q E hr hG e0 hbb r ⟨_, _, _, _, _, _, _, p⟩ => by
      simp only [evCall] at p
      exact p.elim⟩, hb, hk⟩
  | k + 1 => fun f d hd => by
    have ih := fns_all L k
    obtain ⟨hnp, params, body, scope, fa, fd, qual, hm, F, S, hc, hb, hk⟩ := L.defs f d hd
    refine ⟨hnp, fa, fd, hm, F.kp, fnG_of F S (spC_len rfl) fun cdv A outer s H vs Q E hr hG hsp => ?_, hb, hk⟩
    obtain ⟨M, A', S', args, R, rv, hlen, p⟩ := hsp
    have tk : Takes (cxOf (L2.CX P w) P w K mg base d.N qual scope fa cdv A outer s H E) (fun cls dd _ H => E cls dd H) := takes_of (E₁ := fun e' s'' => L2.CX P w outer H s E e' s'') rfl rfl rfl rfl
    have ow : Ow (cxOf (L2.CX P w) P w K mg base d.N qual scope fa cdv A outer s H E) := passes_of (K := fun e s'' => L2.CX P w outer H s E e s'') (E₁ := fun e' s'' => L2.CX P w outer H s E e' s'') rfl
    have wd : Wd D k ⟨d.N, scope, fun _ => true⟩ (cxOf (L2.CX P w) P w K mg base d.N qual scope fa cdv A outer s H E) := ⟨rfl, S.nd, rfl, fun _ _ => rfl, rfl, hr, hG, ih, L.blt, L.con⟩
    refine ⟨_, sss_all d.body _ _ _ _ wd tk ow hc, M, A', S', startD d.N.length args, R, sr_start rv, ?_⟩
    unfold evCall at p
    rw [hd] at p
    dsimp only at p
    split at p
    · exact post_fin R (fun _ _ _ _ h => h) p
    · exact p.elim
/-- a law: the evaluator's answer is the text's -/
theorem law_end {k f : Nat} {d : FD} {fa a : Addr} {x : Str} {mb : Str → Option Value} {s₁ : Shared} {vs : List Value} {ns : List Int} (L : LawOk D K mg) (hd : D.T f = some d) (hp : d.N.take d.np = [x]) (hr : Room k callerA)
    (ev : ∃ S, evCall D.T k f [.d (.list (ns.map .int))] [] = .ok (.d (.bool true)) S)
    (KX : K.In s₁.heap) (hns : s₁.heap.Ns mainGlobals mg) (hb : s₁.heap.Ns builtinsNs mb) (hbb : ∀ x : Str, x ≠ "__name__" → mb x = bootBuiltins x) (hlim : s₁.heap.NoLimit) (hg : s₁.gens = #[]) (hm : mg d.name = some (.ref fa))
    (ha : s₁.heap.get? a = some { cls := .type "list", data := .seq vs.toArray }) (hi : IntsAre vs ns) (hl : ns.length ≤ SZ) :
    codeAny (model P w) callerA (.call (.ref fa) ⟨[.ref a], []⟩) (fun r s' => r = .ok (.ret (.bool true)) ∧ OldK s₁.heap s'.heap ∧ s'.os = s₁.os ∧ AllBare s'.gens) s₁ := by
  have rv := vals_ints hi
  have hlen : ns.length ≤ sizeLine := by rw [sz_eq]; exact hl
  have intR : ∀ {H : Hp} (l : List Int), Rps K H (fun _ => False) (l.map .int) (l.map V.int) := fun {H} l => by
    induction l with
    | nil => exact .nil
    | cons i r ih => exact .cons (.int i) ih
  -- from any abstract heap that tracks at most the script, as an object that stays
  have core : ∀ H : Hp, (∀ b, H b ≠ none → b = a ∧ H b = some (.frz { cls := .type "list", data := .seq vs.toArray } (.lst (ns.map V.int))) ∧ K.lookup a = none) → SqFL K H (fun _ => False) a (ns.map V.int) →
      codeAny (model P w) callerA (.call (.ref fa) ⟨[.ref a], []⟩) (fun r s' => r = .ok (.ret (.bool true)) ∧ OldK s₁.heap s'.heap ∧ s'.os = s₁.os ∧ AllBare s'.gens) s₁ := fun H hH hS => by
    have base_of : ∀ {b : Addr} {o : Obj}, s₁.heap.get? b = some o → H b = none → (hidT s₁.heap H).get? b = some o := fun e n => hidT_get e n
    have noD : ∀ {b : Addr} {o : Obj} {es : Array DictEntry} {ep : Nat}, s₁.heap.get? b = some o → o.data = .dict es ep → H b = none := fun {b o es ep} e dd => by
      cases q : H b with
      | none => rfl
      | some u =>
        obtain ⟨rfl, _, _⟩ := hH b (by rw [q]; simp)
        rw [ha] at e; cases e
        cases (show Data.seq vs.toArray _ = Data.dict es ep from dd)
    have nsK : ∀ {b : Addr} {m : Str → Option Value}, s₁.heap.Ns b m → (hidT s₁.heap H).Ns b m := fun {b m} ⟨o, es, ep, e, dd, r⟩ => ⟨o, es, ep, base_of e (noD e dd), dd, r⟩
    have hKb : K.In (hidT s₁.heap H) := fun b o e => base_of (KX b o e) (by
      cases q : H b with
      | none => rfl
      | some u =>
        obtain ⟨rfl, _, h3⟩ := hH b (by rw [q]; simp)
        rw [h3] at e; cases e)
    have hM : Mod K mg (hidT s₁.heap H) := ⟨hKb, nsK hns, ⟨mb, nsK hb, hbb⟩, let ⟨mc, h1, h2⟩ := hlim; ⟨mc, nsK h1, h2⟩⟩
    have hok : HOk P w H s₁.heap := fun b u z => by
      obtain ⟨rfl, h2, _⟩ := hH b (by rw [z]; simp)
      rw [h2] at z; cases z
      exact ⟨ha, by rw [List.length_map]; exact hlen, vs, _, rv, ha⟩
    have e0 : Env0 P w K mg (hidT s₁.heap H) callerA [] s₁ H := ⟨rfl, hM, fun b o e => of_hidT e, Nat.le_of_eq (hidT_size _ _), trivial, fun b hb => absurd (show b ∈ ([] : List Addr) from hb) (by simp), hok, .of_eq hg⟩
    obtain ⟨hnp, fa', fd', hm', hk', F, hbi, _⟩ := fns_all (P := P) (w := w) (base := hidT s₁.heap H) L k f d hd
    rw [hm] at hm'
    cases hm'
    obtain ⟨Se, ev⟩ := ev
    have hbs : BindsTo s₁ fd' ⟨[.ref a], []⟩ ((d.N.take d.np).zip [.ref a]) := by
      have := hbi s₁ [.ref a] KX (by rw [hp]; rfl)
      simpa using this
    refine codeAny_mono (F.run callerA [] s₁ H ⟨[.ref a], []⟩ [.ref a] [.ref a] (fun v _ => v = .bl true) (fun _ _ _ => False) hr rfl e0 hbs (.cons rfl .nil)
      ⟨fun _ => False, [], [], [.d (.list (ns.map .int))], ⟨rfl, List.nodup_nil, fun l ds b e => by simp at e, fun l ds b e => by simp at e, fun b z => z.elim⟩, .cons (Rp.lst hS (intR ns)) .nil, by rw [hp]; rfl, ?_⟩) fun r s' h => ?_
    · rw [ev]
      intro H' M' A' f' R' u hu
      cases (show Rp K H' M' (.bool true) u from hu)
      rfl
    · cases r with
      | error e =>
        obtain ⟨_, _, _, _, _, _, _, _, _, _, _, _, z⟩ := h
        exact z.elim
      | ok fl =>
        cases fl with
        | next => exact False.elim h
        | brk => exact False.elim h
        | cont => exact False.elim h
        | ret u =>
          obtain ⟨v, H', os, bare, un, hok', r', q⟩ := h
          have q' : v = .bl true := q
          subst q'
          obtain rfl : u = Value.bool true := r'
          refine ⟨rfl, OldK.of_keep fun b o e => ?_, os, bare⟩
          cases q : H b with
          | none => exact un.keep b o e q (by intro z; exact absurd (show b ∈ ([] : List Addr) from z) (by simp)) (by simp)
          | some u =>
            obtain ⟨rfl, h2, _⟩ := hH b (by rw [q]; simp)
            have z2 := un.frzs b _ _ h2
            obtain ⟨e2, _⟩ := hok' b _ z2
            rw [ha] at e; cases e
            exact e2
  cases hk : K.lookup a with
  | some o =>
    have e := KX a o hk
    rw [ha] at e
    cases e
    refine core (fun _ => none) (fun b z => absurd rfl z) ⟨.inr (.inr ⟨_, vs.toArray, _, hk, rfl, rfl, rfl, by rw [List.size_toArray, hi.length]; exact hlen, by simpa using rv⟩), by rw [List.length_map]; exact hl⟩
  | none =>
    refine core (fun b => if b = a then some (.frz { cls := .type "list", data := .seq vs.toArray } (.lst (ns.map V.int))) else none) (fun b z => ?_) ⟨.inl ⟨.inr ⟨_, if_pos rfl⟩, fun z => z⟩, by rw [List.length_map]; exact hl⟩
    by_cases hb : b = a
    · exact ⟨hb, if_pos hb, hk⟩
    · exact absurd (if_neg hb) z
/-- a law over a head by facts -/
theorem walk_ev {l : PySem.W.OpenLaw} {n k f : Nat} {q : Program} {loose : List Str} {XP : (Str → Option Value) → Heap → Prop} {YP : World → Heap → Prop} {dr : DefRec} {d : FD} {x : Str}
    (hn : l.most = some n) (hn2 : n ≤ SZ) (hdf : dr.params.defaults = []) (hr : Room k callerA) (hd : D.T f = some d) (hp : d.N.take d.np = [x]) (hnm : dr.name = d.name)
    (F : ∀ (w : World) (mg : Str → Option Value) (h : Heap), YP w h → h.Ns mainGlobals mg → ∃ K : PySem.W.Frag, K.In h ∧ LawOk D K mg)
    (ev : ∀ ns : List Int, ns.length ≤ n → ∃ S, evCall D.T k f [.d (.list (ns.map .int))] [] = .ok (.d (.bool true)) S) :
    PySem.W.WalkO q loose XP YP l.row.toRowW dr [] (fun f vs => PySem.call f vs) := by
  refine Att.attach_call hn hdf fun w s₀ s₁ mg mb fa o pm cd doc a vs ns G Y ho hd' hcd hmg hobj hints hlen hg => ?_
  obtain ⟨K, KX, L⟩ := F w mg _ Y G.T.g
  rw [hnm] at hmg
  exact law_end L hd hp hr (ev ns hlen) KX G.T.g G.T.b G.T.builtins G.T.nolimit hg hmg hobj hints (Nat.le_trans hlen hn2)
end
end KA
/-! KALaw: a law's text by facts. -/
namespace KA
open PySem PySem.Spec PyProof.Rows L2
theorem look_mem {α β : Type} [BEq α] [LawfulBEq α] {x : α} {v : β} : ∀ {l : List (α × β)}, l.lookup x = some v → (x, v) ∈ l
  | [], h => by cases h
  | (y, u) :: r, h => by
    rw [List.lookup_cons] at h
    cases e : x == y with
    | true =>
      rw [e] at h
      cases h
      rw [eq_of_beq e]
      exact List.mem_cons_self
    | false =>
      rw [e] at h
      exact List.mem_cons_of_mem _ (look_mem h)
theorem all0 {α : Type} {p : α → Prop} : ∀ y ∈ ([] : List α), p y := by simp
theorem allc {α : Type} {p : α → Prop} {a : α} {l : List α} (h : p a) (t : ∀ y ∈ l, p y) : ∀ y ∈ a :: l, p y := List.forall_mem_cons.mpr ⟨h, t⟩
/-- a table of defs -/
def tabOf (l : List (Nat × FD)) : Tab := fun f => l.lookup f
def domOf (l : List (Nat × FD)) (C : List (Str × PD)) (B : List Str) (KW : List (Nat × List Str)) : Dom := ⟨tabOf l, C, B, KW⟩
def ConOk (K : PySem.W.Frag) (mg : Str → Option Value) (q : Str × PD) : Prop := ∃ u v, mg q.1 = some u ∧ RelV v u ∧ ∀ H M, Rp K H M q.2 v
theorem con_int {K : PySem.W.Frag} {mg : Str → Option Value} {x : Str} {i : Int} (h : ∃ t, mg x = some (.int i t)) : ConOk K mg (x, .int i) := let ⟨t, e⟩ := h; ⟨_, .int i, e, ⟨t, rfl⟩, fun _ _ => .int i⟩
theorem con_str {K : PySem.W.Frag} {mg : Str → Option Value} {x i : Str} (h : ∃ t, mg x = some (.str i t)) : ConOk K mg (x, .str i) := let ⟨t, e⟩ := h; ⟨_, .str i, e, ⟨t, rfl⟩, fun _ _ => .str i⟩
theorem const_eq {D : Dom} {x : Str} {d : PD} (h : D.const x d = true) : D.C.lookup x = some d := by
  unfold Dom.const at h
  split at h
  · rename_i e
    rw [e, of_decide_eq_true h]
  · rename_i e
    rw [e, of_decide_eq_true h]
  · cases h
theorem lawOk_of {K : PySem.W.Frag} {mg : Str → Option Value} {l : List (Nat × FD)} {C : List (Str × PD)} {B : List Str} {KW : List (Nat × List Str)} (hl : ∀ p ∈ l, DfOk (domOf l C B KW) K mg p.1 p.2) (hB : ∀ x ∈ B, mg x = none) (hC : ∀ q ∈ C, ConOk K mg q) : LawOk (domOf l C B KW) K mg where
  defs := fun f d h => hl (f, d) (look_mem h)
  blt := fun x h => hB x (List.contains_iff_mem.mp h)
  con := fun x d h => hC (x, d) (look_mem (const_eq h))
/-- keywords: every way a def is called by them -/
theorem kw_all {KW : List (Nat × List Str)} {f : Nat} {kf : List (List Str)} {p : List Str → Prop} (e : (KW.filterMap fun q => if q.1 = f then some q.2 else none) = kf) (h : ∀ ks ∈ kf, p ks) : ∀ ks, KW.contains (f, ks) = true → p ks := fun ks hk => by
  refine h ks ?_
  rw [← e]
  exact List.mem_filterMap.mpr ⟨(f, ks), List.contains_iff_mem.mp hk, by simp⟩
/-- a def is called by keywords -/
theorem kwB_of {K : PySem.W.Frag} {x qual : Str} {params : Arguments} {body : List Stmt} {scope : Scope} {f : Addr} {fd : FuncData} {ps ks : List Str} (F : FunD K x qual params body scope [] [] f fd) (hs : ∀ p ∈ ps, p ∈ ks)
    (h : ∀ (kV doc pm : Value) (an : Option Addr) (cdv ct : Value) (ws : List Value), ws.length = ks.length → bindArgs (PySem.W.fnOf x qual params body scope .none kV doc pm an cdv ct) ⟨[], ks.zip ws⟩ = pure (ps.zip (kwG ps ks ws))) : KwB K fd ps ks := by
  obtain ⟨oc, od, dV, kV, doc, pm, an, cdv, ct, osl, rfl, lk, hcd, hD, hK⟩ := F.ex
  rcases hD with ⟨_, rfl⟩ | ⟨e, _⟩
  · exact ⟨hs, fun s ws _ hl => .of_eq (h kV doc pm an cdv ct ws hl)⟩
  · exact absurd rfl e
end KA
namespace KA
open PySem
def c_is_integer : FD where
  name := (Str.ofString "is_integer")
  N := [(Str.ofString "thing")]
  np := 1
  retM := false
  body := (.cons (.ret (.band (.cons (.isin (.var 0) [(.ty "int")]) (.cons (.bnot (.isin (.var 0) [(.ty "bool")])) .nil)))) .nil)
def c_is_within : FD where
  name := (Str.ofString "is_within")
  N := [(Str.ofString "thing"), (Str.ofString "least"), (Str.ofString "most")]
  np := 3
  retM := false
  body := (.cons (.ret (.band (.cons (.call 1 (.cons (.var 0) .nil)) (.cons (.cmp2 .LtE .LtE (.var 1) (.var 0) (.var 2)) .nil)))) .nil)
def c_is_row : FD where
  name := (Str.ofString "is_row")
  N := [(Str.ofString "thing"), (Str.ofString "least"), (Str.ofString "most")]
  np := 3
  retM := false
  body := (.cons (.ret (.band (.cons (.isin (.var 0) [(.ty "tuple")]) (.cons (.cmp2 .LtE .LtE (.var 1) (.blt .len (.cons (.var 0) .nil)) (.var 2)) .nil)))) .nil)
def c_are_within : FD where
  name := (Str.ofString "are_within")
  N := [(Str.ofString "thing"), (Str.ofString "count"), (Str.ofString "least"), (Str.ofString "most"), (Str.ofString "one")]
  np := 4
  retM := false
  body := (.cons (.ret (.band (.cons (.call 3 (.cons (.var 0) (.cons (.var 1) (.cons (.var 1) .nil)))) (.cons (.blt .all_ (.cons (.comp false (.call 2 (.cons (.var 4) (.cons (.var 2) (.cons (.var 3) .nil)))) (.mk (.nm 4) (.seq (.var 0)) .none)) .nil)) .nil)))) .nil)
def c_is_ascending : FD where
  name := (Str.ofString "is_ascending")
  N := [(Str.ofString "things"), (Str.ofString "one"), (Str.ofString "other")]
  np := 1
  retM := false
  body := (.cons (.ret (.blt .all_ (.cons (.comp false (.cmp .Lt (.var 1) (.var 2)) (.mk (.tp [1, 2]) (.zip (.var 0) (.slc (.var 0) (.some (.con (.int 1))) .none)) .none)) .nil))) .nil)
def c_is_make : FD where
  name := (Str.ofString "is_make")
  N := [(Str.ofString "thing")]
  np := 1
  retM := false
  body := (.cons (.ret (.band (.cons (.call 3 (.cons (.var 0) (.cons (.con (.int 2)) (.cons (.con (.int 2)) .nil)))) (.cons (.call 2 (.cons (.sub (.var 0) (.con (.int 0))) (.cons (.con (.int 1)) (.cons (.gcon (Str.ofString "MOST_CHAMBERS") (.int 5)) .nil)))) (.cons (.call 2 (.cons (.sub (.var 0) (.con (.int 1))) (.cons (.con (.int 2)) (.cons (.gcon (Str.ofString "MOST_DEPTHS") (.int 5)) .nil)))) .nil))))) .nil)
def c_need_make_2 : FD where
  name := (Str.ofString "need_make")
  N := [(Str.ofString "make")]
  np := 1
  retM := false
  body := (.cons (.ifs (.bnot (.call 6 (.cons (.var 0) .nil))) (.cons (.whil 0 (.con .none) .nil) .nil) .nil) .nil)
def c_is_key_form : FD where
  name := (Str.ofString "is_key_form")
  N := [(Str.ofString "make"), (Str.ofString "thing")]
  np := 2
  retM := false
  body := (.cons (.ret (.call 4 (.cons (.var 1) (.cons (.sub (.var 0) (.con (.int 0))) (.cons (.con (.int 0)) (.cons (.bin .Sub (.sub (.var 0) (.con (.int 1))) (.con (.int 1))) .nil)))))) .nil)
def c_are_cuts : FD where
  name := (Str.ofString "are_cuts")
  N := [(Str.ofString "make"), (Str.ofString "thing"), (Str.ofString "one")]
  np := 2
  retM := false
  body := (.cons (.ret (.band (.cons (.call 3 (.cons (.var 1) (.cons (.con (.int 1)) (.cons (.sub (.var 0) (.con (.int 1))) .nil)))) (.cons (.blt .all_ (.cons (.comp false (.call 2 (.cons (.var 2) (.cons (.con (.int 0)) (.cons (.bin .Sub (.sub (.var 0) (.con (.int 1))) (.con (.int 1))) .nil)))) (.mk (.nm 2) (.seq (.var 1)) .none)) .nil)) (.cons (.call 5 (.cons (.var 1) .nil)) .nil))))) .nil)
def c_is_lock_form : FD where
  name := (Str.ofString "is_lock_form")
  N := [(Str.ofString "make"), (Str.ofString "thing"), (Str.ofString "cuts")]
  np := 2
  retM := false
  body := (.cons (.ret (.band (.cons (.call 3 (.cons (.var 1) (.cons (.sub (.var 0) (.con (.int 0))) (.cons (.sub (.var 0) (.con (.int 0))) .nil)))) (.cons (.blt .all_ (.cons (.comp false (.call 9 (.cons (.var 0) (.cons (.var 2) .nil))) (.mk (.nm 2) (.seq (.var 1)) .none)) .nil)) .nil)))) .nil)
def c_need_key_2 : FD where
  name := (Str.ofString "need_key")
  N := [(Str.ofString "make"), (Str.ofString "key")]
  np := 2
  retM := false
  body := (.cons (.ifs (.bnot (.call 8 (.cons (.var 0) (.cons (.var 1) .nil)))) (.cons (.whil 0 (.con .none) .nil) .nil) .nil) .nil)
def c_need_lock_2 : FD where
  name := (Str.ofString "need_lock")
  N := [(Str.ofString "make"), (Str.ofString "lock")]
  np := 2
  retM := false
  body := (.cons (.expr (.call 62 (.cons (.var 0) .nil))) (.cons (.ifs (.bnot (.call 10 (.cons (.var 0) (.cons (.var 1) .nil)))) (.cons (.whil 0 (.con .none) .nil) .nil) .nil) .nil))
def c_does_open : FD where
  name := (Str.ofString "does_open")
  N := [(Str.ofString "lock"), (Str.ofString "key"), (Str.ofString "cut"), (Str.ofString "cuts")]
  np := 2
  retM := false
  body := (.cons (.ret (.blt .all_ (.cons (.comp false (.cmp .In (.var 2) (.var 3)) (.mk (.tp [2, 3]) (.zip (.var 1) (.var 0)) .none)) .nil))) .nil)
def c_opens_2 : FD where
  name := (Str.ofString "opens")
  N := [(Str.ofString "make"), (Str.ofString "lock"), (Str.ofString "key")]
  np := 3
  retM := false
  body := (.cons (.expr (.call 64 (.cons (.var 0) (.cons (.var 1) .nil)))) (.cons (.expr (.call 63 (.cons (.var 0) (.cons (.var 2) .nil)))) (.cons (.ret (.call 13 (.cons (.var 1) (.cons (.var 2) .nil)))) .nil)))
def c_apart_in_2 : FD where
  name := (Str.ofString "apart_in")
  N := [(Str.ofString "make"), (Str.ofString "lock"), (Str.ofString "key"), (Str.ofString "chamber"), (Str.ofString "cuts")]
  np := 3
  retM := false
  body := (.cons (.expr (.call 64 (.cons (.var 0) (.cons (.var 1) .nil)))) (.cons (.expr (.call 63 (.cons (.var 0) (.cons (.var 2) .nil)))) (.cons (.ret (.blt .tuple_ (.cons (.comp false (.var 3) (.mk (.tp [3, 4]) (.enum (.var 1)) (.some (.cmp .NotIn (.sub (.var 2) (.var 3)) (.var 4))))) .nil))) .nil)))
def c_law_feed : FD where
  name := (Str.ofString "_law_feed")
  N := [(Str.ofString "script"), (Str.ofString "k"), (Str.ofString "cell")]
  np := 2
  retM := true
  body := (.cons (.set 2 (.bin .Add (.bin .Mult (.con (.int 613)) (.var 1)) (.bin .Mult (.con (.int 3)) (.blt .sum (.cons (.slc (.var 0) .none (.some (.con (.int 3)))) .nil))))) (.cons (.ifs (.cmp .Lt (.var 1) (.blt .len (.cons (.var 0) .nil))) (.cons (.set 2 (.sub (.var 0) (.var 1))) .nil) .nil) (.cons (.ret (.lst true (.cons (.blt .max_ (.cons (.con (.int 0)) (.cons (.bin .Sub (.var 2) (.bin .Pow (.con (.int 10)) (.con (.int 18)))) .nil))) (.cons (.bin .Mod (.blt .int_ (.cons (.bin .Add (.bin .Add (.bin .Mult (.var 2) (.con (.int 31))) (.bin .Mult (.con (.int 17)) (.var 1))) (.con (.int 5))) .nil)) (.bin .Add (.bin .Pow (.con (.int 10)) (.con (.int 38))) (.con (.int 133)))) (.cons (.con (.int 0)) .nil))))) .nil)))
def c_law_draw : FD where
  name := (Str.ofString "_law_draw")
  N := [(Str.ofString "feed"), (Str.ofString "many"), (Str.ofString "stir"), (Str.ofString "got")]
  np := 2
  retM := false
  body := (.cons (.ifs (.cmp .Gt (.sub (.var 0) (.con (.int 0))) (.con (.int 0))) (.cons (.set 3 (.bin .Mod (.blt .int_ (.cons (.sub (.var 0) (.con (.int 0))) .nil)) (.var 1))) (.cons (.sst (.var 0) (.con (.int 0)) (.bin .FloorDiv (.sub (.var 0) (.con (.int 0))) (.var 1))) (.cons (.ret (.var 3)) .nil))) .nil) (.cons (.sst (.var 0) (.con (.int 2)) (.bin .Add (.sub (.var 0) (.con (.int 2))) (.con (.int 1)))) (.cons (.set 2 (.bin .Add (.bin .Add (.bin .Mult (.sub (.var 0) (.con (.int 1))) (.con (.int 5915587277))) (.bin .Mult (.sub (.var 0) (.con (.int 2))) (.con (.int 1500450271)))) (.con (.int 11)))) (.cons (.set 2 (.bin .Mod (.blt .int_ (.cons (.bin .Add (.bin .Mult (.bin .Mult (.var 2) (.var 2)) (.var 2)) (.bin .Mult (.con (.int 3267000013)) (.sub (.var 0) (.con (.int 2))))) .nil)) (.bin .Add (.bin .Pow (.con (.int 10)) (.con (.int 43))) (.con (.int 57))))) (.cons (.set 2 (.bin .Mod (.blt .int_ (.cons (.bin .Add (.bin .Mult (.var 2) (.var 2)) (.con (.int 4093082899))) .nil)) (.bin .Add (.bin .Pow (.con (.int 10)) (.con (.int 39))) (.con (.int 23))))) (.cons (.ret (.bin .Mod (.blt .int_ (.cons (.bin .FloorDiv (.var 2) (.bin .Pow (.con (.int 10)) (.con (.int 11)))) .nil)) (.var 1))) .nil))))))
def c_law_one : FD where
  name := (Str.ofString "_law_one")
  N := [(Str.ofString "feed"), (Str.ofString "things")]
  np := 2
  retM := false
  body := (.cons (.ret (.sub (.var 1) (.call 17 (.cons (.var 0) (.cons (.blt .len (.cons (.var 1) .nil)) .nil))))) .nil)
def c_law_mixed : FD where
  name := (Str.ofString "_law_mixed")
  N := [(Str.ofString "feed"), (Str.ofString "things"), (Str.ofString "turn"), (Str.ofString "left"), (Str.ofString "got")]
  np := 2
  retM := false
  body := (.cons (.par [3, 4] (.cons (.blt .listM (.cons (.var 1) .nil)) (.cons (.lst true .nil) .nil))) (.cons (.for_ (.nm 2) (.rng (.blt .len (.cons (.var 1) .nil))) (.cons (.expr (.meth (Str.ofString "append") (.var 4) (.cons (.meth (Str.ofString "pop") (.var 3) (.cons (.call 17 (.cons (.var 0) (.cons (.blt .len (.cons (.var 3) .nil)) .nil))) .nil)) .nil))) .nil)) (.cons (.ret (.var 4)) .nil)))
def c_law_same : FD where
  name := (Str.ofString "_law_same")
  N := [(Str.ofString "told"), (Str.ofString "due"), (Str.ofString "one"), (Str.ofString "other")]
  np := 2
  retM := false
  body := (.cons (.ifs (.isin (.var 1) [(.ty "list"), (.ty "tuple")]) (.cons (.ifs (.bor (.cons (.cmp .NotEq (.isin (.var 0) [(.ty "list")]) (.isin (.var 1) [(.ty "list")])) (.cons (.cmp .NotEq (.isin (.var 0) [(.ty "tuple")]) (.isin (.var 1) [(.ty "tuple")])) .nil))) (.cons (.ret (.con (.bool false))) .nil) .nil) (.cons (.ret (.band (.cons (.cmp .Eq (.blt .len (.cons (.var 0) .nil)) (.blt .len (.cons (.var 1) .nil))) (.cons (.cmp .Eq (.comp false (.con (.int 1)) (.mk (.tp [2, 3]) (.zip (.var 0) (.var 1)) (.some (.bnot (.call 20 (.cons (.var 2) (.cons (.var 3) .nil))))))) (.lst false .nil)) .nil)))) .nil)) .nil) (.cons (.ifs (.isn false (.var 1)) (.cons (.ret (.isn false (.var 0))) .nil) .nil) (.cons (.ifs (.bor (.cons (.cmp .NotEq (.isin (.var 1) [(.ty "bool")]) (.isin (.var 0) [(.ty "bool")])) (.cons (.cmp .NotEq (.isin (.var 1) [(.ty "str")]) (.isin (.var 0) [(.ty "str")])) .nil))) (.cons (.ret (.con (.bool false))) .nil) .nil) (.cons (.ret (.band (.cons (.isin (.var 0) [(.ty "int"), (.ty "str")]) (.cons (.cmp .Eq (.var 0) (.var 1)) .nil)))) .nil))))
def c_law_make : FD where
  name := (Str.ofString "_law_make")
  N := [(Str.ofString "feed")]
  np := 1
  retM := false
  body := (.cons (.ifs (.cmp .Gt (.call 17 (.cons (.var 0) (.cons (.con (.int 3)) .nil))) (.con (.int 0))) (.cons (.ret (.call 18 (.cons (.var 0) (.cons (.lst false (.cons (.tup (.cons (.con (.int 1)) (.cons (.con (.int 2)) .nil))) (.cons (.tup (.cons (.con (.int 1)) (.cons (.con (.int 5)) .nil))) (.cons (.tup (.cons (.con (.int 2)) (.cons (.con (.int 2)) .nil))) (.cons (.tup (.cons (.con (.int 2)) (.cons (.con (.int 3)) .nil))) (.cons (.tup (.cons (.con (.int 2)) (.cons (.con (.int 4)) .nil))) (.cons (.tup (.cons (.con (.int 3)) (.cons (.con (.int 2)) .nil))) (.cons (.tup (.cons (.con (.int 3)) (.cons (.con (.int 3)) .nil))) (.cons (.tup (.cons (.con (.int 4)) (.cons (.con (.int 2)) .nil))) (.cons (.tup (.cons (.con (.int 5)) (.cons (.con (.int 2)) .nil))) (.cons (.tup (.cons (.con (.int 1)) (.cons (.con (.int 3)) .nil))) (.cons (.tup (.cons (.con (.int 2)) (.cons (.con (.int 5)) .nil))) (.cons (.tup (.cons (.con (.int 4)) (.cons (.con (.int 3)) .nil))) .nil))))))))))))) .nil)))) .nil) .nil) (.cons (.ret (.tup (.cons (.bin .Add (.con (.int 1)) (.call 17 (.cons (.var 0) (.cons (.con (.int 5)) .nil)))) (.cons (.bin .Add (.con (.int 2)) (.call 17 (.cons (.var 0) (.cons (.con (.int 4)) .nil)))) .nil)))) .nil))
def c_law_key : FD where
  name := (Str.ofString "_law_key")
  N := [(Str.ofString "feed"), (Str.ofString "make"), (Str.ofString "chamber")]
  np := 2
  retM := false
  body := (.cons (.ret (.blt .tuple_ (.cons (.comp false (.call 17 (.cons (.var 0) (.cons (.sub (.var 1) (.con (.int 1))) .nil))) (.mk (.nm 2) (.rng (.sub (.var 1) (.con (.int 0)))) .none)) .nil))) .nil)
def c_law_cuts : FD where
  name := (Str.ofString "_law_cuts")
  N := [(Str.ofString "feed"), (Str.ofString "depths"), (Str.ofString "way"), (Str.ofString "cut"), (Str.ofString "one")]
  np := 2
  retM := false
  body := (.cons (.par [2, 3] (.cons (.call 17 (.cons (.var 0) (.cons (.con (.int 5)) .nil))) (.cons (.call 17 (.cons (.var 0) (.cons (.var 1) .nil))) .nil))) (.cons (.ifs (.cmp .Eq (.var 2) (.con (.int 0))) (.cons (.ret (.tup (.cons (.var 3) .nil))) .nil) .nil) (.cons (.ifs (.cmp .Eq (.var 2) (.con (.int 1))) (.cons (.ret (.rng true false (.rng (.var 1)))) .nil) .nil) (.cons (.ifs (.cmp .Eq (.var 2) (.con (.int 2))) (.cons (.ret (.blt .tuple_ (.cons (.comp false (.var 4) (.mk (.nm 4) (.rng (.var 1)) (.some (.cmp .NotEq (.var 4) (.var 3))))) .nil))) .nil) .nil) (.cons (.ret (.blt .tuple_ (.cons (.comp false (.var 4) (.mk (.nm 4) (.rng (.var 1)) (.some (.bor (.cons (.cmp .Eq (.var 4) (.var 3)) (.cons (.cmp .Eq (.call 17 (.cons (.var 0) (.cons (.con (.int 2)) .nil))) (.con (.int 0))) .nil)))))) .nil))) .nil)))))
def c_law_lock : FD where
  name := (Str.ofString "_law_lock")
  N := [(Str.ofString "feed"), (Str.ofString "make"), (Str.ofString "chamber")]
  np := 2
  retM := false
  body := (.cons (.ret (.blt .tuple_ (.cons (.comp false (.call 23 (.cons (.var 0) (.cons (.sub (.var 1) (.con (.int 1))) .nil))) (.mk (.nm 2) (.rng (.sub (.var 1) (.con (.int 0)))) .none)) .nil))) .nil)
def c_law_every : FD where
  name := (Str.ofString "_law_every")
  N := [(Str.ofString "lock"), (Str.ofString "rows"), (Str.ofString "some"), (Str.ofString "more"), (Str.ofString "row"), (Str.ofString "cut")]
  np := 1
  retM := false
  body := (.cons (.set 1 (.lst false (.cons (.tup .nil) .nil))) (.cons (.for_ (.nm 2) (.seq (.var 0)) (.cons (.set 3 (.lst true .nil)) (.cons (.for_ (.nm 4) (.seq (.var 1)) (.cons (.expr (.meth (Str.ofString "extend") (.var 3) (.cons (.comp false (.bin .Add (.var 4) (.tup (.cons (.var 5) .nil))) (.mk (.nm 5) (.seq (.var 2)) .none)) .nil))) .nil)) (.cons (.set 1 (.var 3)) .nil)))) (.cons (.ret (.var 1)) .nil)))
def c_law_size : FD where
  name := (Str.ofString "_law_size")
  N := [(Str.ofString "lock"), (Str.ofString "many"), (Str.ofString "some")]
  np := 1
  retM := false
  body := (.cons (.set 1 (.con (.int 1))) (.cons (.for_ (.nm 2) (.seq (.var 0)) (.cons (.set 1 (.bin .Mult (.var 1) (.blt .len (.cons (.var 2) .nil)))) .nil)) (.cons (.ret (.var 1)) .nil)))
def c_law_full : FD where
  name := (Str.ofString "_law_full")
  N := [(Str.ofString "make"), (Str.ofString "chamber")]
  np := 1
  retM := false
  body := (.cons (.ret (.blt .tuple_ (.cons (.comp false (.rng true false (.rng (.sub (.var 0) (.con (.int 1))))) (.mk (.nm 1) (.rng (.sub (.var 0) (.con (.int 0)))) .none)) .nil))) .nil)
def c_law_apart : FD where
  name := (Str.ofString "_law_apart")
  N := [(Str.ofString "lock"), (Str.ofString "key"), (Str.ofString "at")]
  np := 2
  retM := false
  body := (.cons (.ret (.blt .tuple_ (.cons (.comp false (.var 2) (.mk (.nm 2) (.rng (.blt .len (.cons (.var 0) .nil))) (.some (.cmp .NotIn (.sub (.var 1) (.var 2)) (.sub (.var 0) (.var 2)))))) .nil))) .nil)
def c_law_tried : FD where
  name := (Str.ofString "_law_tried")
  N := [(Str.ofString "feed"), (Str.ofString "make"), (Str.ofString "lock"), (Str.ofString "every"), (Str.ofString "rows"), (Str.ofString "turn"), (Str.ofString "at"), (Str.ofString "key"), (Str.ofString "cut"), (Str.ofString "some")]
  np := 3
  retM := false
  body := (.cons (.set 3 (.call 27 (.cons (.var 1) .nil))) (.cons (.ifs (.cmp .LtE (.call 26 (.cons (.var 3) .nil)) (.con (.int 130))) (.cons (.ret (.call 19 (.cons (.var 0) (.cons (.call 25 (.cons (.var 3) .nil)) .nil)))) .nil) .nil) (.cons (.set 4 (.lst true .nil)) (.cons (.for_ (.nm 5) (.rng (.con (.int 16))) (.cons (.set 7 (.blt .tuple_ (.cons (.comp false (.call 18 (.cons (.var 0) (.cons (.var 9) .nil))) (.mk (.nm 9) (.seq (.var 2)) .none)) .nil))) (.cons (.set 6 (.call 17 (.cons (.var 0) (.cons (.sub (.var 1) (.con (.int 0))) .nil)))) (.cons (.expr (.meth (Str.ofString "extend") (.var 4) (.cons (.lst false (.cons (.var 7) (.cons (.bin .Add (.bin .Add (.slc (.var 7) .none (.some (.var 6))) (.tup (.cons (.call 17 (.cons (.var 0) (.cons (.sub (.var 1) (.con (.int 1))) .nil))) .nil))) (.slc (.var 7) (.some (.bin .Add (.var 6) (.con (.int 1)))) .none)) (.cons (.call 22 (.cons (.var 0) (.cons (.var 1) .nil))) .nil)))) .nil))) .nil)))) (.cons (.for_ (.nm 6) (.rng (.sub (.var 1) (.con (.int 0)))) (.cons (.for_ (.nm 8) (.rng (.sub (.var 1) (.con (.int 1)))) (.cons (.set 7 (.call 18 (.cons (.var 0) (.cons (.var 4) .nil)))) (.cons (.expr (.meth (Str.ofString "append") (.var 4) (.cons (.bin .Add (.bin .Add (.slc (.var 7) .none (.some (.var 6))) (.tup (.cons (.var 8) .nil))) (.slc (.var 7) (.some (.bin .Add (.var 6) (.con (.int 1)))) .none)) .nil))) .nil))) .nil)) (.cons (.ret (.var 4)) .nil))))))
def c_law_tells_2 : FD where
  name := (Str.ofString "_law_tells")
  N := [(Str.ofString "feed"), (Str.ofString "make"), (Str.ofString "lock"), (Str.ofString "key"), (Str.ofString "name"), (Str.ofString "due"), (Str.ofString "told")]
  np := 4
  retM := false
  body := (.cons (.par [5, 6] (.cons (.call 28 (.cons (.var 2) (.cons (.var 3) .nil))) (.cons (.lst true .nil) .nil))) (.cons (.for_ (.nm 4) (.seq (.call 19 (.cons (.var 0) (.cons (.lst false (.cons (.con (.str (Str.ofString "opens"))) (.cons (.con (.str (Str.ofString "apart"))) .nil))) .nil)))) (.cons (.ifs (.cmp .Eq (.var 4) (.con (.str (Str.ofString "opens")))) (.cons (.expr (.meth (Str.ofString "append") (.var 6) (.cons (.call 65 (.cons (.var 1) (.cons (.var 2) (.cons (.var 3) .nil)))) .nil))) .nil) (.cons (.expr (.meth (Str.ofString "append") (.var 6) (.cons (.call 66 (.cons (.var 1) (.cons (.var 2) (.cons (.var 3) .nil)))) .nil))) .nil)) (.cons (.ifs (.bnot (.call 20 (.cons (.sub (.var 6) (.neg (.con (.int 1)))) (.cons (.ifx (.cmp .Eq (.var 4) (.con (.str (Str.ofString "opens")))) (.cmp .Eq (.var 5) (.tup .nil)) (.var 5)) .nil)))) (.cons (.ret (.con (.bool false))) .nil) .nil) .nil))) (.cons (.ret (.con (.bool true))) .nil)))
def c_law_4 : FD where
  name := (Str.ofString "law")
  N := [(Str.ofString "script"), (Str.ofString "k"), (Str.ofString "feed"), (Str.ofString "make"), (Str.ofString "locks"), (Str.ofString "held"), (Str.ofString "key"), (Str.ofString "due"), (Str.ofString "lock")]
  np := 1
  retM := false
  body := (.cons (.for_ (.nm 1) (.rng (.blt .max_ (.cons (.con (.int 2)) (.cons (.blt .min_ (.cons (.blt .len (.cons (.var 0) .nil)) (.cons (.con (.int 6)) .nil))) .nil)))) (.cons (.set 2 (.call 16 (.cons (.var 0) (.cons (.var 1) .nil)))) (.cons (.set 3 (.call 21 (.cons (.var 2) .nil))) (.cons (.set 4 (.lst false (.cons (.call 24 (.cons (.var 2) (.cons (.var 3) .nil))) (.cons (.call 24 (.cons (.var 2) (.cons (.var 3) .nil))) .nil)))) (.cons (.set 5 (.blt .repr_ (.cons (.var 4) .nil))) (.cons (.for_ (.nm 6) (.seq (.call 29 (.cons (.var 2) (.cons (.var 3) (.cons (.sub (.var 4) (.con (.int 0))) .nil))))) (.cons (.for_ (.nm 8) (.seq (.call 19 (.cons (.var 2) (.cons (.var 4) .nil)))) (.cons (.ifs (.bnot (.call 67 (.cons (.var 2) (.cons (.var 3) (.cons (.var 8) (.cons (.var 6) .nil)))))) (.cons (.ret (.con (.bool false))) .nil) .nil) .nil)) .nil)) (.cons (.par [8, 6] (.cons (.call 18 (.cons (.var 2) (.cons (.var 4) .nil))) (.cons (.call 22 (.cons (.var 2) (.cons (.var 3) .nil))) .nil))) (.cons (.set 7 (.lst false (.cons (.cmp .Eq (.call 28 (.cons (.var 8) (.cons (.var 6) .nil))) (.tup .nil)) (.cons (.call 28 (.cons (.var 8) (.cons (.var 6) .nil))) .nil)))) (.cons (.ifs (.bnot (.call 20 (.cons (.lst false (.cons (.callk 65 [(Str.ofString "key"), (Str.ofString "lock"), (Str.ofString "make")] (.cons (.var 6) (.cons (.var 8) (.cons (.var 3) .nil)))) (.cons (.callk 66 [(Str.ofString "key"), (Str.ofString "lock"), (Str.ofString "make")] (.cons (.var 6) (.cons (.var 8) (.cons (.var 3) .nil)))) .nil))) (.cons (.var 7) .nil)))) (.cons (.ret (.con (.bool false))) .nil) .nil) (.cons (.ifs (.cmp .NotEq (.blt .repr_ (.cons (.var 4) .nil)) (.var 5)) (.cons (.ret (.con (.bool false))) .nil) .nil) .nil)))))))))) (.cons (.ret (.con (.bool true))) .nil))
end KA
namespace KA.K01
open PySem PySem.Spec PyProof.Rows L2
def top (i : Nat) : Stmt := PySem.Challenge.pw_keyedapart_k01_opening_locks.main.body.getD i (.Pass ⟨0, 0, 0, 0⟩)
def tl : List (Nat × FD) := [(1, c_is_integer), (2, c_is_within), (3, c_is_row), (4, c_are_within), (5, c_is_ascending), (6, c_is_make), (62, c_need_make_2), (8, c_is_key_form), (9, c_are_cuts), (10, c_is_lock_form), (63, c_need_key_2), (64, c_need_lock_2), (13, c_does_open), (65, c_opens_2), (66, c_apart_in_2), (16, c_law_feed), (17, c_law_draw), (18, c_law_one), (19, c_law_mixed), (20, c_law_same), (21, c_law_make), (22, c_law_key), (23, c_law_cuts), (24, c_law_lock), (25, c_law_every), (26, c_law_size), (27, c_law_full), (28, c_law_apart), (29, c_law_tried), (67, c_law_tells_2), (68, c_law_4)]
def cs : List (Str × PD) := [((Str.ofString "MOST_CHAMBERS"), .int 5), ((Str.ofString "MOST_DEPTHS"), .int 5)]
def bs : List Str := [(Str.ofString "all"), (Str.ofString "bool"), (Str.ofString "enumerate"), (Str.ofString "int"), (Str.ofString "isinstance"), (Str.ofString "len"), (Str.ofString "list"), (Str.ofString "max"), (Str.ofString "min"), (Str.ofString "range"), (Str.ofString "repr"), (Str.ofString "str"), (Str.ofString "sum"), (Str.ofString "tuple"), (Str.ofString "zip")]
def kw : List (Nat × List Str) := [(65, [(Str.ofString "key"), (Str.ofString "lock"), (Str.ofString "make")]), (66, [(Str.ofString "key"), (Str.ofString "lock"), (Str.ofString "make")])]
abbrev dom : Dom := domOf tl cs bs kw
def d1 : He.DefD := ⟨("is_integer", none), "is_integer", "is_integer", defArgs (top 6), defBody (top 6), defScope (top 6), [], []⟩
def d2 : He.DefD := ⟨("is_within", none), "is_within", "is_within", defArgs (top 7), defBody (top 7), defScope (top 7), [], []⟩
def d3 : He.DefD := ⟨("is_row", none), "is_row", "is_row", defArgs (top 8), defBody (top 8), defScope (top 8), [], []⟩
def d4 : He.DefD := ⟨("are_within", none), "are_within", "are_within", defArgs (top 9), defBody (top 9), defScope (top 9), [], []⟩
def d5 : He.DefD := ⟨("is_ascending", none), "is_ascending", "is_ascending", defArgs (top 10), defBody (top 10), defScope (top 10), [], []⟩
def d6 : He.DefD := ⟨("is_make", none), "is_make", "is_make", defArgs (top 14), defBody (top 14), defScope (top 14), [], []⟩
def d62 : He.DefD := ⟨("need_make", none), "need_make", "need_make", defArgs (top 15), defBody (top 15), defScope (top 15), [], []⟩
def d8 : He.DefD := ⟨("is_key_form", none), "is_key_form", "is_key_form", defArgs (top 16), defBody (top 16), defScope (top 16), [], []⟩
def d9 : He.DefD := ⟨("are_cuts", none), "are_cuts", "are_cuts", defArgs (top 17), defBody (top 17), defScope (top 17), [], []⟩
def d10 : He.DefD := ⟨("is_lock_form", none), "is_lock_form", "is_lock_form", defArgs (top 18), defBody (top 18), defScope (top 18), [], []⟩
def d63 : He.DefD := ⟨("need_key", none), "need_key", "need_key", defArgs (top 19), defBody (top 19), defScope (top 19), [], []⟩
def d64 : He.DefD := ⟨("need_lock", none), "need_lock", "need_lock", defArgs (top 20), defBody (top 20), defScope (top 20), [], []⟩
def d13 : He.DefD := ⟨("does_open", none), "does_open", "does_open", defArgs (top 22), defBody (top 22), defScope (top 22), [], []⟩
def d65 : He.DefD := ⟨("opens", none), "opens", "opens", defArgs (top 24), defBody (top 24), defScope (top 24), [], []⟩
def d66 : He.DefD := ⟨("apart_in", none), "apart_in", "apart_in", defArgs (top 25), defBody (top 25), defScope (top 25), [], []⟩
def d16 : He.DefD := ⟨("_law_feed", none), "_law_feed", "_law_feed", defArgs (top 27), defBody (top 27), defScope (top 27), [], []⟩
def d17 : He.DefD := ⟨("_law_draw", none), "_law_draw", "_law_draw", defArgs (top 28), defBody (top 28), defScope (top 28), [], []⟩
def d18 : He.DefD := ⟨("_law_one", none), "_law_one", "_law_one", defArgs (top 29), defBody (top 29), defScope (top 29), [], []⟩
def d19 : He.DefD := ⟨("_law_mixed", none), "_law_mixed", "_law_mixed", defArgs (top 30), defBody (top 30), defScope (top 30), [], []⟩
def d20 : He.DefD := ⟨("_law_same", none), "_law_same", "_law_same", defArgs (top 31), defBody (top 31), defScope (top 31), [], []⟩
def d21 : He.DefD := ⟨("_law_make", none), "_law_make", "_law_make", defArgs (top 32), defBody (top 32), defScope (top 32), [], []⟩
def d22 : He.DefD := ⟨("_law_key", none), "_law_key", "_law_key", defArgs (top 33), defBody (top 33), defScope (top 33), [], []⟩
def d23 : He.DefD := ⟨("_law_cuts", none), "_law_cuts", "_law_cuts", defArgs (top 34), defBody (top 34), defScope (top 34), [], []⟩
def d24 : He.DefD := ⟨("_law_lock", none), "_law_lock", "_law_lock", defArgs (top 35), defBody (top 35), defScope (top 35), [], []⟩
def d25 : He.DefD := ⟨("_law_every", none), "_law_every", "_law_every", defArgs (top 36), defBody (top 36), defScope (top 36), [], []⟩
def d26 : He.DefD := ⟨("_law_size", none), "_law_size", "_law_size", defArgs (top 37), defBody (top 37), defScope (top 37), [], []⟩
def d27 : He.DefD := ⟨("_law_full", none), "_law_full", "_law_full", defArgs (top 38), defBody (top 38), defScope (top 38), [], []⟩
def d28 : He.DefD := ⟨("_law_apart", none), "_law_apart", "_law_apart", defArgs (top 39), defBody (top 39), defScope (top 39), [], []⟩
def d29 : He.DefD := ⟨("_law_tried", none), "_law_tried", "_law_tried", defArgs (top 40), defBody (top 40), defScope (top 40), [], []⟩
def d67 : He.DefD := ⟨("_law_tells", none), "_law_tells", "_law_tells", defArgs (top 41), defBody (top 41), defScope (top 41), [], []⟩
def d68 : He.DefD := ⟨("law", none), "law", "law", defArgs (top 42), defBody (top 42), defScope (top 42), [], []⟩
def fn : List He.DefD := [d1, d2, d3, d4, d5, d6, d62, d8, d9, d10, d63, d64, d13, d65, d66, d16, d17, d18, d19, d20, d21, d22, d23, d24, d25, d26, d27, d28, d29, d67, d68]
def fa : List He.Fa := [.glo "is_integer", .glo "is_within", .glo "is_row", .glo "are_within", .glo "is_ascending", .glo "is_make", .glo "need_make", .glo "is_key_form", .glo "are_cuts", .glo "is_lock_form", .glo "need_key", .glo "need_lock", .glo "does_open", .glo "opens", .glo "apart_in", .glo "_law_feed", .glo "_law_draw", .glo "_law_one", .glo "_law_mixed", .glo "_law_same", .glo "_law_make", .glo "_law_key", .glo "_law_cuts", .glo "_law_lock", .glo "_law_every", .glo "_law_size", .glo "_law_full", .glo "_law_apart", .glo "_law_tried", .glo "_law_tells", .glo "law", .free "all", .free "bool", .free "enumerate", .free "int", .free "isinstance", .free "len", .free "list", .free "max", .free "min", .free "range", .free "repr", .free "str", .free "sum", .free "tuple", .free "zip", .int "MOST_CHAMBERS" 5, .int "MOST_DEPTHS" 5]
set_option maxHeartbeats 0
theorem chk1 : chkSs dom ⟨c_is_integer.N, defScope (top 6), fun _ => true⟩ c_is_integer.body (defBody (top 6)) = true := by kernel_rfl
theorem sc1 : FnScope c_is_integer.N (c_is_integer.N.take c_is_integer.np) (defScope (top 6)) := ⟨rfl, rfl, rfl, by decide +kernel, rfl, by decide +kernel, by decide +kernel⟩
theorem chk2 : chkSs dom ⟨c_is_within.N, defScope (top 7), fun _ => true⟩ c_is_within.body (defBody (top 7)) = true := by kernel_rfl
theorem sc2 : FnScope c_is_within.N (c_is_within.N.take c_is_within.np) (defScope (top 7)) := ⟨rfl, rfl, rfl, by decide +kernel, rfl, by decide +kernel, by decide +kernel⟩
theorem chk3 : chkSs dom ⟨c_is_row.N, defScope (top 8), fun _ => true⟩ c_is_row.body (defBody (top 8)) = true := by kernel_rfl
theorem sc3 : FnScope c_is_row.N (c_is_row.N.take c_is_row.np) (defScope (top 8)) := ⟨rfl, rfl, rfl, by decide +kernel, rfl, by decide +kernel, by decide +kernel⟩
theorem chk4 : chkSs dom ⟨c_are_within.N, defScope (top 9), fun _ => true⟩ c_are_within.body (defBody (top 9)) = true := by kernel_rfl
theorem sc4 : FnScope c_are_within.N (c_are_within.N.take c_are_within.np) (defScope (top 9)) := ⟨rfl, rfl, rfl, by decide +kernel, rfl, by decide +kernel, by decide +kernel⟩
theorem chk5 : chkSs dom ⟨c_is_ascending.N, defScope (top 10), fun _ => true⟩ c_is_ascending.body (defBody (top 10)) = true := by kernel_rfl
theorem sc5 : FnScope c_is_ascending.N (c_is_ascending.N.take c_is_ascending.np) (defScope (top 10)) := ⟨rfl, rfl, rfl, by decide +kernel, rfl, by decide +kernel, by decide +kernel⟩
theorem chk6 : chkSs dom ⟨c_is_make.N, defScope (top 14), fun _ => true⟩ c_is_make.body (defBody (top 14)) = true := by kernel_rfl
theorem sc6 : FnScope c_is_make.N (c_is_make.N.take c_is_make.np) (defScope (top 14)) := ⟨rfl, rfl, rfl, by decide +kernel, rfl, by decide +kernel, by decide +kernel⟩
theorem chk62 : chkSs dom ⟨c_need_make_2.N, defScope (top 15), fun _ => true⟩ c_need_make_2.body (defBody (top 15)) = true := by kernel_rfl
theorem sc62 : FnScope c_need_make_2.N (c_need_make_2.N.take c_need_make_2.np) (defScope (top 15)) := ⟨rfl, rfl, rfl, by decide +kernel, rfl, by decide +kernel, by decide +kernel⟩
theorem chk8 : chkSs dom ⟨c_is_key_form.N, defScope (top 16), fun _ => true⟩ c_is_key_form.body (defBody (top 16)) = true := by kernel_rfl
theorem sc8 : FnScope c_is_key_form.N (c_is_key_form.N.take c_is_key_form.np) (defScope (top 16)) := ⟨rfl, rfl, rfl, by decide +kernel, rfl, by decide +kernel, by decide +kernel⟩
theorem chk9 : chkSs dom ⟨c_are_cuts.N, defScope (top 17), fun _ => true⟩ c_are_cuts.body (defBody (top 17)) = true := by kernel_rfl
theorem sc9 : FnScope c_are_cuts.N (c_are_cuts.N.take c_are_cuts.np) (defScope (top 17)) := ⟨rfl, rfl, rfl, by decide +kernel, rfl, by decide +kernel, by decide +kernel⟩
theorem chk10 : chkSs dom ⟨c_is_lock_form.N, defScope (top 18), fun _ => true⟩ c_is_lock_form.body (defBody (top 18)) = true := by kernel_rfl
theorem sc10 : FnScope c_is_lock_form.N (c_is_lock_form.N.take c_is_lock_form.np) (defScope (top 18)) := ⟨rfl, rfl, rfl, by decide +kernel, rfl, by decide +kernel, by decide +kernel⟩
theorem chk63 : chkSs dom ⟨c_need_key_2.N, defScope (top 19), fun _ => true⟩ c_need_key_2.body (defBody (top 19)) = true := by kernel_rfl
theorem sc63 : FnScope c_need_key_2.N (c_need_key_2.N.take c_need_key_2.np) (defScope (top 19)) := ⟨rfl, rfl, rfl, by decide +kernel, rfl, by decide +kernel, by decide +kernel⟩
theorem chk64 : chkSs dom ⟨c_need_lock_2.N, defScope (top 20), fun _ => true⟩ c_need_lock_2.body (defBody (top 20)) = true := by kernel_rfl
theorem sc64 : FnScope c_need_lock_2.N (c_need_lock_2.N.take c_need_lock_2.np) (defScope (top 20)) := ⟨rfl, rfl, rfl, by decide +kernel, rfl, by decide +kernel, by decide +kernel⟩
theorem chk13 : chkSs dom ⟨c_does_open.N, defScope (top 22), fun _ => true⟩ c_does_open.body (defBody (top 22)) = true := by kernel_rfl
theorem sc13 : FnScope c_does_open.N (c_does_open.N.take c_does_open.np) (defScope (top 22)) := ⟨rfl, rfl, rfl, by decide +kernel, rfl, by decide +kernel, by decide +kernel⟩
theorem chk65 : chkSs dom ⟨c_opens_2.N, defScope (top 24), fun _ => true⟩ c_opens_2.body (defBody (top 24)) = true := by kernel_rfl
theorem sc65 : FnScope c_opens_2.N (c_opens_2.N.take c_opens_2.np) (defScope (top 24)) := ⟨rfl, rfl, rfl, by decide +kernel, rfl, by decide +kernel, by decide +kernel⟩
theorem chk66 : chkSs dom ⟨c_apart_in_2.N, defScope (top 25), fun _ => true⟩ c_apart_in_2.body (defBody (top 25)) = true := by kernel_rfl
theorem sc66 : FnScope c_apart_in_2.N (c_apart_in_2.N.take c_apart_in_2.np) (defScope (top 25)) := ⟨rfl, rfl, rfl, by decide +kernel, rfl, by decide +kernel, by decide +kernel⟩
theorem chk16 : chkSs dom ⟨c_law_feed.N, defScope (top 27), fun _ => true⟩ c_law_feed.body (defBody (top 27)) = true := by kernel_rfl
theorem sc16 : FnScope c_law_feed.N (c_law_feed.N.take c_law_feed.np) (defScope (top 27)) := ⟨rfl, rfl, rfl, by decide +kernel, rfl, by decide +kernel, by decide +kernel⟩
theorem chk17 : chkSs dom ⟨c_law_draw.N, defScope (top 28), fun _ => true⟩ c_law_draw.body (defBody (top 28)) = true := by kernel_rfl
theorem sc17 : FnScope c_law_draw.N (c_law_draw.N.take c_law_draw.np) (defScope (top 28)) := ⟨rfl, rfl, rfl, by decide +kernel, rfl, by decide +kernel, by decide +kernel⟩
theorem chk18 : chkSs dom ⟨c_law_one.N, defScope (top 29), fun _ => true⟩ c_law_one.body (defBody (top 29)) = true := by kernel_rfl
theorem sc18 : FnScope c_law_one.N (c_law_one.N.take c_law_one.np) (defScope (top 29)) := ⟨rfl, rfl, rfl, by decide +kernel, rfl, by decide +kernel, by decide +kernel⟩
theorem chk19 : chkSs dom ⟨c_law_mixed.N, defScope (top 30), fun _ => true⟩ c_law_mixed.body (defBody (top 30)) = true := by kernel_rfl
theorem sc19 : FnScope c_law_mixed.N (c_law_mixed.N.take c_law_mixed.np) (defScope (top 30)) := ⟨rfl, rfl, rfl, by decide +kernel, rfl, by decide +kernel, by decide +kernel⟩
theorem chk20 : chkSs dom ⟨c_law_same.N, defScope (top 31), fun _ => true⟩ c_law_same.body (defBody (top 31)) = true := by kernel_rfl
theorem sc20 : FnScope c_law_same.N (c_law_same.N.take c_law_same.np) (defScope (top 31)) := ⟨rfl, rfl, rfl, by decide +kernel, rfl, by decide +kernel, by decide +kernel⟩
theorem chk21 : chkSs dom ⟨c_law_make.N, defScope (top 32), fun _ => true⟩ c_law_make.body (defBody (top 32)) = true := by kernel_rfl
theorem sc21 : FnScope c_law_make.N (c_law_make.N.take c_law_make.np) (defScope (top 32)) := ⟨rfl, rfl, rfl, by decide +kernel, rfl, by decide +kernel, by decide +kernel⟩
theorem chk22 : chkSs dom ⟨c_law_key.N, defScope (top 33), fun _ => true⟩ c_law_key.body (defBody (top 33)) = true := by kernel_rfl
theorem sc22 : FnScope c_law_key.N (c_law_key.N.take c_law_key.np) (defScope (top 33)) := ⟨rfl, rfl, rfl, by decide +kernel, rfl, by decide +kernel, by decide +kernel⟩
theorem chk23 : chkSs dom ⟨c_law_cuts.N, defScope (top 34), fun _ => true⟩ c_law_cuts.body (defBody (top 34)) = true := by kernel_rfl
theorem sc23 : FnScope c_law_cuts.N (c_law_cuts.N.take c_law_cuts.np) (defScope (top 34)) := ⟨rfl, rfl, rfl, by decide +kernel, rfl, by decide +kernel, by decide +kernel⟩
theorem chk24 : chkSs dom ⟨c_law_lock.N, defScope (top 35), fun _ => true⟩ c_law_lock.body (defBody (top 35)) = true := by kernel_rfl
theorem sc24 : FnScope c_law_lock.N (c_law_lock.N.take c_law_lock.np) (defScope (top 35)) := ⟨rfl, rfl, rfl, by decide +kernel, rfl, by decide +kernel, by decide +kernel⟩
theorem chk25 : chkSs dom ⟨c_law_every.N, defScope (top 36), fun _ => true⟩ c_law_every.body (defBody (top 36)) = true := by kernel_rfl
theorem sc25 : FnScope c_law_every.N (c_law_every.N.take c_law_every.np) (defScope (top 36)) := ⟨rfl, rfl, rfl, by decide +kernel, rfl, by decide +kernel, by decide +kernel⟩
theorem chk26 : chkSs dom ⟨c_law_size.N, defScope (top 37), fun _ => true⟩ c_law_size.body (defBody (top 37)) = true := by kernel_rfl
theorem sc26 : FnScope c_law_size.N (c_law_size.N.take c_law_size.np) (defScope (top 37)) := ⟨rfl, rfl, rfl, by decide +kernel, rfl, by decide +kernel, by decide +kernel⟩
theorem chk27 : chkSs dom ⟨c_law_full.N, defScope (top 38), fun _ => true⟩ c_law_full.body (defBody (top 38)) = true := by kernel_rfl
theorem sc27 : FnScope c_law_full.N (c_law_full.N.take c_law_full.np) (defScope (top 38)) := ⟨rfl, rfl, rfl, by decide +kernel, rfl, by decide +kernel, by decide +kernel⟩
theorem chk28 : chkSs dom ⟨c_law_apart.N, defScope (top 39), fun _ => true⟩ c_law_apart.body (defBody (top 39)) = true := by kernel_rfl
theorem sc28 : FnScope c_law_apart.N (c_law_apart.N.take c_law_apart.np) (defScope (top 39)) := ⟨rfl, rfl, rfl, by decide +kernel, rfl, by decide +kernel, by decide +kernel⟩
theorem chk29 : chkSs dom ⟨c_law_tried.N, defScope (top 40), fun _ => true⟩ c_law_tried.body (defBody (top 40)) = true := by kernel_rfl
theorem sc29 : FnScope c_law_tried.N (c_law_tried.N.take c_law_tried.np) (defScope (top 40)) := ⟨rfl, rfl, rfl, by decide +kernel, rfl, by decide +kernel, by decide +kernel⟩
theorem chk67 : chkSs dom ⟨c_law_tells_2.N, defScope (top 41), fun _ => true⟩ c_law_tells_2.body (defBody (top 41)) = true := by kernel_rfl
theorem sc67 : FnScope c_law_tells_2.N (c_law_tells_2.N.take c_law_tells_2.np) (defScope (top 41)) := ⟨rfl, rfl, rfl, by decide +kernel, rfl, by decide +kernel, by decide +kernel⟩
theorem chk68 : chkSs dom ⟨c_law_4.N, defScope (top 42), fun _ => true⟩ c_law_4.body (defBody (top 42)) = true := by kernel_rfl
theorem sc68 : FnScope c_law_4.N (c_law_4.N.take c_law_4.np) (defScope (top 42)) := ⟨rfl, rfl, rfl, by decide +kernel, rfl, by decide +kernel, by decide +kernel⟩
section
variable {K : PySem.W.Frag} {h : Heap} {mg : Str → Option Value}
theorem ok1 (X : K.In h) (G : h.Ns mainGlobals mg) (c : He.SaysD fa fn K) : DfOk dom K mg 1 c_is_integer := by
  obtain ⟨fd, F⟩ := c.def_ 0 (d := d1) rfl
  exact ⟨by decide, _, _, _, _, fd, _, He.glo_ok X G (c.fact 0 (f := .glo "is_integer") rfl), F, sc1, chk1, F.bindsN (fun _ _ _ _ _ _ us hl => match us, hl with | [_], _ => rfl), kw_all (kf := []) (by decide +kernel) all0⟩
theorem ok2 (X : K.In h) (G : h.Ns mainGlobals mg) (c : He.SaysD fa fn K) : DfOk dom K mg 2 c_is_within := by
  obtain ⟨fd, F⟩ := c.def_ 1 (d := d2) rfl
  exact ⟨by decide, _, _, _, _, fd, _, He.glo_ok X G (c.fact 1 (f := .glo "is_within") rfl), F, sc2, chk2, F.bindsN (fun _ _ _ _ _ _ us hl => match us, hl with | [_, _, _], _ => rfl), kw_all (kf := []) (by decide +kernel) all0⟩
theorem ok3 (X : K.In h) (G : h.Ns mainGlobals mg) (c : He.SaysD fa fn K) : DfOk dom K mg 3 c_is_row := by
  obtain ⟨fd, F⟩ := c.def_ 2 (d := d3) rfl
  exact ⟨by decide, _, _, _, _, fd, _, He.glo_ok X G (c.fact 2 (f := .glo "is_row") rfl), F, sc3, chk3, F.bindsN (fun _ _ _ _ _ _ us hl => match us, hl with | [_, _, _], _ => rfl), kw_all (kf := []) (by decide +kernel) all0⟩
theorem ok4 (X : K.In h) (G : h.Ns mainGlobals mg) (c : He.SaysD fa fn K) : DfOk dom K mg 4 c_are_within := by
  obtain ⟨fd, F⟩ := c.def_ 3 (d := d4) rfl
  exact ⟨by decide, _, _, _, _, fd, _, He.glo_ok X G (c.fact 3 (f := .glo "are_within") rfl), F, sc4, chk4, F.bindsN (fun _ _ _ _ _ _ us hl => match us, hl with | [_, _, _, _], _ => rfl), kw_all (kf := []) (by decide +kernel) all0⟩
theorem ok5 (X : K.In h) (G : h.Ns mainGlobals mg) (c : He.SaysD fa fn K) : DfOk dom K mg 5 c_is_ascending := by
  obtain ⟨fd, F⟩ := c.def_ 4 (d := d5) rfl
  exact ⟨by decide, _, _, _, _, fd, _, He.glo_ok X G (c.fact 4 (f := .glo "is_ascending") rfl), F, sc5, chk5, F.bindsN (fun _ _ _ _ _ _ us hl => match us, hl with | [_], _ => rfl), kw_all (kf := []) (by decide +kernel) all0⟩
theorem ok6 (X : K.In h) (G : h.Ns mainGlobals mg) (c : He.SaysD fa fn K) : DfOk dom K mg 6 c_is_make := by
  obtain ⟨fd, F⟩ := c.def_ 5 (d := d6) rfl
  exact ⟨by decide, _, _, _, _, fd, _, He.glo_ok X G (c.fact 5 (f := .glo "is_make") rfl), F, sc6, chk6, F.bindsN (fun _ _ _ _ _ _ us hl => match us, hl with | [_], _ => rfl), kw_all (kf := []) (by decide +kernel) all0⟩
theorem ok62 (X : K.In h) (G : h.Ns mainGlobals mg) (c : He.SaysD fa fn K) : DfOk dom K mg 62 c_need_make_2 := by
  obtain ⟨fd, F⟩ := c.def_ 6 (d := d62) rfl
  exact ⟨by decide, _, _, _, _, fd, _, He.glo_ok X G (c.fact 6 (f := .glo "need_make") rfl), F, sc62, chk62, F.bindsN (fun _ _ _ _ _ _ us hl => match us, hl with | [_], _ => rfl), kw_all (kf := []) (by decide +kernel) all0⟩
theorem ok8 (X : K.In h) (G : h.Ns mainGlobals mg) (c : He.SaysD fa fn K) : DfOk dom K mg 8 c_is_key_form := by
  obtain ⟨fd, F⟩ := c.def_ 7 (d := d8) rfl
  exact ⟨by decide, _, _, _, _, fd, _, He.glo_ok X G (c.fact 7 (f := .glo "is_key_form") rfl), F, sc8, chk8, F.bindsN (fun _ _ _ _ _ _ us hl => match us, hl with | [_, _], _ => rfl), kw_all (kf := []) (by decide +kernel) all0⟩
theorem ok9 (X : K.In h) (G : h.Ns mainGlobals mg) (c : He.SaysD fa fn K) : DfOk dom K mg 9 c_are_cuts := by
  obtain ⟨fd, F⟩ := c.def_ 8 (d := d9) rfl
  exact ⟨by decide, _, _, _, _, fd, _, He.glo_ok X G (c.fact 8 (f := .glo "are_cuts") rfl), F, sc9, chk9, F.bindsN (fun _ _ _ _ _ _ us hl => match us, hl with | [_, _], _ => rfl), kw_all (kf := []) (by decide +kernel) all0⟩
theorem ok10 (X : K.In h) (G : h.Ns mainGlobals mg) (c : He.SaysD fa fn K) : DfOk dom K mg 10 c_is_lock_form := by
  obtain ⟨fd, F⟩ := c.def_ 9 (d := d10) rfl
  exact ⟨by decide, _, _, _, _, fd, _, He.glo_ok X G (c.fact 9 (f := .glo "is_lock_form") rfl), F, sc10, chk10, F.bindsN (fun _ _ _ _ _ _ us hl => match us, hl with | [_, _], _ => rfl), kw_all (kf := []) (by decide +kernel) all0⟩
theorem ok63 (X : K.In h) (G : h.Ns mainGlobals mg) (c : He.SaysD fa fn K) : DfOk dom K mg 63 c_need_key_2 := by
  obtain ⟨fd, F⟩ := c.def_ 10 (d := d63) rfl
  exact ⟨by decide, _, _, _, _, fd, _, He.glo_ok X G (c.fact 10 (f := .glo "need_key") rfl), F, sc63, chk63, F.bindsN (fun _ _ _ _ _ _ us hl => match us, hl with | [_, _], _ => rfl), kw_all (kf := []) (by decide +kernel) all0⟩
theorem ok64 (X : K.In h) (G : h.Ns mainGlobals mg) (c : He.SaysD fa fn K) : DfOk dom K mg 64 c_need_lock_2 := by
  obtain ⟨fd, F⟩ := c.def_ 11 (d := d64) rfl
  exact ⟨by decide, _, _, _, _, fd, _, He.glo_ok X G (c.fact 11 (f := .glo "need_lock") rfl), F, sc64, chk64, F.bindsN (fun _ _ _ _ _ _ us hl => match us, hl with | [_, _], _ => rfl), kw_all (kf := []) (by decide +kernel) all0⟩
theorem ok13 (X : K.In h) (G : h.Ns mainGlobals mg) (c : He.SaysD fa fn K) : DfOk dom K mg 13 c_does_open := by
  obtain ⟨fd, F⟩ := c.def_ 12 (d := d13) rfl
  exact ⟨by decide, _, _, _, _, fd, _, He.glo_ok X G (c.fact 12 (f := .glo "does_open") rfl), F, sc13, chk13, F.bindsN (fun _ _ _ _ _ _ us hl => match us, hl with | [_, _], _ => rfl), kw_all (kf := []) (by decide +kernel) all0⟩
theorem ok65 (X : K.In h) (G : h.Ns mainGlobals mg) (c : He.SaysD fa fn K) : DfOk dom K mg 65 c_opens_2 := by
  obtain ⟨fd, F⟩ := c.def_ 13 (d := d65) rfl
  exact ⟨by decide, _, _, _, _, fd, _, He.glo_ok X G (c.fact 13 (f := .glo "opens") rfl), F, sc65, chk65, F.bindsN (fun _ _ _ _ _ _ us hl => match us, hl with | [_, _, _], _ => rfl), kw_all (kf := [[(Str.ofString "key"), (Str.ofString "lock"), (Str.ofString "make")]]) (by decide +kernel) (allc (kwB_of F (by decide +kernel) fun _ _ _ _ _ _ ws hl => match ws, hl with | [_, _, _], _ => rfl) all0)⟩
theorem ok66 (X : K.In h) (G : h.Ns mainGlobals mg) (c : He.SaysD fa fn K) : DfOk dom K mg 66 c_apart_in_2 := by
  obtain ⟨fd, F⟩ := c.def_ 14 (d := d66) rfl
  exact ⟨by decide, _, _, _, _, fd, _, He.glo_ok X G (c.fact 14 (f := .glo "apart_in") rfl), F, sc66, chk66, F.bindsN (fun _ _ _ _ _ _ us hl => match us, hl with | [_, _, _], _ => rfl), kw_all (kf := [[(Str.ofString "key"), (Str.ofString "lock"), (Str.ofString "make")]]) (by decide +kernel) (allc (kwB_of F (by decide +kernel) fun _ _ _ _ _ _ ws hl => match ws, hl with | [_, _, _], _ => rfl) all0)⟩
theorem ok16 (X : K.In h) (G : h.Ns mainGlobals mg) (c : He.SaysD fa fn K) : DfOk dom K mg 16 c_law_feed := by
  obtain ⟨fd, F⟩ := c.def_ 15 (d := d16) rfl
  exact ⟨by decide, _, _, _, _, fd, _, He.glo_ok X G (c.fact 15 (f := .glo "_law_feed") rfl), F, sc16, chk16, F.bindsN (fun _ _ _ _ _ _ us hl => match us, hl with | [_, _], _ => rfl), kw_all (kf := []) (by decide +kernel) all0⟩
theorem ok17 (X : K.In h) (G : h.Ns mainGlobals mg) (c : He.SaysD fa fn K) : DfOk dom K mg 17 c_law_draw := by
  obtain ⟨fd, F⟩ := c.def_ 16 (d := d17) rfl
  exact ⟨by decide, _, _, _, _, fd, _, He.glo_ok X G (c.fact 16 (f := .glo "_law_draw") rfl), F, sc17, chk17, F.bindsN (fun _ _ _ _ _ _ us hl => match us, hl with | [_, _], _ => rfl), kw_all (kf := []) (by decide +kernel) all0⟩
theorem ok18 (X : K.In h) (G : h.Ns mainGlobals mg) (c : He.SaysD fa fn K) : DfOk dom K mg 18 c_law_one := by
  obtain ⟨fd, F⟩ := c.def_ 17 (d := d18) rfl
  exact ⟨by decide, _, _, _, _, fd, _, He.glo_ok X G (c.fact 17 (f := .glo "_law_one") rfl), F, sc18, chk18, F.bindsN (fun _ _ _ _ _ _ us hl => match us, hl with | [_, _], _ => rfl), kw_all (kf := []) (by decide +kernel) all0⟩
theorem ok19 (X : K.In h) (G : h.Ns mainGlobals mg) (c : He.SaysD fa fn K) : DfOk dom K mg 19 c_law_mixed := by
  obtain ⟨fd, F⟩ := c.def_ 18 (d := d19) rfl
  exact ⟨by decide, _, _, _, _, fd, _, He.glo_ok X G (c.fact 18 (f := .glo "_law_mixed") rfl), F, sc19, chk19, F.bindsN (fun _ _ _ _ _ _ us hl => match us, hl with | [_, _], _ => rfl), kw_all (kf := []) (by decide +kernel) all0⟩
theorem ok20 (X : K.In h) (G : h.Ns mainGlobals mg) (c : He.SaysD fa fn K) : DfOk dom K mg 20 c_law_same := by
  obtain ⟨fd, F⟩ := c.def_ 19 (d := d20) rfl
  exact ⟨by decide, _, _, _, _, fd, _, He.glo_ok X G (c.fact 19 (f := .glo "_law_same") rfl), F, sc20, chk20, F.bindsN (fun _ _ _ _ _ _ us hl => match us, hl with | [_, _], _ => rfl), kw_all (kf := []) (by decide +kernel) all0⟩
theorem ok21 (X : K.In h) (G : h.Ns mainGlobals mg) (c : He.SaysD fa fn K) : DfOk dom K mg 21 c_law_make := by
  obtain ⟨fd, F⟩ := c.def_ 20 (d := d21) rfl
  exact ⟨by decide, _, _, _, _, fd, _, He.glo_ok X G (c.fact 20 (f := .glo "_law_make") rfl), F, sc21, chk21, F.bindsN (fun _ _ _ _ _ _ us hl => match us, hl with | [_], _ => rfl), kw_all (kf := []) (by decide +kernel) all0⟩
theorem ok22 (X : K.In h) (G : h.Ns mainGlobals mg) (c : He.SaysD fa fn K) : DfOk dom K mg 22 c_law_key := by
  obtain ⟨fd, F⟩ := c.def_ 21 (d := d22) rfl
  exact ⟨by decide, _, _, _, _, fd, _, He.glo_ok X G (c.fact 21 (f := .glo "_law_key") rfl), F, sc22, chk22, F.bindsN (fun _ _ _ _ _ _ us hl => match us, hl with | [_, _], _ => rfl), kw_all (kf := []) (by decide +kernel) all0⟩
theorem ok23 (X : K.In h) (G : h.Ns mainGlobals mg) (c : He.SaysD fa fn K) : DfOk dom K mg 23 c_law_cuts := by
  obtain ⟨fd, F⟩ := c.def_ 22 (d := d23) rfl
  exact ⟨by decide, _, _, _, _, fd, _, He.glo_ok X G (c.fact 22 (f := .glo "_law_cuts") rfl), F, sc23, chk23, F.bindsN (fun _ _ _ _ _ _ us hl => match us, hl with | [_, _], _ => rfl), kw_all (kf := []) (by decide +kernel) all0⟩
theorem ok24 (X : K.In h) (G : h.Ns mainGlobals mg) (c : He.SaysD fa fn K) : DfOk dom K mg 24 c_law_lock := by
  obtain ⟨fd, F⟩ := c.def_ 23 (d := d24) rfl
  exact ⟨by decide, _, _, _, _, fd, _, He.glo_ok X G (c.fact 23 (f := .glo "_law_lock") rfl), F, sc24, chk24, F.bindsN (fun _ _ _ _ _ _ us hl => match us, hl with | [_, _], _ => rfl), kw_all (kf := []) (by decide +kernel) all0⟩
theorem ok25 (X : K.In h) (G : h.Ns mainGlobals mg) (c : He.SaysD fa fn K) : DfOk dom K mg 25 c_law_every := by
  obtain ⟨fd, F⟩ := c.def_ 24 (d := d25) rfl
  exact ⟨by decide, _, _, _, _, fd, _, He.glo_ok X G (c.fact 24 (f := .glo "_law_every") rfl), F, sc25, chk25, F.bindsN (fun _ _ _ _ _ _ us hl => match us, hl with | [_], _ => rfl), kw_all (kf := []) (by decide +kernel) all0⟩
theorem ok26 (X : K.In h) (G : h.Ns mainGlobals mg) (c : He.SaysD fa fn K) : DfOk dom K mg 26 c_law_size := by
  obtain ⟨fd, F⟩ := c.def_ 25 (d := d26) rfl
  exact ⟨by decide, _, _, _, _, fd, _, He.glo_ok X G (c.fact 25 (f := .glo "_law_size") rfl), F, sc26, chk26, F.bindsN (fun _ _ _ _ _ _ us hl => match us, hl with | [_], _ => rfl), kw_all (kf := []) (by decide +kernel) all0⟩
theorem ok27 (X : K.In h) (G : h.Ns mainGlobals mg) (c : He.SaysD fa fn K) : DfOk dom K mg 27 c_law_full := by
  obtain ⟨fd, F⟩ := c.def_ 26 (d := d27) rfl
  exact ⟨by decide, _, _, _, _, fd, _, He.glo_ok X G (c.fact 26 (f := .glo "_law_full") rfl), F, sc27, chk27, F.bindsN (fun _ _ _ _ _ _ us hl => match us, hl with | [_], _ => rfl), kw_all (kf := []) (by decide +kernel) all0⟩
theorem ok28 (X : K.In h) (G : h.Ns mainGlobals mg) (c : He.SaysD fa fn K) : DfOk dom K mg 28 c_law_apart := by
  obtain ⟨fd, F⟩ := c.def_ 27 (d := d28) rfl
  exact ⟨by decide, _, _, _, _, fd, _, He.glo_ok X G (c.fact 27 (f := .glo "_law_apart") rfl), F, sc28, chk28, F.bindsN (fun _ _ _ _ _ _ us hl => match us, hl with | [_, _], _ => rfl), kw_all (kf := []) (by decide +kernel) all0⟩
theorem ok29 (X : K.In h) (G : h.Ns mainGlobals mg) (c : He.SaysD fa fn K) : DfOk dom K mg 29 c_law_tried := by
  obtain ⟨fd, F⟩ := c.def_ 28 (d := d29) rfl
  exact ⟨by decide, _, _, _, _, fd, _, He.glo_ok X G (c.fact 28 (f := .glo "_law_tried") rfl), F, sc29, chk29, F.bindsN (fun _ _ _ _ _ _ us hl => match us, hl with | [_, _, _], _ => rfl), kw_all (kf := []) (by decide +kernel) all0⟩
theorem ok67 (X : K.In h) (G : h.Ns mainGlobals mg) (c : He.SaysD fa fn K) : DfOk dom K mg 67 c_law_tells_2 := by
  obtain ⟨fd, F⟩ := c.def_ 29 (d := d67) rfl
  exact ⟨by decide, _, _, _, _, fd, _, He.glo_ok X G (c.fact 29 (f := .glo "_law_tells") rfl), F, sc67, chk67, F.bindsN (fun _ _ _ _ _ _ us hl => match us, hl with | [_, _, _, _], _ => rfl), kw_all (kf := []) (by decide +kernel) all0⟩
theorem ok68 (X : K.In h) (G : h.Ns mainGlobals mg) (c : He.SaysD fa fn K) : DfOk dom K mg 68 c_law_4 := by
  obtain ⟨fd, F⟩ := c.def_ 30 (d := d68) rfl
  exact ⟨by decide, _, _, _, _, fd, _, He.glo_ok X G (c.fact 30 (f := .glo "law") rfl), F, sc68, chk68, F.bindsN (fun _ _ _ _ _ _ us hl => match us, hl with | [_], _ => rfl), kw_all (kf := []) (by decide +kernel) all0⟩
theorem lawOk (X : K.In h) (G : h.Ns mainGlobals mg) (c : He.SaysD fa fn K) : LawOk dom K mg := lawOk_of (allc (ok1 X G c) (allc (ok2 X G c) (allc (ok3 X G c) (allc (ok4 X G c) (allc (ok5 X G c) (allc (ok6 X G c) (allc (ok62 X G c) (allc (ok8 X G c) (allc (ok9 X G c) (allc (ok10 X G c) (allc (ok63 X G c) (allc (ok64 X G c) (allc (ok13 X G c) (allc (ok65 X G c) (allc (ok66 X G c) (allc (ok16 X G c) (allc (ok17 X G c) (allc (ok18 X G c) (allc (ok19 X G c) (allc (ok20 X G c) (allc (ok21 X G c) (allc (ok22 X G c) (allc (ok23 X G c) (allc (ok24 X G c) (allc (ok25 X G c) (allc (ok26 X G c) (allc (ok27 X G c) (allc (ok28 X G c) (allc (ok29 X G c) (allc (ok67 X G c) (allc (ok68 X G c) all0))))))))))))))))))))))))))))))) (allc (He.free_ok X G (c.fact 31 (f := .free "all") rfl)) (allc (He.free_ok X G (c.fact 32 (f := .free "bool") rfl)) (allc (He.free_ok X G (c.fact 33 (f := .free "enumerate") rfl)) (allc (He.free_ok X G (c.fact 34 (f := .free "int") rfl)) (allc (He.free_ok X G (c.fact 35 (f := .free "isinstance") rfl)) (allc (He.free_ok X G (c.fact 36 (f := .free "len") rfl)) (allc (He.free_ok X G (c.fact 37 (f := .free "list") rfl)) (allc (He.free_ok X G (c.fact 38 (f := .free "max") rfl)) (allc (He.free_ok X G (c.fact 39 (f := .free "min") rfl)) (allc (He.free_ok X G (c.fact 40 (f := .free "range") rfl)) (allc (He.free_ok X G (c.fact 41 (f := .free "repr") rfl)) (allc (He.free_ok X G (c.fact 42 (f := .free "str") rfl)) (allc (He.free_ok X G (c.fact 43 (f := .free "sum") rfl)) (allc (He.free_ok X G (c.fact 44 (f := .free "tuple") rfl)) (allc (He.free_ok X G (c.fact 45 (f := .free "zip") rfl)) all0))))))))))))))) (allc (con_int (He.int_ok X G (c.fact 46 (f := .int "MOST_CHAMBERS" 5) rfl))) (allc (con_int (He.int_ok X G (c.fact 47 (f := .int "MOST_DEPTHS" 5) rfl))) all0))
end
abbrev Rw : PySem.W.OpenRow := PySem.W.OpenLaw.row PySem.Challenge.rw_keyedapart_k01_opening_locks
abbrev hk : PySem.W.Hook := He.hookD 4 fa fn
def ob (s : PySem.W.SharedT) : He.AlD := He.obsDG 4 fa fn (HandSHeadRun.getT s)
theorem ob_eq (s : PySem.W.SharedT) : ob s = hk.obs s.abs := He.obsDG_eq (HandSHeadRun.getT_eq s)
def loose : List Str := [(Str.ofString "MOST_CHAMBERS"), (Str.ofString "MOST_DEPTHS"), (Str.ofString "KeyedError"), (Str.ofString "BadMake"), (Str.ofString "BadKey"), (Str.ofString "BadLock"), (Str.ofString "is_integer"), (Str.ofString "is_within"), (Str.ofString "is_row"), (Str.ofString "are_within"), (Str.ofString "is_ascending"), (Str.ofString "is_make"), (Str.ofString "need_make"), (Str.ofString "is_key_form"), (Str.ofString "are_cuts"), (Str.ofString "is_lock_form"), (Str.ofString "need_key"), (Str.ofString "need_lock"), (Str.ofString "does_open"), (Str.ofString "opens"), (Str.ofString "apart_in"), (Str.ofString "_law_feed"), (Str.ofString "_law_draw"), (Str.ofString "_law_one"), (Str.ofString "_law_mixed"), (Str.ofString "_law_same"), (Str.ofString "_law_make"), (Str.ofString "_law_key"), (Str.ofString "_law_cuts"), (Str.ofString "_law_lock"), (Str.ofString "_law_every"), (Str.ofString "_law_size"), (Str.ofString "_law_full"), (Str.ofString "_law_apart"), (Str.ofString "_law_tried"), (Str.ofString "_law_tells")]
theorem run (w : World) : HandSHeadRun.RunEq Rw (PySem.W.view Rw.prog [42]) hk ob 20000 loose w := by
  intro os
  kernel_rfl
theorem holds_of (k : Nat) (hr : Room k callerA) (ev : ∀ ns : List Int, ns.length ≤ 63 → ∃ S, evCall dom.T k 68 [.d (.list (ns.map .int))] [] = .ok (.d (.bool true)) S) : PySem.Challenge.rw_keyedapart_k01_opening_locks.Holds := by
  w_on; o_law
  refine HandSHeadRun.head_any (r := Rw) (q := PySem.W.view Rw.prog [42]) (H := hk) (ob := ob) (M := 20000) (loose := loose) (d := HandSHeadRun.topDef Rw.prog 42) (kwd := []) ob_eq
    (by kernel_rfl) (fun s => by kernel_rfl) run (by kernel_rfl) (by kernel_rfl) (by kernel_rfl) (by rfl) (by first | assumption | decide +kernel) (by decide +kernel) ⟨rfl, rfl, rfl, rfl, rfl, by decide +kernel⟩ ?hw ?hc
  case hw => w_witness2
  case hc =>
    exact walk_ev (D := dom) (l := PySem.Challenge.rw_keyedapart_k01_opening_locks) (n := 63) (k := k) (f := 68) (d := c_law_4) (x := (Str.ofString "script")) rfl (by decide) (by kernel_rfl) hr (by rfl) (by rfl) (by kernel_rfl) (fun w mg h Y G => let ⟨K, KX, c⟩ := Y; ⟨K, KX, lawOk KX G c⟩) ev
end KA.K01
/-! KAEv: reasoning about the evaluator. -/
namespace KA
open PySem
section
variable {α β : Type}
/-- it ends well, and Q holds of the end -/
def Ok (r : R α) (Q : α → Sto → Prop) : Prop := match r with
  | .ok a S => Q a S
  | _ => False
@[simp] theorem ok_ok (a : α) (S : Sto) (Q : α → Sto → Prop) : Ok (.ok a S) Q = Q a S := Eq.trans rfl rfl
@[simp] theorem ok_bad (Q : α → Sto → Prop) : Ok (.bad) Q = False := Eq.trans rfl rfl
@[simp] theorem ok_exc (e : Ex) (S : Sto) (Q : α → Sto → Prop) : Ok (.exc e S) Q = False := Eq.trans rfl rfl
@[simp] theorem ok_bind (r : R α) (f : α → Sto → R β) (Q : β → Sto → Prop) : Ok (r.bind f) Q = Ok r fun a S => Ok (f a S) Q := by
  cases r <;> rfl
theorem Ok.imp {r : R α} {Q Q' : α → Sto → Prop} (h : Ok r Q) (i : ∀ a S, Q a S → Q' a S) : Ok r Q' := by
  cases r with
  | ok a S => exact i a S h
  | exc e S => exact h
  | bad => exact h
theorem Ok.eq {r : R α} {a : α} {S : Sto} (h : Ok r fun v S' => v = a ∧ S' = S) : r = .ok a S := by
  cases r with
  | ok b S' => obtain ⟨rfl, rfl⟩ := (show b = a ∧ S' = S from h); rfl
  | exc e S' => exact h.elim
  | bad => exact h.elim
theorem Ok.ex {r : R α} {Q : α → Sto → Prop} (h : Ok r Q) : ∃ a S, r = .ok a S ∧ Q a S := by
  cases r with
  | ok a S => exact ⟨a, S, rfl, h⟩
  | exc e S => exact h.elim
  | bad => exact h.elim
def OkS (r : SR) (N : Sg → Sto → Prop) (Q : VV → Sto → Prop) : Prop := match r with
  | .nx σ S => N σ S
  | .rt v S => Q v S
  | _ => False
@[simp] theorem okS_nx (σ : Sg) (S : Sto) (N : Sg → Sto → Prop) (Q : VV → Sto → Prop) : OkS (.nx σ S) N Q = N σ S := Eq.trans rfl rfl
@[simp] theorem okS_rt (v : VV) (S : Sto) (N : Sg → Sto → Prop) (Q : VV → Sto → Prop) : OkS (.rt v S) N Q = Q v S := Eq.trans rfl rfl
@[simp] theorem okS_bad (N : Sg → Sto → Prop) (Q : VV → Sto → Prop) : OkS .bad N Q = False := Eq.trans rfl rfl
@[simp] theorem okS_exc (e : Ex) (σ : Sg) (S : Sto) (N : Sg → Sto → Prop) (Q : VV → Sto → Prop) : OkS (.exc e σ S) N Q = False := Eq.trans rfl rfl
@[simp] theorem okS_bind (r : SR) (f : Sg → Sto → SR) (N : Sg → Sto → Prop) (Q : VV → Sto → Prop) : OkS (r.bind f) N Q = OkS r (fun σ S => OkS (f σ S) N Q) Q := by
  cases r <;> rfl
@[simp] theorem okS_then (r : R α) (σ : Sg) (f : α → Sto → SR) (N : Sg → Sto → Prop) (Q : VV → Sto → Prop) : OkS (r.thenS σ f) N Q = Ok r fun a S => OkS (f a S) N Q := by
  cases r <;> rfl
theorem OkS.imp {r : SR} {N N' : Sg → Sto → Prop} {Q Q' : VV → Sto → Prop} (h : OkS r N Q) (i : ∀ σ S, N σ S → N' σ S) (j : ∀ v S, Q v S → Q' v S) : OkS r N' Q' := by
  cases r with
  | nx σ S => exact i σ S h
  | rt v S => exact j v S h
  | exc e σ S => exact h
  | bad => exact h
end
section
variable {call : Nat → List VV → Sto → R VV} {par : Nat → List Str}
@[simp] theorem evT_isin (σ : Sg) (a : CE) (ts : List Tn) (S : Sto) : evT call par σ (.isin a ts) S = (evE call par σ (.isin a ts) S).bind fun v S => op1 truthD S v := by simp only [evT]
@[simp] theorem evT_cmp (σ : Sg) (op : CmpOp) (a b : CE) (S : Sto) : evT call par σ (.cmp op a b) S = (evE call par σ (.cmp op a b) S).bind fun v S => op1 truthD S v := by simp only [evT]
@[simp] theorem evT_cmp2 (σ : Sg) (p q : CmpOp) (a b c : CE) (S : Sto) : evT call par σ (.cmp2 p q a b c) S = (evE call par σ (.cmp2 p q a b c) S).bind fun v S => op1 truthD S v := by simp only [evT]
@[simp] theorem evT_isn (σ : Sg) (n : Bool) (a : CE) (S : Sto) : evT call par σ (.isn n a) S = (evE call par σ (.isn n a) S).bind fun v S => op1 truthD S v := by simp only [evT]
@[simp] theorem evT_call (σ : Sg) (f : Nat) (as : CEs) (S : Sto) : evT call par σ (.call f as) S = (evE call par σ (.call f as) S).bind fun v S => op1 truthD S v := by simp only [evT]
@[simp] theorem evT_callk (σ : Sg) (f : Nat) (ks : List Str) (as : CEs) (S : Sto) : evT call par σ (.callk f ks as) S = (evE call par σ (.callk f ks as) S).bind fun v S => op1 truthD S v := by simp only [evT]
@[simp] theorem evT_var (σ : Sg) (i : Nat) (S : Sto) : evT call par σ (.var i) S = (evE call par σ (.var i) S).bind fun v S => op1 truthD S v := by simp only [evT]
@[simp] theorem evT_blt (σ : Sg) (b : Bn) (as : CEs) (S : Sto) : evT call par σ (.blt b as) S = (evE call par σ (.blt b as) S).bind fun v S => op1 truthD S v := by simp only [evT]
@[simp] theorem evT_sub (σ : Sg) (a i : CE) (S : Sto) : evT call par σ (.sub a i) S = (evE call par σ (.sub a i) S).bind fun v S => op1 truthD S v := by simp only [evT]
@[simp] theorem evT_bnot (σ : Sg) (a : CE) (S : Sto) : evT call par σ (.bnot a) S = (evT call par σ a S).bind fun b S => .ok (!b) S := by simp only [evT]
@[simp] theorem evT_band (σ : Sg) (as : CEs) (S : Sto) : evT call par σ (.band as) S = evTAnd call par σ as S := by simp only [evT]
@[simp] theorem evT_bor (σ : Sg) (as : CEs) (S : Sto) : evT call par σ (.bor as) S = evTOr call par σ as S := by simp only [evT]
@[simp] theorem op1_bool (f : PD → Option Bool) (S : Sto) (x : PD) : op1 f S (.d x) = R.opt (f x) S := Eq.trans rfl rfl
@[simp] theorem truth_bool (b : Bool) : truthD (.bool b) = some b := Eq.trans rfl rfl
@[simp] theorem bool_bool (b : Bool) : boolD (.bool b) = some b := Eq.trans rfl rfl
@[simp] theorem int_int (i : Int) : intD (.int i) = some i := Eq.trans rfl rfl
@[simp] theorem add_int (i j : Int) : binD .Add (.int i) (.int j) = some (.int (i + j)) := Eq.trans rfl rfl
@[simp] theorem sub_int (i j : Int) : binD .Sub (.int i) (.int j) = some (.int (i - j)) := Eq.trans rfl rfl
@[simp] theorem lt_int (i j : Int) : cmpD .Lt (.int i) (.int j) = some (decide (i < j)) := Eq.trans rfl rfl
@[simp] theorem le_int (i j : Int) : cmpD .LtE (.int i) (.int j) = some (decide (i ≤ j)) := Eq.trans rfl rfl
@[simp] theorem gt_int (i j : Int) : cmpD .Gt (.int i) (.int j) = some (decide (j < i)) := Eq.trans rfl rfl
@[simp] theorem ge_int (i j : Int) : cmpD .GtE (.int i) (.int j) = some (decide (j ≤ i)) := Eq.trans rfl rfl
@[simp] theorem eq_int (i j : Int) : cmpD .Eq (.int i) (.int j) = some (i == j) := Eq.trans rfl rfl
@[simp] theorem ne_int (i j : Int) : cmpD .NotEq (.int i) (.int j) = some (!(i == j)) := Eq.trans rfl rfl
@[simp] theorem eq_str (i j : Str) : cmpD .Eq (.str i) (.str j) = some (i == j) := Eq.trans rfl rfl
@[simp] theorem eq_bool (i j : Bool) : cmpD .Eq (.bool i) (.bool j) = some (i == j) := Eq.trans rfl rfl
@[simp] theorem ne_bool (i j : Bool) : cmpD .NotEq (.bool i) (.bool j) = some (!(i == j)) := Eq.trans rfl rfl
@[simp] theorem ne_str (i j : Str) : cmpD .NotEq (.str i) (.str j) = some (!(i == j)) := Eq.trans rfl rfl
@[simp] theorem len_list (ds : List PD) : bltD .len [.list ds] = some (.int ds.length) := Eq.trans rfl rfl
@[simp] theorem len_tuple (ds : List PD) : bltD .len [.tuple ds] = some (.int ds.length) := Eq.trans rfl rfl
@[simp] theorem tuple_list (ds : List PD) : bltD .tuple_ [.list ds] = some (.tuple ds) := Eq.trans rfl rfl
@[simp] theorem tuple_tuple (ds : List PD) : bltD .tuple_ [.tuple ds] = some (.tuple ds) := Eq.trans rfl rfl
@[simp] theorem list_list (ds : List PD) : bltD .list_ [.list ds] = some (.list ds) := Eq.trans rfl rfl
@[simp] theorem list_tuple (ds : List PD) : bltD .list_ [.tuple ds] = some (.list ds) := Eq.trans rfl rfl
@[simp] theorem int_of_int (i : Int) : bltD .int_ [.int i] = some (.int i) := Eq.trans rfl rfl
@[simp] theorem max_int (i j : Int) : bltD .max_ [.int i, .int j] = some (.int (if j > i then j else i)) := Eq.trans rfl rfl
@[simp] theorem min_int (i j : Int) : bltD .min_ [.int i, .int j] = some (.int (if j < i then j else i)) := Eq.trans rfl rfl
@[simp] theorem items_list (ds : List PD) : itemsD (.list ds) = some ds := Eq.trans rfl rfl
@[simp] theorem items_tuple (ds : List PD) : itemsD (.tuple ds) = some ds := Eq.trans rfl rfl
@[simp] theorem zip_list (a b : List PD) : zipP (.list a) (.list b) = some (zipD a b) := Eq.trans rfl rfl
@[simp] theorem zip_tuple (a b : List PD) : zipP (.tuple a) (.tuple b) = some (zipD a b) := Eq.trans rfl rfl
@[simp] theorem newM_false (d : PD) (S : Sto) : newM false d S = .ok (.d d) S := by cases d <;> rfl
@[simp] theorem newM_true (ds : List PD) (S : Sto) : newM true (.list ds) S = .ok (.loc S.length) (S ++ [.lst ds]) := Eq.trans rfl rfl
theorem bltVs_d (b : Bn) (hb : b ≠ .listM) (x : PD) (S : Sto) : bltVs b [.d x] S = (R.opt (bltD b [x]) S).bind fun z S => .ok (.d z) S := by
  unfold bltVs
  simp only [rds, rd_d]
  cases b <;> first | rfl | exact absurd rfl hb
@[simp] theorem boolsD_mp {γ : Type} (f : γ → Bool) : ∀ l : List γ, boolsD (l.map fun x => .bool (f x)) = some (l.map f)
  | [] => rfl
  | x :: r => by simp [boolsD, boolsD_mp f r]
@[simp] theorem intsD_mp : ∀ l : List Int, intsD (l.map .int) = some l
  | [] => rfl
  | x :: r => by simp [intsD, intsD_mp r]
@[simp] theorem blt1_len (x : PD) (S : Sto) : bltVs .len [.d x] S = (R.opt (bltD .len [x]) S).bind fun z S => .ok (.d z) S := bltVs_d _ (by decide) x S
@[simp] theorem blt1_sum (x : PD) (S : Sto) : bltVs .sum [.d x] S = (R.opt (bltD .sum [x]) S).bind fun z S => .ok (.d z) S := bltVs_d _ (by decide) x S
@[simp] theorem blt1_all_ (x : PD) (S : Sto) : bltVs .all_ [.d x] S = (R.opt (bltD .all_ [x]) S).bind fun z S => .ok (.d z) S := bltVs_d _ (by decide) x S
@[simp] theorem blt1_any_ (x : PD) (S : Sto) : bltVs .any_ [.d x] S = (R.opt (bltD .any_ [x]) S).bind fun z S => .ok (.d z) S := bltVs_d _ (by decide) x S
@[simp] theorem blt1_int_ (x : PD) (S : Sto) : bltVs .int_ [.d x] S = (R.opt (bltD .int_ [x]) S).bind fun z S => .ok (.d z) S := bltVs_d _ (by decide) x S
@[simp] theorem blt1_repr_ (x : PD) (S : Sto) : bltVs .repr_ [.d x] S = (R.opt (bltD .repr_ [x]) S).bind fun z S => .ok (.d z) S := bltVs_d _ (by decide) x S
@[simp] theorem blt1_str_ (x : PD) (S : Sto) : bltVs .str_ [.d x] S = (R.opt (bltD .str_ [x]) S).bind fun z S => .ok (.d z) S := bltVs_d _ (by decide) x S
@[simp] theorem blt1_tuple_ (x : PD) (S : Sto) : bltVs .tuple_ [.d x] S = (R.opt (bltD .tuple_ [x]) S).bind fun z S => .ok (.d z) S := bltVs_d _ (by decide) x S
@[simp] theorem blt1_list_ (x : PD) (S : Sto) : bltVs .list_ [.d x] S = (R.opt (bltD .list_ [x]) S).bind fun z S => .ok (.d z) S := bltVs_d _ (by decide) x S
@[simp] theorem blt1_sorted_ (x : PD) (S : Sto) : bltVs .sorted_ [.d x] S = (R.opt (bltD .sorted_ [x]) S).bind fun z S => .ok (.d z) S := bltVs_d _ (by decide) x S
@[simp] theorem blt1_max_ (x : PD) (S : Sto) : bltVs .max_ [.d x] S = (R.opt (bltD .max_ [x]) S).bind fun z S => .ok (.d z) S := bltVs_d _ (by decide) x S
@[simp] theorem blt1_min_ (x : PD) (S : Sto) : bltVs .min_ [.d x] S = (R.opt (bltD .min_ [x]) S).bind fun z S => .ok (.d z) S := bltVs_d _ (by decide) x S
@[simp] theorem blt2_max_ (x y : PD) (S : Sto) : bltVs .max_ [.d x, .d y] S = (R.opt (bltD .max_ [x, y]) S).bind fun z S => .ok (.d z) S := Eq.trans rfl rfl
@[simp] theorem blt2_min_ (x y : PD) (S : Sto) : bltVs .min_ [.d x, .d y] S = (R.opt (bltD .min_ [x, y]) S).bind fun z S => .ok (.d z) S := Eq.trans rfl rfl
@[simp] theorem blt1_listM (x : PD) (S : Sto) : bltVs .listM [.d x] S = (R.opt (bltD .list_ [x]) S).bind fun z S => newM true z S := Eq.trans rfl rfl
@[simp] theorem all_list (ds : List PD) : bltD .all_ [.list ds] = (boolsD ds).map fun bs => .bool (bs.all id) := Eq.trans rfl rfl
@[simp] theorem any_list (ds : List PD) : bltD .any_ [.list ds] = (boolsD ds).map fun bs => .bool (bs.any id) := Eq.trans rfl rfl
@[simp] theorem sum_list (ds : List PD) : bltD .sum [.list ds] = (intsD ds).map fun ns => .int ns.sum := Eq.trans rfl rfl
end
theorem atI_nat {α : Type} (xs : List α) (n : Nat) : L2.atI xs (n : Int) = xs[n]? := by
  unfold L2.atI L2.ixN
  by_cases h : n < xs.length
  · simp [h]
  · simp [h]
theorem sub_tup_nat (ds : List PD) (n : Nat) : subD (.tuple ds) (.int n) = ds[n]? := atI_nat ds n
theorem sub_list_nat (ds : List PD) (n : Nat) : subD (.list ds) (.int n) = ds[n]? := atI_nat ds n
/-! ### comprehensions -/
theorem loopC_pure {f : PD → Sto → R (Option PD)} {S : Sto} {p : PD → Bool} {g : PD → PD} : ∀ {items acc : List PD}, (∀ x ∈ items, f x S = .ok (if p x = true then some (g x) else none) S) → acc.length + items.length ≤ SZ → loopC f items acc S = .ok (acc ++ (items.filter p).map g) S
  | [], acc, _, _ => by simp [loopC]
  | x :: r, acc, h, hz => by
    unfold loopC
    rw [h x (by simp)]
    cases hp : p x with
    | true =>
      simp only [if_true]
      rw [if_pos (by simp at hz; omega), loopC_pure (fun y hy => h y (by simp [hy])) (by simp at hz ⊢; omega)]
      simp [hp]
    | false =>
      simp only [Bool.false_eq_true, if_false]
      rw [loopC_pure (fun y hy => h y (by simp [hy])) (by simp at hz ⊢; omega)]
      simp [hp]
theorem loopC_some {g : PD → PD} {S : Sto} {items acc : List PD} (hz : acc.length + items.length ≤ SZ) : loopC (fun x S => .ok (some (g x)) S) items acc S = .ok (acc ++ items.map g) S := by
  rw [loopC_pure (p := fun _ => true) (g := g) (fun x hx => by simp) hz, List.filter_eq_self.mpr (by simp)]
theorem loopC_if {p : PD → Bool} {g : PD → PD} {S : Sto} {items acc : List PD} (hz : acc.length + items.length ≤ SZ) : loopC (fun x S => if p x = true then .ok (some (g x)) S else .ok none S) items acc S = .ok (acc ++ (items.filter p).map g) S := by
  rw [loopC_pure (p := p) (g := g) (fun x hx => by cases p x <;> rfl) hz]
theorem loopC_map {f : PD → Sto → R (Option PD)} {S : Sto} {g : PD → PD} {items : List PD} (h : ∀ x ∈ items, f x S = .ok (some (g x)) S) (hz : items.length ≤ SZ) : loopC f items [] S = .ok (items.map g) S := by
  rw [loopC_pure (p := fun _ => true) (g := g) (fun x hx => by simpa using h x hx) (by simpa using hz), List.filter_eq_self.mpr (by simp)]
  rfl
theorem loopC_mapF {γ : Type} {f : PD → Sto → R (Option PD)} {S : Sto} {F G : γ → PD} {p : γ → Bool} : ∀ {l : List γ} {acc : List PD}, (∀ y ∈ l, f (F y) S = .ok (if p y = true then some (G y) else none) S) → acc.length + l.length ≤ SZ → loopC f (l.map F) acc S = .ok (acc ++ (l.filter p).map G) S
  | [], acc, _, _ => by simp [loopC]
  | x :: r, acc, h, hz => by
    rw [List.map_cons]
    unfold loopC
    rw [h x (by simp)]
    cases hp : p x with
    | true =>
      simp only [if_true]
      rw [if_pos (by simp at hz; omega), loopC_mapF (fun y hy => h y (by simp [hy])) (by simp at hz ⊢; omega)]
      simp [hp]
    | false =>
      simp only [Bool.false_eq_true, if_false]
      rw [loopC_mapF (fun y hy => h y (by simp [hy])) (by simp at hz ⊢; omega)]
      simp [hp]
theorem loopC_all {γ : Type} {f : PD → Sto → R (Option PD)} {S : Sto} {F G : γ → PD} {l : List γ} (h : ∀ y ∈ l, f (F y) S = .ok (some (G y)) S) (hz : l.length ≤ SZ) : loopC f (l.map F) [] S = .ok (l.map G) S := by
  rw [loopC_mapF (p := fun _ => true) (G := G) (fun y hy => by simpa using h y hy) (by simpa using hz), List.filter_eq_self.mpr (by simp)]
  rfl
theorem zipD_map {γ δ : Type} (F : γ → PD) (G : δ → PD) : ∀ (l : List γ) (m : List δ), zipD (l.map F) (m.map G) = (l.zip m).map fun p => .tuple [F p.1, G p.2]
  | [], _ => by simp [zipD]
  | _ :: _, [] => by simp [zipD]
  | a :: r, b :: t => by simp [zipD, zipD_map F G r t]
theorem enumD_map {γ : Type} (F : γ → PD) : ∀ (l : List γ) (n : Nat), enumD n (l.map F) = (l.zipIdx n).map fun p => .tuple [.int p.2, F p.1]
  | [], _ => by simp [enumD]
  | a :: r, n => by simp [enumD, enumD_map F r (n + 1), List.zipIdx_cons]
/-- a comprehension that changes the store: I by what is made -/
theorem loopC_ok {f : PD → Sto → R (Option PD)} (I : List PD → List PD → Sto → Prop) : ∀ {items done acc : List PD} {S : Sto}, I done acc S → (∀ d x r a S, items = d ++ x :: r → I (done ++ d) a S → Ok (f x S) fun o S' => match o with | none => I (done ++ d ++ [x]) a S' | some y => a.length < SZ ∧ I (done ++ d ++ [x]) (a ++ [y]) S') →
    Ok (loopC f items acc S) fun ds S' => I (done ++ items) ds S'
  | [], done, acc, S, h, _ => by simpa [loopC] using h
  | x :: r, done, acc, S, h, st => by
    unfold loopC
    obtain ⟨o, S', e, q⟩ := (st [] x r acc S rfl (by simpa using h)).ex
    rw [e]
    have next : ∀ a S', I (done ++ [x]) a S' → Ok (loopC f r a S') fun ds S' => I (done ++ x :: r) ds S' := fun a S' hI => by
      have := loopC_ok I (items := r) (done := done ++ [x]) hI (fun d y t a S e2 hI => by
        have := st (x :: d) y t a S (by rw [e2]; rfl) (by simpa using hI)
        refine this.imp fun o S' q => ?_
        cases o <;> simpa using q)
      simpa using this
    cases o with
    | none => exact next _ _ (by simpa using q)
    | some y =>
      dsimp only at q ⊢
      rw [if_pos q.1]
      exact next _ _ (by simpa using q.2)
/-! ### loops -/
theorem loopF_ok {f : PD → Sg → Sto → SR} {items : List PD} {N : Sg → Sto → Prop} {Q : VV → Sto → Prop} (I : Nat → Sg → Sto → Prop) {σ : Sg} {S : Sto} (h0 : I 0 σ S) (st : ∀ i x σ S, items[i]? = some x → I i σ S → OkS (f x σ S) (I (i + 1)) Q)
    (fin : ∀ σ S, I items.length σ S → N σ S) : OkS (loopF f items σ S) N Q := by
  have aux : ∀ (r : List PD) (n : Nat) (σ : Sg) (S : Sto), items.drop n = r → n ≤ items.length → I n σ S → OkS (loopF f r σ S) N Q := by
    intro r
    induction r with
    | nil =>
      intro n σ S e hn h
      have : n = items.length := by
        have := congrArg List.length e
        rw [List.length_drop] at this
        simp at this
        omega
      subst this
      exact fin σ S h
    | cons x r ih =>
      intro n σ S e hn h
      have hx : items[n]? = some x := by
        have := congrArg (·[0]?) e
        simpa using this
      have hlt := (List.getElem?_eq_some_iff.mp hx).1
      unfold loopF
      rw [okS_bind]
      exact (st n x σ S hx h).imp (fun σ' S' h' => ih (n + 1) σ' S' (by rw [← List.drop_drop, e]; rfl) hlt h') (fun _ _ q => q)
  exact aux items 0 σ S rfl (Nat.zero_le _) h0
theorem bltVs_rd {b : Bn} (hb : b ≠ .listM) {v : VV} {x : PD} {S : Sto} (h : rd S v = some x) : bltVs b [v] S = (R.opt (bltD b [x]) S).bind fun z S => .ok (.d z) S := by
  unfold bltVs
  simp only [rds, h]
  cases b <;> first | rfl | exact absurd rfl hb
theorem bltVs_listM {v : VV} {ds : List PD} {S : Sto} (h : rd S v = some (.list ds) ∨ rd S v = some (.tuple ds)) : bltVs .listM [v] S = .ok (.loc S.length) (S ++ [.lst ds]) := by
  unfold bltVs
  rcases h with h | h <;> simp only [rds, h] <;> rfl
theorem meth_append {l : Nat} {x : PD} {S : Sto} {ds : List PD} (h : S[l]? = some (O.lst ds)) (hz : ds.length < SZ) : methV "append" (.loc l) [x] S = .ok (.d .none) (S.set l (.lst (ds ++ [x]))) := by
  unfold methV
  dsimp only
  rw [if_pos rfl]
  unfold mutD
  rw [h]
  dsimp only
  rw [if_pos hz]
theorem meth_extend {l : Nat} {xs : List PD} {S : Sto} {ds : List PD} (h : S[l]? = some (O.lst ds)) (hz : ds.length + xs.length ≤ SZ) : methV "extend" (.loc l) [.list xs] S = .ok (.d .none) (S.set l (.lst (ds ++ xs))) := by
  unfold methV
  dsimp only
  rw [if_neg (by decide +kernel), if_pos rfl]
  unfold mutD
  rw [h]
  dsimp only
  rw [if_pos hz]
theorem seqIndex_nat {i n : Nat} (h : i < n) : seqIndex? (i : Int) n = some i := by
  unfold seqIndex?
  have : ¬ ((i : Int) < 0) := by omega
  simp [this]
  omega
theorem pop_bound {i n : Nat} (h : i < n) (hz : n ≤ 16777216) : -(2 ^ 63) ≤ (i : Int) ∧ (i : Int) < 2 ^ 63 := by
  have e : (2 : Int) ^ 63 = 9223372036854775808 := by decide +kernel
  rw [e]
  omega
theorem popAt_nat {i : Nat} {x : PD} {ds : List PD} (hi : ds[i]? = some x) (hz : ds.length ≤ SZ) : popAt ds (i : Int) = some (x, ds.eraseIdx i) := by
  have hlt := (List.getElem?_eq_some_iff.mp hi).1
  unfold popAt
  rw [if_pos (pop_bound hlt hz), seqIndex_nat hlt]
  simp only [hi]
theorem pop_n1 : ¬ (("pop" : Str) = "append") := by decide +kernel
theorem pop_n2 : ¬ (("pop" : Str) = "extend") := by decide +kernel
theorem mutD_at {S : Sto} {l : Nat} {ds ds' : List PD} {x : PD} {f : List PD → Option (PD × List PD)} (h : S[l]? = some (O.lst ds)) (e : f ds = some (x, ds')) : mutD S l f = .ok (.d x) (S.set l (.lst ds')) := by
  unfold mutD
  rw [h]
  dsimp only
  rw [e]
theorem pop_key {A B : R VV} {S : Sto} {l : Nat} (F : List PD → Option (PD × List PD)) : (if ("pop" : Str) = "append" then A else if ("pop" : Str) = "extend" then B else if ("pop" : Str) = "pop" then mutD S l F else .bad) = mutD S l F := by
  rw [if_neg pop_n1, if_neg pop_n2, if_pos rfl]
theorem pop_eq {l : Nat} {i : Int} {S : Sto} : methV "pop" (.loc l) [.int i] S = mutD S l fun ds => popAt ds i := by
  unfold methV
  exact pop_key _
theorem meth_pop {l : Nat} {i : Nat} {x : PD} {S : Sto} {ds : List PD} (h : S[l]? = some (O.lst ds)) (hi : ds[i]? = some x) (hz : ds.length ≤ SZ) : methV "pop" (.loc l) [.int i] S = .ok (.d x) (S.set l (.lst (ds.eraseIdx i))) :=
  pop_eq.trans (mutD_at (f := fun ds => popAt ds (i : Int)) h (popAt_nat hi hz))
/-! ### calls -/
section
variable {T : Tab}
theorem ev_call {k f : Nat} {d : FD} {vs : List VV} {S : Sto} (hT : T f = some d) (hl : vs.length = d.np) : evCall T (k + 1) f vs S = finD d.retM S.length (evSs (evCall T k) (parOf T) d.body (startD d.N.length vs) S) := by
  unfold evCall
  rw [hT]
  dsimp only
  rw [if_pos hl]
/-- what a call hands back -/
def FinOk (m : Bool) (n : Nat) (v : VV) (S : Sto) (Q : VV → Sto → Prop) : Prop := Ok (finD m n (.rt v S)) Q
theorem ok_finD {m : Bool} {n : Nat} {r : SR} {Q : VV → Sto → Prop} : Ok (finD m n r) Q = OkS r (fun _ S => Q (.d .none) (S.take n)) (fun v S => FinOk m n v S Q) := by
  cases r <;> rfl
@[simp] theorem finOk_d {m : Bool} {n : Nat} {x : PD} {S : Sto} {Q : VV → Sto → Prop} : FinOk m n (.d x) S Q = Q (.d x) (S.take n) := Eq.trans rfl rfl
theorem finOk_new {n p : Nat} {S : Sto} {ds : List PD} {Q : VV → Sto → Prop} (hp : n ≤ p) (h : S[p]? = some (O.lst ds)) : FinOk false n (.loc p) S Q = Q (.d (.list ds)) (S.take n) := by
  unfold FinOk finD
  dsimp only
  rw [if_neg (by omega), h]
  rfl
theorem finOk_newM {n p : Nat} {S : Sto} {ds : List PD} {Q : VV → Sto → Prop} (hp : n ≤ p) (h : S[p]? = some (O.lst ds)) : FinOk true n (.loc p) S Q = Q (.loc n) (S.take n ++ [.lst ds]) := by
  unfold FinOk finD
  dsimp only
  rw [if_neg (by omega), h]
  rfl
theorem ok_call {k f : Nat} {d : FD} {vs : List VV} {S : Sto} {Q : VV → Sto → Prop} (hT : T f = some d) (hl : vs.length = d.np)
    (h : OkS (evSs (evCall T k) (parOf T) d.body (startD d.N.length vs) S) (fun _ S' => Q (.d .none) (S'.take S.length)) (fun v S' => FinOk d.retM S.length v S' Q)) : Ok (evCall T (k + 1) f vs S) Q := by
  rw [ev_call hT hl, ok_finD]
  exact h
/-- a call of a def that changes nothing -/
theorem eq_call {k f : Nat} {d : FD} {vs : List VV} {S : Sto} {x : PD} (hT : T f = some d) (hl : vs.length = d.np) (h : evSs (evCall T k) (parOf T) d.body (startD d.N.length vs) S = .rt (.d x) S) : evCall T (k + 1) f vs S = .ok (.d x) S := by
  rw [ev_call hT hl, h]
  show KA.R.ok (VV.d x) (S.take S.length) = _
  rw [List.take_length]
end
end KA
/-! KL1: makes, keys, locks: what the looks answer. -/
namespace KA
open PySem
def isInt : PD → Bool
  | .int _ => true
  | _ => false
def within (x : PD) (lo hi : Int) : Bool := match x with
  | .int i => decide (lo ≤ i) && decide (i ≤ hi)
  | _ => false
theorem isin_int (x : PD) : isinD x [.ty "int"] = some (isTy x "int") := by
  unfold isinD
  rw [if_pos (by decide)]
  cases isTy x "int" <;> simp [isinD]
theorem isin_bool (x : PD) : isinD x [.ty "bool"] = some (isTy x "bool") := by
  unfold isinD
  rw [if_pos (by decide)]
  cases isTy x "bool" <;> simp [isinD]
theorem isin_tuple (x : PD) : isinD x [.ty "tuple"] = some (isTy x "tuple") := by
  unfold isinD
  rw [if_pos (by decide)]
  cases isTy x "tuple" <;> simp [isinD]
theorem isin_list (x : PD) : isinD x [.ty "list"] = some (isTy x "list") := by
  unfold isinD
  rw [if_pos (by decide)]
  cases isTy x "list" <;> simp [isinD]
section
variable {T : Tab}
/-- the looks' defs -/
structure H1 (T : Tab) : Prop where
  h1 : T 1 = some c_is_integer
  h2 : T 2 = some c_is_within
  h3 : T 3 = some c_is_row
  h4 : T 4 = some c_are_within
  h5 : T 5 = some c_is_ascending
  h6 : T 6 = some c_is_make
  h8 : T 8 = some c_is_key_form
  h9 : T 9 = some c_are_cuts
  h10 : T 10 = some c_is_lock_form
theorem is_integer_ev (h : H1 T) {k : Nat} (hk : 1 ≤ k) (x : PD) (S : Sto) : evCall T k 1 [.d x] S = .ok (.d (.bool (isInt x))) S := by
  obtain ⟨k, rfl⟩ : ∃ j, k = j + 1 := ⟨k - 1, by omega⟩
  refine eq_call h.h1 rfl ?_
  cases x <;> simp [c_is_integer, startD, isin_int, isin_bool, isTy, tyD, isInt]
theorem is_within_ev (h : H1 T) {k : Nat} (hk : 2 ≤ k) (x : PD) (lo hi : Int) (S : Sto) : evCall T k 2 [.d x, .d (.int lo), .d (.int hi)] S = .ok (.d (.bool (within x lo hi))) S := by
  obtain ⟨k, rfl⟩ : ∃ j, k = j + 1 := ⟨k - 1, by omega⟩
  refine eq_call h.h2 rfl ?_
  cases x <;> simp [c_is_within, startD, is_integer_ev h (show 1 ≤ k by omega), isInt, within]
  rename_i i
  by_cases q : lo ≤ i <;> simp [q]
def isRow (x : PD) (lo hi : Int) : Bool := match x with
  | .tuple ds => decide (lo ≤ ds.length) && decide ((ds.length : Int) ≤ hi)
  | _ => false
theorem is_row_ev (h : H1 T) {k : Nat} (hk : 1 ≤ k) (x : PD) (lo hi : Int) (S : Sto) : evCall T k 3 [.d x, .d (.int lo), .d (.int hi)] S = .ok (.d (.bool (isRow x lo hi))) S := by
  obtain ⟨k, rfl⟩ : ∃ j, k = j + 1 := ⟨k - 1, by omega⟩
  refine eq_call h.h3 rfl ?_
  cases x <;> simp [c_is_row, startD, isin_tuple, isTy, tyD, isRow, bltVs_d]
  rename_i ds
  by_cases q : lo ≤ ds.length <;> simp [q]
def areWithin (x : PD) (n lo hi : Int) : Bool := match x with
  | .tuple ds => decide ((ds.length : Int) = n) && ds.all (within · lo hi)
  | _ => false
theorem are_within_ev (h : H1 T) {k : Nat} (hk : 3 ≤ k) (x : PD) (n lo hi : Int) (S : Sto) (hn : n ≤ 1000) : evCall T k 4 [.d x, .d (.int n), .d (.int lo), .d (.int hi)] S = .ok (.d (.bool (areWithin x n lo hi))) S := by
  obtain ⟨k, rfl⟩ : ∃ j, k = j + 1 := ⟨k - 1, by omega⟩
  refine eq_call h.h4 rfl ?_
  cases x <;> simp [c_are_within, startD, is_row_ev h (show 1 ≤ k by omega), isRow, areWithin]
  rename_i ds
  by_cases q : (ds.length : Int) = n
  · have hz : ([] : List PD).length + ds.length ≤ SZ := by show _ ≤ 16777216; simp; omega
    simp [q, bindTg, wipeD, Tg.slots, is_within_ev h (show 2 ≤ k by omega), loopC_some hz]
  · have q2 : ¬ (n ≤ ds.length ∧ (ds.length : Int) ≤ n) := by omega
    simp [q, q2]
/-- ascending ints -/
def asc (l : List Int) : Bool := (l.zip l.tail).all fun p => decide (p.1 < p.2)
theorem cut_drop (ds : List PD) : cutD ds (some 1) none = ds.tail := by
  unfold cutD HT.sIx
  cases ds with
  | nil => rfl
  | cons a r =>
    simp
theorem is_ascending_ev (h : H1 T) {k : Nat} (hk : 1 ≤ k) (l : List Int) (S : Sto) (hl : l.length ≤ 1000) : evCall T k 5 [.d (.tuple (l.map .int))] S = .ok (.d (.bool (asc l))) S := by
  obtain ⟨k, rfl⟩ : ∃ j, k = j + 1 := ⟨k - 1, by omega⟩
  refine eq_call h.h5 rfl ?_
  have hz : (l.zip l.tail).length ≤ SZ := by show _ ≤ 16777216; simp; omega
  simp only [c_is_ascending, startD]
  simp [slcD, cut_drop, ← List.map_tail, zipD_map]
  rw [loopC_all (G := fun p => .bool (decide (p.1 < p.2))) (fun p hp => by simp [bindTg, wipeD, Tg.slots]) hz]
  simp [asc]
def keyD (key : List Int) : PD := .tuple (key.map .int)
def cutsD (cuts : List Int) : PD := .tuple (cuts.map .int)
def lockD (lock : List (List Int)) : PD := .tuple (lock.map cutsD)
def makeD (c d : Int) : PD := .tuple [.int c, .int d]
/-- a key of the make, a lock of the make -/
def isKey (c d : Int) (key : List Int) : Bool := decide ((key.length : Int) = c) && key.all fun x => decide (0 ≤ x) && decide (x ≤ d - 1)
def areCuts (d : Int) (cuts : List Int) : Bool := decide (1 ≤ cuts.length) && decide ((cuts.length : Int) ≤ d) && (cuts.all fun x => decide (0 ≤ x) && decide (x ≤ d - 1)) && asc cuts
def isLock (c d : Int) (lock : List (List Int)) : Bool := decide ((lock.length : Int) = c) && lock.all (areCuts d)
@[simp] theorem sub0 (x : PD) (r : List PD) : subD (.tuple (x :: r)) (.int 0) = some x := by
  simp [subD, atD, L2.atI, L2.ixN]
@[simp] theorem sub1 (x y : PD) (r : List PD) : subD (.tuple (x :: y :: r)) (.int 1) = some y := by
  simp [subD, atD, L2.atI, L2.ixN]
  rw [if_pos (by omega)]
  rfl
theorem is_make_ev (h : H1 T) {k : Nat} (hk : 3 ≤ k) (c d : Int) (S : Sto) : evCall T k 6 [.d (makeD c d)] S = .ok (.d (.bool (decide (1 ≤ c) && decide (c ≤ 5) && (decide (2 ≤ d) && decide (d ≤ 5))))) S := by
  obtain ⟨k, rfl⟩ : ∃ j, k = j + 1 := ⟨k - 1, by omega⟩
  refine eq_call h.h6 rfl ?_
  simp [c_is_make, startD, makeD, is_row_ev h (show 1 ≤ k by omega), is_within_ev h (show 2 ≤ k by omega), isRow, within]
  by_cases q : 1 ≤ c <;> by_cases q2 : c ≤ 5 <;> simp [q, q2]
theorem is_key_ev (h : H1 T) {k : Nat} (hk : 4 ≤ k) {c d : Int} (hc : c ≤ 1000) (key : List Int) (S : Sto) : evCall T k 8 [.d (makeD c d), .d (keyD key)] S = .ok (.d (.bool (isKey c d key))) S := by
  obtain ⟨k, rfl⟩ : ∃ j, k = j + 1 := ⟨k - 1, by omega⟩
  refine eq_call h.h8 rfl ?_
  simp [c_is_key_form, startD, makeD, keyD, are_within_ev h (show 3 ≤ k by omega) _ _ _ _ _ hc, areWithin, isKey, List.all_map, Function.comp_def, within]
theorem are_cuts_ev (h : H1 T) {k : Nat} (hk : 3 ≤ k) {c d : Int} (hd : d ≤ 1000) (cuts : List Int) (S : Sto) : evCall T k 9 [.d (makeD c d), .d (cutsD cuts)] S = .ok (.d (.bool (areCuts d cuts))) S := by
  obtain ⟨k, rfl⟩ : ∃ j, k = j + 1 := ⟨k - 1, by omega⟩
  refine eq_call h.h9 rfl ?_
  simp only [c_are_cuts, startD]
  simp [makeD, cutsD, is_row_ev h (show 1 ≤ k by omega), isRow, areCuts]
  by_cases q : 1 ≤ cuts.length ∧ (cuts.length : Int) ≤ d
  · have hz : cuts.length ≤ SZ := by show _ ≤ 16777216; omega
    have q1 : (1 : Int) ≤ cuts.length := by omega
    simp [q.1, q.2]
    rw [loopC_all (G := fun x => .bool (decide (0 ≤ x) && decide (x ≤ d - 1))) (fun p hp => by simp [bindTg, wipeD, Tg.slots, is_within_ev h (show 2 ≤ k by omega), within]) hz]
    simp
    by_cases q2 : ∀ x ∈ cuts, 0 ≤ x ∧ x ≤ d - 1
    · simp only [is_ascending_ev h (show 1 ≤ k by omega) cuts _ (show cuts.length ≤ 1000 by omega)]
      rw [if_pos q1, if_pos q2]
      have q3 : (cuts.all fun x => decide (0 ≤ x) && decide (x ≤ d - 1)) = true := by simpa using q2
      simp [q3]
    · rw [if_pos q1, if_neg q2]
      have q3 : (cuts.all fun x => decide (0 ≤ x) && decide (x ≤ d - 1)) = false := by simpa using q2
      simp [q3]
  · have q1 : ¬ ((1 : Int) ≤ cuts.length ∧ (cuts.length : Int) ≤ d) := by omega
    have q2 : (decide (1 ≤ cuts.length) && decide ((cuts.length : Int) ≤ d)) = false := by simpa using q
    rw [if_neg q1]
    simp [q2]
theorem is_lock_ev (h : H1 T) {k : Nat} (hk : 4 ≤ k) {c d : Int} (hc : c ≤ 1000) (hd : d ≤ 1000) (lock : List (List Int)) (S : Sto) : evCall T k 10 [.d (makeD c d), .d (lockD lock)] S = .ok (.d (.bool (isLock c d lock))) S := by
  obtain ⟨k, rfl⟩ : ∃ j, k = j + 1 := ⟨k - 1, by omega⟩
  refine eq_call h.h10 rfl ?_
  simp only [c_is_lock_form, startD, lockD]
  have e : makeD c d = .tuple [.int c, .int d] := rfl
  simp [e, is_row_ev h (show 1 ≤ k by omega), isRow, isLock]
  rw [← e]
  by_cases q : (lock.length : Int) = c
  · have hz : lock.length ≤ SZ := by show _ ≤ 16777216; omega
    rw [loopC_all (G := fun x => .bool (areCuts d x)) (fun p hp => by simp [bindTg, wipeD, Tg.slots, are_cuts_ev h (show 3 ≤ k by omega) hd]) hz]
    simp [q]
  · rw [if_neg (by omega)]
    simp [q]
end
/-! ### comparing data of ints -/
theorem lay_ints : ∀ l : List Int, PyData.canLayAll0 (l.map .int) = true ∧ PyData.depthAll (l.map .int) = 0
  | [] => ⟨rfl, rfl⟩
  | x :: r => by
    obtain ⟨h1, h2⟩ := lay_ints r
    rw [List.map_cons]
    exact ⟨by rw [PyData.canLayAll0, h1]; rfl, by rw [PyData.depthAll, h2]; rfl⟩
theorem shaped_list (l : List Int) : SeqAt.shaped (.list (l.map .int)) = true := by
  obtain ⟨h1, h2⟩ := lay_ints l
  unfold SeqAt.shaped
  rw [PyData.canLay0, PyData.depth, h1, h2]
  rfl
theorem shaped_tuple (l : List Int) : SeqAt.shaped (.tuple (l.map .int)) = true := by
  obtain ⟨h1, h2⟩ := lay_ints l
  unfold SeqAt.shaped
  rw [PyData.canLay0, PyData.depth, h1, h2]
  rfl
theorem in_ints (x : Int) (l : List Int) : inD (.int x) (l.map .int) = some (decide (x ∈ l)) := by
  unfold inD
  rw [shaped_list, if_pos (by rfl)]
  congr 1
  rw [List.any_map, Bool.eq_iff_iff, List.any_eq_true, decide_eq_true_iff]
  constructor
  · rintro ⟨y, h1, h2⟩
    have : y = x := by simpa [PyData.eqv] using h2
    exact this ▸ h1
  · intro h
    exact ⟨x, h, by simp [PyData.eqv]⟩
theorem eqvAll_ints : ∀ a b : List Int, PyData.eqvAll (a.map .int) (b.map .int) = decide (a = b)
  | [], [] => rfl
  | [], _ :: _ => by simp [PyData.eqvAll]
  | _ :: _, [] => by simp [PyData.eqvAll]
  | x :: a, y :: b => by
    rw [List.map_cons, List.map_cons, PyData.eqvAll, eqvAll_ints a b, PyData.eqv]
    by_cases h1 : x = y <;> by_cases h2 : a = b <;> simp [h1, h2]
theorem eq_tup_ints (a b : List Int) : eqD (.tuple (a.map .int)) (.tuple (b.map .int)) = some (decide (a = b)) := by
  unfold eqD
  dsimp only
  rw [shaped_tuple, shaped_tuple, if_pos (by rfl), PyData.eqv, eqvAll_ints]
theorem eq_list_ints (a b : List Int) : eqD (.list (a.map .int)) (.list (b.map .int)) = some (decide (a = b)) := by
  unfold eqD
  dsimp only
  rw [shaped_list, shaped_list, if_pos (by rfl), PyData.eqv, eqvAll_ints]
section
variable {T : Tab}
structure H1b (T : Tab) : Prop where
  h1 : H1 T
  h62 : T 62 = some c_need_make_2
  h63 : T 63 = some c_need_key_2
  h64 : T 64 = some c_need_lock_2
  h13 : T 13 = some c_does_open
  h65 : T 65 = some c_opens_2
  h66 : T 66 = some c_apart_in_2
/-- a make -/
def isMake (c d : Int) : Prop := 1 ≤ c ∧ c ≤ 5 ∧ 2 ≤ d ∧ d ≤ 5
theorem eq_callN {k f : Nat} {d : FD} {vs : List VV} {S : Sto} {σ : Sg} (hT : T f = some d) (hl : vs.length = d.np) (h : evSs (evCall T k) (parOf T) d.body (startD d.N.length vs) S = .nx σ S) : evCall T (k + 1) f vs S = .ok (.d .none) S := by
  rw [ev_call hT hl, h]
  show KA.R.ok (VV.d .none) (S.take S.length) = _
  rw [List.take_length]
theorem need_make_ev (h : H1b T) {k : Nat} (hk : 4 ≤ k) {c d : Int} (hm : isMake c d) (S : Sto) : evCall T k 62 [.d (makeD c d)] S = .ok (.d .none) S := by
  obtain ⟨k, rfl⟩ : ∃ j, k = j + 1 := ⟨k - 1, by omega⟩
  obtain ⟨m1, m2, m3, m4⟩ := hm
  refine eq_callN (σ := [some (.d (makeD c d))]) h.h62 rfl ?_
  simp [c_need_make_2, startD, is_make_ev h.h1 (show 3 ≤ k by omega), m1, m2, m3, m4]
theorem need_key_ev (h : H1b T) {k : Nat} (hk : 5 ≤ k) {c d : Int} (hm : isMake c d) {key : List Int} (hkey : isKey c d key = true) (S : Sto) : evCall T k 63 [.d (makeD c d), .d (keyD key)] S = .ok (.d .none) S := by
  obtain ⟨k, rfl⟩ : ∃ j, k = j + 1 := ⟨k - 1, by omega⟩
  obtain ⟨m1, m2, m3, m4⟩ := hm
  refine eq_callN (σ := [some (.d (makeD c d)), some (.d (keyD key))]) h.h63 rfl ?_
  simp [c_need_key_2, startD, is_key_ev h.h1 (show 4 ≤ k by omega) (show c ≤ 1000 by omega), hkey]
theorem need_lock_ev (h : H1b T) {k : Nat} (hk : 5 ≤ k) {c d : Int} (hm : isMake c d) {lock : List (List Int)} (hlock : isLock c d lock = true) (S : Sto) : evCall T k 64 [.d (makeD c d), .d (lockD lock)] S = .ok (.d .none) S := by
  obtain ⟨k, rfl⟩ : ∃ j, k = j + 1 := ⟨k - 1, by omega⟩
  have hm' := hm
  obtain ⟨m1, m2, m3, m4⟩ := hm
  refine eq_callN (σ := [some (.d (makeD c d)), some (.d (lockD lock))]) h.h64 rfl ?_
  simp [c_need_lock_2, startD, need_make_ev h (show 4 ≤ k by omega) hm', is_lock_ev h.h1 (show 4 ≤ k by omega) (show c ≤ 1000 by omega) (show d ≤ 1000 by omega), hlock]
/-- the key opens the lock -/
def doesOpen (lock : List (List Int)) (key : List Int) : Bool := (key.zip lock).all fun p => decide (p.1 ∈ p.2)
theorem does_open_ev (h : H1b T) {k : Nat} (hk : 1 ≤ k) (lock : List (List Int)) (key : List Int) (hz : key.length ≤ 1000) (S : Sto) : evCall T k 13 [.d (lockD lock), .d (keyD key)] S = .ok (.d (.bool (doesOpen lock key))) S := by
  obtain ⟨k, rfl⟩ : ∃ j, k = j + 1 := ⟨k - 1, by omega⟩
  refine eq_call h.h13 rfl ?_
  have hz : (key.zip lock).length ≤ SZ := by show _ ≤ 16777216; simp; omega
  simp only [c_does_open, startD, lockD, keyD]
  simp [zipD_map]
  rw [loopC_all (G := fun p => .bool (decide (p.1 ∈ p.2))) (fun p hp => by simp [bindTg, wipeD, Tg.slots, cmpD, cutsD, in_ints]) hz]
  simp [doesOpen]
theorem opens_ev (h : H1b T) {k : Nat} (hk : 6 ≤ k) {c d : Int} (hm : isMake c d) {lock : List (List Int)} (hlock : isLock c d lock = true) {key : List Int} (hkey : isKey c d key = true) (S : Sto) : evCall T k 65 [.d (makeD c d), .d (lockD lock), .d (keyD key)] S = .ok (.d (.bool (doesOpen lock key))) S := by
  obtain ⟨k, rfl⟩ : ∃ j, k = j + 1 := ⟨k - 1, by omega⟩
  refine eq_call h.h65 rfl ?_
  have hl : key.length ≤ 1000 := by
    unfold isKey at hkey
    simp at hkey
    obtain ⟨_, m2, _⟩ := hm
    omega
  simp [c_opens_2, startD, need_lock_ev h (show 5 ≤ k by omega) hm hlock, need_key_ev h (show 5 ≤ k by omega) hm hkey, does_open_ev h (show 1 ≤ k by omega) lock key hl]
/-- the chambers in which it does not -/
def apartL (lock : List (List Int)) (key : List Int) : List Int := (lock.zipIdx.filter fun p => decide (key.getD p.2 0 ∉ p.1)).map fun p => (p.2 : Int)
theorem apart_in_ev (h : H1b T) {k : Nat} (hk : 6 ≤ k) {c d : Int} (hm : isMake c d) {lock : List (List Int)} (hlock : isLock c d lock = true) {key : List Int} (hkey : isKey c d key = true) (S : Sto) : evCall T k 66 [.d (makeD c d), .d (lockD lock), .d (keyD key)] S = .ok (.d (.tuple ((apartL lock key).map .int))) S := by
  obtain ⟨k, rfl⟩ : ∃ j, k = j + 1 := ⟨k - 1, by omega⟩
  refine eq_call h.h66 rfl ?_
  have hl : (key.length : Int) = c ∧ (lock.length : Int) = c := by
    unfold isKey at hkey
    unfold isLock at hlock
    simp at hkey hlock
    omega
  have hz : lock.zipIdx.length ≤ SZ := by
    show _ ≤ 16777216
    obtain ⟨_, m2, _⟩ := hm
    simp; omega
  simp [c_apart_in_2, startD, need_lock_ev h (show 5 ≤ k by omega) hm hlock, need_key_ev h (show 5 ≤ k by omega) hm hkey]
  simp only [lockD, keyD]
  simp [enumD_map]
  rw [loopC_mapF (p := fun p => decide (key.getD p.2 0 ∉ p.1)) (G := fun p => .int p.2) (fun p hp => ?_) (by simpa using hz)]
  · simp [apartL, List.map_map, Function.comp_def]
  · have hp2 : p.2 < key.length := by
      have := (List.mem_zipIdx_iff_getElem?.mp hp)
      have := (List.getElem?_eq_some_iff.mp this).1
      omega
    have hg : (key.map PyData.int)[p.2]? = some (.int (key.getD p.2 0)) := by
      rw [List.getElem?_map, List.getD_eq_getElem?_getD, List.getElem?_eq_getElem hp2]; rfl
    simp only [bindTg, wipeD, Tg.slots]
    simp [sub_tup_nat, hg, cmpD, cutsD, in_ints]
    split <;> rfl
end
end KA
/-! KL2: draws. -/
namespace KA
open PySem
@[simp] theorem pow18 : binD .Pow (.int 10) (.int 18) = some (.int (10 ^ 18)) := Eq.trans rfl rfl
@[simp] theorem pow38 : binD .Pow (.int 10) (.int 38) = some (.int (10 ^ 38)) := Eq.trans rfl rfl
@[simp] theorem pow43 : binD .Pow (.int 10) (.int 43) = some (.int (10 ^ 43)) := Eq.trans rfl rfl
@[simp] theorem pow39 : binD .Pow (.int 10) (.int 39) = some (.int (10 ^ 39)) := Eq.trans rfl rfl
@[simp] theorem pow11 : binD .Pow (.int 10) (.int 11) = some (.int (10 ^ 11)) := Eq.trans rfl rfl
theorem mul_ok {i j : Int} (h : mulOk i j = true) : binD .Mult (.int i) (.int j) = some (.int (i * j)) := by
  show (if mulOk i j = true then some (PyData.int (i * j)) else none) = _
  rw [if_pos h]
theorem mul_l {i j : Int} (h : -(2 ^ 64) < i ∧ i < 2 ^ 64) : binD .Mult (.int i) (.int j) = some (.int (i * j)) := mul_ok (by
  unfold mulOk
  rw [decide_eq_true (Or.inl h), Bool.true_or])
theorem mul_r {i j : Int} (h : -(2 ^ 64) < j ∧ j < 2 ^ 64) : binD .Mult (.int i) (.int j) = some (.int (i * j)) := mul_ok (by
  unfold mulOk
  rw [decide_eq_true (Or.inr h), Bool.true_or])
theorem mul_big {i j : Int} {a b : Nat} (hi : i.natAbs < 2 ^ a) (hj : j.natAbs < 2 ^ b) (h : a + b < 1000000) : binD .Mult (.int i) (.int j) = some (.int (i * j)) := mul_ok (by
  have h1 : i.natAbs.log2 ≤ a := by
    by_cases z : i.natAbs = 0
    · rw [z]; exact Nat.zero_le _
    · exact Nat.le_of_lt ((Nat.log2_lt z).mpr hi)
  have h2 : j.natAbs.log2 ≤ b := by
    by_cases z : j.natAbs = 0
    · rw [z]; exact Nat.zero_le _
    · exact Nat.le_of_lt ((Nat.log2_lt z).mpr hj)
  unfold mulOk
  rw [decide_eq_true (show i.natAbs.log2 + j.natAbs.log2 < 1000000 by omega), Bool.or_true])
theorem mod_pos {i j : Int} (h : 0 < j) : binD .Mod (.int i) (.int j) = some (.int (i % j)) := by
  show (if 0 < j then some (PyData.int (i % j)) else none) = _
  rw [if_pos h]
theorem div_pos {i j : Int} (h : 0 < j) (h2 : j < 2 ^ 64) : binD .FloorDiv (.int i) (.int j) = some (.int (i / j)) := by
  have h3 : j.natAbs.log2 < 9000 := by
    have : j.natAbs < 2 ^ 64 := by omega
    have := (Nat.log2_lt (show j.natAbs ≠ 0 by omega)).mpr this
    omega
  show (if 0 < j ∧ j.natAbs.log2 < 9000 then some (PyData.int (i / j)) else none) = _
  rw [if_pos ⟨h, h3⟩]
/-- a feed stands at l: three whole numbers, the last at most n -/
def FeedAt (S : Sto) (l : Nat) (n : Int) : Prop := ∃ a b c : Int, S[l]? = some (O.lst [.int a, .int b, .int c]) ∧ 0 ≤ a ∧ 0 ≤ b ∧ b < 10 ^ 39 ∧ 0 ≤ c ∧ c ≤ n
/-- only the feed has changed -/
def Fd (S S' : Sto) (l : Nat) (n : Int) : Prop := FeedAt S' l n ∧ S'.length = S.length ∧ ∀ j, j ≠ l → S'[j]? = S[j]?
theorem rd_at {S : Sto} {l : Nat} {ds : List PD} (h : S[l]? = some (O.lst ds)) : rd S (.loc l) = some (.list ds) := by
  simp [rd, h]
@[simp] theorem subl0 (x : PD) (r : List PD) : subD (.list (x :: r)) (.int 0) = some x := by
  simp [subD, atD, L2.atI, L2.ixN]
@[simp] theorem subl1 (x y : PD) (r : List PD) : subD (.list (x :: y :: r)) (.int 1) = some y := by
  simp [subD, atD, L2.atI, L2.ixN]
  rw [if_pos (by omega)]
  rfl
@[simp] theorem subl2 (x y z : PD) (r : List PD) : subD (.list (x :: y :: z :: r)) (.int 2) = some z := by
  simp [subD, atD, L2.atI, L2.ixN]
  rw [if_pos (by omega)]
  rfl
theorem set3 {S : Sto} {l : Nat} {x y z : PD} (h : S[l]? = some (O.lst [x, y, z])) (v : PD) : setItem S (.loc l) (.int 0) v = .ok () (S.set l (.lst [v, y, z])) ∧ setItem S (.loc l) (.int 2) v = .ok () (S.set l (.lst [x, y, v])) := by
  unfold setItem
  simp [h, L2.ixN]
theorem lt200 {x : Int} (h0 : 0 ≤ x) (h : x < 1606938044258990275541962092341162602522202993782792835301376) : x.natAbs < 2 ^ 200 := by
  have e : (2 : Nat) ^ 200 = 1606938044258990275541962092341162602522202993782792835301376 := by decide +kernel
  rw [e]
  omega
theorem sq400 {x : Int} (h : x.natAbs < 2 ^ 200) : (x * x).natAbs < 2 ^ 400 := by
  rw [Int.natAbs_mul]
  have e : (2 : Nat) ^ 200 * 2 ^ 200 = 2 ^ 400 := by decide +kernel
  have := Nat.mul_lt_mul'' h h
  rw [e] at this
  exact this
theorem stir200 {b c : Int} (hb : 0 ≤ b) (hb2 : b < 10 ^ 39) (hc : 0 ≤ c) (hc2 : c < 2 ^ 60) : (b * 5915587277 + (c + 1) * 1500450271 + 11).natAbs < 2 ^ 200 := by
  refine lt200 (by omega) ?_
  have e1 : (10 : Int) ^ 39 = 1000000000000000000000000000000000000000 := by decide +kernel
  have e2 : (2 : Int) ^ 60 = 1152921504606846976 := by decide +kernel
  rw [e1] at hb2
  rw [e2] at hc2
  omega
theorem mod200 (x : Int) : (x % 10000000000000000000000000000000000000000057).natAbs < 2 ^ 200 := by
  have h1 := Int.emod_nonneg x (show (10000000000000000000000000000000000000000057 : Int) ≠ 0 by decide)
  have h2 := Int.emod_lt_of_pos x (show (0 : Int) < 10000000000000000000000000000000000000000057 by decide)
  refine lt200 h1 ?_
  omega
theorem mul200 {x y : Int} (hx : x.natAbs < 2 ^ 200) (hy : y.natAbs < 2 ^ 200) : binD .Mult (.int x) (.int y) = some (.int (x * y)) := mul_big hx hy (by decide)
theorem mul400 {x y : Int} (hx : x.natAbs < 2 ^ 400) (hy : y.natAbs < 2 ^ 200) : binD .Mult (.int x) (.int y) = some (.int (x * y)) := mul_big hx hy (by decide)
section
variable {T : Tab}
theorem draw_ev (hT : T 17 = some c_law_draw) {k : Nat} (hk : 1 ≤ k) {S : Sto} {l : Nat} {n m : Int} (hm : 0 < m) (hm2 : m < 2 ^ 64) (hF : FeedAt S l n) (hn : n < 2 ^ 60) :
    Ok (evCall T k 17 [.loc l, .d (.int m)] S) fun v S' => ∃ i : Int, v = .d (.int i) ∧ 0 ≤ i ∧ i < m ∧ Fd S S' l (n + 1) := by
  obtain ⟨k, rfl⟩ : ∃ j, k = j + 1 := ⟨k - 1, by omega⟩
  obtain ⟨a, b, c, e, ha, hb, hb2, hc, hcn⟩ := hF
  have hl : l < S.length := (List.getElem?_eq_some_iff.mp e).1
  refine ok_call hT rfl ?_
  have tk : ∀ o : O, (S.set l o).take S.length = S.set l o := fun o => List.take_of_length_le (by simp)
  have gt : ∀ o : O, (S.set l o)[l]? = some o := fun o => by rw [List.getElem?_set_self hl]
  have fd : ∀ x y z : Int, 0 ≤ x → 0 ≤ y → y < 10 ^ 39 → 0 ≤ z → z ≤ n + 1 → Fd S (S.set l (.lst [.int x, .int y, .int z])) l (n + 1) := fun x y z h1 h2 h3 h4 h5 => ⟨⟨x, y, z, gt _, h1, h2, h3, h4, h5⟩, by simp, fun j hj => by rw [List.getElem?_set_ne (Ne.symm hj)]⟩
  simp only [c_law_draw, startD]
  simp [op2, rd_at e]
  by_cases h0 : 0 < a
  · simp [h0, mod_pos hm, rd_at e, div_pos hm hm2, set3 e]
    refine ⟨Int.emod_nonneg _ (by omega), Int.emod_lt_of_pos _ hm, ?_⟩
    rw [tk]
    exact fd _ _ _ (Int.ediv_nonneg ha (by omega)) hb hb2 hc (by omega)
  · have e2 := gt (.lst [.int a, .int b, .int (c + 1)])
    have mr : ∀ {x y : Int}, -(2 ^ 64) < y ∧ y < 2 ^ 64 → binD .Mult (.int x) (.int y) = some (.int (x * y)) := mul_r
    have hs := stir200 hb hb2 hc (show c < 2 ^ 60 by omega)
    generalize hst : b * 5915587277 + (c + 1) * 1500450271 + 11 = st at hs
    have hs2 := sq400 hs
    have hx1 := mod200 (st * st * st + 3267000013 * (c + 1))
    generalize hx : (st * st * st + 3267000013 * (c + 1)) % 10000000000000000000000000000000000000000057 = x at hx1
    simp [h0, rd_at e, set3 e, rd_at e2, mr, mul_l, hst, mul200 hs hs, mul400 hs2 hs, mod_pos, hx, mul200 hx1 hx1, div_pos, hm, op2]
    rw [tk]
    exact ⟨Int.emod_nonneg _ (by omega), Int.emod_lt_of_pos _ hm, fd _ _ _ ha hb hb2 (by omega) (by omega)⟩
end
end KA
/-! KL3: what the laws draw. -/
namespace KA
open PySem
theorem Fd.trans {S S1 S2 : Sto} {l : Nat} {n m : Int} (f : Fd S S1 l n) (g : Fd S1 S2 l m) : Fd S S2 l m := ⟨g.1, g.2.1.trans f.2.1, fun j hj => (g.2.2 j hj).trans (f.2.2 j hj)⟩
theorem FeedAt.le {S : Sto} {l : Nat} {n m : Int} (f : FeedAt S l n) (h : n ≤ m) : FeedAt S l m := by
  obtain ⟨a, b, c, e, h1, h2, h3, h4, h5⟩ := f
  exact ⟨a, b, c, e, h1, h2, h3, h4, by omega⟩
theorem Fd.le {S S' : Sto} {l : Nat} {n m : Int} (f : Fd S S' l n) (h : n ≤ m) : Fd S S' l m := ⟨f.1.le h, f.2⟩
theorem Fd.refl {S : Sto} {l : Nat} {n : Int} (h : FeedAt S l n) : Fd S S l n := ⟨h, rfl, fun _ _ => rfl⟩
theorem Fd.take {S S' : Sto} {l : Nat} {n : Int} (f : Fd S S' l n) : S'.take S.length = S' := List.take_of_length_le (by rw [f.2.1]; exact Nat.le_refl _)
theorem rd_ne {S S' : Sto} {l : Nat} {v : VV} (h : ∀ j, j ≠ l → S'[j]? = S[j]?) (hv : v ≠ .loc l) : rd S' v = rd S v := by
  cases v with
  | d x => rfl
  | ex e => rfl
  | loc j =>
    have : j ≠ l := fun e => hv (by rw [e])
    unfold rd
    simp only [h j this]
theorem Fd.rd {S S' : Sto} {l : Nat} {n : Int} {v : VV} (f : Fd S S' l n) (hv : v ≠ .loc l) : KA.rd S' v = KA.rd S v := rd_ne f.2.2 hv
/-- a shorter store with the same feed -/
theorem FeedAt.ext {S S' : Sto} {l : Nat} {n : Int} (f : FeedAt S l n) (h : S'[l]? = S[l]?) : FeedAt S' l n := by
  obtain ⟨a, b, c, e, hh⟩ := f
  exact ⟨a, b, c, by rw [h]; exact e, hh⟩
theorem FeedAt.lt {S : Sto} {l : Nat} {n : Int} (f : FeedAt S l n) : l < S.length := by
  obtain ⟨a, b, c, e, _⟩ := f
  exact (List.getElem?_eq_some_iff.mp e).1
/-- behind a call: only the feed has changed -/
theorem Fd.cut {S S' : Sto} {l : Nat} {n : Int} (hl : l < S.length) (h : FeedAt S' l n) (hz : S.length ≤ S'.length) (e : ∀ j, j < S.length → j ≠ l → S'[j]? = S[j]?) : Fd S (S'.take S.length) l n := by
  refine ⟨h.ext (by rw [List.getElem?_take_of_lt hl]), by rw [List.length_take]; omega, fun j hj => ?_⟩
  by_cases hlt : j < S.length
  · rw [List.getElem?_take_of_lt hlt, e j hlt hj]
  · rw [List.getElem?_eq_none (by rw [List.length_take]; omega), List.getElem?_eq_none (by omega)]
structure MixI (S : Sto) (l : Nat) (n : Int) (things : VV) (xs : List PD) (i : Nat) (σ : Sg) (S1 : Sto) : Prop where
  ex : ∃ tv left got, σ = [some (.loc l), some things, tv, some (.loc S.length), some (.loc (S.length + 1))] ∧ S1[S.length]? = some (O.lst left) ∧ S1[S.length + 1]? = some (O.lst got) ∧ S1.length = S.length + 2 ∧
    left.length + i = xs.length ∧ got.length = i ∧ (∀ y ∈ left, y ∈ xs) ∧ (∀ y ∈ got, y ∈ xs) ∧ FeedAt S1 l (n + i) ∧ ∀ j, j < S.length → j ≠ l → S1[j]? = S[j]?
section
variable {T : Tab}
structure H2 (T : Tab) : Prop where
  h17 : T 17 = some c_law_draw
  h18 : T 18 = some c_law_one
  h19 : T 19 = some c_law_mixed
  h21 : T 21 = some c_law_make
  h22 : T 22 = some c_law_key
  h23 : T 23 = some c_law_cuts
  h24 : T 24 = some c_law_lock
theorem getD_int {i m : Int} (h0 : 0 ≤ i) (h : i < m) : ∃ j : Nat, i = j ∧ (j : Int) < m := ⟨i.toNat, by omega, by omega⟩
theorem one_ev (h : H2 T) {k : Nat} (hk : 2 ≤ k) {S : Sto} {l : Nat} {n : Int} {things : VV} {xs : List PD} (hF : FeedAt S l n) (hn : n < 2 ^ 60) (hr : rd S things = some (.list xs) ∨ rd S things = some (.tuple xs)) (hne : things ≠ .loc l) (hx : 0 < xs.length) (hz : xs.length ≤ SZ) :
    Ok (evCall T k 18 [.loc l, things] S) fun v S' => ∃ x ∈ xs, v = .d x ∧ Fd S S' l (n + 1) := by
  obtain ⟨k, rfl⟩ : ∃ j, k = j + 1 := ⟨k - 1, by omega⟩
  refine ok_call h.h18 rfl ?_
  have hz' : xs.length ≤ 16777216 := hz
  have hb : bltVs .len [things] S = .ok (.d (.int xs.length)) S := by
    rcases hr with hr | hr <;> rw [bltVs_rd (by decide) hr] <;> simp
  simp only [c_law_one, startD]
  simp [hb]
  refine (draw_ev h.h17 (show 1 ≤ k by omega) (m := xs.length) (by omega) (by omega) hF hn).imp fun v S' ⟨i, ev, h0, h1, f⟩ => ?_
  subst ev
  obtain ⟨j, rfl, hj⟩ := getD_int h0 h1
  have hj' : j < xs.length := by omega
  have hg : xs[j]? = some xs[j] := by simp [hj']
  have hr' : rd S' things = some (.list xs) ∨ rd S' things = some (.tuple xs) := by rw [f.rd hne]; exact hr
  rcases hr' with hr' | hr' <;> simp [op2, hr', sub_list_nat, sub_tup_nat, hg, f.take, f]
theorem mixed_ev (h : H2 T) {k : Nat} (hk : 2 ≤ k) {S : Sto} {l : Nat} {n : Int} {things : VV} {xs : List PD} (hF : FeedAt S l n) (hn : n + xs.length < 2 ^ 60) (hr : rd S things = some (.list xs) ∨ rd S things = some (.tuple xs)) (hne : things ≠ .loc l) (hz : xs.length ≤ SZ) :
    Ok (evCall T k 19 [.loc l, things] S) fun v S' => ∃ ys : List PD, v = .d (.list ys) ∧ ys.length = xs.length ∧ (∀ y ∈ ys, y ∈ xs) ∧ Fd S S' l (n + xs.length) := by
  obtain ⟨k, rfl⟩ : ∃ j, k = j + 1 := ⟨k - 1, by omega⟩
  refine ok_call h.h19 rfl ?_
  have hz' : xs.length ≤ 16777216 := hz
  have hlt := hF.lt
  simp only [c_law_mixed, startD]
  have hb : ∀ S', rd S' things = rd S things → bltVs .len [things] S' = .ok (.d (.int xs.length)) S' := fun S' e => by
    rcases hr with hr | hr <;> rw [bltVs_rd (by decide) (e.trans hr)] <;> simp
  have hro : rngOk 0 (xs.length : Int) = true := by unfold rngOk; simp; omega
  have hrd2 : rd (S ++ [O.lst xs] ++ [O.lst []]) things = rd S things := by
    cases things with
    | d x => rfl
    | ex e => rfl
    | loc j =>
      have hj : j < S.length := by
        unfold rd at hr
        dsimp only at hr
        cases q : S[j]? with
        | none => rw [q] at hr; simp at hr
        | some o => exact (List.getElem?_eq_some_iff.mp q).1
      unfold rd
      dsimp only
      rw [List.append_assoc, List.getElem?_append_left hj]
  simp [bltVs_listM hr]
  rw [hb _ (by simpa using hrd2)]
  simp [hro]
  refine loopF_ok (MixI S l n things xs) ?_ ?_ ?_
  · refine ⟨none, xs, [], rfl, by simp, by simp, by simp, by simp, rfl, fun _ h => h, by simp, ?_, fun j hj _ => by rw [List.getElem?_append_left hj]⟩
    exact (hF.ext (by rw [List.getElem?_append_left hlt])).le (by simp)
  · rintro i x σ S1 hx ⟨tv, left, got, rfl, h1, h2, h3, h4, h5, h6, h7, h8, h9⟩
    have hi : i < xs.length := by
      have := (List.getElem?_eq_some_iff.mp hx).1
      simpa [rngD] using this
    have hb2 : bltVs .len [.loc S.length] S1 = .ok (.d (.int left.length)) S1 := by rw [bltVs_rd (by decide) (rd_at h1)]; simp
    simp [bindTg, hb2]
    refine (draw_ev h.h17 (show 1 ≤ k by omega) (m := left.length) (by omega) (by omega) h8 (by omega)).imp fun v S2 ⟨q, ev, q0, q1, f⟩ => ?_
    subst ev
    obtain ⟨j, rfl, hj⟩ := getD_int q0 q1
    have hj' : j < left.length := by omega
    have hg : left[j]? = some left[j] := by simp [hj']
    have e1 : S2[S.length]? = some (O.lst left) := by rw [f.2.2 _ (by omega)]; exact h1
    have e2 : S2[S.length + 1]? = some (O.lst got) := by rw [f.2.2 _ (by omega)]; exact h2
    have e3 : S2.length = S.length + 2 := by rw [f.2.1]; exact h3
    have e4 : (S2.set S.length (O.lst (left.eraseIdx j)))[S.length + 1]? = some (O.lst got) := by rw [List.getElem?_set_ne (by omega)]; exact e2
    have z1 : left.length ≤ SZ := by show _ ≤ 16777216; omega
    have z2 : got.length < SZ := by show _ < 16777216; omega
    simp [meth_pop e1 hg z1, meth_append e4 z2]
    refine ⟨_, left.eraseIdx j, got ++ [left[j]], rfl, ?_, ?_, ?_, ?_, ?_, ?_, ?_, ?_, ?_⟩
    · rw [List.getElem?_set_ne (by omega), List.getElem?_set_self (by omega)]
    · rw [List.getElem?_set_self (by simp [e3])]
    · simp [e3]
    · rw [List.length_eraseIdx]; simp [hj']; omega
    · simp [h5]
    · exact fun y hy => h6 y (List.mem_of_mem_eraseIdx hy)
    · intro y hy
      rcases List.mem_append.mp hy with z | z
      · exact h7 y z
      · have : y = left[j] := by simpa using z
        rw [this]
        exact h6 _ (List.getElem_mem _)
    · exact (f.1.ext (by rw [List.getElem?_set_ne (by omega), List.getElem?_set_ne (by omega)])).le (by omega)
    · intro j2 hj2 hne2
      rw [List.getElem?_set_ne (by omega), List.getElem?_set_ne (by omega), f.2.2 _ hne2]
      exact h9 j2 hj2 hne2
  · rintro σ S1 ⟨tv, left, got, rfl, h1, h2, h3, h4, h5, h6, h7, h8, h9⟩
    have hlen : (rngD 0 (xs.length : Int)).length = xs.length := by simp [rngD]
    rw [hlen] at h4 h5 h8
    simp
    rw [finOk_new (by omega) h2]
    exact ⟨got, rfl, h5, h7, Fd.cut hlt h8 (by omega) h9⟩
/-- makes that are drawn -/
theorem make_ev (h : H2 T) {k : Nat} (hk : 3 ≤ k) {S : Sto} {l : Nat} {n : Int} (hF : FeedAt S l n) (hn : n + 3 < 2 ^ 60) :
    Ok (evCall T k 21 [.loc l] S) fun v S' => ∃ c d : Int, v = .d (makeD c d) ∧ isMake c d ∧ Fd S S' l (n + 3) := by
  obtain ⟨k, rfl⟩ : ∃ j, k = j + 1 := ⟨k - 1, by omega⟩
  refine ok_call h.h21 rfl ?_
  simp only [c_law_make, startD]
  simp
  refine (draw_ev h.h17 (show 1 ≤ k by omega) (m := 3) (by decide) (by decide) hF (by omega)).imp fun v S1 ⟨q, ev, q0, q1, f⟩ => ?_
  subst ev
  simp
  by_cases hq : 0 < q
  · simp [hq]
    have hz : (12 : Nat) ≤ SZ := by decide
    simp [hz]
    refine (one_ev h (show 2 ≤ k by omega) (things := .d (.list _)) f.1 (by omega) (.inl rfl) (by simp) (by simp) (by decide)).imp fun v S2 ⟨x, hx, ev, g⟩ => ?_
    subst ev
    have fg := (f.trans g).le (show n + 1 + 1 ≤ n + 3 by omega)
    simp [fg.take]
    simp at hx
    rcases hx with rfl | rfl | rfl | rfl | rfl | rfl | rfl | rfl | rfl | rfl | rfl | rfl <;> exact ⟨_, _, rfl, by unfold isMake; decide, fg⟩
  · simp [hq]
    refine (draw_ev h.h17 (show 1 ≤ k by omega) (m := 5) (by decide) (by decide) f.1 (by omega)).imp fun v S2 ⟨q2, ev, p0, p1, g⟩ => ?_
    subst ev
    simp
    refine (draw_ev h.h17 (show 1 ≤ k by omega) (m := 4) (by decide) (by decide) g.1 (by omega)).imp fun v S3 ⟨q3, ev, r0, r1, g3⟩ => ?_
    subst ev
    have fg := (((f.trans g).trans g3)).le (show n + 1 + 1 + 1 ≤ n + 3 by omega)
    have hz : (2 : Nat) ≤ SZ := by decide
    simp [hz, fg.take]
    exact ⟨_, _, rfl, ⟨by omega, by omega, by omega, by omega⟩, fg⟩
theorem unmap {γ : Type} {F : γ → PD} {Q : γ → Prop} : ∀ {ds : List PD}, (∀ y ∈ ds, ∃ i : γ, y = F i ∧ Q i) → ∃ ns : List γ, ds = ns.map F ∧ ∀ i ∈ ns, Q i
  | [], _ => ⟨[], rfl, by simp⟩
  | y :: r, h => by
    obtain ⟨i, e, q⟩ := h y (by simp)
    obtain ⟨ns, e2, q2⟩ := unmap (ds := r) fun z hz => h z (by simp [hz])
    exact ⟨i :: ns, by rw [e, e2]; rfl, by simpa using ⟨q, q2⟩⟩
/-- a comprehension that draws for each item -/
theorem drawC {P : PD → Prop} {f : PD → Sto → R (Option PD)} {items : List PD} {S : Sto} {l : Nat} {n c : Int} (hF : FeedAt S l n) (hc : 0 ≤ c) (hz : items.length ≤ SZ)
    (step : ∀ x ∈ items, ∀ S1 n1, FeedAt S1 l n1 → n ≤ n1 → n1 + c ≤ n + c * items.length → (∀ j, j ≠ l → S1[j]? = S[j]?) → Ok (f x S1) fun o S2 => ∃ y, o = some y ∧ P y ∧ Fd S1 S2 l (n1 + c)) :
    Ok (loopC f items [] S) fun ds S' => ds.length = items.length ∧ (∀ y ∈ ds, P y) ∧ Fd S S' l (n + c * items.length) := by
  refine (loopC_ok (fun done acc S' => acc.length = done.length ∧ (∀ y ∈ acc, P y) ∧ Fd S S' l (n + c * done.length)) (done := []) (acc := []) ⟨rfl, by simp, by simpa using Fd.refl hF⟩ ?_).imp fun ds S' q => by simpa using q
  intro dn x r a S1 e ⟨h1, h2, h3⟩
  have hx : x ∈ items := by rw [e]; simp
  have hlen : (dn.length : Int) + 1 ≤ items.length := by rw [e]; simp; omega
  have hb : c * (dn.length : Int) + c ≤ c * items.length := by
    have := Int.mul_le_mul_of_nonneg_left hlen hc
    rw [Int.mul_add, Int.mul_one] at this
    exact this
  have hb0 : 0 ≤ c * (dn.length : Int) := Int.mul_nonneg hc (by omega)
  rw [List.nil_append] at h1 h3
  refine (step x hx S1 (n + c * dn.length) h3.1 (by omega) (by omega) h3.2.2).imp fun o S2 ⟨y, ho, hy, g⟩ => ?_
  subst ho
  have hz' : items.length ≤ 16777216 := hz
  refine ⟨show a.length < 16777216 by omega, by simp [h1], ?_, ?_⟩
  · intro z hz
    rcases List.mem_append.mp hz with q | q
    · exact h2 z q
    · have : z = y := by simpa using q
      rw [this]; exact hy
  · refine (h3.trans g).le ?_
    simp
    rw [Int.mul_add, Int.mul_one]
    omega
theorem rng_len {c : Int} : (rngD 0 c).length = c.toNat := by simp [rngD]
theorem rng_ok {c : Int} (h0 : 0 ≤ c) (h : c ≤ 1000) : rngOk 0 c = true := by unfold rngOk; simp; omega
/-- keys that are drawn -/
theorem key_ev (h : H2 T) {k : Nat} (hk : 2 ≤ k) {S : Sto} {l : Nat} {n c d : Int} (hm : isMake c d) (hF : FeedAt S l n) (hn : n + 5 < 2 ^ 60) :
    Ok (evCall T k 22 [.loc l, .d (makeD c d)] S) fun v S' => ∃ key, v = .d (keyD key) ∧ isKey c d key = true ∧ Fd S S' l (n + 5) := by
  obtain ⟨k, rfl⟩ : ∃ j, k = j + 1 := ⟨k - 1, by omega⟩
  obtain ⟨m1, m2, m3, m4⟩ := hm
  refine ok_call h.h22 rfl ?_
  simp only [c_law_key, startD, makeD]
  simp [rng_ok (show 0 ≤ c by omega) (show c ≤ 1000 by omega)]
  have hl : ((rngD 0 c).length : Int) = c := by rw [rng_len]; omega
  refine (drawC (P := fun y => ∃ i : Int, y = .int i ∧ 0 ≤ i ∧ i ≤ d - 1) (c := 1) hF (by decide) (by rw [rng_len]; show _ ≤ 16777216; omega) fun x hx S1 n1 hF1 hn0 hn1 hS1 => ?_).imp fun ds S' ⟨h1, h2, f⟩ => ?_
  · simp [bindTg, wipeD, Tg.slots]
    refine (draw_ev h.h17 (show 1 ≤ k by omega) (m := d) (by omega) (by omega) hF1 (by omega)).imp fun v S2 ⟨q, ev, q0, q1, g⟩ => ?_
    subst ev
    simp
    exact ⟨⟨q0, by omega⟩, g⟩
  · obtain ⟨ns, rfl, hns⟩ := unmap h2
    have f' := f.le (show n + 1 * ((rngD 0 c).length : Int) ≤ n + 5 by omega)
    refine ⟨ns, rfl, ?_, by rw [f'.take]; exact f'⟩
    unfold isKey
    simp at h1 ⊢
    exact ⟨by omega, hns⟩
/-- a comprehension that draws whether an item is taken -/
theorem drawF {γ : Type} {F G : γ → PD} {must : γ → Prop} {f : PD → Sto → R (Option PD)} {p : Nat} {c N : Int} (hc : 0 ≤ c) : ∀ {l : List γ} {acc : List PD} {S : Sto} {n1 : Int}, FeedAt S p n1 → acc.length + l.length ≤ SZ → n1 + c * l.length ≤ N →
    (∀ y ∈ l, ∀ S1 n, FeedAt S1 p n → n + c ≤ N → Ok (f (F y) S1) fun o S2 => (o = some (G y) ∨ (o = none ∧ ¬ must y)) ∧ Fd S1 S2 p (n + c)) →
    Ok (loopC f (l.map F) acc S) fun ds S' => ∃ sub : List γ, sub.Sublist l ∧ (∀ y ∈ l, must y → y ∈ sub) ∧ ds = acc ++ sub.map G ∧ Fd S S' p (n1 + c * l.length)
  | [], acc, S, n1, hF, _, _, _ => by
    simp [loopC]
    exact Fd.refl hF
  | y :: r, acc, S, n1, hF, hz, hN, st => by
    rw [List.map_cons]
    unfold loopC
    have hl : c * ((y :: r).length : Int) = c * (r.length : Int) + c := by simp; rw [Int.mul_add, Int.mul_one]
    have h0 : 0 ≤ c * (r.length : Int) := Int.mul_nonneg hc (by omega)
    obtain ⟨o, S2, e, ho, g⟩ := (st y (by simp) S n1 hF (by omega)).ex
    rw [e]
    rcases ho with rfl | ⟨rfl, hm⟩
    · dsimp only
      rw [if_pos (by simp at hz; omega)]
      refine (drawF hc g.1 (by simp at hz ⊢; omega) (by omega) fun z hz => st z (by simp [hz])).imp fun ds S' ⟨sub, h1, h2, h3, h4⟩ => ?_
      refine ⟨y :: sub, h1.cons_cons y, fun z hz hm => ?_, by rw [h3]; simp, (g.trans h4).le (by omega)⟩
      rcases List.mem_cons.mp hz with q | q
      · rw [q]; simp
      · exact List.mem_cons_of_mem _ (h2 z q hm)
    · dsimp only
      refine (drawF hc g.1 (by simp at hz ⊢; omega) (by omega) fun z hz => st z (by simp [hz])).imp fun ds S' ⟨sub, h1, h2, h3, h4⟩ => ?_
      refine ⟨sub, h1.cons y, fun z hz hmz => ?_, h3, (g.trans h4).le (by omega)⟩
      rcases List.mem_cons.mp hz with q | q
      · rw [q] at hmz; exact absurd hmz hm
      · exact h2 z q hmz
/-- 0 .. d - 1 -/
def rngI (d : Int) : List Int := (List.range d.toNat).map fun i : Nat => (i : Int)
theorem rngD_eq (d : Int) : rngD 0 d = (rngI d).map .int := by simp [rngD, rngI, List.map_map, Function.comp_def]
theorem mem_rngI {d x : Int} : x ∈ rngI d ↔ 0 ≤ x ∧ x < d := by
  unfold rngI
  simp
  constructor
  · rintro ⟨a, h, rfl⟩; omega
  · intro h; exact ⟨x.toNat, by omega, by omega⟩
theorem rngI_asc (d : Int) : (rngI d).Pairwise (· < ·) := by
  unfold rngI
  rw [List.pairwise_map]
  exact List.pairwise_lt_range.imp fun h => by omega
theorem asc_of : ∀ {l : List Int}, l.Pairwise (· < ·) → asc l = true
  | [], _ => rfl
  | [_], _ => rfl
  | a :: b :: r, h => by
    have h1 := (List.pairwise_cons.mp h).1 b (by simp)
    have h2 := asc_of (List.pairwise_cons.mp h).2
    unfold asc at h2 ⊢
    simp at h2 ⊢
    exact ⟨h1, h2⟩
theorem areCuts_sub {d : Int} {cuts : List Int} (hd : 0 ≤ d) (h : cuts.Sublist (rngI d)) (h1 : cuts ≠ []) : areCuts d cuts = true := by
  have hl := h.length_le
  have hr : (rngI d).length = d.toNat := by simp [rngI]
  have h2 : 1 ≤ cuts.length := by
    cases cuts with
    | nil => exact absurd rfl h1
    | cons => simp
  unfold areCuts
  rw [asc_of ((rngI_asc d).sublist h)]
  simp
  refine ⟨⟨h2, by omega⟩, fun x hx => ?_⟩
  have := mem_rngI.mp (h.mem hx)
  omega
/-- cuts that are drawn -/
theorem cuts_ev (h : H2 T) {k : Nat} (hk : 2 ≤ k) {S : Sto} {l : Nat} {n d : Int} (hd : 2 ≤ d) (hd2 : d ≤ 5) (hF : FeedAt S l n) (hn : n + 7 < 2 ^ 60) :
    Ok (evCall T k 23 [.loc l, .d (.int d)] S) fun v S' => ∃ cuts, v = .d (cutsD cuts) ∧ areCuts d cuts = true ∧ Fd S S' l (n + 7) := by
  obtain ⟨k, rfl⟩ : ∃ j, k = j + 1 := ⟨k - 1, by omega⟩
  refine ok_call h.h23 rfl ?_
  simp only [c_law_cuts, startD]
  simp
  refine (draw_ev h.h17 (show 1 ≤ k by omega) (m := 5) (by decide) (by decide) hF (by omega)).imp fun v S1 ⟨q, ev, q0, q1, f⟩ => ?_
  subst ev
  simp
  refine (draw_ev h.h17 (show 1 ≤ k by omega) (m := d) (by omega) (by omega) f.1 (by omega)).imp fun v S2 ⟨cut, ev, p0, p1, g⟩ => ?_
  subst ev
  have fg := f.trans g
  have fg' := fg.le (show n + 1 + 1 ≤ n + 7 by omega)
  have hro := rng_ok (show 0 ≤ d by omega) (show d ≤ 1000 by omega)
  have hlen : (rngI d).length = d.toNat := by simp [rngI]
  have hcut : cut ∈ rngI d := mem_rngI.mpr ⟨p0, p1⟩
  simp
  by_cases w0 : q = 0
  · subst w0
    have hz : (1 : Nat) ≤ SZ := by decide
    simp [hz, fg.take]
    exact ⟨[cut], rfl, areCuts_sub (by omega) (List.singleton_sublist.mpr hcut) (by simp), fg'⟩
  by_cases w1 : q = 1
  · subst w1
    simp [hro, fg.take]
    exact ⟨rngI d, by rw [rngD_eq]; rfl, areCuts_sub (by omega) (List.Sublist.refl _) (fun e => by rw [e] at hcut; cases hcut), fg'⟩
  by_cases w2 : q = 2
  · subst w2
    simp [hro, rngD_eq]
    rw [loopC_mapF (p := fun x => !(x == cut)) (G := .int) (fun y hy => by simp [bindTg, wipeD, Tg.slots]; split <;> simp_all) (by rw [hlen]; show _ ≤ 16777216; simp; omega)]
    simp only [ok_ok, List.nil_append, fg.take]
    refine ⟨(rngI d).filter fun x => !(x == cut), rfl, areCuts_sub (by omega) List.filter_sublist (fun e => ?_), fg'⟩
    have hm : (if cut = 0 then (1 : Int) else 0) ∈ (rngI d).filter fun x => !(x == cut) := by
      rw [List.mem_filter]
      split
      · rename_i hc
        exact ⟨mem_rngI.mpr (by omega), by rw [hc]; rfl⟩
      · rename_i hc
        exact ⟨mem_rngI.mpr (by omega), by simpa using fun z => hc z.symm⟩
    rw [e] at hm
    cases hm
  · simp [w0, w1, w2, hro, rngD_eq]
    refine (drawF (F := .int) (G := .int) (must := fun x => x = cut) (c := 1) (N := n + 7) (by decide) fg.1 (by rw [hlen]; show _ ≤ 16777216; simp; omega) (by rw [hlen]; omega) fun y hy Sx nx hFx hnx => ?_).imp fun ds S' ⟨sub, h1, h2, h3, h4⟩ => ?_
    · by_cases hyc : y = cut
      · subst hyc
        simp [bindTg, wipeD, Tg.slots]
        exact (Fd.refl hFx).le (by omega)
      · simp [bindTg, wipeD, Tg.slots, hyc]
        refine (draw_ev h.h17 (show 1 ≤ k by omega) (m := 2) (by decide) (by decide) hFx (by omega)).imp fun v S3 ⟨q3, ev, r0, r1, g3⟩ => ?_
        subst ev
        simp
        by_cases z : q3 = 0
        · simp [z, g3]
        · simp [z, g3]
    · subst h3
      have f4 := (fg.trans h4).le (show n + 1 + 1 + 1 * ((rngI d).length : Int) ≤ n + 7 by rw [hlen]; omega)
      simp [f4.take]
      exact ⟨sub, rfl, areCuts_sub (by omega) h1 (fun e => by have := h2 cut hcut rfl; rw [e] at this; cases this), f4⟩
/-- locks that are drawn -/
theorem lock_ev (h : H2 T) {k : Nat} (hk : 3 ≤ k) {S : Sto} {l : Nat} {n c d : Int} (hm : isMake c d) (hF : FeedAt S l n) (hn : n + 35 < 2 ^ 60) :
    Ok (evCall T k 24 [.loc l, .d (makeD c d)] S) fun v S' => ∃ lock, v = .d (lockD lock) ∧ isLock c d lock = true ∧ Fd S S' l (n + 35) := by
  obtain ⟨k, rfl⟩ : ∃ j, k = j + 1 := ⟨k - 1, by omega⟩
  obtain ⟨m1, m2, m3, m4⟩ := hm
  refine ok_call h.h24 rfl ?_
  simp only [c_law_lock, startD, makeD]
  simp [rng_ok (show 0 ≤ c by omega) (show c ≤ 1000 by omega)]
  have hl : ((rngD 0 c).length : Int) = c := by rw [rng_len]; omega
  refine (drawC (P := fun y => ∃ cuts : List Int, y = cutsD cuts ∧ areCuts d cuts = true) (c := 7) hF (by decide) (by rw [rng_len]; show _ ≤ 16777216; omega) fun x hx S1 n1 hF1 hn0 hn1 hS1 => ?_).imp fun ds S' ⟨h1, h2, f⟩ => ?_
  · simp [bindTg, wipeD, Tg.slots]
    refine (cuts_ev h (show 2 ≤ k by omega) m3 m4 hF1 (by omega)).imp fun v S2 ⟨cuts, ev, q, g⟩ => ?_
    subst ev
    simp
    exact ⟨⟨cuts, rfl, q⟩, g⟩
  · obtain ⟨ns, rfl, hns⟩ := unmap h2
    have f' := f.le (show n + 7 * ((rngD 0 c).length : Int) ≤ n + 35 by omega)
    refine ⟨ns, rfl, ?_, by rw [f'.take]; exact f'⟩
    unfold isLock
    simp at h1 ⊢
    exact ⟨by omega, hns⟩
end
end KA
/-! KL4: all keys, the law's own looks. -/
namespace KA
open PySem
theorem esc_at {S : Sto} {p : Nat} {ds : List PD} (h : S[p]? = some (O.lst ds) ∨ S[p]? = some (O.frz ds)) : ∃ S', esc S (.loc p) = .ok (.list ds) S' ∧ S'.length = S.length ∧ (∀ j, j ≠ p → S'[j]? = S[j]?) ∧ S'[p]? = some (O.frz ds) := by
  have hl : p < S.length := by rcases h with h | h <;> exact (List.getElem?_eq_some_iff.mp h).1
  rcases h with h | h
  · exact ⟨S.set p (.frz ds), by simp [esc, h], by simp, fun j hj => by rw [List.getElem?_set_ne (Ne.symm hj)], by rw [List.getElem?_set_self hl]⟩
  · exact ⟨S, by simp [esc, h], rfl, fun _ _ => rfl, h⟩
section
variable {T : Tab}
structure H3 (T : Tab) : Prop where
  h2 : H2 T
  h20 : T 20 = some c_law_same
  h25 : T 25 = some c_law_every
  h26 : T 26 = some c_law_size
  h27 : T 27 = some c_law_full
  h28 : T 28 = some c_law_apart
  h29 : T 29 = some c_law_tried
/-- how many keys open a lock -/
def sizeL (lock : List (List Int)) : Int := lock.foldl (fun m c => m * c.length) 1
theorem size_ev (h : H3 T) {k : Nat} (hk : 1 ≤ k) (lock : List (List Int)) (hs : ∀ c ∈ lock, c.length ≤ 1000) (S : Sto) : evCall T k 26 [.d (lockD lock)] S = .ok (.d (.int (sizeL lock))) S := by
  obtain ⟨k, rfl⟩ : ∃ j, k = j + 1 := ⟨k - 1, by omega⟩
  refine Ok.eq (ok_call h.h26 rfl ?_)
  simp only [c_law_size, startD, lockD]
  simp
  refine loopF_ok (fun i σ S1 => S1 = S ∧ ∃ x, σ = [some (.d (.tuple (lock.map cutsD))), some (.d (.int (sizeL (lock.take i)))), x]) ⟨rfl, none, rfl⟩ ?_ ?_
  · rintro i x σ S1 hx ⟨rfl, y, rfl⟩
    rw [List.getElem?_map] at hx
    obtain ⟨c, hc, rfl⟩ := Option.map_eq_some_iff.mp hx
    have hc0 := hs c (List.mem_of_getElem? hc)
    have hb : -(2 ^ 64) < (c.length : Int) ∧ (c.length : Int) < 2 ^ 64 := by
      have e : (2 : Int) ^ 64 = 18446744073709551616 := by decide +kernel
      rw [e]; omega
    have ht : sizeL (lock.take (i + 1)) = sizeL (lock.take i) * c.length := by
      have hi := (List.getElem?_eq_some_iff.mp hc)
      obtain ⟨hi, e⟩ := hi
      unfold sizeL
      rw [List.take_succ_eq_append_getElem hi, List.foldl_append, e]
      rfl
    simp [bindTg, cutsD, mul_r hb, ht]
  · rintro σ S1 ⟨rfl, y, rfl⟩
    have hlen : (lock.map cutsD).length = lock.length := by simp
    simp [hlen]
theorem full_ev (h : H3 T) {k : Nat} (hk : 1 ≤ k) {c d : Int} (hm : isMake c d) (S : Sto) : evCall T k 27 [.d (makeD c d)] S = .ok (.d (lockD ((rngI c).map fun _ => rngI d))) S := by
  obtain ⟨k, rfl⟩ : ∃ j, k = j + 1 := ⟨k - 1, by omega⟩
  obtain ⟨m1, m2, m3, m4⟩ := hm
  refine eq_call h.h27 rfl ?_
  have hlen : (rngI c).length = c.toNat := by simp [rngI]
  simp only [c_law_full, startD, makeD]
  simp [rng_ok (show 0 ≤ c by omega) (show c ≤ 1000 by omega), rngD_eq]
  rw [loopC_all (G := fun _ => cutsD (rngI d)) (fun p hp => by simp [bindTg, wipeD, Tg.slots, rng_ok (show 0 ≤ d by omega) (show d ≤ 1000 by omega), rngD_eq, cutsD]) (by rw [hlen]; show _ ≤ 16777216; omega)]
  simp [lockD, List.map_map, Function.comp_def]
/-- the chambers in which the key's cut is none of the lock's -/
theorem lawApart_ev (h : H3 T) {k : Nat} (hk : 1 ≤ k) {lock : List (List Int)} {key : List Int} (hl : lock.length = key.length) (hz : lock.length ≤ 1000) (S : Sto) : evCall T k 28 [.d (lockD lock), .d (keyD key)] S = .ok (.d (.tuple ((apartL lock key).map .int))) S := by
  obtain ⟨k, rfl⟩ : ∃ j, k = j + 1 := ⟨k - 1, by omega⟩
  refine eq_call h.h28 rfl ?_
  simp only [c_law_apart, startD, lockD, keyD]
  simp [rng_ok (show (0 : Int) ≤ lock.length by omega) (show (lock.length : Int) ≤ 1000 by omega), rngD]
  rw [loopC_mapF (p := fun i => decide (key.getD i 0 ∉ lock.getD i [])) (G := fun i => .int (i : Nat)) (fun i hi => ?_) (by simp; show _ ≤ 16777216; omega)]
  · have hzi : lock.zipIdx = (List.range lock.length).map fun i => (lock[i]?.getD [], i) := List.ext_getElem (by simp) (fun i h1 h2 => by
      have : i < lock.length := by simpa using h1
      simp [this])
    simp [apartL, hzi, List.filter_map, List.map_map, Function.comp_def]
  · have hi' : i < lock.length := by simpa using hi
    have h1 : (key.map PyData.int)[i]? = some (.int (key.getD i 0)) := by
      rw [List.getElem?_map, List.getD_eq_getElem?_getD, List.getElem?_eq_getElem (by omega)]; rfl
    have h2 : (lock.map cutsD)[i]? = some (cutsD (lock.getD i [])) := by
      rw [List.getElem?_map, List.getD_eq_getElem?_getD, List.getElem?_eq_getElem hi']; rfl
    simp only [bindTg, wipeD, Tg.slots]
    simp [sub_tup_nat, h1, h2, cmpD, in_ints]
    simp [cutsD, in_ints, cmpD]
    split <;> rfl
/-- all rows, one of each -/
def GoodRow (lock : List (List Int)) (row : List Int) : Prop := row.length = lock.length ∧ ∀ i (h : i < lock.length), row.getD i 0 ∈ lock[i]
theorem GoodRow.more {lock : List (List Int)} {i : Nat} (hi : i < lock.length) {row : List Int} (h : GoodRow (lock.take i) row) {y : Int} (hy : y ∈ lock[i]) : GoodRow (lock.take (i + 1)) (row ++ [y]) := by
  obtain ⟨h1, h2⟩ := h
  have hr : row.length = i := by rw [h1, List.length_take]; omega
  refine ⟨by simp [hr]; omega, fun j hj => ?_⟩
  rw [List.length_take] at hj
  rw [List.getElem_take]
  by_cases hji : j < i
  · have := h2 j (by rw [List.length_take]; omega)
    rw [List.getElem_take] at this
    rw [List.getD_eq_getElem?_getD, List.getElem?_append_left (by omega), ← List.getD_eq_getElem?_getD]
    exact this
  · have : j = i := by omega
    subst this
    rw [List.getD_eq_getElem?_getD, List.getElem?_append_right (by omega), hr, Nat.sub_self]
    exact hy
structure EvI (lock : List (List Int)) (S0 : Sto) (i : Nat) (σ : Sg) (S : Sto) : Prop where
  ex : ∃ (v : VV) (x y z w : Option VV) (rows : List (List Int)), σ = [some (.d (lockD lock)), some v, x, y, z, w] ∧ (∃ S', esc S v = .ok (.list (rows.map keyD)) S' ∧ S'.length = S.length ∧ ∀ j, j < S0.length → S'[j]? = S[j]?) ∧
    (v = .d (.list (rows.map keyD)) ∨ ∃ p, v = .loc p ∧ S0.length ≤ p ∧ S[p]? = some (O.lst (rows.map keyD))) ∧
    (∀ row ∈ rows, GoodRow (lock.take i) row) ∧ rows.length ≤ 5 ^ i ∧ S0.length ≤ S.length ∧ ∀ j, j < S0.length → S[j]? = S0[j]?
structure EvJ (lock : List (List Int)) (some_ : List Int) (S0 : Sto) (i n p : Nat) (rows : List (List Int)) (j : Nat) (σ : Sg) (S : Sto) : Prop where
  ex : ∃ (v : VV) (z w : Option VV) (more : List (List Int)), σ = [some (.d (lockD lock)), some v, some (.d (cutsD some_)), some (.loc p), z, w] ∧ S[p]? = some (O.lst (more.map keyD)) ∧
    (∀ row ∈ more, GoodRow (lock.take (i + 1)) row) ∧ more.length ≤ 5 * j ∧ S.length = n ∧ ∀ j, j < S0.length → S[j]? = S0[j]?
theorem every_ev (h : H3 T) {k : Nat} (hk : 1 ≤ k) {lock : List (List Int)} (hl : lock.length ≤ 5) (hc : ∀ c ∈ lock, c.length ≤ 5) (S : Sto) :
    Ok (evCall T k 25 [.d (lockD lock)] S) fun v S' => S' = S ∧ ∃ rows : List (List Int), v = .d (.list (rows.map keyD)) ∧ (∀ row ∈ rows, GoodRow lock row) ∧ rows.length ≤ 3125 := by
  obtain ⟨k, rfl⟩ : ∃ j, k = j + 1 := ⟨k - 1, by omega⟩
  refine ok_call h.h25 rfl ?_
  have pw : ∀ i, i ≤ lock.length → 5 ^ i ≤ 3125 := fun i hi => by
    have : i ≤ 5 := by omega
    calc 5 ^ i ≤ 5 ^ 5 := Nat.pow_le_pow_right (by decide) this
      _ = 3125 := by decide
  simp only [c_law_every, startD]
  have hz0 : (0 : Nat) ≤ SZ := by decide
  have hz1 : (1 : Nat) ≤ SZ := by decide
  simp [hz0, hz1, lockD]
  refine loopF_ok (EvI lock S) ?_ ?_ ?_
  · exact ⟨.d (.list [.tuple []]), none, none, none, none, [[]], rfl, ⟨S, rfl, rfl, fun _ _ => rfl⟩, .inl rfl, by simp [GoodRow], by simp, Nat.le_refl _, fun _ _ => rfl⟩
  · rintro i x σ S1 hx ⟨v, x0, y0, z0, w0, rows, rfl, ⟨S2, he, hel, hej⟩, hv, hg, hn, hle, hold⟩
    rw [List.getElem?_map] at hx
    obtain ⟨c, hci, rfl⟩ := Option.map_eq_some_iff.mp hx
    obtain ⟨hi, hci'⟩ := List.getElem?_eq_some_iff.mp hci
    have hcl := hc c (List.mem_of_getElem? hci)
    have hn5 : rows.length ≤ 3125 := Nat.le_trans hn (pw i (by omega))
    -- the rows' list behind the new list
    have hesc : ∃ S3, esc (S1 ++ [O.lst []]) v = .ok (.list (rows.map keyD)) S3 ∧ S3.length = S1.length + 1 ∧ S3[S1.length]? = some (O.lst []) ∧ ∀ j, j < S.length → S3[j]? = S[j]? := by
      rcases hv with rfl | ⟨p, rfl, hp, hpl⟩
      · exact ⟨_, rfl, by simp, by simp, fun j hj => by rw [List.getElem?_append_left (by omega)]; exact hold j hj⟩
      · have hp2 : p < S1.length := (List.getElem?_eq_some_iff.mp hpl).1
        obtain ⟨S3, e1, e2, e3, e4⟩ := esc_at (S := S1 ++ [O.lst []]) (p := p) (ds := rows.map keyD) (.inl (by rw [List.getElem?_append_left hp2]; exact hpl))
        exact ⟨S3, e1, by rw [e2]; simp, by rw [e3 _ (by omega)]; simp, fun j hj => by rw [e3 j (by omega), List.getElem?_append_left (by omega)]; exact hold j hj⟩
    obtain ⟨S3, e1, e2, e3, e4⟩ := hesc
    simp [bindTg, hz0, e1]
    refine loopF_ok (EvJ lock c S i (S1.length + 1) S1.length rows) ?_ ?_ ?_
    · exact ⟨v, _, _, [], rfl, by simpa using e3, by simp, by simp, e2, e4⟩
    · rintro j x σ S4 hx ⟨v4, z, w, more, rfl, f1, f2, f3, f4, f5⟩
      rw [List.getElem?_map] at hx
      obtain ⟨row, hrow, rfl⟩ := Option.map_eq_some_iff.mp hx
      obtain ⟨hj, hrow'⟩ := List.getElem?_eq_some_iff.mp hrow
      have hrg := hg row (List.mem_of_getElem? hrow)
      have hrl : row.length ≤ 5 := by rw [hrg.1, List.length_take]; omega
      simp [bindTg, cutsD]
      rw [loopC_all (G := fun x => keyD (row ++ [x])) (fun y hy => by
        have hz2 : (1 : Nat) ≤ SZ := by decide
        have hz3 : row.length + 1 ≤ SZ := by show _ ≤ 16777216; omega
        simp [bindTg, wipeD, Tg.slots, hz2, op2, keyD, binD, hz3]) (by show _ ≤ 16777216; omega)]
      simp
      rw [meth_extend f1 (by simp; show _ ≤ 16777216; omega)]
      simp
      refine ⟨v4, _, _, more ++ c.map fun x => row ++ [x], rfl, ?_, ?_, ?_, by simp [f4], fun j2 hj2 => ?_⟩
      · rw [List.getElem?_set_self (by omega)]
        simp [List.map_map, Function.comp_def]
      · intro r hr
        rcases List.mem_append.mp hr with q | q
        · exact f2 r q
        · obtain ⟨y, hy, rfl⟩ := List.mem_map.mp q
          exact hrg.more hi (by rw [hci']; exact hy)
      · simp; omega
      · rw [List.getElem?_set_ne (by omega)]
        exact f5 j2 hj2
    · rintro σ S4 ⟨v4, z, w, more, rfl, f1, f2, f3, f4, f5⟩
      simp
      refine ⟨_, _, _, _, _, more, rfl, ?_, .inr ⟨S1.length, rfl, hle, f1⟩, f2, ?_, by omega, f5⟩
      · obtain ⟨S5, g1, g2, g3, g4⟩ := esc_at (S := S4) (p := S1.length) (ds := more.map keyD) (.inl f1)
        exact ⟨S5, g1, g2, fun j hj => g3 j (by omega)⟩
      · simp at f3
        rw [Nat.pow_succ]
        omega
  · rintro σ S1 ⟨v, x0, y0, z0, w0, rows, rfl, ⟨S2, he, hel, hej⟩, hv, hg, hn, hle, hold⟩
    simp at hg hn
    have hS : S1.take S.length = S := List.ext_getElem? fun j => by
      by_cases hj : j < S.length
      · rw [List.getElem?_take_of_lt hj, hold j hj]
      · rw [List.getElem?_eq_none (by rw [List.length_take]; omega), List.getElem?_eq_none (by omega)]
    have hn5 : rows.length ≤ 3125 := Nat.le_trans hn (pw _ (Nat.le_refl _))
    rcases hv with rfl | ⟨p, rfl, hp, hpl⟩
    · simp [hS]
      exact ⟨rows, rfl, hg, hn5⟩
    · simp
      rw [finOk_new hp hpl]
      exact ⟨hS, rows, rfl, hg, hn5⟩
theorem isKey_of {c d : Int} {key : List Int} (hc : 0 ≤ c) (h : GoodRow ((rngI c).map fun _ => rngI d) key) : isKey c d key = true := by
  obtain ⟨h1, h2⟩ := h
  have hl : (key.length : Int) = c := by rw [h1]; simp [rngI]; omega
  unfold isKey
  simp
  refine ⟨hl, fun x hx => ?_⟩
  obtain ⟨i, hi, e⟩ := List.getElem_of_mem hx
  have := h2 i (by rw [← h1]; exact hi)
  rw [List.getD_eq_getElem?_getD, List.getElem?_eq_getElem hi, e] at this
  simp at this
  have := mem_rngI.mp this
  omega
/-- a cut is exchanged -/
theorem isKey_swap {c d : Int} {key : List Int} (hk : isKey c d key = true) {i : Nat} (hi : (i : Int) < c) {x : Int} (hx : 0 ≤ x ∧ x ≤ d - 1) : isKey c d (key.take i ++ [x] ++ key.drop (i + 1)) = true := by
  unfold isKey at hk ⊢
  simp at hk ⊢
  obtain ⟨h1, h2⟩ := hk
  exact ⟨by omega, fun y hy => h2 y (List.mem_of_mem_take hy), hx, fun y hy => h2 y (List.mem_of_mem_drop hy)⟩
theorem cut_take (ds : List PD) (n : Nat) : cutD ds none (some (n : Int)) = ds.take n := by
  unfold cutD
  rw [HT.sIx_none, HT.sIx_nat, List.drop_zero, Nat.sub_zero, List.take_eq_take_iff]
  omega
theorem cut_dropn (ds : List PD) (n : Nat) : cutD ds (some (n : Int)) none = ds.drop n := by
  unfold cutD
  rw [HT.sIx_none, HT.sIx_nat, List.take_of_length_le (by rw [List.length_drop]; exact Nat.le_refl _)]
  by_cases h : n ≤ ds.length
  · rw [Nat.min_eq_left h]
  · rw [Nat.min_eq_right (by omega), List.drop_length, List.drop_eq_nil_of_le (by omega)]
@[simp] theorem make0 (c d : Int) : subD (makeD c d) (.int 0) = some (.int c) := sub0 _ _
@[simp] theorem make1 (c d : Int) : subD (makeD c d) (.int 1) = some (.int d) := sub1 _ _ _
@[simp] theorem items_lock (lock : List (List Int)) : itemsD (lockD lock) = some (lock.map cutsD) := Eq.trans rfl rfl
@[simp] theorem slc_key (key : List Int) (n : Nat) : slcD (keyD key) none (some (n : Int)) = some (keyD (key.take n)) := by
  show some (PyData.tuple (cutD (key.map .int) none (some (n : Int)))) = _
  rw [cut_take, ← List.map_take]
  rfl
@[simp] theorem slc_key1 (key : List Int) (n : Nat) : slcD (keyD key) (some ((n : Int) + 1)) none = some (keyD (key.drop (n + 1))) := by
  show some (PyData.tuple (cutD (key.map .int) (some ((n : Int) + 1)) none)) = _
  have e : (n : Int) + 1 = ((n + 1 : Nat) : Int) := by omega
  rw [e, cut_dropn, ← List.map_drop]
  rfl
theorem add_key {a b : List Int} (h : a.length + b.length ≤ 1000) : binD .Add (keyD a) (keyD b) = some (keyD (a ++ b)) := by
  show (if (a.map PyData.int).length + (b.map PyData.int).length ≤ SZ then some (PyData.tuple (a.map .int ++ b.map .int)) else none) = _
  rw [if_pos (by simp; show _ ≤ 16777216; omega), ← List.map_append]
  rfl
theorem add_key1 {a : List Int} {x : Int} (h : a.length ≤ 900) : binD .Add (keyD a) (.tuple [.int x]) = some (keyD (a ++ [x])) := add_key (b := [x]) (by simp; omega)
/-- all keys' list: the rows so far -/
structure TrI (S0 : Sto) (l : Nat) (n c d : Int) (r0 m : Nat) (step : Int) (pre : Sg) (i : Nat) (σ : Sg) (S : Sto) : Prop where
  ex : ∃ (x y z u w : Option VV) (rows : List (List Int)), σ = pre ++ [some (.loc S0.length), x, y, z, u, w] ∧ S[S0.length]? = some (O.lst (rows.map keyD)) ∧ (∀ row ∈ rows, isKey c d row = true) ∧ rows.length = r0 + m * i ∧ S.length = S0.length + 1 ∧ FeedAt S l (n + step * i) ∧ ∀ j, j < S0.length → j ≠ l → S[j]? = S0[j]?
structure TrK (S0 : Sto) (l : Nat) (n c d : Int) (r0 at_ : Nat) (pre : Sg) (i : Nat) (σ : Sg) (S : Sto) : Prop where
  ex : ∃ (x z u w : Option VV) (rows : List (List Int)), σ = pre ++ [some (.loc S0.length), x, some (.d (.int at_)), z, u, w] ∧ S[S0.length]? = some (O.lst (rows.map keyD)) ∧ (∀ row ∈ rows, isKey c d row = true) ∧ rows.length = r0 + i ∧ S.length = S0.length + 1 ∧ FeedAt S l (n + i) ∧ ∀ j, j < S0.length → j ≠ l → S[j]? = S0[j]?
theorem tried_ev (h : H3 T) {k : Nat} (hk : 4 ≤ k) {S : Sto} {l : Nat} {n c d : Int} (hm : isMake c d) {lock : List (List Int)} (hlock : isLock c d lock = true) (hF : FeedAt S l n) (hn : n + 10000 < 2 ^ 60) :
    Ok (evCall T k 29 [.loc l, .d (makeD c d), .d (lockD lock)] S) fun v S' => ∃ keys : List (List Int), v = .d (.list (keys.map keyD)) ∧ (∀ key ∈ keys, isKey c d key = true) ∧ keys.length ≤ 4000 ∧ Fd S S' l (n + 10000) := by
  obtain ⟨k, rfl⟩ : ∃ j, k = j + 1 := ⟨k - 1, by omega⟩
  have hm' := hm
  obtain ⟨m1, m2, m3, m4⟩ := hm'
  have hlt := hF.lt
  have hlen : ∀ {x : Int}, (rngI x).length = x.toNat := fun {x} => by simp [rngI]
  refine ok_call h.h29 rfl ?_
  simp only [c_law_tried, startD]
  have hfull : ∀ S, evCall T k 27 [.d (makeD c d)] S = .ok (.d (lockD ((rngI c).map fun _ => rngI d))) S := fun S => full_ev h (show 1 ≤ k by omega) hm S
  have hc5 : ∀ x ∈ (rngI c).map fun _ => rngI d, x.length ≤ 5 := fun x hx => by
    simp at hx
    rw [← hx.2, hlen]
    omega
  have hsize : ∀ S, evCall T k 26 [.d (lockD ((rngI c).map fun _ => rngI d))] S = .ok (.d (.int (sizeL ((rngI c).map fun _ => rngI d)))) S := fun S => size_ev h (show 1 ≤ k by omega) _ (fun x hx => by have := hc5 x hx; omega) S
  simp [hfull, hsize]
  by_cases hs : sizeL ((rngI c).map fun _ => rngI d) ≤ 130
  · simp [hs]
    refine (every_ev h (show 1 ≤ k by omega) (by rw [List.length_map, hlen]; omega) hc5 S).imp fun v S1 ⟨e, rows, ev, hg, hr⟩ => ?_
    subst e ev
    refine (mixed_ev h.h2 (show 2 ≤ k by omega) (things := .d (.list (rows.map keyD))) hF (by simp; omega) (.inl rfl) (by simp) (by simp; show _ ≤ 16777216; omega)).imp fun v S2 ⟨ys, ev, hy1, hy2, f⟩ => ?_
    subst ev
    have f' := f.le (show n + ((rows.map keyD).length : Int) ≤ n + 10000 by simp; omega)
    obtain ⟨keys, rfl, hkeys⟩ := unmap (F := keyD) (Q := fun key => key ∈ rows) (ds := ys) fun y hy => by
      obtain ⟨r, hr, e⟩ := List.mem_map.mp (hy2 y hy)
      exact ⟨r, e.symm, hr⟩
    simp [f'.take]
    refine ⟨keys, rfl, fun key hkey => isKey_of (by omega) (hg key (hkeys key hkey)), ?_, f'⟩
    simp at hy1
    omega
  · simp [hs, rng_ok (show (0 : Int) ≤ 16 by decide) (show (16 : Int) ≤ 1000 by decide)]
    have hz1 : (1 : Nat) ≤ SZ := by decide
    have hz3 : (3 : Nat) ≤ SZ := by decide
    have hcl : (lock.length : Int) = c := by
      unfold isLock at hlock
      simp at hlock
      exact hlock.1
    have hcuts : ∀ x ∈ lock, areCuts d x = true := by
      unfold isLock at hlock
      simp at hlock
      exact hlock.2
    have kl : ∀ {key : List Int}, isKey c d key = true → (key.length : Int) = c := fun {key} hk => by
      unfold isKey at hk
      simp at hk
      exact hk.1
    refine loopF_ok (TrI S l n c d 0 3 12 [some (.loc l), some (.d (makeD c d)), some (.d (lockD lock)), some (.d (lockD ((rngI c).map fun _ => rngI d)))]) ?_ ?_ ?_
    · exact ⟨_, _, _, _, _, [], rfl, by simp, by simp, by simp, by simp, (hF.ext (by rw [List.getElem?_append_left hlt])).le (by simp), fun j hj _ => by rw [List.getElem?_append_left hj]⟩
    · rintro i x σ S1 hx ⟨x1, x2, x3, x4, x5, rows, rfl, g1, g2, g3, g4, g5, g6⟩
      have hi : i < 16 := by
        have := (List.getElem?_eq_some_iff.mp hx).1
        simpa [rngD] using this
      simp [bindTg]
      refine (drawC (P := fun y => ∃ q : Int, y = .int q ∧ 0 ≤ q ∧ q ≤ d - 1) (c := 1) g5 (by decide) (by simp; show _ ≤ 16777216; omega) fun y hy Sx nx hFx hn0 hn1 hSx => ?_).imp fun ds S2 ⟨d1, d2, f2⟩ => ?_
      · obtain ⟨cuts, hcu, rfl⟩ := List.mem_map.mp hy
        have hcu2 := hcuts cuts hcu
        unfold areCuts at hcu2
        simp at hcu2
        simp [wipeD, Tg.slots]
        refine (one_ev h.h2 (show 2 ≤ k by omega) (things := .d (cutsD cuts)) hFx (by simp at hn1; omega) (.inr rfl) (by simp) (by simp; omega) (by simp; show _ ≤ 16777216; omega)).imp fun v S3 ⟨w, hw, ev, f3⟩ => ?_
        subst ev
        obtain ⟨q, hq, rfl⟩ := List.mem_map.mp hw
        simp
        exact ⟨hcu2.1.2 q hq, f3⟩
      · obtain ⟨key, rfl, hkr⟩ := unmap d2
        have hkey : isKey c d key = true := by
          unfold isKey
          simp at d1 ⊢
          exact ⟨by omega, hkr⟩
        have hkl := kl hkey
        simp at f2
        refine (draw_ev h.h2.h17 (show 1 ≤ k by omega) (m := c) (by omega) (by omega) f2.1 (by omega)).imp fun v S3 ⟨q, ev, q0, q1, f3⟩ => ?_
        subst ev
        obtain ⟨at_, rfl, hat⟩ := getD_int q0 q1
        have ek : PyData.tuple (key.map .int) = keyD key := rfl
        simp [ek]
        refine (draw_ev h.h2.h17 (show 1 ≤ k by omega) (m := d) (by omega) (by omega) f3.1 (by omega)).imp fun v S4 ⟨y, ev, y0, y1, f4⟩ => ?_
        subst ev
        simp [hz1]
        rw [add_key1 (by simp; omega)]
        simp
        rw [add_key (by simp; omega)]
        simp
        refine (key_ev h.h2 (show 2 ≤ k by omega) hm f4.1 (by omega)).imp fun v S5 ⟨key2, ev, hkey2, f5⟩ => ?_
        subst ev
        have f25 := (((f2.trans f3).trans f4).trans f5)
        have e5 : S5[S.length]? = some (O.lst (rows.map keyD)) := by rw [f25.2.2 _ (by omega)]; exact g1
        have l5 : S5.length = S.length + 1 := by rw [f25.2.1]; exact g4
        simp [hz3]
        rw [meth_extend e5 (by simp; show _ ≤ 16777216; omega)]
        simp
        refine ⟨_, _, _, _, _, rows ++ [key, key.take at_ ++ [y] ++ key.drop (at_ + 1), key2], rfl, ?_, ?_, by simp; omega, by simp [l5], ?_, fun j hj hne => ?_⟩
        · rw [List.getElem?_set_self (by omega)]
          simp
        · intro r hr
          simp at hr
          rcases hr with q | q | q | q
          · exact g2 r q
          · rw [q]; exact hkey
          · rw [q]
            have := isKey_swap hkey (show (at_ : Int) < c by omega) (x := y) ⟨y0, by omega⟩
            simpa using this
          · rw [q]; exact hkey2
        · exact (f5.1.ext (by rw [List.getElem?_set_ne (by omega)])).le (by omega)
        · rw [List.getElem?_set_ne (by omega), f25.2.2 _ hne]
          exact g6 j hj hne
    · rintro σ S1 ⟨x1, x2, x3, x4, x5, rows, rfl, g1, g2, g3, g4, g5, g6⟩
      have hr16 : (rngD 0 16).length = 16 := by decide
      rw [hr16] at g3 g5
      have hrc := rng_ok (show 0 ≤ c by omega) (show c ≤ 1000 by omega)
      have hrd := rng_ok (show 0 ≤ d by omega) (show d ≤ 1000 by omega)
      simp [hrc]
      refine loopF_ok (TrI S l (n + 192) c d 48 d.toNat d [some (.loc l), some (.d (makeD c d)), some (.d (lockD lock)), some (.d (lockD ((rngI c).map fun _ => rngI d)))]) ?_ ?_ ?_
      · exact ⟨_, _, _, _, _, rows, rfl, g1, g2, by omega, g4, g5.le (by omega), g6⟩
      · rintro i x σ S2 hx ⟨y1, y2, y3, y4, y5, rows2, rfl, k1, k2, k3, k4, k5, k6⟩
        have hi : i < c.toNat ∧ x = .int i := by
          rw [rngD_eq] at hx
          obtain ⟨a, ha, rfl⟩ := Option.map_eq_some_iff.mp (by rw [← List.getElem?_map]; exact hx)
          have h1 := (List.getElem?_eq_some_iff.mp ha).1
          have h2 : a = (i : Int) := by
            unfold rngI at ha
            rw [List.getElem?_map] at ha
            obtain ⟨b, hb, rfl⟩ := Option.map_eq_some_iff.mp ha
            have := List.getElem?_eq_some_iff.mp hb
            obtain ⟨w1, w2⟩ := this
            simp at w2
            omega
          rw [hlen] at h1
          exact ⟨h1, by rw [h2]⟩
        obtain ⟨hi, rfl⟩ := hi
        simp [bindTg, hrd]
        refine loopF_ok (TrK S l (n + 192 + d * i) c d (48 + d.toNat * i) i [some (.loc l), some (.d (makeD c d)), some (.d (lockD lock)), some (.d (lockD ((rngI c).map fun _ => rngI d)))]) ?_ ?_ ?_
        · exact ⟨_, _, _, _, rows2, rfl, k1, k2, by omega, k4, k5.le (by omega), k6⟩
        · rintro j x σ S3 hx ⟨z1, z2, z3, z4, rows3, rfl, p1, p2, p3, p4, p5, p6⟩
          have hj : j < d.toNat ∧ x = .int j := by
            rw [rngD_eq] at hx
            obtain ⟨a, ha, rfl⟩ := Option.map_eq_some_iff.mp (by rw [← List.getElem?_map]; exact hx)
            have h1 := (List.getElem?_eq_some_iff.mp ha).1
            have h2 : a = (j : Int) := by
              unfold rngI at ha
              rw [List.getElem?_map] at ha
              obtain ⟨b, hb, rfl⟩ := Option.map_eq_some_iff.mp ha
              obtain ⟨w1, w2⟩ := List.getElem?_eq_some_iff.mp hb
              simp at w2
              omega
            rw [hlen] at h1
            exact ⟨h1, by rw [h2]⟩
          obtain ⟨hj, rfl⟩ := hj
          have b1 : d.toNat * i ≤ 25 := by
            have : d.toNat ≤ 5 := by omega
            have : i ≤ 5 := by omega
            calc d.toNat * i ≤ 5 * 5 := Nat.mul_le_mul (by omega) (by omega)
              _ = 25 := rfl
          have b2 : d * (i : Int) ≤ 25 := by
            have : d * (i : Int) = ((d.toNat * i : Nat) : Int) := by
              rw [Int.natCast_mul, Int.toNat_of_nonneg (by omega)]
            omega
          simp [bindTg]
          refine (one_ev h.h2 (show 2 ≤ k by omega) (things := .loc S.length) p5 (by omega) (.inl (rd_at p1)) (by simp; omega) (by simp; omega) (by simp; show _ ≤ 16777216; omega)).imp fun v S4 ⟨w, hw, ev, f⟩ => ?_
          subst ev
          obtain ⟨key, hkm, rfl⟩ := List.mem_map.mp hw
          have hkey := p2 key hkm
          have hkl := kl hkey
          have e4 : S4[S.length]? = some (O.lst (rows3.map keyD)) := by rw [f.2.2 _ (by omega)]; exact p1
          have l4 : S4.length = S.length + 1 := by rw [f.2.1]; exact p4
          simp [hz1]
          rw [add_key1 (by simp; omega)]
          simp
          rw [add_key (by simp; omega)]
          simp
          rw [meth_append e4 (by simp; show _ < 16777216; omega)]
          simp
          refine ⟨_, _, _, _, rows3 ++ [key.take i ++ [(j : Int)] ++ key.drop (i + 1)], rfl, ?_, ?_, by simp; omega, by simp [l4], ?_, fun q hq hne => ?_⟩
          · rw [List.getElem?_set_self (by omega)]
            simp
          · intro r hr
            rcases List.mem_append.mp hr with q | q
            · exact p2 r q
            · have : r = key.take i ++ [(j : Int)] ++ key.drop (i + 1) := by simpa using q
              rw [this]
              exact isKey_swap hkey (by omega) ⟨by omega, by omega⟩
          · exact (f.1.ext (by rw [List.getElem?_set_ne (by omega)])).le (by omega)
          · rw [List.getElem?_set_ne (by omega), f.2.2 _ hne]
            exact p6 q hq hne
        · rintro σ S3 ⟨z1, z2, z3, z4, rows3, rfl, p1, p2, p3, p4, p5, p6⟩
          have hl2 : (rngD 0 d).length = d.toNat := rng_len
          rw [hl2] at p3 p5
          simp
          refine ⟨_, _, _, _, _, rows3, rfl, p1, p2, ?_, p4, p5.le ?_, p6⟩
          · rw [p3, Nat.mul_add]; omega
          · simp
            rw [Int.mul_add]
            omega
      · rintro σ S2 ⟨y1, y2, y3, y4, y5, rows2, rfl, k1, k2, k3, k4, k5, k6⟩
        have hl2 : (rngD 0 c).length = c.toNat := rng_len
        rw [hl2] at k3 k5
        have b1 : d.toNat * c.toNat ≤ 25 := by
          calc d.toNat * c.toNat ≤ 5 * 5 := Nat.mul_le_mul (by omega) (by omega)
            _ = 25 := rfl
        have b2 : d * (c.toNat : Int) ≤ 25 := by
          have : d * (c.toNat : Int) = ((d.toNat * c.toNat : Nat) : Int) := by
            rw [Int.natCast_mul, Int.toNat_of_nonneg (show 0 ≤ d by omega)]
          omega
        simp
        rw [finOk_new (Nat.le_refl _) k1]
        exact ⟨rows2, rfl, k2, by omega, Fd.cut hlt (k5.le (by omega)) (by omega) k6⟩
end
end KA
/-! KL5: told and due; the feeds. -/
namespace KA
open PySem
theorem isin_cons {n : String} (hn : ["int", "bool", "str", "list", "tuple", "dict"].contains n = true) (x : PD) (r : List Tn) : isinD x (.ty n :: r) = if isTy x n then some true else isinD x r := by
  rw [isinD]
  rw [if_pos hn]
@[simp] theorem isin_nil (x : PD) : isinD x [] = some false := by rw [isinD]
@[simp] theorem isin_list_ (x : PD) (r : List Tn) : isinD x (.ty "list" :: r) = if isTy x "list" then some true else isinD x r := isin_cons (by decide) x r
@[simp] theorem isin_tuple_ (x : PD) (r : List Tn) : isinD x (.ty "tuple" :: r) = if isTy x "tuple" then some true else isinD x r := isin_cons (by decide) x r
@[simp] theorem isin_bool_ (x : PD) (r : List Tn) : isinD x (.ty "bool" :: r) = if isTy x "bool" then some true else isinD x r := isin_cons (by decide) x r
@[simp] theorem isin_int_ (x : PD) (r : List Tn) : isinD x (.ty "int" :: r) = if isTy x "int" then some true else isinD x r := isin_cons (by decide) x r
@[simp] theorem isin_str_ (x : PD) (r : List Tn) : isinD x (.ty "str" :: r) = if isTy x "str" then some true else isinD x r := isin_cons (by decide) x r
/-- data that is told: d deep at most -/
def plainN : Nat → PD → Bool
  | _, .none => true
  | _, .bool _ => true
  | _, .int _ => true
  | _, .str _ => true
  | d + 1, .list xs => decide (xs.length ≤ 1000000) && xs.all (plainN d)
  | d + 1, .tuple xs => decide (xs.length ≤ 1000000) && xs.all (plainN d)
  | _, _ => false
theorem zipD_self : ∀ xs : List PD, zipD xs xs = xs.map fun y => .tuple [y, y]
  | [] => rfl
  | x :: r => by simp [zipD, zipD_self r]
theorem filter_no {α : Type} (l : List α) : l.filter (fun _ => false) = [] := List.filter_eq_nil_iff.mpr (by simp)
theorem eq_nil : eqD (.list []) (.list []) = some true := by
  have := eq_list_ints [] []
  simpa using this
section
variable {T : Tab}
theorem same_ev (hT : T 20 = some c_law_same) : ∀ (d : Nat) (x : PD) {k : Nat}, plainN d x = true → d + 1 ≤ k → ∀ S, evCall T k 20 [.d x, .d x] S = .ok (.d (.bool true)) S := by
  intro d
  induction d with
  | zero =>
    intro x k hx hk S
    obtain ⟨k, rfl⟩ : ∃ j, k = j + 1 := ⟨k - 1, by omega⟩
    refine eq_call hT rfl ?_
    cases x <;> simp [plainN] at hx <;> simp [c_law_same, startD, isTy, tyD, isNonV, cmpD, eqD]
  | succ d ih =>
    intro x k hx hk S
    obtain ⟨k, rfl⟩ : ∃ j, k = j + 1 := ⟨k - 1, by omega⟩
    refine eq_call hT rfl ?_
    cases x with
    | list xs =>
      simp [plainN] at hx
      simp [c_law_same, startD, isTy, tyD]
      rw [zipD_self, loopC_mapF (p := fun _ => false) (G := fun y => y) (fun y hy => by simp [bindTg, wipeD, Tg.slots, ih y (hx.2 y hy) (show d + 1 ≤ k by omega)]) (by simp; show _ ≤ 16777216; omega)]
      simp [cmpD, eq_nil, filter_no]
    | tuple xs =>
      simp [plainN] at hx
      simp [c_law_same, startD, isTy, tyD]
      rw [zipD_self, loopC_mapF (p := fun _ => false) (G := fun y => y) (fun y hy => by simp [bindTg, wipeD, Tg.slots, ih y (hx.2 y hy) (show d + 1 ≤ k by omega)]) (by simp; show _ ≤ 16777216; omega)]
      simp [cmpD, eq_nil, filter_no]
    | dict _ => simp [plainN] at hx
    | _ => simp [c_law_same, startD, isTy, tyD, isNonV, cmpD, eqD]
/-- a new feed -/
theorem feed_ev (hT : T 16 = some c_law_feed) {k : Nat} (hk : 1 ≤ k) (ns : List Int) (i : Nat) (hi : i < 1000) (S : Sto) :
    Ok (evCall T k 16 [.d (.list (ns.map .int)), .d (.int i)] S) fun v S' => v = .loc S.length ∧ FeedAt S' S.length 0 ∧ S'.length = S.length + 1 ∧ ∀ j, j < S.length → S'[j]? = S[j]? := by
  obtain ⟨k, rfl⟩ : ∃ j, k = j + 1 := ⟨k - 1, by omega⟩
  refine ok_call hT rfl ?_
  simp only [c_law_feed, startD]
  have hb : -(2 ^ 64) < (i : Int) ∧ (i : Int) < 2 ^ 64 := by
    have e : (2 : Int) ^ 64 = 18446744073709551616 := by decide +kernel
    rw [e]; omega
  have e3 : (3 : Int) = ((3 : Nat) : Int) := rfl
  have hsl : slcD (.list (ns.map .int)) none (some 3) = some (.list ((ns.take 3).map .int)) := by
    show some (PyData.list (cutD (ns.map .int) none (some ((3 : Nat) : Int)))) = _
    rw [cut_take, ← List.map_take]
  have hsum : intsD (List.take 3 (ns.map PyData.int)) = some (ns.take 3) := by rw [← List.map_take, intsD_mp]
  have hz3 : (3 : Nat) ≤ SZ := by decide
  have fin : ∀ cell : Int, FinOk true S.length (.loc S.length) (S ++ [O.lst [.int (if 1000000000000000000 < cell then cell - 1000000000000000000 else 0), .int ((cell * 31 + 17 * (i : Int) + 5) % 100000000000000000000000000000000000133), .int 0]]) fun v S' =>
      v = .loc S.length ∧ FeedAt S' S.length 0 ∧ S'.length = S.length + 1 ∧ ∀ j, j < S.length → S'[j]? = S[j]? := fun cell => by
    rw [finOk_newM (Nat.le_refl _) (by rw [List.getElem?_append_right (Nat.le_refl _), Nat.sub_self]; rfl)]
    have ht : (S ++ [O.lst [.int (if 1000000000000000000 < cell then cell - 1000000000000000000 else 0), .int ((cell * 31 + 17 * (i : Int) + 5) % 100000000000000000000000000000000000133), .int 0]]).take S.length = S := by rw [List.take_left]
    rw [ht]
    refine ⟨rfl, ⟨_, _, _, by rw [List.getElem?_append_right (Nat.le_refl _), Nat.sub_self]; rfl, ?_, Int.emod_nonneg _ (by decide), ?_, by decide, by decide⟩, by simp, fun j hj => by rw [List.getElem?_append_left hj]⟩
    · split <;> omega
    · have h1 := Int.emod_lt_of_pos (cell * 31 + 17 * (i : Int) + 5) (show (0 : Int) < 100000000000000000000000000000000000133 by decide)
      have e : (10 : Int) ^ 39 = 1000000000000000000000000000000000000000 := by decide +kernel
      rw [e]
      omega
  simp [mul_l, hsl]
  by_cases hlt : i < ns.length
  · have hg : (ns.map PyData.int)[i]? = some (.int ns[i]) := by simp [hlt]
    simp [hlt, sub_list_nat, hg, hsum, mul_l, mul_r, hz3, mod_pos]
    exact fin _
  · simp [hlt, hsum, mul_l, mul_r, hz3, mod_pos]
    exact fin _
end
end KA
/-! KL6: repr of what laws hold. -/
namespace KA
open PySem
/-- repr tells it in b signs at most -/
structure Rn (b h : Nat) (x : PD) : Prop where
  sh : x.showable = true
  nd : x.hasDict = false
  dp : x.depth ≤ h
  ln : x.shown.length ≤ b
theorem rn_int {i : Int} (h0 : 0 ≤ i) (h1 : i ≤ 9) : Rn 1 0 (.int i) := by
  have h : i = 0 ∨ i = 1 ∨ i = 2 ∨ i = 3 ∨ i = 4 ∨ i = 5 ∨ i = 6 ∨ i = 7 ∨ i = 8 ∨ i = 9 := by omega
  have key : ∀ n : Nat, n ≤ 9 → ((toString (n : Int) : String) : Str).length ≤ 1 ∧ ((n : Int).natAbs.log2 < 1920) := by decide +kernel
  obtain ⟨n, rfl⟩ : ∃ n : Nat, i = n := ⟨i.toNat, by omega⟩
  obtain ⟨k1, k2⟩ := key n (by omega)
  refine ⟨?_, ?_, ?_, ?_⟩
  · rw [PyData.showable]; exact decide_eq_true k2
  · rw [PyData.hasDict]
  · rw [PyData.depth]; exact Nat.le_refl _
  · rw [PyData.shown]; exact k1
theorem rn_all {b h : Nat} : ∀ {xs : List PD}, (∀ x ∈ xs, Rn b h x) → PyData.showableAll xs = true ∧ PyData.hasDictAll xs = false ∧ PyData.depthAll xs ≤ h ∧ piled (PyData.shownAll xs) ≤ xs.length * (b + 2) ∧ (PyData.shownAll xs).length = xs.length
  | [], _ => ⟨rfl, rfl, Nat.zero_le _, by simp [PyData.shownAll, piled_nil], rfl⟩
  | x :: r, hx => by
    obtain ⟨h1, h2, h3, h4, h5⟩ := rn_all (xs := r) fun y hy => hx y (by simp [hy])
    have q := hx x (by simp)
    have ql := q.ln
    have qd := q.dp
    refine ⟨by rw [PyData.showableAll, q.sh, h1]; rfl, by rw [PyData.hasDictAll, q.nd, h2]; rfl, by rw [PyData.depthAll]; omega, ?_, by rw [PyData.shownAll, List.length_cons, h5, List.length_cons]⟩
    rw [PyData.shownAll, piled_cons, List.length_cons, Nat.add_mul]
    omega
theorem listText_len (ts : List Str) : (listText ts).length ≤ piled ts + 2 := by
  unfold listText
  rw [strLen_append]
  have e1 : ((("]" : String) : Str)).length = 1 := rfl
  have e2 : ((("[" : String) : Str)).length = 1 := rfl
  cases ts with
  | nil => 
    show (("[" : String) : Str).length + _ ≤ _
    rw [e1, e2]
    omega
  | cons t r =>
    rw [textFrom, textFrom_length_pos _ _ _ (by omega), strLen_append, strLen_append, piled_cons, e2]
    have e3 : (((if (0 : Nat) > 0 then ", " else "" : String) : Str)).length = 0 := rfl
    rw [e3]
    have : (("]" : String) : Str).length = 1 := e1
    omega
theorem tupleText_len (ts : List Str) : (tupleText ts).length ≤ piled ts + 3 := by
  unfold tupleText
  rw [strLen_append, strLen_append]
  have e2 : ((("(" : String) : Str)).length = 1 := rfl
  have e3 : (((if (ts.length == 1) = true then ",)" else ")" : String) : Str)).length ≤ 2 := by
    split <;> decide +kernel
  cases ts with
  | nil =>
    have : (Str.join ", " []).length = 0 := rfl
    omega
  | cons t r =>
    have := join_length_add (t :: r) (by simp)
    omega
theorem rn_tuple {b h n : Nat} {xs : List PD} (hx : ∀ x ∈ xs, Rn b h x) (hn : xs.length ≤ n) : Rn (n * (b + 2) + 3) (h + 1) (.tuple xs) := by
  obtain ⟨h1, h2, h3, h4, h5⟩ := rn_all hx
  refine ⟨by rw [PyData.showable]; exact h1, by rw [PyData.hasDict]; exact h2, by rw [PyData.depth]; omega, ?_⟩
  rw [PyData.shown]
  have := tupleText_len (PyData.shownAll xs)
  have := Nat.mul_le_mul_right (b + 2) hn
  omega
theorem rn_list {b h n : Nat} {xs : List PD} (hx : ∀ x ∈ xs, Rn b h x) (hn : xs.length ≤ n) : Rn (n * (b + 2) + 3) (h + 1) (.list xs) := by
  obtain ⟨h1, h2, h3, h4, h5⟩ := rn_all hx
  refine ⟨by rw [PyData.showable]; exact h1, by rw [PyData.hasDict]; exact h2, by rw [PyData.depth]; omega, ?_⟩
  rw [PyData.shown]
  have := listText_len (PyData.shownAll xs)
  have := Nat.mul_le_mul_right (b + 2) hn
  omega
theorem repr_list {b h : Nat} {xs : List PD} (r : Rn b h (.list xs)) (hh : h ≤ 64) (hb : b ≤ 16777216) : bltD .repr_ [.list xs] = some (.str (PyData.list xs).shown) := by
  have h1 := r.ln
  have h2 := r.dp
  show (if (_ && _ && _ && _) = true then _ else _) = _
  rw [if_pos]
  rw [r.sh, r.nd, decide_eq_true (show (PyData.list xs).depth ≤ 64 by omega), decide_eq_true (show (PyData.list xs).shown.length ≤ SZ from Nat.le_trans h1 hb)]
  rfl
theorem rn_lock {c d : Int} (hm : isMake c d) {lock : List (List Int)} (h : isLock c d lock = true) : Rn 103 2 (lockD lock) := by
  obtain ⟨m1, m2, m3, m4⟩ := hm
  unfold isLock at h
  simp at h
  obtain ⟨h1, h2⟩ := h
  refine rn_tuple (b := 18) (n := 5) (h := 1) (fun x hx => ?_) (by simp; omega)
  obtain ⟨cuts, hc, rfl⟩ := List.mem_map.mp hx
  have h3 := h2 cuts hc
  unfold areCuts at h3
  simp at h3
  refine rn_tuple (b := 1) (n := 5) (h := 0) (fun y hy => ?_) (by simp; omega)
  obtain ⟨i, hi, rfl⟩ := List.mem_map.mp hy
  have := h3.1.2 i hi
  exact rn_int (by omega) (by omega)
end KA
/-! KL7: the law k01. -/
namespace KA
open PySem
theorem sub_last (ds : List PD) (x : PD) : subD (.list (ds ++ [x])) (.int (-1)) = some x := by
  show L2.atI (ds ++ [x]) (-1) = some x
  unfold L2.atI L2.ixN
  simp
  rw [if_pos (by omega)]
  have e : (-1 + ((ds.length : Int) + 1)).toNat = ds.length := by omega
  simp [e]
theorem eq_tup_nil (a : List Int) : cmpD .Eq (.tuple (a.map .int)) (.tuple []) = some (decide (a = [])) := eq_tup_ints a []
@[simp] theorem neg_int (i : Int) : negD (.int i) = some (.int (-i)) := Eq.trans rfl rfl
theorem opens_apart {lock : List (List Int)} {key : List Int} (hl : lock.length = key.length) : doesOpen lock key = decide (apartL lock key = []) := by
  unfold doesOpen apartL
  rw [Bool.eq_iff_iff, List.all_eq_true, decide_eq_true_iff, List.map_eq_nil_iff, List.filter_eq_nil_iff]
  constructor
  · intro h p hp
    have hg := List.mem_zipIdx_iff_getElem?.mp hp
    obtain ⟨hi, e⟩ := List.getElem?_eq_some_iff.mp hg
    have := h (key[p.2]'(by omega), lock[p.2]) (by
      have hz : p.2 < (key.zip lock).length := by simp; omega
      have := List.getElem_mem hz
      simpa using this)
    rw [List.getD_eq_getElem?_getD, List.getElem?_eq_getElem (show p.2 < key.length by omega)]
    simp at this ⊢
    rw [← e]
    exact this
  · intro h p hp
    obtain ⟨i, hi, e⟩ := List.getElem_of_mem hp
    have hi1 : i < key.length ∧ i < lock.length := by
      rw [List.length_zip] at hi
      omega
    have := h (lock[i], i) (List.mem_zipIdx_iff_getElem?.mpr (by simp [hi1.2]))
    rw [List.getD_eq_getElem?_getD, List.getElem?_eq_getElem hi1.1] at this
    simp at this
    rw [← e]
    simpa using this
section
variable {T : Tab}
structure H01 (T : Tab) : Prop where
  h3 : H3 T
  hb : H1b T
  h16 : T 16 = some c_law_feed
  h67 : T 67 = some c_law_tells_2
  h68 : T 68 = some c_law_4
structure TeI (S0 : Sto) (l : Nat) (n : Int) (pre : Sg) (due : VV) (i : Nat) (σ : Sg) (S : Sto) : Prop where
  ex : ∃ (x : Option VV) (told : List PD), σ = pre ++ [x, some due, some (.loc S0.length)] ∧ S[S0.length]? = some (O.lst told) ∧ told.length = i ∧ S.length = S0.length + 1 ∧ FeedAt S l n ∧ ∀ j, j < S0.length → j ≠ l → S[j]? = S0[j]?
theorem tells_ev (h : H01 T) {k : Nat} (hk : 7 ≤ k) {S : Sto} {l : Nat} {n c d : Int} (hm : isMake c d) {lock : List (List Int)} (hlock : isLock c d lock = true) {key : List Int} (hkey : isKey c d key = true) (hF : FeedAt S l n) (hn : n + 2 < 2 ^ 60) :
    Ok (evCall T k 67 [.loc l, .d (makeD c d), .d (lockD lock), .d (keyD key)] S) fun v S' => v = .d (.bool true) ∧ Fd S S' l (n + 2) := by
  obtain ⟨k, rfl⟩ : ∃ j, k = j + 1 := ⟨k - 1, by omega⟩
  have hlt := hF.lt
  have hll : lock.length = key.length ∧ key.length ≤ 5 := by
    unfold isLock at hlock
    unfold isKey at hkey
    simp at hlock hkey
    obtain ⟨_, m2, _⟩ := hm
    omega
  refine ok_call h.h67 rfl ?_
  simp only [c_law_tells_2, startD]
  have hz0 : (0 : Nat) ≤ SZ := by decide
  have hz2 : (2 : Nat) ≤ SZ := by decide
  simp [lawApart_ev h.h3 (show 1 ≤ k by omega) hll.1 (by omega), hz0, hz2]
  refine (mixed_ev h.h3.h2 (show 2 ≤ k by omega) (things := .d (.list [.str (Str.ofString "opens"), .str (Str.ofString "apart")])) (S := S ++ [O.lst []]) (hF.ext (by rw [List.getElem?_append_left hlt])) (by simp; omega) (.inl rfl) (by simp) (by decide)).imp fun v S1 ⟨ys, ev, y1, y2, f⟩ => ?_
  subst ev
  simp
  simp at y1
  have ha : apartL lock key = apartL lock key := rfl
  have hpl : plainN 1 (.tuple ((apartL lock key).map .int)) = true := by
    have hlen : (apartL lock key).length ≤ 5 := by
      unfold apartL
      rw [List.length_map]
      refine Nat.le_trans (List.length_filter_le _ _) ?_
      simp; omega
    simp [plainN]
    omega
  refine loopF_ok (TeI S l (n + 2) [some (.loc l), some (.d (makeD c d)), some (.d (lockD lock)), some (.d (keyD key))] (.d (.tuple ((apartL lock key).map .int)))) ?_ ?_ ?_
  · refine ⟨_, [], rfl, by rw [f.2.2 _ (by omega)]; simp, rfl, by rw [f.2.1]; simp, f.1.le (by simp), fun j hj hne => by rw [f.2.2 _ hne, List.getElem?_append_left hj]⟩
  · rintro i x σ S2 hx ⟨x0, told, rfl, g1, g2, g3, g4, g5⟩
    have hi : i < 2 := by
      have := (List.getElem?_eq_some_iff.mp hx).1
      omega
    have hxm := y2 x (List.mem_of_getElem? hx)
    simp at hxm
    have tz : told.length < SZ := by show _ < 16777216; omega
    have hlt2 : S.length < S2.length := by omega
    have e2 : ∀ y, (S2.set S.length (O.lst y))[S.length]? = some (O.lst y) := fun y => by rw [List.getElem?_set_self hlt2]
    have fin : ∀ (x : PD) (y : PD), TeI S l (n + 2) [some (.loc l), some (.d (makeD c d)), some (.d (lockD lock)), some (.d (keyD key))] (.d (.tuple ((apartL lock key).map .int))) (i + 1)
        [some (.loc l), some (.d (makeD c d)), some (.d (lockD lock)), some (.d (keyD key)), some (.d x), some (.d (.tuple ((apartL lock key).map .int))), some (.loc S.length)] (S2.set S.length (O.lst (told ++ [y]))) := fun x y =>
      ⟨_, told ++ [y], rfl, e2 _, by simp [g2], by simp [g3], g4.ext (by rw [List.getElem?_set_ne (by omega)]), fun j hj hne => by rw [List.getElem?_set_ne (by omega)]; exact g5 j hj hne⟩
    have ne : ((Str.ofString "apart" == Str.ofString "opens") : Bool) = false := by decide +kernel
    rcases hxm with rfl | rfl
    · simp [bindTg, opens_ev h.hb (show 6 ≤ k by omega) hm hlock hkey]
      rw [meth_append g1 tz]
      simp [op2, rd_at (e2 _), sub_last]
      rw [eq_tup_nil, opens_apart hll.1]
      simp only [KA.R.opt_some, ok_ok]
      rw [same_ev h.h3.h20 0 (.bool _) rfl (show 0 + 1 ≤ k by omega)]
      simp
      exact fin _ _
    · simp [bindTg, ne, apart_in_ev h.hb (show 6 ≤ k by omega) hm hlock hkey]
      rw [meth_append g1 tz]
      simp [op2, rd_at (e2 _), sub_last, ne]
      rw [same_ev h.h3.h20 1 _ hpl (show 1 + 1 ≤ k by omega)]
      simp
      exact fin _ _
  · rintro σ S2 ⟨x0, told, rfl, g1, g2, g3, g4, g5⟩
    first
      | exact Fd.cut hlt g4 (by omega) g5
      | exact ⟨rfl, Fd.cut hlt g4 (by omega) g5⟩
      | (simp; exact Fd.cut hlt g4 (by omega) g5)
theorem key3 (a b c : VV) : keyArgs [Str.ofString "make", Str.ofString "lock", Str.ofString "key"] [Str.ofString "key", Str.ofString "lock", Str.ofString "make"] [a, b, c] = some [c, b, a] := by
  have e1 : (Str.ofString "make" == Str.ofString "key") = false := by decide +kernel
  have e2 : (Str.ofString "make" == Str.ofString "lock") = false := by decide +kernel
  have e3 : (Str.ofString "lock" == Str.ofString "key") = false := by decide +kernel
  simp [keyArgs, List.lookup, e1, e2, e3]
structure La (ns : List Int) (l : Nat) (c d : Int) (l1 l2 : List (List Int)) (held : Str) (n : Int) (i : Nat) (σ : Sg) (S : Sto) : Prop where
  ex : ∃ (x y z w : Option VV), σ = [some (.d (.list (ns.map .int))), x, some (.loc l), some (.d (makeD c d)), some (.d (.list [lockD l1, lockD l2])), some (.d (.str held)), y, z, w] ∧ FeedAt S l (n + 6 * i)
structure Lb (ns : List Int) (l : Nat) (c d : Int) (l1 l2 : List (List Int)) (held : Str) (key : List Int) (n : Int) (i : Nat) (σ : Sg) (S : Sto) : Prop where
  ex : ∃ (x z w : Option VV), σ = [some (.d (.list (ns.map .int))), x, some (.loc l), some (.d (makeD c d)), some (.d (.list [lockD l1, lockD l2])), some (.d (.str held)), some (.d (keyD key)), z, w] ∧ FeedAt S l (n + 2 * i)
theorem law_k01 (h : H01 T) {k : Nat} (hk : 9 ≤ k) (ns : List Int) (hns : ns.length ≤ 63) : ∃ S, evCall T k 68 [.d (.list (ns.map .int))] [] = .ok (.d (.bool true)) S := by
  suffices hh : Ok (evCall T k 68 [.d (.list (ns.map .int))] []) fun v S' => v = .d (.bool true) by
    obtain ⟨v, S, e, rfl⟩ := hh.ex
    exact ⟨S, e⟩
  obtain ⟨k, rfl⟩ : ∃ j, k = j + 1 := ⟨k - 1, by omega⟩
  refine ok_call h.h68 rfl ?_
  simp only [c_law_4, startD]
  try simp
  generalize hM : (if (if 6 < (ns.length : Int) then (6 : Int) else ns.length) > 2 then (if 6 < (ns.length : Int) then (6 : Int) else ns.length) else 2) = m
  have hm6 : 0 ≤ m ∧ m ≤ 6 := by
    rw [← hM]
    split <;> split <;> omega
  simp [rng_ok hm6.1 (show m ≤ 1000 by omega)]
  refine loopF_ok (fun i σ S => ∃ x1 x2 x3 x4 x5 x6 x7 x8 : Option VV, σ = [some (.d (.list (ns.map .int))), x1, x2, x3, x4, x5, x6, x7, x8]) ⟨_, _, _, _, _, _, _, _, rfl⟩ ?_ ?_
  · rintro i x σ S hx ⟨x1, x2, x3, x4, x5, x6, x7, x8, rfl⟩
    have hi : i < 1000 ∧ x = .int i := by
      rw [rngD_eq] at hx
      obtain ⟨a, ha, rfl⟩ := Option.map_eq_some_iff.mp (by rw [← List.getElem?_map]; exact hx)
      have h1 := (List.getElem?_eq_some_iff.mp ha).1
      have h2 : a = (i : Int) := by
        unfold rngI at ha
        rw [List.getElem?_map] at ha
        obtain ⟨b, hb, rfl⟩ := Option.map_eq_some_iff.mp ha
        obtain ⟨w1, w2⟩ := List.getElem?_eq_some_iff.mp hb
        simp at w2
        omega
      have : (rngI m).length = m.toNat := by simp [rngI]
      exact ⟨by omega, by rw [h2]⟩
    obtain ⟨hi, rfl⟩ := hi
    have hz2 : (2 : Nat) ≤ SZ := by decide
    simp [bindTg]
    refine (feed_ev h.h16 (show 1 ≤ k by omega) ns i hi S).imp fun v S1 ⟨ev, hF, hl1, _⟩ => ?_
    subst ev
    generalize S.length = l at *
    try simp
    refine (make_ev h.h3.h2 (show 3 ≤ k by omega) hF (by omega)).imp fun v S2 ⟨c, d, ev, hm, f2⟩ => ?_
    subst ev
    try simp
    refine (lock_ev h.h3.h2 (show 3 ≤ k by omega) hm f2.1 (by omega)).imp fun v S3 ⟨l1, ev, hl1', f3⟩ => ?_
    subst ev
    try simp
    refine (lock_ev h.h3.h2 (show 3 ≤ k by omega) hm f3.1 (by omega)).imp fun v S4 ⟨l2, ev, hl2', f4⟩ => ?_
    subst ev
    have hrn : Rn 213 3 (.list [lockD l1, lockD l2]) := rn_list (b := 103) (n := 2) (h := 2) (fun x hx => by
      simp at hx
      rcases hx with rfl | rfl
      · exact rn_lock hm hl1'
      · exact rn_lock hm hl2') (by simp)
    have hrep := repr_list hrn (by omega) (by omega)
    generalize (PyData.list [lockD l1, lockD l2]).shown = held at hrep
    have hmem : ∀ x ∈ [lockD l1, lockD l2], ∃ lk, x = lockD lk ∧ isLock c d lk = true := fun x hx => by
      simp at hx
      rcases hx with rfl | rfl
      · exact ⟨l1, rfl, hl1'⟩
      · exact ⟨l2, rfl, hl2'⟩
    simp [hz2, hrep]
    refine (tried_ev h.h3 (show 4 ≤ k by omega) hm hl1' f4.1 (by omega)).imp fun v S5 ⟨keys, ev, hkeys, hkn, f5⟩ => ?_
    subst ev
    try simp
    refine loopF_ok (La ns l c d l1 l2 held 20000) ?_ ?_ ?_
    · exact ⟨_, _, _, _, rfl, f5.1.le (by omega)⟩
    · rintro j x σ S6 hx ⟨y1, y2, y3, y4, rfl, hF6⟩
      rw [List.getElem?_map] at hx
      obtain ⟨key, hkj, rfl⟩ := Option.map_eq_some_iff.mp hx
      have hj := (List.getElem?_eq_some_iff.mp hkj).1
      have hkey := hkeys key (List.mem_of_getElem? hkj)
      simp [bindTg]
      refine (mixed_ev h.h3.h2 (show 2 ≤ k by omega) (things := .d (.list [lockD l1, lockD l2])) hF6 (by simp; omega) (.inl rfl) (by simp) (show (2 : Nat) ≤ SZ by decide)).imp fun v S7 ⟨ys, ev, g1, g2, f7⟩ => ?_
      subst ev
      simp at g1
      try simp
      refine loopF_ok (Lb ns l c d l1 l2 held key (20000 + 6 * j + 2)) ?_ ?_ ?_
      · exact ⟨_, _, _, rfl, f7.1.le (by simp)⟩
      · rintro q x σ S8 hx ⟨z1, z2, z3, rfl, hF8⟩
        obtain ⟨lk, rfl, hlk⟩ := hmem x (g2 x (List.mem_of_getElem? hx))
        have hq : q < 2 := by
          have := (List.getElem?_eq_some_iff.mp hx).1
          omega
        simp [bindTg]
        refine (tells_ev h (show 7 ≤ k by omega) hm hlk hkey hF8 (by omega)).imp fun v S9 ⟨ev, f9⟩ => ?_
        subst ev
        try simp
        exact ⟨_, _, _, rfl, f9.1.le (by omega)⟩
      · rintro σ S8 ⟨z1, z2, z3, rfl, hF8⟩
        rw [g1] at hF8
        try simp
        exact ⟨_, _, _, _, rfl, hF8.le (by simp; omega)⟩
    · rintro σ S6 ⟨y1, y2, y3, y4, rfl, hF6⟩
      rw [List.length_map] at hF6
      try simp
      refine (one_ev h.h3.h2 (show 2 ≤ k by omega) (things := .d (.list [lockD l1, lockD l2])) hF6 (by omega) (.inl rfl) (by simp) (by simp) (show (2 : Nat) ≤ SZ by decide)).imp fun v S7 ⟨x, hxm, ev, f7⟩ => ?_
      subst ev
      obtain ⟨lk, rfl, hlk⟩ := hmem x hxm
      try simp
      refine (key_ev h.h3.h2 (show 2 ≤ k by omega) hm f7.1 (by omega)).imp fun v S8 ⟨key, ev, hkey, f8⟩ => ?_
      subst ev
      have hll : lk.length = key.length ∧ key.length ≤ 5 := by
        unfold isLock at hlk
        unfold isKey at hkey
        simp at hlk hkey
        obtain ⟨_, m2, _⟩ := hm
        omega
      simp [lawApart_ev h.h3 (show 1 ≤ k by omega) hll.1 (by omega), op2]
      have hp65 : parOf T 65 = [Str.ofString "make", Str.ofString "lock", Str.ofString "key"] := by simp [parOf, h.hb.h65, c_opens_2]
      have hp66 : parOf T 66 = [Str.ofString "make", Str.ofString "lock", Str.ofString "key"] := by simp [parOf, h.hb.h66, c_apart_in_2]
      have hpl : plainN 2 (.list [.bool (decide (apartL lk key = [])), .tuple ((apartL lk key).map .int)]) = true := by
        have hlen : (apartL lk key).length ≤ 5 := by
          unfold apartL
          rw [List.length_map]
          refine Nat.le_trans (List.length_filter_le _ _) ?_
          simp; omega
        simp [plainN]
        omega
      rw [eq_tup_nil, hp65, hp66]
      simp only [key3, KA.R.opt_some, ok_ok, opens_ev h.hb (show 6 ≤ k by omega) hm hlk hkey, apart_in_ev h.hb (show 6 ≤ k by omega) hm hlk hkey, esc_d, opens_apart hll.1]
      rw [same_ev h.h3.h20 2 _ hpl (show 2 + 1 ≤ k by omega)]
      simp [hrep]
  · rintro σ S ⟨x1, x2, x3, x4, x5, x6, x7, x8, rfl⟩
    try simp
end
end KA
theorem KA.K01.has : KA.H01 KA.K01.dom.T :=
  ⟨⟨⟨rfl, rfl, rfl, rfl, rfl, rfl, rfl⟩, rfl, rfl, rfl, rfl, rfl, rfl⟩, ⟨⟨rfl, rfl, rfl, rfl, rfl, rfl, rfl, rfl, rfl⟩, rfl, rfl, rfl, rfl, rfl, rfl⟩, rfl, rfl, rfl⟩
theorem PySem.Challenge.cw_keyedapart_k01_opening_locks_holds : PySem.Challenge.rw_keyedapart_k01_opening_locks.Holds := by
  exact KA.K01.holds_of 12 ⟨rfl, by decide +kernel, by decide +kernel⟩ fun ns h => KA.law_k01 KA.K01.has (by decide) ns h
