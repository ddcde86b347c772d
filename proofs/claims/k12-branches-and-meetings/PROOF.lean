import PyProof.Rows.All
import HandS.ForMost
import HandS.Wide
import HandS.Deep
import HandS.Exc
import HandS.ExcIs
import HandS.IsInst
import HandS.TupAny
import HandS.Zip
import HandS.Conv
import HandS.Style
import HandS.ForExc
import HandS.HeadHook1
import HandS.DictSubView
import HandS.Strs
import KE.GoesEnum
import HandS.WordsExc
import HandS.SetFor
import PyProof.Rows.SetFrom
import HandS.ExcOwn
import HandS.TryOnly
import HandS.Defaults
import HandS.HeadEnd
import HandS.HeadHook2
import KE.KStateDown
import HandS.Head0
import HandS.Head1
import HandS.Head2
import PySem.Challenge.RW_keyedapart_k12_branches_and_meetings
set_option Elab.async false
set_option linter.all false
set_option maxRecDepth 100000
set_option autoImplicit false
/-! KACore: a small core language and its plain evaluator. -/
namespace KA
open PySem

abbrev PD := PyData
/-- the longest list -/
abbrev SZ : Nat := 16777216

/-- a mutable list; a list that is no longer changed -/
inductive O where
  | lst (ds : List PD)
  | frz (ds : List PD)
abbrev Sto := List O
/-- an exception: its class's name, its fields -/
structure Ex where
  c : Str
  fs : List (Str × PD)
/-- what a name holds -/
inductive VV where
  | d (x : PD)
  | loc (l : Nat)
  | ex (e : Ex)
abbrev Sg := List (Option VV)
inductive R (α : Type) where
  | ok (a : α) (S : Sto)
  | exc (e : Ex) (S : Sto)
  | bad

namespace R
variable {α β : Type}
def bind (r : R α) (f : α → Sto → R β) : R β := match r with
  | .ok a S => f a S
  | .exc e S => .exc e S
  | .bad => .bad
@[simp] theorem bind_ok (a : α) (S : Sto) (f : α → Sto → R β) : (R.ok a S).bind f = f a S := Eq.trans rfl rfl
@[simp] theorem bind_exc (e : Ex) (S : Sto) (f : α → Sto → R β) : (R.exc e S : R α).bind f = .exc e S := Eq.trans rfl rfl
@[simp] theorem bind_bad (f : α → Sto → R β) : (R.bad : R α).bind f = .bad := Eq.trans rfl rfl
/-- an option's value -/
def opt (o : Option α) (S : Sto) : R α := match o with
  | some a => .ok a S
  | none => .bad
@[simp] theorem opt_some (a : α) (S : Sto) : opt (some a) S = .ok a S := Eq.trans rfl rfl
@[simp] theorem opt_none (S : Sto) : (opt none S : R α) = .bad := Eq.trans rfl rfl
end R

/-- what is read -/
def rd (S : Sto) : VV → Option PD
  | .d x => some x
  | .loc l => match S[l]? with
    | some (.lst ds) => some (.list ds)
    | some (.frz ds) => some (.list ds)
    | none => none
  | .ex _ => none
@[simp] theorem rd_d (S : Sto) (x : PD) : rd S (.d x) = some x := Eq.trans rfl rfl
/-- what goes into an object, or is walked: a mutable list stays as it is from then on -/
def esc (S : Sto) : VV → R PD
  | .d x => .ok x S
  | .loc l => match S[l]? with
    | some (.lst ds) => .ok (.list ds) (S.set l (.frz ds))
    | some (.frz ds) => .ok (.list ds) S
    | none => .bad
  | .ex _ => .bad
/-- lists that are walked where they stand -/
abbrev Gd := List (Nat × List PD)
def gOk (g : Gd) (S : Sto) : Prop := ∀ p ∈ g, S[p.1]? = some (O.lst p.2) ∨ S[p.1]? = some (O.frz p.2)
theorem gOk_nil (S : Sto) : gOk [] S := fun p h => absurd h (by simp)
theorem gOk_app {g g' : Gd} {S : Sto} (h : gOk (g ++ g') S) : gOk g S ∧ gOk g' S := ⟨fun p q => h p (by simp [q]), fun p q => h p (by simp [q])⟩
open Classical in
noncomputable def grd {α : Type} (g : Gd) (S : Sto) (r : R α) : R α := if gOk g S then r else .bad
theorem grd_ok {α : Type} {g : Gd} {S : Sto} {r : R α} (h : gOk g S) : grd g S r = r := by unfold grd; rw [if_pos h]
theorem grd_no {α : Type} {g : Gd} {S : Sto} {r : R α} (h : ¬ gOk g S) : grd g S r = .bad := by unfold grd; rw [if_neg h]
@[simp] theorem grd_nil {α : Type} (S : Sto) (r : R α) : grd [] S r = r := grd_ok (gOk_nil S)
/-- what is walked: data, or a list where it stands -/
def src (S : Sto) : VV → R (PD × Gd)
  | .d x => .ok (x, []) S
  | .loc l => match S[l]? with
    | some (.lst ds) => .ok (.list ds, [(l, ds)]) S
    | some (.frz ds) => .ok (.list ds, []) S
    | none => .bad
  | .ex _ => .bad
@[simp] theorem src_d (S : Sto) (x : PD) : src S (.d x) = .ok (x, []) S := Eq.trans rfl rfl
@[simp] theorem esc_d (S : Sto) (x : PD) : esc S (.d x) = .ok x S := Eq.trans rfl rfl

/-- an operation on what is read -/
def op1 {β : Type} (f : PD → Option β) (S : Sto) (v : VV) : R β := match rd S v with
  | some x => R.opt (f x) S
  | none => .bad
def op2 {β : Type} (f : PD → PD → Option β) (S : Sto) (v w : VV) : R β := match rd S v, rd S w with
  | some x, some y => R.opt (f x y) S
  | _, _ => .bad
@[simp] theorem op1_d {β : Type} (f : PD → Option β) (S : Sto) (x : PD) : op1 f S (.d x) = R.opt (f x) S := Eq.trans rfl rfl
@[simp] theorem op2_d {β : Type} (f : PD → PD → Option β) (S : Sto) (x y : PD) : op2 f S (.d x) (.d y) = R.opt (f x y) S := Eq.trans rfl rfl
def rds (S : Sto) : List VV → Option (List PD)
  | [] => some []
  | v :: vs => match rd S v, rds S vs with
    | some x, some xs => some (x :: xs)
    | _, _ => none
@[simp] theorem rds_nil (S : Sto) : rds S [] = some [] := Eq.trans rfl rfl

/-! ### the language -/
/-- a target: a name, a tuple of names -/
inductive Tg where
  | nm (i : Nat)
  | tp (is : List Nat)
def Tg.slots : Tg → List Nat
  | .nm i => [i]
  | .tp is => is
/-- a class that isinstance asks for -/
inductive Tn where
  | ty (n : String)
  | own (x : Str)
/-- built-in functions of values -/
inductive Bn where
  | len | sum | all_ | any_ | max_ | min_ | int_ | repr_ | str_ | tuple_ | list_ | listM | sorted_ | lenset | sortset
  deriving DecidableEq
mutual
inductive CE where
  | var (i : Nat)
  | con (d : PD)
  | gcon (x : Str) (d : PD)
  | bin (op : Operator) (a b : CE)
  | neg (a : CE)
  | bnot (a : CE)
  | band (as : CEs)
  | bor (as : CEs)
  | ifx (t a b : CE)
  | seteq (a b : CE)
  | cmp (op : CmpOp) (a b : CE)
  | cmp2 (op1 op2 : CmpOp) (a b c : CE)
  | isn (neg : Bool) (a : CE)
  | call (f : Nat) (as : CEs)
  | callk (f : Nat) (ks : List Str) (as : CEs)
  | blt (b : Bn) (as : CEs)
  | isin (a : CE) (ts : List Tn)
  | meth (m : Str) (o : CE) (as : CEs)
  | sub (a i : CE)
  | slc (a : CE) (lo hi : CO)
  | rev (a : CE)
  | rom (m : Str) (o : CE) (as : CEs)
  | sset (a : CE)
  | tup (es : CEs)
  | lst (m : Bool) (es : CEs)
  | rng (t m : Bool) (i : CI)
  | comp (m : Bool) (elt : CE) (g : CG)
  | comp2 (m : Bool) (elt : CE) (g h : CG)
inductive CEs where
  | nil
  | cons (e : CE) (es : CEs)
inductive CO where
  | none
  | some (e : CE)
inductive CI where
  | seq (e : CE)
  | rng (e : CE)
  | rng2 (a b : CE)
  | enum (e : CE)
  | zip (a b : CE)
  | zip3 (a b c : CE)
inductive CG where
  | mk (tg : Tg) (it : CI) (cond : CO)
end
mutual
inductive CS where
  | set (i : Nat) (e : CE)
  | par (is : List Nat) (es : CEs)
  | unp (is : List Nat) (e : CE)
  | sst (o i e : CE)
  | expr (e : CE)
  | ret (e : CE)
  | retN
  | ifs (t : CE) (a b : CSs)
  | for_ (tg : Tg) (it : CI) (b : CSs)
  | whil (n : Nat) (t : CE) (b : CSs)
  | aug (i : Nat) (op : Operator) (e : CE)
  | raise_ (c : Str) (as : CEs)
  | try_ (b : CSs) (c : Str) (i j : Nat)
  | pass
  | frz (i : Nat)
inductive CSs where
  | nil
  | cons (s : CS) (ss : CSs)
end
/-- a def: its name, its names (parameters first), the parameters' number, its body, whether it hands back a mutable list -/
structure FD where
  name : Str
  N : List Str
  np : Nat
  body : CSs
  retM : Bool := false

/-! ### operations on values -/
def mulOk (i j : Int) : Bool := decide ((-(2 ^ 64) < i ∧ i < 2 ^ 64) ∨ (-(2 ^ 64) < j ∧ j < 2 ^ 64)) || decide (i.natAbs.log2 + j.natAbs.log2 < 1000000)
def binD : Operator → PD → PD → Option PD
  | .Add, .int i, .int j => some (.int (i + j))
  | .Add, .str x, .str y => if x.length + y.length ≤ SZ then some (.str (x ++ y)) else none
  | .Add, .list x, .list y => if x.length + y.length ≤ SZ then some (.list (x ++ y)) else none
  | .Add, .tuple x, .tuple y => if x.length + y.length ≤ SZ then some (.tuple (x ++ y)) else none
  | .Sub, .int i, .int j => some (.int (i - j))
  | .Mult, .int i, .int j => if mulOk i j then some (.int (i * j)) else none
  | .FloorDiv, .int i, .int j => if 0 < j ∧ j.natAbs.log2 < 9000 then some (.int (i / j)) else none
  | .Mod, .int i, .int j => if 0 < j then some (.int (i % j)) else none
  | .Pow, .int i, .int j => if 0 ≤ j ∧ j ≤ 1000000 ∧ i.natAbs < 2 ^ 64 then some (.int (i ^ j.toNat)) else none
  | _, _, _ => none
def negD : PD → Option PD
  | .int i => some (.int (-i))
  | _ => none
def truthD : PD → Option Bool
  | .none => some false
  | .bool b => some b
  | .int i => some (i != 0)
  | .str x => if x.length ≤ SZ then some (x.length != 0) else none
  | .list ds => some (!ds.isEmpty)
  | .tuple ds => some (!ds.isEmpty)
  | .dict _ => none
def boolD : PD → Option Bool
  | .bool b => some b
  | _ => none
/-- == of data -/
def eqD (x y : PD) : Option Bool := match x, y with
  | .int i, .int j => some (i == j)
  | .str i, .str j => some (i == j)
  | .bool i, .bool j => some (i == j)
  | x, y => if SeqAt.shaped x && SeqAt.shaped y then some (PyData.eqv x y) else none
def inD (x : PD) (ds : List PD) : Option Bool := if SeqAt.shaped x && SeqAt.shaped (.list ds) then some (ds.any fun z => PyData.eqv z x) else none
def cmpD : CmpOp → PD → PD → Option Bool
  | .Eq, x, y => eqD x y
  | .NotEq, x, y => (eqD x y).map (!·)
  | .Lt, .int i, .int j => some (decide (i < j))
  | .LtE, .int i, .int j => some (decide (i ≤ j))
  | .Gt, .int i, .int j => some (decide (j < i))
  | .GtE, .int i, .int j => some (decide (j ≤ i))
  | .In, x, .list ds => inD x ds
  | .In, x, .tuple ds => inD x ds
  | .NotIn, x, .list ds => (inD x ds).map (!·)
  | .NotIn, x, .tuple ds => (inD x ds).map (!·)
  | _, _, _ => none
def intsD : List PD → Option (List Int)
  | [] => some []
  | .int i :: r => (intsD r).map (i :: ·)
  | _ :: _ => none
def boolsD : List PD → Option (List Bool)
  | [] => some []
  | .bool i :: r => (boolsD r).map (i :: ·)
  | _ :: _ => none
/-- the greatest of some ints -/
def maxI : Int → List Int → Int
  | m, [] => m
  | m, x :: r => maxI (if x > m then x else m) r
def minI : Int → List Int → Int
  | m, [] => m
  | m, x :: r => minI (if x < m then x else m) r
def insI (x : Int) : List Int → List Int
  | [] => [x]
  | y :: r => if x ≤ y then x :: y :: r else y :: insI x r
def sortI : List Int → List Int
  | [] => []
  | x :: r => insI x (sortI r)
/-- the members of some ints, ascending, each once -/
def insS (x : Int) : List Int → List Int
  | [] => [x]
  | y :: r => if x < y then x :: y :: r else if x = y then y :: r else y :: insS x r
def setI : List Int → List Int
  | [] => []
  | x :: r => insS x (setI r)
/-- sorted(set(..)) -/
def ssetD : PD → Option PD
  | .tuple ds => match intsD ds with
    | some ns => if ns.length < 64 then some (.list ((setI ns).map .int)) else none
    | none => none
  | _ => none
def seqOf : PD → Option (List PD)
  | .list ds => some ds
  | .tuple ds => some ds
  | _ => none
def bltD : Bn → List PD → Option PD
  | .len, [.list ds] => some (.int ds.length)
  | .len, [.tuple ds] => some (.int ds.length)
  | .len, [.str x] => if x.length ≤ SZ then some (.int x.length) else none
  | .sum, [.list ds] => (intsD ds).map fun ns => .int ns.sum
  | .all_, [.list ds] => (boolsD ds).map fun bs => .bool (bs.all id)
  | .any_, [.list ds] => (boolsD ds).map fun bs => .bool (bs.any id)
  | .max_, [.int i, .int j] => some (.int (if j > i then j else i))
  | .min_, [.int i, .int j] => some (.int (if j < i then j else i))
  | .max_, [.list ds] => match intsD ds with
    | some (n :: ns) => some (.int (maxI n ns))
    | _ => none
  | .min_, [.list ds] => match intsD ds with
    | some (n :: ns) => some (.int (minI n ns))
    | _ => none
  | .max_, [.tuple ds] => match intsD ds with
    | some (n :: ns) => some (.int (maxI n ns))
    | _ => none
  | .int_, [.int i] => some (.int i)
  | .int_, [.bool b] => some (.int (if b then 1 else 0))
  | .str_, [.int i] => if i.natAbs.log2 < 1920 then some (.str (toString i)) else none
  | .repr_, [x] => match x with
    | .list _ | .tuple _ => if x.showable && !x.hasDict && decide (x.depth ≤ 64) && decide (x.shown.length ≤ SZ) then some (.str x.shown) else none
    | _ => none
  | .tuple_, [.list ds] => some (.tuple ds)
  | .tuple_, [.tuple ds] => some (.tuple ds)
  | .list_, [.list ds] => some (.list ds)
  | .list_, [.tuple ds] => some (.list ds)
  | .sorted_, [.list ds] => match intsD ds with
    | some ns => if ns.length < 64 then some (.list ((sortI ns).map .int)) else none
    | none => none
  | _, _ => none
def tyD : PD → String
  | .none => "NoneType"
  | .bool _ => "bool"
  | .int _ => "int"
  | .str _ => "str"
  | .list _ => "list"
  | .tuple _ => "tuple"
  | .dict _ => "dict"
/-- isinstance of data by built-in types' names -/
def isTy (d : PD) (n : String) : Bool := tyD d == n || (n == "int" && tyD d == "bool")
def isinD (d : PD) : List Tn → Option Bool
  | [] => some false
  | .ty n :: r => if ["int", "bool", "str", "list", "tuple", "dict"].contains n then (if isTy d n then some true else isinD d r) else none
  | .own _ :: _ => none
def atD (ds : List PD) (i : Int) : Option PD := L2.atI ds i
def subD : PD → PD → Option PD
  | .list ds, .int i => atD ds i
  | .tuple ds, .int i => atD ds i
  | .str x, .int i => if x.length ≤ SZ then (L2.atI x.cps.toList i).map fun c => .str ⟨#[c]⟩ else none
  | _, _ => none
def cutD (xs : List PD) (lo hi : Option Int) : List PD := (xs.drop (HT.sIx xs.length 0 lo)).take (HT.sIx xs.length xs.length hi - HT.sIx xs.length 0 lo)
def slcD : PD → Option Int → Option Int → Option PD
  | .list ds, lo, hi => some (.list (cutD ds lo hi))
  | .tuple ds, lo, hi => some (.tuple (cutD ds lo hi))
  | _, _, _ => none
def revD : PD → Option PD
  | .list ds => some (.list ds.reverse)
  | .tuple ds => some (.tuple ds.reverse)
  | _ => none
/-- ints of a list, a tuple -/
def intsL : PD → Option (List Int)
  | .list ds => (intsD ds).bind fun ns => if ns.length < 64 then some ns else none
  | .tuple ds => (intsD ds).bind fun ns => if ns.length < 64 then some ns else none
  | _ => none
def seqI (ns ms : List Int) : Bool := (ns.all fun x => decide (x ∈ ms)) && ms.all fun x => decide (x ∈ ns)
/-- methods that only read -/
def roD (m : Str) (x : PD) (xs : List PD) : Option PD := match x, xs with
  | .list ds, [.int i] => if m = "index" then match intsD ds with
      | some ns => if i ∈ ns then some (.int (ns.idxOf i : Nat)) else none
      | none => none
    else none
  | _, _ => none
def intD : PD → Option Int
  | .int i => some i
  | _ => none
/-- lo, lo + 1, .. -/
def rngD (lo hi : Int) : List PD := (List.range (hi - lo).toNat).map fun i => .int (lo + (i : Nat))
def rngOk (lo hi : Int) : Bool := decide (-(2 ^ 62) ≤ lo ∧ lo < 2 ^ 62 ∧ -(2 ^ 62) ≤ hi ∧ hi < 2 ^ 62 ∧ (hi - lo).toNat ≤ SZ)
def zipD : List PD → List PD → List PD
  | x :: xs, y :: ys => .tuple [x, y] :: zipD xs ys
  | _, _ => []
def zip3D : List PD → List PD → List PD → List PD
  | x :: xs, y :: ys, z :: zs => .tuple [x, y, z] :: zip3D xs ys zs
  | _, _, _ => []
def zip3P : PD → PD → PD → Option (List PD)
  | .tuple xs, .tuple ys, .tuple zs => some (zip3D xs ys zs)
  | _, _, _ => none
def zipP : PD → PD → Option (List PD)
  | .list xs, .list ys => some (zipD xs ys)
  | .tuple xs, .tuple ys => some (zipD xs ys)
  | _, _ => none
def enumD : Nat → List PD → List PD
  | _, [] => []
  | i, x :: xs => .tuple [.int i, x] :: enumD (i + 1) xs

/-- the errors' classes; which are below which -/
def EXN : List Str := ["KeyedError", "BadMake", "BadKey", "BadLock", "BadKeys", "BadLocks", "BadPins", "BadStock", "BadBook", "BadIndex", "BadKeying", "NoKeying", "BadNumber", "BadDoors", "BadHolders", "BadAnswers", "BadLevels", "BadName", "NothingToUndo", "Full", "BadCommand", "TooMany"]
def isSub (c d : Str) : Bool := decide (c = d) || decide (d = "KeyedError")
/-- isinstance of an error -/
def isinX (e : Ex) : List Tn → Option Bool
  | [.own y] => if e.c ∈ EXN ∧ y ∈ EXN ∧ e.fs.isEmpty = true then some (isSub e.c y) else none
  | [.ty n] => if e.c ∈ EXN ∧ n = "ValueError" ∧ e.fs.isEmpty = true then some true else none
  | _ => none
def isinV (ts : List Tn) (S : Sto) : VV → R Bool
  | .ex e => R.opt (isinX e ts) S
  | v => op1 (fun x => isinD x ts) S v
@[simp] theorem isinV_d (ts : List Tn) (S : Sto) (x : PD) : isinV ts S (.d x) = R.opt (isinD x ts) S := Eq.trans rfl rfl
/-! ### the evaluator -/
/-- a new mutable list -/
def newM (m : Bool) (d : PD) (S : Sto) : R VV := match m, d with
  | false, d => .ok (.d d) S
  | true, .list ds => .ok (.loc S.length) (S ++ [.lst ds])
  | true, _ => .bad
def bltV (b : Bn) (xs : List PD) (S : Sto) : R VV := match b with
  | .listM => (R.opt (bltD .list_ xs) S).bind fun z S => newM true z S
  | b => (R.opt (bltD b xs) S).bind fun z S => .ok (.d z) S
def bltVs (b : Bn) (vs : List VV) (S : Sto) : R VV := match rds S vs with
  | none => .bad
  | some xs => bltV b xs S
def bindTg : Tg → PD → Sg → Option Sg
  | .nm i, x, σ => some (σ.set i (some (.d x)))
  | .tp is, .tuple xs, σ => if xs.length = is.length then some ((is.zip xs).foldl (fun σ p => σ.set p.1 (some (.d p.2))) σ) else none
  | .tp _, _, _ => none
def wipeD (σ : Sg) : List Nat → Sg
  | [] => σ
  | v :: vs => (wipeD σ vs).set v none
/-- a comprehension's turns; acc: what is made so far -/
def loopC (f : PD → Sto → R (Option PD)) : List PD → List PD → Sto → R (List PD)
  | [], acc, S => .ok acc S
  | x :: xs, acc, S => match f x S with
    | .ok none S' => loopC f xs acc S'
    | .ok (some y) S' => if acc.length < SZ then loopC f xs (acc ++ [y]) S' else .bad
    | _ => .bad
/-- a comprehension of two clauses: the outer turns -/
def loopC2 (f : PD → List PD → Sto → R (List PD)) : List PD → List PD → Sto → R (List PD)
  | [], acc, S => .ok acc S
  | x :: xs, acc, S => match f x acc S with
    | .ok acc' S' => loopC2 f xs acc' S'
    | _ => .bad
def keyArgs (ps ks : List Str) (vs : List VV) : Option (List VV) :=
  ps.mapM fun p => (ks.zip vs).lookup p
def mutD (S : Sto) (l : Nat) (f : List PD → Option (PD × List PD)) : R VV := match S[l]? with
  | some (.lst ds) => match f ds with
    | some (r, ds') => .ok (.d r) (S.set l (.lst ds'))
    | none => .bad
  | _ => .bad
def popAt (ds : List PD) (i : Int) : Option (PD × List PD) := if -(2 ^ 63) ≤ i ∧ i < 2 ^ 63 then
    match seqIndex? i ds.length with
    | some k => match ds[k]? with
      | some y => some (y, ds.eraseIdx k)
      | none => none
    | none => none
  else none
/-- o.m(..) of a built-in kind -/
def methV (m : Str) (o : VV) (vs : List PD) (S : Sto) : R VV :=
  match o with
  | .loc l =>
    if m = "append" then match vs with
      | [x] => mutD S l fun ds => if ds.length < SZ then some (.none, ds ++ [x]) else none
      | _ => .bad
    else if m = "extend" then match vs with
      | [.list xs] => mutD S l fun ds => if ds.length + xs.length ≤ SZ then some (.none, ds ++ xs) else none
      | _ => .bad
    else if m = "pop" then match vs with
      | [.int i] => mutD S l fun ds => popAt ds i
      | _ => .bad
    else .bad
  | _ => .bad
/-- what is walked, by values -/
def isNonV : VV → Bool
  | .d .none => true
  | _ => false
def itemsD : PD → Option (List PD)
  | .list ds => some ds
  | .tuple ds => some ds
  | _ => none

def augD : Operator → PD → PD → Option PD
  | .Add, .int a, .int b => some (.int (a + b))
  | .Sub, .int a, .int b => some (.int (a - b))
  | _, _, _ => none

noncomputable section
variable (call : Nat → List VV → Sto → R VV) (par : Nat → List Str)
mutual
@[simp] def evE (σ : Sg) : CE → Sto → R VV
  | .var i, S => match σ[i]? with
    | some (some v) => .ok v S
    | _ => .bad
  | .con d, S => .ok (.d d) S
  | .gcon _ d, S => .ok (.d d) S
  | .bin op a b, S => (evE σ a S).bind fun v S => (evE σ b S).bind fun w S => (op2 (binD op) S v w).bind fun z S => .ok (.d z) S
  | .neg a, S => (evE σ a S).bind fun v S => (op1 negD S v).bind fun z S => .ok (.d z) S
  | .bnot a, S => (evE σ a S).bind fun v S => (op1 boolD S v).bind fun b S => .ok (.d (.bool !b)) S
  | .band as, S => evAnd σ as S
  | .bor as, S => evOr σ as S
  | .seteq a b, S => (evE σ a S).bind fun v S => (op1 intsL S v).bind fun ns S => (evE σ b S).bind fun w S => (op1 intsL S w).bind fun ms S => .ok (.d (.bool (seqI ns ms))) S
  | .ifx t a b, S => (evT σ t S).bind fun c S => if c = true then evE σ a S else evE σ b S
  | .cmp op a b, S => (evE σ a S).bind fun v S => (evE σ b S).bind fun w S => (op2 (cmpD op) S v w).bind fun z S => .ok (.d (.bool z)) S
  | .cmp2 o1 o2 a b c, S => (evE σ a S).bind fun v S => (evE σ b S).bind fun w S => (op2 (cmpD o1) S v w).bind fun k S =>
      if k = true then (evE σ c S).bind fun x S => (op2 (cmpD o2) S w x).bind fun k S => .ok (.d (.bool k)) S else .ok (.d (.bool false)) S
  | .isn neg a, S => (evE σ a S).bind fun v S => .ok (.d (.bool (isNonV v != neg))) S
  | .call f as, S => (evEs σ as S).bind fun vs S => call f vs S
  | .callk f ks as, S => (evEs σ as S).bind fun vs S => (R.opt (keyArgs (par f) ks vs) S).bind fun vs S => call f vs S
  | .blt b as, S => (evEs σ as S).bind fun vs S => bltVs b vs S
  | .isin a ts, S => (evE σ a S).bind fun v S => (isinV ts S v).bind fun z S => .ok (.d (.bool z)) S
  | .meth m o as, S => (evE σ o S).bind fun v S => match v with
    | .loc l => (evXs σ as S).bind fun xs S => methV m (.loc l) xs S
    | _ => .bad
  | .sub a i, S => (evE σ a S).bind fun v S => (evE σ i S).bind fun w S => (op2 subD S v w).bind fun z S => .ok (.d z) S
  | .slc a lo hi, S => (evE σ a S).bind fun v S => (evO σ lo S).bind fun l S => (evO σ hi S).bind fun h S => (op1 (fun x => slcD x l h) S v).bind fun z S => .ok (.d z) S
  | .rev a, S => (evE σ a S).bind fun v S => (op1 revD S v).bind fun z S => .ok (.d z) S
  | .rom m o as, S => (evE σ o S).bind fun v S => (src S v).bind fun p S => if p.2 = [] then (evXs σ as S).bind fun xs S => (R.opt (roD m p.1 xs) S).bind fun z S => .ok (.d z) S else .bad
  | .sset a, S => (evE σ a S).bind fun v S => (op1 ssetD S v).bind fun z S => .ok (.d z) S
  | .tup es, S => (evXs σ es S).bind fun xs S => if xs.length ≤ SZ then .ok (.d (.tuple xs)) S else .bad
  | .lst m es, S => (evXs σ es S).bind fun xs S => if xs.length ≤ SZ then newM m (.list xs) S else .bad
  | .rng t m i, S => (evI σ i S).bind fun p S => if t = true then .ok (.d (.tuple p.1)) S else newM m (.list p.1) S
  | .comp m elt (.mk tg it c), S => (evI σ it S).bind fun p S =>
      (loopC (fun x S => grd p.2 S ((R.opt (bindTg tg x (wipeD σ tg.slots)) S).bind fun σ' S => (evC σ' c S).bind fun k S =>
        if k = true then ((evE σ' elt S).bind fun v S => esc S v).bind fun y S => .ok (some y) S else .ok none S)) p.1 [] S).bind fun ds S => grd p.2 S (newM m (.list ds) S)
  | .comp2 m elt (.mk tg it c) (.mk tg1 it1 c1), S => (evI σ it S).bind fun p S =>
      (loopC2 (fun x acc S => grd p.2 S ((R.opt (bindTg tg x (wipeD σ (tg.slots ++ tg1.slots))) S).bind fun σ' S => (evC σ' c S).bind fun k S =>
        if k = true then (evI σ' it1 S).bind fun p1 S =>
          (loopC (fun x S => grd p1.2 S ((R.opt (bindTg tg1 x (wipeD σ' tg1.slots)) S).bind fun σ2 S => (evC σ2 c1 S).bind fun k S =>
            if k = true then ((evE σ2 elt S).bind fun v S => esc S v).bind fun y S => .ok (some y) S else .ok none S)) p1.1 acc S).bind fun acc S => grd p1.2 S (.ok acc S)
        else .ok acc S)) p.1 [] S).bind fun ds S => grd p.2 S (newM m (.list ds) S)
@[simp] def evEs (σ : Sg) : CEs → Sto → R (List VV)
  | .nil, S => .ok [] S
  | .cons e es, S => (evE σ e S).bind fun v S => (evEs σ es S).bind fun vs S => .ok (v :: vs) S
/-- for an object -/
@[simp] def evXs (σ : Sg) : CEs → Sto → R (List PD)
  | .nil, S => .ok [] S
  | .cons e es, S => ((evE σ e S).bind fun v S => esc S v).bind fun v S => (evXs σ es S).bind fun vs S => .ok (v :: vs) S
@[simp] def evAnd (σ : Sg) : CEs → Sto → R VV
  | .nil, _ => .bad
  | .cons e .nil, S => evE σ e S
  | .cons e es, S => (evE σ e S).bind fun v S => (op1 boolD S v).bind fun b S => if b = true then evAnd σ es S else .ok (.d (.bool false)) S
@[simp] def evOr (σ : Sg) : CEs → Sto → R VV
  | .nil, _ => .bad
  | .cons e .nil, S => evE σ e S
  | .cons e es, S => (evE σ e S).bind fun v S => (op1 boolD S v).bind fun b S => if b = true then .ok (.d (.bool true)) S else evOr σ es S
/-- a test -/
def evT (σ : Sg) : CE → Sto → R Bool
  | .bnot a, S => (evT σ a S).bind fun b S => .ok (!b) S
  | .band as, S => evTAnd σ as S
  | .bor as, S => evTOr σ as S
  | .ifx _ _ _, _ => .bad
  | .seteq _ _, _ => .bad
  | e, S => (evE σ e S).bind fun v S => op1 truthD S v
@[simp] def evTAnd (σ : Sg) : CEs → Sto → R Bool
  | .nil, _ => .bad
  | .cons e .nil, S => evT σ e S
  | .cons e es, S => (evT σ e S).bind fun b S => if b = true then evTAnd σ es S else .ok false S
@[simp] def evTOr (σ : Sg) : CEs → Sto → R Bool
  | .nil, _ => .bad
  | .cons e .nil, S => evT σ e S
  | .cons e es, S => (evT σ e S).bind fun b S => if b = true then .ok true S else evTOr σ es S
@[simp] def evC (σ : Sg) : CO → Sto → R Bool
  | .none, S => .ok true S
  | .some e, S => evT σ e S
@[simp] def evO (σ : Sg) : CO → Sto → R (Option Int)
  | .none, S => .ok none S
  | .some e, S => (evE σ e S).bind fun v S => (op1 intD S v).bind fun i S => .ok (some i) S
@[simp] def evI (σ : Sg) : CI → Sto → R (List PD × Gd)
  | .seq e, S => (evE σ e S).bind fun v S => (src S v).bind fun p S => (R.opt (itemsD p.1) S).bind fun ds S => .ok (ds, p.2) S
  | .rng e, S => (evE σ e S).bind fun v S => (op1 intD S v).bind fun n S => if rngOk 0 n = true then .ok (rngD 0 n, []) S else .bad
  | .rng2 a b, S => (evE σ a S).bind fun v S => (evE σ b S).bind fun w S => (op1 intD S v).bind fun i S => (op1 intD S w).bind fun j S => if rngOk i j = true then .ok (rngD i j, []) S else .bad
  | .enum e, S => (evE σ e S).bind fun v S => (src S v).bind fun p S => (R.opt (itemsD p.1) S).bind fun xs S => .ok (enumD 0 xs, p.2) S
  | .zip a b, S => (evE σ a S).bind fun v S => (src S v).bind fun p S => (evE σ b S).bind fun w S => (src S w).bind fun q S =>
      (R.opt (zipP p.1 q.1) S).bind fun zs S => .ok (zs, p.2 ++ q.2) S
  | .zip3 a b c, S => (evE σ a S).bind fun v S => (src S v).bind fun p S => (evE σ b S).bind fun w S => (src S w).bind fun q S => (evE σ c S).bind fun x S => (src S x).bind fun r S =>
      (R.opt (zip3P p.1 q.1 r.1) S).bind fun zs S => .ok (zs, []) S
end

/-! ### statements -/
inductive SR where
  | nx (σ : Sg) (S : Sto)
  | rt (v : VV) (S : Sto)
  | exc (e : Ex) (σ : Sg) (S : Sto)
  | bad
def SR.bind (r : SR) (f : Sg → Sto → SR) : SR := match r with
  | .nx σ S => f σ S
  | r => r
@[simp] theorem SR.bind_nx (σ : Sg) (S : Sto) (f) : (SR.nx σ S).bind f = f σ S := Eq.trans rfl rfl
@[simp] theorem SR.bind_rt (v : VV) (S : Sto) (f) : (SR.rt v S).bind f = .rt v S := Eq.trans rfl rfl
@[simp] theorem SR.bind_exc (e) (σ : Sg) (S : Sto) (f) : (SR.exc e σ S).bind f = .exc e σ S := Eq.trans rfl rfl
@[simp] theorem SR.bind_bad (f) : SR.bad.bind f = .bad := Eq.trans rfl rfl
/-- an expression's end in a statement -/
def R.thenS {α : Type} (r : R α) (σ : Sg) (f : α → Sto → SR) : SR := match r with
  | .ok a S => f a S
  | .exc e S => .exc e σ S
  | .bad => .bad
@[simp] theorem R.thenS_ok {α : Type} (a : α) (S : Sto) (σ : Sg) (f) : (R.ok a S).thenS σ f = f a S := Eq.trans rfl rfl
@[simp] theorem R.thenS_exc {α : Type} (e) (S : Sto) (σ : Sg) (f : α → Sto → SR) : (R.exc e S).thenS σ f = .exc e σ S := Eq.trans rfl rfl
@[simp] theorem R.thenS_bad {α : Type} (σ : Sg) (f : α → Sto → SR) : R.bad.thenS σ f = .bad := Eq.trans rfl rfl
open Classical in
noncomputable def grdS (g : Gd) (S : Sto) (r : SR) : SR := if gOk g S then r else .bad
theorem grdS_ok {g : Gd} {S : Sto} {r : SR} (h : gOk g S) : grdS g S r = r := by unfold grdS; rw [if_pos h]
theorem grdS_no {g : Gd} {S : Sto} {r : SR} (h : ¬ gOk g S) : grdS g S r = .bad := by unfold grdS; rw [if_neg h]
@[simp] theorem grdS_nil (S : Sto) (r : SR) : grdS [] S r = r := grdS_ok (gOk_nil S)
def loopF (f : PD → Sg → Sto → SR) : List PD → Sg → Sto → SR
  | [], σ, S => .nx σ S
  | x :: xs, σ, S => (f x σ S).bind fun σ S => loopF f xs σ S
def loopW (t : Sg → Sto → R Bool) (f : Sg → Sto → SR) : Nat → Sg → Sto → SR
  | 0, _, _ => .bad
  | n + 1, σ, S => (t σ S).thenS σ fun b S => if b = true then (f σ S).bind fun σ S => loopW t f n σ S else .nx σ S
def setItem (S : Sto) (o : VV) (i : PD) (v : PD) : R Unit := match o, i with
  | .loc l, .int k => match S[l]? with
    | some (.lst ds) => match L2.ixN ds.length k with
      | some j => .ok () (S.set l (.lst (ds.set j v)))
      | none => .bad
    | _ => .bad
  | _, _ => .bad
mutual
@[simp] def evS : CS → Sg → Sto → SR
  | .set i e, σ, S => (evE call par σ e S).thenS σ fun v S => .nx (σ.set i (some v)) S
  | .par is es, σ, S => (evEs call par σ es S).thenS σ fun vs S => if vs.length = is.length then .nx ((is.zip vs).foldl (fun σ p => σ.set p.1 (some p.2)) σ) S else .bad
  | .unp is e, σ, S => ((evE call par σ e S).bind fun v S => op1 some S v).thenS σ fun x S => match itemsD x with
    | some xs => if xs.length = is.length then .nx ((is.zip xs).foldl (fun σ p => σ.set p.1 (some (.d p.2))) σ) S else .bad
    | none => .bad
  | .sst o i e, σ, S => ((evE call par σ e S).bind fun v S => esc S v).thenS σ fun x S => (evE call par σ o S).thenS σ fun v S => ((evE call par σ i S).bind fun v S => op1 some S v).thenS σ fun y S =>
      (setItem S v y x).thenS σ fun _ S => .nx σ S
  | .expr e, σ, S => (evE call par σ e S).thenS σ fun _ S => .nx σ S
  | .ret e, σ, S => (evE call par σ e S).thenS σ fun v S => .rt v S
  | .retN, _, S => .rt (.d .none) S
  | .ifs t a b, σ, S => (evT call par σ t S).thenS σ fun c S => if c = true then evSs a σ S else evSs b σ S
  | .for_ tg it b, σ, S => (evI call par σ it S).thenS σ fun p S => (loopF (fun x σ S => grdS p.2 S (match bindTg tg x σ with | some σ => evSs b σ S | none => .bad)) p.1 σ S).bind fun σ S => grdS p.2 S (.nx σ S)
  | .whil n t b, σ, S => loopW (fun σ S => evT call par σ t S) (fun σ S => evSs b σ S) n σ S
  | .aug i op e, σ, S => match σ[i]? with
    | some (some v) => (evE call par σ e S).thenS σ fun w S => (op2 (augD op) S v w).thenS σ fun z S => .nx (σ.set i (some (.d z))) S
    | _ => .bad
  | .raise_ c as, σ, S => .exc ⟨c, []⟩ σ S
  | .try_ b c i j, σ, S => match evSs b σ S with
    | .exc e σ' S' => if e.c ∈ EXN ∧ c ∈ EXN ∧ isSub e.c c = true then .nx ((σ'.set j (some (.ex e))).set i none) S' else .bad
    | r => r
  | .pass, σ, S => .nx σ S
  | .frz i, σ, S => match σ[i]? with
    | some (some (.loc l)) => match S[l]? with
      | some (.lst ds) => .nx σ (S.set l (.frz ds))
      | _ => .nx σ S
    | _ => .nx σ S
@[simp] def evSs : CSs → Sg → Sto → SR
  | .nil, σ, S => .nx σ S
  | .cons s ss, σ, S => (evS s σ S).bind fun σ S => evSs ss σ S
end

/-! ### calls -/
def startD (n : Nat) (vs : List VV) : Sg := vs.map some ++ List.replicate (n - vs.length) none
/-- behind a call: what the callee made is gone, but for what it hands back -/
def finD (m : Bool) (n : Nat) : SR → R VV
  | .nx _ S => .ok (.d .none) (S.take n)
  | .rt (.loc l) S => if l < n then .ok (.loc l) (S.take n) else match S[l]? with
    | some (.lst ds) => if m = true then .ok (.loc n) (S.take n ++ [.lst ds]) else .ok (.d (.list ds)) (S.take n)
    | some (.frz ds) => .ok (.d (.list ds)) (S.take n)
    | none => .bad
  | .rt v S => .ok v (S.take n)
  | .exc e _ S => .exc e (S.take n)
  | .bad => .bad
abbrev Tab := Nat → Option FD
def parOf (T : Tab) (f : Nat) : List Str := match T f with
  | some d => d.N.take d.np
  | none => []
def evCall (T : Tab) : Nat → Nat → List VV → Sto → R VV
  | 0, _, _, _ => .bad
  | k + 1, f, vs, S => match T f with
    | none => .bad
    | some d => if vs.length = d.np then finD d.retM S.length (evSs (evCall T k) (parOf T) d.body (startD d.N.length vs) S) else .bad
end
end KA
/-! KARel: how the evaluator's values, names and store lie in the layer's abstract heap. -/
namespace KA
open PySem PySem.Spec PyProof.Rows L2

/-- a list, a tuple that is never changed again (M: what may still change) -/
def SqFL (K : PySem.W.Frag) (H : Hp) (M : Addr → Prop) (a : Addr) (xs : List V) : Prop := ((Rd H a (.lst xs) ∧ ¬ M a) ∨ SqL K (fun _ => none) a xs) ∧ xs.length ≤ SZ
def SqFT (K : PySem.W.Frag) (H : Hp) (M : Addr → Prop) (a : Addr) (xs : List V) : Prop := ((Rd H a (.tup xs) ∧ ¬ M a) ∨ SqT K (fun _ => none) a xs) ∧ xs.length ≤ SZ
mutual
inductive Rp (K : PySem.W.Frag) (H : Hp) (M : Addr → Prop) : PD → V → Prop
  | non : Rp K H M .none .non
  | bl (b : Bool) : Rp K H M (.bool b) (.bl b)
  | int (i : Int) : Rp K H M (.int i) (.int i)
  | str (x : Str) : Rp K H M (.str x) (.str x)
  | lst {a : Addr} {xs : List V} {ds : List PD} : SqFL K H M a xs → Rps K H M ds xs → Rp K H M (.list ds) (.ref a)
  | tup {a : Addr} {xs : List V} {ds : List PD} : SqFT K H M a xs → Rps K H M ds xs → Rp K H M (.tuple ds) (.ref a)
inductive Rps (K : PySem.W.Frag) (H : Hp) (M : Addr → Prop) : List PD → List V → Prop
  | nil : Rps K H M [] []
  | cons {d : PD} {v : V} {ds : List PD} {vs : List V} : Rp K H M d v → Rps K H M ds vs → Rps K H M (d :: ds) (v :: vs)
end
section
variable {K : PySem.W.Frag} {mg : Str → Option Value} {H H' : Hp} {M M' : Addr → Prop} {a : Addr} {xs : List V}
/-- what stands still stays -/
def Stay (H : Hp) (M : Addr → Prop) (H' : Hp) (M' : Addr → Prop) : Prop := ∀ a o, H a = some o → ¬ M a → H' a = some o ∧ ¬ M' a
theorem Stay.refl : Stay H M H M := fun _ _ h n => ⟨h, n⟩
theorem Stay.trans {H2 : Hp} {M2 : Addr → Prop} (f : Stay H M H' M') (g : Stay H' M' H2 M2) : Stay H M H2 M2 := fun a o h n => let ⟨h1, n1⟩ := f a o h n; g a o h1 n1
theorem Rd.stay {u : HO} (s : Stay H M H' M') (h : Rd H a u ∧ ¬ M a) : Rd H' a u ∧ ¬ M' a := by
  obtain ⟨r, n⟩ := h
  rcases r with r | ⟨o, r⟩
  · exact ⟨.inl (s a _ r n).1, (s a _ r n).2⟩
  · exact ⟨.inr ⟨o, (s a _ r n).1⟩, (s a _ r n).2⟩
theorem SqFL.stay (s : Stay H M H' M') (h : SqFL K H M a xs) : SqFL K H' M' a xs := ⟨h.1.elim (fun r => .inl (Rd.stay s r)) .inr, h.2⟩
theorem SqFT.stay (s : Stay H M H' M') (h : SqFT K H M a xs) : SqFT K H' M' a xs := ⟨h.1.elim (fun r => .inl (Rd.stay s r)) .inr, h.2⟩
theorem SqFL.sq (h : SqFL K H M a xs) : SqL K H a xs := by
  rcases h.1 with ⟨r, _⟩ | r
  · exact .inl r
  · rcases r with (r | ⟨_, r⟩) | r
    · cases r
    · cases r
    · exact .inr r
theorem SqFT.sq (h : SqFT K H M a xs) : SqT K H a xs := by
  rcases h.1 with ⟨r, _⟩ | r
  · exact .inl r
  · rcases r with (r | ⟨_, r⟩) | r
    · cases r
    · cases r
    · exact .inr r
theorem SqFL.of (h : H a = some (.lst xs)) (n : ¬ M a) (z : xs.length ≤ SZ) : SqFL K H M a xs := ⟨.inl ⟨.inl h, n⟩, z⟩
theorem SqFT.of (h : H a = some (.tup xs)) (n : ¬ M a) (z : xs.length ≤ SZ) : SqFT K H M a xs := ⟨.inl ⟨.inl h, n⟩, z⟩
mutual
theorem Rp.stay (s : Stay H M H' M') : ∀ {d : PD} {v : V}, Rp K H M d v → Rp K H' M' d v
  | _, _, .non => .non
  | _, _, .bl b => .bl b
  | _, _, .int i => .int i
  | _, _, .str x => .str x
  | _, _, .lst h r => .lst (h.stay s) (Rps.stay s r)
  | _, _, .tup h r => .tup (h.stay s) (Rps.stay s r)
theorem Rps.stay (s : Stay H M H' M') : ∀ {ds : List PD} {vs : List V}, Rps K H M ds vs → Rps K H' M' ds vs
  | _, _, .nil => .nil
  | _, _, .cons h r => .cons (Rp.stay s h) (Rps.stay s r)
end
mutual
theorem Rp.dp : ∀ {d : PD} {v : V}, Rp K H M d v → Dp K H v d
  | _, _, .non => .non
  | _, _, .bl b => .bl b
  | _, _, .int i => .int i
  | _, _, .str x => .str x
  | _, _, .lst h r => .lst h.sq (Rps.dp r)
  | _, _, .tup h r => .tup h.sq (Rps.dp r)
theorem Rps.dp : ∀ {ds : List PD} {vs : List V}, Rps K H M ds vs → DpAll K H vs ds
  | _, _, .nil => .nil
  | _, _, .cons h r => .cons (Rp.dp h) (Rps.dp r)
end
theorem Rps.length : ∀ {ds : List PD} {vs : List V}, Rps K H M ds vs → ds.length = vs.length
  | _, _, .nil => rfl
  | _, _, .cons _ r => by rw [List.length_cons, List.length_cons, Rps.length r]
theorem Rps.get : ∀ {ds : List PD} {vs : List V} {i : Nat} {d : PD}, Rps K H M ds vs → ds[i]? = some d → ∃ v, vs[i]? = some v ∧ Rp K H M d v
  | _, _, _, _, .nil, e => by simp at e
  | _, _, 0, _, .cons r _, e => by simp at e; subst e; exact ⟨_, rfl, r⟩
  | _, _, i + 1, d, .cons _ t, e => by
    obtain ⟨u, h1, h2⟩ := Rps.get (i := i) (d := d) t (by simpa using e)
    exact ⟨u, by simpa using h1, h2⟩
theorem Rps.getV : ∀ {ds : List PD} {vs : List V} {i : Nat} {v : V}, Rps K H M ds vs → vs[i]? = some v → ∃ d, ds[i]? = some d ∧ Rp K H M d v
  | _, _, _, _, .nil, e => by simp at e
  | _, _, 0, _, .cons r _, e => by simp at e; subst e; exact ⟨_, rfl, r⟩
  | _, _, i + 1, v, .cons _ t, e => by
    obtain ⟨u, h1, h2⟩ := Rps.getV (i := i) (v := v) t (by simpa using e)
    exact ⟨u, by simpa using h1, h2⟩
theorem Rps.append : ∀ {ds es : List PD} {vs ws : List V}, Rps K H M ds vs → Rps K H M es ws → Rps K H M (ds ++ es) (vs ++ ws)
  | _, _, _, _, .nil, s => s
  | _, _, _, _, .cons r t, s => .cons r (Rps.append t s)
theorem Rps.take : ∀ {ds : List PD} {vs : List V} (n : Nat), Rps K H M ds vs → Rps K H M (ds.take n) (vs.take n)
  | _, _, 0, _ => .nil
  | _, _, _ + 1, .nil => .nil
  | _, _, n + 1, .cons r t => .cons r (Rps.take n t)
theorem Rps.drop : ∀ {ds : List PD} {vs : List V} (n : Nat), Rps K H M ds vs → Rps K H M (ds.drop n) (vs.drop n)
  | _, _, 0, r => r
  | _, _, _ + 1, .nil => .nil
  | _, _, n + 1, .cons _ t => Rps.drop n t
theorem Rps.set {d : PD} {v : V} (r : Rp K H M d v) : ∀ {ds : List PD} {vs : List V} (i : Nat), Rps K H M ds vs → Rps K H M (ds.set i d) (vs.set i v)
  | _, _, _, .nil => .nil
  | _, _, 0, .cons _ t => .cons r t
  | _, _, i + 1, .cons q t => .cons q (Rps.set r i t)
theorem Rps.erase : ∀ {ds : List PD} {vs : List V} (i : Nat), Rps K H M ds vs → Rps K H M (ds.eraseIdx i) (vs.eraseIdx i)
  | _, _, _, .nil => .nil
  | _, _, 0, .cons _ t => t
  | _, _, i + 1, .cons q t => .cons q (Rps.erase i t)
theorem Rps.reverse : ∀ {ds : List PD} {vs : List V}, Rps K H M ds vs → Rps K H M ds.reverse vs.reverse
  | _, _, .nil => .nil
  | _, _, .cons r t => by
    rw [List.reverse_cons, List.reverse_cons]
    exact (Rps.reverse t).append (.cons r .nil)
theorem Rps.at_ {ds : List PD} {vs : List V} {i : Int} {d : PD} (r : Rps K H M ds vs) (h : atI ds i = some d) : ∃ v, atI vs i = some v ∧ Rp K H M d v := by
  unfold atI at h ⊢
  rw [← r.length]
  cases q : ixN ds.length i with
  | none => rw [q] at h; cases h
  | some j =>
    rw [q] at h
    exact r.get h
end


/-! ### the store -/
/-- a list of the store that may still be changed stands at a -/
def Mt (A : List Addr) (S : Sto) (a : Addr) : Prop := ∃ (l : Nat) (ds : List PD), S[l]? = some (O.lst ds) ∧ A[l]? = some a
structure Rel (K : PySem.W.Frag) (H : Hp) (M : Addr → Prop) (A : List Addr) (S : Sto) : Prop where
  len : A.length = S.length
  nd : A.Nodup
  lst : ∀ (l : Nat) (ds : List PD) (a : Addr), S[l]? = some (O.lst ds) → A[l]? = some a → M a ∧ ∃ xs, H a = some (HO.lst xs) ∧ Rps K H M ds xs ∧ xs.length ≤ SZ
  frz : ∀ (l : Nat) (ds : List PD) (a : Addr), S[l]? = some (O.frz ds) → A[l]? = some a → Rp K H M (.list ds) (.ref a) ∧ (∃ o, H a = some o) ∧ ¬ M a
  al : ∀ a, M a → ∃ o, H a = some o
structure Fm (H : Hp) (M : Addr → Prop) (A : List Addr) (S : Sto) (H' : Hp) (M' : Addr → Prop) (A' : List Addr) (S' : Sto) : Prop where
  st : Stay H M H' M'
  ex : ∀ a o, H a = some o → M a → ¬ Mt A S a → H' a = some o ∧ M' a ∧ ¬ Mt A' S' a
  pre : ∃ B, A' = A ++ B
section
variable {K : PySem.W.Frag} {mg : Str → Option Value} {H H' H2 : Hp} {M M' M2 : Addr → Prop} {A A' A2 : List Addr} {S S' S2 : Sto} {p : Addr} {o : HO}
theorem Fm.refl : Fm H M A S H M A S := ⟨Stay.refl, fun _ _ h m n => ⟨h, m, n⟩, ⟨[], by simp⟩⟩
theorem Fm.trans (f : Fm H M A S H' M' A' S') (g : Fm H' M' A' S' H2 M2 A2 S2) : Fm H M A S H2 M2 A2 S2 :=
  ⟨f.st.trans g.st, fun a o h m n => let ⟨h1, m1, n1⟩ := f.ex a o h m n; g.ex a o h1 m1 n1, by
    obtain ⟨B, e⟩ := f.pre
    obtain ⟨C, e2⟩ := g.pre
    exact ⟨B ++ C, by rw [e2, e, List.append_assoc]⟩⟩
theorem Fm.at_ (f : Fm H M A S H' M' A' S') {l : Nat} {a : Addr} (h : A[l]? = some a) : A'[l]? = some a := by
  obtain ⟨B, e⟩ := f.pre
  rw [e, List.getElem?_append_left (List.getElem?_eq_some_iff.mp h).1]
  exact h
theorem Rel.nM (r : Rel K H M A S) (h : H p = none) : ¬ M p := fun m => by
  obtain ⟨o, e⟩ := r.al p m
  rw [h] at e; cases e
theorem stay_new (h : H p = none) : Stay H M (upd H p o) M := fun a u e n => ⟨by rw [upd_ne (ne_of_none e h)]; exact e, n⟩
/-- a new object that is never changed -/
theorem Rel.new (r : Rel K H M A S) (h : H p = none) : Rel K (upd H p o) M A S where
  len := r.len
  nd := r.nd
  lst := fun l ds a e1 e2 => by
    obtain ⟨m, xs, e, rs, z⟩ := r.lst l ds a e1 e2
    exact ⟨m, xs, by rw [upd_ne (ne_of_none e h)]; exact e, rs.stay (stay_new h), z⟩
  frz := fun l ds a e1 e2 => by
    obtain ⟨q, ⟨u, e⟩, n⟩ := r.frz l ds a e1 e2
    exact ⟨q.stay (stay_new h), ⟨u, by rw [upd_ne (ne_of_none e h)]; exact e⟩, n⟩
  al := fun a m => by
    obtain ⟨u, e⟩ := r.al a m
    exact ⟨u, by rw [upd_ne (ne_of_none e h)]; exact e⟩
theorem Fm.new (h : H p = none) : Fm H M A S (upd H p o) M A S := ⟨stay_new h, fun a u e m n => ⟨by rw [upd_ne (ne_of_none e h)]; exact e, m, n⟩, ⟨[], by simp⟩⟩
theorem sto_cases {S : Sto} {l : Nat} (h : l < S.length) : (∃ ds : List PD, S[l]? = some (O.lst ds)) ∨ ∃ ds : List PD, S[l]? = some (O.frz ds) := by
  cases q : S[l] with
  | lst ds => exact .inl ⟨ds, by rw [List.getElem?_eq_getElem h, q]⟩
  | frz ds => exact .inr ⟨ds, by rw [List.getElem?_eq_getElem h, q]⟩
theorem Rel.inH (r : Rel K H M A S) {a : Addr} (h : a ∈ A) : ∃ o, H a = some o := by
  obtain ⟨l, e⟩ := List.getElem?_of_mem h
  have lt : l < S.length := by rw [← r.len]; exact (List.getElem?_eq_some_iff.mp e).1
  rcases sto_cases lt with ⟨ds, q⟩ | ⟨ds, q⟩
  · obtain ⟨_, ys, e', _⟩ := r.lst l ds a q e
    exact ⟨_, e'⟩
  · exact (r.frz l ds a q e).2.1
theorem Mt.mem {a : Addr} (h : Mt A S a) : a ∈ A := by
  obtain ⟨l, ds, _, e⟩ := h
  exact List.mem_of_getElem? e
theorem nodup_at (h : A.Nodup) {i j : Nat} {a : Addr} (hi : A[i]? = some a) (hj : A[j]? = some a) : i = j := by
  obtain ⟨h1, e1⟩ := List.getElem?_eq_some_iff.mp hi
  obtain ⟨h2, e2⟩ := List.getElem?_eq_some_iff.mp hj
  exact (List.getElem_inj h).mp (e1.trans e2.symm)
/-- a new list that may be changed -/
theorem Rel.newM {xs : List V} {ds : List PD} (r : Rel K H M A S) (h : H p = none) (rs : Rps K H M ds xs) (z : xs.length ≤ SZ) :
    Rel K (upd H p (.lst xs)) (fun a => M a ∨ a = p) (A ++ [p]) (S ++ [O.lst ds]) ∧ Fm H M A S (upd H p (.lst xs)) (fun a => M a ∨ a = p) (A ++ [p]) (S ++ [O.lst ds]) := by
  have st : Stay H M (upd H p (.lst xs)) (fun a => M a ∨ a = p) := fun a u e n => ⟨by rw [upd_ne (ne_of_none e h)]; exact e, fun z => z.elim n fun q => by rw [q, h] at e; cases e⟩
  have hpA : p ∉ A := fun hm => by
    obtain ⟨o, e⟩ := r.inH hm
    rw [h] at e; cases e
  have hl : ∀ (l : Nat) (a : Addr), (A ++ [p])[l]? = some a → A[l]? = some a ∨ (l = A.length ∧ a = p) := fun l a e => by
    by_cases hlt : l < A.length
    · rw [List.getElem?_append_left hlt] at e; exact .inl e
    · rw [List.getElem?_append_right (by omega)] at e
      have e0 : l - A.length = 0 := by
        have := (List.getElem?_eq_some_iff.mp e).1
        simp at this; omega
      rw [e0] at e
      exact .inr ⟨by omega, by simpa using e.symm⟩
  have hS : ∀ (l : Nat) (o : Addr), A[l]? = some o → (S ++ [O.lst ds])[l]? = S[l]? := fun l o e => by
    rw [List.getElem?_append_left]
    rw [← r.len]; exact (List.getElem?_eq_some_iff.mp e).1
  refine ⟨⟨by simp [r.len], ?_, fun l ds' a e1 e2 => ?_, fun l ds' a e1 e2 => ?_, fun a m => ?_⟩, ⟨st, fun a u e m n => ?_, ⟨[p], rfl⟩⟩⟩
  · exact List.nodup_append.mpr ⟨r.nd, by simp, fun a ha b hb => by
      have : b = p := by simpa using hb
      subst this
      exact fun e => hpA (e ▸ ha)⟩
  · rcases hl l a e2 with e | ⟨e, rfl⟩
    · rw [hS l a e] at e1
      obtain ⟨m, ys, e', rs', z'⟩ := r.lst l ds' a e1 e
      exact ⟨.inl m, ys, by rw [upd_ne (ne_of_none e' h)]; exact e', rs'.stay st, z'⟩
    · rw [e, r.len, List.getElem?_append_right (Nat.le_refl _)] at e1
      have : ds = ds' := by simpa using e1
      subst this
      exact ⟨.inr rfl, xs, upd_same, rs.stay st, z⟩
  · rcases hl l a e2 with e | ⟨e, rfl⟩
    · rw [hS l a e] at e1
      obtain ⟨q, ⟨u, e'⟩, n⟩ := r.frz l ds' a e1 e
      exact ⟨q.stay st, ⟨u, (st a u e' n).1⟩, (st a u e' n).2⟩
    · rw [e, r.len, List.getElem?_append_right (Nat.le_refl _)] at e1
      simp at e1
  · rcases m with m | rfl
    · obtain ⟨u, e⟩ := r.al a m
      exact ⟨u, by rw [upd_ne (ne_of_none e h)]; exact e⟩
    · exact ⟨_, upd_same⟩
  · refine ⟨by rw [upd_ne (ne_of_none e h)]; exact e, .inl m, fun ⟨l, ds', e1, e2⟩ => ?_⟩
    rcases hl l a e2 with e3 | ⟨_, rfl⟩
    · rw [hS l a e3] at e1
      exact n ⟨l, ds', e1, e3⟩
    · rw [h] at e; cases e
/-- a list of the store is changed -/
theorem Rel.put {l : Nat} {a : Addr} {xs : List V} {ds ds' : List PD} (r : Rel K H M A S) (e1 : S[l]? = some (O.lst ds)) (e2 : A[l]? = some a) (rs : Rps K H M ds' xs) (z : xs.length ≤ SZ) :
    Rel K (upd H a (.lst xs)) M A (S.set l (O.lst ds')) ∧ Fm H M A S (upd H a (.lst xs)) M A (S.set l (O.lst ds')) := by
  obtain ⟨mA, ys, eA, rsA, zA⟩ := r.lst l ds a e1 e2
  have st : Stay H M (upd H a (.lst xs)) M := fun b u e n => ⟨by rw [upd_ne (show b ≠ a from fun q => n (by rw [q]; exact mA))]; exact e, n⟩
  have ls : l < S.length := (List.getElem?_eq_some_iff.mp e1).1
  refine ⟨⟨by simp [r.len], r.nd, fun j ds2 b f1 f2 => ?_, fun j ds2 b f1 f2 => ?_, fun b m => ?_⟩, ⟨st, fun b u e m n => ?_, ⟨[], by simp⟩⟩⟩
  · by_cases hj : j = l
    · subst hj
      rw [e2] at f2; cases f2
      rw [List.getElem?_set_self ls] at f1
      have : ds' = ds2 := by simpa using f1
      subst this
      exact ⟨mA, xs, upd_same, rs.stay st, z⟩
    · rw [List.getElem?_set_ne (Ne.symm hj)] at f1
      obtain ⟨m, zs, e', rs', z'⟩ := r.lst j ds2 b f1 f2
      have nb : b ≠ a := fun q => hj (nodup_at r.nd f2 (q ▸ e2))
      exact ⟨m, zs, by rw [upd_ne nb]; exact e', rs'.stay st, z'⟩
  · by_cases hj : j = l
    · subst hj
      rw [List.getElem?_set_self ls] at f1
      simp at f1
    · rw [List.getElem?_set_ne (Ne.symm hj)] at f1
      obtain ⟨q, ⟨u, e'⟩, n⟩ := r.frz j ds2 b f1 f2
      exact ⟨q.stay st, ⟨u, (st b u e' n).1⟩, n⟩
  · obtain ⟨u, e⟩ := r.al b m
    by_cases hb : b = a
    · exact ⟨_, by rw [hb]; exact upd_same⟩
    · exact ⟨u, by rw [upd_ne hb]; exact e⟩
  · have nb : b ≠ a := fun q => n ⟨l, ds, e1, q ▸ e2⟩
    refine ⟨by rw [upd_ne nb]; exact e, m, fun ⟨j, ds2, f1, f2⟩ => ?_⟩
    by_cases hj : j = l
    · subst hj
      rw [e2] at f2
      exact nb (Option.some.inj f2).symm
    · rw [List.getElem?_set_ne (Ne.symm hj)] at f1
      exact n ⟨j, ds2, f1, f2⟩
/-- a list of the store is not changed any more -/
theorem Rel.still {l : Nat} {a : Addr} {ds : List PD} (r : Rel K H M A S) (e1 : S[l]? = some (O.lst ds)) (e2 : A[l]? = some a) :
    Rel K H (fun b => M b ∧ b ≠ a) A (S.set l (O.frz ds)) ∧ Fm H M A S H (fun b => M b ∧ b ≠ a) A (S.set l (O.frz ds)) ∧ Rp K H (fun b => M b ∧ b ≠ a) (.list ds) (.ref a) := by
  obtain ⟨mA, ys, eA, rsA, zA⟩ := r.lst l ds a e1 e2
  have st : Stay H M H (fun b => M b ∧ b ≠ a) := fun b u e n => ⟨e, fun q => n q.1⟩
  have ls : l < S.length := (List.getElem?_eq_some_iff.mp e1).1
  have q0 : Rp K H (fun b => M b ∧ b ≠ a) (.list ds) (.ref a) := .lst (.of eA (fun q => q.2 rfl) zA) (rsA.stay st)
  refine ⟨⟨by simp [r.len], r.nd, fun j ds2 b f1 f2 => ?_, fun j ds2 b f1 f2 => ?_, fun b m => r.al b m.1⟩, ⟨st, fun b u e m n => ?_, ⟨[], by simp⟩⟩, q0⟩
  · by_cases hj : j = l
    · subst hj
      rw [List.getElem?_set_self ls] at f1
      simp at f1
    · rw [List.getElem?_set_ne (Ne.symm hj)] at f1
      obtain ⟨m, zs, e', rs', z'⟩ := r.lst j ds2 b f1 f2
      exact ⟨⟨m, fun q => hj (nodup_at r.nd f2 (q ▸ e2))⟩, zs, e', rs'.stay st, z'⟩
  · by_cases hj : j = l
    · subst hj
      rw [List.getElem?_set_self ls] at f1
      have : ds = ds2 := by simpa using f1
      subst this
      rw [e2] at f2; cases f2
      exact ⟨q0, ⟨_, eA⟩, fun q => q.2 rfl⟩
    · rw [List.getElem?_set_ne (Ne.symm hj)] at f1
      obtain ⟨q, ⟨u, e'⟩, n⟩ := r.frz j ds2 b f1 f2
      exact ⟨q.stay st, ⟨u, e'⟩, fun q => n q.1⟩
  · have nb : b ≠ a := fun q => n ⟨l, ds, e1, q ▸ e2⟩
    refine ⟨e, ⟨m, nb⟩, fun ⟨j, ds2, f1, f2⟩ => ?_⟩
    by_cases hj : j = l
    · subst hj
      rw [List.getElem?_set_self ls] at f1
      simp at f1
    · rw [List.getElem?_set_ne (Ne.symm hj)] at f1
      exact n ⟨j, ds2, f1, f2⟩
end

/-! ### what names hold -/
/-- an exception that flies or is held -/
def Er (mg : Str → Option Value) (e : Ex) (c : Value) (d : Option Addr) (H : Hp) : Prop := mg e.c = some c ∧ e.c ∈ EXN ∧ (e.fs = [] → d = none)
/-- an exception's object of the class c, with the dict d, at a -/
def ExT (c : Value) (d : Option Addr) (a : Addr) : HO := .ext fun h => ∃ (oe : Obj) (vs : Array Value), h.get? a = some oe ∧ Zc c d oe ∧ oe.data = .fields vs
def Vr (K : PySem.W.Frag) (mg : Str → Option Value) (H : Hp) (M : Addr → Prop) (A : List Addr) : VV → V → Prop
  | .d x, v => Rp K H M x v
  | .loc l, v => ∃ a, A[l]? = some a ∧ v = .ref a
  | .ex e, v => ∃ a c d, v = .ref a ∧ Er mg e c d H ∧ H a = some (ExT c d a) ∧ ¬ M a
inductive Vs (K : PySem.W.Frag) (mg : Str → Option Value) (H : Hp) (M : Addr → Prop) (A : List Addr) : List VV → List V → Prop
  | nil : Vs K mg H M A [] []
  | cons {d : VV} {v : V} {ds : List VV} {vs : List V} : Vr K mg H M A d v → Vs K mg H M A ds vs → Vs K mg H M A (d :: ds) (v :: vs)
section
variable {K : PySem.W.Frag} {mg : Str → Option Value} {H H' H2 : Hp} {M M' M2 : Addr → Prop} {A A' A2 : List Addr} {S S' S2 : Sto} {p : Addr} {o : HO}
theorem Vr.mono (f : Fm H M A S H' M' A' S') : ∀ {x : VV} {v : V}, Vr K mg H M A x v → Vr K mg H' M' A' x v
  | .d x, v, h => Rp.stay f.st (show Rp K H M x v from h)
  | .loc l, v, h => by
    obtain ⟨a, e, q⟩ := (show ∃ a, A[l]? = some a ∧ v = .ref a from h)
    exact ⟨a, f.at_ e, q⟩
  | .ex _, _, ⟨a, c, d, e, r, h, n⟩ => let ⟨h1, n1⟩ := f.st a _ h n; ⟨a, c, d, e, r, h1, n1⟩
theorem Vs.mono (f : Fm H M A S H' M' A' S') : ∀ {xs : List VV} {vs : List V}, Vs K mg H M A xs vs → Vs K mg H' M' A' xs vs
  | _, _, .nil => .nil
  | _, _, .cons h r => .cons (h.mono f) (Vs.mono f r)
theorem Vs.length : ∀ {xs : List VV} {vs : List V}, Vs K mg H M A xs vs → xs.length = vs.length
  | _, _, .nil => rfl
  | _, _, .cons _ r => by rw [List.length_cons, List.length_cons, Vs.length r]
theorem Vs.get : ∀ {ds : List VV} {vs : List V} {i : Nat} {d : VV}, Vs K mg H M A ds vs → ds[i]? = some d → ∃ v, vs[i]? = some v ∧ Vr K mg H M A d v
  | _, _, _, _, .nil, e => by simp at e
  | _, _, 0, _, .cons r _, e => by simp at e; subst e; exact ⟨_, rfl, r⟩
  | _, _, i + 1, d, .cons _ t, e => by
    obtain ⟨u, h1, h2⟩ := Vs.get (i := i) (d := d) t (by simpa using e)
    exact ⟨u, by simpa using h1, h2⟩
/-- the names -/
structure Sr (K : PySem.W.Frag) (mg : Str → Option Value) (H : Hp) (M : Addr → Prop) (A : List Addr) (σd : Sg) (σ : L2.St) : Prop where
  len : σd.length = σ.length
  at_ : ∀ (i : Nat) (v : VV), σd[i]? = some (some v) → ∃ u, σ[i]? = some (some u) ∧ Vr K mg H M A v u
theorem Sr.mono {σd : Sg} {σ : L2.St} (s : Sr K mg H M A σd σ) (f : Fm H M A S H' M' A' S') : Sr K mg H' M' A' σd σ :=
  ⟨s.len, fun i v e => let ⟨u, h, r⟩ := s.at_ i v e; ⟨u, h, r.mono f⟩⟩
theorem Sr.set {σd : Sg} {σ : L2.St} {i : Nat} {v : VV} {u : V} (s : Sr K mg H M A σd σ) (r : Vr K mg H M A v u) : Sr K mg H M A (σd.set i (some v)) (σ.set i (some u)) := by
  refine ⟨by simp [s.len], fun j w e => ?_⟩
  by_cases hj : j = i
  · subst hj
    have lt : j < σd.length := by
      have := (List.getElem?_eq_some_iff.mp e).1
      simpa using this
    rw [List.getElem?_set_self lt] at e
    have : v = w := by simpa using e
    subst this
    exact ⟨u, by rw [List.getElem?_set_self (by rw [← s.len]; exact lt)], r⟩
  · rw [List.getElem?_set_ne (Ne.symm hj)] at e ⊢
    exact s.at_ j w e
theorem Sr.gone {σd : Sg} {σ : L2.St} {i : Nat} (s : Sr K mg H M A σd σ) : Sr K mg H M A (σd.set i none) (σ.set i none) := by
  refine ⟨by simp [s.len], fun j w e => ?_⟩
  by_cases hj : j = i
  · subst hj
    have lt : j < σd.length := by
      have := (List.getElem?_eq_some_iff.mp e).1
      simpa using this
    rw [List.getElem?_set_self lt] at e
    simp at e
  · rw [List.getElem?_set_ne (Ne.symm hj)] at e ⊢
    exact s.at_ j w e
theorem Sr.wipe {σd : Sg} {σ : L2.St} (s : Sr K mg H M A σd σ) : ∀ vs : List Nat, Sr K mg H M A (wipeD σd vs) (wipe σ vs)
  | [] => s
  | v :: vs => (Sr.wipe s vs).gone
/-- what is read of a value -/
theorem Rel.dp (r : Rel K H M A S) {v : VV} {u : V} {d : PD} (h : Vr K mg H M A v u) (e : rd S v = some d) : Dp K H u d := by
  cases v with
  | d x =>
    have : x = d := by simpa [rd] using e
    subst this
    exact Rp.dp h
  | ex _ => cases e
  | loc l =>
    obtain ⟨a, ea, rfl⟩ := h
    unfold rd at e
    dsimp only at e
    have lt : l < S.length := by rw [← r.len]; exact (List.getElem?_eq_some_iff.mp ea).1
    rcases sto_cases lt with ⟨ds, q⟩ | ⟨ds, q⟩
    · rw [q] at e
      have : PyData.list ds = d := by simpa using e
      subst this
      obtain ⟨_, xs, e', rs, _⟩ := r.lst l ds a q ea
      exact .lst (SqL.of e') rs.dp
    · rw [q] at e
      have : PyData.list ds = d := by simpa using e
      subst this
      exact Rp.dp (r.frz l ds a q ea).1
theorem Rel.rdL (r : Rel K H M A S) {v : VV} {u : V} {ds : List PD} (h : Vr K mg H M A v u) (e : rd S v = some (.list ds)) : ∃ a xs, u = .ref a ∧ SqL K H a xs ∧ Rps K H M ds xs ∧ xs.length ≤ SZ := by
  have fin : ∀ {u : V}, Rp K H M (.list ds) u → ∃ a xs, u = .ref a ∧ SqL K H a xs ∧ Rps K H M ds xs ∧ xs.length ≤ SZ := fun q => by
    cases q with
    | lst hs hr => exact ⟨_, _, rfl, hs.sq, hr, hs.2⟩
  cases v with
  | d x =>
    have : x = .list ds := by simpa [rd] using e
    subst this
    exact fin h
  | ex _ => cases e
  | loc l =>
    obtain ⟨a, ea, rfl⟩ := h
    unfold rd at e
    dsimp only at e
    have lt : l < S.length := by rw [← r.len]; exact (List.getElem?_eq_some_iff.mp ea).1
    rcases sto_cases lt with ⟨ds', q⟩ | ⟨ds', q⟩
    · rw [q] at e
      have : ds' = ds := by simpa using e
      subst this
      obtain ⟨_, xs, e', rs, z⟩ := r.lst l ds' a q ea
      exact ⟨a, xs, rfl, SqL.of e', rs, z⟩
    · rw [q] at e
      have : ds' = ds := by simpa using e
      subst this
      exact fin (r.frz l ds' a q ea).1
theorem rd_flat {v : VV} {u : V} {d : PD} (h : Vr K mg H M A v u) (e : rd S v = some d) (n : ∀ ds, d ≠ .list ds) : Rp K H M d u := by
  cases v with
  | d x =>
    have : x = d := by simpa [rd] using e
    subst this
    exact h
  | ex _ => cases e
  | loc l =>
    unfold rd at e
    dsimp only at e
    split at e
    · exact absurd (Option.some.inj e).symm (n _)
    · exact absurd (Option.some.inj e).symm (n _)
    · cases e
theorem rdT {v : VV} {u : V} {ds : List PD} (h : Vr K mg H M A v u) (e : rd S v = some (.tuple ds)) : ∃ a xs, u = .ref a ∧ SqT K H a xs ∧ SqFT K H M a xs ∧ Rps K H M ds xs ∧ xs.length ≤ SZ := by
  cases rd_flat h e (fun _ q => by cases q) with
  | tup hs hr => exact ⟨_, _, rfl, hs.sq, hs, hr, hs.2⟩
theorem rd_int {v : VV} {u : V} {i : Int} (h : Vr K mg H M A v u) (e : rd S v = some (.int i)) : u = .int i := by
  cases rd_flat h e (fun _ q => by cases q); rfl
theorem rd_str {v : VV} {u : V} {i : Str} (h : Vr K mg H M A v u) (e : rd S v = some (.str i)) : u = .str i := by
  cases rd_flat h e (fun _ q => by cases q); rfl
theorem rd_bl {v : VV} {u : V} {i : Bool} (h : Vr K mg H M A v u) (e : rd S v = some (.bool i)) : u = .bl i := by
  cases rd_flat h e (fun _ q => by cases q); rfl
theorem rd_non {v : VV} {u : V} (h : Vr K mg H M A v u) (e : rd S v = some .none) : u = .non := by
  cases rd_flat h e (fun _ q => by cases q); rfl
end

/-! ### what an evaluation promises -/
section
variable {K : PySem.W.Frag} {mg : Str → Option Value}
/-- from a state on: r's end. W: the wish of exceptions at the names -/
def post {α : Type} (K : PySem.W.Frag) (mg : Str → Option Value) (W : XK) (H : Hp) (M : Addr → Prop) (A : List Addr) (S : Sto) (r : R α) (Q : α → Hp → (Addr → Prop) → List Addr → Sto → Prop) : Prop := match r with
  | .ok a S' => ∀ H' M' A', Fm H M A S H' M' A' S' → Rel K H' M' A' S' → Q a H' M' A' S'
  | .exc e S' => ∀ H' M' A' c d, Fm H M A S H' M' A' S' → Rel K H' M' A' S' → Er mg e c d H' → W c d H'
  | .bad => False
variable {W : XK} {H : Hp} {M : Addr → Prop} {A : List Addr} {S : Sto} {α β : Type}
theorem post.imp {r : R α} {Q Q' : α → Hp → (Addr → Prop) → List Addr → Sto → Prop} (h : post K mg W H M A S r Q) (q : ∀ a H' M' A' S', Fm H M A S H' M' A' S' → Rel K H' M' A' S' → Q a H' M' A' S' → Q' a H' M' A' S') : post K mg W H M A S r Q' := by
  cases r with
  | ok a S' => exact fun H' M' A' f rl => q a H' M' A' S' f rl (h H' M' A' f rl)
  | exc e S' => exact h
  | bad => exact h
theorem post.from {H1 : Hp} {M1 : Addr → Prop} {A1 : List Addr} {S1 : Sto} {r : R α} {Q : α → Hp → (Addr → Prop) → List Addr → Sto → Prop} (h : post K mg W H M A S r Q) (f : Fm H M A S H1 M1 A1 S1) : post K mg W H1 M1 A1 S1 r Q := by
  cases r with
  | ok a S' => exact fun H' M' A' g rl => h H' M' A' (f.trans g) rl
  | exc e S' => exact fun H' M' A' c d g rl x => h H' M' A' c d (f.trans g) rl x
  | bad => exact h
theorem post.bind {r : R α} {g : α → Sto → R β} {Q : β → Hp → (Addr → Prop) → List Addr → Sto → Prop} (h : post K mg W H M A S (r.bind g) Q) : post K mg W H M A S r fun a H' M' A' S' => post K mg W H' M' A' S' (g a S') Q := by
  cases r with
  | ok a S' => exact fun H' M' A' f rl => post.from (K := K) h f
  | exc e S' => exact h
  | bad => exact h
theorem post.opt {o : Option α} {g : α → Sto → R β} {Q : β → Hp → (Addr → Prop) → List Addr → Sto → Prop} (h : post K mg W H M A S ((R.opt o S).bind g) Q) : ∃ a, o = some a ∧ post K mg W H M A S (g a S) Q := by
  cases o with
  | none => exact h.elim
  | some a => exact ⟨a, rfl, h⟩
end
end KA
/-! KAChk: when a core term is the text's; where one stands. -/
namespace KA
open PySem PySem.Spec PyProof.Rows L2

/-- the law's own data: its defs, its modules' constants, the built-in names it uses, how defs are called by keywords -/
structure Dom where
  T : Tab
  C : List (Str × PD)
  B : List Str
  KW : List (Nat × List Str)
  al : List (Nat × Str)
  X : List Str
def Dom.const (D : Dom) (x : Str) (d : PD) : Bool := match D.C.lookup x, d with
  | some (.int i), .int j => decide (i = j)
  | some (.str a), .str b => decide (a = b)
  | _, _ => false
/-- the name by which a def is called -/
def Dom.nm (D : Dom) (f : Nat) (d : FD) : Str := (D.al.lookup f).getD d.name
def Dom.fnB (D : Dom) (f : Nat) (x : Str) : Bool := match D.T f with
  | some d => decide (D.nm f d = x)
  | none => false
/-- where a term stands: the names by slot, the block's scope, the names whose cells are its own -/
structure Cs where
  N : List Str
  sc : Scope
  fn : Str → Bool
def visB (sc : Scope) (x : Str) : Bool := match sc.names.lookup x with
  | some .local => true
  | some .cell => true
  | some .free => true
  | _ => false
def okN (x : Str) : Bool := !(x == ("__debug__" : Str)) && !(x == ("__classdict__" : Str)) && !decide (x = "__name__")
def glB (sc : Scope) (x : Str) : Bool := decide (sc.names.lookup x = some .globalImplicit) && okN x
/-- a name that is stored in this block -/
def stB (Γ : Cs) (x : Str) : Bool := match Γ.sc.names.lookup x with
  | some .local => true
  | some .cell => Γ.fn x
  | _ => false
def starB : Expr → Bool
  | .Starred _ _ => true
  | _ => false
def Bn.name : Bn → Str
  | .len => "len"
  | .sum => "sum"
  | .all_ => "all"
  | .any_ => "any"
  | .max_ => "max"
  | .min_ => "min"
  | .int_ => "int"
  | .repr_ => "repr"
  | .str_ => "str"
  | .tuple_ => "tuple"
  | .list_ => "list"
  | .listM => "list"
  | .sorted_ => "sorted"
  | .lenset => "len"
  | .sortset => "sorted"
def Bn.plain : Bn → Bool
  | .lenset => false
  | .sortset => false
  | _ => true
def blB (D : Dom) (Γ : Cs) (x : Str) : Bool := glB Γ.sc x && D.B.contains x
def ixB : Expr → Bool
  | .Slice _ _ _ _ => false
  | _ => true
def setB : Expr → Bool
  | .Set _ _ _ => true
  | _ => false
def tnB (D : Dom) (Γ : Cs) : Tn → Expr → Bool
  | .ty n, .Name x _ => decide (x = Str.ofString n) && blB D Γ x && ["int", "bool", "str", "list", "tuple", "dict"].contains n
  | _, _ => false
def tnsB (D : Dom) (Γ : Cs) : List Tn → List Expr → Bool
  | [], [] => true
  | t :: ts, e :: es => tnB D Γ t e && tnsB D Γ ts es
  | _, _ => false
def chkTn (D : Dom) (Γ : Cs) : List Tn → Expr → Bool
  | ts, .Tuple es _ _ => decide (ts.length < 100) && tnsB D Γ ts es
  | [.own y], .Name x _ => decide (x = y) && glB Γ.sc x && D.X.contains y
  | [.ty n], .Name x _ => decide (x = Str.ofString n) && blB D Γ x && (["int", "bool", "str", "list", "tuple", "dict"].contains n || decide (n = "ValueError"))
  | _, _ => false
def nmB (Γ : Cs) (i : Nat) : Expr → Bool
  | .Name x _ => decide (Γ.N[i]? = some x) && stB Γ x
  | _ => false
def nmsB (Γ : Cs) : List Nat → List Expr → Bool
  | [], [] => true
  | i :: is, e :: es => nmB Γ i e && nmsB Γ is es
  | _, _ => false
def chkG (Γ : Cs) : Tg → Expr → Bool
  | .nm i, e => nmB Γ i e
  | .tp is, .Tuple es _ _ => nmsB Γ is es
  | _, _ => false
def ownOf (N : List Str) (is : List Nat) : List (Str × Nat) := is.filterMap fun i => (N[i]?).map fun x => (x, i)
/-- inside a comprehension -/
def Cs.blk (Γ : Cs) (scope : Scope) : Cs := { N := Γ.N, sc := relS scope Γ.sc, fn := fun x => scope.names.lookup x == some .cell }
def ownB (N : List Str) (is : List Nat) : Bool := is.all fun i => (N[i]?).isSome
/-- the value of a unary minus one -/
def minus1 : Expr → Bool
  | .UnaryOp .USub (.Constant (.int i) _ _) _ => decide (i = 1)
  | _ => false
def tupB : Expr → Bool
  | .Tuple _ _ _ => true
  | _ => false
mutual
def chkE (D : Dom) (Γ : Cs) : CE → Expr → Bool
  | .var i, .Name x _ => decide (Γ.N[i]? = some x) && visB Γ.sc x && okN x
  | .con (.int i), .Constant (.int j) _ _ => decide (i = j)
  | .con (.bool i), .Constant (.bool j) _ _ => decide (i = j)
  | .con (.str i), .Constant (.str j) _ _ => decide (i = j)
  | .con .none, .Constant .none _ _ => true
  | .gcon x d, .Name y _ => decide (x = y) && glB Γ.sc x && D.const x d
  | .bin op a b, .BinOp x o y _ => decide (op = o) && chkE D Γ a x && chkE D Γ b y
  | .neg a, .UnaryOp .USub x _ => chkE D Γ a x
  | .bnot a, .UnaryOp .Not x _ => chkE D Γ a x
  | .band as, .BoolOp .And xs _ => chkEs D Γ as xs
  | .bor as, .BoolOp .Or xs _ => chkEs D Γ as xs
  | .ifx t a b, .IfExp x y z _ => chkE D Γ t x && chkE D Γ a y && chkE D Γ b z
  | .cmp op a b, .Compare x [o] [y] _ => decide (op = o) && chkE D Γ a x && chkE D Γ b y && !setB y
  | .cmp2 p q a b c, .Compare x [p', q'] [y, z] _ => decide (p = p') && decide (q = q') && chkE D Γ a x && chkE D Γ b y && chkE D Γ c z && !setB y && !setB z
  | .isn neg a, .Compare x [o] [.Constant .none _ _] _ => decide (o = if neg = true then .IsNot else .Is) && chkE D Γ a x
  | .call f as, .Call (.Name x _) (e :: es) [] _ => D.fnB f x && glB Γ.sc x && chkEs D Γ as (e :: es)
  | .callk f ks as, .Call (.Name x _) [] kws _ => D.fnB f x && glB Γ.sc x && D.KW.contains (f, ks) && chkKs D Γ ks as kws
  | .blt b as, .Call (.Name x _) (e :: es) [] _ => b.plain && decide (x = b.name) && blB D Γ x && chkEs D Γ as (e :: es)
  | .isin a ts, .Call (.Name x _) [e, t] [] _ => decide (x = "isinstance") && blB D Γ x && chkE D Γ a e && !starB e && chkTn D Γ ts t
  | .meth m (.var i) as, .Call (.Attribute (.Name x p) n ap) (e :: es) [] cp => decide (m = "append" ∨ m = "extend" ∨ m = "pop") && decide (m = n) && decide (Γ.N[i]? = some x) && visB Γ.sc x && okN x && (ap.endLine == cp.line) && decide (es.length < 20) && chkEs D Γ as (e :: es)
  | .sub a i, .Subscript x y _ => chkE D Γ a x && chkE D Γ i y && ixB y
  | .slc a lo hi, .Subscript x (.Slice l h none _) _ => chkE D Γ a x && chkO D Γ lo l && chkO D Γ hi h
  | .seteq a b, .Compare (.Call (.Name x _) [e1] [] _) [.Eq] [.Call (.Name y _) [e2] [] _] _ => decide (x = "set") && decide (y = "set") && blB D Γ x && blB D Γ y && chkE D Γ a e1 && !starB e1 && chkE D Γ b e2 && !starB e2
  | .rev a, .Subscript x (.Slice none none (some (.UnaryOp .USub (.Constant (.int 1) _ _) _)) _) _ => chkE D Γ a x
  | .sset a, .Call (.Name x _) [.Call (.Name y _) [e] [] _] [] _ => decide (x = "sorted") && decide (y = "set") && blB D Γ x && blB D Γ y && chkE D Γ a e && !starB e
  | .tup es, .Tuple xs _ _ => chkEs D Γ es xs
  | .lst _ es, .List xs _ => chkEs D Γ es xs
  | .rng t _ i, .Call (.Name x _) [r] [] _ => decide (x = if t = true then "tuple" else "list") && blB D Γ x && chkR D Γ i r
  | .comp _ elt (.mk tg it c), .ListComp x [⟨t, i, ifs, 0⟩] scope _ => chkI D Γ it i && (tupB t || !needT it) && blkC Γ.N Γ.sc scope (ownOf Γ.N tg.slots) && ownB Γ.N tg.slots && chkG (Γ.blk scope) tg t && chkC D (Γ.blk scope) c ifs && chkE D (Γ.blk scope) elt x
  | .comp2 _ elt (.mk tg it c) (.mk tg1 it1 c1), .ListComp x [⟨t, i, ifs, 0⟩, ⟨t1, i1, ifs1, 0⟩] scope _ => chkI D Γ it i && (tupB t || !needT it) && (tupB t1 || !needT it1) && blkC Γ.N Γ.sc scope (ownOf Γ.N (tg.slots ++ tg1.slots)) && ownB Γ.N (tg.slots ++ tg1.slots) &&
      chkG (Γ.blk scope) tg t && chkC D (Γ.blk scope) c ifs && chkI D (Γ.blk scope) it1 i1 && chkG (Γ.blk scope) tg1 t1 && chkC D (Γ.blk scope) c1 ifs1 && chkE D (Γ.blk scope) elt x
  | _, _ => false
def chkEs (D : Dom) (Γ : Cs) : CEs → List Expr → Bool
  | .nil, [] => true
  | .cons a as, e :: es => chkE D Γ a e && !starB e && chkEs D Γ as es
  | _, _ => false
def chkKs (D : Dom) (Γ : Cs) : List Str → CEs → List Keyword → Bool
  | [], .nil, [] => true
  | k :: ks, .cons a as, ⟨some n, e, _⟩ :: kws => decide (k = n) && chkE D Γ a e && chkKs D Γ ks as kws
  | _, _, _ => false
def chkO (D : Dom) (Γ : Cs) : CO → Option Expr → Bool
  | .none, none => true
  | .some a, some e => chkE D Γ a e
  | _, _ => false
def chkC (D : Dom) (Γ : Cs) : CO → List Expr → Bool
  | .none, [] => true
  | .some a, [e] => chkE D Γ a e
  | _, _ => false
def chkR (D : Dom) (Γ : Cs) : CI → Expr → Bool
  | .rng a, .Call (.Name x _) [e] [] _ => decide (x = "range") && blB D Γ x && chkE D Γ a e && !starB e
  | .rng2 a b, .Call (.Name x _) [e, e2] [] _ => decide (x = "range") && blB D Γ x && chkE D Γ a e && !starB e && chkE D Γ b e2 && !starB e2
  | _, _ => false
def chkI (D : Dom) (Γ : Cs) : CI → Expr → Bool
  | .seq a, e => chkE D Γ a e && !setB e
  | .rng a, .Call (.Name x _) [e] [] _ => decide (x = "range") && blB D Γ x && chkE D Γ a e && !starB e
  | .rng2 a b, .Call (.Name x _) [e, e2] [] _ => decide (x = "range") && blB D Γ x && chkE D Γ a e && !starB e && chkE D Γ b e2 && !starB e2
  | .enum a, .Call (.Name x _) [e] [] _ => decide (x = "enumerate") && blB D Γ x && chkE D Γ a e && !starB e
  | .zip a b, .Call (.Name x _) [e, e2] [] _ => decide (x = "zip") && blB D Γ x && chkE D Γ a e && !starB e && chkE D Γ b e2 && !starB e2
  | .zip3 a b c, .Call (.Name x _) [e, e2, e3] [] _ => decide (x = "zip") && blB D Γ x && chkE D Γ a e && !starB e && chkE D Γ b e2 && !starB e2 && chkE D Γ c e3 && !starB e3
  | _, _ => false
def needT : CI → Bool
  | .enum _ => true
  | .zip _ _ => true
  | .zip3 _ _ _ => true
  | _ => false
end

/-! ### a def's promise, with what repr asks (no object is being written) -/
structure FnG (P : Program) (w : World) (K : PySem.W.Frag) (mg : Str → Option Value) (base : Heap) (k : Nat) (f : Addr) (fd : FuncData) (ps : List Str) (sp : Sp) : Prop where
  len : ∀ vs H Q E, sp vs H Q E → vs.length = ps.length
  run : ∀ (A : Around) (outer : List Env) (s : Shared) (H : Hp) (args : Args) (us : List Value) (vs : List V) (Q : VK) (E : XK), Room k A → A.guards = some [] → Env0 P w K mg base A outer s H → BindsTo s fd args (ps.zip us) → Vals vs us → sp vs H Q E →
    codeAny (model P w) A (.call (.ref f) args) (CR (L2.CX P w) outer P w H s Q E) s
/-- the promise of the def f -/
def spC (D : Dom) (K : PySem.W.Frag) (mg : Str → Option Value) (k f n : Nat) : Sp := fun vs H Q E => ∃ M A S args, Rel K H M A S ∧ Vs K mg H M A args vs ∧ vs.length = n ∧
  post K mg E H M A S (evCall D.T k f args S) fun v H' M' A' _ => ∀ u, Vr K mg H' M' A' v u → Q u H'
/-- the keywords ks in the parameters' sequence -/
def kwG (ps ks : List Str) (ws : List Value) : List Value := ps.filterMap fun p => (ks.zip ws).lookup p
def KwB (K : PySem.W.Frag) (fd : FuncData) (ps ks : List Str) : Prop := (∀ p ∈ ps, p ∈ ks) ∧ ∀ (s : Shared) (ws : List Value), K.In s.heap → ws.length = ks.length → BindsTo s fd ⟨[], ks.zip ws⟩ (ps.zip (kwG ps ks ws))
/-- what the errors' classes say -/
structure ExF (K : PySem.W.Frag) (mg : Str → Option Value) : Prop where
  cls : ∀ x ∈ EXN, ∀ c, mg x = some c → ∃ C, c = .ref C ∧ PySem.W.excIn K C He.veBase "ValueError.__new__" = true ∧ PySem.W.keepIn K (.ref C) = true ∧ PySem.W.subIn K (.ref C) (.type "BaseException") = some true ∧ PySem.W.typeIn K (.ref C) = some (.type "type") ∧ ExcC K C ∧
    PySem.W.kitOne K (.ref C) (.type "ValueError") = some true
  sub : ∀ x ∈ EXN, ∀ y ∈ EXN, ∀ c d, mg x = some c → mg y = some d → PySem.W.exmOne K c d = some (isSub x y) ∧ PySem.W.kitOne K c d = some (isSub x y)
/-- where a term is evaluated -/
structure Wd (D : Dom) (k : Nat) (Γ : Cs) (X : Cx) : Prop where
  hN : X.N = Γ.N
  nd : Γ.N.Nodup
  scp : X.env.scope = Γ.sc
  fn : ∀ x, Γ.fn x = true → X.fn x = true
  calm : X.calm = true
  room : Room k X.A
  grd : X.A.guards = some []
  fns : ∀ f d, D.T f = some d → d.np ≤ d.N.length ∧ ∃ fa fd, X.mg (D.nm f d) = some (.ref fa) ∧ PySem.W.keepIn X.K (.ref fa) = true ∧ FnG X.prog X.w X.K X.mg X.base k fa fd (d.N.take d.np) (spC D X.K X.mg k f (d.N.take d.np).length) ∧ Binds X.K fd (d.N.take d.np) [] ∧
    ∀ ks, D.KW.contains (f, ks) = true → KwB X.K fd (d.N.take d.np) ks
  blt : ∀ x, D.B.contains x = true → X.mg x = none
  con : ∀ x d, D.const x d = true → ∃ u v, X.mg x = some u ∧ RelV v u ∧ ∀ H M, Rp X.K H M d v
  exc : ExF X.K X.mg
  hasX : ∀ x, D.X.contains x = true → x ∈ EXN ∧ ∃ c, X.mg x = some c
/-! ### readings -/
def tV (K : PySem.W.Frag) (mg : Str → Option Value) (W : WX) (r : Sg → Sto → R VV) : TE := fun σ H Q => ∃ M A S σd, Rel K H M A S ∧ Sr K mg H M A σd σ ∧
  post K mg (fun c d H => W c d σ H) H M A S (r σd S) fun v H' M' A' _ => ∀ u, Vr K mg H' M' A' v u → Q u H'
def tBo (K : PySem.W.Frag) (mg : Str → Option Value) (W : WX) (r : Sg → Sto → R Bool) : TT := fun σ H Q => ∃ M A S σd, Rel K H M A S ∧ Sr K mg H M A σd σ ∧
  post K mg (fun c d H => W c d σ H) H M A S (r σd S) fun b H' _ _ _ => Q b H'
def tVs (K : PySem.W.Frag) (mg : Str → Option Value) (W : WX) (r : Sg → Sto → R (List VV)) : TA := fun σ H Q => ∃ M A S σd, Rel K H M A S ∧ Sr K mg H M A σd σ ∧
  post K mg (fun c d H => W c d σ H) H M A S (r σd S) fun vs H' M' A' _ => ∀ us, Vs K mg H' M' A' vs us → Q us H'
def tXs (K : PySem.W.Frag) (mg : Str → Option Value) (W : WX) (r : Sg → Sto → R (List PD)) : TA := fun σ H Q => ∃ M A S σd, Rel K H M A S ∧ Sr K mg H M A σd σ ∧
  post K mg (fun c d H => W c d σ H) H M A S (r σd S) fun ds H' M' _ _ => ∀ us, Rps K H' M' ds us → Q us H'
noncomputable abbrev EV (D : Dom) (k : Nat) := evE (evCall D.T k) (parOf D.T)
def SE (D : Dom) (k : Nat) (c : CE) : Prop := ∀ (X : Cx) (W : WX) (Γ : Cs) (e : Expr), Wd D k Γ X → Takes X W → chkE D Γ c e = true → PE X e (tV X.K X.mg W fun σ S => evE (evCall D.T k) (parOf D.T) σ c S)
def ST (D : Dom) (k : Nat) (c : CE) : Prop := ∀ (X : Cx) (W : WX) (Γ : Cs) (e : Expr), Wd D k Γ X → Takes X W → chkE D Γ c e = true → PT X e (tBo X.K X.mg W fun σ S => evT (evCall D.T k) (parOf D.T) σ c S)
def SEs (D : Dom) (k : Nat) (cs : CEs) : Prop := ∀ (X : Cx) (W : WX) (Γ : Cs) (es : List Expr), Wd D k Γ X → Takes X W → chkEs D Γ cs es = true → PA X es (tVs X.K X.mg W fun σ S => evEs (evCall D.T k) (parOf D.T) σ cs S)
def SXs (D : Dom) (k : Nat) (cs : CEs) : Prop := ∀ (X : Cx) (W : WX) (Γ : Cs) (es : List Expr), Wd D k Γ X → Takes X W → chkEs D Γ cs es = true → PA X es (tXs X.K X.mg W fun σ S => evXs (evCall D.T k) (parOf D.T) σ cs S)
section
variable {X : Cx} {e : Expr} {es : List Expr}
theorem _root_.L2.PE.imp {t t' : TE} (h : PE X e t) (i : ∀ σ H Q, t' σ H Q → t σ H Q) : PE X e t' := ⟨fun pins s σ H Q I q => h.run pins s σ H Q I (i σ H Q q)⟩
theorem _root_.L2.PT.imp {t t' : TT} (h : PT X e t) (i : ∀ σ H Q, t' σ H Q → t σ H Q) : PT X e t' := ⟨fun pins s σ H Q I q => h.run pins s σ H Q I (i σ H Q q)⟩
theorem _root_.L2.PA.imp {t t' : TA} (h : PA X es t) (i : ∀ σ H Q, t' σ H Q → t σ H Q) : PA X es t' := ⟨fun pos pins s σ H Q I q => h.run pos pins s σ H Q I (i σ H Q q)⟩
theorem ba {a b : Bool} (h : (a && b) = true) : a = true ∧ b = true := by simpa using h
theorem vis_of {sc : Scope} {x : Str} (h : visB sc x = true) : Vis sc x := by
  unfold visB at h
  split at h
  · exact .inl (by assumption)
  · exact .inr (.inl (by assumption))
  · exact .inr (.inr (by assumption))
  · cases h
theorem ok_of {x : Str} (h : okN x = true) : (x == ("__debug__" : Str)) = false ∧ (x == ("__classdict__" : Str)) = false ∧ x ≠ "__name__" := by
  unfold okN at h
  obtain ⟨h1, h2⟩ := ba h
  obtain ⟨h3, h4⟩ := ba h1
  exact ⟨by simpa using h3, by simpa using h4, of_decide_eq_false (by simpa using h2)⟩
theorem gl_of {D : Dom} {k : Nat} {Γ : Cs} {x : Str} (w : Wd D k Γ X) (h : glB Γ.sc x = true) : Gl X x ∧ (x == ("__debug__" : Str)) = false ∧ x ≠ "__name__" := by
  obtain ⟨h1, h2⟩ := ba h
  have h1' := of_decide_eq_true h1
  exact ⟨by show X.env.scope.names.lookup x = _; rw [w.scp]; exact h1', (ok_of h2).1, (ok_of h2).2.2⟩
theorem bl_of {D : Dom} {k : Nat} {Γ : Cs} {x : Str} (w : Wd D k Γ X) (h : blB D Γ x = true) : Gl X x ∧ (x == ("__debug__" : Str)) = false ∧ x ≠ "__name__" ∧ X.mg x = none := by
  obtain ⟨h1, h2⟩ := ba h
  obtain ⟨g1, g2, g3⟩ := gl_of w h1
  exact ⟨g1, g2, g3, w.blt x h2⟩
theorem star_cons {env : Env} (h : starB e = false) : starEach (e :: es) env = (false, eval e env) :: starEach es env := by
  cases e <;> first | rfl | cases h
theorem star_plain {D : Dom} {Γ : Cs} {pos : Pos} {env : Env} : ∀ {as : CEs} {es : List Expr}, chkEs D Γ as es = true → (backTo pos (starEach es env)).any (·.1) = false
  | .nil, [], _ => rfl
  | .nil, _ :: _, h => by cases h
  | .cons _ _, [], h => by cases h
  | .cons a as, e :: es, h => by
    unfold chkEs at h
    obtain ⟨h1, h2⟩ := ba h
    obtain ⟨_, h3⟩ := ba h1
    rw [star_cons (by simpa using h3)]
    exact star_plain h2
theorem chkEs_cons {D : Dom} {Γ : Cs} {a : CE} {as : CEs} (h : chkEs D Γ (.cons a as) (e :: es) = true) : chkE D Γ a e = true ∧ starB e = false ∧ chkEs D Γ as es = true := by
  unfold chkEs at h
  obtain ⟨h1, h2⟩ := ba h
  obtain ⟨h4, h3⟩ := ba h1
  exact ⟨h4, by simpa using h3, h2⟩
end
end KA
/-! KAOps: the operations of the evaluator, by the layer's rules. -/
namespace KA
open PySem PySem.Spec PyProof.Rows L2

/-- two operands as they are read, an answer of data -/
def rB (K : PySem.W.Frag) (mg : Str → Option Value) (g : PD → PD → Option PD) : R2 := fun x y H Q => ∃ M A S v w a b z, Rel K H M A S ∧ Vr K mg H M A v x ∧ Vr K mg H M A w y ∧ rd S v = some a ∧ rd S w = some b ∧ g a b = some z ∧
  ∀ H' u, Fm H M A S H' M A S → Rel K H' M A S → Rp K H' M z u → Q u H'
theorem list_extendW (l : Addr) (items : Array Value) (n : Nat) (b : Addr) (items2 : Array Value) (n2 : Nat) (dd : Option Addr) (sl : Array (Option Value)) (hc0 : ¬(!items.isEmpty && Builtin.List.listTooLong (items.size + items2.size)) = true) (hc1 : items.size ≤ sizeLine) (hs2 : items.size + items2.size ≤ sizeLine + 1 := by seq_fits) :
    Meets (Builtin.«list.extend» ⟨[.ref l, .ref b], []⟩) (fun _ R s => s.heap.get? l = some { cls := .type "list", dict := none, data := .seq items n, slots := #[] } ∧ s.heap.get? b = some { cls := .type "list", dict := dd, data := .seq items2 n2, slots := sl } ∧ R (.ok (.ret Value.none)) { s with heap := s.heap.update l (Obj.mapSeq fun x => x ++ items2), toks := s.toks }) :=
  .of_wp fun prog w A R s h => by
    obtain ⟨hp, g, d, tk, os⟩ := s; obtain ⟨hl, hb, h⟩ := h; have f1 := PySem.AutoSeq1.idx_int; have f2 := PySem.AutoSeq1.sub_tuple_tuple; have f3 := PySem.AutoSeq1.sub_list_list; have f4 := PySem.AutoSeq1.sub_tuple_list; have f5 := PySem.AutoSeq1.sub_list_tuple;
    have hz' : (items ++ items2).size ≤ sizeLine + 1 := by rw [Array.size_append]; exact hs2
    wp_walk using (wpAny_updateSeq hl rfl (hz := hc1) (_hz' := hz')), PySem.AutoSeq1.wpAny_loadPart' hl, PySem.AutoSeq1.wpAny_loadPart' hb; exact ⟨_, rfl, h⟩

section
variable {X : Cx}
theorem mt_extendL : MtM X "list.extend" (fun x vs H Q => ∃ l b xs zs, x = .ref l ∧ vs = [.ref b] ∧ H l = some (.lst xs) ∧ SqL X.K H b zs ∧ xs.length + zs.length ≤ sizeLine ∧ Q .non (upd H l (.lst (xs ++ zs)))) := by
  intro pins s σ H x vs v us Q I rx rv h
  obtain ⟨l, b, xs, zs, rfl, rfl, hH, hB, hz, q⟩ := h
  cases rx
  obtain ⟨u, rfl, ru⟩ := rv.one
  cases ru
  obtain ⟨z, its, n, r, hl, e⟩ := I.lstM hH
  obtain ⟨its2, r2, ⟨⟨cls2, dd2, data2, sl2⟩, n2, e2, hc2, _, hd2⟩, _⟩ := I.list hB
  simp only at hc2 hd2
  subst hc2 hd2
  have hl2 := r2.length
  have hsz : its.toArray.size + its2.toArray.size ≤ sizeLine := by rw [List.size_toArray, List.size_toArray]; omega
  have hlong : ¬ (!its.toArray.isEmpty && Builtin.List.listTooLong (its.toArray.size + its2.toArray.size)) = true := by
    rw [notLongL hsz, Bool.and_false]
    exact Bool.false_ne_true
  refine call_meets F.slot_list_extend ⟨_, e, rfl⟩ F.entry_list_extend (F.args_list_extend_2 _ _)
    (list_extendW l its.toArray n b its2.toArray n2 dd2 sl2 hlong (by rw [List.size_toArray]; omega) (by omega)) ⟨e, e2, ?_⟩
  refine ⟨.non, _, I.lset (its' := its ++ its2) hH e (by simp) (r.append r2) ?_, rfl, q⟩
  rw [List.length_append]
  omega
theorem sz_eq : (sizeLine : Nat) = SZ := sizeLine_eq
theorem op_catL : OpR X (binaryOp .Add) (fun x y H Q => ∃ l b xs zs, x = .ref l ∧ y = .ref b ∧ SqL X.K H l xs ∧ SqL X.K H b zs ∧ xs.length + zs.length ≤ sizeLine ∧ ∀ p, H p = none → Q (.ref p) (upd H p (.lst (xs ++ zs)))) := by
  intro pins s σ H x y v u Q I rx ry h
  obtain ⟨l, b, xs, zs, rfl, rfl, hH, hB, hz, q⟩ := h
  cases rx
  cases ry
  obtain ⟨its, r, ⟨⟨cls, dd, data, sl⟩, n, ho, hc, _, hd⟩, _⟩ := I.list hH
  obtain ⟨its2, r2, ⟨⟨cls2, dd2, data2, sl2⟩, n2, ho2, hc2, _, hd2⟩, _⟩ := I.list hB
  have hl := r.length
  have hl2 := r2.length
  simp only at hc hd hc2 hd2
  subst hc hd hc2 hd2
  have ea : its.toArray ++ its2.toArray = (its ++ its2).toArray := by simp
  refine concat_meets ⟨_, ho, rfl⟩ ⟨_, ho2, rfl⟩ noFill_list_add seq_list_add PySem.F.slot_list_add PySem.F.entry_list_add (PySem.F.args_list_add_2 _ _) (list_addW l b its.toArray its2.toArray n n2 dd dd2 sl sl2 (by rw [List.size_toArray, List.size_toArray]; omega)) ⟨ho, ho2, ?_⟩
  rw [ea]
  exact ⟨.ref _, _, I.lnew (t' := s.toks) (r.append r2) (by rw [List.length_append]; omega), rfl, q _ I.fresh⟩

theorem mulOk_ok {i j : Int} (h : mulOk i j = true) : IntMulOk i j := by
  unfold mulOk at h
  rcases Bool.or_eq_true_iff.mp h with q | q
  · have q' := of_decide_eq_true q
    exact CMul.ok q'
  · have q' := of_decide_eq_true q
    exact CMulW.ok q'
theorem op_mulK : OpR X (binaryOp .Mult) (rI (fun i j => mulOk i j = true) fun i j => .int (i * j)) := opI fun _ _ _ _ _ _ _ hc q => mul_int q (mulOk_ok hc)
theorem op_binD (op : Operator) : OpR X (binaryOp op) (rB X.K X.mg (binD op)) := by
  intro pins s σ H x y v0 u0 Q I rx ry h
  obtain ⟨M, A, S, v, w, a, b, z, R, hv, hw, ea, eb, e, q⟩ := h
  have q0 : ∀ u, Rp X.K H M z u → Q u H := fun u r => q H u Fm.refl R r
  unfold binD at e
  split at e
  · obtain rfl := rd_int hv ea
    obtain rfl := rd_int hw eb
    cases e
    exact op_add pins s σ H _ _ v0 u0 Q I rx ry ⟨_, _, rfl, rfl, q0 _ (.int _)⟩
  · split at e
    · obtain rfl := rd_str hv ea
      obtain rfl := rd_str hw eb
      cases e
      exact op_add_str pins s σ H _ _ v0 u0 Q I rx ry ⟨_, _, rfl, rfl, (by rw [sz_eq]; assumption), q0 _ (.str _)⟩
    · cases e
  · split at e
    · obtain ⟨a1, xs, rfl, s1, r1, z1⟩ := R.rdL hv ea
      obtain ⟨a2, ys, rfl, s2, r2, z2⟩ := R.rdL hw eb
      cases e
      rename_i hz
      have hl : xs.length + ys.length ≤ SZ := by rw [← r1.length, ← r2.length]; exact hz
      refine op_catL pins s σ H _ _ v0 u0 Q I rx ry ⟨_, _, _, _, rfl, rfl, s1, s2, by rw [sz_eq]; exact hl, fun p hp => ?_⟩
      exact q _ _ (Fm.new hp) (R.new hp) (.lst (.of upd_same (R.nM hp) (by rw [List.length_append]; exact hl)) ((r1.append r2).stay (stay_new hp)))
    · cases e
  · split at e
    · obtain ⟨a1, xs, rfl, s1, f1, r1, z1⟩ := rdT hv ea
      obtain ⟨a2, ys, rfl, s2, f2, r2, z2⟩ := rdT hw eb
      cases e
      rename_i hz
      have hl : xs.length + ys.length ≤ SZ := by rw [← r1.length, ← r2.length]; exact hz
      refine op_catA pins s σ H _ _ v0 u0 Q I rx ry ⟨_, _, _, _, rfl, rfl, s1, s2, by rw [sz_eq]; exact hl, fun e1 => ?_, fun _ e2 => ?_, fun _ _ p hp => ?_⟩
      · subst e1
        cases r1
        exact q0 _ (.tup f2 r2)
      · subst e2
        cases r2
        rw [List.append_nil] at q0
        exact q0 _ (.tup f1 r1)
      · exact q _ _ (Fm.new hp) (R.new hp) (.tup (.of upd_same (R.nM hp) (by rw [List.length_append]; exact hl)) ((r1.append r2).stay (stay_new hp)))
    · cases e
  · obtain rfl := rd_int hv ea
    obtain rfl := rd_int hw eb
    cases e
    exact op_sub pins s σ H _ _ v0 u0 Q I rx ry ⟨_, _, rfl, rfl, q0 _ (.int _)⟩
  · split at e
    · obtain rfl := rd_int hv ea
      obtain rfl := rd_int hw eb
      cases e
      exact op_mulK pins s σ H _ _ v0 u0 Q I rx ry ⟨_, _, rfl, rfl, by assumption, q0 _ (.int _)⟩
    · cases e
  · split at e
    · obtain rfl := rd_int hv ea
      obtain rfl := rd_int hw eb
      cases e
      exact op_fdivW pins s σ H _ _ v0 u0 Q I rx ry ⟨_, _, rfl, rfl, by assumption, q0 _ (.int _)⟩
    · cases e
  · split at e
    · obtain rfl := rd_int hv ea
      obtain rfl := rd_int hw eb
      cases e
      exact op_mod pins s σ H _ _ v0 u0 Q I rx ry ⟨_, _, rfl, rfl, by assumption, q0 _ (.int _)⟩
    · cases e
  · split at e
    · obtain rfl := rd_int hv ea
      obtain rfl := rd_int hw eb
      cases e
      exact op_pow pins s σ H _ _ v0 u0 Q I rx ry ⟨_, _, rfl, rfl, by assumption, q0 _ (.int _)⟩
    · cases e
  · cases e
/-- a comparison of what is read -/
def rC (K : PySem.W.Frag) (mg : Str → Option Value) (g : PD → PD → Option Bool) : R2 := fun x y H Q => ∃ M A S v w a b z, Rel K H M A S ∧ Vr K mg H M A v x ∧ Vr K mg H M A w y ∧ rd S v = some a ∧ rd S w = some b ∧ g a b = some z ∧ Q (.bl z) H
theorem shaped_and {x y : PD} {c : Bool} (h : (if SeqAt.shaped x && SeqAt.shaped y then some c else none) = some true ∨ True) : True := trivial
theorem op_eqK (hu : X.A.units + 64 < cLine) : OpR X (compareOp .Eq) (rC X.K X.mg eqD) := by
  intro pins s σ H x y v0 u0 Q I rx ry h
  obtain ⟨M, A, S, v, w, a, b, z, R, hv, hw, ea, eb, e, q⟩ := h
  have gen : SeqAt.shaped a = true → SeqAt.shaped b = true → PyData.eqv a b = z → wpAny (model X.prog X.w) X.A (compareOp .Eq v0 u0) (EP X pins σ Q) X.xe s := fun h1 h2 h3 =>
    op_eqD hu pins s σ H x y v0 u0 Q I rx ry ⟨a, b, R.dp hv ea, R.dp hw eb, h1, h2, by rw [h3]; exact q⟩
  unfold eqD at e
  split at e
  · obtain rfl := rd_int hv ea
    obtain rfl := rd_int hw eb
    cases e
    exact op_eq pins s σ H _ _ v0 u0 Q I rx ry ⟨rfl, by rw [dec_int]; exact q⟩
  · obtain rfl := rd_str hv ea
    obtain rfl := rd_str hw eb
    cases e
    exact op_eq pins s σ H _ _ v0 u0 Q I rx ry ⟨rfl, by rw [dec_str]; exact q⟩
  · obtain rfl := rd_bl hv ea
    obtain rfl := rd_bl hw eb
    cases e
    exact op_eq pins s σ H _ _ v0 u0 Q I rx ry ⟨rfl, by rw [dec_bl]; exact q⟩
  · split at e
    · rename_i hs
      obtain ⟨h1, h2⟩ := ba hs
      cases e
      exact gen h1 h2 rfl
    · cases e
theorem op_neK (hu : X.A.units + 64 < cLine) : OpR X (compareOp .NotEq) (rC X.K X.mg fun a b => (eqD a b).map (!·)) := by
  intro pins s σ H x y v0 u0 Q I rx ry h
  obtain ⟨M, A, S, v, w, a, b, z, R, hv, hw, ea, eb, e, q⟩ := h
  obtain ⟨c, e2, rfl⟩ := Option.map_eq_some_iff.mp e
  clear e
  have gen : SeqAt.shaped a = true → SeqAt.shaped b = true → PyData.eqv a b = c → wpAny (model X.prog X.w) X.A (compareOp .NotEq v0 u0) (EP X pins σ Q) X.xe s := fun h1 h2 h3 =>
    op_neD hu pins s σ H x y v0 u0 Q I rx ry ⟨a, b, R.dp hv ea, R.dp hw eb, h1, h2, by rw [h3]; exact q⟩
  unfold eqD at e2
  split at e2
  · obtain rfl := rd_int hv ea
    obtain rfl := rd_int hw eb
    cases e2
    exact op_ne pins s σ H _ _ v0 u0 Q I rx ry ⟨rfl, by rw [dec_int]; exact q⟩
  · obtain rfl := rd_str hv ea
    obtain rfl := rd_str hw eb
    cases e2
    exact op_ne pins s σ H _ _ v0 u0 Q I rx ry ⟨rfl, by rw [dec_str]; exact q⟩
  · obtain rfl := rd_bl hv ea
    obtain rfl := rd_bl hw eb
    cases e2
    exact op_ne pins s σ H _ _ v0 u0 Q I rx ry ⟨rfl, by rw [dec_bl]; exact q⟩
  · split at e2
    · rename_i hs
      obtain ⟨h1, h2⟩ := ba hs
      cases e2
      exact gen h1 h2 rfl
    · cases e2
theorem lay_of {ds : List PD} (h : SeqAt.shaped (.list ds) = true) : PyData.canLay0 (.list ds) = true ∧ PyData.canLay0 (.tuple ds) = true := by
  have h1 := SeqAt.canLay_of_shaped h
  exact ⟨h1, by simpa [PyData.canLay0] using h1⟩
/-- x in xs, x not in xs: lists, tuples -/
theorem op_inK (neg : Bool) (hu : X.A.units + 65 < cLine) : OpR X (compareOp (if neg = true then .NotIn else .In)) (rC X.K X.mg fun a b => match b with
    | .list ds => if neg = true then (inD a ds).map (!·) else inD a ds
    | .tuple ds => if neg = true then (inD a ds).map (!·) else inD a ds
    | _ => none) := by
  intro pins s σ H x y v0 u0 Q I rx ry h
  obtain ⟨M, A, S, v, w, a, b, z, R, hv, hw, ea, eb, e, q⟩ := h
  obtain ⟨as, r1⟩ := Dp.reads I a x v0 (R.dp hv ea) rx
  obtain ⟨bs, r2⟩ := Dp.reads I b y u0 (R.dp hw eb) ry
  have key : ∀ ds, (if neg = true then (inD a ds).map (!·) else inD a ds) = some z → SeqAt.shaped a = true ∧ SeqAt.shaped (.list ds) = true ∧ z = (if neg = true then !ds.any fun z => PyData.eqv z a else ds.any fun z => PyData.eqv z a) := fun ds e => by
    unfold inD at e
    cases neg with
    | true =>
      simp only [if_true] at e ⊢
      split at e
      · rename_i hs
        obtain ⟨h1, h2⟩ := ba hs
        cases e
        exact ⟨h1, h2, rfl⟩
      · cases e
    | false =>
      simp only [Bool.false_eq_true, if_false] at e ⊢
      split at e
      · rename_i hs
        obtain ⟨h1, h2⟩ := ba hs
        cases e
        exact ⟨h1, h2, rfl⟩
      · cases e
  dsimp only at e
  split at e
  · rename_i ds
    obtain ⟨h1, h2, rfl⟩ := key ds e
    have l1 := SeqAt.canLay_of_shaped h1
    cases neg with
    | true => exact SeqAt.notIn_list_reads r2 r1 (lay_of h2).1 l1 (PyProof.Rows.room_in_shaped h1 hu) ⟨.bl _, H, I, rfl, q⟩
    | false => exact SeqAt.in_list_reads r2 r1 (lay_of h2).1 l1 (PyProof.Rows.room_in_shaped h1 hu) ⟨.bl _, H, I, rfl, q⟩
  · rename_i ds
    obtain ⟨h1, h2, rfl⟩ := key ds e
    have l1 := SeqAt.canLay_of_shaped h1
    cases neg with
    | true => exact SeqAt.notIn_tuple_reads r2 r1 (lay_of h2).2 l1 (PyProof.Rows.room_in_shaped h1 hu) ⟨.bl _, H, I, rfl, q⟩
    | false => exact SeqAt.in_tuple_reads r2 r1 (lay_of h2).2 l1 (PyProof.Rows.room_in_shaped h1 hu) ⟨.bl _, H, I, rfl, q⟩
  · cases e
theorem op_cmpD (op : CmpOp) (hu : X.A.units + 65 < cLine) : OpR X (compareOp op) (rC X.K X.mg (cmpD op)) := by
  intro pins s σ H x y v0 u0 Q I rx ry h
  have h0 := h
  obtain ⟨M, A, S, v, w, a, b, z, R, hv, hw, ea, eb, e, q⟩ := h
  unfold cmpD at e
  split at e
  · exact op_eqK (by omega) pins s σ H x y v0 u0 Q I rx ry ⟨M, A, S, v, w, _, _, z, R, hv, hw, ea, eb, e, q⟩
  · exact op_neK (by omega) pins s σ H x y v0 u0 Q I rx ry ⟨M, A, S, v, w, _, _, z, R, hv, hw, ea, eb, e, q⟩
  · obtain rfl := rd_int hv ea
    obtain rfl := rd_int hw eb
    cases e
    exact op_lt pins s σ H _ _ v0 u0 Q I rx ry ⟨_, _, rfl, rfl, q⟩
  · obtain rfl := rd_int hv ea
    obtain rfl := rd_int hw eb
    cases e
    exact op_le pins s σ H _ _ v0 u0 Q I rx ry ⟨_, _, rfl, rfl, q⟩
  · obtain rfl := rd_int hv ea
    obtain rfl := rd_int hw eb
    cases e
    exact op_gt pins s σ H _ _ v0 u0 Q I rx ry ⟨_, _, rfl, rfl, q⟩
  · obtain rfl := rd_int hv ea
    obtain rfl := rd_int hw eb
    cases e
    exact op_ge pins s σ H _ _ v0 u0 Q I rx ry ⟨_, _, rfl, rfl, q⟩
  · exact op_inK false hu pins s σ H x y v0 u0 Q I rx ry ⟨M, A, S, v, w, _, _, z, R, hv, hw, ea, eb, e, q⟩
  · exact op_inK false hu pins s σ H x y v0 u0 Q I rx ry ⟨M, A, S, v, w, _, _, z, R, hv, hw, ea, eb, e, q⟩
  · exact op_inK true hu pins s σ H x y v0 u0 Q I rx ry ⟨M, A, S, v, w, _, _, z, R, hv, hw, ea, eb, e, q⟩
  · exact op_inK true hu pins s σ H x y v0 u0 Q I rx ry ⟨M, A, S, v, w, _, _, z, R, hv, hw, ea, eb, e, q⟩
  · cases e
/-- one operand -/
def rU1 {β : Type} (K : PySem.W.Frag) (mg : Str → Option Value) (g : PD → Option β) (P : β → V → Hp → Prop) : V → Hp → VK → Prop := fun x H Q => ∃ M A S v a z, Rel K H M A S ∧ Vr K mg H M A v x ∧ rd S v = some a ∧ g a = some z ∧ ∀ u, P z u H → Q u H
theorem un_negD : UnR X (unaryOp .USub) (rU1 X.K X.mg negD fun z u _ => ∃ i, z = .int i ∧ u = .int i) := by
  intro pins s σ H x v0 Q I rx h
  obtain ⟨M, A, S, v, a, z, R, hv, ea, e, q⟩ := h
  unfold negD at e
  split at e
  · obtain rfl := rd_int hv ea
    cases e
    exact un_neg pins s σ H _ v0 Q I rx ⟨_, rfl, q _ ⟨_, rfl, rfl⟩⟩
  · cases e
/-- truth -/
theorem tru_K {K : PySem.W.Frag} {mg : Str → Option Value} {H : Hp} {M : Addr → Prop} {A : List Addr} {S : Sto} {v : VV} {u : V} {a : PD} {b : Bool} (R : Rel K H M A S) (hv : Vr K mg H M A v u) (ea : rd S v = some a) (e : truthD a = some b) : TruV K u H b := by
  cases a with
  | none =>
    obtain rfl := rd_non hv ea
    cases e; rfl
  | bool c =>
    obtain rfl := rd_bl hv ea
    cases e; rfl
  | int i =>
    obtain rfl := rd_int hv ea
    cases e; rfl
  | str x =>
    obtain rfl := rd_str hv ea
    unfold truthD at e
    dsimp only at e
    split at e
    · cases e
      refine ⟨by rw [sz_eq]; assumption, ?_⟩
      rw [Bool.eq_iff_iff]
      simp
    · cases e
  | list ds =>
    obtain ⟨p, xs, rfl, hs, r, _⟩ := R.rdL hv ea
    cases e
    refine .inl ⟨xs, hs, ?_⟩
    cases r <;> rfl
  | tuple ds =>
    obtain ⟨p, xs, rfl, hs, _, r, _⟩ := rdT hv ea
    cases e
    refine .inr (.inl ⟨xs, hs, ?_⟩)
    cases r <;> rfl
  | dict _ => cases e
end
end KA
/-! KAMax: max of a tuple of ints. -/
namespace KA
open PySem PySem.Spec PyProof.Rows L2
def rMaxT (K : PySem.W.Frag) : List V → Hp → VK → Prop := fun vs H Q => ∃ (a : Addr) (ns : List Int), vs = [V.ref a] ∧ SqT K H a (ns.map V.int) ∧ 0 < ns.length ∧ ∀ m, m ∈ ns → (∀ y, y ∈ ns → y ≤ m) → Q (.int m) H
theorem cr_maxT {X : Cx} (hc : X.calm = true) : CallR X (.builtin "max") (rMaxT X.K) := by
  intro pins s σ H vs us Q I r h
  obtain ⟨a, ns, rfl, hs, hne, q⟩ := h
  obtain ⟨its, rv, pl, _⟩ := I.tuple hs
  rw [Vals.ref1 r]
  have p' : s.heap.IsTuple a its.toArray := pl
  have hlt : a < s.heap.objs.size := by obtain ⟨o, e, _⟩ := p'; exact Heap.lt_size e
  have hlen : its.length = ns.length := by have := rv.length; simpa using this.symm
  have hP : ∀ (i : Nat) (v : Value), its.toArray[i]? = some v → ∃ t, v = .int (ns.getD i 0) t := fun i v hv => by
    have hi : i < its.length := by
      have := (Array.getElem?_eq_some_iff.mp hv).1
      simpa using this
    obtain ⟨w, hw, t, hw'⟩ := rv.get (i := i) (x := .int ns[i]) (by simp [show i < ns.length by omega])
    have e : its[i]? = some v := by simpa using hv
    rw [hw] at e
    cases e
    exact ⟨t, by rw [hw']; simp [show i < ns.length by omega]⟩
  refine call_max_walk ?_
  refine wpAny_pyIter_tuple p' ?_
  have hN : a ≠ s.heap.objs.size := Nat.ne_of_lt hlt
  refine ⟨s.heap.objs.size, [s.heap.objs.size, a], [s.heap.objs.size], its.toArray.size, fun i v => its.toArray[i]? = some v, _, fun i j => decide (ns.getD i 0 > ns.getD j 0), rfl,
    Walks.tuple (show X.A.in1.handled = none from I.ok.hd hc) s.heap.objs.size a hN its.toArray, ⟨⟨_, Heap.get?_push_size _ rfl, rfl, rfl⟩, p'.push _⟩, fun b hb => ?_, by simp; omega, CmpOf.ints_gt (fun i => ns.getD i 0) (fun i v z => hP i v z), fun v h' tk hv hk => ?_⟩
  · show b < (s.heap.push _).objs.size
    rw [Heap.size_push]
    rcases List.mem_cons.mp hb with z | z
    · exact z ▸ Nat.lt_succ_self _
    · exact List.mem_singleton.mp z ▸ Nat.lt_succ_of_lt hlt
  · obtain ⟨t, hv'⟩ := hP _ _ hv
    obtain ⟨m1, m2⟩ := argBest_gt (fun i => ns.getD i 0) (its.toArray.size - 1)
    have hsz : its.toArray.size = ns.length := by simpa using hlen
    have hk2 : ∀ b o, s.heap.get? b = some o → h'.get? b = some o := fun b o e => hk b o (fun z => absurd (Heap.lt_size e) (by rw [List.mem_singleton.mp z]; exact Nat.lt_irrefl _)) (Heap.get?_push_of_some _ e)
    refine ⟨.int _, H, I.kept (t' := tk) hk2, ⟨t, hv'⟩, q _ (PySem.getD_mem ?_) fun y hy => ?_⟩
    · exact Nat.lt_of_le_of_lt (show _ ≤ its.toArray.size - 1 from m1) (by omega)
    · obtain ⟨j, hj, e⟩ := List.mem_iff_getElem.mp hy
      have z := m2 j (by omega)
      have e3 : ns.getD j 0 = y := by rw [List.getD_eq_getElem?_getD, List.getElem?_eq_getElem hj, ← e]; rfl
      rw [← e3]
      exact z
end KA
/-! KABlt: built-in functions of the evaluator. -/
namespace KA
open PySem PySem.Spec PyProof.Rows L2

def Bn.val : Bn → Value
  | .len => .builtin "len"
  | .sum => .builtin "sum"
  | .all_ => .builtin "all"
  | .any_ => .builtin "any"
  | .max_ => .builtin "max"
  | .min_ => .builtin "min"
  | .int_ => .type "int"
  | .repr_ => .builtin "repr"
  | .str_ => .type "str"
  | .tuple_ => .type "tuple"
  | .list_ => .type "list"
  | .listM => .type "list"
  | .sorted_ => .builtin "sorted"
  | .lenset => .builtin "len"
  | .sortset => .builtin "sorted"
theorem Bn.boot (b : Bn) : bootBuiltins b.name = some b.val := by
  cases b <;> decide +kernel
def rBn (K : PySem.W.Frag) (mg : Str → Option Value) (b : Bn) : List V → Hp → VK → Prop := fun us H Q => ∃ M A S vs xs z, Rel K H M A S ∧ Vs K mg H M A vs us ∧ rds S vs = some xs ∧ bltD b xs = some z ∧
  ∀ H' u, Fm H M A S H' M A S → Rel K H' M A S → Rp K H' M z u → Q u H'
section
variable {K : PySem.W.Frag} {mg : Str → Option Value} {H : Hp} {M : Addr → Prop} {A : List Addr} {S : Sto}
theorem rds_one {vs : List VV} {us : List V} {x : PD} (h : Vs K mg H M A vs us) (e : rds S vs = some [x]) : ∃ v u, vs = [v] ∧ us = [u] ∧ Vr K mg H M A v u ∧ rd S v = some x := by
  cases h with
  | nil => cases e
  | cons r t =>
    unfold rds at e
    split at e
    · rename_i x0 xs0 e1 e2
      cases e
      cases t with
      | nil => exact ⟨_, _, rfl, rfl, r, e1⟩
      | cons r' t' =>
        unfold rds at e2
        split at e2 <;> cases e2
    · cases e
theorem rds_two {vs : List VV} {us : List V} {x y : PD} (h : Vs K mg H M A vs us) (e : rds S vs = some [x, y]) : ∃ v w u z, vs = [v, w] ∧ us = [u, z] ∧ Vr K mg H M A v u ∧ Vr K mg H M A w z ∧ rd S v = some x ∧ rd S w = some y := by
  cases h with
  | nil => cases e
  | cons r t =>
    unfold rds at e
    split at e
    · rename_i x0 xs0 e1 e2
      cases e
      obtain ⟨v, u, rfl, rfl, r2, e3⟩ := rds_one t e2
      exact ⟨_, _, _, _, rfl, rfl, r, r2, e1, e3⟩
    · cases e
theorem intsD_map : ∀ {ds : List PD} {ns : List Int}, intsD ds = some ns → ds = ns.map PyData.int
  | [], ns, e => by cases e; rfl
  | d :: r, ns, e => by
    cases d with
    | int i =>
      unfold intsD at e
      obtain ⟨ms, e1, rfl⟩ := Option.map_eq_some_iff.mp e
      rw [intsD_map e1]; rfl
    | _ => cases e
theorem boolsD_map : ∀ {ds : List PD} {ns : List Bool}, boolsD ds = some ns → ds = ns.map PyData.bool
  | [], ns, e => by cases e; rfl
  | d :: r, ns, e => by
    cases d with
    | bool i =>
      unfold boolsD at e
      obtain ⟨ms, e1, rfl⟩ := Option.map_eq_some_iff.mp e
      rw [boolsD_map e1]; rfl
    | _ => cases e
theorem Rps.ints : ∀ {ns : List Int} {us : List V}, Rps K H M (ns.map PyData.int) us → us = ns.map V.int
  | [], _, .nil => rfl
  | n :: ns, _, .cons r t => by
    cases r
    rw [Rps.ints t]; rfl
theorem Rps.bools : ∀ {ns : List Bool} {us : List V}, Rps K H M (ns.map PyData.bool) us → us = ns.map V.bl
  | [], _, .nil => rfl
  | n :: ns, _, .cons r t => by
    cases r
    rw [Rps.bools t]; rfl
theorem Rps.of_ints : ∀ (ns : List Int), Rps K H M (ns.map PyData.int) (ns.map V.int)
  | [] => .nil
  | n :: ns => .cons (.int n) (Rps.of_ints ns)
end
theorem maxI_spec : ∀ (m : Int) (ns : List Int), maxI m ns ∈ m :: ns ∧ ∀ y ∈ m :: ns, y ≤ maxI m ns
  | m, [] => ⟨by simp [maxI], fun y h => by
    have : y = m := by simpa using h
    rw [this]; exact Int.le_refl _⟩
  | m, x :: r => by
    obtain ⟨h1, h2⟩ := maxI_spec (if x > m then x else m) r
    refine ⟨?_, fun y hy => ?_⟩
    · show maxI (if x > m then x else m) r ∈ m :: x :: r
      rcases List.mem_cons.mp h1 with e | e
      · rw [e]; split <;> simp
      · exact List.mem_cons_of_mem _ (List.mem_cons_of_mem _ e)
    · show y ≤ maxI (if x > m then x else m) r
      have h0 := h2 (if x > m then x else m) List.mem_cons_self
      rcases List.mem_cons.mp hy with e | e
      · rw [e]
        by_cases hx : x > m
        · rw [if_pos hx] at h0 ⊢; omega
        · rw [if_neg hx] at h0 ⊢; omega
      · rcases List.mem_cons.mp e with e | e
        · rw [e]
          by_cases hx : x > m
          · rw [if_pos hx] at h0 ⊢; omega
          · rw [if_neg hx] at h0 ⊢; omega
        · exact h2 y (List.mem_cons_of_mem _ e)
theorem minI_spec : ∀ (m : Int) (ns : List Int), minI m ns ∈ m :: ns ∧ ∀ y ∈ m :: ns, minI m ns ≤ y
  | m, [] => ⟨by simp [minI], fun y h => by
    have : y = m := by simpa using h
    rw [this]; exact Int.le_refl _⟩
  | m, x :: r => by
    obtain ⟨h1, h2⟩ := minI_spec (if x < m then x else m) r
    refine ⟨?_, fun y hy => ?_⟩
    · show minI (if x < m then x else m) r ∈ m :: x :: r
      rcases List.mem_cons.mp h1 with e | e
      · rw [e]; split <;> simp
      · exact List.mem_cons_of_mem _ (List.mem_cons_of_mem _ e)
    · show minI (if x < m then x else m) r ≤ y
      have h0 := h2 (if x < m then x else m) List.mem_cons_self
      rcases List.mem_cons.mp hy with e | e
      · rw [e]
        by_cases hx : x < m
        · rw [if_pos hx] at h0 ⊢; omega
        · rw [if_neg hx] at h0 ⊢; omega
      · rcases List.mem_cons.mp e with e | e
        · rw [e]
          by_cases hx : x < m
          · rw [if_pos hx] at h0 ⊢; omega
          · rw [if_neg hx] at h0 ⊢; omega
        · exact h2 y (List.mem_cons_of_mem _ e)
theorem insI_perm (x : Int) : ∀ l : List Int, (insI x l).Perm (x :: l)
  | [] => .refl _
  | y :: r => by
    unfold insI
    split
    · exact .refl _
    · exact ((insI_perm x r).cons y).trans (.swap x y r)
theorem insI_sorted (x : Int) : ∀ l : List Int, l.Pairwise (· ≤ ·) → (insI x l).Pairwise (· ≤ ·)
  | [], _ => by simp [insI]
  | y :: r, h => by
    unfold insI
    obtain ⟨h1, h2⟩ := List.pairwise_cons.mp h
    split
    · rename_i hxy
      refine List.pairwise_cons.mpr ⟨fun z hz => ?_, h⟩
      rcases List.mem_cons.mp hz with e | e
      · rw [e]; exact hxy
      · exact Int.le_trans hxy (h1 z e)
    · rename_i hxy
      refine List.pairwise_cons.mpr ⟨fun z hz => ?_, insI_sorted x r h2⟩
      rcases List.mem_cons.mp ((insI_perm x r).mem_iff.mp hz) with e | e
      · rw [e]; omega
      · exact h1 z e
theorem sortI_perm : ∀ l : List Int, (sortI l).Perm l
  | [] => .refl _
  | x :: r => (insI_perm x (sortI r)).trans ((sortI_perm r).cons x)
theorem sortI_sorted : ∀ l : List Int, (sortI l).Pairwise (· ≤ ·)
  | [] => by simp [sortI]
  | x :: r => insI_sorted x _ (sortI_sorted r)
theorem sort_same {a b : List Int} (hp : a.Perm b) (ha : a.Pairwise (· ≤ ·)) (hb : b.Pairwise (· ≤ ·)) : a = b :=
  hp.eq_of_pairwise (fun x y _ _ h1 h2 => Int.le_antisymm h1 h2) ha hb
section
variable {X : Cx}
/-- repr of a list, a tuple of data -/
theorem call_reprD (hg : X.A.guards = some []) (hu : X.A.units + 100 < cLine) : CallR X (.builtin "repr") (fun us H Q => ∃ (a : Addr) (d : PD), us = [.ref a] ∧ Dp X.K H (.ref a) d ∧ d.showable = true ∧ d.hasDict = false ∧ d.depth ≤ 64 ∧ d.shown.length ≤ SZ ∧ Q (.str d.shown) H) := by
  intro pins s σ H xs us Q I r h
  obtain ⟨a, d, rfl, hd, h1, h2, h3, h4, q⟩ := h
  rw [Vals.ref1 r]
  obtain ⟨as, rr⟩ := Dp.reads I d _ _ hd (rfl : RelV (.ref a) (.ref a))
  refine PySem.repr_of_reads' rr h1 (fun z => by rw [h2] at z; cases z) hg (by omega) (fun _ _ e => e) (fun h' u tk k => ?_) (by rw [sz_eq]; exact h4)
  exact ⟨.str d.shown, H, I.kept k, ⟨_, rfl⟩, q⟩
theorem call_bn (b : Bn) (hc : X.calm = true) (hg : X.A.guards = some []) (hu : X.A.units + 100 < cLine) : CallR X b.val (rBn X.K X.mg b) := by
  intro pins s σ H us ws Q I r h
  obtain ⟨M, A, S, vs, xs, z, R, hv, ex, e, q⟩ := h
  have q0 : ∀ u, Rp X.K H M z u → Q u H := fun u r => q H u Fm.refl R r
  unfold bltD at e
  split at e
  · obtain ⟨v, u, rfl, rfl, r1, e1⟩ := rds_one hv ex
    obtain ⟨a, ys, rfl, hs, rs, hz⟩ := R.rdL r1 e1
    cases e
    exact call_len pins s σ H _ ws Q I r ⟨_, _, rfl, .inl ⟨ys, hs, rs.length⟩, q0 _ (.int _)⟩
  · obtain ⟨v, u, rfl, rfl, r1, e1⟩ := rds_one hv ex
    obtain ⟨a, ys, rfl, hs, _, rs, hz⟩ := rdT r1 e1
    cases e
    exact call_len pins s σ H _ ws Q I r ⟨_, _, rfl, .inr ⟨ys, hs, rs.length⟩, q0 _ (.int _)⟩
  · obtain ⟨v, u, rfl, rfl, r1, e1⟩ := rds_one hv ex
    obtain rfl := rd_str r1 e1
    split at e
    · cases e
      exact call_len pins s σ H _ ws Q I r ⟨_, _, rfl, ⟨by rw [sz_eq]; assumption, rfl⟩, q0 _ (.int _)⟩
    · cases e
  · obtain ⟨v, u, rfl, rfl, r1, e1⟩ := rds_one hv ex
    obtain ⟨a, ys, rfl, hs, rs, hz⟩ := R.rdL r1 e1
    obtain ⟨ns, e2, rfl⟩ := Option.map_eq_some_iff.mp e
    have e3 := intsD_map e2
    subst e3
    rw [rs.ints] at hs
    exact cr_sum hc pins s σ H _ ws Q I r ⟨a, ns, rfl, hs, q0 _ (.int _)⟩
  · obtain ⟨v, u, rfl, rfl, r1, e1⟩ := rds_one hv ex
    obtain ⟨a, ys, rfl, hs, rs, hz⟩ := R.rdL r1 e1
    obtain ⟨ns, e2, rfl⟩ := Option.map_eq_some_iff.mp e
    have e3 := boolsD_map e2
    subst e3
    rw [rs.bools] at hs
    exact cr_all hc pins s σ H _ ws Q I r ⟨a, ns, rfl, hs, q0 _ (.bl _)⟩
  · obtain ⟨v, u, rfl, rfl, r1, e1⟩ := rds_one hv ex
    obtain ⟨a, ys, rfl, hs, rs, hz⟩ := R.rdL r1 e1
    obtain ⟨ns, e2, rfl⟩ := Option.map_eq_some_iff.mp e
    have e3 := boolsD_map e2
    subst e3
    rw [rs.bools] at hs
    exact cr_any hc pins s σ H _ ws Q I r ⟨a, ns, rfl, hs, q0 _ (.bl _)⟩
  · obtain ⟨v, w, u, y, rfl, rfl, r1, r2, e1, e2⟩ := rds_two hv ex
    obtain rfl := rd_int r1 e1
    obtain rfl := rd_int r2 e2
    cases e
    exact call_max2 hc pins s σ H _ ws Q I r ⟨_, _, rfl, q0 _ (.int _)⟩
  · obtain ⟨v, w, u, y, rfl, rfl, r1, r2, e1, e2⟩ := rds_two hv ex
    obtain rfl := rd_int r1 e1
    obtain rfl := rd_int r2 e2
    cases e
    exact call_min2 hc pins s σ H _ ws Q I r ⟨_, _, rfl, q0 _ (.int _)⟩
  · obtain ⟨v, u, rfl, rfl, r1, e1⟩ := rds_one hv ex
    obtain ⟨a, ys, rfl, hs, rs, hz⟩ := R.rdL r1 e1
    split at e
    · rename_i n ns e2
      have e3 := intsD_map e2
      subst e3
      rw [rs.ints] at hs
      cases e
      refine cr_max hc pins s σ H _ ws Q I r ⟨a, n :: ns, rfl, hs, by simp, fun m h1 h2 => ?_⟩
      obtain ⟨g1, g2⟩ := maxI_spec n ns
      have : m = maxI n ns := Int.le_antisymm (g2 m h1) (h2 _ g1)
      rw [this]; exact q0 _ (.int _)
    · cases e
  · obtain ⟨v, u, rfl, rfl, r1, e1⟩ := rds_one hv ex
    obtain ⟨a, ys, rfl, hs, rs, hz⟩ := R.rdL r1 e1
    split at e
    · rename_i n ns e2
      have e3 := intsD_map e2
      subst e3
      rw [rs.ints] at hs
      cases e
      refine cr_min hc pins s σ H _ ws Q I r ⟨a, n :: ns, rfl, hs, by simp, fun m h1 h2 => ?_⟩
      obtain ⟨g1, g2⟩ := minI_spec n ns
      have : m = minI n ns := Int.le_antisymm (h2 _ g1) (g2 m h1)
      rw [this]; exact q0 _ (.int _)
    · cases e
  · obtain ⟨v, u, rfl, rfl, r1, e1⟩ := rds_one hv ex
    obtain ⟨a, ys, rfl, hs, _, rs, hz⟩ := rdT r1 e1
    split at e
    · rename_i n ns e2
      have e3 := intsD_map e2
      subst e3
      rw [rs.ints] at hs
      cases e
      refine cr_maxT hc pins s σ H _ ws Q I r ⟨a, n :: ns, rfl, hs, by simp, fun m h1 h2 => ?_⟩
      obtain ⟨g1, g2⟩ := maxI_spec n ns
      have : m = maxI n ns := Int.le_antisymm (g2 m h1) (h2 _ g1)
      rw [this]; exact q0 _ (.int _)
    · cases e
  · obtain ⟨v, u, rfl, rfl, r1, e1⟩ := rds_one hv ex
    obtain rfl := rd_int r1 e1
    cases e
    exact call_int1 pins s σ H _ ws Q I r (.inl ⟨_, rfl, q0 _ (.int _)⟩)
  · obtain ⟨v, u, rfl, rfl, r1, e1⟩ := rds_one hv ex
    obtain rfl := rd_bl r1 e1
    cases e
    exact call_int1 pins s σ H _ ws Q I r (.inr ⟨_, rfl, q0 _ (.int _)⟩)
  · obtain ⟨v, u, rfl, rfl, r1, e1⟩ := rds_one hv ex
    obtain rfl := rd_int r1 e1
    split at e
    · cases e
      exact call_str_int pins s σ H _ ws Q I r ⟨_, rfl, by assumption, q0 _ (.str _)⟩
    · cases e
  · obtain ⟨v, u, rfl, rfl, r1, e1⟩ := rds_one hv ex
    have dp := R.dp r1 e1
    have fin : ∀ (d : PD) (a : Addr), u = .ref a → Dp X.K H u d → (if d.showable && !d.hasDict && decide (d.depth ≤ 64) && decide (d.shown.length ≤ SZ) then some (PyData.str d.shown) else none) = some z →
        wpAny (model X.prog X.w) X.A (call (Bn.repr_).val ws) (EP X pins σ Q) X.xe s := fun d a eu dq eq => by
      subst eu
      split at eq
      · rename_i hh
        obtain ⟨h1, h2⟩ := ba hh
        obtain ⟨h3, h4⟩ := ba h1
        obtain ⟨h5, h6⟩ := ba h3
        cases eq
        exact call_reprD hg hu pins s σ H _ ws Q I r ⟨a, d, rfl, dq, h5, by simpa using h6, of_decide_eq_true h4, of_decide_eq_true h2, q0 _ (.str _)⟩
      · cases eq
    split at e
    · obtain ⟨a, ys, rfl, _⟩ := R.rdL r1 e1
      exact fin _ a rfl dp e
    · obtain ⟨a, ys, rfl, _⟩ := rdT r1 e1
      exact fin _ a rfl dp e
    · cases e
  · obtain ⟨v, u, rfl, rfl, r1, e1⟩ := rds_one hv ex
    obtain ⟨a, ys, rfl, hs, rs, hz⟩ := R.rdL r1 e1
    cases e
    refine call_tuple_of pins s σ H _ ws Q I r ⟨a, ys, rfl, .inl ⟨hs, fun p hp => ?_⟩⟩
    exact q _ _ (Fm.new hp) (R.new hp) (.tup (.of upd_same (R.nM hp) hz) (rs.stay (stay_new hp)))
  · obtain ⟨v, u, rfl, rfl, r1, e1⟩ := rds_one hv ex
    obtain ⟨a, ys, rfl, hs, f1, rs, hz⟩ := rdT r1 e1
    cases e
    exact call_tuple_of pins s σ H _ ws Q I r ⟨a, ys, rfl, .inr ⟨hs, q0 _ (.tup f1 rs)⟩⟩
  · obtain ⟨v, u, rfl, rfl, r1, e1⟩ := rds_one hv ex
    obtain ⟨a, ys, rfl, hs, rs, hz⟩ := R.rdL r1 e1
    cases e
    refine call_list_of pins s σ H _ ws Q I r ⟨a, ys, rfl, .inl hs, fun p hp => ?_⟩
    exact q _ _ (Fm.new hp) (R.new hp) (.lst (.of upd_same (R.nM hp) hz) (rs.stay (stay_new hp)))
  · obtain ⟨v, u, rfl, rfl, r1, e1⟩ := rds_one hv ex
    obtain ⟨a, ys, rfl, hs, f1, rs, hz⟩ := rdT r1 e1
    cases e
    refine call_list_of pins s σ H _ ws Q I r ⟨a, ys, rfl, .inr hs, fun p hp => ?_⟩
    exact q _ _ (Fm.new hp) (R.new hp) (.lst (.of upd_same (R.nM hp) hz) (rs.stay (stay_new hp)))
  · obtain ⟨v, u, rfl, rfl, r1, e1⟩ := rds_one hv ex
    obtain ⟨a, ys, rfl, hs, rs, hz⟩ := R.rdL r1 e1
    split at e
    · rename_i ns e2
      have e3 := intsD_map e2
      subst e3
      rw [rs.ints] at hs
      split at e
      · rename_i h64
        cases e
        refine cr_sorted pins s σ H _ ws Q I r ⟨a, ns, rfl, hs, h64, fun ns' p hp hs' hn => ?_⟩
        have : ns' = sortI ns := sort_same (hp.trans (sortI_perm ns).symm) hs' (sortI_sorted ns)
        subst this
        refine q _ _ (Fm.new hn) (R.new hn) (.lst (.of upd_same (R.nM hn) ?_) (Rps.of_ints _))
        rw [List.length_map, hp.length_eq]
        show ns.length ≤ 16777216
        omega
      · cases e
    · cases e
  · cases e
/-- a new list that may be changed -/
def rListM (K : PySem.W.Frag) (mg : Str → Option Value) : List V → Hp → VK → Prop := fun us H Q => ∃ M A S vs xs ds, Rel K H M A S ∧ Vs K mg H M A vs us ∧ rds S vs = some xs ∧ bltD .list_ xs = some (.list ds) ∧
  ∀ p ys, H p = none → Rps K H M ds ys → ys.length ≤ SZ → Q (.ref p) (upd H p (.lst ys))
theorem listD_cases {xs : List PD} {ds : List PD} (e : bltD .list_ xs = some (.list ds)) : xs = [.list ds] ∨ xs = [.tuple ds] := by
  cases xs with
  | nil => cases e
  | cons x r =>
    cases r with
    | cons y t => cases x <;> cases e
    | nil =>
      cases x with
      | list d => cases e; exact .inl rfl
      | tuple d => cases e; exact .inr rfl
      | _ => cases e
theorem call_listM : CallR X (.type "list") (rListM X.K X.mg) := by
  intro pins s σ H us ws Q I r h
  obtain ⟨M, A, S, vs, xs, ds, R, hv, ex, e, q⟩ := h
  rcases listD_cases e with rfl | rfl
  · obtain ⟨v, u, rfl, rfl, r1, e1⟩ := rds_one hv ex
    obtain ⟨a, ys, rfl, hs, rs, hz⟩ := R.rdL r1 e1
    exact call_list_of pins s σ H _ ws Q I r ⟨a, ys, rfl, .inl hs, fun p hp => q p ys hp rs hz⟩
  · obtain ⟨v, u, rfl, rfl, r1, e1⟩ := rds_one hv ex
    obtain ⟨a, ys, rfl, hs, f1, rs, hz⟩ := rdT r1 e1
    exact call_list_of pins s σ H _ ws Q I r ⟨a, ys, rfl, .inr hs, fun p hp => q p ys hp rs hz⟩
end
end KA
/-! KAExpr: an expression's evaluation is the text's. -/
namespace KA
open PySem PySem.Spec PyProof.Rows L2

section
variable {K : PySem.W.Frag} {mg : Str → Option Value} {W : XK} {H : Hp} {M : Addr → Prop} {A : List Addr} {S : Sto} {α β γ : Type}
theorem op1_post {f : PD → Option β} {v : VV} {g : β → Sto → R γ} {Q : γ → Hp → (Addr → Prop) → List Addr → Sto → Prop} (h : post K mg W H M A S ((op1 f S v).bind g) Q) : ∃ a z, rd S v = some a ∧ f a = some z ∧ post K mg W H M A S (g z S) Q := by
  unfold op1 at h
  cases e : rd S v with
  | none => rw [e] at h; exact h.elim
  | some a =>
    rw [e] at h
    obtain ⟨z, e2, h⟩ := post.opt h
    exact ⟨a, z, rfl, e2, h⟩
theorem op2_post {f : PD → PD → Option β} {v w : VV} {g : β → Sto → R γ} {Q : γ → Hp → (Addr → Prop) → List Addr → Sto → Prop} (h : post K mg W H M A S ((op2 f S v w).bind g) Q) :
    ∃ a b z, rd S v = some a ∧ rd S w = some b ∧ f a b = some z ∧ post K mg W H M A S (g z S) Q := by
  unfold op2 at h
  cases e : rd S v with
  | none => rw [e] at h; exact h.elim
  | some a =>
    cases e2 : rd S w with
    | none => rw [e, e2] at h; exact h.elim
    | some b =>
      rw [e, e2] at h
      obtain ⟨z, e3, h⟩ := post.opt h
      exact ⟨a, b, z, rfl, rfl, e3, h⟩
theorem esc_post {v : VV} {u : V} {g : PD → Sto → R γ} {Q : γ → Hp → (Addr → Prop) → List Addr → Sto → Prop} (R : Rel K H M A S) (hv : Vr K mg H M A v u) (h : post K mg W H M A S ((esc S v).bind g) Q) :
    ∃ x S' M', Rel K H M' A S' ∧ Fm H M A S H M' A S' ∧ Rp K H M' x u ∧ post K mg W H M' A S' (g x S') Q := by
  cases v with
  | d x => exact ⟨x, S, M, R, Fm.refl, hv, h⟩
  | ex e => exact False.elim (show False from h)
  | loc l =>
    obtain ⟨a, ea, rfl⟩ := hv
    have lt : l < S.length := by rw [← R.len]; exact (List.getElem?_eq_some_iff.mp ea).1
    unfold esc at h
    dsimp only at h
    rcases sto_cases lt with ⟨ds, q⟩ | ⟨ds, q⟩
    · rw [q] at h
      obtain ⟨R', f', rp⟩ := R.still q ea
      exact ⟨_, _, _, R', f', rp, post.from (K := K) h f'⟩
    · rw [q] at h
      exact ⟨_, S, M, R, Fm.refl, (R.frz l ds a q ea).1, h⟩
theorem post.ok {a : α} {Q : α → Hp → (Addr → Prop) → List Addr → Sto → Prop} (R : Rel K H M A S) (h : post K mg W H M A S (.ok a S) Q) : Q a H M A S := h H M A Fm.refl R
theorem newM_post {m : Bool} {ds : List PD} {xs : List V} {p : Addr} {Q : VK} (R : Rel K H M A S) (hp : H p = none) (rs : Rps K H M ds xs) (z : xs.length ≤ SZ)
    (h : post K mg W H M A S (newM m (.list ds) S) fun v H' M' A' _ => ∀ u, Vr K mg H' M' A' v u → Q u H') : Q (.ref p) (upd H p (.lst xs)) := by
  cases m with
  | false => exact h _ _ _ (Fm.new hp) (R.new hp) _ (Rp.lst (.of upd_same (R.nM hp) z) (rs.stay (stay_new hp)))
  | true =>
    obtain ⟨R', f'⟩ := R.newM hp rs z
    exact h _ _ _ f' R' _ ⟨p, by rw [← R.len, List.getElem?_append_right (Nat.le_refl _)]; simp, rfl⟩
end

section
variable {D : Dom} {k : Nat}
theorem units_of {Γ : Cs} {X : Cx} (w : Wd D k Γ X) : X.A.units + 200 < cLine := by
  have := w.room.un
  omega
theorem se_var (i : Nat) : SE D k (.var i) := by
  intro X W Γ e w tk c
  cases e with
  | Name x pos =>
    obtain ⟨c1, c2⟩ := ba (show (decide (Γ.N[i]? = some x) && visB Γ.sc x && okN x) = true from c)
    obtain ⟨c3, c4⟩ := ba c1
    obtain ⟨o1, o2, _⟩ := ok_of c2
    refine (pe_var (i := i) (by rw [w.hN]; exact of_decide_eq_true c3) (by rw [w.scp]; exact vis_of c4) o1 o2).imp fun σ H Q ⟨M, A, S, σd, R, sr, p⟩ => ?_
    simp only [evE] at p
    split at p
    · rename_i v hv
      obtain ⟨u, hu, r⟩ := sr.at_ i v hv
      exact ⟨u, hu, post.ok R p u r⟩
    · exact p.elim
  | _ => exact absurd (show false = true from c) Bool.false_ne_true
theorem se_con (d : PD) : SE D k (.con d) := by
  intro X W Γ e w tk c
  cases e with
  | Constant v j pos =>
    cases v with
    | none =>
      cases d with
      | none => exact pe_non.imp fun σ H Q ⟨M, A, S, σd, R, sr, p⟩ => by simp only [evE] at p; exact post.ok R p _ Rp.non
      | _ => exact absurd (show false = true from c) Bool.false_ne_true
    | bool b =>
      cases d with
      | bool b' =>
        have e := of_decide_eq_true (show decide (b' = b) = true from c)
        subst e
        exact pe_bl.imp fun σ H Q ⟨M, A, S, σd, R, sr, p⟩ => by simp only [evE] at p; exact post.ok R p _ (Rp.bl _)
      | _ => exact absurd (show false = true from c) Bool.false_ne_true
    | int b =>
      cases d with
      | int b' =>
        have e := of_decide_eq_true (show decide (b' = b) = true from c)
        subst e
        exact pe_int.imp fun σ H Q ⟨M, A, S, σd, R, sr, p⟩ => by simp only [evE] at p; exact post.ok R p _ (Rp.int _)
      | _ => exact absurd (show false = true from c) Bool.false_ne_true
    | str b =>
      cases d with
      | str b' =>
        have e := of_decide_eq_true (show decide (b' = b) = true from c)
        subst e
        exact pe_str.imp fun σ H Q ⟨M, A, S, σd, R, sr, p⟩ => by simp only [evE] at p; exact post.ok R p _ (Rp.str _)
      | _ => exact absurd (show false = true from c) Bool.false_ne_true
    | _ => cases d <;> exact absurd (show false = true from c) Bool.false_ne_true
  | _ => cases d <;> exact absurd (show false = true from c) Bool.false_ne_true
theorem se_gcon (x : Str) (d : PD) : SE D k (.gcon x d) := by
  intro X W Γ e w tk c
  cases e with
  | Name y pos =>
    obtain ⟨c1, c2⟩ := ba (show (decide (x = y) && glB Γ.sc x && D.const x d) = true from c)
    obtain ⟨c3, c4⟩ := ba c1
    have e := of_decide_eq_true c3
    subst e
    obtain ⟨g1, g2, g3⟩ := gl_of w c4
    obtain ⟨u, v, hm, r, rp⟩ := w.con x d c2
    exact (pe_glob g1 hm r g2).imp fun σ H Q ⟨M, A, S, σd, R, sr, p⟩ => by simp only [evE] at p; exact post.ok R p _ (rp H M)
  | _ => exact absurd (show false = true from c) Bool.false_ne_true
theorem se_bin (op : Operator) {a b : CE} (ia : SE D k a) (ib : SE D k b) : SE D k (.bin op a b) := by
  intro X W Γ e w tk c
  cases e with
  | BinOp x o y pos =>
    obtain ⟨c1, c2⟩ := ba (show (decide (op = o) && chkE D Γ a x && chkE D Γ b y) = true from c)
    obtain ⟨c3, c4⟩ := ba c1
    have e := of_decide_eq_true c3
    subst e
    refine (pe_op (op_binD op) (ia X W Γ x w tk c4) (ib X W Γ y w tk c2)).imp fun σ H Q ⟨M, A, S, σd, R, sr, p⟩ => ?_
    simp only [evE] at p
    refine ⟨M, A, S, σd, R, sr, (post.bind p).imp fun v H1 M1 A1 S1 f1 R1 p1 u1 r1 => ?_⟩
    refine ⟨M1, A1, S1, σd, R1, sr.mono f1, (post.bind p1).imp fun v2 H2 M2 A2 S2 f2 R2 p2 u2 r2 => ?_⟩
    obtain ⟨a', b', z, ea, eb, e, p3⟩ := op2_post p2
    exact ⟨M2, A2, S2, v, v2, a', b', z, R2, r1.mono f2, r2, ea, eb, e, fun H' u f' R' rp => p3 H' M2 A2 f' R' u rp⟩
  | _ => exact absurd (show false = true from c) Bool.false_ne_true
theorem se_neg {a : CE} (ia : SE D k a) : SE D k (.neg a) := by
  intro X W Γ e w tk c
  cases e with
  | UnaryOp o x pos =>
    cases o with
    | USub =>
      refine (pe_un un_negD (ia X W Γ x w tk c)).imp fun σ H Q ⟨M, A, S, σd, R, sr, p⟩ => ?_
      simp only [evE] at p
      refine ⟨M, A, S, σd, R, sr, (post.bind p).imp fun v H1 M1 A1 S1 f1 R1 p1 u1 r1 => ?_⟩
      obtain ⟨a', z, ea, e, p2⟩ := op1_post p1
      refine ⟨M1, A1, S1, v, a', z, R1, r1, ea, e, fun u ⟨i, ez, eu⟩ => ?_⟩
      subst ez eu
      exact post.ok R1 p2 _ (Rp.int i)
    | _ => exact absurd (show false = true from c) Bool.false_ne_true
  | _ => exact absurd (show false = true from c) Bool.false_ne_true
theorem boolD_eq {d : PD} {b : Bool} (h : boolD d = some b) : d = .bool b := by
  cases d with
  | bool c => cases h; rfl
  | _ => cases h
theorem se_bnot {a : CE} (ia : SE D k a) : SE D k (.bnot a) := by
  intro X W Γ e w tk c
  cases e with
  | UnaryOp o x pos =>
    cases o with
    | Not =>
      refine (pe_not (ia X W Γ x w tk c)).imp fun σ H Q ⟨M, A, S, σd, R, sr, p⟩ => ?_
      simp only [evE] at p
      refine ⟨M, A, S, σd, R, sr, (post.bind p).imp fun v H1 M1 A1 S1 f1 R1 p1 u1 r1 => ?_⟩
      obtain ⟨a', z, ea, e, p2⟩ := op1_post p1
      rw [boolD_eq e] at ea
      exact ⟨z, rd_bl r1 ea, post.ok R1 p2 _ (Rp.bl _)⟩
    | _ => exact absurd (show false = true from c) Bool.false_ne_true
  | _ => exact absurd (show false = true from c) Bool.false_ne_true
/-- and, or: values -/
def SAnd (D : Dom) (k : Nat) (cs : CEs) : Prop := ∀ (X : Cx) (W : WX) (Γ : Cs) (es : List Expr) (pos : Pos), Wd D k Γ X → Takes X W → chkEs D Γ cs es = true → PE X (.BoolOp .And es pos) (tV X.K X.mg W fun σ S => evAnd (evCall D.T k) (parOf D.T) σ cs S)
def SOr (D : Dom) (k : Nat) (cs : CEs) : Prop := ∀ (X : Cx) (W : WX) (Γ : Cs) (es : List Expr) (pos : Pos), Wd D k Γ X → Takes X W → chkEs D Γ cs es = true → PE X (.BoolOp .Or es pos) (tV X.K X.mg W fun σ S => evOr (evCall D.T k) (parOf D.T) σ cs S)
theorem _root_.L2.PE.bad {X : Cx} {e : Expr} {t : TE} (h : ∀ σ H Q, ¬ t σ H Q) : PE X e t := ⟨fun _ _ σ H Q _ q => (h σ H Q q).elim⟩
theorem chkEs_nil {Γ : Cs} {es : List Expr} (h : chkEs D Γ .nil es = true) : es = [] := by
  cases es with
  | nil => rfl
  | cons a b => simp [chkEs] at h
theorem chkEs_more {Γ : Cs} {a : CE} {as : CEs} {es : List Expr} (h : chkEs D Γ (.cons a as) es = true) : ∃ e r, es = e :: r := by
  cases es with
  | nil => simp [chkEs] at h
  | cons a b => exact ⟨a, b, rfl⟩
theorem sand_nil : SAnd D k .nil := fun X W Γ es pos w tk c => .bad fun σ H Q ⟨M, A, S, σd, R, sr, p⟩ => by
  simp only [evAnd] at p
  exact p
theorem sor_nil : SOr D k .nil := fun X W Γ es pos w tk c => .bad fun σ H Q ⟨M, A, S, σd, R, sr, p⟩ => by
  simp only [evOr] at p
  exact p
theorem sand_cons {a : CE} {as : CEs} (ia : SE D k a) (is : SAnd D k as) : SAnd D k (.cons a as) := by
  intro X W Γ es pos w tk c
  obtain ⟨e, r, rfl⟩ := chkEs_more c
  obtain ⟨c1, c2, c3⟩ := chkEs_cons c
  cases as with
  | nil =>
    rw [chkEs_nil c3]
    refine (pe_one (ia X W Γ e w tk c1)).imp fun σ H Q ⟨M, A, S, σd, R, sr, p⟩ => ?_
    simp only [evAnd] at p
    exact ⟨M, A, S, σd, R, sr, p⟩
  | cons b bs =>
    obtain ⟨e2, r2, rfl⟩ := chkEs_more c3
    refine (pe_and (ia X W Γ e w tk c1) (is X W Γ _ pos w tk c3)).imp fun σ H Q ⟨M, A, S, σd, R, sr, p⟩ => ?_
    simp only [evAnd] at p
    refine ⟨M, A, S, σd, R, sr, (post.bind p).imp fun v H1 M1 A1 S1 f1 R1 p1 u1 r1 => ?_⟩
    obtain ⟨a', z, ea, e, p2⟩ := op1_post p1
    rw [boolD_eq e] at ea
    refine ⟨z, rd_bl r1 ea, ?_⟩
    cases z with
    | true =>
      rw [if_pos rfl] at p2 ⊢
      exact ⟨M1, A1, S1, σd, R1, sr.mono f1, p2⟩
    | false =>
      rw [if_neg Bool.false_ne_true] at p2 ⊢
      exact post.ok R1 p2 _ (Rp.bl _)
theorem sor_cons {a : CE} {as : CEs} (ia : SE D k a) (is : SOr D k as) : SOr D k (.cons a as) := by
  intro X W Γ es pos w tk c
  obtain ⟨e, r, rfl⟩ := chkEs_more c
  obtain ⟨c1, c2, c3⟩ := chkEs_cons c
  cases as with
  | nil =>
    rw [chkEs_nil c3]
    refine (pe_one (ia X W Γ e w tk c1)).imp fun σ H Q ⟨M, A, S, σd, R, sr, p⟩ => ?_
    simp only [evOr] at p
    exact ⟨M, A, S, σd, R, sr, p⟩
  | cons b bs =>
    obtain ⟨e2, r2, rfl⟩ := chkEs_more c3
    refine (pe_or (ia X W Γ e w tk c1) (is X W Γ _ pos w tk c3)).imp fun σ H Q ⟨M, A, S, σd, R, sr, p⟩ => ?_
    simp only [evOr] at p
    refine ⟨M, A, S, σd, R, sr, (post.bind p).imp fun v H1 M1 A1 S1 f1 R1 p1 u1 r1 => ?_⟩
    obtain ⟨a', z, ea, e, p2⟩ := op1_post p1
    rw [boolD_eq e] at ea
    refine ⟨z, rd_bl r1 ea, ?_⟩
    cases z with
    | true =>
      rw [if_pos rfl] at p2 ⊢
      exact post.ok R1 p2 _ (Rp.bl _)
    | false =>
      rw [if_neg Bool.false_ne_true] at p2 ⊢
      exact ⟨M1, A1, S1, σd, R1, sr.mono f1, p2⟩
theorem se_band {as : CEs} (i : SAnd D k as) : SE D k (.band as) := by
  intro X W Γ e w tk c
  cases e with
  | BoolOp o xs pos =>
    cases o with
    | And =>
      refine (i X W Γ xs pos w tk c).imp fun σ H Q ⟨M, A, S, σd, R, sr, p⟩ => ?_
      simp only [evE] at p
      exact ⟨M, A, S, σd, R, sr, p⟩
    | _ => exact absurd (show false = true from c) Bool.false_ne_true
  | _ => exact absurd (show false = true from c) Bool.false_ne_true
theorem se_bor {as : CEs} (i : SOr D k as) : SE D k (.bor as) := by
  intro X W Γ e w tk c
  cases e with
  | BoolOp o xs pos =>
    cases o with
    | Or =>
      refine (i X W Γ xs pos w tk c).imp fun σ H Q ⟨M, A, S, σd, R, sr, p⟩ => ?_
      simp only [evE] at p
      exact ⟨M, A, S, σd, R, sr, p⟩
    | _ => exact absurd (show false = true from c) Bool.false_ne_true
  | _ => exact absurd (show false = true from c) Bool.false_ne_true
theorem se_ifx {t a b : CE} (it : ST D k t) (ia : SE D k a) (ib : SE D k b) : SE D k (.ifx t a b) := by
  intro X W Γ e w tk c
  cases e with
  | IfExp x y z pos =>
    obtain ⟨c1, c2⟩ := ba (show (chkE D Γ t x && chkE D Γ a y && chkE D Γ b z) = true from c)
    obtain ⟨c3, c4⟩ := ba c1
    refine (pe_ifExp (it X W Γ x w tk c3) (ia X W Γ y w tk c4) (ib X W Γ z w tk c2)).imp fun σ H Q ⟨M, A, S, σd, R, sr, p⟩ => ?_
    simp only [evE] at p
    refine ⟨M, A, S, σd, R, sr, (post.bind p).imp fun v H1 M1 A1 S1 f1 R1 p1 => ?_⟩
    cases v with
    | true =>
      rw [if_pos rfl] at p1 ⊢
      exact ⟨M1, A1, S1, σd, R1, sr.mono f1, p1⟩
    | false =>
      rw [if_neg Bool.false_ne_true] at p1 ⊢
      exact ⟨M1, A1, S1, σd, R1, sr.mono f1, p1⟩
  | _ => exact absurd (show false = true from c) Bool.false_ne_true
theorem marks {e : Expr} {op : CmpOp} (h : (!setB e) = true) : behindInMarks op e = false := by
  cases e <;> first | rfl | cases h
/-- a comparison's reading, before its truth is asked -/
theorem cmp_read {X : Cx} {W : WX} {op : CmpOp} {a b : CE} {σ : L2.St} {H : Hp} {M : Addr → Prop} {A : List Addr} {S : Sto} {σd : Sg} {Q : VK} (R : Rel X.K H M A S) (sr : Sr X.K X.mg H M A σd σ)
    (p : post X.K X.mg (fun c d H => W c d σ H) H M A S ((evE (evCall D.T k) (parOf D.T) σd a S).bind fun v S => (evE (evCall D.T k) (parOf D.T) σd b S).bind fun w S => (op2 (cmpD op) S v w).bind fun z S => KA.R.ok z S) fun z H' _ _ _ => Q (.bl z) H') :
    tOp (rC X.K X.mg (cmpD op)) (tV X.K X.mg W fun σ S => evE (evCall D.T k) (parOf D.T) σ a S) (tV X.K X.mg W fun σ S => evE (evCall D.T k) (parOf D.T) σ b S) σ H Q := by
  refine ⟨M, A, S, σd, R, sr, (post.bind p).imp fun v H1 M1 A1 S1 f1 R1 p1 u1 r1 => ?_⟩
  refine ⟨M1, A1, S1, σd, R1, sr.mono f1, (post.bind p1).imp fun v2 H2 M2 A2 S2 f2 R2 p2 u2 r2 => ?_⟩
  obtain ⟨a', b', z, ea, eb, e, p3⟩ := op2_post p2
  exact ⟨M2, A2, S2, v, v2, a', b', z, R2, r1.mono f2, r2, ea, eb, e, post.ok R2 p3⟩

theorem se_cmp (op : CmpOp) {a b : CE} (ia : SE D k a) (ib : SE D k b) : SE D k (.cmp op a b) := by
  intro X W Γ e w tk c
  cases e with
  | Compare x os ys pos =>
    match os, ys, c with
    | [o], [y], c =>
      obtain ⟨c1, c2⟩ := ba (show (decide (op = o) && chkE D Γ a x && chkE D Γ b y && !setB y) = true from c)
      obtain ⟨c3, c4⟩ := ba c1
      obtain ⟨c5, c6⟩ := ba c3
      have e := of_decide_eq_true c5
      subst e
      refine (pe_cmpR (op_cmpD op (by have := units_of w; omega)) (ia X W Γ x w tk c6) (ib X W Γ y w tk c4) (marks c2)).imp fun σ H Q ⟨M, A, S, σd, R, sr, p⟩ => ?_
      simp only [evE] at p
      refine ⟨M, A, S, σd, R, sr, (post.bind p).imp fun v H1 M1 A1 S1 f1 R1 p1 u1 r1 => ?_⟩
      refine ⟨M1, A1, S1, σd, R1, sr.mono f1, (post.bind p1).imp fun v2 H2 M2 A2 S2 f2 R2 p2 u2 r2 => ?_⟩
      obtain ⟨a', b', z, ea, eb, e, p3⟩ := op2_post p2
      exact ⟨M2, A2, S2, v, v2, a', b', z, R2, r1.mono f2, r2, ea, eb, e, post.ok R2 p3 _ (Rp.bl _)⟩
    | [], _, c => exact absurd (show false = true from c) Bool.false_ne_true
    | [o], [], c => exact absurd (show false = true from c) Bool.false_ne_true
    | [o], _ :: _ :: _, c => exact absurd (show false = true from c) Bool.false_ne_true
    | _ :: _ :: _, _, c => exact absurd (show false = true from c) Bool.false_ne_true
  | _ => exact absurd (show false = true from c) Bool.false_ne_true
theorem se_cmp2 (o1 o2 : CmpOp) {a b c0 : CE} (ia : SE D k a) (ib : SE D k b) (ic : SE D k c0) : SE D k (.cmp2 o1 o2 a b c0) := by
  intro X W Γ e w tk c
  cases e with
  | Compare x os ys pos =>
    match os, ys, c with
    | [o, o'], [y, z], c =>
      obtain ⟨c1, c2⟩ := ba (show (decide (o1 = o) && decide (o2 = o') && chkE D Γ a x && chkE D Γ b y && chkE D Γ c0 z && !setB y && !setB z) = true from c)
      obtain ⟨c3, c4⟩ := ba c1
      obtain ⟨c5, c6⟩ := ba c3
      obtain ⟨c7, c8⟩ := ba c5
      obtain ⟨c9, c10⟩ := ba c7
      obtain ⟨c11, c12⟩ := ba c9
      have e := of_decide_eq_true c11
      subst e
      have e := of_decide_eq_true c12
      subst e
      have hu : X.A.units + 65 < cLine := by have := units_of w; omega
      refine (pe_chain (op_cmpD o1 hu) (op_cmpD o2 hu) (ia X W Γ x w tk c10) (ib X W Γ y w tk c8) (ic X W Γ z w tk c6) (by show behindInMarks o2 z = false; exact marks c2)).imp fun σ H Q ⟨M, A, S, σd, R, sr, p⟩ => ?_
      simp only [evE] at p
      refine ⟨M, A, S, σd, R, sr, (post.bind p).imp fun v H1 M1 A1 S1 f1 R1 p1 u1 r1 => ?_⟩
      refine ⟨M1, A1, S1, σd, R1, sr.mono f1, (post.bind p1).imp fun v2 H2 M2 A2 S2 f2 R2 p2 u2 r2 => ?_⟩
      obtain ⟨a', b', q, ea, eb, e, p3⟩ := op2_post p2
      refine ⟨M2, A2, S2, v, v2, a', b', q, R2, r1.mono f2, r2, ea, eb, e, q, rfl, ?_⟩
      cases q with
      | true =>
        rw [if_pos rfl] at p3 ⊢
        refine ⟨M2, A2, S2, σd, R2, (sr.mono f1).mono f2, (post.bind p3).imp fun v3 H3 M3 A3 S3 f3 R3 p4 u3 r3 => ?_⟩
        obtain ⟨a2, b2, q2, ea2, eb2, e2, p5⟩ := op2_post p4
        exact ⟨M3, A3, S3, v2, v3, a2, b2, q2, R3, r2.mono f3, r3, ea2, eb2, e2, post.ok R3 p5 _ (Rp.bl _)⟩
      | false =>
        rw [if_neg Bool.false_ne_true] at p3 ⊢
        exact post.ok R2 p3 _ (Rp.bl _)
    | [], _, c => exact absurd (show false = true from c) Bool.false_ne_true
    | [_], [], c => exact absurd (show false = true from c) Bool.false_ne_true
    | [_], _ :: _, c => exact absurd (show false = true from c) Bool.false_ne_true
    | [_, _], [], c => exact absurd (show false = true from c) Bool.false_ne_true
    | [_, _], [_], c => exact absurd (show false = true from c) Bool.false_ne_true
    | [_, _], _ :: _ :: _ :: _, c => exact absurd (show false = true from c) Bool.false_ne_true
    | _ :: _ :: _ :: _, _, c => exact absurd (show false = true from c) Bool.false_ne_true
  | _ => exact absurd (show false = true from c) Bool.false_ne_true
/-- None or not -/
theorem non_iff {K : PySem.W.Frag} {mg : Str → Option Value} {H : Hp} {M : Addr → Prop} {A : List Addr} {v : VV} {u : V} (r : Vr K mg H M A v u) : decide (u = V.non) = isNonV v := by
  cases v with
  | d x =>
    have r' : Rp K H M x u := r
    cases r' <;> rfl
  | loc l =>
    obtain ⟨a, _, rfl⟩ := r
    rfl
  | ex e => obtain ⟨a, c, d, rfl, _⟩ := r; rfl
theorem isn_of {neg : Bool} {a : CE} {o : CmpOp} {x : Expr} {j : Nat} {p pos : Pos} {Γ : Cs} (c : chkE D Γ (.isn neg a) (.Compare x [o] [.Constant .none j p] pos) = true) : o = (if neg = true then .IsNot else .Is) ∧ chkE D Γ a x = true := by
  obtain ⟨c1, c2⟩ := ba (show (decide (o = if neg = true then .IsNot else .Is) && chkE D Γ a x) = true from c)
  exact ⟨of_decide_eq_true c1, c2⟩
theorem no {P : Prop} (h : false = true) : P := Bool.noConfusion h
theorem se_isn (neg : Bool) {a : CE} (ia : SE D k a) : SE D k (.isn neg a) := by
  intro X W Γ e w tk c
  cases e with
  | Compare x os ys pos =>
    cases os with
    | nil => exact no c
    | cons o os =>
      cases os with
      | cons _ _ => exact no c
      | nil =>
        cases ys with
        | nil => exact no c
        | cons y ys =>
          cases ys with
          | cons _ _ => cases y <;> first | exact no c | (rename_i v _ _; cases v <;> exact no c)
          | nil =>
            cases y with
            | Constant v j p =>
              cases v with
              | none =>
                obtain ⟨rfl, c2⟩ := isn_of c
                have fin : ∀ (σ : L2.St) (H : Hp) (Q : VK), tV X.K X.mg W (fun σ S => evE (evCall D.T k) (parOf D.T) σ (.isn neg a) S) σ H Q →
                    tV X.K X.mg W (fun σ S => evE (evCall D.T k) (parOf D.T) σ a S) σ H fun u H' => Q (.bl (decide (u = V.non) != neg)) H' := fun σ H Q ⟨M, A, S, σd, R, sr, p⟩ => by
                  simp only [evE] at p
                  refine ⟨M, A, S, σd, R, sr, (post.bind p).imp fun v H1 M1 A1 S1 f1 R1 p1 u1 r1 => ?_⟩
                  have q := post.ok R1 p1 (.bl _) (Rp.bl _)
                  show Q (V.bl (decide (u1 = V.non) != neg)) H1
                  rw [non_iff r1]
                  exact q
                cases neg with
                | true =>
                  refine (pe_cmp (pc_notN (ia X W Γ x w tk c2))).imp fun σ H Q t => ?_
                  have q := fin σ H Q t
                  simpa [tNotN] using q
                | false =>
                  refine (pe_cmp (pc_isN (ia X W Γ x w tk c2))).imp fun σ H Q t => ?_
                  have q := fin σ H Q t
                  simpa [tIsN] using q
              | _ => exact no c
            | _ => exact no c
  | _ => exact no c
end
end KA
/-! KAExpr2: tests, calls, built-in calls, subscripts, displays. -/
namespace KA
open PySem PySem.Spec PyProof.Rows L2
section
variable {D : Dom} {k : Nat}
/-! ### tests -/
/-- a test that is a value's truth -/
theorem st_value {cc : CE} (i : SE D k cc) (hp : ∀ (Γ : Cs) (e : Expr) (env : Env), chkE D Γ cc e = true → ∀ whole, isTrue e env whole = (do let v ← whole; standAt e.pos; holding [v] (truthy v)))
    (he : ∀ σ S, evT (evCall D.T k) (parOf D.T) σ cc S = (evE (evCall D.T k) (parOf D.T) σ cc S).bind fun v S => op1 truthD S v) : ST D k cc := by
  intro X W Γ e w tk c
  refine (pt_truth (i X W Γ e w tk c) (hp Γ e X.env c)).imp fun σ H Q ⟨M, A, S, σd, R, sr, p⟩ => ?_
  simp only [he] at p
  refine ⟨M, A, S, σd, R, sr, (post.bind p).imp fun v H1 M1 A1 S1 f1 R1 p1 u1 r1 => ?_⟩
  unfold op1 at p1
  cases e1 : rd S1 v with
  | none => rw [e1] at p1; exact p1.elim
  | some a =>
    rw [e1] at p1
    cases e2 : truthD a with
    | none => simp only [e2] at p1; exact p1.elim
    | some b =>
      simp only [e2] at p1
      exact ⟨b, tru_K R1 r1 e1 e2, post.ok R1 p1⟩
/-- a comparison as a test: its value is a bool -/
theorem st_bool {cc : CE} {X : Cx} {W : WX} {e : Expr} {t : TE} (h : PT X e (tTest t)) (hi : ∀ σ H Q, tV X.K X.mg W (fun σ S => evE (evCall D.T k) (parOf D.T) σ cc S) σ H Q → t σ H Q)
    (hb : ∀ σ S v S', evE (evCall D.T k) (parOf D.T) σ cc S = .ok v S' → ∃ b, v = .d (.bool b))
    (he : ∀ σ S, evT (evCall D.T k) (parOf D.T) σ cc S = (evE (evCall D.T k) (parOf D.T) σ cc S).bind fun v S => op1 truthD S v) :
    PT X e (tBo X.K X.mg W fun σ S => evT (evCall D.T k) (parOf D.T) σ cc S) := by
  refine h.imp fun σ H Q ⟨M, A, S, σd, R, sr, p⟩ => hi σ H _ ?_
  simp only [he] at p
  refine ⟨M, A, S, σd, R, sr, ?_⟩
  dsimp only
  have hq := hb σd S
  cases q : evE (evCall D.T k) (parOf D.T) σd cc S with
  | bad => rw [q] at p; exact p
  | exc e1 S1 => rw [q] at p; exact p
  | ok v S1 =>
    obtain ⟨b, rfl⟩ := hq v S1 q
    rw [q] at p
    intro H' M' A' f' R' u r
    have r' : Rp X.K H' M' (.bool b) u := r
    cases r'
    exact ⟨b, rfl, p H' M' A' f' R'⟩
theorem R.bind_eq {α β : Type} {r : R α} {f : α → Sto → R β} {b : β} {S' : Sto} (h : r.bind f = .ok b S') : ∃ a S1, r = .ok a S1 ∧ f a S1 = .ok b S' := by
  cases r with
  | ok a S1 => exact ⟨a, S1, rfl, h⟩
  | exc _ _ => cases h
  | bad => cases h
theorem st_cmp (op : CmpOp) {a b : CE} (ia : SE D k a) (ib : SE D k b) : ST D k (.cmp op a b) := by
  intro X W Γ e w tk c
  cases e with
  | Compare x os ys pos =>
    match os, ys, c with
    | [o], [y], c =>
      obtain ⟨c1, c2⟩ := ba (show (decide (op = o) && chkE D Γ a x && chkE D Γ b y && !setB y) = true from c)
      obtain ⟨c3, c4⟩ := ba c1
      obtain ⟨c5, c6⟩ := ba c3
      have e := of_decide_eq_true c5
      subst e
      refine st_bool (cc := .cmp op a b) (pt_cmpR (op_cmpD op (by have := units_of w; omega)) (ia X W Γ x w tk c6) (ib X W Γ y w tk c4) (marks c2)) (fun σ H Q ⟨M, A, S, σd, R, sr, p⟩ => ?_) (fun σ S v S' h => ?_) (fun σ S => by simp only [evT])
      · simp only [evE] at p
        refine ⟨M, A, S, σd, R, sr, (post.bind p).imp fun v H1 M1 A1 S1 f1 R1 p1 u1 r1 => ?_⟩
        refine ⟨M1, A1, S1, σd, R1, sr.mono f1, (post.bind p1).imp fun v2 H2 M2 A2 S2 f2 R2 p2 u2 r2 => ?_⟩
        obtain ⟨a', b', z, ea, eb, e, p3⟩ := op2_post p2
        exact ⟨M2, A2, S2, v, v2, a', b', z, R2, r1.mono f2, r2, ea, eb, e, post.ok R2 p3 _ (Rp.bl _)⟩
      · simp only [evE] at h
        obtain ⟨_, _, _, h⟩ := R.bind_eq h
        obtain ⟨_, _, _, h⟩ := R.bind_eq h
        obtain ⟨z, _, _, h⟩ := R.bind_eq h
        cases h
        exact ⟨z, rfl⟩
    | [], _, c => exact absurd (show false = true from c) Bool.false_ne_true
    | [o], [], c => exact absurd (show false = true from c) Bool.false_ne_true
    | [o], _ :: _ :: _, c => exact absurd (show false = true from c) Bool.false_ne_true
    | _ :: _ :: _, _, c => exact absurd (show false = true from c) Bool.false_ne_true
  | _ => exact absurd (show false = true from c) Bool.false_ne_true
theorem st_cmp2 (o1 o2 : CmpOp) {a b c0 : CE} (ia : SE D k a) (ib : SE D k b) (ic : SE D k c0) : ST D k (.cmp2 o1 o2 a b c0) := by
  intro X W Γ e w tk c
  cases e with
  | Compare x os ys pos =>
    match os, ys, c with
    | [o, o'], [y, z], c =>
      obtain ⟨c1, c2⟩ := ba (show (decide (o1 = o) && decide (o2 = o') && chkE D Γ a x && chkE D Γ b y && chkE D Γ c0 z && !setB y && !setB z) = true from c)
      obtain ⟨c3, c4⟩ := ba c1
      obtain ⟨c5, c6⟩ := ba c3
      obtain ⟨c7, c8⟩ := ba c5
      obtain ⟨c9, c10⟩ := ba c7
      obtain ⟨c11, c12⟩ := ba c9
      have e := of_decide_eq_true c11
      subst e
      have e := of_decide_eq_true c12
      subst e
      have hu : X.A.units + 65 < cLine := by have := units_of w; omega
      refine st_bool (cc := .cmp2 o1 o2 a b c0) (pt_chain (op_cmpD o1 hu) (op_cmpD o2 hu) (ia X W Γ x w tk c10) (ib X W Γ y w tk c8) (ic X W Γ z w tk c6) (by show behindInMarks o2 z = false; exact marks c2)) (fun σ H Q ⟨M, A, S, σd, R, sr, p⟩ => ?_) (fun σ S v S' h => ?_) (fun σ S => by simp only [evT])
      · simp only [evE] at p
        refine ⟨M, A, S, σd, R, sr, (post.bind p).imp fun v H1 M1 A1 S1 f1 R1 p1 u1 r1 => ?_⟩
        refine ⟨M1, A1, S1, σd, R1, sr.mono f1, (post.bind p1).imp fun v2 H2 M2 A2 S2 f2 R2 p2 u2 r2 => ?_⟩
        obtain ⟨a', b', q, ea, eb, e, p3⟩ := op2_post p2
        refine ⟨M2, A2, S2, v, v2, a', b', q, R2, r1.mono f2, r2, ea, eb, e, q, rfl, ?_⟩
        cases q with
        | true =>
          rw [if_pos rfl] at p3 ⊢
          refine ⟨M2, A2, S2, σd, R2, (sr.mono f1).mono f2, (post.bind p3).imp fun v3 H3 M3 A3 S3 f3 R3 p4 u3 r3 => ?_⟩
          obtain ⟨a2, b2, q2, ea2, eb2, e2, p5⟩ := op2_post p4
          exact ⟨M3, A3, S3, v2, v3, a2, b2, q2, R3, r2.mono f3, r3, ea2, eb2, e2, post.ok R3 p5 _ (Rp.bl _)⟩
        | false =>
          rw [if_neg Bool.false_ne_true] at p3 ⊢
          exact post.ok R2 p3 _ (Rp.bl _)
      · simp only [evE] at h
        obtain ⟨_, _, _, h⟩ := R.bind_eq h
        obtain ⟨_, _, _, h⟩ := R.bind_eq h
        obtain ⟨z, _, _, h⟩ := R.bind_eq h
        split at h
        · obtain ⟨_, _, _, h⟩ := R.bind_eq h
          obtain ⟨z2, _, _, h⟩ := R.bind_eq h
          cases h
          exact ⟨_, rfl⟩
        · cases h
          exact ⟨_, rfl⟩
    | [], _, c => exact absurd (show false = true from c) Bool.false_ne_true
    | [_], [], c => exact absurd (show false = true from c) Bool.false_ne_true
    | [_], _ :: _, c => exact absurd (show false = true from c) Bool.false_ne_true
    | [_, _], [], c => exact absurd (show false = true from c) Bool.false_ne_true
    | [_, _], [_], c => exact absurd (show false = true from c) Bool.false_ne_true
    | [_, _], _ :: _ :: _ :: _, c => exact absurd (show false = true from c) Bool.false_ne_true
    | _ :: _ :: _ :: _, _, c => exact absurd (show false = true from c) Bool.false_ne_true
  | _ => exact absurd (show false = true from c) Bool.false_ne_true
theorem st_isn (neg : Bool) {a : CE} (ia : SE D k a) : ST D k (.isn neg a) := by
  intro X W Γ e w tk c
  cases e with
  | Compare x os ys pos =>
    cases os with
    | nil => exact no c
    | cons o os =>
      cases os with
      | cons _ _ => exact no c
      | nil =>
        cases ys with
        | nil => exact no c
        | cons y ys =>
          cases ys with
          | cons _ _ => cases y <;> first | exact no c | (rename_i v _ _; cases v <;> exact no c)
          | nil =>
            cases y with
            | Constant v j p =>
              cases v with
              | none =>
                obtain ⟨rfl, c2⟩ := isn_of c
                have fin : ∀ (σ : L2.St) (H : Hp) (Q : VK), tV X.K X.mg W (fun σ S => evE (evCall D.T k) (parOf D.T) σ (.isn neg a) S) σ H Q →
                    tV X.K X.mg W (fun σ S => evE (evCall D.T k) (parOf D.T) σ a S) σ H fun u H' => Q (.bl (decide (u = V.non) != neg)) H' := fun σ H Q ⟨M, A, S, σd, R, sr, p⟩ => by
                  simp only [evE] at p
                  refine ⟨M, A, S, σd, R, sr, (post.bind p).imp fun v H1 M1 A1 S1 f1 R1 p1 u1 r1 => ?_⟩
                  have q := post.ok R1 p1 (.bl _) (Rp.bl _)
                  show Q (V.bl (decide (u1 = V.non) != neg)) H1
                  rw [non_iff r1]
                  exact q
                have hb : ∀ σ S v S', evE (evCall D.T k) (parOf D.T) σ (.isn neg a) S = .ok v S' → ∃ b, v = .d (.bool b) := fun σ S v S' h => by
                  simp only [evE] at h
                  obtain ⟨_, _, _, h⟩ := R.bind_eq h
                  cases h
                  exact ⟨_, rfl⟩
                cases neg with
                | true =>
                  refine st_bool (cc := .isn true a) (t := tNotN (tV X.K X.mg W fun σ S => evE (evCall D.T k) (parOf D.T) σ a S)) (pt_cmp (pc_notN (ia X W Γ x w tk c2))) (fun σ H Q t => ?_) hb (fun σ S => by simp only [evT])
                  have q := fin σ H Q t
                  simpa [tNotN] using q
                | false =>
                  refine st_bool (cc := .isn false a) (t := tIsN (tV X.K X.mg W fun σ S => evE (evCall D.T k) (parOf D.T) σ a S)) (pt_cmp (pc_isN (ia X W Γ x w tk c2))) (fun σ H Q t => ?_) hb (fun σ S => by simp only [evT])
                  have q := fin σ H Q t
                  simpa [tIsN] using q
              | _ => exact no c
            | _ => exact no c
  | _ => exact no c
theorem st_bnot {a : CE} (ia : ST D k a) : ST D k (.bnot a) := by
  intro X W Γ e w tk c
  cases e with
  | UnaryOp o x pos =>
    cases o with
    | Not =>
      refine (pt_not (ia X W Γ x w tk c)).imp fun σ H Q ⟨M, A, S, σd, R, sr, p⟩ => ?_
      simp only [evT] at p
      exact ⟨M, A, S, σd, R, sr, (post.bind p).imp fun b H1 M1 A1 S1 f1 R1 p1 => post.ok R1 p1⟩
    | _ => exact absurd (show false = true from c) Bool.false_ne_true
  | _ => exact absurd (show false = true from c) Bool.false_ne_true
def STAnd (D : Dom) (k : Nat) (cs : CEs) : Prop := ∀ (X : Cx) (W : WX) (Γ : Cs) (es : List Expr) (pos : Pos), Wd D k Γ X → Takes X W → chkEs D Γ cs es = true → PW X (.BoolOp .And es pos) (tBo X.K X.mg W fun σ S => evTAnd (evCall D.T k) (parOf D.T) σ cs S)
def STOr (D : Dom) (k : Nat) (cs : CEs) : Prop := ∀ (X : Cx) (W : WX) (Γ : Cs) (es : List Expr) (pos : Pos), Wd D k Γ X → Takes X W → chkEs D Γ cs es = true → PW X (.BoolOp .Or es pos) (tBo X.K X.mg W fun σ S => evTOr (evCall D.T k) (parOf D.T) σ cs S)
theorem _root_.L2.PW.imp {X : Cx} {e : Expr} {t t' : TT} (h : PW X e t) (i : ∀ σ H Q, t' σ H Q → t σ H Q) : PW X e t' := ⟨fun wh pins s σ H Q I q => h.run wh pins s σ H Q I (i σ H Q q)⟩
theorem _root_.L2.PW.bad {X : Cx} {e : Expr} {t : TT} (h : ∀ σ H Q, ¬ t σ H Q) : PW X e t := ⟨fun _ _ _ σ H Q _ q => (h σ H Q q).elim⟩
theorem stand_nil : STAnd D k .nil := fun X W Γ es pos w tk c => .bad fun σ H Q ⟨M, A, S, σd, R, sr, p⟩ => by
  simp only [evTAnd] at p
  exact p
theorem stor_nil : STOr D k .nil := fun X W Γ es pos w tk c => .bad fun σ H Q ⟨M, A, S, σd, R, sr, p⟩ => by
  simp only [evTOr] at p
  exact p
theorem stand_cons {a : CE} {as : CEs} (ia : ST D k a) (is : STAnd D k as) : STAnd D k (.cons a as) := by
  intro X W Γ es pos w tk c
  obtain ⟨e, r, rfl⟩ := chkEs_more c
  obtain ⟨c1, c2, c3⟩ := chkEs_cons c
  cases as with
  | nil =>
    rw [chkEs_nil c3]
    refine (pw_and1 (ia X W Γ e w tk c1)).imp fun σ H Q ⟨M, A, S, σd, R, sr, p⟩ => ?_
    simp only [evTAnd] at p
    exact ⟨M, A, S, σd, R, sr, p⟩
  | cons b bs =>
    obtain ⟨e2, r2, rfl⟩ := chkEs_more c3
    refine (pw_and (ia X W Γ e w tk c1) (is X W Γ _ pos w tk c3)).imp fun σ H Q ⟨M, A, S, σd, R, sr, p⟩ => ?_
    simp only [evTAnd] at p
    refine ⟨M, A, S, σd, R, sr, (post.bind p).imp fun z H1 M1 A1 S1 f1 R1 p2 => ?_⟩
    cases z with
    | true =>
      rw [if_pos rfl] at p2 ⊢
      exact ⟨M1, A1, S1, σd, R1, sr.mono f1, p2⟩
    | false =>
      rw [if_neg Bool.false_ne_true] at p2 ⊢
      exact post.ok R1 p2
theorem stor_cons {a : CE} {as : CEs} (ia : ST D k a) (is : STOr D k as) : STOr D k (.cons a as) := by
  intro X W Γ es pos w tk c
  obtain ⟨e, r, rfl⟩ := chkEs_more c
  obtain ⟨c1, c2, c3⟩ := chkEs_cons c
  cases as with
  | nil =>
    rw [chkEs_nil c3]
    refine (pw_or1 (ia X W Γ e w tk c1)).imp fun σ H Q ⟨M, A, S, σd, R, sr, p⟩ => ?_
    simp only [evTOr] at p
    exact ⟨M, A, S, σd, R, sr, p⟩
  | cons b bs =>
    obtain ⟨e2, r2, rfl⟩ := chkEs_more c3
    refine (pw_or (ia X W Γ e w tk c1) (is X W Γ _ pos w tk c3)).imp fun σ H Q ⟨M, A, S, σd, R, sr, p⟩ => ?_
    simp only [evTOr] at p
    refine ⟨M, A, S, σd, R, sr, (post.bind p).imp fun z H1 M1 A1 S1 f1 R1 p2 => ?_⟩
    cases z with
    | true =>
      rw [if_pos rfl] at p2 ⊢
      exact post.ok R1 p2
    | false =>
      rw [if_neg Bool.false_ne_true] at p2 ⊢
      exact ⟨M1, A1, S1, σd, R1, sr.mono f1, p2⟩
theorem st_band {as : CEs} (i : STAnd D k as) : ST D k (.band as) := by
  intro X W Γ e w tk c
  cases e with
  | BoolOp o xs pos =>
    cases o with
    | And =>
      refine ((i X W Γ xs pos w tk c).pt).imp fun σ H Q ⟨M, A, S, σd, R, sr, p⟩ => ?_
      simp only [evT] at p
      exact ⟨M, A, S, σd, R, sr, p⟩
    | _ => exact absurd (show false = true from c) Bool.false_ne_true
  | _ => exact absurd (show false = true from c) Bool.false_ne_true
theorem st_bor {as : CEs} (i : STOr D k as) : ST D k (.bor as) := by
  intro X W Γ e w tk c
  cases e with
  | BoolOp o xs pos =>
    cases o with
    | Or =>
      refine ((i X W Γ xs pos w tk c).pt).imp fun σ H Q ⟨M, A, S, σd, R, sr, p⟩ => ?_
      simp only [evT] at p
      exact ⟨M, A, S, σd, R, sr, p⟩
    | _ => exact absurd (show false = true from c) Bool.false_ne_true
  | _ => exact absurd (show false = true from c) Bool.false_ne_true
theorem st_ifx {a b c : CE} : ST D k (.ifx a b c) := fun X W Γ e w tk cc => ⟨fun pins s σ H Q I ⟨M, A, S, σd, R, sr, p⟩ => by
  simp only [evT] at p
  exact p.elim⟩
end
end KA
/-! KAExpr3: argument lists, calls, built-in calls, subscripts, displays. -/
namespace KA
open PySem PySem.Spec PyProof.Rows L2
section
variable {D : Dom} {k : Nat}
theorem _root_.L2.PA.bad {X : Cx} {es : List Expr} {t : TA} (h : ∀ σ H Q, ¬ t σ H Q) : PA X es t := ⟨fun _ _ _ σ H Q _ q => (h σ H Q q).elim⟩
theorem ses_nil : SEs D k .nil := fun X W Γ es w tk c => by
  rw [chkEs_nil c]
  refine pa_nil.imp fun σ H Q ⟨M, A, S, σd, R, sr, p⟩ => ?_
  simp only [evEs] at p
  exact post.ok R p _ .nil
theorem ses_cons {a : CE} {as : CEs} (ia : SE D k a) (is : SEs D k as) : SEs D k (.cons a as) := by
  intro X W Γ es w tk c
  obtain ⟨e, r, rfl⟩ := chkEs_more c
  obtain ⟨c1, c2, c3⟩ := chkEs_cons c
  refine (pa_cons (ia X W Γ e w tk c1) (is X W Γ r w tk c3) (star_cons c2)).imp fun σ H Q ⟨M, A, S, σd, R, sr, p⟩ => ?_
  simp only [evEs] at p
  refine ⟨M, A, S, σd, R, sr, (post.bind p).imp fun v H1 M1 A1 S1 f1 R1 p1 u1 r1 => ?_⟩
  refine ⟨M1, A1, S1, σd, R1, sr.mono f1, (post.bind p1).imp fun vs H2 M2 A2 S2 f2 R2 p2 us rs => ?_⟩
  exact post.ok R2 p2 _ (.cons (r1.mono f2) rs)
theorem sxs_nil : SXs D k .nil := fun X W Γ es w tk c => by
  rw [chkEs_nil c]
  refine pa_nil.imp fun σ H Q ⟨M, A, S, σd, R, sr, p⟩ => ?_
  simp only [evXs] at p
  exact post.ok R p _ .nil
theorem post.assoc {α β γ : Type} {K : PySem.W.Frag} {mg : Str → Option Value} {W : XK} {H : Hp} {M : Addr → Prop} {A : List Addr} {S : Sto} {r : R α} {f : α → Sto → R β} {g : β → Sto → R γ} {Q : γ → Hp → (Addr → Prop) → List Addr → Sto → Prop}
    (h : post K mg W H M A S ((r.bind f).bind g) Q) : post K mg W H M A S (r.bind fun a S => (f a S).bind g) Q := by
  cases r <;> exact h
theorem sxs_cons {a : CE} {as : CEs} (ia : SE D k a) (is : SXs D k as) : SXs D k (.cons a as) := by
  intro X W Γ es w tk c
  obtain ⟨e, r, rfl⟩ := chkEs_more c
  obtain ⟨c1, c2, c3⟩ := chkEs_cons c
  refine (pa_cons (ia X W Γ e w tk c1) (is X W Γ r w tk c3) (star_cons c2)).imp fun σ H Q ⟨M, A, S, σd, R, sr, p⟩ => ?_
  simp only [evXs] at p
  refine ⟨M, A, S, σd, R, sr, (post.bind (post.assoc p)).imp fun v H1 M1 A1 S1 f1 R1 p1 u1 r1 => ?_⟩
  obtain ⟨x, S2, M2, R2, f2, rp, p2⟩ := esc_post R1 r1 p1
  refine ⟨M2, A1, S2, σd, R2, (sr.mono f1).mono f2, (post.bind p2).imp fun vs H3 M3 A3 S3 f3 R3 p3 us rs => ?_⟩
  exact post.ok R3 p3 _ (.cons (rp.stay f3.st) rs)
/-! ### calls of defs -/
section
variable {X : Cx} {W : WX} {kk : Nat} {f : Addr} {fd : FuncData} {ps ks : List Str} {sp : Sp} {x : Str} {p pos : Pos} {e : Expr} {es : List Expr} {t : TA} {kws : List Keyword}
theorem run_fnG {pins : List (Addr × Obj)} {σ : L2.St} {H : Hp} {s : Shared} {Q : VK} {us : List Value} {vs : List V} {args : Args} (F : FnG X.prog X.w X.K X.mg X.base kk f fd ps sp) (hr : Room kk X.A) (hg : X.A.guards = some []) (tk : Takes X W)
    (I : Inv X pins σ H s) (hb : BindsTo s fd args (ps.zip us)) (r : Vals vs us) (h : sp vs H Q fun c d H => W c d σ H) : codeAny (model X.prog X.w) X.A (.call (.ref f) args) (fun r s' => match r with | .ok (.ret u) => EP X pins σ Q u s' | .ok _ => False | .error e => X.xe e s') s := by
  refine codeAny_mono (F.run X.A X.stack s H args us vs Q _ hr hg I.env0 hb r h) fun r s' hq => ?_
  cases r with
  | error e => exact passAt (W := W) tk σ pins H s e s' I hq
  | ok fl =>
    cases fl with
    | ret u => exact I.after hq
    | next => exact False.elim hq
    | brk => exact False.elim hq
    | cont => exact False.elim hq
theorem call_mono {pins : List (Addr × Obj)} {σ : L2.St} {Q : VK} {s : Shared} {args : Args} (h : codeAny (model X.prog X.w) X.A (.call (.ref f) args) (fun r s' => match r with | .ok (.ret u) => EP X pins σ Q u s' | .ok _ => False | .error e => X.xe e s') s) :
    wpAny (model X.prog X.w) X.A (call (.ref f) args.pos args.kw) (EP X pins σ Q) X.xe s := by
  refine wpAny_call (codeAny_mono h fun r s' hq => ?_)
  cases r with
  | error e => exact hq
  | ok fl =>
    cases fl with
    | ret u => exact hq
    | next => exact False.elim hq
    | brk => exact False.elim hq
    | cont => exact False.elim hq
/-- f(e, ..) -/
def tCallG (sp : Sp) (W : WX) (t : TA) : TE := fun σ H Q => t σ H fun vs H1 => sp vs H1 Q fun c d H => W c d σ H
theorem pe_callG (F : FnG X.prog X.w X.K X.mg X.base kk f fd ps sp) (hr : Room kk X.A) (hgd : X.A.guards = some []) (hg : Gl X x) (hm : X.mg x = some (.ref f)) (hk : PySem.W.keepIn X.K (.ref f) = true) (hb : Binds X.K fd ps []) (tk : Takes X W)
    (ha : PA X (e :: es) t) (hdb : (x == ("__debug__" : Str)) = false) (he : starEach (e :: es) X.env = (false, eval e X.env) :: starEach es X.env) (hpl : (backTo pos (starEach es X.env)).any (·.1) = false) :
    PE X (.Call (.Name x p) (e :: es) [] pos) (tCallG sp W t) := by
  refine ⟨fun pins s σ H Q I h => ?_⟩
  refine wpAny_Call_Name_kw (ld_glob I hg hm ?_ hdb)
  refine PySem.W.callWith_K (h₀ := X.base) I.ok.mod.kin hk (thn (ha.run pos pins s σ H _ I h) fun us s1 ⟨vs, H1, I1, r, q⟩ => ⟨I1.kIn, ?_⟩) he hpl
  have hl : us.length = ps.length := by rw [← r.length]; exact F.len _ _ _ _ q
  have b := hb s1 us I1.kIn (by rw [List.append_nil]; exact hl)
  rw [List.append_nil] at b
  exact call_mono (args := ⟨us, []⟩) (run_fnG F hr hgd tk I1 b r q)
end
theorem arity {T : Tab} {f : Nat} {d : FD} {kk : Nat} {vs : List VV} {S : Sto} {K : PySem.W.Frag} {mg : Str → Option Value} {W : XK} {H : Hp} {M : Addr → Prop} {A : List Addr} {Q : VV → Hp → (Addr → Prop) → List Addr → Sto → Prop} (hd : T f = some d)
    (h : post K mg W H M A S (evCall T kk f vs S) Q) : vs.length = d.np := by
  cases kk with
  | zero => exact h.elim
  | succ n =>
    unfold evCall at h
    rw [hd] at h
    dsimp only at h
    split at h
    · assumption
    · exact h.elim
theorem fnB_of {f : Nat} {x : Str} (h : D.fnB f x = true) : ∃ d, D.T f = some d ∧ D.nm f d = x := by
  unfold Dom.fnB at h
  split at h
  · exact ⟨_, by assumption, of_decide_eq_true h⟩
  · cases h
theorem se_call (f : Nat) {as : CEs} (is : SEs D k as) : SE D k (.call f as) := by
  intro X W Γ e w tk c
  cases e with
  | Call fn es kws pos =>
    cases fn with
    | Name x p =>
      cases es with
      | nil => cases kws <;> exact no c
      | cons e es =>
        cases kws with
        | cons _ _ => exact no c
        | nil =>
          obtain ⟨c1, c2⟩ := ba (show (D.fnB f x && glB Γ.sc x && chkEs D Γ as (e :: es)) = true from c)
          obtain ⟨c3, c4⟩ := ba c1
          obtain ⟨d, hd, rfl⟩ := fnB_of c3
          obtain ⟨g1, g2, g3⟩ := gl_of w c4
          obtain ⟨hnp, fa, fd, hm, hk, F, hb, _⟩ := w.fns f d hd
          cases as with
          | nil => exact no (by simp [chkEs] at c2)
          | cons a as =>
            obtain ⟨c5, c6, c7⟩ := chkEs_cons c2
            refine (pe_callG F w.room w.grd g1 hm hk hb tk (is X W Γ _ w tk c2) g2 (star_cons c6) (star_plain c7)).imp fun σ H Q ⟨M, A, S, σd, R, sr, p⟩ => ?_
            simp only [evE] at p
            refine ⟨M, A, S, σd, R, sr, (post.bind p).imp fun vs H1 M1 A1 S1 f1 R1 p1 us rs => ?_⟩
            refine ⟨M1, A1, S1, vs, R1, rs, ?_, p1⟩
            rw [← rs.length, arity hd p1, List.length_take]
            omega
    | _ => exact no c
  | _ => exact no c
/-! ### calls by keywords -/
theorem lookup_rel {K : PySem.W.Frag} {mg : Str → Option Value} {H : Hp} {M : Addr → Prop} {A : List Addr} {p : Str} : ∀ {ks : List Str} {vs : List VV} {us : List V}, Vs K mg H M A vs us → ∀ v, (ks.zip vs).lookup p = some v → ∃ u, (ks.zip us).lookup p = some u ∧ Vr K mg H M A v u
  | [], _, _, _, v, h => by simp at h
  | _ :: _, _, _, .nil, v, h => by simp at h
  | k0 :: ks, _, _, .cons r t, v, h => by
    rw [List.zip_cons_cons, List.lookup_cons] at h ⊢
    cases hb : p == k0 with
    | true =>
      rw [hb] at h
      have : _ = v := Option.some.inj h
      subst this
      exact ⟨_, rfl, r⟩
    | false =>
      rw [hb] at h
      exact lookup_rel t v h
theorem lookup_vals {p : Str} : ∀ {ks : List Str} {us : List V} {ws : List Value}, Vals us ws → ∀ u, (ks.zip us).lookup p = some u → ∃ w, (ks.zip ws).lookup p = some w ∧ RelV u w
  | [], _, _, _, v, h => by simp at h
  | _ :: _, _, _, .nil, v, h => by simp at h
  | k0 :: ks, _, _, .cons r t, v, h => by
    rw [List.zip_cons_cons, List.lookup_cons] at h ⊢
    cases hb : p == k0 with
    | true =>
      rw [hb] at h
      have : _ = v := Option.some.inj h
      subst this
      exact ⟨_, rfl, r⟩
    | false =>
      rw [hb] at h
      exact lookup_vals t v h
def kwV (ps ks : List Str) (us : List V) : List V := ps.filterMap fun p => (ks.zip us).lookup p
theorem keyArgs_rel {K : PySem.W.Frag} {mg : Str → Option Value} {H : Hp} {M : Addr → Prop} {A : List Addr} {ks : List Str} {vs : List VV} {us : List V} (r : Vs K mg H M A vs us) : ∀ {ps : List Str} {xs : List VV}, keyArgs ps ks vs = some xs → Vs K mg H M A xs (kwV ps ks us)
  | [], xs, h => by
    have : xs = [] := by simpa [keyArgs] using h.symm
    subst this
    exact .nil
  | p :: ps, xs, h => by
    unfold keyArgs at h
    rw [List.mapM_cons] at h
    cases e : (ks.zip vs).lookup p with
    | none => rw [e] at h; simp at h
    | some v =>
      rw [e] at h
      cases e2 : ps.mapM fun p => (ks.zip vs).lookup p with
      | none => rw [e2] at h; simp at h
      | some ys =>
        rw [e2] at h
        have : v :: ys = xs := by simpa using h
        subst this
        obtain ⟨u, hu, ru⟩ := lookup_rel r v e
        unfold kwV
        rw [List.filterMap_cons, hu]
        exact .cons ru (keyArgs_rel r e2)
theorem kw_vals {ks : List Str} {us : List V} {ws : List Value} (r : Vals us ws) : ∀ {ps : List Str}, (∀ p ∈ ps, ∃ u, (ks.zip us).lookup p = some u) → Vals (kwV ps ks us) (kwG ps ks ws)
  | [], _ => .nil
  | p :: ps, h => by
    obtain ⟨u, hu⟩ := h p List.mem_cons_self
    obtain ⟨w', hw, rw'⟩ := lookup_vals r u hu
    unfold kwV kwG
    rw [List.filterMap_cons, List.filterMap_cons, hu, hw]
    exact .cons rw' (kw_vals r fun q hq => h q (List.mem_cons_of_mem _ hq))
theorem lookup_has {p : Str} : ∀ {ks : List Str} {us : List V}, ks.length = us.length → p ∈ ks → ∃ u, (ks.zip us).lookup p = some u
  | [], _, _, h => by simp at h
  | k0 :: ks, [], hl, _ => by simp at hl
  | k0 :: ks, u :: us, hl, h => by
    rw [List.zip_cons_cons, List.lookup_cons]
    cases hb : p == k0 with
    | true => exact ⟨u, rfl⟩
    | false =>
      rcases List.mem_cons.mp h with e | e
      · subst e; simp at hb
      · exact lookup_has (by simpa using hl) e
theorem keys_ok {Γ : Cs} {env : Env} {pos : Pos} : ∀ {ks : List Str} {as : CEs} {kws : List Keyword}, chkKs D Γ ks as kws = true → (backToKw pos (keywordEach kws env)).filterMap (·.1) = ks ∧ (backToKw pos (keywordEach kws env)).all (·.1.isSome) = true
  | [], .nil, [], _ => ⟨rfl, rfl⟩
  | [], .nil, _ :: _, h => by simp [chkKs] at h
  | [], .cons _ _, kws, h => by cases kws <;> simp [chkKs] at h
  | k0 :: ks, .nil, kws, h => by cases kws <;> simp [chkKs] at h
  | k0 :: ks, .cons a as, [], h => by simp [chkKs] at h
  | k0 :: ks, .cons a as, ⟨none, e, q⟩ :: kws, h => by simp [chkKs] at h
  | k0 :: ks, .cons a as, ⟨some n, e, q⟩ :: kws, h => by
    obtain ⟨c1, c2⟩ := ba (show (decide (k0 = n) && chkE D Γ a e && chkKs D Γ ks as kws) = true from h)
    obtain ⟨c3, c4⟩ := ba c1
    have e0 := of_decide_eq_true c3
    subst e0
    obtain ⟨h1, h2⟩ := keys_ok (env := env) (pos := pos) c2
    refine ⟨?_, ?_⟩
    · show (k0 :: (backToKw pos (keywordEach kws env)).filterMap (·.1)) = _
      rw [h1]
    · show (true && (backToKw pos (keywordEach kws env)).all (·.1.isSome)) = true
      rw [h2]; rfl
def SKs (D : Dom) (k : Nat) (cs : CEs) : Prop := ∀ (X : Cx) (W : WX) (Γ : Cs) (ks : List Str) (kws : List Keyword), Wd D k Γ X → Takes X W → chkKs D Γ ks cs kws = true → PK X kws (tVs X.K X.mg W fun σ S => evEs (evCall D.T k) (parOf D.T) σ cs S) ∧ True
theorem _root_.L2.PK.imp {X : Cx} {kws : List Keyword} {t t' : TA} (h : PK X kws t) (i : ∀ σ H Q, t' σ H Q → t σ H Q) : PK X kws t' := ⟨fun pos pins s σ H Q I q => h.run pos pins s σ H Q I (i σ H Q q)⟩
theorem sks_nil : SKs D k .nil := fun X W Γ ks kws w tk c => by
  cases ks with
  | cons _ _ => cases kws <;> simp [chkKs] at c
  | nil =>
    cases kws with
    | cons _ _ => simp [chkKs] at c
    | nil =>
      refine ⟨pk_nil.imp fun σ H Q ⟨M, A, S, σd, R, sr, p⟩ => ?_, trivial⟩
      simp only [evEs] at p
      exact post.ok R p _ .nil
theorem sks_cons {a : CE} {as : CEs} (ia : SE D k a) (is : SKs D k as) : SKs D k (.cons a as) := by
  intro X W Γ ks kws w tk c
  cases ks with
  | nil => cases kws <;> simp [chkKs] at c
  | cons k0 ks =>
    cases kws with
    | nil => simp [chkKs] at c
    | cons kw kws =>
      obtain ⟨n, e, q⟩ := kw
      cases n with
      | none => simp [chkKs] at c
      | some n =>
        obtain ⟨c1, c2⟩ := ba (show (decide (k0 = n) && chkE D Γ a e && chkKs D Γ ks as kws) = true from c)
        obtain ⟨c3, c4⟩ := ba c1
        refine ⟨(pk_cons (ia X W Γ e w tk c4) (is X W Γ ks kws w tk c2).1).imp fun σ H Q ⟨M, A, S, σd, R, sr, p⟩ => ?_, trivial⟩
        simp only [evEs] at p
        refine ⟨M, A, S, σd, R, sr, (post.bind p).imp fun v H1 M1 A1 S1 f1 R1 p1 u1 r1 => ?_⟩
        refine ⟨M1, A1, S1, σd, R1, sr.mono f1, (post.bind p1).imp fun vs H2 M2 A2 S2 f2 R2 p2 us rs => ?_⟩
        exact post.ok R2 p2 _ (.cons (r1.mono f2) rs)
theorem chkKs_len {Γ : Cs} : ∀ {ks : List Str} {as : CEs} {kws : List Keyword} {σ : Sg} {S : Sto} {vs : List VV} {S' : Sto}, chkKs D Γ ks as kws = true → evEs (evCall D.T k) (parOf D.T) σ as S = .ok vs S' → ks.length = vs.length
  | [], .nil, [], σ, S, vs, S', _, h => by
    simp only [evEs] at h
    cases h; rfl
  | [], .nil, _ :: _, _, _, _, _, h, _ => by simp [chkKs] at h
  | [], .cons _ _, kws, _, _, _, _, h, _ => by cases kws <;> simp [chkKs] at h
  | k0 :: ks, .nil, kws, _, _, _, _, h, _ => by cases kws <;> simp [chkKs] at h
  | k0 :: ks, .cons a as, [], _, _, _, _, h, _ => by simp [chkKs] at h
  | k0 :: ks, .cons a as, ⟨none, e, q⟩ :: kws, _, _, _, _, h, _ => by simp [chkKs] at h
  | k0 :: ks, .cons a as, ⟨some n, e, q⟩ :: kws, σ, S, vs, S', h, h2 => by
    obtain ⟨c1, c2⟩ := ba (show (decide (k0 = n) && chkE D Γ a e && chkKs D Γ ks as kws) = true from h)
    simp only [evEs] at h2
    obtain ⟨v, S1, _, h3⟩ := R.bind_eq h2
    obtain ⟨ws, S2, h4, h5⟩ := R.bind_eq h3
    cases h5
    rw [List.length_cons, List.length_cons, chkKs_len c2 h4]
theorem se_callk (f : Nat) (ks : List Str) {as : CEs} (is : SKs D k as) : SE D k (.callk f ks as) := by
  intro X W Γ e w tk c
  cases e with
  | Call fn es kws pos =>
    cases fn with
    | Name x p =>
      cases es with
      | cons e es => exact no c
      | nil =>
        obtain ⟨c1, c2⟩ := ba (show (D.fnB f x && glB Γ.sc x && D.KW.contains (f, ks) && chkKs D Γ ks as kws) = true from c)
        obtain ⟨c3, c0⟩ := ba c1
        obtain ⟨c5, c4⟩ := ba c3
        obtain ⟨d, hd, rfl⟩ := fnB_of c5
        obtain ⟨g1, g2, g3⟩ := gl_of w c4
        obtain ⟨hnp, fa, fd, hm, hk, F, _, hkb⟩ := w.fns f d hd
        obtain ⟨hsub, hb⟩ := hkb ks c0
        obtain ⟨k1, k2⟩ := keys_ok (env := X.env) (pos := pos) c2
        obtain ⟨pk, _⟩ := is X W Γ ks kws w tk c2
        refine ⟨fun pins s σ H Q I ⟨M, A, S, σd, R, sr, p⟩ => ?_⟩
        simp only [evE] at p
        refine wpAny_Call_Name_kw (ld_glob I g1 hm ?_ g2)
        have plain : ((backTo pos (starEach [] X.env)).any (·.1) || (backToKw pos (keywordEach kws X.env)).any (·.1.isNone)) = false := by
          show (false || _) = false
          rw [Bool.false_or]
          rw [List.any_eq_false]
          intro y hy
          have := List.all_eq_true.mp k2 y hy
          cases q : y.1 <;> simp_all
        have hlen : ∀ v S', evEs (evCall D.T k) (parOf D.T) σd as S = .ok v S' → ks.length = v.length := fun v S' h => chkKs_len c2 h
        refine PySem.W.callWith_KW0 (h₀ := X.base) I.ok.mod.kin hk k2 (thn (pk.run pos pins s σ H (fun us H1 => ∃ M1 A1 S1 vs, Rel X.K H1 M1 A1 S1 ∧ Vs X.K X.mg H1 M1 A1 vs us ∧ ks.length = vs.length ∧
          post X.K X.mg (fun c d H => W c d σ H) H1 M1 A1 S1 ((KA.R.opt (keyArgs (parOf D.T f) ks vs) S1).bind fun vs S => evCall D.T k f vs S) fun v H' M' A' _ => ∀ u, Vr X.K X.mg H' M' A' v u → Q u H') I ⟨M, A, S, σd, R, sr, ?_⟩) fun ws s1 ⟨us, H1, I1, r, M1, A1, S1, vs, R1, rv, hl, q⟩ => ⟨I1.kIn, ?_⟩) plain
        · have pb := post.bind p
          dsimp only
          cases q : evEs (evCall D.T k) (parOf D.T) σd as S with
          | bad => rw [q] at pb; exact pb
          | exc e1 S1 => rw [q] at pb; exact pb
          | ok vs S1 =>
            rw [q] at pb
            intro H' M' A' f' R' us rs
            exact ⟨M', A', S1, vs, R', rs, hlen vs S1 q, pb H' M' A' f' R'⟩
        · rw [k1]
          obtain ⟨xs, ex, q⟩ := post.opt q
          have hpar : parOf D.T f = d.N.take d.np := by unfold parOf; rw [hd]
          rw [hpar] at ex
          have rx := keyArgs_rel rv ex
          have hlu : ks.length = us.length := by rw [hl, rv.length]
          have vk : Vals (kwV (d.N.take d.np) ks us) (kwG (d.N.take d.np) ks ws) := kw_vals r fun p hp => lookup_has hlu (hsub p hp)
          have hlw : ws.length = ks.length := by rw [← r.length, hlu]
          refine call_mono (args := ⟨[], ks.zip ws⟩) (run_fnG F w.room w.grd tk I1 (hb s1 ws I1.kIn hlw) vk ⟨M1, A1, S1, xs, R1, rx, ?_, q⟩)
          rw [← rx.length, arity hd q, List.length_take]
          omega
    | _ => cases es <;> exact no c
  | _ => exact no c
end
end KA
/-! KAExpr4: built-in calls, isinstance, methods, subscripts, displays. -/
namespace KA
open PySem PySem.Spec PyProof.Rows L2
section
variable {D : Dom} {k : Nat}
theorem pe_bn {X : Cx} {b : Bn} {x : Str} {p pos : Pos} {e : Expr} {es : List Expr} {t : TA} {r : List V → Hp → VK → Prop} (hc : CallR X b.val r) (hx : x = b.name) (hg : Gl X x) (hm : X.mg x = none) (ha : PA X (e :: es) t) (hn : x ≠ "__name__") (hdb : (x == ("__debug__" : Str)) = false)
    (he : starEach (e :: es) X.env = (false, eval e X.env) :: starEach es X.env) (hpl : (backTo pos (starEach es X.env)).any (·.1) = false) : PE X (.Call (.Name x p) (e :: es) [] pos) (tCB r t) := by
  subst hx
  have hv := b.boot
  cases b <;> first
    | exact pe_callB hc hg hm hv ha hn hdb he hpl
    | exact pe_callTy hc hg hm hv ha hn hdb he hpl
theorem bltV_ne {b : Bn} (hb : b ≠ .listM) (xs : List PD) (S : Sto) : bltV b xs S = (R.opt (bltD b xs) S).bind fun z S => .ok (.d z) S := by
  cases b <;> first
    | exact absurd rfl hb
    | rfl
theorem se_blt (b : Bn) {as : CEs} (is : SEs D k as) : SE D k (.blt b as) := by
  intro X W Γ e w tk c
  cases e with
  | Call fn es kws pos =>
    cases fn with
    | Name x p =>
      cases es with
      | nil => cases kws <;> exact no c
      | cons e es =>
        cases kws with
        | cons _ _ => exact no c
        | nil =>
          obtain ⟨c1, c2⟩ := ba (show (b.plain && decide (x = b.name) && blB D Γ x && chkEs D Γ as (e :: es)) = true from c)
          obtain ⟨c3, c4⟩ := ba c1
          obtain ⟨c5, c6⟩ := ba c3
          have hx := of_decide_eq_true c6
          obtain ⟨g1, g2, g3, g4⟩ := bl_of w c4
          cases as with
          | nil => exact no (by simp [chkEs] at c2)
          | cons a as =>
            obtain ⟨d5, d6, d7⟩ := chkEs_cons c2
            have hu : X.A.units + 100 < cLine := by have := units_of w; omega
            by_cases hb : b = .listM
            · subst hb
              refine (pe_bn (call_listM (X := X)) hx g1 g4 (is X W Γ _ w tk c2) g3 g2 (star_cons d6) (star_plain d7)).imp fun σ H Q ⟨M, A, S, σd, R, sr, p⟩ => ?_
              simp only [evE] at p
              refine ⟨M, A, S, σd, R, sr, (post.bind p).imp fun vs H1 M1 A1 S1 f1 R1 p1 us rs => ?_⟩
              unfold bltVs at p1
              cases e1 : rds S1 vs with
              | none => rw [e1] at p1; exact p1.elim
              | some xs =>
                rw [e1] at p1
                obtain ⟨z, ez, p2⟩ := post.opt (show post _ _ _ _ _ _ _ ((KA.R.opt (bltD .list_ xs) S1).bind fun z S => newM true z S) _ from p1)
                cases z with
                | list ds => exact ⟨M1, A1, S1, vs, xs, ds, R1, rs, e1, ez, fun q ys hq ry zy => newM_post R1 hq ry zy p2⟩
                | _ => exact p2.elim
            · refine (pe_bn (call_bn b w.calm w.grd hu) hx g1 g4 (is X W Γ _ w tk c2) g3 g2 (star_cons d6) (star_plain d7)).imp fun σ H Q ⟨M, A, S, σd, R, sr, p⟩ => ?_
              simp only [evE] at p
              refine ⟨M, A, S, σd, R, sr, (post.bind p).imp fun vs H1 M1 A1 S1 f1 R1 p1 us rs => ?_⟩
              unfold bltVs at p1
              cases e1 : rds S1 vs with
              | none => rw [e1] at p1; exact p1.elim
              | some xs =>
                rw [e1] at p1
                dsimp only at p1
                rw [bltV_ne hb] at p1
                obtain ⟨z, ez, p2⟩ := post.opt p1
                exact ⟨M1, A1, S1, vs, xs, z, R1, rs, e1, ez, fun H' u f' R' rp => p2 H' M1 A1 f' R' u rp⟩
    | _ => cases es <;> exact no c
  | _ => exact no c
/-! ### isinstance -/
theorem tyx {K : PySem.W.Frag} {mg : Str → Option Value} {H : Hp} {M : Addr → Prop} {A : List Addr} {S : Sto} {v : VV} {u : V} {d : PD} (R : Rel K H M A S) (hv : Vr K mg H M A v u) (e : rd S v = some d) : TyX K H u (.type (tyD d)) := by
  cases d with
  | none => rw [rd_non hv e]; exact .base .non
  | bool b => rw [rd_bl hv e]; exact .base (.bl b)
  | int b => rw [rd_int hv e]; exact .base (.int b)
  | str b => rw [rd_str hv e]; exact .base (.str b)
  | dict b => exact absurd (R.dp hv e) (fun q => by cases q)
  | list ds =>
    obtain ⟨a, xs, rfl, hs, _, _⟩ := R.rdL hv e
    rcases hs with (h | ⟨o, h⟩) | ⟨o, its, n, h1, h2, _⟩
    · exact .base (.lst h)
    · exact .base (.frz h)
    · exact .kList h1 h2
  | tuple ds =>
    obtain ⟨a, xs, rfl, hs, _, _, _⟩ := rdT hv e
    rcases hs with (h | ⟨o, h⟩) | ⟨o, its, n, h1, h2, _⟩
    · exact .base (.tup h)
    · exact .fTuple h
    · exact .kTuple h1 h2
theorem kit_all : (["NoneType", "bool", "int", "str", "list", "tuple", "dict"].all fun a => ["int", "bool", "str", "list", "tuple", "dict"].all fun b => kitB a b == some (a == b || (b == "int" && a == "bool"))) = true := by decide +kernel
theorem kit_one {K : PySem.W.Frag} {d : PD} {n : String} (hn : ["int", "bool", "str", "list", "tuple", "dict"].contains n = true) : PySem.W.kitOne K (.type (tyD d)) (.type n) = some (isTy d n) := by
  have h1 : tyD d ∈ ["NoneType", "bool", "int", "str", "list", "tuple", "dict"] := by cases d <;> simp [tyD]
  have h2 := List.all_eq_true.mp kit_all _ h1
  have h3 := List.all_eq_true.mp h2 n (List.contains_iff_mem.mp hn)
  refine kit_ty ?_
  unfold isTy
  have h4 : kitB (tyD d) n = some (tyD d == n || (n == "int" && tyD d == "bool")) := eq_of_beq h3
  exact h4
def tnV : Tn → Value
  | .ty n => .type n
  | .own _ => .none
def tnU : Tn → V
  | .ty n => .ty n
  | .own _ => .non
theorem kit_any {K : PySem.W.Frag} {d : PD} : ∀ {ts : List Tn} {b : Bool}, isinD d ts = some b → PySem.W.kitAny K (.type (tyD d)) (ts.map tnV) = some b
  | [], b, h => by cases h; exact kitAny_nil
  | .own _ :: _, b, h => by cases h
  | .ty n :: r, b, h => by
    unfold isinD at h
    split at h
    · rename_i hn
      split at h
      · rename_i hi
        cases h
        exact kitAny_cons (b := true) (by rw [show tnV (.ty n) = .type n from rfl, kit_one hn, hi]) (fun z => by cases z) (fun _ => rfl)
      · rename_i hi
        refine kitAny_cons (b := false) (by rw [show tnV (.ty n) = .type n from rfl, kit_one hn]; simpa using hi) (fun _ => kit_any h) (fun z => by cases z)
    · cases h
theorem boot_tn {n : String} (hn : ["int", "bool", "str", "list", "tuple", "dict"].contains n = true) : bootBuiltins (Str.ofString n) = some (.type n) := by
  have h := List.contains_iff_mem.mp hn
  simp only [List.mem_cons, List.not_mem_nil, or_false] at h
  rcases h with rfl | rfl | rfl | rfl | rfl | rfl <;> decide +kernel
theorem pe_tn {X : Cx} {Γ : Cs} {t : Tn} {e : Expr} (w : Wd D k Γ X) (c : tnB D Γ t e = true) : PE X e (tC (tnU t)) ∧ starB e = false ∧ ClsV (tnU t) (tnV t) := by
  cases t with
  | own x => cases e <;> exact no c
  | ty n =>
    cases e with
    | Name x pos =>
      obtain ⟨c1, c2⟩ := ba (show (decide (x = Str.ofString n) && blB D Γ x && ["int", "bool", "str", "list", "tuple", "dict"].contains n) = true from c)
      obtain ⟨c3, c4⟩ := ba c1
      have hx := of_decide_eq_true c3
      obtain ⟨g1, g2, g3, g4⟩ := bl_of w c4
      subst hx
      exact ⟨pe_bltn g1 g4 (boot_tn c2) rfl g3 g2, rfl, .ty n⟩
    | _ => exact no c
theorem pa_tns {X : Cx} {Γ : Cs} (w : Wd D k Γ X) : ∀ {ts : List Tn} {es : List Expr}, tnsB D Γ ts es = true → PA X es (fun _ H Q => Q (ts.map tnU) H) ∧ Paired ClsV (ts.map tnU) (ts.map tnV)
  | [], [], _ => ⟨pa_nil, .nil⟩
  | [], _ :: _, h => by cases h
  | _ :: _, [], h => by cases h
  | t :: ts, e :: es, h => by
    obtain ⟨h1, h2⟩ := ba h
    obtain ⟨p1, p2, p3⟩ := pe_tn w h1
    obtain ⟨q1, q2⟩ := pa_tns w h2
    exact ⟨pa_cons p1 q1 (star_cons p2), .cons p3 q2⟩
theorem isin_one {d : PD} {t : Tn} {b : Bool} {K : PySem.W.Frag} (h : isinD d [t] = some b) : PySem.W.kitOne K (.type (tyD d)) (tnV t) = some b := by
  cases t with
  | own x => cases h
  | ty n =>
    unfold isinD at h
    split at h
    · rename_i hn
      show PySem.W.kitOne K (.type (tyD d)) (.type n) = some b
      rw [kit_one hn]
      split at h
      · rename_i hi; cases h; rw [hi]
      · rename_i hi
        cases h
        simpa using hi
    · cases h
/-- an error that is held is asked for its class -/
def rIsX (K : PySem.W.Frag) : List V → Hp → VK → Prop := fun xs H Q => ∃ (p C : Addr) (c : V) (cv : Value) (b : Bool), xs = [.ref p, c] ∧ H p = some (ExT (.ref C) none p) ∧ ExcC K C ∧ (∀ u, RelV c u → u = cv) ∧ PySem.W.kitOne K (.ref C) cv = some b ∧ Q (.bl b) H
theorem call_isX {X : Cx} : CallR X (.builtin "isinstance") (rIsX X.K) := by
  intro pins s σ H xs us Q I r h
  obtain ⟨p, C, c, cv, b, rfl, hp, hC, hcv, hk, q⟩ := h
  obtain ⟨u1, u2, rfl, r1, r2⟩ := vals2 r
  have e1 := hcv _ r2
  subst e1
  cases r1
  obtain ⟨⟨oe, vs, g1, g2, g3⟩, _⟩ := (show ObjOk X.prog X.w H s.heap p (ExT (.ref C) none p) from I.hok p _ hp)
  have J : PySem.W.InstAt s.heap p oe C none := by
    obtain ⟨o1, o2, o3, o4⟩ := oe
    obtain ⟨h1, h2⟩ := g2
    dsimp only at h1 h2 g3
    subst h1 h2 g3
    exact ⟨g1, rfl, rfl, trivial⟩
  exact PySem.W.kia_one (PySem.W.handS_kitx_exc hC.hg hC.hk hC.hs hC.hd hC.ha hC.hn hC.ht hC.hm) I.kIn J hk (fun z => nomatch z) fun tk => ⟨.bl b, H, I.tok tk, rfl, q⟩
theorem callR_or {X : Cx} {f : Value} {r1 r2 : List V → Hp → VK → Prop} (h1 : CallR X f r1) (h2 : CallR X f r2) : CallR X f fun xs H Q => r1 xs H Q ∨ r2 xs H Q :=
  fun pins s σ H xs us Q I r h => h.elim (h1 pins s σ H xs us Q I r) (h2 pins s σ H xs us Q I r)
theorem tns_noX {Γ : Cs} (e : Ex) : ∀ {ts : List Tn} {es : List Expr}, tnsB D Γ ts es = true → isinX e ts = none
  | [], _, _ => rfl
  | [.own y], [], h => by cases h
  | [.own y], x :: r, h => by
    obtain ⟨h1, _⟩ := ba h
    cases x <;> cases h1
  | [.ty n], [], h => by cases h
  | [.ty n], x :: r, h => by
    obtain ⟨h1, _⟩ := ba h
    cases x with
    | Name y pos =>
      obtain ⟨_, c2⟩ := ba (show (decide (y = Str.ofString n) && blB D Γ y && ["int", "bool", "str", "list", "tuple", "dict"].contains n) = true from h1)
      have hn : n ≠ "ValueError" := fun z => by subst z; exact absurd c2 (by decide)
      unfold isinX
      dsimp only
      rw [if_neg fun z => hn z.2.1]
    | _ => cases h1
  | a :: b :: r, _, _ => by cases a <;> rfl
theorem isinV_post {W : XK} {K : PySem.W.Frag} {mg : Str → Option Value} {H : Hp} {M : Addr → Prop} {A : List Addr} {S : Sto} {γ : Type} {ts : List Tn} {v : VV} {g : Bool → Sto → R γ} {Q : γ → Hp → (Addr → Prop) → List Addr → Sto → Prop} (h : post K mg W H M A S ((isinV ts S v).bind g) Q) :
    (∃ a z, rd S v = some a ∧ isinD a ts = some z ∧ post K mg W H M A S (g z S) Q) ∨ ∃ e z, v = .ex e ∧ isinX e ts = some z ∧ post K mg W H M A S (g z S) Q := by
  cases v with
  | ex e =>
    obtain ⟨z, e1, p⟩ := post.opt h
    exact .inr ⟨e, z, rfl, e1, p⟩
  | _ => exact .inl (op1_post h)
/-- one class -/
theorem pe_tn1 {X : Cx} {Γ : Cs} {t : Tn} {e : Expr} (w : Wd D k Γ X) (c : chkTn D Γ [t] e = true) (ht : ∀ es j q, e ≠ .Tuple es j q) : ∃ (u : V) (cv : Value), PE X e (tC u) ∧ starB e = false ∧ (∀ z, RelV u z → z = cv) ∧
    (∀ d b, isinD d [t] = some b → ClsV u cv ∧ PySem.W.kitOne X.K (.type (tyD d)) cv = some b) ∧ ∀ e' c' b, X.mg e'.c = some c' → e'.c ∈ EXN → isinX e' [t] = some b → PySem.W.kitOne X.K c' cv = some b := by
  cases e with
  | Name x pos =>
    cases t with
    | own y =>
      obtain ⟨c1, c2⟩ := ba (show (decide (x = y) && glB Γ.sc x && D.X.contains y) = true from c)
      obtain ⟨c3, c4⟩ := ba c1
      have hx := of_decide_eq_true c3
      subst hx
      obtain ⟨hx, cv, hm⟩ := w.hasX x c2
      obtain ⟨g1, g2, g3⟩ := gl_of w c4
      obtain ⟨C, rfl, _⟩ := w.exc.cls x hx cv hm
      refine ⟨.ref C, .ref C, pe_glob g1 hm rfl g2, rfl, fun z r => r, fun d b h => (by cases h), fun e' c' b h1 h2 h3 => ?_⟩
      have := (w.exc.sub e'.c h2 x hx c' (.ref C) h1 hm).2
      unfold isinX at h3
      dsimp only at h3
      split at h3
      · cases h3; exact this
      · cases h3
    | ty n =>
      obtain ⟨c1, c2⟩ := ba (show (decide (x = Str.ofString n) && blB D Γ x && (["int", "bool", "str", "list", "tuple", "dict"].contains n || decide (n = "ValueError"))) = true from c)
      obtain ⟨c3, c4⟩ := ba c1
      have hx := of_decide_eq_true c3
      obtain ⟨g1, g2, g3, g4⟩ := bl_of w c4
      subst hx
      have hb : bootBuiltins (Str.ofString n) = some (.type n) := by
        rcases Bool.or_eq_true_iff.mp c2 with q | q
        · exact boot_tn q
        · have q := of_decide_eq_true q
          subst q
          decide +kernel
      refine ⟨.ty n, .type n, pe_bltn g1 g4 hb rfl g3 g2, rfl, fun z r => r, fun d b h => ⟨.ty n, isin_one h⟩, fun e' c' b h1 h2 h3 => ?_⟩
      unfold isinX at h3
      dsimp only at h3
      split at h3
      · rename_i hq
        cases h3
        obtain ⟨C, rfl, _, _, _, _, _, hv⟩ := w.exc.cls e'.c h2 c' h1
        rw [hq.2.1]
        exact hv
      · cases h3
  | Tuple es j q => exact absurd rfl (ht es j q)
  | _ => cases t <;> exact no c
theorem se_isin {a : CE} (ts : List Tn) (ia : SE D k a) : SE D k (.isin a ts) := by
  intro X W Γ e w tk c
  cases e with
  | Call fn es kws pos =>
    cases fn with
    | Name x p =>
      match es, kws, c with
      | [e, t], [], c =>
        obtain ⟨c1, c2⟩ := ba (show (decide (x = "isinstance") && blB D Γ x && chkE D Γ a e && !starB e && chkTn D Γ ts t) = true from c)
        obtain ⟨c3, c4⟩ := ba c1
        obtain ⟨c5, c6⟩ := ba c3
        obtain ⟨c7, c8⟩ := ba c5
        have hx := of_decide_eq_true c7
        obtain ⟨g1, g2, g3, g4⟩ := bl_of w c8
        have hs : starB e = false := by simpa using c4
        subst hx
        have tupd : ∀ (es : List Expr) (j : Nat) (q : Pos), t = .Tuple es j q → (decide (ts.length < 100) && tnsB D Γ ts es) = true → PE X (.Call (.Name "isinstance" p) [e, t] [] pos) (tV X.K X.mg W fun σ S => evE (evCall D.T k) (parOf D.T) σ (.isin a ts) S) := fun es j q et ht => by
          subst et
          obtain ⟨hlen, ht⟩ := ba ht
          have hlen := of_decide_eq_true hlen
          obtain ⟨q1, q2⟩ := pa_tns w ht
          refine (pe_callB call_isiT g1 g4 boot_isinstance (pa_cons (ia X W Γ e w tk c6) (pa_cons (pe_tup q1) pa_nil) (star_cons hs)) g3 g2 (star_cons hs)).imp fun σ H Q ⟨M, A, S, σd, R, sr, p⟩ => ?_
          simp only [evE] at p
          refine ⟨M, A, S, σd, R, sr, (post.bind p).imp fun v H1 M1 A1 S1 f1 R1 p1 u1 r1 => ?_⟩
          obtain ⟨a', z, ea, e', p2⟩ | ⟨ex, z, _, hx, _⟩ := isinV_post p1
          rotate_left
          · rw [tns_noX ex ht] at hx; cases hx
          refine ⟨?_, fun l hl => ?_⟩
          · rw [List.length_map, sz_eq]
            show ts.length ≤ 16777216
            omega
          · have q3 := post.ok (R1.new (o := .tup (ts.map tnU)) hl) (post.from (K := X.K) p2 (Fm.new (o := .tup (ts.map tnU)) hl)) (.bl z) (Rp.bl z)
            exact ⟨u1, l, ts.map tnU, .type (tyD a'), ts.map tnV, z, rfl, upd_same, q2, tyx (R1.new hl) (r1.mono (Fm.new (A := A1) (S := S1) hl)) ea, kit_any e', q3⟩
        have oned : ∀ t0, ts = [t0] → (∀ es j q, t ≠ .Tuple es j q) → PE X (.Call (.Name "isinstance" p) [e, t] [] pos) (tV X.K X.mg W fun σ S => evE (evCall D.T k) (parOf D.T) σ (.isin a ts) S) := fun t0 et ht => by
          subst et
          obtain ⟨uc, cv, q1, q2, q3, q4, q5⟩ := pe_tn1 w c2 ht
          refine (pe_callB (callR_or call_isi call_isX) g1 g4 boot_isinstance (pa_cons (ia X W Γ e w tk c6) (pa_cons q1 pa_nil (star_cons q2)) (star_cons hs)) g3 g2 (star_cons hs) (by rw [star_cons q2]; rfl)).imp fun σ H Q ⟨M, A, S, σd, R, sr, p⟩ => ?_
          simp only [evE] at p
          refine ⟨M, A, S, σd, R, sr, (post.bind p).imp fun v H1 M1 A1 S1 f1 R1 p1 u1 r1 => ?_⟩
          rcases isinV_post p1 with ⟨a', z, ea, e', p2⟩ | ⟨ex, z, ev, hx, p2⟩
          · obtain ⟨k1, k2⟩ := q4 _ _ e'
            exact .inl ⟨u1, uc, .type (tyD a'), cv, z, rfl, k1, tyx R1 r1 ea, k2, post.ok R1 p2 _ (Rp.bl z)⟩
          · subst ev
            obtain ⟨ad, c', d', rfl, ⟨m1, m2, m3⟩, hH, _⟩ := r1
            have hfs : ex.fs = [] := by
              unfold isinX at hx
              split at hx
              · split at hx
                · rename_i q; exact List.isEmpty_iff.mp q.2.2
                · cases hx
              · split at hx
                · rename_i q; exact List.isEmpty_iff.mp q.2.2
                · cases hx
              · cases hx
            have hd := m3 hfs
            subst hd
            obtain ⟨C, rfl, _, _, _, _, hC, _⟩ := w.exc.cls ex.c m2 c' m1
            exact .inr ⟨ad, C, uc, cv, z, rfl, hH, hC, q3, q5 ex _ z m1 m2 hx, post.ok R1 p2 _ (Rp.bl z)⟩
        cases t with
        | Tuple es j q => exact tupd es j q rfl c2
        | _ =>
          cases ts with
          | nil => exact no c2
          | cons t0 r =>
            cases r with
            | nil => exact oned t0 rfl (by intro es j q z; cases z)
            | cons _ _ => (cases t0 <;> exact no c2)
      | [], _, c => exact no c
      | [_], _, c => exact no c
      | _ :: _ :: _ :: _, _, c => exact no c
      | [_, _], _ :: _, c => exact no c
    | _ => exact no c
  | _ => exact no c

/-! ### methods of lists -/
theorem backTo_all {Γ : Cs} {pos : Pos} {env : Env} : ∀ {as : CEs} {es : List Expr}, chkEs D Γ as es = true → (backTo pos (starEach es env)).all (fun x => !x.1) = true
  | .nil, [], _ => rfl
  | .nil, _ :: _, h => by cases h
  | .cons _ _, [], h => by cases h
  | .cons a as, e :: es, h => by
    obtain ⟨h1, h2, h3⟩ := chkEs_cons h
    rw [star_cons h2]
    show (true && _) = true
    rw [Bool.true_and]
    exact backTo_all h3
/-- a method that changes the list: f's answer and the new list -/
def rMut (K : PySem.W.Frag) (m : Str) : V → List V → Hp → VK → Prop := fun x us H Q => ∃ (W : XK) (mg : Str → Option Value) (M : Addr → Prop) (A : List Addr) (S : Sto) (l : Nat) (a : Addr) (xs : List PD), Rel K H M A S ∧ A[l]? = some a ∧ x = .ref a ∧ Rps K H M xs us ∧
  post K mg W H M A S (methV m (.loc l) xs S) fun v H' M' A' _ => ∀ u, Vr K mg H' M' A' v u → Q u H'
theorem mutD_post {K : PySem.W.Frag} {mg : Str → Option Value} {W : XK} {H : Hp} {M : Addr → Prop} {A : List Addr} {S : Sto} {l : Nat} {f : List PD → Option (PD × List PD)} {Q : VV → Hp → (Addr → Prop) → List Addr → Sto → Prop} (h : post K mg W H M A S (mutD S l f) Q) :
    ∃ ds r ds', S[l]? = some (O.lst ds) ∧ f ds = some (r, ds') ∧ post K mg W H M A S (.ok (.d r) (S.set l (O.lst ds'))) Q := by
  unfold mutD at h
  split at h
  · rename_i ds e
    split at h
    · rename_i r ds' e2
      exact ⟨ds, r, ds', e, e2, h⟩
    · exact h.elim
  · exact h.elim
theorem mt_appendK {X : Cx} : MtR X "list.append" (rMut X.K "append") := by
  intro pins s σ H x vs v us Q I rx rv h
  obtain ⟨W, mg, M, A, S, l, a, xs, R, ea, rfl, rs, p⟩ := h
  unfold methV at p
  dsimp only at p
  rw [if_pos rfl] at p
  split at p
  · rename_i y
    obtain ⟨ds, r, ds', e1, e2, p⟩ := mutD_post p
    split at e2
    · rename_i hz
      cases e2
      obtain ⟨mA, ys, eA, rA, zA⟩ := R.lst l ds a e1 ea
      cases rs with
      | cons r1 r2 =>
        cases r2
        rename_i u1
        have hl : ds.length = ys.length := rA.length
        obtain ⟨R', f'⟩ := R.put e1 ea (rA.append (.cons r1 .nil)) (by rw [List.length_append, ← hl]; exact hz)
        refine mt_append pins s σ H _ _ v us Q I rx rv ⟨a, ys, u1, rfl, rfl, eA, by rw [sz_eq, ← hl]; exact hz, ?_⟩
        exact p _ _ _ f' R' _ Rp.non
    · cases e2
  · exact p.elim
theorem mt_extendK {X : Cx} : MtR X "list.extend" (rMut X.K "extend") := by
  intro pins s σ H x vs v us Q I rx rv h
  obtain ⟨W, mg, M, A, S, l, a, xs, R, ea, rfl, rs, p⟩ := h
  unfold methV at p
  dsimp only at p
  rw [if_neg (by decide +kernel), if_pos rfl] at p
  split at p
  · rename_i y
    obtain ⟨ds, r, ds', e1, e2, p⟩ := mutD_post p
    split at e2
    · rename_i hz
      cases e2
      obtain ⟨mA, ys, eA, rA, zA⟩ := R.lst l ds a e1 ea
      cases rs with
      | cons r1 r2 =>
        cases r2
        cases r1 with
        | lst hs hr =>
          rename_i b zs
          have hl : ds.length = ys.length := rA.length
          have hl2 : y.length = zs.length := hr.length
          have hz2 : (ys ++ zs).length ≤ SZ := by rw [List.length_append, ← hl, ← hl2]; exact hz
          obtain ⟨R', f'⟩ := R.put e1 ea (rA.append hr) hz2
          refine mt_extendL pins s σ H _ _ v us Q I rx rv ⟨a, b, ys, zs, rfl, rfl, eA, hs.sq, by rw [sz_eq]; rw [List.length_append] at hz2; exact hz2, ?_⟩
          exact p _ _ _ f' R' _ Rp.non
    · cases e2
  · exact p.elim
theorem mt_popK {X : Cx} : MtR X "list.pop" (rMut X.K "pop") := by
  intro pins s σ H x vs v us Q I rx rv h
  obtain ⟨W, mg, M, A, S, l, a, xs, R, ea, rfl, rs, p⟩ := h
  unfold methV at p
  dsimp only at p
  rw [if_neg (by decide +kernel), if_neg (by decide +kernel), if_pos rfl] at p
  split at p
  · rename_i i
    obtain ⟨ds, r, ds', e1, e2, p⟩ := mutD_post p
    unfold popAt at e2
    split at e2
    · rename_i hz
      split at e2
      · rename_i j ej
        split at e2
        · rename_i y ey
          cases e2
          obtain ⟨mA, ys, eA, rA, zA⟩ := R.lst l ds a e1 ea
          cases rs with
          | cons r1 r2 =>
            cases r2
            cases r1
            obtain ⟨u1, hu1, ru1⟩ := rA.get ey
            have hl : ds.length = ys.length := rA.length
            obtain ⟨R', f'⟩ := R.put e1 ea (rA.erase j) (Nat.le_trans (len_erase ys j) zA)
            refine mt_popAt pins s σ H _ _ v us Q I rx rv ⟨a, ys, i, j, u1, rfl, rfl, eA, hz.1, hz.2, by rw [← hl]; exact ej, hu1, ?_⟩
            exact p _ _ _ f' R' _ (ru1.stay f'.st)
        · cases e2
      · cases e2
    · cases e2
  · exact p.elim
theorem se_meth (m : Str) {o : CE} {as : CEs} (io : SE D k o) (is : SXs D k as) : SE D k (.meth m o as) := by
  intro X W Γ e w tk c
  cases o with
  | var i =>
    cases e with
    | Call fn es kws cp =>
      cases fn with
      | Attribute ob n ap =>
        cases ob with
        | Name x p0 =>
          cases es with
          | nil => cases kws <;> exact no c
          | cons e es =>
            cases kws with
            | cons _ _ => exact no c
            | nil =>
              obtain ⟨c1, c2⟩ := ba (show (decide (m = "append" ∨ m = "extend" ∨ m = "pop") && decide (m = n) && decide (Γ.N[i]? = some x) && visB Γ.sc x && okN x && (ap.endLine == cp.line) && decide (es.length < 20) && chkEs D Γ as (e :: es)) = true from c)
              obtain ⟨c3, c4⟩ := ba c1
              obtain ⟨c5, c6⟩ := ba c3
              obtain ⟨c7, c8⟩ := ba c5
              obtain ⟨c9, c10⟩ := ba c7
              obtain ⟨c13, c12⟩ := ba c9
              obtain ⟨c14, c11⟩ := ba c13
              have hmm := of_decide_eq_true c14
              have e0 := of_decide_eq_true c11
              subst e0
              have hlen := of_decide_eq_true c4
              have co : chkE D Γ (.var i) (.Name x p0) = true := by
                show (decide (Γ.N[i]? = some x) && visB Γ.sc x && okN x) = true
                rw [c12, c10, c8]; rfl
              cases as with
              | nil => exact no (by simp [chkEs] at c2)
              | cons a as =>
                obtain ⟨d5, d6, d7⟩ := chkEs_cons c2
                have few : ((backTo cp (starEach (e :: es) X.env)).all (fun x => !x.1) && (backToKw cp (keywordEach [] X.env)).all (fun x => x.1.isSome) && decide ((e :: es).length + ([] : List Keyword).length + (if ([] : List Keyword).isEmpty then 0 else 1) < 30)) = true := by
                  rw [backTo_all c2]
                  show (true && true && _) = true
                  simp
                  omega
                have fin : ∀ {id : String} (slot : Slot "list" m id) (hty : typeOf (.builtin id) = pure (.type "method_descriptor")) (hm : MtR X id (rMut X.K m)), PE X (.Call (.Attribute (.Name x p0) m ap) (e :: es) [] cp) (tV X.K X.mg W fun σ S => evE (evCall D.T k) (parOf D.T) σ (.meth m (.var i) (.cons a as)) S) := fun slot hty hm => by
                  refine (pe_bm PySem.F.plainAttrs_list slot hty hm (io X W Γ _ w tk co) (is X W Γ _ w tk c2) rfl few c6 (star_cons d6) (star_plain d7)).imp fun σ H Q ⟨M, A, S, σd, R, sr, p⟩ => ?_
                  unfold evE at p
                  refine ⟨M, A, S, σd, R, sr, (post.bind p).imp fun v H1 M1 A1 S1 f1 R1 p1 u1 r1 => ?_⟩
                  cases v with
                  | d _ => exact p1.elim
                  | ex _ => exact p1.elim
                  | loc l =>
                    obtain ⟨ad, ea, rfl⟩ := r1
                    refine ⟨.inl ⟨rfl, ?_⟩, M1, A1, S1, σd, R1, sr.mono f1, (post.bind p1).imp fun xs H2 M2 A2 S2 f2 R2 p2 us rs => ?_⟩
                    · have lt : l < S1.length := by rw [← R1.len]; exact (List.getElem?_eq_some_iff.mp ea).1
                      rcases sto_cases lt with ⟨ds, q⟩ | ⟨ds, q⟩
                      · obtain ⟨_, ys, e', _, _⟩ := R1.lst l ds ad q ea
                        exact ⟨ys, SqL.of e'⟩
                      · cases (R1.frz l ds ad q ea).1 with
                        | lst hs _ => exact ⟨_, hs.sq⟩
                    · exact ⟨_, _, M2, A2, S2, l, ad, xs, R2, f2.at_ ea, rfl, rs, p2⟩
                rcases hmm with h1 | h1 | h1
                · subst h1; exact fin PySem.F.slot_list_append PySem.F.type_list_append mt_appendK
                · subst h1; exact fin PySem.F.slot_list_extend PySem.F.type_list_extend mt_extendK
                · subst h1; exact fin PySem.F.slot_list_pop PySem.F.type_list_pop mt_popK
        | _ => cases es <;> cases kws <;> exact no c
      | _ => cases es <;> cases kws <;> exact no c
    | _ => exact no c
  | _ => cases e <;> exact no c
end
end KA
/-! KAExpr5: subscripts, slices, displays, ranges. -/
namespace KA
open PySem PySem.Spec PyProof.Rows L2
section
variable {D : Dom} {k : Nat}
theorem sub_read {K : PySem.W.Frag} {mg : Str → Option Value} {H : Hp} {M : Addr → Prop} {A : List Addr} {S : Sto} {v w : VV} {u1 u2 : V} {a b z : PD} {Q : VK} (R : Rel K H M A S) (r1 : Vr K mg H M A v u1) (r2 : Vr K mg H M A w u2) (ea : rd S v = some a) (eb : rd S w = some b) (e : subD a b = some z)
    (q : ∀ u, Rp K H M z u → Q u H) : rIx K u1 u2 H Q := by
  unfold subD at e
  split at e
  · rename_i ds i
    obtain ⟨p, xs, rfl, hs, rs, _⟩ := R.rdL r1 ea
    obtain ⟨y, hy, ry⟩ := rs.at_ e
    exact .inl ⟨p, xs, i, y, rfl, rd_int r2 eb, hs, hy, q y ry⟩
  · rename_i ds i
    obtain ⟨p, xs, rfl, hs, _, rs, _⟩ := rdT r1 ea
    obtain ⟨y, hy, ry⟩ := rs.at_ e
    exact .inr (.inl ⟨p, xs, i, y, rfl, rd_int r2 eb, hs, hy, q y ry⟩)
  · rename_i x i
    split at e
    · rename_i hz
      cases h : L2.atI x.cps.toList i with
      | none => rw [h] at e; cases e
      | some c =>
        rw [h] at e
        cases e
        exact .inr (.inr ⟨x, i, c, rd_str r1 ea, rd_int r2 eb, by rw [sz_eq]; exact hz, h, q _ (Rp.str _)⟩)
    · cases e
  · cases e
theorem plain_ix {e : Expr} (h : ixB e = true) : PlainIx e := by
  cases e <;> first
    | exact fun _ _ => rfl
    | cases h
theorem se_sub {a i : CE} (ia : SE D k a) (ii : SE D k i) : SE D k (.sub a i) := by
  intro X W Γ e w tk c
  cases e with
  | Subscript x y pos =>
    cases y with
    | Slice l h st p2 => 
      have c' : (chkE D Γ a x && chkE D Γ i (.Slice l h st p2) && ixB (.Slice l h st p2)) = true := by
        unfold chkE at c; exact c
      exact no (ba c').2
    | _ =>
      obtain ⟨c1, c2⟩ := ba (show (chkE D Γ a x && chkE D Γ i _ && ixB _) = true by unfold chkE at c; exact c)
      obtain ⟨c3, c4⟩ := ba c1
      refine (pe_ix ix_seq (ia X W Γ x w tk c3) (ii X W Γ _ w tk c4) (plain_ix c2)).imp fun σ H Q ⟨M, A, S, σd, R, sr, p⟩ => ?_
      simp only [evE] at p
      refine ⟨M, A, S, σd, R, sr, (post.bind p).imp fun v H1 M1 A1 S1 f1 R1 p1 u1 r1 => ?_⟩
      refine ⟨M1, A1, S1, σd, R1, sr.mono f1, (post.bind p1).imp fun v2 H2 M2 A2 S2 f2 R2 p2 u2 r2 => ?_⟩
      obtain ⟨a', b', z, ea, eb, e, p3⟩ := op2_post p2
      exact sub_read R2 (r1.mono f2) r2 ea eb e fun u rp => post.ok R2 p3 u rp
  | _ => exact no (by cases c)
def SO (D : Dom) (k : Nat) (c : CO) : Prop := ∀ (X : Cx) (W : WX) (Γ : Cs) (e : Option Expr), Wd D k Γ X → Takes X W → chkO D Γ c e = true → PO X e fun σ H Q => ∃ M A S σd, Rel X.K H M A S ∧ Sr X.K X.mg H M A σd σ ∧
  post X.K X.mg (fun c d H => W c d σ H) H M A S (evO (evCall D.T k) (parOf D.T) σd c S) fun i H' _ _ _ => Q i H'
theorem _root_.L2.PO.imp {X : Cx} {e : Option Expr} {t t' : TO} (h : PO X e t) (i : ∀ σ H Q, t' σ H Q → t σ H Q) : PO X e t' := ⟨fun pins s σ H Q I q => h.run pins s σ H Q I (i σ H Q q)⟩
theorem intD_eq {d : PD} {i : Int} (h : intD d = some i) : d = .int i := by
  cases d with
  | int c => cases h; rfl
  | _ => cases h
theorem so_none : SO D k .none := fun X W Γ e w tk c => by
  cases e with
  | none => exact po_none.imp fun σ H Q ⟨M, A, S, σd, R, sr, p⟩ => by simp only [evO] at p; exact post.ok R p
  | some e => exact no (by simp [chkO] at c)
theorem so_some {a : CE} (ia : SE D k a) : SO D k (.some a) := fun X W Γ e w tk c => by
  cases e with
  | none => exact no (by simp [chkO] at c)
  | some e =>
    refine (po_some (ia X W Γ e w tk (by unfold chkO at c; exact c))).imp fun σ H Q ⟨M, A, S, σd, R, sr, p⟩ => ?_
    simp only [evO] at p
    refine ⟨M, A, S, σd, R, sr, (post.bind p).imp fun v H1 M1 A1 S1 f1 R1 p1 u1 r1 => ?_⟩
    obtain ⟨a', z, ea, e, p2⟩ := op1_post p1
    rw [intD_eq e] at ea
    exact ⟨z, rd_int r1 ea, post.ok R1 p2⟩
theorem cut_rel {K : PySem.W.Frag} {H : Hp} {M : Addr → Prop} {ds : List PD} {xs : List V} (rs : Rps K H M ds xs) (lo hi : Option Int) : Rps K H M (cutD ds lo hi) (cutV xs lo hi) := by
  unfold cutD cutV
  rw [rs.length]
  exact (rs.drop _).take _
theorem cut_whole {ds : List PD} {lo hi : Option Int} {n : Nat} (hn : ds.length = n) (h : HT.sIx n 0 lo = 0 ∧ HT.sIx n n hi = n) : cutD ds lo hi = ds := by
  unfold cutD
  rw [hn, h.1, h.2, List.drop_zero, Nat.sub_zero, ← hn, List.take_length]
theorem se_slc {a : CE} {lo hi : CO} (ia : SE D k a) (il : SO D k lo) (ih : SO D k hi) : SE D k (.slc a lo hi) := by
  intro X W Γ e w tk c
  cases e with
  | Subscript x y pos =>
    cases y with
    | Slice l h st p2 =>
      cases st with
      | some _ => exact no (by unfold chkE at c; exact c)
      | none =>
        obtain ⟨c1, c2⟩ := ba (show (chkE D Γ a x && chkO D Γ lo l && chkO D Γ hi h) = true by unfold chkE at c; exact c)
        obtain ⟨c3, c4⟩ := ba c1
        refine (pe_slice (SlR.or sl_list sl_tupA) (ia X W Γ x w tk c3) (il X W Γ l w tk c4) (ih X W Γ h w tk c2)).imp fun σ H Q ⟨M, A, S, σd, R, sr, p⟩ => ?_
        simp only [evE] at p
        refine ⟨M, A, S, σd, R, sr, (post.bind p).imp fun v H1 M1 A1 S1 f1 R1 p1 u1 r1 => ?_⟩
        refine ⟨M1, A1, S1, σd, R1, sr.mono f1, (post.bind p1).imp fun l' H2 M2 A2 S2 f2 R2 p2 => ?_⟩
        refine ⟨M2, A2, S2, σd, R2, (sr.mono f1).mono f2, (post.bind p2).imp fun h' H3 M3 A3 S3 f3 R3 p3 => ?_⟩
        have r3 := (r1.mono f2).mono f3
        obtain ⟨a', z, ea, e, p4⟩ := op1_post p3
        cases a' with
        | list ds =>
          cases e
          obtain ⟨q, xs, rfl, hs, rs, hz⟩ := R3.rdL r3 ea
          refine .inl ⟨q, xs, rfl, hs, fun p' hp' => ?_⟩
          exact p4 _ _ _ (Fm.new hp') (R3.new hp') _ (Rp.lst (.of upd_same (R3.nM hp') (Nat.le_trans (cutV_length _ _ _) hz)) ((cut_rel rs _ _).stay (stay_new hp')))
        | tuple ds =>
          cases e
          obtain ⟨q, xs, rfl, hs, hf, rs, hz⟩ := rdT r3 ea
          refine .inr ⟨q, xs, rfl, hs, fun hw => ?_, fun hw p' hp' => ?_⟩
          · rw [cut_whole rs.length hw] at p4
            exact post.ok R3 p4 _ (Rp.tup hf rs)
          · exact p4 _ _ _ (Fm.new hp') (R3.new hp') _ (Rp.tup (.of upd_same (R3.nM hp') (Nat.le_trans (cutV_length _ _ _) hz)) ((cut_rel rs _ _).stay (stay_new hp')))
        | _ => cases e
    | _ => exact no (by unfold chkE at c; exact c)
  | _ => exact no (by unfold chkE at c; exact c)
theorem se_tup {es : CEs} (is : SXs D k es) : SE D k (.tup es) := by
  intro X W Γ e w tk c
  cases e with
  | Tuple xs x1 pos =>
    refine (pe_tup (is X W Γ xs w tk (by unfold chkE at c; exact c))).imp fun σ H Q ⟨M, A, S, σd, R, sr, p⟩ => ?_
    simp only [evE] at p
    refine ⟨M, A, S, σd, R, sr, (post.bind p).imp fun ds H1 M1 A1 S1 f1 R1 p1 us rs => ?_⟩
    split at p1
    · rename_i hz
      have hz' : us.length ≤ SZ := by rw [← rs.length]; exact hz
      refine ⟨by rw [sz_eq]; exact hz', fun q hq => ?_⟩
      exact p1 _ _ _ (Fm.new hq) (R1.new hq) _ (Rp.tup (.of upd_same (R1.nM hq) hz') (rs.stay (stay_new hq)))
    · exact p1.elim
  | _ => exact no (by unfold chkE at c; exact c)
theorem se_lst (m : Bool) {es : CEs} (is : SXs D k es) : SE D k (.lst m es) := by
  intro X W Γ e w tk c
  cases e with
  | List xs pos =>
    refine (pe_lst (is X W Γ xs w tk (by unfold chkE at c; exact c))).imp fun σ H Q ⟨M, A, S, σd, R, sr, p⟩ => ?_
    simp only [evE] at p
    refine ⟨M, A, S, σd, R, sr, (post.bind p).imp fun ds H1 M1 A1 S1 f1 R1 p1 us rs => ?_⟩
    split at p1
    · rename_i hz
      have hz' : us.length ≤ SZ := by rw [← rs.length]; exact hz
      exact ⟨by rw [sz_eq]; exact hz', fun q hq => newM_post R1 hq rs hz' p1⟩
    · exact p1.elim
  | _ => exact no (by unfold chkE at c; exact c)
/-! ### ranges -/
def SR_ (D : Dom) (k : Nat) (c : CI) : Prop := ∀ (X : Cx) (W : WX) (Γ : Cs) (e : Expr), Wd D k Γ X → Takes X W → chkR D Γ c e = true → PRg X e (fun σ H Q => ∃ M A S σd, Rel X.K H M A S ∧ Sr X.K X.mg H M A σd σ ∧
  post X.K X.mg (fun c d H => W c d σ H) H M A S (evI (evCall D.T k) (parOf D.T) σd c S) fun p H' M' A' S' => ∀ i j, RgOk i j → p.1 = rngD i j → Rel X.K H' M' A' S' → Q i j H') ∧ starB e = false
theorem rgok {i j : Int} (h : rngOk i j = true) : RgOk i j := by
  obtain ⟨a, b, c, d, e⟩ := of_decide_eq_true h
  exact ⟨a, b, c, d, e⟩
theorem rps_ints {K : PySem.W.Frag} {H : Hp} {M : Addr → Prop} : ∀ (l : List Nat) (f : Nat → Int), Rps K H M (l.map fun i => .int (f i)) (l.map fun i => .int (f i))
  | [], _ => .nil
  | x :: r, f => .cons (.int _) (rps_ints r f)
theorem rps_rng {K : PySem.W.Frag} {H : Hp} {M : Addr → Prop} (i j : Int) : Rps K H M (rngD i j) (rgV i j) := rps_ints _ _
theorem sr_1 {a : CE} (ia : SE D k a) : SR_ D k (.rng a) := by
  intro X W Γ e w tk c
  cases e with
  | Call fn es kws pos =>
    cases fn with
    | Name x p =>
      match es, kws, c with
      | [e], [], c =>
        obtain ⟨c1, c2⟩ := ba (show (decide (x = "range") && blB D Γ x && chkE D Γ a e && !starB e) = true by unfold chkR at c; exact c)
        obtain ⟨c3, c4⟩ := ba c1
        obtain ⟨c5, c6⟩ := ba c3
        have hx := of_decide_eq_true c5
        obtain ⟨g1, g2, g3, g4⟩ := bl_of w c6
        have hs : starB e = false := by simpa using c2
        subst hx
        refine ⟨fun pins s σ H Q I ⟨M, A, S, σd, R, sr, pp⟩ => prg_1 g1 g4 (ia X W Γ e w tk c4) (star_cons hs) pins s σ H Q I ?_, rfl⟩
        simp only [evI] at pp
        refine ⟨M, A, S, σd, R, sr, (post.bind pp).imp fun v H1 M1 A1 S1 f1 R1 p1 u1 r1 => ?_⟩
        obtain ⟨a', z, ea, e', p2⟩ := op1_post p1
        rw [intD_eq e'] at ea
        split at p2
        · rename_i hk
          exact ⟨z, rd_int r1 ea, post.ok R1 p2 0 z (rgok hk) rfl R1⟩
        · exact p2.elim
      | [], _, c => exact no (by unfold chkR at c; cases c)
      | [_], _ :: _, c => exact no (by unfold chkR at c; cases c)
      | _ :: _ :: _, _, c => exact no (by unfold chkR at c; cases c)
    | _ => exact no (by unfold chkR at c; cases c)
  | _ => exact no (by unfold chkR at c; cases c)
theorem sr_2 {a b : CE} (ia : SE D k a) (ib : SE D k b) : SR_ D k (.rng2 a b) := by
  intro X W Γ e w tk c
  cases e with
  | Call fn es kws pos =>
    cases fn with
    | Name x p =>
      match es, kws, c with
      | [e, e2], [], c =>
        obtain ⟨c1, c2⟩ := ba (show (decide (x = "range") && blB D Γ x && chkE D Γ a e && !starB e && chkE D Γ b e2 && !starB e2) = true by unfold chkR at c; exact c)
        obtain ⟨c3, c4⟩ := ba c1
        obtain ⟨c5, c6⟩ := ba c3
        obtain ⟨c7, c8⟩ := ba c5
        obtain ⟨c9, c10⟩ := ba c7
        have hx := of_decide_eq_true c9
        obtain ⟨g1, g2, g3, g4⟩ := bl_of w c10
        have hs : starB e = false := by simpa using c6
        have hs2 : starB e2 = false := by simpa using c2
        subst hx
        refine ⟨fun pins s σ H Q I ⟨M, A, S, σd, R, sr, pp⟩ => prg_2 g1 g4 (ia X W Γ e w tk c8) (ib X W Γ e2 w tk c4) (star_cons hs) (star_cons hs2) (by rw [star_cons hs2]; rfl) pins s σ H Q I ?_, rfl⟩
        simp only [evI] at pp
        refine ⟨M, A, S, σd, R, sr, (post.bind pp).imp fun v H1 M1 A1 S1 f1 R1 p1 u1 r1 => ?_⟩
        refine ⟨M1, A1, S1, σd, R1, sr.mono f1, (post.bind p1).imp fun v2 H2 M2 A2 S2 f2 R2 p2 u2 r2 => ?_⟩
        obtain ⟨a', z, ea, e', p3⟩ := op1_post p2
        obtain ⟨b', z2, eb, e2', p4⟩ := op1_post p3
        rw [intD_eq e'] at ea
        rw [intD_eq e2'] at eb
        split at p4
        · rename_i hk
          exact ⟨z, z2, rd_int (r1.mono f2) ea, rd_int r2 eb, post.ok R2 p4 z z2 (rgok hk) rfl R2⟩
        · exact p4.elim
      | [], _, c => exact no (by unfold chkR at c; cases c)
      | [_], _, c => exact no (by unfold chkR at c; cases c)
      | [_, _], _ :: _, c => exact no (by unfold chkR at c; cases c)
      | _ :: _ :: _ :: _, _, c => exact no (by unfold chkR at c; cases c)
    | _ => exact no (by unfold chkR at c; cases c)
  | _ => exact no (by unfold chkR at c; cases c)
theorem sr_no {c : CI} (h : ∀ Γ e, chkR D Γ c e = false) : SR_ D k c := fun X W Γ e w tk q => by rw [h] at q; cases q
theorem se_rng (t m : Bool) {i : CI} (ii : SR_ D k i) : SE D k (.rng t m i) := by
  intro X W Γ e w tk c
  cases e with
  | Call fn es kws pos =>
    cases fn with
    | Name x p =>
      match es, kws, c with
      | [r], [], c =>
        obtain ⟨c1, c2⟩ := ba (show (decide (x = if t = true then "tuple" else "list") && blB D Γ x && chkR D Γ i r) = true by unfold chkE at c; exact c)
        obtain ⟨c3, c4⟩ := ba c1
        have hx := of_decide_eq_true c3
        obtain ⟨g1, g2, g3, g4⟩ := bl_of w c4
        obtain ⟨hr, hs⟩ := ii X W Γ r w tk c2
        have hz : ∀ {a b : Int}, RgOk a b → (rgV a b).length ≤ SZ := fun h => by rw [rgV_length]; exact h.2.2.2.2
        cases t with
        | true =>
          simp only [if_true] at hx
          subst hx
          refine (pe_tupRg w.calm g1 g4 hr (star_cons hs)).imp fun σ H Q ⟨M, A, S, σd, R, sr, p⟩ => ?_
          simp only [evE] at p
          refine ⟨M, A, S, σd, R, sr, (post.bind p).imp fun ds H1 M1 A1 S1 f1 R1 p1 a b ok e R1 => ?_⟩
          obtain ⟨ds, gd⟩ := ds
          subst e
          simp only [if_true] at p1
          exact ⟨ok, fun q hq => p1 _ _ _ (Fm.new hq) (R1.new hq) _ (Rp.tup (.of upd_same (R1.nM hq) (hz ok)) (rps_rng a b))⟩
        | false =>
          simp only [Bool.false_eq_true, if_false] at hx
          subst hx
          refine (pe_listRg w.calm g1 g4 hr (star_cons hs)).imp fun σ H Q ⟨M, A, S, σd, R, sr, p⟩ => ?_
          simp only [evE] at p
          refine ⟨M, A, S, σd, R, sr, (post.bind p).imp fun ds H1 M1 A1 S1 f1 R1 p1 a b ok e R1 => ?_⟩
          obtain ⟨ds, gd⟩ := ds
          subst e
          simp only [Bool.false_eq_true, if_false] at p1
          exact ⟨ok, fun q hq => newM_post R1 hq (rps_rng a b) (hz ok) p1⟩
      | [], _, c => exact no (by unfold chkE at c; cases c)
      | [_], _ :: _, c => exact no (by unfold chkE at c; cases c)
      | _ :: _ :: _, _, c => exact no (by unfold chkE at c; cases c)
    | _ => exact no (by unfold chkE at c; cases c)
  | _ => exact no (by unfold chkE at c; cases c)
end
end KA
/-! KARev: x[::-1] of lists and tuples, methods that only read. -/
namespace KA
open PySem PySem.Spec PyProof.Rows L2
section
variable {prog : Program} {w : World} {A : Around} {E : Value → Shared → Prop} {s : Shared}
theorem adj_rev (n : Nat) : Builtin.Slice.sliceAdjust none none (-1) (n : Int) = ((n : Int) - 1, -1) := rfl
theorem places_rev (n : Nat) : Builtin.Slice.slicePlaces ((n : Int) - 1) (-1) (-1) = n := by
  unfold Builtin.Slice.slicePlaces
  rw [if_neg (by decide)]
  split
  · rw [Int.neg_neg, Int.ediv_one]; omega
  · show (0 : Int).toNat = n
    simp; omega
theorem applied_rev {sl : Addr} {vl vu vs : Value} {n : Nat} {Q : Int × Int × Nat → Shared → Prop} (hs : s.heap.IsSliceOf sl vl vu vs) (pl : IsPart vl none) (pu : IsPart vu none) (ps : IsPart vs (some (-1)))
    (h : Q ((n : Int) - 1, -1, n) s) : wpAny (model prog w) A (Builtin.Slice.sliceApplied (.ref sl) (pure (n : Int))) Q E s := by
  obtain ⟨os, hos, hcs, hds⟩ := id hs
  unfold Builtin.Slice.sliceApplied Builtin.Slice.sliceFields
  refine wpAny_bind (wpAny_bind (wpAny_field hos hds (x := vl) rfl (wpAny_bind (wpAny_field hos hds (x := vu) rfl (wpAny_bind (wpAny_field hos hds (x := vs) rfl (wpAny_pure ?_)))))))
  refine wpAny_bind (HT.slicePart_ ps ?_)
  show wpAny _ _ (if ((-1 : Int) == 0) = true then _ else _) _ _ s
  rw [if_neg (by decide)]
  refine wpAny_bind (HT.slicePart_ pl (wpAny_bind (HT.slicePart_ pu (wpAny_bind (wpAny_pure ?_)))))
  show wpAny _ _ (match Builtin.Slice.sliceAdjust none none (-1) (n : Int) with | (lo, hi) => pure (lo, (-1 : Int), Builtin.Slice.slicePlaces lo hi (-1))) _ _ s
  rw [adj_rev]
  show wpAny _ _ (pure ((n : Int) - 1, (-1 : Int), Builtin.Slice.slicePlaces ((n : Int) - 1) (-1) (-1))) _ _ s
  rw [places_rev]
  exact wpAny_pure h
theorem fm_map {α β : Type} {f : α → Option β} {g : α → β} : ∀ {l : List α}, (∀ m ∈ l, f m = some (g m)) → l.filterMap f = l.map g
  | [], _ => rfl
  | a :: l, h => by
    rw [List.filterMap_cons, h a (by simp), List.map_cons, fm_map fun m hm => h m (by simp [hm])]
theorem pick_rev (xs : Array Value) : ((List.range xs.size).filterMap fun (m : Nat) => xs[(((xs.size : Int) - 1) + (m : Int) * (-1)).toNat]?).toArray = xs.toList.reverse.toArray := by
  congr 1
  apply List.ext_getElem?
  intro i
  have e : (List.range xs.size).filterMap (fun (m : Nat) => xs[(((xs.size : Int) - 1) + (m : Int) * (-1)).toNat]?) = (List.range xs.size).map fun m => xs.toList.reverse[m]?.getD .none := by
    refine fm_map fun m hm => ?_
    have hm' := List.mem_range.mp hm
    have h1 : (((xs.size : Int) - 1) + (m : Int) * (-1)).toNat = xs.size - 1 - m := by omega
    rw [h1]
    have h2 : m < xs.toList.reverse.length := by simp; omega
    simp [List.getElem?_eq_getElem h2, Array.getElem?_eq_getElem (show xs.size - 1 - m < xs.size by omega), List.getElem_reverse]
  rw [e]
  by_cases hi : i < xs.size
  · have h2 : i < xs.toList.reverse.length := by simp; omega
    simp [List.getElem?_map, List.getElem?_range hi, List.getElem?_eq_getElem h2]
  · rw [List.getElem?_eq_none (by simp; omega), List.getElem?_eq_none (by simp; omega)]
theorem getItem_tuple_rev {t sl : Addr} {items : Array Value} {vl vu vs : Value} {Q : Value → Shared → Prop} (ht : IsTup s.heap t items) (hs : s.heap.IsSliceOf sl vl vu vs) (pl : IsPart vl none) (pu : IsPart vu none) (ps : IsPart vs (some (-1)))
    (h : Q (.ref s.heap.objs.size) { s with heap := s.heap.push { cls := .type "tuple", data := .seq items.toList.reverse.toArray } })
    (hsz : items.size ≤ sizeLine) : wpAny (model prog w) A (getItem (.ref t) (.ref sl)) Q E s := by
  have htake : sizeOk (.seq items.toList.reverse.toArray) := by
    show (items.toList.reverse.toArray).size ≤ sizeLine
    rw [List.size_toArray, List.length_reverse, Array.length_toList]
    exact hsz
  obtain ⟨os, hos, hcs, hds⟩ := id hs
  have hTs : s.TypeIs (.ref sl) "slice" := ⟨os, hos, hcs⟩
  unfold getItem
  try with_reducible refine wpAny_holding ?_
  first | refine wpAny_bind (wpAny_pure ?_) | skip
  refine wpAny_bind (wpAny_sequenceKey ht.typeIs (by decide) ?_)
  refine wpAny_bind (wpAny_callSpecial?_slot (name := Str.ofString "__getitem__") ht.typeIs PyProof.Rows.slot_tuple_getitem
    (wpAny_call_entry PyProof.Rows.slot_tuple_getitem ht.typeIs entry_tuple_getitem ?_ (args_tuple_getitem _ _)))
  show wpAny _ _ (Builtin.Tuple.tupleItemsOf (.ref t) >>= _) _ _ s
  refine wpAny_bind (tupleItemsOf_ ht ?_)
  refine wpAny_bind (wpAny_typeOf hTs ?_)
  rw [if_pos (by decide)]
  refine wpAny_bind (applied_rev hs pl pu ps ?_)
  have hno : ¬ (((items.size : Int) - 1 == 0 && (-1 : Int) == 1 && items.size == items.size) = true) := by simp
  show wpAny _ _ (if ((items.size : Int) - 1 == 0 && (-1 : Int) == 1 && items.size == items.size) = true then _ else _) _ _ s
  rw [if_neg hno, pick_rev]
  first
    | exact wpAny_bind (m := Builtin.Tuple.tupleExact _) (wpAny_newObj_type (wpAny_pure ⟨_, rfl, wpAny_pure h⟩) htake)
    | exact wpAny_bind (m := Builtin.Tuple.tupleExact _) (wpAny_newObj_type (wpAny_bind (wpAny_pure (wpAny_pure ⟨_, rfl, wpAny_pure h⟩))) htake)
    | exact wpAny_bind (wpAny_bind (m := Builtin.Tuple.tupleExact _) (wpAny_newObj_type (wpAny_pure (wpAny_pure ⟨_, rfl, wpAny_pure h⟩)) htake))
    | exact wpAny_bind (wpAny_bind (m := Builtin.Tuple.tupleExact _) (wpAny_newObj_type (wpAny_pure ⟨_, rfl, wpAny_pure h⟩) htake))
end
section
variable {X : Cx}
def tRevA (K : PySem.W.Frag) (te : TE) : TE := fun σ H Q => te σ H fun x H1 => ∃ a xs, x = .ref a ∧ ((SqL K H1 a xs ∧ ∀ p, H1 p = none → Q (.ref p) (upd H1 p (.lst xs.reverse))) ∨ (SqT K H1 a xs ∧ ∀ p, H1 p = none → Q (.ref p) (upd H1 p (.tup xs.reverse))))
theorem pe_revA {e : Expr} {te : TE} {k : Nat} {p1 p2 p3 pos : Pos} (he : PE X e te) : PE X (.Subscript e (.Slice none none (some (.UnaryOp .USub (.Constant (.int 1) k p1) p2)) p3) pos) (tRevA X.K te) := by
  refine ⟨fun pins s σ H Q I h => ?_⟩
  refine Subscript_ (thn (he.run pins s σ H _ I h) fun v s1 ⟨x, H1, I1, r1, q1⟩ => ?_)
  obtain ⟨a, xs, ex, q⟩ := q1
  subst ex
  cases r1
  have hst : PO X (some (.UnaryOp .USub (.Constant (.int 1) k p1) p2)) (tPart (tUn (rU fun i => .int (-i)) (tC (.int 1)))) := po_some (pe_un un_neg pe_int)
  refine wpAny_Slice (thn (po_none.run pins s1 σ H1 (fun o H2 => o = none ∧ H2 = H1) I1 ⟨rfl, rfl⟩) fun vl s2 ⟨l, H2, I2, pl, el, e2⟩ => ?_)
  subst el e2
  refine thn (po_none.run pins s2 σ H2 (fun o H3 => o = none ∧ H3 = H2) I2 ⟨rfl, rfl⟩) fun vu s3 ⟨u, H3, I3, pu, eu, e3⟩ => ?_
  subst eu e3
  refine thn (hst.run pins s3 σ H3 (fun o H4 => o = some (-1) ∧ H4 = H3) I3 ⟨1, rfl, -1, rfl, rfl, rfl⟩) fun vs s4 ⟨o, H4, I4, ps, eo, e4⟩ => ?_
  subst eo e4
  have I5 : Inv X pins σ H4 { s4 with heap := s4.heap.push { cls := .type "slice", data := .fields #[vl, vu, vs] } } := I4.kept (t' := s4.toks) fun b ob q => Heap.get?_push_of_some _ q
  show wpAny (model X.prog X.w) X.A (subscriptTail e (.Slice none none (some (.UnaryOp .USub (.Constant (.int 1) k p1) p2)) p3) (.ref a) (.ref s4.heap.objs.size)) (EP X pins σ Q) X.xe { s4 with heap := s4.heap.push { cls := .type "slice", data := .fields #[vl, vu, vs] } }
  rcases q with ⟨hx, q⟩ | ⟨hx, q⟩
  · obtain ⟨its, r, ht, hz⟩ := I5.list hx
    have hlen := r.length
    refine tail_any (ops := [.ref a, .ref s4.heap.objs.size]) ht.isList.typeIs (PySem.slot_list_getitem.lookup) ?_ (by with_unfolding_all rfl)
    refine wpAny_getItem_list_slice ht.isList (Heap.IsSliceOf.new _ vl vu vs) pl pu ps (by decide) ?_ (by rw [List.size_toArray]; omega)
    rw [PySem.W.krv_pick]
    refine ⟨.ref _, _, I5.laid (t' := s4.toks) (o := .lst xs.reverse) (fun b ob q => Heap.get?_push_of_some _ q) (Nat.le_refl _) ?_, rfl, q _ (I5.hok.fresh (Nat.le_refl _))⟩
    exact ⟨by rw [List.length_reverse]; exact hz, _, 0, r.reverse, Heap.get?_push_size _ rfl⟩
  · obtain ⟨its, r, ht, hz⟩ := I5.tuple hx
    have hlen := r.length
    refine tail_any (ops := [.ref a, .ref s4.heap.objs.size]) ht.typeIs (PyProof.Rows.slot_tuple_getitem.lookup) ?_ (by with_unfolding_all rfl)
    refine getItem_tuple_rev ht (Heap.IsSliceOf.new _ vl vu vs) pl pu ps ?_ (by rw [List.size_toArray]; omega)
    refine ⟨.ref _, _, I5.laid (t' := s4.toks) (o := .tup xs.reverse) (fun b ob q => Heap.get?_push_of_some _ q) (Nat.le_refl _) ?_, rfl, q _ (I5.hok.fresh (Nat.le_refl _))⟩
    exact ⟨by rw [List.length_reverse]; exact hz, _, r.reverse, IsTup.new _ _⟩
end
section
variable {D : Dom} {k : Nat}
theorem se_rev {a : CE} (ia : SE D k a) : SE D k (.rev a) := by
  intro X W Γ e w tk c
  have z : ∃ x kk p1 p2 p3 pos, e = .Subscript x (.Slice none none (some (.UnaryOp .USub (.Constant (.int 1) kk p1) p2)) p3) pos ∧ chkE D Γ a x = true := by
    unfold chkE at c
    split at c <;> simp_all
  obtain ⟨x, kk, p1, p2, p3, pos, rfl, c1⟩ := z
  refine (pe_revA (ia X W Γ x w tk c1)).imp fun σ H Q ⟨M, A, S, σd, R, sr, p⟩ => ?_
  simp only [evE] at p
  refine ⟨M, A, S, σd, R, sr, (post.bind p).imp fun v H1 M1 A1 S1 f1 R1 p1 u1 r1 => ?_⟩
  obtain ⟨a', z, ea, e, p4⟩ := op1_post p1
  cases a' with
  | list ds =>
    cases e
    obtain ⟨q, xs, rfl, hs, rs, hz⟩ := R1.rdL r1 ea
    refine ⟨q, xs, rfl, .inl ⟨hs, fun p' hp' => ?_⟩⟩
    exact p4 _ _ _ (Fm.new hp') (R1.new hp') _ (Rp.lst (.of upd_same (R1.nM hp') (by rw [List.length_reverse]; exact hz)) (rs.reverse.stay (stay_new hp')))
  | tuple ds =>
    cases e
    obtain ⟨q, xs, rfl, hs, hf, rs, hz⟩ := rdT r1 ea
    refine ⟨q, xs, rfl, .inr ⟨hs, fun p' hp' => ?_⟩⟩
    exact p4 _ _ _ (Fm.new hp') (R1.new hp') _ (Rp.tup (.of upd_same (R1.nM hp') (by rw [List.length_reverse]; exact hz)) (rs.reverse.stay (stay_new hp')))
  | _ => cases e
end
end KA
/-! KAIter: what is walked. -/
namespace KA
open PySem PySem.Spec PyProof.Rows L2
open AutoSeq1 (wpAny_loadPart')
/-! ### enumerate of a tuple -/
theorem meets_enumT_new (l : Addr) (items : Array Value) :
    Meets (Builtin.«enumerate.__new__» ⟨[.type "enumerate", .ref l], []⟩) (fun _ R s => s.heap.IsTuple l items ∧
      R (.ok (.ret (.ref (s.heap.push { cls := .type "tuple_iterator", data := .fields #[.ref l, .int 0 0] }).objs.size)))
        { s with heap := (s.heap.push { cls := .type "tuple_iterator", data := .fields #[.ref l, .int 0 0] }).push { cls := .type "enumerate", data := .fields #[.none, .bool false, .ref s.heap.objs.size, rawInt 0, .none, .none] } }) :=
  .of_wp fun prog w A R s h => by
    obtain ⟨hp, g, d, tk, os⟩ := s; obtain ⟨hl, h⟩ := h
    have hsub := sub_enumerate
    have hL : Heap.IsTuple (Shared.heap ⟨hp, g, d, tk, os⟩) l items := hl
    wp_walk
    refine wpAny_stack_any fun st => wpAny_pure ?_
    split
    · rename_i c _ _ _ _ _
      cases (c == Value.type "enumerate")
      · wp_walk using wpAny_pyIter_tuple hL
        exact ⟨_, rfl, h⟩
      · wp_walk using wpAny_pyIter_tuple hL
        exact ⟨_, rfl, h⟩
    · wp_walk using wpAny_pyIter_tuple hL
      exact ⟨_, rfl, h⟩
section
variable {prog : Program} {w : World} {A : Around} {E : Value → Shared → Prop} {s : Shared}
theorem call_enumT {l : Addr} {items : Array Value} {Q : Value → Shared → Prop} (hL : s.heap.IsTuple l items)
    (h : ∀ h', IsEnum h' (s.heap.objs.size + 1) s.heap.objs.size 0 .none → h'.IsTupleIter s.heap.objs.size l 0 → h'.objs.size = s.heap.objs.size + 2 →
      (∀ b o, s.heap.get? b = some o → h'.get? b = some o) → Q (.ref (s.heap.objs.size + 1)) { s with heap := h' }) :
    wpAny (model prog w) A (call (.type "enumerate") [.ref l]) Q E s := by
  refine callType_new F.called_enumerate (by decide) (F.typeCall_enumerate_1 _) (F.newCall_enumerate_1 _) (fun obj => F.args_object_init_2 obj _) F.entry_enumerate_new
    (meets_enumT_new l items) ⟨hL, ?_⟩
  have hz : (s.heap.push { cls := .type "tuple_iterator", data := .fields #[.ref l, .int 0 0] }).objs.size = s.heap.objs.size + 1 := Heap.size_push ..
  show _ ∧ _
  rw [hz]
  have he : IsEnum ((s.heap.push { cls := .type "tuple_iterator", data := .fields #[.ref l, .int 0 0] }).push
      { cls := .type "enumerate", data := .fields #[.none, .bool false, .ref s.heap.objs.size, rawInt 0, .none, .none] }) (s.heap.objs.size + 1) s.heap.objs.size 0 .none := by
    have := Heap.get?_push_size (s.heap.push { cls := .type "tuple_iterator", data := .fields #[.ref l, .int 0 0] })
      (o := { cls := .type "enumerate", data := .fields #[.none, .bool false, .ref s.heap.objs.size, rawInt 0, .none, .none] }) rfl
    rw [hz] at this; exact this
  refine ⟨⟨_, he, rfl⟩, h _ he ⟨_, Heap.get?_push_of_some _ (Heap.get?_push_size _ rfl), rfl, rfl⟩ (by rw [Heap.size_push, hz]) fun b o x => Heap.get?_push_of_some _ (Heap.get?_push_of_some _ x)⟩
end
def IteT (K : PySem.W.Frag) (a : Addr) : It :=
  ⟨fun i H => ∃ (xs : List V) (x : V), SqT K H a xs ∧ xs[i]? = some x, fun i H v H' => ∃ T x, v = .ref T ∧ H T = none ∧ H' = upd H T (.tup [.int (i : Nat), x]) ∧ ∀ xs, SqT K H a xs → xs[i]? = some x, fun i H => ∃ xs : List V, SqT K H a xs ∧ xs.length ≤ i⟩
theorem apart_tup {h : Heap} {a it : Addr} {items : Array Value} {i : Nat} (h1 : h.IsTuple a items) (h2 : h.IsTupleIter it a i) : a ≠ it := fun e => by
  subst e
  obtain ⟨o, e, c, _⟩ := h1
  obtain ⟨o2, e2, c2, _⟩ := h2
  rw [e] at e2; cases e2
  rw [c] at c2
  injection c2 with z
  exact absurd z (by decide)
theorem turn_enumT {P : Program} {w : World} {K : PySem.W.Frag} {elts : List Expr} {kk : Nat} {tpos : Pos} (a e it : Addr) :
    Turn P w K (.Tuple elts kk tpos) (IteT K a) [e, it] e (fun i h => (∃ old, IsEnum h e it ((i : Nat) : Int) old) ∧ h.IsTupleIter it a i ∧ e ≠ it ∧ e ≠ a) where
  mem := by simp
  obj := fun i h st b hb => by
    obtain ⟨⟨old, he⟩, ⟨o, ho, hc, hd⟩, _⟩ := st
    have e' : b = e ∨ b = it := by simpa using hb
    rcases e' with z | z
    · rw [z]; exact ⟨_, he, fun v q => nomatch q⟩
    · rw [z]; exact ⟨o, ho, fun v q => by rw [hd] at q; cases q⟩
  keep := fun i h h' st k => let ⟨⟨old, he⟩, hi, hne⟩ := st; ⟨⟨old, k e (by simp) _ he⟩, hi.at fun o q => k it (by simp) o q, hne⟩
  item := by
    intro X hP hw hK hc i pins s σ H E I hf st hg
    subst hP hw hK
    obtain ⟨⟨old, he⟩, hit, hne, hna⟩ := st
    obtain ⟨xs, x, hq, hx⟩ := hg
    obtain ⟨its, rv, p, hz⟩ := I.tuple hq
    obtain ⟨u, hu, ru⟩ := rv.get hx
    have hel : e < s.heap.objs.size := Heap.lt_size he
    have hil : it < s.heap.objs.size := by obtain ⟨_, q, _⟩ := hit; exact Heap.lt_size q
    have p' : s.heap.IsTuple a its.toArray := p
    have hai : a ≠ it := apart_tup p' hit
    have hlt : i < its.toArray.size := by
      have := (List.getElem?_eq_some_iff.mp hu).1
      simpa using this
    refine wpAny_pyNext_enum_itemD (Draws.tuple (show X.A.in1.handled = none from I.ok.hd hc) it a hai its.toArray) he ⟨hit, p'⟩ hlt hne (by simp; exact ⟨hne, hna⟩) fun y h' tk hy ho hit' hT hsz hk => ?_
    have ey : y = u := by
      have h1 : its.toArray[i]? = some u := by simpa using hu
      rw [h1] at hy
      exact (Option.some.inj hy).symm
    subst ey
    refine ⟨_, rfl, wpAny_letOwnedTupleGo_enum (s := { s with heap := h', toks := tk + 1 }) ho fun h'' he' sb => ?_⟩
    have hT2 : h''.get? s.heap.objs.size = some { cls := .type "tuple", data := .seq #[.int i tk, y] } := (sb.2 _ (Nat.ne_of_gt hel)).trans hT
    have new : ObjOk X.prog X.w (upd H s.heap.objs.size (.tup [.int (i : Nat), x])) h'' s.heap.objs.size (.tup [.int (i : Nat), x]) :=
      ⟨by show 2 ≤ sizeLine; decide, [.int i tk, y], .cons ⟨_, rfl⟩ (.cons ru .nil), ⟨_, hT2, rfl, _, rfl⟩⟩
    have I1 : Inv X pins σ (upd H s.heap.objs.size (.tup [.int (i : Nat), x])) { s with heap := h'', toks := tk + 1 } :=
      I.turnedNew (ch := [e, it]) (fun b ob hb q => (sb.2 b (fun z => hb (by simp [z]))).trans (hk b ob (fun z => hb (by simp [z])) (fun z => hb (by simp [z])) q)) hf (Nat.le_refl _) new
    refine ⟨.ref s.heap.objs.size, _, I1, rfl, ⟨_, x, rfl, I.hok.fresh (Nat.le_refl _), rfl, fun ys hy => by rw [I.tuple_inj hy hq]; exact hx⟩, ⟨⟨y, ?_⟩, hit'.1.at fun o q => (sb.2 it (Ne.symm hne)).trans q, hne, hna⟩, fun b hb => ?_⟩
    · have e1 : ((i + 1 : Nat) : Int) = (i : Int) + 1 := by omega
      rw [e1]; exact he'
    · have hb' : b < s.heap.objs.size := by
        have e' : b = e ∨ b = it := by simpa using hb
        rcases e' with z | z
        · rw [z]; exact hel
        · rw [z]; exact hil
      rw [upd_ne (Nat.ne_of_lt hb')]
      exact (hf b hb).1
  done := by
    intro X hP hw hK hc i pins s σ H E I hf st hg
    subst hP hw hK
    obtain ⟨⟨old, he⟩, hit, hne, hna⟩ := st
    obtain ⟨xs, hq, hx⟩ := hg
    obtain ⟨its, rv, p, hz⟩ := I.tuple hq
    obtain ⟨f0, f1, f2, f3, f4, f5⟩ := hf it (by simp)
    have hl := rv.length
    have p' : s.heap.IsTuple a its.toArray := p
    unfold pyNext
    refine wpAny_bind (wpAny_attempt (wpAny_callSpecial?_slot (name := Str.ofString "__next__") (show s.TypeIs (.ref e) "enumerate" from ⟨_, he, rfl⟩) F.slot_enumerate_next
      (wpAny_call_entry F.slot_enumerate_next (show s.TypeIs (.ref e) "enumerate" from ⟨_, he, rfl⟩) F.entry_enumerate_next ?_ (F.args_enumerate_next_1 _))))
    show wpAny _ _ (field (.ref e) 2 >>= _) _ _ _
    refine wpAny_bind (wpAny_field he rfl (x := .ref it) rfl ?_)
    refine wpAny_bind (wpAny_nextOf_tuple_end (show X.A.in1.handled = none from I.ok.hd hc) hit p' (by simp; omega) fun h' x eb hx' => ?_)
    obtain ⟨o, ho, hcl⟩ := hx'
    refine wpAny_bind (wpAny_isInstance (T := "StopIteration") (b := true) ⟨o, ho, hcl⟩ isSubtype_stop ?_)
    exact wpAny_pure ⟨rfl, I.turned (t' := s.toks) (fun b o hb q => eb b o hb q) f0 f1 f3 f4 f5⟩
  self := fun A i s Q E st h => let ⟨⟨_, he⟩, _⟩ := st; wpAny_pyIter_enum he h
def iEnumA (K : PySem.W.Frag) (ta : TA) : TI := fun σ H R => ta σ H fun vs H1 => ∃ a xs, vs = [.ref a] ∧ ((SqL K H1 a xs ∧ R (Ite K a) H1) ∨ (SqT K H1 a xs ∧ R (IteT K a) H1))
theorem pi_enumA {X : Cx} {e : Expr} {ta : TA} {p pos tpos : Pos} {elts : List Expr} {kk : Nat} (hg : Gl X "enumerate") (hm : X.mg "enumerate" = none) (ha : PA X [e] ta) (hs : starEach [e] X.env = [(false, eval e X.env)] := by rfl) :
    PI X (.Tuple elts kk tpos) (.Call (.Name "enumerate" p) [e] [] pos) (iEnumA X.K ta) := by
  refine ⟨fun pins s σ H R I h => ?_⟩
  refine Call_ (ld_blt I hg hm boot_enumerate (PyProof.Rows.callWith_type1 (thn (ha.run pos pins s σ H _ I h) fun us s1 ⟨vs, H1, I1, r1, q1⟩ => ?_) hs rfl))
  obtain ⟨a, xs, ex, q1⟩ := q1
  subst ex
  cases r1 with
  | cons r rr =>
    cases rr
    cases r
    have fr : ∀ b ∈ [s1.heap.objs.size + 1, s1.heap.objs.size], FpOk X pins H1 b := fun b hb => by
      have e' : b = s1.heap.objs.size + 1 ∨ b = s1.heap.objs.size := by simpa using hb
      have hle : s1.heap.objs.size ≤ b := by
        rcases e' with z | z
        · rw [z]; exact Nat.le_add_right _ _
        · rw [z]; exact Nat.le_refl _
      exact I1.fpOk hle (I1.hok.fresh hle)
    rcases q1 with ⟨hq, q⟩ | ⟨hq, q⟩
    · obtain ⟨its, rv, p', hz⟩ := I1.list hq
      refine call_enumerate_list p'.isList fun h' he hit hsz hk => wpAny_pyIter_enum he ?_
      have I2 : Inv X pins σ H1 { s1 with heap := h' } := I1.kept (t' := s1.toks) hk
      exact ⟨s1.heap.objs.size + 1, [s1.heap.objs.size + 1, s1.heap.objs.size], _, _, H1, rfl, I2, turn_enum a (s1.heap.objs.size + 1) s1.heap.objs.size, ⟨⟨.none, he⟩, hit, Nat.succ_ne_self _⟩, fr, q⟩
    · obtain ⟨its, rv, p', hz⟩ := I1.tuple hq
      have p2 : s1.heap.IsTuple a its.toArray := p'
      have hlt : a < s1.heap.objs.size := by obtain ⟨o, e, _⟩ := p2; exact Heap.lt_size e
      refine call_enumT p2 fun h' he hit hsz hk => wpAny_pyIter_enum he ?_
      have I2 : Inv X pins σ H1 { s1 with heap := h' } := I1.kept (t' := s1.toks) hk
      exact ⟨s1.heap.objs.size + 1, [s1.heap.objs.size + 1, s1.heap.objs.size], _, _, H1, rfl, I2, turn_enumT a (s1.heap.objs.size + 1) s1.heap.objs.size, ⟨⟨.none, he⟩, hit, Nat.succ_ne_self _, fun z => Nat.lt_irrefl _ (Nat.lt_trans (z ▸ hlt) (Nat.lt_succ_self _))⟩, fr, q⟩
end KA
/-! KAZip3: zip of three tuples. -/
namespace KA
open PySem PySem.Spec PyProof.Rows L2
def Itz3T (K : PySem.W.Frag) (a b c : Addr) : It :=
  ⟨fun i H => ∃ (xs ys zs : List V) (x y z : V), SqT K H a xs ∧ SqT K H b ys ∧ SqT K H c zs ∧ xs[i]? = some x ∧ ys[i]? = some y ∧ zs[i]? = some z,
   fun i H v H' => ∃ T x y z, v = .ref T ∧ H T = none ∧ H' = upd H T (.tup [x, y, z]) ∧ (∀ xs, SqT K H a xs → xs[i]? = some x) ∧ (∀ ys, SqT K H b ys → ys[i]? = some y) ∧ ∀ zs, SqT K H c zs → zs[i]? = some z,
   fun i H => ∃ xs ys zs : List V, SqT K H a xs ∧ SqT K H b ys ∧ SqT K H c zs ∧ i = min (min xs.length ys.length) zs.length⟩
theorem turn_zip3T {P : Program} {w : World} {K : PySem.W.Frag} {elts : List Expr} {kk : Nat} {tpos : Pos} {z TI TO i1 i2 i3 a b c : Addr} (S : ZipSep3 z TI TO i1 i2 i3 [i1, a] [i2, b] [i3, c]) (h1 : a ≠ i1) (h2 : b ≠ i2) (h3 : c ≠ i3) :
    Turn P w K (.Tuple elts kk tpos) (Itz3T K a b c) [z, TI, TO, i1, i2, i3] z (fun i h => IsZip h z TI TO .none ∧ IsTupOf3 h TI (.ref i1) (.ref i2) (.ref i3) ∧ (∃ x y u, IsTupOf3 h TO x y u) ∧ h.IsTupleIter i1 a i ∧ h.IsTupleIter i2 b i ∧ h.IsTupleIter i3 c i) where
  mem := by simp
  obj := fun i h st q hq => by
    obtain ⟨hz, hTI, ⟨x, y, u, hTO⟩, ⟨o1, e1, _, d1⟩, ⟨o2, e2, _, d2⟩, ⟨o3, e3, _, d3⟩⟩ := st
    have e' : q = z ∨ q = TI ∨ q = TO ∨ q = i1 ∨ q = i2 ∨ q = i3 := by simpa using hq
    rcases e' with r | r | r | r | r | r
    · exact r ▸ ⟨_, hz, fun v q => nomatch q⟩
    · exact r ▸ ⟨_, hTI, fun v q => nomatch q⟩
    · exact r ▸ ⟨_, hTO, fun v q => nomatch q⟩
    · exact r ▸ ⟨o1, e1, fun v q => by rw [d1] at q; cases q⟩
    · exact r ▸ ⟨o2, e2, fun v q => by rw [d2] at q; cases q⟩
    · exact r ▸ ⟨o3, e3, fun v q => by rw [d3] at q; cases q⟩
  keep := fun i h h' st k => by
    obtain ⟨hz, hTI, ⟨x, y, u, hTO⟩, s1, s2, s3⟩ := st
    exact ⟨k z (by simp) _ hz, k TI (by simp) _ hTI, ⟨x, y, u, k TO (by simp) _ hTO⟩, s1.at fun o q => k i1 (by simp) o q, s2.at fun o q => k i2 (by simp) o q, s3.at fun o q => k i3 (by simp) o q⟩
  item := by
    intro X hP hw hK hc i pins s σ H E I hf st hg
    subst hP hw hK
    obtain ⟨hz, hTI, ⟨x0, y0, u0, hTO⟩, s1, s2, s3⟩ := st
    obtain ⟨xs, ys, zs, x, y, u, hqx, hqy, hqz, hx, hy, hu⟩ := hg
    obtain ⟨its1, rv1, p1, _⟩ := I.tuple hqx
    obtain ⟨its2, rv2, p2, _⟩ := I.tuple hqy
    obtain ⟨its3, rv3, p3, _⟩ := I.tuple hqz
    obtain ⟨v1, hv1, r1⟩ := rv1.get hx
    obtain ⟨v2, hv2, r2⟩ := rv2.get hy
    obtain ⟨v3, hv3, r3⟩ := rv3.get hu
    have hh : X.A.in1.handled = none := I.ok.hd hc
    have hl1 := (List.getElem?_eq_some_iff.mp hv1).1
    have hl2 := (List.getElem?_eq_some_iff.mp hv2).1
    have hl3 := (List.getElem?_eq_some_iff.mp hv3).1
    have W := WalksT.zipD3 (prog := X.prog) (w := X.w) (A := X.A) S (Draws.tuple hh i1 a h1 its1.toArray) (Draws.tuple hh i2 b h2 its2.toArray) (Draws.tuple hh i3 c h3 its3.toArray)
    refine W.item i s _ _ (by simp; omega) ⟨hz, hTI, ⟨x0, y0, u0, hTO⟩, ⟨s1, p1⟩, ⟨s2, p2⟩, ⟨s3, p3⟩⟩ fun T vals h' tk hP hT hTup hMid hk => ?_
    obtain ⟨w1, w2, w3, e1, e2, e3, rfl⟩ := hP
    have f1 : w1 = v1 := by
      have : its1.toArray[i]? = some v1 := by simpa using hv1
      rw [this] at e1; exact (Option.some.inj e1).symm
    have f2 : w2 = v2 := by
      have : its2.toArray[i]? = some v2 := by simpa using hv2
      rw [this] at e2; exact (Option.some.inj e2).symm
    have f3 : w3 = v3 := by
      have : its3.toArray[i]? = some v3 := by simpa using hv3
      rw [this] at e3; exact (Option.some.inj e3).symm
    subst f1 f2 f3
    have hap := W.apart i T h' hMid
    refine ⟨_, rfl, W.go elts kk tpos i T { s with heap := h', toks := tk } _ _ hMid fun h'' hSt hk2 => ?_⟩
    have hT2 : h''.IsTuple T #[w1, w2, w3] := hTup.at fun o q => hk2 T o hap q
    have new : ObjOk X.prog X.w (upd H T (.tup [x, y, u])) h'' T (.tup [x, y, u]) :=
      ⟨by show 3 ≤ sizeLine; decide, [w1, w2, w3], .cons r1 (.cons r2 (.cons r3 .nil)), hT2⟩
    have sub : ∀ q, q ∉ [z, TI, TO, i1, i2, i3] → q ∉ [z, TO, i1, i2, i3] := fun q hq hm => hq (by simp at hm ⊢; rcases hm with h | h | h | h | h <;> simp [h])
    have I1 : Inv X pins σ (upd H T (.tup [x, y, u])) { s with heap := h'', toks := tk } :=
      I.turnedNew (ch := [z, TI, TO, i1, i2, i3]) (fun q o hb e => hk2 q o (sub q hb) (hk q o (sub q hb) e)) hf hT new
    obtain ⟨g1, g2, g3, ⟨g4, _⟩, ⟨g5, _⟩, ⟨g6, _⟩⟩ := hSt
    refine ⟨.ref T, _, I1, rfl, ⟨T, x, y, u, rfl, I.hok.fresh hT, rfl, fun l hl => by rw [I.tuple_inj hl hqx]; exact hx, fun l hl => by rw [I.tuple_inj hl hqy]; exact hy, fun l hl => by rw [I.tuple_inj hl hqz]; exact hu⟩, ⟨g1, g2, g3, g4, g5, g6⟩, fun q hq => ?_⟩
    have hq' : q < s.heap.objs.size := by
      have e' : q = z ∨ q = TI ∨ q = TO ∨ q = i1 ∨ q = i2 ∨ q = i3 := by simpa using hq
      obtain ⟨o1, e1, _⟩ := s1
      obtain ⟨o2, e2, _⟩ := s2
      obtain ⟨o3, e3, _⟩ := s3
      rcases e' with r | r | r | r | r | r
      · exact r ▸ Heap.lt_size hz
      · exact r ▸ Heap.lt_size hTI
      · exact r ▸ Heap.lt_size hTO
      · exact r ▸ Heap.lt_size e1
      · exact r ▸ Heap.lt_size e2
      · exact r ▸ Heap.lt_size e3
    rw [upd_ne (Nat.ne_of_lt (Nat.lt_of_lt_of_le hq' hT))]
    exact (hf q hq).1
  done := by
    intro X hP hw hK hc i pins s σ H E I hf st hg
    subst hP hw hK
    obtain ⟨hz, hTI, ⟨x0, y0, u0, hTO⟩, s1, s2, s3⟩ := st
    obtain ⟨xs, ys, zs, hqx, hqy, hqz, hi⟩ := hg
    obtain ⟨its1, rv1, p1, _⟩ := I.tuple hqx
    obtain ⟨its2, rv2, p2, _⟩ := I.tuple hqy
    obtain ⟨its3, rv3, p3, _⟩ := I.tuple hqz
    have hh : X.A.in1.handled = none := I.ok.hd hc
    have W := WalksT.zipD3 (prog := X.prog) (w := X.w) (A := X.A) S (Draws.tuple hh i1 a h1 its1.toArray) (Draws.tuple hh i2 b h2 its2.toArray) (Draws.tuple hh i3 c h3 its3.toArray)
    have hn : min (min its1.toArray.size its2.toArray.size) its3.toArray.size = i := by
      have e1 := rv1.length
      have e2 := rv2.length
      have e3 := rv3.length
      simp
      omega
    have sub : ∀ q, q ∉ [z, TI, TO, i1, i2, i3] → q ∉ [z, TO, i1, i2, i3] := fun q hq hm => hq (by simp at hm ⊢; rcases hm with h | h | h | h | h <;> simp [h])
    refine W.done s _ _ (by rw [hn]; exact ⟨hz, hTI, ⟨x0, y0, u0, hTO⟩, ⟨s1, p1⟩, ⟨s2, p2⟩, ⟨s3, p3⟩⟩) fun h' tk hk => ⟨rfl, ?_⟩
    exact I.turnedL (t' := tk) (ch := [z, TI, TO, i1, i2, i3]) (fun q o hb e => hk q o (sub q hb) e) hf
  self := fun A i s Q E st h => wpAny_pyIter_zip st.1 h
def iZip3 (K : PySem.W.Frag) (ta : TA) : TI := fun σ H R => ta σ H fun vs H1 => ∃ a b c xs ys zs, vs = [.ref a, .ref b, .ref c] ∧ SqT K H1 a xs ∧ SqT K H1 b ys ∧ SqT K H1 c zs ∧ R (Itz3T K a b c) H1
theorem zip3_sep {N a b c : Nat} (ha : a < N) (hb : b < N) (hc : c < N) : ZipSep3 (N + 5) (N + 3) (N + 4) N (N + 1) (N + 2) [N, a] [N + 1, b] [N + 2, c] :=
  zip_sep3 (fp1 := [a]) (fp2 := [b]) (fp3 := [c]) (fun q h => List.mem_singleton.mp h ▸ ha) (fun q h => List.mem_singleton.mp h ▸ hb) (fun q h => List.mem_singleton.mp h ▸ hc)
theorem pi_zip3 {X : Cx} {e e2 e3 : Expr} {ta : TA} {p pos tpos : Pos} {elts : List Expr} {kk : Nat} (hg : Gl X "zip") (hm : X.mg "zip" = none) (ha : PA X [e, e2, e3] ta)
    (hs : starEach [e, e2, e3] X.env = (false, eval e X.env) :: starEach [e2, e3] X.env) (hpl : (backTo pos (starEach [e2, e3] X.env)).any (·.1) = false) :
    PI X (.Tuple elts kk tpos) (.Call (.Name "zip" p) [e, e2, e3] [] pos) (iZip3 X.K ta) := by
  refine ⟨fun pins s σ H R I h => ?_⟩
  refine Call_ (ld_blt I hg hm PyProof.Rows.boot_zip (PyProof.Rows.callWith_type1 (thn (ha.run pos pins s σ H _ I h) fun us s1 ⟨vs, H1, I1, r1, q1⟩ => ?_) hs hpl))
  obtain ⟨a, b, c, xs, ys, zs, ex, hqx, hqy, hqz, q⟩ := q1
  subst ex
  cases r1 with
  | cons r rr =>
    cases rr with
    | cons r' rr =>
      cases rr with
      | cons r'' rr =>
        cases rr
        cases r
        cases r'
        cases r''
        obtain ⟨its1, rv1, p1, _⟩ := I1.tuple hqx
        obtain ⟨its2, rv2, p2, _⟩ := I1.tuple hqy
        obtain ⟨its3, rv3, p3, _⟩ := I1.tuple hqz
        obtain ⟨o1, ho1, _⟩ := id p1
        obtain ⟨o2, ho2, _⟩ := id p2
        obtain ⟨o3, ho3, _⟩ := id p3
        have l1 := Heap.lt_size ho1
        have l2 := Heap.lt_size ho2
        have l3 := Heap.lt_size ho3
        have fresh6 : ∀ q, q ∈ [s1.heap.objs.size + 5, s1.heap.objs.size + 3, s1.heap.objs.size + 4, s1.heap.objs.size, s1.heap.objs.size + 1, s1.heap.objs.size + 2] → FpOk X pins H1 q := fun q hq => by
          have hle : s1.heap.objs.size ≤ q := by
            have e' : q = s1.heap.objs.size + 5 ∨ q = s1.heap.objs.size + 3 ∨ q = s1.heap.objs.size + 4 ∨ q = s1.heap.objs.size ∨ q = s1.heap.objs.size + 1 ∨ q = s1.heap.objs.size + 2 := by simpa using hq
            rcases e' with z | z | z | z | z | z <;> rw [z] <;> first | exact Nat.le_add_right _ _ | exact Nat.le_refl _
          exact I1.fpOk hle (I1.hok.fresh hle)
        refine zip_begins3 (begins_tuple a its1.toArray) (begins_tuple b its2.toArray) (begins_tuple c its3.toArray) p1 p2 p3 fun h' hz hTI hTO g1 g2 g3 hsz hk => wpAny_pyIter_zip hz ?_
        have I2 : Inv X pins σ H1 { s1 with heap := h' } := I1.kept (t' := s1.toks) hk
        exact ⟨s1.heap.objs.size + 5, [s1.heap.objs.size + 5, s1.heap.objs.size + 3, s1.heap.objs.size + 4, s1.heap.objs.size, s1.heap.objs.size + 1, s1.heap.objs.size + 2], _, _, H1, rfl, I2,
          turn_zip3T (zip3_sep l1 l2 l3) (Nat.ne_of_lt l1) (Nat.ne_of_lt (Nat.lt_succ_of_lt l2)) (Nat.ne_of_lt (Nat.lt_succ_of_lt (Nat.lt_succ_of_lt l3))), ⟨hz, hTI, ⟨_, _, _, hTO⟩, ⟨_, g1, rfl, rfl⟩, ⟨_, g2, rfl, rfl⟩, ⟨_, g3, rfl, rfl⟩⟩, fresh6, q⟩
end KA
/-! KAIter2: what is walked, by the evaluator's items. -/
namespace KA
open PySem PySem.Spec PyProof.Rows L2
def Al (H : Hp) (M : Addr → Prop) : Prop := ∀ a, M a → ∃ o, H a = some o
/-- the iterator yields these items, whatever else happens -/
def Wk (K : PySem.W.Frag) (J : It) (items : List PD) (g : Gd) (H : Hp) (M : Addr → Prop) (A : List Addr) : Prop := ∀ H1 M1 A1 S1, Stay H M H1 M1 → (∃ B, A1 = A ++ B) → Rel K H1 M1 A1 S1 → gOk g S1 →
  (∀ i, i < items.length → J.go i H1) ∧ (∀ i, i = items.length → J.stop i H1) ∧
  ∀ i d, items[i]? = some d → ∀ x H2, J.yld i H1 x H2 → Rp K H2 M1 d x ∧ (H2 = H1 ∨ ∃ T o, H1 T = none ∧ H2 = upd H1 T o)
/-- a list that is walked -/
def Sc (K : PySem.W.Frag) (a : Addr) (ds : List PD) (g : Gd) (H : Hp) (M : Addr → Prop) (A : List Addr) : Prop := ∀ H1 M1 A1 S1, Stay H M H1 M1 → (∃ B, A1 = A ++ B) → Rel K H1 M1 A1 S1 →
  (∃ ys, SqL K H1 a ys) ∧ (gOk g S1 → ∃ ys, SqL K H1 a ys ∧ Rps K H1 M1 ds ys)
section
variable {K : PySem.W.Frag} {mg : Str → Option Value} {H H' : Hp} {M M' : Addr → Prop} {a b : Addr} {xs ys : List V} {ds es : List PD}
variable {A A' : List Addr} {S S' : Sto} {g g' : Gd}
theorem pre_trans {A1 A2 A3 : List Addr} (h : ∃ B, A2 = A1 ++ B) (h' : ∃ B, A3 = A2 ++ B) : ∃ B, A3 = A1 ++ B := by
  obtain ⟨B, rfl⟩ := h
  obtain ⟨C, rfl⟩ := h'
  exact ⟨B ++ C, by simp⟩
theorem Wk.stay {J : It} (w : Wk K J ds g H M A) (s : Stay H M H' M') (p : ∃ B, A' = A ++ B) : Wk K J ds g H' M' A' := fun H1 M1 A1 S1 s1 q R o => w H1 M1 A1 S1 (s.trans s1) (pre_trans p q) R o
theorem Sc.stay (w : Sc K a ds g H M A) (s : Stay H M H' M') (p : ∃ B, A' = A ++ B) : Sc K a ds g H' M' A' := fun H1 M1 A1 S1 s1 q R => w H1 M1 A1 S1 (s.trans s1) (pre_trans p q) R
theorem Sc.sq (w : Sc K a ds g H M A) (R : Rel K H M A S) : ∃ ys, SqL K H a ys := (w H M A S Stay.refl ⟨[], by simp⟩ R).1
theorem sc_data (hs : SqFL K H M a xs) (rs : Rps K H M ds xs) : Sc K a ds g H M A := fun H1 M1 A1 S1 s _ _ => ⟨⟨xs, (hs.stay s).sq⟩, fun _ => ⟨xs, (hs.stay s).sq, rs.stay s⟩⟩
theorem sc_loc {l : Nat} (e : A[l]? = some a) : Sc K a ds [(l, ds)] H M A := fun H1 M1 A1 S1 s ⟨B, q⟩ R => by
  have e1 : A1[l]? = some a := by
    rw [q, List.getElem?_append_left (List.getElem?_eq_some_iff.mp e).1]
    exact e
  have lt : l < S1.length := by rw [← R.len]; exact (List.getElem?_eq_some_iff.mp e1).1
  refine ⟨?_, fun o => ?_⟩
  · rcases sto_cases lt with ⟨ds', q⟩ | ⟨ds', q⟩
    · obtain ⟨_, ys, e', _, _⟩ := R.lst l ds' a q e1
      exact ⟨ys, SqL.of e'⟩
    · cases (R.frz l ds' a q e1).1 with
      | lst hs _ => exact ⟨_, hs.sq⟩
  · rcases o (l, ds) (by simp) with q | q
    · obtain ⟨_, ys, e', rs, _⟩ := R.lst l ds a q e1
      exact ⟨ys, SqL.of e', rs⟩
    · cases (R.frz l ds a q e1).1 with
      | lst hs rs => exact ⟨_, hs.sq, rs⟩
theorem src_post {W : XK} {γ : Type} {v : VV} {u : V} {f : PD × Gd → Sto → R γ} {Q : γ → Hp → (Addr → Prop) → List Addr → Sto → Prop} (R : Rel K H M A S) (hv : Vr K mg H M A v u) (h : post K mg W H M A S ((src S v).bind f) Q) :
    ∃ x g, post K mg W H M A S (f (x, g) S) Q ∧ ((∃ ds a, x = .list ds ∧ u = .ref a ∧ Sc K a ds g H M A) ∨ ((∀ ds, x ≠ .list ds) ∧ g = [] ∧ Rp K H M x u)) := by
  cases v with
  | d x =>
    refine ⟨x, [], h, ?_⟩
    cases x with
    | list ds =>
      cases (show Rp K H M (.list ds) u from hv) with
      | lst hs hr => exact .inl ⟨ds, _, rfl, rfl, sc_data hs hr⟩
    | _ => exact .inr ⟨fun _ e => (nomatch e), rfl, hv⟩
  | ex e => exact False.elim (show False from h)
  | loc l =>
    obtain ⟨a, ea, rfl⟩ := hv
    have lt : l < S.length := by rw [← R.len]; exact (List.getElem?_eq_some_iff.mp ea).1
    unfold src at h
    dsimp only at h
    rcases sto_cases lt with ⟨ds, q⟩ | ⟨ds, q⟩
    · rw [q] at h
      exact ⟨_, _, h, .inl ⟨ds, a, rfl, rfl, sc_loc ea⟩⟩
    · rw [q] at h
      cases (R.frz l ds a q ea).1 with
      | lst hs hr => exact ⟨_, _, h, .inl ⟨ds, a, rfl, rfl, sc_data hs hr⟩⟩
theorem Al.no (al : Al H M) (h : H a = none) : ¬ M a := fun m => by
  obtain ⟨o, e⟩ := al a m
  rw [h] at e; cases e
theorem Rps.at? (rs : Rps K H M ds xs) {i : Nat} (h : i < ds.length) : ∃ v, xs[i]? = some v ∧ Rp K H M ds[i] v := rs.get (by simp [h])
theorem wk_list (sc : Sc K a ds g H M A) : Wk K (Itl K a) ds g H M A := by
  intro H1 M1 A1 S1 s pp RR oo
  obtain ⟨xs, hs1, rs1⟩ := (sc H1 M1 A1 S1 s pp RR).2 oo
  refine ⟨fun i hi => ?_, fun i hi' => have hi := Nat.le_of_eq hi'.symm; ⟨xs, hs1, by rw [← rs1.length]; exact hi⟩, fun i d e x H2 ⟨e2, y⟩ => ?_⟩
  · obtain ⟨v, hv, _⟩ := rs1.at? hi
    exact ⟨xs, v, hs1, hv⟩
  · subst e2
    obtain ⟨v, hv, r⟩ := rs1.get e
    have := y xs hs1
    rw [hv] at this
    cases this
    exact ⟨r, .inl rfl⟩
theorem wk_tup (hs : SqFT K H M a xs) (rs : Rps K H M ds xs) : Wk K (Itt K a) ds [] H M A := by
  intro H1 M1 A1 S1 s pp RR oo
  have hs1 := (hs.stay s).sq
  have rs1 := rs.stay s
  refine ⟨fun i hi => ?_, fun i hi' => have hi := Nat.le_of_eq hi'.symm; ⟨xs, hs1, by rw [← rs.length]; exact hi⟩, fun i d e x H2 ⟨e2, y⟩ => ?_⟩
  · obtain ⟨v, hv, _⟩ := rs1.at? hi
    exact ⟨xs, v, hs1, hv⟩
  · subst e2
    obtain ⟨v, hv, r⟩ := rs1.get e
    have := y xs hs1
    rw [hv] at this
    cases this
    exact ⟨r, .inl rfl⟩
theorem enumD_len : ∀ (n : Nat) (ds : List PD), (enumD n ds).length = ds.length
  | _, [] => rfl
  | n, _ :: r => by unfold enumD; rw [List.length_cons, List.length_cons, enumD_len (n + 1) r]
theorem enumD_get : ∀ {n i : Nat} {ds : List PD} {d : PD}, (enumD n ds)[i]? = some d → ∃ x, ds[i]? = some x ∧ d = .tuple [.int ((n + i : Nat) : Int), x]
  | _, _, [], _, e => by simp [enumD] at e
  | n, 0, x :: r, d, e => by
    unfold enumD at e
    simp at e
    exact ⟨x, rfl, by rw [← e]; simp⟩
  | n, i + 1, x :: r, d, e => by
    unfold enumD at e
    obtain ⟨y, h1, h2⟩ := enumD_get (n := n + 1) (i := i) (ds := r) (d := d) (by simpa using e)
    exact ⟨y, by simpa using h1, by rw [h2]; congr 4; omega⟩
theorem zipD_len : ∀ (ds es : List PD), (zipD ds es).length = min ds.length es.length
  | [], _ => by simp [zipD]
  | _ :: _, [] => by simp [zipD]
  | _ :: r, _ :: r2 => by unfold zipD; simp only [List.length_cons]; rw [zipD_len r r2]; omega
theorem zipD_get : ∀ {i : Nat} {ds es : List PD} {d : PD}, (zipD ds es)[i]? = some d → ∃ x y, ds[i]? = some x ∧ es[i]? = some y ∧ d = .tuple [x, y]
  | _, [], _, _, e => by simp [zipD] at e
  | _, _ :: _, [], _, e => by simp [zipD] at e
  | 0, x :: _, y :: _, d, e => by
    unfold zipD at e
    simp at e
    exact ⟨x, y, rfl, rfl, e.symm⟩
  | i + 1, x :: r, y :: r2, d, e => by
    unfold zipD at e
    obtain ⟨u, v, h1, h2, h3⟩ := zipD_get (i := i) (ds := r) (es := r2) (d := d) (by simpa using e)
    exact ⟨u, v, by simpa using h1, by simpa using h2, h3⟩
theorem pair_rp {H1 : Hp} {M1 : Addr → Prop} {T : Addr} {x y : PD} {u v : V} (al : Al H1 M1) (hT : H1 T = none) (r1 : Rp K H1 M1 x u) (r2 : Rp K H1 M1 y v) : Rp K (upd H1 T (.tup [u, v])) M1 (.tuple [x, y]) (.ref T) :=
  .tup (.of upd_same (al.no hT) (by show 2 ≤ SZ; decide)) (.cons (r1.stay (stay_new hT)) (.cons (r2.stay (stay_new hT)) .nil))
theorem wk_enum (sc : Sc K a ds g H M A) : Wk K (Ite K a) (enumD 0 ds) g H M A := by
  intro H1 M1 A1 S1 s pp RR oo
  have al := RR.al
  obtain ⟨xs, hs1, rs1⟩ := (sc H1 M1 A1 S1 s pp RR).2 oo
  refine ⟨fun i hi => ?_, fun i hi' => have hi := Nat.le_of_eq hi'.symm; ⟨xs, hs1, by rw [← rs1.length, ← enumD_len 0]; exact hi⟩, fun i d e x H2 ⟨T, u, e1, e2, e3, y⟩ => ?_⟩
  · obtain ⟨v, hv, _⟩ := rs1.at? (by rw [← enumD_len 0]; exact hi)
    exact ⟨xs, v, hs1, hv⟩
  · subst e1 e3
    obtain ⟨z, hz, ez⟩ := enumD_get e
    obtain ⟨v, hv, r⟩ := rs1.get hz
    have := y xs hs1
    rw [hv] at this
    cases this
    subst ez
    refine ⟨?_, .inr ⟨T, _, e2, rfl⟩⟩
    rw [Nat.zero_add]
    exact pair_rp al e2 (.int _) r
theorem wk_enumT (hs : SqFT K H M a xs) (rs : Rps K H M ds xs) : Wk K (IteT K a) (enumD 0 ds) [] H M A := by
  intro H1 M1 A1 S1 s pp RR oo
  have al := RR.al
  have hs1 := (hs.stay s).sq
  have rs1 := rs.stay s
  refine ⟨fun i hi => ?_, fun i hi' => have hi := Nat.le_of_eq hi'.symm; ⟨xs, hs1, by rw [← rs.length, ← enumD_len 0]; exact hi⟩, fun i d e x H2 ⟨T, u, e1, e2, e3, y⟩ => ?_⟩
  · obtain ⟨v, hv, _⟩ := rs1.at? (by rw [← enumD_len 0]; exact hi)
    exact ⟨xs, v, hs1, hv⟩
  · subst e1 e3
    obtain ⟨z, hz, ez⟩ := enumD_get e
    obtain ⟨v, hv, r⟩ := rs1.get hz
    have := y xs hs1
    rw [hv] at this
    cases this
    subst ez
    refine ⟨?_, .inr ⟨T, _, e2, rfl⟩⟩
    rw [Nat.zero_add]
    exact pair_rp al e2 (.int _) r
theorem wk_zip (sc : Sc K a ds g H M A) (sc2 : Sc K b es g' H M A) : Wk K (Itz K a b) (zipD ds es) (g ++ g') H M A := by
  intro H1 M1 A1 S1 s pp RR oo
  have al := RR.al
  obtain ⟨xs, h1, r1⟩ := (sc H1 M1 A1 S1 s pp RR).2 (gOk_app oo).1
  obtain ⟨ys, h2, r2⟩ := (sc2 H1 M1 A1 S1 s pp RR).2 (gOk_app oo).2
  have rs := r1
  have rs2 := r2
  refine ⟨fun i hi => ?_, fun i hi' => have hi := Nat.le_of_eq hi'.symm; ⟨xs, ys, h1, h2, ?_⟩, fun i d e x H2 ⟨T, u, u2, e1, e2, e3, y, y2⟩ => ?_⟩
  · rw [zipD_len] at hi
    obtain ⟨v, hv, _⟩ := r1.at? (show i < ds.length by omega)
    obtain ⟨v2, hv2, _⟩ := r2.at? (show i < es.length by omega)
    exact ⟨xs, ys, v, v2, h1, h2, hv, hv2⟩
  · rw [zipD_len] at hi
    rw [← rs.length, ← rs2.length]
    omega
  · subst e1 e3
    obtain ⟨z, z2, hz, hz2, ez⟩ := zipD_get e
    obtain ⟨v, hv, q⟩ := r1.get hz
    obtain ⟨v2, hv2, q2⟩ := r2.get hz2
    have t1 := y xs h1
    rw [hv] at t1
    cases t1
    have t2 := y2 ys h2
    rw [hv2] at t2
    cases t2
    subst ez
    exact ⟨pair_rp al e2 q q2, .inr ⟨T, _, e2, rfl⟩⟩
theorem wk_zipT (hs : SqFT K H M a xs) (hs2 : SqFT K H M b ys) (rs : Rps K H M ds xs) (rs2 : Rps K H M es ys) : Wk K (RZ.ItzT K a b) (zipD ds es) [] H M A := by
  intro H1 M1 A1 S1 s pp RR oo
  have al := RR.al
  have h1 := (hs.stay s).sq
  have h2 := (hs2.stay s).sq
  have r1 := rs.stay s
  have r2 := rs2.stay s
  refine ⟨fun i hi => ?_, fun i hi' => have hi := Nat.le_of_eq hi'.symm; ⟨xs, ys, h1, h2, ?_⟩, fun i d e x H2 ⟨T, u, u2, e1, e2, e3, y, y2⟩ => ?_⟩
  · rw [zipD_len] at hi
    obtain ⟨v, hv, _⟩ := r1.at? (show i < ds.length by omega)
    obtain ⟨v2, hv2, _⟩ := r2.at? (show i < es.length by omega)
    exact ⟨xs, ys, v, v2, h1, h2, hv, hv2⟩
  · rw [zipD_len] at hi
    rw [← rs.length, ← rs2.length]
    omega
  · subst e1 e3
    obtain ⟨z, z2, hz, hz2, ez⟩ := zipD_get e
    obtain ⟨v, hv, q⟩ := r1.get hz
    obtain ⟨v2, hv2, q2⟩ := r2.get hz2
    have t1 := y xs h1
    rw [hv] at t1
    cases t1
    have t2 := y2 ys h2
    rw [hv2] at t2
    cases t2
    subst ez
    exact ⟨pair_rp al e2 q q2, .inr ⟨T, _, e2, rfl⟩⟩
theorem rngD_len (i j : Int) : (rngD i j).length = (j - i).toNat := by unfold rngD; rw [List.length_map, List.length_range]
theorem rngD_get {i j : Int} {n : Nat} {d : PD} (h : (rngD i j)[n]? = some d) : n < (j - i).toNat ∧ d = .int (i + (n : Nat)) := by
  have hl : n < (j - i).toNat := by
    have := (List.getElem?_eq_some_iff.mp h).1
    rw [rngD_len] at this
    exact this
  unfold rngD at h
  rw [List.getElem?_map, List.getElem?_range hl] at h
  exact ⟨hl, (Option.some.inj h).symm⟩
theorem zip3D_len : ∀ (ds es fs : List PD), (zip3D ds es fs).length = min (min ds.length es.length) fs.length
  | [], es, fs => by simp [zip3D]
  | d :: r, [], fs => by simp [zip3D]
  | d :: r, e :: t, [] => by simp [zip3D]
  | d :: r, e :: t, f :: u => by
    rw [zip3D, List.length_cons, zip3D_len r t u]
    simp only [List.length_cons]
    omega
theorem zip3D_get : ∀ {i : Nat} {ds es fs : List PD} {d : PD}, (zip3D ds es fs)[i]? = some d → ∃ x y z, ds[i]? = some x ∧ es[i]? = some y ∧ fs[i]? = some z ∧ d = .tuple [x, y, z]
  | _, [], es, fs, _, h => by simp [zip3D] at h
  | _, d :: r, [], fs, _, h => by simp [zip3D] at h
  | _, d :: r, e :: t, [], _, h => by simp [zip3D] at h
  | 0, d :: r, e :: t, f :: u, _, h => by
    simp [zip3D] at h
    exact ⟨d, e, f, rfl, rfl, rfl, h.symm⟩
  | i + 1, d :: r, e :: t, f :: u, _, h => by
    rw [zip3D, List.getElem?_cons_succ] at h
    obtain ⟨x, y, z, h1, h2, h3, h4⟩ := zip3D_get h
    exact ⟨x, y, z, by simpa using h1, by simpa using h2, by simpa using h3, h4⟩
theorem wk_zip3 {c : Addr} {zs : List V} {fs : List PD} (hs : SqFT K H M a xs) (hs2 : SqFT K H M b ys) (hs3 : SqFT K H M c zs) (rs : Rps K H M ds xs) (rs2 : Rps K H M es ys) (rs3 : Rps K H M fs zs) : Wk K (Itz3T K a b c) (zip3D ds es fs) [] H M A := by
  intro H1 M1 A1 S1 s pp RR oo
  have al := RR.al
  have h1 := (hs.stay s).sq
  have h2 := (hs2.stay s).sq
  have h3 := (hs3.stay s).sq
  have r1 := rs.stay s
  have r2 := rs2.stay s
  have r3 := rs3.stay s
  refine ⟨fun i hi => ?_, fun i hi => ⟨xs, ys, zs, h1, h2, h3, ?_⟩, fun i d e x H2 ⟨T, u, u2, u3, e1, e2, e3, y, y2, y3⟩ => ?_⟩
  · rw [zip3D_len] at hi
    obtain ⟨v, hv, _⟩ := r1.at? (show i < ds.length by omega)
    obtain ⟨v2, hv2, _⟩ := r2.at? (show i < es.length by omega)
    obtain ⟨v3, hv3, _⟩ := r3.at? (show i < fs.length by omega)
    exact ⟨xs, ys, zs, v, v2, v3, h1, h2, h3, hv, hv2, hv3⟩
  · rw [zip3D_len] at hi
    rw [← rs.length, ← rs2.length, ← rs3.length]
    exact hi
  · subst e1 e3
    obtain ⟨z, z2, z3, hz, hz2, hz3, ez⟩ := zip3D_get e
    obtain ⟨v, hv, q⟩ := r1.get hz
    obtain ⟨v2, hv2, q2⟩ := r2.get hz2
    obtain ⟨v3, hv3, q3⟩ := r3.get hz3
    have t1 := y xs h1
    rw [hv] at t1
    cases t1
    have t2 := y2 ys h2
    rw [hv2] at t2
    cases t2
    have t3 := y3 zs h3
    rw [hv3] at t3
    cases t3
    subst ez
    exact ⟨.tup (.of upd_same (Al.no (show Al H1 M1 from RR.al) e2) (by show 3 ≤ SZ; decide)) (.cons (q.stay (stay_new e2)) (.cons (q2.stay (stay_new e2)) (.cons (q3.stay (stay_new e2)) .nil))), .inr ⟨T, _, e2, rfl⟩⟩
theorem wk_rng (i j : Int) : Wk K (Itr i (j - i).toNat) (rngD i j) [] H M A := by
  intro H1 M1 A1 S1 s pp RR oo
  refine ⟨fun n hn => by rw [rngD_len] at hn; exact hn, fun n hn' => by have hn := Nat.le_of_eq hn'.symm; rw [rngD_len] at hn; exact hn, fun n d e x H2 ⟨e2, y⟩ => ?_⟩
  obtain ⟨_, ed⟩ := rngD_get e
  subst e2 y ed
  exact ⟨.int _, .inl rfl⟩
end
/-! ### the walk of an expression -/
section
variable {D : Dom} {k : Nat}
def tWk (K : PySem.W.Frag) (mg : Str → Option Value) (W : WX) (r : Sg → Sto → R (List PD × Gd)) : TI := fun σ H Q => ∃ M A S σd, Rel K H M A S ∧ Sr K mg H M A σd σ ∧
  post K mg (fun c d H => W c d σ H) H M A S (r σd S) fun p H' M' A' S' => ∀ J, Wk K J p.1 p.2 H' M' A' → Q J H'
def SI (D : Dom) (k : Nat) (c : CI) : Prop := ∀ (X : Cx) (W : WX) (Γ : Cs) (tg e : Expr), Wd D k Γ X → Takes X W → chkI D Γ c e = true → (tupB tg || !needT c) = true →
  PI X tg e (tWk X.K X.mg W fun σ S => evI (evCall D.T k) (parOf D.T) σ c S) ∧ ∀ x, foldedSetIterable e X.env x = pure x
theorem _root_.L2.PI.imp {X : Cx} {tg e : Expr} {t t' : TI} (h : PI X tg e t) (i : ∀ σ H Q, t' σ H Q → t σ H Q) : PI X tg e t' := ⟨fun pins s σ H Q I q => h.run pins s σ H Q I (i σ H Q q)⟩
def iSeq (K : PySem.W.Frag) (tl : TE) : TI := fun σ H R => tl σ H fun x H1 => ∃ a, x = .ref a ∧ ((∃ xs, SqL K H1 a xs) ∧ R (Itl K a) H1 ∨ (∃ xs, SqT K H1 a xs) ∧ R (Itt K a) H1)
theorem pi_seq {X : Cx} {tg l : Expr} {tl : TE} (hl : PE X l tl) : PI X tg l (iSeq X.K tl) := by
  refine ⟨fun pins s σ H R I h => ?_⟩
  refine thn (hl.run pins s σ H _ I h) fun v s1 ⟨x, H1, I1, r1, q1⟩ => ?_
  obtain ⟨a, e, q1⟩ := q1
  subst e
  cases r1
  have fr : ∀ b ∈ [s1.heap.objs.size], FpOk X pins H1 b := fun b hb => by
    have e : b = s1.heap.objs.size := by simpa using hb
    subst e
    exact I1.fpOk (Nat.le_refl _) (I1.hok.fresh (Nat.le_refl _))
  rcases q1 with ⟨⟨xs, hq⟩, q⟩ | ⟨⟨xs, hq⟩, q⟩
  · obtain ⟨its, rv, p, hz⟩ := I1.list hq
    refine wpAny_pyIter_list p.isList ?_
    exact ⟨s1.heap.objs.size, [s1.heap.objs.size], _, _, H1, rfl, I1.kept (t' := s1.toks) fun b o e => Heap.get?_push_of_some _ e, turn_list a _, ⟨_, Heap.get?_push_size _ rfl, rfl, rfl⟩, fr, q⟩
  · obtain ⟨its, rv, p, hz⟩ := I1.tuple hq
    refine wpAny_pyIter_tuple (show s1.heap.IsTuple a its.toArray from p) ?_
    exact ⟨s1.heap.objs.size, [s1.heap.objs.size], _, _, H1, rfl, I1.kept (t' := s1.toks) fun b o e => Heap.get?_push_of_some _ e, turn_tuple a _, ⟨_, Heap.get?_push_size _ rfl, rfl, rfl⟩, fr, q⟩
theorem itemsD_eq {d : PD} {ds : List PD} (h : itemsD d = some ds) : d = .list ds ∨ d = .tuple ds := by
  cases d with
  | list x => cases h; exact .inl rfl
  | tuple x => cases h; exact .inr rfl
  | _ => cases h
theorem post.opt0 {α : Type} {K : PySem.W.Frag} {mg : Str → Option Value} {W : XK} {H : Hp} {M : Addr → Prop} {A : List Addr} {S : Sto} {o : Option α} {Q : α → Hp → (Addr → Prop) → List Addr → Sto → Prop} (h : post K mg W H M A S (R.opt o S) Q) : ∃ a, o = some a ∧ post K mg W H M A S (.ok a S) Q := by
  cases o with
  | none => exact h.elim
  | some a => exact ⟨a, rfl, h⟩
theorem foldset {e : Expr} {env : Env} (h : setB e = false) : ∀ x, foldedSetIterable e env x = pure x := by
  cases e <;> first
    | exact fun _ => rfl
    | cases h
theorem si_seq {a : CE} (ia : SE D k a) : SI D k (.seq a) := by
  intro X W Γ tg e w tk c ht
  obtain ⟨c1, c2⟩ := ba (show (chkE D Γ a e && !setB e) = true by unfold chkI at c; exact c)
  refine ⟨(pi_seq (ia X W Γ e w tk c1)).imp fun σ H Q ⟨M, A, S, σd, R, sr, p⟩ => ?_, foldset (by simpa using c2)⟩
  simp only [evI] at p
  refine ⟨M, A, S, σd, R, sr, (post.bind p).imp fun v H1 M1 A1 S1 f1 R1 p1 u1 r1 => ?_⟩
  obtain ⟨x, g, p2, hx⟩ := src_post R1 r1 p1
  obtain ⟨ds, e2, p3⟩ := post.opt p2
  have q := post.ok R1 p3
  rcases hx with ⟨ds', a', rfl, rfl, sc⟩ | ⟨hn, rfl, rp⟩
  · cases e2
    exact ⟨_, rfl, .inl ⟨sc.sq R1, q _ (wk_list sc)⟩⟩
  · rcases itemsD_eq e2 with z | z
    · exact absurd z (hn _)
    · subst z
      cases rp with
      | tup hs hr => exact ⟨_, rfl, .inr ⟨⟨_, hs.sq⟩, q _ (wk_tup hs hr)⟩⟩
theorem si_rng {a : CE} (ia : SE D k a) : SI D k (.rng a) := by
  intro X W Γ tg e w tk c ht
  cases e with
  | Call fn es kws pos =>
    cases fn with
    | Name x p =>
      match es, kws, c with
      | [e], [], c =>
        obtain ⟨c1, c2⟩ := ba (show (decide (x = "range") && blB D Γ x && chkE D Γ a e && !starB e) = true by unfold chkI at c; exact c)
        obtain ⟨c3, c4⟩ := ba c1
        obtain ⟨c5, c6⟩ := ba c3
        have hx := of_decide_eq_true c5
        obtain ⟨g1, g2, g3, g4⟩ := bl_of w c6
        have hs : starB e = false := by simpa using c2
        subst hx
        refine ⟨(pi_range1 g1 g4 (pa_cons (ia X W Γ e w tk c4) pa_nil (star_cons hs)) (star_cons hs)).imp fun σ H Q ⟨M, A, S, σd, R, sr, pp⟩ => ?_, fun _ => rfl⟩
        simp only [evI] at pp
        refine ⟨M, A, S, σd, R, sr, (post.bind pp).imp fun v H1 M1 A1 S1 f1 R1 p1 u1 r1 => ?_⟩
        obtain ⟨a', z, ea, e', p2⟩ := op1_post p1
        rw [intD_eq e'] at ea
        split at p2
        · rename_i hk
          obtain ⟨_, _, k3, k4, _⟩ := rgok hk
          have q := post.ok R1 p2 (Itr 0 z.toNat) (by have := wk_rng (K := X.K) (H := H1) (M := M1) (A := A1) 0 z; simpa using this)
          exact ⟨z, by rw [rd_int r1 ea], k3, k4, q⟩
        · exact p2.elim
      | [], _, c => exact no (by unfold chkI at c; cases c)
      | [_], _ :: _, c => exact no (by unfold chkI at c; cases c)
      | _ :: _ :: _, _, c => exact no (by unfold chkI at c; cases c)
    | _ => exact no (by unfold chkI at c; cases c)
  | _ => exact no (by unfold chkI at c; cases c)
theorem si_rng2 {a b : CE} (ia : SE D k a) (ib : SE D k b) : SI D k (.rng2 a b) := by
  intro X W Γ tg e w tk c ht
  cases e with
  | Call fn es kws pos =>
    cases fn with
    | Name x p =>
      match es, kws, c with
      | [e, e2], [], c =>
        obtain ⟨c1, c2⟩ := ba (show (decide (x = "range") && blB D Γ x && chkE D Γ a e && !starB e && chkE D Γ b e2 && !starB e2) = true by unfold chkI at c; exact c)
        obtain ⟨c3, c4⟩ := ba c1
        obtain ⟨c5, c6⟩ := ba c3
        obtain ⟨c7, c8⟩ := ba c5
        obtain ⟨c9, c10⟩ := ba c7
        have hx := of_decide_eq_true c9
        obtain ⟨g1, g2, g3, g4⟩ := bl_of w c10
        have hs : starB e = false := by simpa using c6
        have hs2 : starB e2 = false := by simpa using c2
        subst hx
        refine ⟨(pi_range2 g1 g4 (pa_cons (ia X W Γ e w tk c8) (pa_cons (ib X W Γ e2 w tk c4) pa_nil (star_cons hs2)) (star_cons hs)) (by rw [star_cons hs, star_cons hs2]; rfl) (star_cons hs2)).imp fun σ H Q ⟨M, A, S, σd, R, sr, pp⟩ => ?_, fun _ => rfl⟩
        simp only [evI] at pp
        refine ⟨M, A, S, σd, R, sr, (post.bind pp).imp fun v H1 M1 A1 S1 f1 R1 p1 u1 r1 => ?_⟩
        refine ⟨M1, A1, S1, σd, R1, sr.mono f1, (post.bind p1).imp fun v2 H2 M2 A2 S2 f2 R2 p2 u2 r2 => ?_⟩
        obtain ⟨a', z, ea, e', p3⟩ := op1_post p2
        obtain ⟨b', z2, eb, e2', p4⟩ := op1_post p3
        rw [intD_eq e'] at ea
        rw [intD_eq e2'] at eb
        split at p4
        · rename_i hk
          obtain ⟨k1, k2, k3, k4, _⟩ := rgok hk
          exact ⟨z, z2, by rw [rd_int (r1.mono f2) ea, rd_int r2 eb], ⟨k1, k2, k3, k4⟩, post.ok R2 p4 _ (wk_rng z z2)⟩
        · exact p4.elim
      | [], _, c => exact no (by unfold chkI at c; cases c)
      | [_], _, c => exact no (by unfold chkI at c; cases c)
      | [_, _], _ :: _, c => exact no (by unfold chkI at c; cases c)
      | _ :: _ :: _ :: _, _, c => exact no (by unfold chkI at c; cases c)
    | _ => exact no (by unfold chkI at c; cases c)
  | _ => exact no (by unfold chkI at c; cases c)
theorem si_enum {a : CE} (ia : SE D k a) : SI D k (.enum a) := by
  intro X W Γ tg e w tk c ht
  cases e with
  | Call fn es kws pos =>
    cases fn with
    | Name x p =>
      match es, kws, c with
      | [e], [], c =>
        obtain ⟨c1, c2⟩ := ba (show (decide (x = "enumerate") && blB D Γ x && chkE D Γ a e && !starB e) = true by unfold chkI at c; exact c)
        obtain ⟨c3, c4⟩ := ba c1
        obtain ⟨c5, c6⟩ := ba c3
        have hx := of_decide_eq_true c5
        obtain ⟨g1, g2, g3, g4⟩ := bl_of w c6
        have hs : starB e = false := by simpa using c2
        subst hx
        cases tg with
        | Tuple elts kk tpos =>
          refine ⟨(pi_enumA g1 g4 (pa_cons (ia X W Γ e w tk c4) pa_nil (star_cons hs)) (star_cons hs)).imp fun σ H Q ⟨M, A, S, σd, R, sr, pp⟩ => ?_, fun _ => rfl⟩
          simp only [evI] at pp
          refine ⟨M, A, S, σd, R, sr, (post.bind pp).imp fun v H1 M1 A1 S1 f1 R1 p1 u1 r1 => ?_⟩
          obtain ⟨x, g, p2, hx⟩ := src_post R1 r1 p1
          obtain ⟨ds, e2, p3⟩ := post.opt p2
          have q := post.ok R1 p3
          rcases hx with ⟨ds', a', rfl, rfl, sc⟩ | ⟨hn, rfl, rp⟩
          · cases e2
            obtain ⟨ys, hy⟩ := sc.sq R1
            exact ⟨_, _, rfl, .inl ⟨hy, q _ (wk_enum sc)⟩⟩
          · rcases itemsD_eq e2 with z | z
            · exact absurd z (hn _)
            · subst z
              cases rp with
              | tup hs hr => exact ⟨_, _, rfl, .inr ⟨hs.sq, q _ (wk_enumT hs hr)⟩⟩
        | _ => exact absurd ht (by simp [tupB, needT])
      | [], _, c => exact no (by unfold chkI at c; cases c)
      | [_], _ :: _, c => exact no (by unfold chkI at c; cases c)
      | _ :: _ :: _, _, c => exact no (by unfold chkI at c; cases c)
    | _ => exact no (by unfold chkI at c; cases c)
  | _ => exact no (by unfold chkI at c; cases c)
theorem zipP_eq {x y : PD} {zs : List PD} (h : zipP x y = some zs) : ∃ xs ys, zs = zipD xs ys ∧ ((x = .list xs ∧ y = .list ys) ∨ (x = .tuple xs ∧ y = .tuple ys)) := by
  unfold zipP at h
  split at h
  · cases h; exact ⟨_, _, rfl, .inl ⟨rfl, rfl⟩⟩
  · cases h; exact ⟨_, _, rfl, .inr ⟨rfl, rfl⟩⟩
  · cases h
theorem si_zip {a b : CE} (ia : SE D k a) (ib : SE D k b) : SI D k (.zip a b) := by
  intro X W Γ tg e w tk c ht
  cases e with
  | Call fn es kws pos =>
    cases fn with
    | Name x p =>
      match es, kws, c with
      | [e, e2], [], c =>
        obtain ⟨c1, c2⟩ := ba (show (decide (x = "zip") && blB D Γ x && chkE D Γ a e && !starB e && chkE D Γ b e2 && !starB e2) = true by unfold chkI at c; exact c)
        obtain ⟨c3, c4⟩ := ba c1
        obtain ⟨c5, c6⟩ := ba c3
        obtain ⟨c7, c8⟩ := ba c5
        obtain ⟨c9, c10⟩ := ba c7
        have hx := of_decide_eq_true c9
        obtain ⟨g1, g2, g3, g4⟩ := bl_of w c10
        have hs : starB e = false := by simpa using c6
        have hs2 : starB e2 = false := by simpa using c2
        subst hx
        cases tg with
        | Tuple elts kk tpos =>
          refine ⟨(RZ.pi_zipA g1 g4 (pa_cons (ia X W Γ e w tk c8) (pa_cons (ib X W Γ e2 w tk c4) pa_nil (star_cons hs2)) (star_cons hs)) (star_cons hs) (by rw [star_cons hs2]; rfl)).imp fun σ H Q ⟨M, A, S, σd, R, sr, pp⟩ => ?_, fun _ => rfl⟩
          simp only [evI] at pp
          refine ⟨M, A, S, σd, R, sr, (post.bind pp).imp fun v H1 M1 A1 S1 f1 R1 p1 u1 r1 => ?_⟩
          obtain ⟨x, gx, p2, hx⟩ := src_post R1 r1 p1
          refine ⟨M1, A1, S1, σd, R1, sr.mono f1, (post.bind p2).imp fun v2 H3 M3 A3 S3 f3 R3 p3 u2 r2 => ?_⟩
          obtain ⟨y, gy, p4, hy⟩ := src_post R3 r2 p3
          obtain ⟨zs, e3, p5⟩ := post.opt p4
          have q := post.ok R3 p5
          obtain ⟨xs, ys, e4, e5⟩ := zipP_eq e3
          subst e4
          rcases e5 with ⟨z1, z2⟩ | ⟨z1, z2⟩
          · rcases hx with ⟨ds', a', w1, w2, sc⟩ | ⟨hn, _, _⟩
            · rcases hy with ⟨es', b', w3, w4, sc2⟩ | ⟨hn, _, _⟩
              · subst w1 w2 w3 w4
                cases z1
                cases z2
                have sc' := sc.stay f3.st f3.pre
                obtain ⟨xs1, hx1⟩ := sc'.sq R3
                obtain ⟨ys1, hy1⟩ := sc2.sq R3
                exact ⟨_, _, _, _, rfl, .inl ⟨hx1, hy1, q _ (wk_zip sc' sc2)⟩⟩
              · exact absurd z2 (hn _)
            · exact absurd z1 (hn _)
          · subst z1 z2
            rcases hx with ⟨_, _, w1, _⟩ | ⟨_, rfl, rp1⟩
            · cases w1
            rcases hy with ⟨_, _, w1, _⟩ | ⟨_, rfl, rp2⟩
            · cases w1
            cases rp1.stay f3.st with
            | tup hs hr =>
              cases rp2 with
              | tup hs2 hr2 => exact ⟨_, _, _, _, rfl, .inr ⟨hs.sq, hs2.sq, q _ (wk_zipT hs hs2 hr hr2)⟩⟩
        | _ => exact absurd ht (by simp [tupB, needT])
      | [], _, c => exact no (by unfold chkI at c; cases c)
      | [_], _, c => exact no (by unfold chkI at c; cases c)
      | [_, _], _ :: _, c => exact no (by unfold chkI at c; cases c)
      | _ :: _ :: _ :: _, _, c => exact no (by unfold chkI at c; cases c)
    | _ => exact no (by unfold chkI at c; cases c)
  | _ => exact no (by unfold chkI at c; cases c)
/-! ### targets -/
theorem zip3P_eq {x y z : PD} {zs : List PD} (h : zip3P x y z = some zs) : ∃ xs ys us, zs = zip3D xs ys us ∧ x = .tuple xs ∧ y = .tuple ys ∧ z = .tuple us := by
  unfold zip3P at h
  split at h
  · cases h; exact ⟨_, _, _, rfl, rfl, rfl, rfl⟩
  · cases h
theorem si_zip3 {a b c : CE} (ia : SE D k a) (ib : SE D k b) (ic : SE D k c) : SI D k (.zip3 a b c) := by
  intro X W Γ tg e w tk c0 ht
  have z : ∃ x p e1 e2 e3 pos, e = .Call (.Name x p) [e1, e2, e3] [] pos ∧ (decide (x = "zip") && blB D Γ x && chkE D Γ a e1 && !starB e1 && chkE D Γ b e2 && !starB e2 && chkE D Γ c e3 && !starB e3) = true := by
    cases e with
    | Call fn es kws pos =>
      cases fn with
      | Name x p =>
        match es, kws, c0 with
        | [e1, e2, e3], [], c0 => exact ⟨x, p, e1, e2, e3, pos, rfl, by unfold chkI at c0; exact c0⟩
        | [], _, c0 => unfold chkI at c0; cases c0
        | [_], _, c0 => unfold chkI at c0; cases c0
        | [_, _], _, c0 => unfold chkI at c0; cases c0
        | [_, _, _], _ :: _, c0 => unfold chkI at c0; cases c0
        | _ :: _ :: _ :: _ :: _, _, c0 => unfold chkI at c0; cases c0
      | _ => unfold chkI at c0; cases c0
    | _ => unfold chkI at c0; cases c0
  obtain ⟨x, p, e1, e2, e3, pos, rfl, c0⟩ := z
  obtain ⟨c1, d3⟩ := ba c0
  obtain ⟨c2, k3⟩ := ba c1
  obtain ⟨c3, d2⟩ := ba c2
  obtain ⟨c4, k2⟩ := ba c3
  obtain ⟨c5, d1⟩ := ba c4
  obtain ⟨c6, k1⟩ := ba c5
  obtain ⟨c7, c8⟩ := ba c6
  have hx := of_decide_eq_true c7
  obtain ⟨g1, g2, g3, g4⟩ := bl_of w c8
  have hs : starB e1 = false := by simpa using d1
  have hs2 : starB e2 = false := by simpa using d2
  have hs3 : starB e3 = false := by simpa using d3
  subst hx
  cases tg with
  | Tuple elts kk tpos =>
    refine ⟨(pi_zip3 g1 g4 (pa_cons (ia X W Γ e1 w tk k1) (pa_cons (ib X W Γ e2 w tk k2) (pa_cons (ic X W Γ e3 w tk k3) pa_nil (star_cons hs3)) (star_cons hs2)) (star_cons hs)) (star_cons hs) (by rw [star_cons hs2, star_cons hs3]; rfl)).imp fun σ H Q ⟨M, A, S, σd, R, sr, pp⟩ => ?_, fun _ => rfl⟩
    simp only [evI] at pp
    refine ⟨M, A, S, σd, R, sr, (post.bind pp).imp fun v H1 M1 A1 S1 f1 R1 p1 u1 r1 => ?_⟩
    obtain ⟨x, gx, p2, hx⟩ := src_post R1 r1 p1
    refine ⟨M1, A1, S1, σd, R1, sr.mono f1, (post.bind p2).imp fun v2 H3 M3 A3 S3 f3 R3 p3 u2 r2 => ?_⟩
    obtain ⟨y, gy, p4, hy⟩ := src_post R3 r2 p3
    refine ⟨M3, A3, S3, σd, R3, (sr.mono f1).mono f3, (post.bind p4).imp fun v3 H5 M5 A5 S5 f5 R5 p5 u3 r3 => ?_⟩
    obtain ⟨z, gz, p6, hz⟩ := src_post R5 r3 p5
    obtain ⟨zs, e4, p7⟩ := post.opt p6
    have q := post.ok R5 p7
    obtain ⟨xs, ys, us, rfl, rfl, rfl, rfl⟩ := zip3P_eq e4
    rcases hx with ⟨_, _, w1, _⟩ | ⟨_, _, rp1⟩
    · cases w1
    rcases hy with ⟨_, _, w1, _⟩ | ⟨_, _, rp2⟩
    · cases w1
    rcases hz with ⟨_, _, w1, _⟩ | ⟨_, _, rp3⟩
    · cases w1
    cases (rp1.stay f3.st).stay f5.st with
    | tup hs hr =>
      cases rp2.stay f5.st with
      | tup hs2 hr2 =>
        cases rp3 with
        | tup hs3 hr3 => exact ⟨_, _, _, _, _, _, rfl, hs.sq, hs2.sq, hs3.sq, q _ (wk_zip3 hs hs2 hs3 hr hr2 hr3)⟩
  | _ => exact absurd ht (by simp [tupB, needT])
theorem loc_of {X : Cx} {Γ : Cs} {x : Str} (w : Wd D k Γ X) (h : stB Γ x = true) : Loc X.env.scope x ∧ (X.fn x = true ∨ X.env.scope.names.lookup x = some .local) := by
  unfold stB at h
  split at h
  · rename_i e
    rw [← w.scp] at e
    exact ⟨.inl e, .inr e⟩
  · rename_i e
    rw [← w.scp] at e
    exact ⟨.inr e, .inl (w.fn x h)⟩
  · cases h
theorem pg_nm {X : Cx} {Γ : Cs} {i : Nat} {e : Expr} (w : Wd D k Γ X) (h : nmB Γ i e = true) : PG X e (gName i) ∧ (∀ (env : Env) (r : List Expr), ∃ b, assignEach (e :: r) env = (false, b) :: assignEach r env ∧ b = assign e env) := by
  cases e with
  | Name x pos =>
    obtain ⟨h1, h2⟩ := ba (show (decide (Γ.N[i]? = some x) && stB Γ x) = true from h)
    obtain ⟨l1, l2⟩ := loc_of w h2
    exact ⟨pg_name (by rw [w.hN]; exact w.nd) (by rw [w.hN]; exact of_decide_eq_true h1) l1 l2, fun env r => ⟨_, rfl, rfl⟩⟩
  | _ => cases h
def gNames : List Nat → TGs
  | [] => gNil
  | i :: r => gCons (gName i) (gNames r)
theorem pgs_nms {X : Cx} {Γ : Cs} (w : Wd D k Γ X) : ∀ {is : List Nat} {es : List Expr}, nmsB Γ is es = true → PGs X es (gNames is) ∧ (∀ env, (assignEach es env).length = is.length) ∧ ∀ env, (assignEach es env).findIdx? (·.1) = none
  | [], [], _ => ⟨pgs_nil, fun _ => rfl, fun _ => rfl⟩
  | [], _ :: _, h => by cases h
  | _ :: _, [], h => by cases h
  | i :: is, e :: es, h => by
    obtain ⟨h1, h2⟩ := ba h
    obtain ⟨p1, p2⟩ := pg_nm w h1
    obtain ⟨q1, q2, q3⟩ := pgs_nms w h2
    refine ⟨pgs_cons p1 q1 ?_, fun env => ?_, fun env => ?_⟩
    · obtain ⟨b, e1, e2⟩ := p2 X.env es
      rw [e1, e2]; rfl
    · obtain ⟨b, e1, e2⟩ := p2 env es
      rw [e1, List.length_cons, List.length_cons, q2 env]
    · obtain ⟨b, e1, e2⟩ := p2 env es
      rw [e1, List.findIdx?_cons, q3 env]; rfl
/-- what a target does to the names -/
def gOf (K : PySem.W.Frag) : Tg → TG
  | .nm i => gName i
  | .tp is => gTup K is.length (gNames is)
theorem pg_of {X : Cx} {Γ : Cs} {tg : Tg} {e : Expr} (w : Wd D k Γ X) (h : chkG Γ tg e = true) : PG X e (gOf X.K tg) := by
  cases tg with
  | nm i => exact (pg_nm w (show nmB Γ i e = true from h)).1
  | tp is =>
    cases e with
    | Tuple es kk pos =>
      obtain ⟨q1, q2, q3⟩ := pgs_nms w (show nmsB Γ is es = true from h)
      exact pg_tup w.calm q1 (q2 _) (q3 _)
    | _ => cases h
section
variable {K : PySem.W.Frag} {mg : Str → Option Value} {H : Hp} {M : Addr → Prop} {A : List Addr}
theorem names_bind : ∀ {is : List Nat} {ds : List PD} {xs : List V} {σd : Sg} {σ : L2.St} {Q : L2.St → Hp → Prop}, ds.length = is.length → Rps K H M ds xs → Sr K mg H M A σd σ →
    (∀ σ', Sr K mg H M A ((is.zip ds).foldl (fun σ p => σ.set p.1 (some (.d p.2))) σd) σ' → Q σ' H) → gNames is xs σ H Q
  | [], [], _, _, _, _, _, .nil, s, q => ⟨rfl, q _ s⟩
  | [], _ :: _, _, _, _, _, l, _, _, _ => by cases l
  | _ :: _, [], _, _, _, _, l, _, _, _ => by cases l
  | i :: is, d :: ds, _, σd, σ, Q, l, .cons r rs, s, q => ⟨_, _, rfl, names_bind (is := is) (ds := ds) (by simpa using l) rs (s.set (i := i) (v := .d d) r) q⟩
/-- a target takes an item -/
theorem tg_bind {tg : Tg} {d : PD} {x : V} {σd σd' : Sg} {σ : L2.St} {Q : L2.St → Hp → Prop} (h : bindTg tg d σd = some σd') (r : Rp K H M d x) (s : Sr K mg H M A σd σ) (q : ∀ σ', Sr K mg H M A σd' σ' → Q σ' H) : gOf K tg x σ H Q := by
  cases tg with
  | nm i =>
    cases h
    exact q _ (s.set (v := .d d) r)
  | tp is =>
    cases d with
    | tuple ds =>
      unfold bindTg at h
      dsimp only at h
      split at h
      · rename_i hl
        cases h
        cases r with
        | tup hs hr => exact ⟨_, _, rfl, hs.sq, by rw [← hr.length]; exact hl, names_bind hl hr s q⟩
      · cases h
    | _ => cases h
end
end
end KA
/-! KAComp: comprehensions. -/
namespace KA
open PySem PySem.Spec PyProof.Rows L2
/-! ### forgotten names -/
theorem wipe_get : ∀ {vs : List Nat} {σ : L2.St} {j : Nat}, (wipe σ vs)[j]? = if j ∈ vs then (if j < σ.length then some none else none) else σ[j]?
  | [], σ, j => by simp [wipe]
  | v :: vs, σ, j => by
    unfold wipe
    by_cases h : v = j
    · subst h
      by_cases hl : v < σ.length
      · rw [List.getElem?_set_self (by rw [wipe_length]; exact hl)]; simp [hl]
      · rw [List.getElem?_eq_none (by rw [List.length_set, wipe_length]; omega)]; simp [hl]
    · rw [List.getElem?_set_ne h, wipe_get (vs := vs)]
      have : (j ∈ v :: vs) ↔ j ∈ vs := by simp [Ne.symm h]
      simp only [this]
theorem wipe_idem {vs : List Nat} {σ : L2.St} : wipe (wipe σ vs) vs = wipe σ vs := by
  apply List.ext_getElem?
  intro j
  rw [wipe_get, wipe_get, wipe_length]
  split <;> rfl
theorem wipe_set {vs : List Nat} {σ : L2.St} {i : Nat} {x : Option V} (h : i ∈ vs) : wipe (σ.set i x) vs = wipe σ vs := by
  apply List.ext_getElem?
  intro j
  rw [wipe_get, wipe_get, List.length_set]
  split
  · rfl
  · rename_i hj
    rw [List.getElem?_set_ne (show i ≠ j from fun e => hj (by rw [← e]; exact h))]
section
variable {K : PySem.W.Frag} {mg : Str → Option Value} {H : Hp} {M : Addr → Prop} {A : List Addr}
theorem names_bind2 {vs : List Nat} {σ0 : L2.St} : ∀ {is : List Nat} {ds : List PD} {xs : List V} {σd : Sg} {σ : L2.St} {Q : L2.St → Hp → Prop}, ds.length = is.length → Rps K H M ds xs → Sr K mg H M A σd σ → (∀ i ∈ is, i ∈ vs) → wipe σ vs = σ0 →
    (∀ σ', Sr K mg H M A ((is.zip ds).foldl (fun σ p => σ.set p.1 (some (.d p.2))) σd) σ' → wipe σ' vs = σ0 → Q σ' H) → gNames is xs σ H Q
  | [], [], _, _, _, _, _, .nil, s, _, z, q => ⟨rfl, q _ s z⟩
  | [], _ :: _, _, _, _, _, l, _, _, _, _, _ => by cases l
  | _ :: _, [], _, _, _, _, l, _, _, _, _, _ => by cases l
  | i :: is, d :: ds, _, σd, σ, Q, l, .cons r rs, s, m, z, q => ⟨_, _, rfl, names_bind2 (is := is) (ds := ds) (by simpa using l) rs (s.set (i := i) (v := .d d) r) (fun j hj => m j (by simp [hj])) (by rw [wipe_set (m i (by simp))]; exact z) q⟩
theorem tg_bind2 {tg : Tg} {d : PD} {x : V} {σd σd' : Sg} {σ : L2.St} {vs : List Nat} {Q : L2.St → Hp → Prop} (h : bindTg tg d σd = some σd') (r : Rp K H M d x) (s : Sr K mg H M A σd σ) (m : ∀ i ∈ tg.slots, i ∈ vs)
    (q : ∀ σ', Sr K mg H M A σd' σ' → wipe σ' vs = wipe σ vs → Q σ' H) : gOf K tg x σ H Q := by
  cases tg with
  | nm i =>
    cases h
    exact q _ (s.set (v := .d d) r) (wipe_set (m i (by simp [Tg.slots])))
  | tp is =>
    cases d with
    | tuple ds =>
      unfold bindTg at h
      dsimp only at h
      split at h
      · rename_i hl
        cases h
        cases r with
        | tup hs hr => exact ⟨_, _, rfl, hs.sq, by rw [← hr.length]; exact hl, names_bind2 hl hr s m rfl q⟩
      · cases h
    | _ => cases h
end
/-! ### the growing list -/
section
variable {K : PySem.W.Frag} {mg : Str → Option Value} {H H' H1 : Hp} {M M' M1 : Addr → Prop} {A A' A1 : List Addr} {S S' S1 : Sto} {D : Addr}
theorem esc_ok {v : VV} {u : V} (R : Rel K H M A S) (hv : Vr K mg H M A v u) : esc S v = .bad ∨ ∃ x S' M', esc S v = .ok x S' ∧ Rel K H M' A S' ∧ Fm H M A S H M' A S' ∧ Rp K H M' x u := by
  cases v with
  | d x => exact .inr ⟨x, S, M, rfl, R, Fm.refl, hv⟩
  | ex e => exact .inl rfl
  | loc l =>
    obtain ⟨a, ea, rfl⟩ := hv
    have lt : l < S.length := by rw [← R.len]; exact (List.getElem?_eq_some_iff.mp ea).1
    rcases sto_cases lt with ⟨ds, q⟩ | ⟨ds, q⟩
    · obtain ⟨R', f', rp⟩ := R.still q ea
      exact .inr ⟨_, _, _, by unfold esc; dsimp only; rw [q], R', f', rp⟩
    · exact .inr ⟨_, S, M, by unfold esc; dsimp only; rw [q], R, Fm.refl, (R.frz l ds a q ea).1⟩
/-- a list that grows at D, no list of the store -/
structure Grow (K : PySem.W.Frag) (D : Addr) (acc : List PD) (H : Hp) (M : Addr → Prop) (A : List Addr) (S : Sto) : Prop where
  rel : Rel K H M A S
  at_ : ∃ xs, H D = some (.lst xs) ∧ Rps K H M acc xs ∧ xs.length ≤ SZ
  mu : M D
  nt : ¬ Mt A S D
theorem Grow.notA {acc : List PD} (g : Grow K D acc H M A S) : D ∉ A := fun h => by
  obtain ⟨l, e⟩ := List.getElem?_of_mem h
  have lt : l < S.length := by rw [← g.rel.len]; exact (List.getElem?_eq_some_iff.mp e).1
  rcases sto_cases lt with ⟨ds, q⟩ | ⟨ds, q⟩
  · exact g.nt ⟨l, ds, q, e⟩
  · exact (g.rel.frz l ds D q e).2.2 g.mu
theorem Grow.mono {acc : List PD} (g : Grow K D acc H M A S) (f : Fm H M A S H' M' A' S') (r : Rel K H' M' A' S') : Grow K D acc H' M' A' S' := by
  obtain ⟨xs, e, rs, z⟩ := g.at_
  obtain ⟨e', m', n'⟩ := f.ex D _ e g.mu g.nt
  exact ⟨r, ⟨xs, e', rs.stay f.st, z⟩, m', n'⟩
theorem stay_mut {o : HO} (m : M D) : Stay H M (upd H D o) M := fun a u e n => ⟨by rw [upd_ne (show a ≠ D from fun q => n (q ▸ m))]; exact e, n⟩
theorem Rel.putAt {o : HO} (r : Rel K H M A S) (m : M D) (n : D ∉ A) : Rel K (upd H D o) M A S where
  len := r.len
  nd := r.nd
  lst := fun l ds a e1 e2 => by
    obtain ⟨q, xs, e, rs, z⟩ := r.lst l ds a e1 e2
    exact ⟨q, xs, by rw [upd_ne (show a ≠ D from fun z => n (z ▸ List.mem_of_getElem? e2))]; exact e, rs.stay (stay_mut m), z⟩
  frz := fun l ds a e1 e2 => by
    obtain ⟨q, ⟨u, e⟩, k⟩ := r.frz l ds a e1 e2
    exact ⟨q.stay (stay_mut m), ⟨u, by rw [upd_ne (show a ≠ D from fun z => n (z ▸ List.mem_of_getElem? e2))]; exact e⟩, k⟩
  al := fun a q => by
    obtain ⟨u, e⟩ := r.al a q
    by_cases h : a = D
    · exact ⟨_, by rw [h]; exact upd_same⟩
    · exact ⟨u, by rw [upd_ne h]; exact e⟩
theorem Grow.more {acc : List PD} {d : PD} {u : V} (g : Grow K D acc H M A S) (r : Rp K H M d u) (z : acc.length < SZ) : ∃ xs, H D = some (.lst xs) ∧ xs.length < sizeLine ∧ Grow K D (acc ++ [d]) (upd H D (.lst (xs ++ [u]))) M A S ∧ Stay H M (upd H D (.lst (xs ++ [u]))) M := by
  obtain ⟨xs, e, rs, _⟩ := g.at_
  have hl := rs.length
  refine ⟨xs, e, by rw [sz_eq, ← hl]; exact z, ⟨g.rel.putAt g.mu g.notA, ⟨_, upd_same, (rs.append (.cons r .nil)).stay (stay_mut g.mu), ?_⟩, g.mu, g.nt⟩, stay_mut g.mu⟩
  rw [List.length_append, ← hl]
  exact z
/-- the list begins -/
theorem Grow.start (r : Rel K H M A S) (h : H D = none) : Grow K D [] (upd H D (.lst [])) (fun a => M a ∨ a = D) A S ∧ Fm H M A S (upd H D (.lst [])) (fun a => M a ∨ a = D) A S := by
  have st : Stay H M (upd H D (.lst [])) (fun a => M a ∨ a = D) := fun a u e n => ⟨by rw [upd_ne (ne_of_none e h)]; exact e, fun z => z.elim n fun q => by rw [q, h] at e; cases e⟩
  have nA : D ∉ A := fun hm => by
    obtain ⟨o, e⟩ := r.inH hm
    rw [h] at e; cases e
  refine ⟨⟨⟨r.len, r.nd, fun l ds a e1 e2 => ?_, fun l ds a e1 e2 => ?_, fun a m => ?_⟩, ⟨[], upd_same, .nil, Nat.zero_le _⟩, .inr rfl, fun m => nA m.mem⟩, st, fun a u e m n => ⟨by rw [upd_ne (ne_of_none e h)]; exact e, .inl m, n⟩, ⟨[], by simp⟩⟩
  · obtain ⟨m, xs, e, rs, z⟩ := r.lst l ds a e1 e2
    exact ⟨.inl m, xs, by rw [upd_ne (ne_of_none e h)]; exact e, rs.stay st, z⟩
  · obtain ⟨q, ⟨u, e⟩, n⟩ := r.frz l ds a e1 e2
    exact ⟨q.stay st, ⟨u, (st a u e n).1⟩, (st a u e n).2⟩
  · rcases m with m | rfl
    · obtain ⟨u, e⟩ := r.al a m
      exact ⟨u, by rw [upd_ne (ne_of_none e h)]; exact e⟩
    · exact ⟨_, upd_same⟩
/-- younger objects may change -/
theorem Fm.young {o : HO} (f : Fm H1 M1 A1 S1 H M A S) (h : H1 D = none) : Fm H1 M1 A1 S1 (upd H D o) M A S :=
  ⟨fun a u e n => let ⟨q, q2⟩ := f.st a u e n; ⟨by rw [upd_ne (ne_of_none e h)]; exact q, q2⟩, fun a u e m n => let ⟨q, q2⟩ := f.ex a u e m n; ⟨by rw [upd_ne (ne_of_none e h)]; exact q, q2⟩, f.pre⟩
/-- the list is done: a value -/
theorem Grow.done {acc : List PD} (g : Grow K D acc H M A S) (f : Fm H1 M1 A1 S1 H M A S) (h : H1 D = none) :
    Rel K H (fun b => M b ∧ b ≠ D) A S ∧ Fm H1 M1 A1 S1 H (fun b => M b ∧ b ≠ D) A S ∧ Rp K H (fun b => M b ∧ b ≠ D) (.list acc) (.ref D) := by
  have st : Stay H M H (fun b => M b ∧ b ≠ D) := fun a u e n => ⟨e, fun q => n q.1⟩
  obtain ⟨xs, e, rs, z⟩ := g.at_
  refine ⟨⟨g.rel.len, g.rel.nd, fun l ds a e1 e2 => ?_, fun l ds a e1 e2 => ?_, fun a m => g.rel.al a m.1⟩, ⟨f.st.trans st, fun a u e m n => ?_, f.pre⟩, .lst (.of e (fun q => q.2 rfl) z) (rs.stay st)⟩
  · obtain ⟨m, ys, e', rs', z'⟩ := g.rel.lst l ds a e1 e2
    exact ⟨⟨m, fun q => g.notA (q ▸ List.mem_of_getElem? e2)⟩, ys, e', rs'.stay st, z'⟩
  · obtain ⟨q, w, n⟩ := g.rel.frz l ds a e1 e2
    exact ⟨q.stay st, w, fun q => n q.1⟩
  · obtain ⟨q1, q2, q3⟩ := f.ex a u e m n
    exact ⟨q1, ⟨q2, ne_of_none e h⟩, q3⟩
/-- the list is done: a list of the store -/
theorem Grow.doneM {acc : List PD} (g : Grow K D acc H M A S) (f : Fm H1 M1 A1 S1 H M A S) (h : H1 D = none) :
    Rel K H M (A ++ [D]) (S ++ [O.lst acc]) ∧ Fm H1 M1 A1 S1 H M (A ++ [D]) (S ++ [O.lst acc]) := by
  have hl : ∀ (l : Nat) (a : Addr), (A ++ [D])[l]? = some a → A[l]? = some a ∨ (l = A.length ∧ a = D) := fun l a e => by
    by_cases hlt : l < A.length
    · rw [List.getElem?_append_left hlt] at e; exact .inl e
    · rw [List.getElem?_append_right (by omega)] at e
      have e0 : l - A.length = 0 := by
        have := (List.getElem?_eq_some_iff.mp e).1
        simp at this; omega
      rw [e0] at e
      exact .inr ⟨by omega, by simpa using e.symm⟩
  have hS : ∀ (l : Nat) (o : Addr), A[l]? = some o → (S ++ [O.lst acc])[l]? = S[l]? := fun l o e => by
    rw [List.getElem?_append_left]
    rw [← g.rel.len]; exact (List.getElem?_eq_some_iff.mp e).1
  refine ⟨⟨by simp [g.rel.len], ?_, fun l ds a e1 e2 => ?_, fun l ds a e1 e2 => ?_, g.rel.al⟩, f.st, fun a u e m n => ?_, ?_⟩
  · exact List.nodup_append.mpr ⟨g.rel.nd, by simp, fun a ha b hb => by
      have : b = D := by simpa using hb
      subst this
      exact fun e => g.notA (e ▸ ha)⟩
  · rcases hl l a e2 with e | ⟨e, rfl⟩
    · rw [hS l a e] at e1
      exact g.rel.lst l ds a e1 e
    · rw [e, g.rel.len, List.getElem?_append_right (Nat.le_refl _)] at e1
      have : acc = ds := by simpa using e1
      subst this
      exact ⟨g.mu, g.at_⟩
  · rcases hl l a e2 with e | ⟨e, rfl⟩
    · rw [hS l a e] at e1
      exact g.rel.frz l ds a e1 e
    · rw [e, g.rel.len, List.getElem?_append_right (Nat.le_refl _)] at e1
      simp at e1
  · obtain ⟨q1, q2, q3⟩ := f.ex a u e m n
    refine ⟨q1, q2, fun ⟨l, ds', e1, e2⟩ => ?_⟩
    rcases hl l a e2 with e3 | ⟨_, rfl⟩
    · rw [hS l a e3] at e1
      exact q3 ⟨l, ds', e1, e3⟩
    · rw [h] at e; cases e
  · obtain ⟨B, e⟩ := f.pre
    exact ⟨B ++ [D], by rw [e, List.append_assoc]⟩
theorem Grow.fin {acc : List PD} {m : Bool} {W : XK} {Q : VK} (g : Grow K D acc H M A S) (f : Fm H1 M1 A1 S1 H M A S) (h : H1 D = none)
    (p : post K mg W H1 M1 A1 S1 (newM m (.list acc) S) fun v H' M' A' _ => ∀ u, Vr K mg H' M' A' v u → Q u H') : Q (.ref D) H := by
  cases m with
  | false =>
    obtain ⟨r, f', rp⟩ := g.done f h
    exact p _ _ _ f' r _ rp
  | true =>
    obtain ⟨r, f'⟩ := g.doneM f h
    exact p _ _ _ f' r _ ⟨D, by rw [← g.rel.len, List.getElem?_append_right (Nat.le_refl _)]; simp, rfl⟩
end
/-! ### a comprehension's turns -/
section
variable {K : PySem.W.Frag} {mg : Str → Option Value}
/-- what stays true while other things happen -/
def Stab (P : Hp → (Addr → Prop) → List Addr → Prop) : Prop := ∀ H M A H' M' A', Stay H M H' M' → (∃ B, A' = A ++ B) → P H M A → P H' M' A'
theorem Sr.stab {σd : Sg} {σ : L2.St} : Stab (fun H M A => Sr K mg H M A σd σ) := fun H M A H' M' A' s ⟨B, e⟩ h => by
  refine ⟨h.len, fun i v q => ?_⟩
  obtain ⟨u, h1, h2⟩ := h.at_ i v q
  refine ⟨u, h1, ?_⟩
  cases v with
  | d x => exact Rp.stay s (show Rp K H M x u from h2)
  | ex _ =>
    obtain ⟨a, c, d, e1, r, h3, n⟩ := h2
    obtain ⟨h4, n4⟩ := s a _ h3 n
    exact ⟨a, c, d, e1, r, h4, n4⟩
  | loc l =>
    obtain ⟨a, e1, e2⟩ := (show ∃ a, A[l]? = some a ∧ u = .ref a from h2)
    refine ⟨a, ?_, e2⟩
    rw [e, List.getElem?_append_left (List.getElem?_eq_some_iff.mp e1).1]
    exact e1
theorem Wk.stab {J : It} {items : List PD} {gd : Gd} : Stab (fun H M A => Wk K J items gd H M A) := fun H M A H' M' A' s p h => h.stay s p
theorem Stab.and {P P' : Hp → (Addr → Prop) → List Addr → Prop} (h : Stab P) (h' : Stab P') : Stab (fun H M A => P H M A ∧ P' H M A) := fun H M A H' M' A' s b p => ⟨h _ _ _ _ _ _ s b p.1, h' _ _ _ _ _ _ s b p.2⟩
def bodyC (tg : Tg) (σ : Sg) (rc : Sg → Sto → R Bool) (re : Sg → Sto → R VV) : PD → Sto → R (Option PD) := fun x S => (R.opt (bindTg tg x σ) S).bind fun σ' S => (rc σ' S).bind fun k S =>
  if k = true then ((re σ' S).bind fun v S => esc S v).bind fun y S => .ok (some y) S else .ok none S
def W0 : WX := fun _ _ _ _ => False
theorem lc_loop {β : Type} {W : XK} {H1 : Hp} {M1 : Addr → Prop} {A1 : List Addr} {S1 : Sto} {D : Addr} {J : It} {items acc0 : List PD} {tg : Tg} {vs : List Nat} {σd : Sg} {σ : L2.St} {rc : Sg → Sto → R Bool} {re : Sg → Sto → R VV} {fin : List PD → Sto → R β} {gd : Gd}
    {Q : β → Hp → (Addr → Prop) → List Addr → Sto → Prop} {P : Hp → (Addr → Prop) → List Addr → Prop} {F : Hp → Prop} {H : Hp} {M : Addr → Prop} {A : List Addr} {S : Sto}
    (hD : H1 D = none) (hv : ∀ i ∈ tg.slots, i ∈ vs) (sP : Stab P) (pP : ∀ {H M A}, P H M A → Sr K mg H M A (wipeD σd vs) (wipe σ vs) ∧ Wk K J items gd H M A)
    (hF : ∀ {acc H M A S}, Grow K D acc H M A S → P H M A → Fm H1 M1 A1 S1 H M A S → post K mg W H1 M1 A1 S1 (fin acc S) Q → F H)
    (g0 : Grow K D acc0 H M A S) (p0 : P H M A) (f0 : Fm H1 M1 A1 S1 H M A S) (q0 : post K mg W H1 M1 A1 S1 ((loopC (fun x S => grd gd S (bodyC tg (wipeD σd vs) rc re x S)) items acc0 S).bind fun ds S => grd gd S (fin ds S)) Q) :
    ∃ Wt : Nat → Nat → Hp → Prop, (∃ m, Wt 0 m H) ∧ ∀ i m H, Wt i m H →
      (J.stop i H ∧ F H) ∨ (J.go i H ∧ ∃ Nx : Hp → Prop, (∀ H', Nx H' → ∃ m', m' < m ∧ Wt (i + 1) m' H') ∧ ∀ x H', J.yld i H x H' → gOf K tg x (wipe σ vs) H' fun σ2 H2 => wipe σ2 vs = wipe σ vs ∧ tBo K mg W0 rc σ2 H2 fun b H3 =>
        if b = true then tV K mg W0 re σ2 H3 fun y H4 => ∃ acc, H4 D = some (.lst acc) ∧ acc.length < sizeLine ∧ Nx (upd H4 D (.lst (acc ++ [y]))) else Nx H3) := by
  let Wt : Nat → Nat → Hp → Prop := fun i m H => m = items.length - i ∧ i ≤ items.length ∧ ∃ M A S acc, Grow K D acc H M A S ∧ P H M A ∧ Fm H1 M1 A1 S1 H M A S ∧ post K mg W H1 M1 A1 S1 ((loopC (fun x S => grd gd S (bodyC tg (wipeD σd vs) rc re x S)) (items.drop i) acc S).bind fun ds S => grd gd S (fin ds S)) Q
  refine ⟨Wt, ⟨items.length, by simp, Nat.zero_le _, M, A, S, acc0, g0, p0, f0, q0⟩, ?_⟩
  rintro i m H ⟨rfl, hi, M, A, S, acc, g, p, f, q⟩
  obtain ⟨sr, wk⟩ := pP p
  by_cases ho : gOk gd S
  case neg =>
    refine False.elim ?_
    by_cases hlt : i < items.length
    · rw [List.drop_eq_getElem_cons hlt] at q
      unfold loopC at q
      rw [grd_no ho] at q
      exact q.elim
    · rw [List.drop_eq_nil_of_le (by omega)] at q
      have q : post K mg W H1 M1 A1 S1 (grd gd S (fin acc S)) Q := q
      rw [grd_no ho] at q
      exact q.elim
  obtain ⟨w1, w2, w3⟩ := wk H M A S Stay.refl ⟨[], by simp⟩ g.rel ho
  by_cases hlt : i < items.length
  · refine .inr ⟨w1 i hlt, fun H' => Wt (i + 1) (items.length - (i + 1)) H', fun H' h => ⟨_, by omega, h⟩, fun x H2 y => ?_⟩
    have hd : items[i]? = some items[i] := by simp [hlt]
    obtain ⟨rp, hh⟩ := w3 i _ hd x H2 y
    rw [List.drop_eq_getElem_cons hlt] at q
    have f2 : Fm H M A S H2 M A S ∧ Rel K H2 M A S := by
      rcases hh with rfl | ⟨T, o, e, rfl⟩
      · exact ⟨Fm.refl, g.rel⟩
      · exact ⟨Fm.new e, g.rel.new e⟩
    obtain ⟨f2, R2⟩ := f2
    have g2 := g.mono f2 R2
    have p2 := sP _ _ _ _ _ _ f2.st f2.pre p
    have F2 := f.trans f2
    generalize items[i] = d at *
    unfold loopC at q
    rw [grd_ok ho] at q
    cases hb : bindTg tg d (wipeD σd vs) with
    | none => rw [show bodyC tg (wipeD σd vs) rc re d S = .bad by unfold bodyC; rw [hb]; rfl] at q; exact q.elim
    | some σ' =>
      refine tg_bind2 hb rp (pP p2).1 hv fun σ2 sr2 hw => ⟨hw.trans wipe_idem, M, A, S, σ', R2, sr2, ?_⟩
      cases hc : rc σ' S with
      | bad => rw [show bodyC tg (wipeD σd vs) rc re d S = .bad by unfold bodyC; rw [hb, R.opt_some, R.bind_ok, hc]; rfl] at q; exact q.elim
      | exc e S' => rw [show bodyC tg (wipeD σd vs) rc re d S = .exc e S' by unfold bodyC; rw [hb, R.opt_some, R.bind_ok, hc]; rfl] at q; exact q.elim
      | ok b S3 =>
        intro H3 M3 A3 f3 R3
        have g3 := g2.mono f3 R3
        have p3 := sP _ _ _ _ _ _ f3.st f3.pre p2
        have F3 := F2.trans f3
        cases b with
        | false =>
          rw [show bodyC tg (wipeD σd vs) rc re d S = .ok none S3 by unfold bodyC; rw [hb, R.opt_some, R.bind_ok, hc, R.bind_ok, if_neg Bool.false_ne_true]] at q
          show Wt (i + 1) (items.length - (i + 1)) H3
          exact ⟨rfl, hlt, M3, A3, S3, acc, g3, p3, F3, q⟩
        | true =>
          refine ⟨M3, A3, S3, σ', R3, sr2.mono f3, ?_⟩
          cases he : re σ' S3 with
          | bad => rw [show bodyC tg (wipeD σd vs) rc re d S = .bad by unfold bodyC; rw [hb, R.opt_some, R.bind_ok, hc, R.bind_ok, if_pos rfl, he]; rfl] at q; exact q.elim
          | exc e S' => rw [show bodyC tg (wipeD σd vs) rc re d S = .exc e S' by unfold bodyC; rw [hb, R.opt_some, R.bind_ok, hc, R.bind_ok, if_pos rfl, he]; rfl] at q; exact q.elim
          | ok v S4 =>
            intro H4 M4 A4 f4 R4 u hu
            obtain ey | ⟨y, S5, M5, ey, R5, f5, rp5⟩ := esc_ok R4 hu
            · rw [show bodyC tg (wipeD σd vs) rc re d S = .bad by unfold bodyC; rw [hb, R.opt_some, R.bind_ok, hc, R.bind_ok, if_pos rfl, he, R.bind_ok, ey]; rfl] at q
              exact q.elim
            rw [show bodyC tg (wipeD σd vs) rc re d S = .ok (some y) S5 by unfold bodyC; rw [hb, R.opt_some, R.bind_ok, hc, R.bind_ok, if_pos rfl, he, R.bind_ok, ey, R.bind_ok]] at q
            dsimp only at q
            have f45 := f4.trans f5
            have g5 := g3.mono f45 R5
            have p5 := sP _ _ _ _ _ _ f45.st f45.pre p3
            have F5 := F3.trans f45
            split at q
            · rename_i hz
              obtain ⟨xs, ex, hxs, g6, s6⟩ := g5.more rp5 hz
              exact ⟨xs, ex, hxs, rfl, hlt, M5, A4, S5, _, g6, sP _ _ _ _ _ _ s6 ⟨[], by simp⟩ p5, F5.young hD, q⟩
            · exact q.elim
  · have e : i = items.length := by omega
    subst e
    rw [List.drop_length] at q
    have q : post K mg W H1 M1 A1 S1 (grd gd S (fin acc S)) Q := q
    rw [grd_ok ho] at q
    exact .inl ⟨w2 _ rfl, hF g p f q⟩
end
end KA
/-! KAComp2: comprehensions are the text's. -/
namespace KA
open PySem PySem.Spec PyProof.Rows L2
section
variable {D : Dom} {k : Nat}
theorem wd_blk {Γ : Cs} {X : Cx} {s : Shared} {H : Hp} {scope : Scope} {cl : List (Str × Addr)} {C : Addr} {fp : List Addr} (w : Wd D k Γ X) : Wd D k (Γ.blk scope) (X.blk s H scope (compEnvC scope cl C X.env) fp) where
  hN := w.hN
  nd := w.nd
  scp := by
    show relS scope X.env.scope = relS scope Γ.sc
    rw [w.scp]
  fn := fun x h => h
  calm := w.calm
  room := w.room
  grd := w.grd
  fns := w.fns
  blt := w.blt
  con := w.con
  exc := w.exc
  hasX := w.hasX
def SC (D : Dom) (k : Nat) (c : CO) : Prop := ∀ (X : Cx) (W : WX) (Γ : Cs) (es : List Expr), Wd D k Γ X → Takes X W → chkC D Γ c es = true → PTs X es (tBo X.K X.mg W fun σ S => evC (evCall D.T k) (parOf D.T) σ c S)
theorem _root_.L2.PTs.imp {X : Cx} {es : List Expr} {t t' : TT} (h : PTs X es t) (i : ∀ σ H Q, t' σ H Q → t σ H Q) : PTs X es t' := ⟨fun pins s σ H Q I q => h.run pins s σ H Q I (i σ H Q q)⟩
theorem sc_none : SC D k .none := fun X W Γ es w tk c => by
  cases es with
  | nil => exact pts_nil.imp fun σ H Q ⟨M, A, S, σd, R, sr, p⟩ => by simp only [evC] at p; exact post.ok R p
  | cons e r => exact no (by unfold chkC at c; cases c)
theorem sc_some {a : CE} (ia : ST D k a) : SC D k (.some a) := fun X W Γ es w tk c => by
  match es, c with
  | [], c => exact no (by unfold chkC at c; cases c)
  | _ :: _ :: _, c => exact no (by unfold chkC at c; cases c)
  | [e], c =>
    refine (pts_one (ia X W Γ e w tk (by unfold chkC at c; exact c))).imp fun σ H Q ⟨M, A, S, σd, R, sr, p⟩ => ?_
    simp only [evC] at p
    exact ⟨M, A, S, σd, R, sr, p⟩
theorem own_slots {N : List Str} : ∀ {is : List Nat}, ownB N is = true → (ownOf N is).map (·.2) = is
  | [], _ => rfl
  | i :: is, h => by
    have h' : ((N[i]?).isSome && ownB N is) = true := h
    obtain ⟨h1, h2⟩ := ba h'
    obtain ⟨x, hx⟩ := Option.isSome_iff_exists.mp h1
    unfold ownOf
    rw [List.filterMap_cons, hx]
    show i :: (ownOf N is).map (·.2) = _
    rw [own_slots h2]
/-- a comprehension's parts in its context -/
structure CompOk (D : Dom) (k : Nat) (X : Cx) (W : WX) (tg : Tg) (it : CI) (c : CO) (elt : CE) (x t i : Expr) (ifs : List Expr) (scope : Scope) (own : List (Str × Nat)) : Prop where
  nd : X.N.Nodup
  ow : own.map (·.2) = tg.slots
  pi : PI X t i (tWk X.K X.mg W fun σ S => evI (evCall D.T k) (parOf D.T) σ it S)
  fs : ∀ x, foldedSetIterable i X.env x = pure x
  ok : BlkOk X.N X.env.scope scope own
  pg : ∀ (s : Shared) (H : Hp) (C : Addr) (cl : List (Str × Addr)) (fp : List Addr), PG (X.blk s H scope (compEnvC scope cl C X.env) fp) t (gOf X.K tg)
  pt : ∀ (s : Shared) (H : Hp) (C : Addr) (cl : List (Str × Addr)) (fp : List Addr), PTs (X.blk s H scope (compEnvC scope cl C X.env) fp) ifs (tBo X.K X.mg W0 fun σ S => evC (evCall D.T k) (parOf D.T) σ c S)
  pe : ∀ (s : Shared) (H : Hp) (C : Addr) (cl : List (Str × Addr)) (fp : List Addr), PE (X.blk s H scope (compEnvC scope cl C X.env) fp) x (tV X.K X.mg W0 fun σ S => evE (evCall D.T k) (parOf D.T) σ elt S)
theorem comp_ok {X : Cx} {W : WX} {Γ : Cs} {m : Bool} {elt : CE} {tg : Tg} {it : CI} {c : CO} {x t i : Expr} {ifs : List Expr} {scope : Scope} {pos : Pos} (ie : SE D k elt) (ii : SI D k it) (ic : SC D k c) (w : Wd D k Γ X) (tk : Takes X W)
    (h : chkE D Γ (.comp m elt (.mk tg it c)) (.ListComp x [⟨t, i, ifs, 0⟩] scope pos) = true) : CompOk D k X W tg it c elt x t i ifs scope (ownOf Γ.N tg.slots) := by
  unfold chkE at h
  obtain ⟨h1, c1⟩ := ba h
  obtain ⟨h2, c2⟩ := ba h1
  obtain ⟨h3, c3⟩ := ba h2
  obtain ⟨h4, c4⟩ := ba h3
  obtain ⟨h5, c5⟩ := ba h4
  obtain ⟨c7, c6⟩ := ba h5
  obtain ⟨p1, p2⟩ := ii X W Γ t i w tk c7 c6
  exact ⟨by rw [w.hN]; exact w.nd, own_slots c4, p1, p2, by rw [w.hN, w.scp]; exact blkOk_by c5, fun s H C cl fp => pg_of (wd_blk w) c3, fun s H C cl fp => ic _ W0 _ _ (wd_blk w) takes0 c2, fun s H C cl fp => ie _ W0 _ _ (wd_blk w) takes0 c1⟩
theorem comp_post {X : Cx} {W : WX} {m : Bool} {elt : CE} {tg : Tg} {it : CI} {c : CO} {own : List (Str × Nat)} (ow : own.map (·.2) = tg.slots) {σ : L2.St} {H : Hp} {Q : VK}
    (h : tV X.K X.mg W (fun σ S => evE (evCall D.T k) (parOf D.T) σ (.comp m elt (.mk tg it c)) S) σ H Q) :
    tLc (tWk X.K X.mg W fun σ S => evI (evCall D.T k) (parOf D.T) σ it S) (gOf X.K tg) (tBo X.K X.mg W0 fun σ S => evC (evCall D.T k) (parOf D.T) σ c S) (tV X.K X.mg W0 fun σ S => evE (evCall D.T k) (parOf D.T) σ elt S) (own.map (·.2)) σ H Q := by
  obtain ⟨M, A, S, σd, R, sr, p⟩ := h
  simp only [evE] at p
  rw [ow]
  refine ⟨M, A, S, σd, R, sr, (post.bind p).imp fun ⟨items, gd⟩ H1 M1 A1 S1 f1 R1 p1 J wk Dn hD => ?_⟩
  obtain ⟨g, f⟩ := Grow.start R1 hD
  exact lc_loop (K := X.K) (mg := X.mg) (σd := σd) (P := fun H M A => Sr X.K X.mg H M A (wipeD σd tg.slots) (wipe σ tg.slots) ∧ Wk X.K J items gd H M A) (F := Q (.ref Dn)) hD (fun i hi => hi) (Stab.and Sr.stab Wk.stab) (fun h => h)
    (fun g p f q => g.fin f hD q) g ⟨((sr.mono f1).mono f).wipe _, wk.stay f.st f.pre⟩ f p1
theorem se_comp (m : Bool) {elt : CE} {tg : Tg} {it : CI} {c : CO} (ie : SE D k elt) (ii : SI D k it) (ic : SC D k c) : SE D k (.comp m elt (.mk tg it c)) := by
  intro X W Γ e w tk h
  cases e with
  | ListComp x gs scope pos =>
    cases gs with
    | nil => exact no (by unfold chkE at h; cases h)
    | cons g r =>
      obtain ⟨t, i, ifs, as⟩ := g
      have z : as = 0 ∧ r = [] := by
        unfold chkE at h
        split at h <;> simp_all
      obtain ⟨z1, z2⟩ := z
      subst z1 z2
      · · have ok := comp_ok ie ii ic w tk h
          exact (pe_lc w.calm ok.nd ok.pi ok.ok ok.pg ok.pt ok.pe ok.fs).imp fun σ H Q q => comp_post (own := ownOf Γ.N tg.slots) ok.ow q
  | _ => exact no (by unfold chkE at h; cases h)
/-! ### two clauses -/
structure CompOk2 (D : Dom) (k : Nat) (X : Cx) (W : WX) (tg : Tg) (it : CI) (c : CO) (tg1 : Tg) (it1 : CI) (c1 : CO) (elt : CE) (x t i : Expr) (ifs : List Expr) (t1 i1 : Expr) (ifs1 : List Expr) (scope : Scope) (own : List (Str × Nat)) : Prop where
  nd : X.N.Nodup
  ow : own.map (·.2) = tg.slots ++ tg1.slots
  pi : PI X t i (tWk X.K X.mg W fun σ S => evI (evCall D.T k) (parOf D.T) σ it S)
  fs : ∀ x, foldedSetIterable i X.env x = pure x
  ok : BlkOk X.N X.env.scope scope own
  pg : ∀ (s : Shared) (H : Hp) (C : Addr) (cl : List (Str × Addr)) (fp : List Addr), PG (X.blk s H scope (compEnvC scope cl C X.env) fp) t (gOf X.K tg)
  pt : ∀ (s : Shared) (H : Hp) (C : Addr) (cl : List (Str × Addr)) (fp : List Addr), PTs (X.blk s H scope (compEnvC scope cl C X.env) fp) ifs (tBo X.K X.mg W0 fun σ S => evC (evCall D.T k) (parOf D.T) σ c S)
  pi1 : ∀ (s : Shared) (H : Hp) (C : Addr) (cl : List (Str × Addr)) (fp : List Addr), PI (X.blk s H scope (compEnvC scope cl C X.env) fp) t1 i1 (tWk X.K X.mg W0 fun σ S => evI (evCall D.T k) (parOf D.T) σ it1 S)
  fs1 : ∀ env x, foldedSetIterable i1 env x = pure x
  pg1 : ∀ (s : Shared) (H : Hp) (C : Addr) (cl : List (Str × Addr)) (fp : List Addr), PG (X.blk s H scope (compEnvC scope cl C X.env) fp) t1 (gOf X.K tg1)
  pt1 : ∀ (s : Shared) (H : Hp) (C : Addr) (cl : List (Str × Addr)) (fp : List Addr), PTs (X.blk s H scope (compEnvC scope cl C X.env) fp) ifs1 (tBo X.K X.mg W0 fun σ S => evC (evCall D.T k) (parOf D.T) σ c1 S)
  pe : ∀ (s : Shared) (H : Hp) (C : Addr) (cl : List (Str × Addr)) (fp : List Addr), PE (X.blk s H scope (compEnvC scope cl C X.env) fp) x (tV X.K X.mg W0 fun σ S => evE (evCall D.T k) (parOf D.T) σ elt S)
theorem fold_chkI {Γ : Cs} {it : CI} {e : Expr} (h : chkI D Γ it e = true) : ∀ env x, foldedSetIterable e env x = pure x := fun env => by
  cases e with
  | Set es pos => 
    cases it with
    | seq a =>
      unfold chkI at h
      exact absurd (ba h).2 (by simp [setB])
    | _ => unfold chkI at h; cases h
  | _ => exact fun _ => rfl
theorem comp_ok2 {X : Cx} {W : WX} {Γ : Cs} {m : Bool} {elt : CE} {tg tg1 : Tg} {it it1 : CI} {c c1 : CO} {x t i t1 i1 : Expr} {ifs ifs1 : List Expr} {scope : Scope} {pos : Pos} (ie : SE D k elt) (ii : SI D k it) (ic : SC D k c) (ii1 : SI D k it1) (ic1 : SC D k c1) (w : Wd D k Γ X) (tk : Takes X W)
    (h : chkE D Γ (.comp2 m elt (.mk tg it c) (.mk tg1 it1 c1)) (.ListComp x [⟨t, i, ifs, 0⟩, ⟨t1, i1, ifs1, 0⟩] scope pos) = true) : CompOk2 D k X W tg it c tg1 it1 c1 elt x t i ifs t1 i1 ifs1 scope (ownOf Γ.N (tg.slots ++ tg1.slots)) := by
  unfold chkE at h
  obtain ⟨h1, d1⟩ := ba h
  obtain ⟨h2, d2⟩ := ba h1
  obtain ⟨h3, d3⟩ := ba h2
  obtain ⟨h4, d4⟩ := ba h3
  obtain ⟨h5, d5⟩ := ba h4
  obtain ⟨h6, d6⟩ := ba h5
  obtain ⟨h7, d7⟩ := ba h6
  obtain ⟨h8, d8⟩ := ba h7
  obtain ⟨h9, d9⟩ := ba h8
  obtain ⟨d11, d10⟩ := ba h9
  obtain ⟨p1, p2⟩ := ii X W Γ t i w tk d11 d10
  exact ⟨by rw [w.hN]; exact w.nd, own_slots d7, p1, p2, by rw [w.hN, w.scp]; exact blkOk_by d8, fun s H C cl fp => pg_of (wd_blk w) d6, fun s H C cl fp => ic _ W0 _ _ (wd_blk w) takes0 d5, fun s H C cl fp => (ii1 _ W0 _ _ _ (wd_blk w) takes0 d4 d9).1,
    fold_chkI d4, fun s H C cl fp => pg_of (wd_blk w) d3, fun s H C cl fp => ic1 _ W0 _ _ (wd_blk w) takes0 d2, fun s H C cl fp => ie _ W0 _ _ (wd_blk w) takes0 d1⟩

noncomputable def body2 (call : Nat → List VV → Sto → R VV) (par : Nat → List Str) (tg tg1 : Tg) (c c1 : CO) (it1 : CI) (elt : CE) (σ : Sg) : PD → List PD → Sto → R (List PD) := fun x acc S => (R.opt (bindTg tg x σ) S).bind fun σ' S => (evC call par σ' c S).bind fun k S =>
  if k = true then (evI call par σ' it1 S).bind fun p1 S => (loopC (fun x S => grd p1.2 S (bodyC tg1 (wipeD σ' tg1.slots) (fun σ S => evC call par σ c1 S) (fun σ S => evE call par σ elt S) x S)) p1.1 acc S).bind fun acc S => grd p1.2 S (.ok acc S) else .ok acc S
theorem comp_post2 {X : Cx} {W : WX} {m : Bool} {elt : CE} {tg tg1 : Tg} {it it1 : CI} {c c1 : CO} {own : List (Str × Nat)} (ow : own.map (·.2) = tg.slots ++ tg1.slots) {σ : L2.St} {H : Hp} {Q : VK}
    (h : tV X.K X.mg W (fun σ S => evE (evCall D.T k) (parOf D.T) σ (.comp2 m elt (.mk tg it c) (.mk tg1 it1 c1)) S) σ H Q) :
    tLc2 (tWk X.K X.mg W fun σ S => evI (evCall D.T k) (parOf D.T) σ it S) (gOf X.K tg) (tBo X.K X.mg W0 fun σ S => evC (evCall D.T k) (parOf D.T) σ c S) (tWk X.K X.mg W0 fun σ S => evI (evCall D.T k) (parOf D.T) σ it1 S) (gOf X.K tg1)
      (tBo X.K X.mg W0 fun σ S => evC (evCall D.T k) (parOf D.T) σ c1 S) (tV X.K X.mg W0 fun σ S => evE (evCall D.T k) (parOf D.T) σ elt S) (own.map (·.2)) tg1.slots σ H Q := by
  obtain ⟨M, A, S, σd, R, sr, p⟩ := h
  simp only [evE] at p
  rw [ow]
  refine ⟨M, A, S, σd, R, sr, (post.bind p).imp fun ⟨items, gd⟩ H1 M1 A1 S1 f1 R1 p1 J wk Dn hD => ?_⟩
  obtain ⟨g0, f0⟩ := Grow.start R1 hD
  generalize hvs : tg.slots ++ tg1.slots = vs at *
  have hv : ∀ i ∈ tg.slots, i ∈ vs := fun i hi => by rw [← hvs]; simp [hi]
  let f2 := body2 (evCall D.T k) (parOf D.T) tg tg1 c c1 it1 elt (wipeD σd vs)
  have p1 : post X.K X.mg (fun c d H => W c d σ H) H1 M1 A1 S1 ((loopC2 (fun x acc S => grd gd S (f2 x acc S)) items [] S1).bind fun ds S => grd gd S (newM m (.list ds) S)) _ := p1
  let Wt : Nat → Nat → Hp → Prop := fun i n H => n = items.length - i ∧ i ≤ items.length ∧ ∃ M A S acc, Grow X.K Dn acc H M A S ∧ (Sr X.K X.mg H M A (wipeD σd vs) (wipe σ vs) ∧ Wk X.K J items gd H M A) ∧ Fm H1 M1 A1 S1 H M A S ∧
    post X.K X.mg (fun c d H => W c d σ H) H1 M1 A1 S1 ((loopC2 (fun x acc S => grd gd S (f2 x acc S)) (items.drop i) acc S).bind fun ds S => grd gd S (newM m (.list ds) S)) fun v H' M' A' _ => ∀ u, Vr X.K X.mg H' M' A' v u → Q u H'
  have sP : Stab (fun H M A => Sr X.K X.mg H M A (wipeD σd vs) (wipe σ vs) ∧ Wk X.K J items gd H M A) := Stab.and Sr.stab Wk.stab
  refine ⟨Wt, ⟨items.length, by simp, Nat.zero_le _, _, _, _, _, g0, ⟨((sr.mono f1).mono f0).wipe _, wk.stay f0.st f0.pre⟩, f0, p1⟩, ?_⟩
  rintro i n H ⟨rfl, hi, M, A, S, acc, g, pp, f, q⟩
  obtain ⟨sr, wk⟩ := id pp
  by_cases ho : gOk gd S
  case neg =>
    refine False.elim ?_
    by_cases hlt : i < items.length
    · rw [List.drop_eq_getElem_cons hlt] at q
      unfold loopC2 at q
      rw [grd_no ho] at q
      exact q.elim
    · rw [List.drop_eq_nil_of_le (by omega)] at q
      have q : post X.K X.mg (fun c d H => W c d σ H) H1 M1 A1 S1 (grd gd S (newM m (.list acc) S)) _ := q
      rw [grd_no ho] at q
      exact q.elim
  obtain ⟨w1, w2, w3⟩ := wk H M A S Stay.refl ⟨[], by simp⟩ g.rel ho
  by_cases hlt : i < items.length
  · refine .inr ⟨w1 i hlt, fun H' => Wt (i + 1) (items.length - (i + 1)) H', fun H' h => ⟨_, by omega, h⟩, fun x H2 y => ?_⟩
    have hd : items[i]? = some items[i] := by simp [hlt]
    obtain ⟨rp, hh⟩ := w3 i _ hd x H2 y
    rw [List.drop_eq_getElem_cons hlt] at q
    have f2' : Fm H M A S H2 M A S ∧ Rel X.K H2 M A S := by
      rcases hh with rfl | ⟨T, o, e, rfl⟩
      · exact ⟨Fm.refl, g.rel⟩
      · exact ⟨Fm.new e, g.rel.new e⟩
    obtain ⟨fz, R2⟩ := f2'
    have g2 := g.mono fz R2
    have p2 := sP _ _ _ _ _ _ fz.st fz.pre pp
    have F2 := f.trans fz
    generalize items[i] = d at *
    unfold loopC2 at q
    rw [grd_ok ho] at q
    cases hb : bindTg tg d (wipeD σd vs) with
    | none => rw [show f2 d acc S = .bad by show body2 _ _ _ _ _ _ _ _ _ _ _ _ = _; unfold body2; rw [hb]; rfl] at q; exact q.elim
    | some σ' =>
      refine tg_bind2 hb rp p2.1 hv fun σ2 sr2 hw => ⟨hw.trans wipe_idem, M, A, S, σ', R2, sr2, ?_⟩
      show post X.K X.mg _ H2 M A S (evC (evCall D.T k) (parOf D.T) σ' c S) _
      cases hc : evC (evCall D.T k) (parOf D.T) σ' c S with
      | bad => rw [show f2 d acc S = .bad by show body2 _ _ _ _ _ _ _ _ _ _ _ _ = _; unfold body2; rw [hb, KA.R.opt_some, KA.R.bind_ok, hc]; rfl] at q; exact q.elim
      | exc e S' => rw [show f2 d acc S = .exc e S' by show body2 _ _ _ _ _ _ _ _ _ _ _ _ = _; unfold body2; rw [hb, KA.R.opt_some, KA.R.bind_ok, hc]; rfl] at q; exact q.elim
      | ok b S3 =>
        intro H3 M3 A3 f3 R3
        have g3 := g2.mono f3 R3
        have p3 := sP _ _ _ _ _ _ f3.st f3.pre p2
        have F3 := F2.trans f3
        cases b with
        | false =>
          rw [show f2 d acc S = .ok acc S3 by show body2 _ _ _ _ _ _ _ _ _ _ _ _ = _; unfold body2; rw [hb, KA.R.opt_some, KA.R.bind_ok, hc, KA.R.bind_ok, if_neg Bool.false_ne_true]] at q
          show Wt (i + 1) (items.length - (i + 1)) H3
          exact ⟨rfl, hlt, M3, A3, S3, acc, g3, p3, F3, q⟩
        | true =>
          refine ⟨M3, A3, S3, σ', R3, sr2.mono f3, ?_⟩
          show post X.K X.mg _ H3 M3 A3 S3 (evI (evCall D.T k) (parOf D.T) σ' it1 S3) _
          cases he : evI (evCall D.T k) (parOf D.T) σ' it1 S3 with
          | bad => rw [show f2 d acc S = .bad by show body2 _ _ _ _ _ _ _ _ _ _ _ _ = _; unfold body2; rw [hb, KA.R.opt_some, KA.R.bind_ok, hc, KA.R.bind_ok, if_pos rfl, he]; rfl] at q; exact q.elim
          | exc e S' => rw [show f2 d acc S = .exc e S' by show body2 _ _ _ _ _ _ _ _ _ _ _ _ = _; unfold body2; rw [hb, KA.R.opt_some, KA.R.bind_ok, hc, KA.R.bind_ok, if_pos rfl, he]; rfl] at q; exact q.elim
          | ok pp1 S4 =>
            obtain ⟨items1, gd1⟩ := pp1
            intro H4 M4 A4 f4 R4 J1 wk1
            rw [show f2 d acc S = (loopC (fun x S => grd gd1 S (bodyC tg1 (wipeD σ' tg1.slots) (fun σ S => evC (evCall D.T k) (parOf D.T) σ c1 S) (fun σ S => evE (evCall D.T k) (parOf D.T) σ elt S) x S)) items1 acc S4).bind fun acc S => grd gd1 S (.ok acc S) by
              show body2 _ _ _ _ _ _ _ _ _ _ _ _ = _; unfold body2; rw [hb, KA.R.opt_some, KA.R.bind_ok, hc, KA.R.bind_ok, if_pos rfl, he, KA.R.bind_ok]] at q
            have q' : post X.K X.mg (fun c d H => W c d σ H) H1 M1 A1 S1 ((loopC (fun x S => grd gd1 S (bodyC tg1 (wipeD σ' tg1.slots) (fun σ S => evC (evCall D.T k) (parOf D.T) σ c1 S) (fun σ S => evE (evCall D.T k) (parOf D.T) σ elt S) x S)) items1 acc S4).bind
                fun acc' S => grd gd1 S ((loopC2 (fun x acc S => grd gd S (f2 x acc S)) (items.drop (i + 1)) acc' S).bind fun ds S => grd gd S (newM m (.list ds) S))) fun v H' M' A' _ => ∀ u, Vr X.K X.mg H' M' A' v u → Q u H' := by
              generalize (loopC (fun x S => grd gd1 S (bodyC tg1 (wipeD σ' tg1.slots) (fun σ S => evC (evCall D.T k) (parOf D.T) σ c1 S) (fun σ S => evE (evCall D.T k) (parOf D.T) σ elt S) x S)) items1 acc S4) = rr at q
              cases rr with
              | ok a b =>
                by_cases ho1 : gOk gd1 b
                · rw [KA.R.bind_ok, grd_ok ho1] at q
                  rw [KA.R.bind_ok, grd_ok ho1]
                  exact q
                · rw [KA.R.bind_ok, grd_no ho1] at q
                  exact q.elim
              | exc e S => exact q.elim
              | bad => exact q
            have g4 := g3.mono f4 R4
            have p4 := sP _ _ _ _ _ _ f4.st f4.pre p3
            have F4 := F3.trans f4
            exact lc_loop (K := X.K) (mg := X.mg) (σd := σ') (σ := σ2) (P := fun H M A => (Sr X.K X.mg H M A (wipeD σd vs) (wipe σ vs) ∧ Wk X.K J items gd H M A) ∧ (Sr X.K X.mg H M A (wipeD σ' tg1.slots) (wipe σ2 tg1.slots) ∧ Wk X.K J1 items1 gd1 H M A)) (F := fun H' => Wt (i + 1) (items.length - (i + 1)) H')
              hD (fun i hi => hi) (Stab.and sP (Stab.and Sr.stab Wk.stab)) (fun h => h.2)
              (fun g p f q => ⟨rfl, hlt, _, _, _, _, g, p.1, f, q⟩) g4 ⟨p4, ((sr2.mono f3).mono f4).wipe _, wk1⟩ F4 q'
  · have e : i = items.length := by omega
    subst e
    rw [List.drop_length] at q
    have q : post X.K X.mg (fun c d H => W c d σ H) H1 M1 A1 S1 (grd gd S (newM m (.list acc) S)) _ := q
    rw [grd_ok ho] at q
    exact .inl ⟨w2 _ rfl, g.fin f hD q⟩
theorem se_comp2 (m : Bool) {elt : CE} {tg tg1 : Tg} {it it1 : CI} {c c1 : CO} (ie : SE D k elt) (ii : SI D k it) (ic : SC D k c) (ii1 : SI D k it1) (ic1 : SC D k c1) : SE D k (.comp2 m elt (.mk tg it c) (.mk tg1 it1 c1)) := by
  intro X W Γ e w tk h
  cases e with
  | ListComp x gs scope pos =>
    cases gs with
    | nil => exact no (by unfold chkE at h; cases h)
    | cons g r =>
      obtain ⟨t, i, ifs, as⟩ := g
      have z : ∃ t1 i1 ifs1, as = 0 ∧ r = [⟨t1, i1, ifs1, 0⟩] := by
        unfold chkE at h
        split at h <;> simp_all
      obtain ⟨t1, i1, ifs1, z1, z2⟩ := z
      subst z1 z2
      · · · · 
              have ok := comp_ok2 ie ii ic ii1 ic1 w tk h
              exact (pe_lc2 w.calm ok.nd ok.pi ok.ok (by intro j hj; rw [ok.ow]; simp [hj]) ok.pg ok.pt ok.pi1 ok.pg1 ok.pt1 ok.pe ok.fs ok.fs1).imp fun σ H Q q => comp_post2 (own := ownOf Γ.N (tg.slots ++ tg1.slots)) ok.ow q
  | _ => exact no (by unfold chkE at h; cases h)
end
end KA
/-! KASet: sorted(set(..)) of ints. -/
namespace KA
open PySem PySem.Spec PyProof.Rows L2
theorem mem_insS {x y : Int} : ∀ {l : List Int}, y ∈ insS x l ↔ y = x ∨ y ∈ l
  | [] => by simp [insS]
  | z :: r => by
    unfold insS
    split
    · simp
    · split
      · rename_i e
        simp [e]
      · rw [List.mem_cons, mem_insS (l := r), List.mem_cons]
        constructor
        · rintro (h | h | h) <;> simp [h]
        · rintro (h | h | h) <;> simp [h]
theorem mem_setI {y : Int} : ∀ {l : List Int}, y ∈ setI l ↔ y ∈ l
  | [] => by simp [setI]
  | x :: r => by rw [setI, mem_insS, mem_setI (l := r), List.mem_cons]
theorem insS_asc {x : Int} : ∀ {l : List Int}, l.Pairwise (· < ·) → (insS x l).Pairwise (· < ·)
  | [], _ => by simp [insS]
  | z :: r, h => by
    obtain ⟨h1, h2⟩ := List.pairwise_cons.mp h
    unfold insS
    split
    · rename_i hx
      exact List.pairwise_cons.mpr ⟨fun a ha => by
        rcases List.mem_cons.mp ha with q | q
        · rw [q]; exact hx
        · exact Int.lt_trans hx (h1 a q), h⟩
    · split
      · exact h
      · rename_i hx he
        refine List.pairwise_cons.mpr ⟨fun a ha => ?_, insS_asc h2⟩
        rcases mem_insS.mp ha with q | q
        · rw [q]; omega
        · exact h1 a q
theorem setI_asc : ∀ (l : List Int), (setI l).Pairwise (· < ·)
  | [] => .nil
  | x :: r => insS_asc (setI_asc r)
theorem asc_one : ∀ {a b : List Int}, a.Pairwise (· < ·) → b.Pairwise (· < ·) → (∀ x, x ∈ a ↔ x ∈ b) → a = b
  | [], [], _, _, _ => rfl
  | [], y :: b, _, _, h => by have := (h y).mpr (by simp); simp at this
  | x :: a, [], _, _, h => by have := (h x).mp (by simp); simp at this
  | x :: a, y :: b, ha, hb, h => by
    obtain ⟨a1, a2⟩ := List.pairwise_cons.mp ha
    obtain ⟨b1, b2⟩ := List.pairwise_cons.mp hb
    have e : x = y := by
      have h1 := (h x).mp (by simp)
      have h2 := (h y).mpr (by simp)
      rcases List.mem_cons.mp h1 with q | q
      · exact q
      · rcases List.mem_cons.mp h2 with q2 | q2
        · exact q2.symm
        · have := b1 x q
          have := a1 y q2
          omega
    subst e
    congr 1
    refine asc_one a2 b2 fun z => ?_
    constructor
    · intro hz
      rcases List.mem_cons.mp ((h z).mp (by simp [hz])) with q | q
      · have := a1 z hz; omega
      · exact q
    · intro hz
      rcases List.mem_cons.mp ((h z).mpr (by simp [hz])) with q | q
      · have := b1 z hz; omega
      · exact q
/-- set(t), t a tuple of ints -/
def rSetT (K : PySem.W.Frag) (w : World) : List V → Hp → VK → Prop := fun vs H Q => ∃ (l : Addr) (ns : List Int), vs = [V.ref l] ∧ SqT K H l (ns.map V.int) ∧ ns.length < 64 ∧
  ∀ p c, H p = none → c ≤ ns.length → Q (.ref p) (upd H p (SetO w p (fun j => decide (j ∈ ns)) c))
theorem cr_setT {X : Cx} (hc : X.calm = true) : CallR X (.type "set") (rSetT X.K X.w) := by
  intro pins s σ H vs us Q I r h
  obtain ⟨l, ns, rfl, hq, hn, q⟩ := h
  rw [Vals.ref1 r]
  obtain ⟨its, rv, pl, hz⟩ := I.tuple hq
  refine call_set_tupI ns (I.ok.hd hc) (show s.heap.IsTuple l its.toArray from pl) (by simpa using RZ.intsAre_vals rv) (by unfold scanBound; omega) fun h' tk c R hcn hk => ?_
  have hnone : H s.heap.objs.size = none := I.hok.fresh (Nat.le_refl _)
  exact ⟨.ref s.heap.objs.size, upd H s.heap.objs.size (SetO X.w s.heap.objs.size (fun j => decide (j ∈ ns)) c), I.laid (t' := tk) hk (Nat.le_refl _) (setO_new R), rfl, q _ c hnone hcn⟩
theorem intsD_eq : ∀ {ds : List PD} {ns : List Int}, intsD ds = some ns → ds = ns.map .int
  | [], ns, h => by cases h; rfl
  | d :: r, ns, h => by
    cases d with
    | int i =>
      unfold intsD at h
      obtain ⟨m, hm, rfl⟩ := Option.map_eq_some_iff.mp h
      rw [intsD_eq hm]; rfl
    | _ => simp [intsD] at h
theorem rps_map {K : PySem.W.Frag} {H : Hp} {M : Addr → Prop} : ∀ {ns : List Int} {xs : List V}, Rps K H M (ns.map .int) xs → xs = ns.map V.int
  | [], _, .nil => rfl
  | n :: r, _, .cons h t => by
    cases h
    rw [rps_map t]; rfl
theorem rps_of {K : PySem.W.Frag} {H : Hp} {M : Addr → Prop} : ∀ (ns : List Int), Rps K H M (ns.map .int) (ns.map V.int)
  | [] => .nil
  | n :: r => .cons (.int n) (rps_of r)
theorem boot_sorted_ : bootBuiltins "sorted" = some (.builtin "sorted") := by decide +kernel
theorem boot_set_ : bootBuiltins "set" = some (.type "set") := by decide +kernel
section
variable {D : Dom} {k : Nat}
theorem se_sset {a : CE} (ia : SE D k a) : SE D k (.sset a) := by
  intro X W Γ e w tk c
  have z : ∃ x p y p2 e1 q2 q, e = .Call (.Name x p) [.Call (.Name y p2) [e1] [] q2] [] q ∧ (decide (x = "sorted") && decide (y = "set") && blB D Γ x && blB D Γ y && chkE D Γ a e1 && !starB e1) = true := by
    unfold chkE at c
    split at c <;> simp_all
    obtain ⟨⟨⟨⟨⟨h1, h2⟩, h3⟩, h4⟩, h5⟩, h6⟩ := c
    subst h1 h2
    exact ⟨_, _, _, _, _, ⟨⟨rfl, rfl⟩, ⟨rfl, rfl⟩, rfl⟩, ⟨⟨⟨⟨rfl, rfl⟩, h3⟩, h4⟩, h5⟩, h6⟩
  obtain ⟨x, p, y, p2, e1, q2, q, rfl, c⟩ := z
  obtain ⟨c1, d6⟩ := ba c
  obtain ⟨c2, d5⟩ := ba c1
  obtain ⟨c3, d4⟩ := ba c2
  obtain ⟨c4, d3⟩ := ba c3
  obtain ⟨d1, d2⟩ := ba c4
  have hx := of_decide_eq_true d1
  have hy := of_decide_eq_true d2
  obtain ⟨g1, g2, g3, g4⟩ := bl_of w d3
  obtain ⟨f1, f2, f3, f4⟩ := bl_of w d4
  have hs : starB e1 = false := by simpa using d6
  subst hx hy
  refine (pe_callB (cr_sortedSet w.calm) g1 g4 boot_sorted_ (pa_cons (pe_callTy (cr_setT w.calm) f1 f4 boot_set_ (pa_cons (ia X W Γ e1 w tk d5) pa_nil (star_cons hs)) f3 f2 (star_cons hs)) pa_nil) g3 g2).imp fun σ H Q ⟨M, A, S, σd, R, sr, p⟩ => ?_
  simp only [evE] at p
  refine ⟨M, A, S, σd, R, sr, (post.bind p).imp fun v H1 M1 A1 S1 f R1 p1 u1 r1 => ?_⟩
  obtain ⟨a', z, ea, e', p2⟩ := op1_post p1
  unfold ssetD at e'
  split at e'
  · rename_i ds
    cases hns : intsD ds with
    | none => rw [hns] at e'; cases e'
    | some ns =>
      rw [hns] at e'
      dsimp only at e'
      split at e'
      · rename_i hlt
        cases e'
        rw [intsD_eq hns] at ea
        obtain ⟨l, xs, rfl, hq, _, rs, _⟩ := rdT r1 ea
        rw [rps_map rs] at hq
        refine ⟨l, ns, rfl, hq, hlt, fun q1 cnt hq1 hcnt => ?_⟩
        refine ⟨q1, _, cnt, rfl, upd_same, by omega, fun ms p' hasc hmem hlen hp' => ?_⟩
        have e1 : ms = setI ns := asc_one hasc (setI_asc ns) fun x => by rw [hmem x, mem_setI]; simp
        subst e1
        have Ra := R1.new (o := SetO X.w q1 (fun j => decide (j ∈ ns)) cnt) hq1
        have Fa : Fm H1 M1 A1 S1 (upd H1 q1 (SetO X.w q1 (fun j => decide (j ∈ ns)) cnt)) M1 A1 S1 := Fm.new hq1
        exact p2 _ _ _ (Fa.trans (Fm.new hp')) (Ra.new hp') _ (Rp.lst (.of upd_same (Ra.nM hp') (by rw [List.length_map, hlen]; show _ ≤ 16777216; omega)) (rps_of _))
      · cases e'
  · cases e'
end
end KA
/-! KASetEq: set == set (sets of ints): the built-in, one call. Not joined to the language yet. -/
namespace KA
open PySem PySem.Spec PyProof.Rows L2 PySem.SeqAt PySem.MeetsSeq PySem.MeetsSeq2 PySem.MeetsSeq3 PySem.SeqRoads2
/-- the set of ints at a: S its members, n their number -/
def SetE (h : Heap) (a : Addr) (S : Int → Bool) (n : Nat) : Prop :=
  ∃ o es ep t, h.get? a = some o ∧ o.ExactSet ∧ o.data = .set es ep t ∧ (∀ e ∈ es.toList, GoodE e) ∧ (es.toList.map keyOf).Nodup ∧ (∀ k, S k = true ↔ k ∈ es.toList.map keyOf) ∧ es.size < scanBound ∧ t.fits es.size = true ∧ es.size = n
theorem SetE.of {w : World} {h : Heap} {a : Addr} {S : Int → Bool} {n : Nat} (R : SetR w h a S n) : SetE h a S n := by
  obtain ⟨o, es, ep, t, h1, h2, h3, h4, h5, h6, h7, h8, h9, _⟩ := R
  exact ⟨o, es, ep, t, h1, h2, h3, h4, h5, h6, h7, h8, h9⟩
theorem SetE.setOf {P : Program} {w : World} {h : Heap} {a : Addr} {S : Int → Bool} {n : Nat} (R : SetE h a S n) : h.SetOf (intKind P w) a S n := by
  obtain ⟨o, es, ep, t, ho, hx, hd, g, nd, hm, hb, hf, hn⟩ := R
  exact ⟨o, es, ep, t, ho, hx, hd, good_elems g, fun k => (hm k).trans (good_mem g k), hb, hf, hn⟩
section
variable {prog : Program} {w : World} {A : Around} {E : Value → Shared → Prop} {s : Shared} {a b : Addr} {S T : Int → Bool} {n m : Nat}
theorem size_set {Q : Nat → Shared → Prop} (R : SetE s.heap a S n) (h : Q n s) : wpAny (model prog w) A (Builtin.Frozenset.sizeOf a) Q E s := by
  obtain ⟨o, es, ep, t, ho, hx, hd, hg, hnd, hS, hb, hf, hn⟩ := R
  unfold Builtin.Frozenset.sizeOf setEntries
  refine wpAny_bind (wpAny_bind (wpAny_setState_of ho hd hf (wpAny_pure ?_)))
  exact wpAny_pure (hn ▸ h)
theorem forin_same {α β : Type} {f : α → β → Sem (ForInStep β)} {b0 : β} {Q : β → Shared → Prop} : ∀ {l : List α}, (∀ x ∈ l, ∀ {Q : ForInStep β → Shared → Prop}, Q (.yield b0) s → wpAny (model prog w) A (f x b0) Q E s) → Q b0 s → wpAny (model prog w) A (forIn l b0 f) Q E s
  | [], _, q => by
    rw [List.forIn_nil]
    exact wpAny_pure q
  | x :: l, h, q => by
    rw [List.forIn_cons]
    exact wpAny_bind (h x (by simp) (forin_same (fun y hy => h y (by simp [hy])) q))
theorem quiet_good {e : Int × Value} (g : GoodE e) {Q : Bool → Shared → Prop} (h : Q true s) : wpAny (model prog w) A (Builtin.Frozenset.quietEq e.2) Q E s := by
  obtain ⟨k, tk, h1, _⟩ := g
  rw [h1]
  exact wpAny_pure h
theorem forin_find {id : String} {ep : Nat} (R2 : SetE s.heap b T m) (unch : ∀ {Q : Unit → Shared → Prop}, Q () s → wpAny (model prog w) A (Builtin.Frozenset.unchanged id a ep) Q E s) {Q : Option Bool × Unit → Shared → Prop} : ∀ {l : List (Int × Value)}, (∀ e ∈ l, GoodE e) →
    (∀ r : Option Bool, (r = none ∧ ∀ k ∈ l.map keyOf, T k = true) ∨ (r = some false ∧ ∃ k ∈ l.map keyOf, T k = false) → Q (r, ()) s) →
    wpAny (model prog w) A (forIn l ((none, ()) : Option Bool × Unit) fun x __s => match x with
                | (h, x) => do
                  let __do_lift ← holding [x] (setFind b x h)
                  if __do_lift.isNone = true then pure (ForInStep.done (some false, ()))
                    else do
                      Builtin.Frozenset.unchanged id a ep
                      pure (ForInStep.yield (none, ()))) Q E s
  | [], _, q => by
    rw [List.forIn_nil]
    exact wpAny_pure (q none (.inl ⟨rfl, by simp⟩))
  | (hh, x) :: l, g, q => by
    obtain ⟨k, tk, h1, h2⟩ := g (hh, x) (by simp)
    simp only at h1 h2
    subst h1 h2
    rw [List.forIn_cons]
    refine wpAny_bind (wpAny_bind (wpAny_holding ?_))
    refine wpAny_setFind_of (knd := intKind prog w) (k := k) (S := T) (intKind_is _ _ _ _) rfl (R2.setOf (P := prog)) fun r hr => ?_
    cases r with
    | none =>
      refine wpAny_pure (wpAny_pure (q (some false) (.inr ⟨rfl, k, by simp [keyOf], ?_⟩)))
      rw [← hr]; rfl
    | some j =>
      refine wpAny_bind (unch (wpAny_pure ?_))
      refine forin_find R2 unch (fun e he => g e (by simp [he])) fun r' hr' => q r' ?_
      rcases hr' with ⟨e1, e2⟩ | ⟨e1, k', e2, e3⟩
      · refine .inl ⟨e1, fun k' hk' => ?_⟩
        rw [List.map_cons] at hk'
        rcases List.mem_cons.mp hk' with z | z
        · rw [z]; show T k = true; rw [← hr]; rfl
        · exact e2 k' z
      · exact .inr ⟨e1, k', by rw [List.map_cons]; exact List.mem_cons_of_mem _ e2, e3⟩
theorem sub_set {id : String} {Q : Bool → Shared → Prop} (R1 : SetE s.heap a S n) (R2 : SetE s.heap b T m) (hnm : n ≤ m) (h : ∀ r : Bool, (r = true ↔ ∀ k, S k = true → T k = true) → Q r s) : wpAny (model prog w) A (Builtin.Frozenset.subsetOf id a b) Q E s := by
  unfold Builtin.Frozenset.subsetOf
  refine wpAny_bind (size_set R1 ?_)
  refine wpAny_bind (size_set R2 ?_)
  rw [if_neg (by omega)]
  have R1' := R1
  have R2' := R2
  obtain ⟨o, es, ep, t, ho, hx, hd, hg, hnd, hS, hb, hf, hn⟩ := R1
  obtain ⟨o2, es2, ep2, t2, ho2, hx2, hd2, hg2, hnd2, hS2, hb2, hf2, hn2⟩ := R2
  have ent : ∀ {Q : Nat → Shared → Prop}, Q ep s → wpAny (model prog w) A (setEpoch a) Q E s := fun q => by
    unfold setEpoch
    exact wpAny_bind (wpAny_setState_of ho hd hf (wpAny_pure q))
  refine wpAny_bind (ent ?_)
  have ents : ∀ {Q : Array (Int × Value) → Shared → Prop}, Q es s → wpAny (model prog w) A (setEntries a) Q E s := fun q => by
    unfold setEntries
    exact wpAny_bind (wpAny_setState_of ho hd hf (wpAny_pure q))
  have ents2 : ∀ {Q : Array (Int × Value) → Shared → Prop}, Q es2 s → wpAny (model prog w) A (setEntries b) Q E s := fun q => by
    unfold setEntries
    exact wpAny_bind (wpAny_setState_of ho2 hd2 hf2 (wpAny_pure q))
  refine wpAny_bind (m := Builtin.Frozenset.walkUnseen a b) ?_
  unfold Builtin.Frozenset.walkUnseen
  refine wpAny_bind (ents ?_)
  refine wpAny_bind (ents2 ?_)
  refine wpAny_bind (forin_same (fun e he {Q} q => ?_) (wpAny_pure ?_))
  · have g : GoodE e := (List.mem_append.mp he).elim (hg e) (hg2 e)
    exact wpAny_bind (quiet_good g (wpAny_pure q))
  refine wpAny_bind (forin_find R2' (fun q => ?_) hg fun r hr => ?_)
  · unfold Builtin.Frozenset.unchanged
    refine wpAny_bind (ent ?_)
    rw [if_neg (by simp)]
    exact wpAny_pure q
  · rcases hr with ⟨e1, e2⟩ | ⟨e1, k, e2, e3⟩
    · subst e1
      exact wpAny_pure (h true ⟨fun _ k hk => e2 k ((hS k).mp hk), fun _ => rfl⟩)
    · subst e1
      refine wpAny_pure (h false ⟨fun z => (nomatch z), fun z => ?_⟩)
      have := z k ((hS k).mpr e2)
      rw [e3] at this
      cases this
/-- two lists without twice: one within the other and as long -/
theorem same_of_sub {l l' : List Int} (hn : l.Nodup) (hn' : l'.Nodup) (hs : ∀ k ∈ l, k ∈ l') (hl : l.length = l'.length) : ∀ k ∈ l', k ∈ l := by
  intro k hk
  refine Classical.byContradiction fun hc => ?_
  have h1 : (k :: l).Nodup := List.nodup_cons.mpr ⟨hc, hn⟩
  have h2 : (k :: l) ⊆ l' := fun x hx => by
    rcases List.mem_cons.mp hx with e | e
    · exact e ▸ hk
    · exact hs x e
  have h3 := h1.length_le_of_subset h2
  simp at h3
  omega
theorem set_eqC {Q : Value → Shared → Prop} (R1 : SetE s.heap a S n) (R2 : SetE s.heap b T m) (h : ∀ r : Bool, (r = true ↔ ∀ k, S k = T k) → Q (.bool r) s) : wpAny (model prog w) A.in1 (Builtin.«frozenset.__eq__» ⟨[.ref a, .ref b], []⟩) (fun fin s' => ∃ v, fin = Fin.done (Flow.ret v) ∧ Q v s') E s := by
  have R1' := R1
  have R2' := R2
  obtain ⟨o, es, ep, t, ho, hx, hd, hg, hnd, hS, hb, hf, hn⟩ := R1
  obtain ⟨o2, es2, ep2, t2, ho2, hx2, hd2, hg2, hnd2, hS2, hb2, hf2, hn2⟩ := R2
  have tA : s.TypeIs (.ref a) "set" := ⟨o, ho, hx.1⟩
  have tB : s.TypeIs (.ref b) "set" := ⟨o2, ho2, hx2.1⟩
  unfold PySem.Builtin.«frozenset.__eq__»
  show wpAny _ _ (Builtin.Frozenset.slot1 "__eq__" ⟨[.ref a, .ref b], []⟩ >>= _) _ _ _
  refine wpAny_bind (m := Builtin.Frozenset.slot1 "__eq__" ⟨[.ref a, .ref b], []⟩) ?_
  refine wpAny_bind (m := PySem.slotArgs "__eq__" 1 ⟨[.ref a, .ref b], []⟩) ?_
  refine wpAny_pure ?_
  refine wpAny_pure ?_
  dsimp only
  have ss : isSubtype (.type "set") (.type "set") = pure true := by rw [isSubtype_type]; kernel_rfl
  have sf : isSubtype (.type "set") (.type "frozenset") = pure false := by rw [isSubtype_type]; kernel_rfl
  refine wpAny_bind (m := Builtin.Frozenset.isAnySet (.ref b)) ?_
  unfold Builtin.Frozenset.isAnySet
  refine wpAny_bind (wpAny_isInstance tB ss ?_)
  refine wpAny_pure ?_
  refine wpAny_bind (wpAny_pure ?_)
  refine wpAny_bind (wpAny_pure ?_)
  refine wpAny_bind (size_set R1' ?_)
  refine wpAny_bind (size_set R2' ?_)
  have hlen1 : (es.toList.map keyOf).length = n := by rw [List.length_map, Array.length_toList]; exact hn
  have hlen2 : (es2.toList.map keyOf).length = m := by rw [List.length_map, Array.length_toList]; exact hn2
  by_cases hnm : n = m
  · have hb : ¬ ((n != m) = true) := by simp [hnm]
    rw [if_neg hb]
    refine wpAny_bind ?_
    refine wpAny_bind (m := isInstance (.ref a) (.type "frozenset") <&&> isInstance (.ref b) (.type "frozenset")) ?_
    refine wpAny_bind (wpAny_isInstance tA sf ?_)
    refine wpAny_pure ?_
    refine sub_set R1' R2' (Nat.le_of_eq hnm) fun r hr => ?_
    refine wpAny_pure ⟨_, rfl, h r ?_⟩
    rw [hr]
    constructor
    · intro hst k
      have hsub : ∀ k ∈ es.toList.map keyOf, k ∈ es2.toList.map keyOf := fun k hk => (hS2 k).mp (hst k ((hS k).mpr hk))
      have hback := same_of_sub hnd hnd2 hsub (by rw [hlen1, hlen2, hnm])
      rw [Bool.eq_iff_iff, hS k, hS2 k]
      exact ⟨hsub k, hback k⟩
    · intro e k hk
      rw [← e k]
      exact hk
  · have hb : (n != m) = true := by simpa using hnm
    rw [if_pos hb]
    refine wpAny_bind (wpAny_pure ?_)
    refine wpAny_pure ⟨_, rfl, h false ⟨fun z => (nomatch z), fun e => ?_⟩⟩
    have h1 : (es.toList.map keyOf).length ≤ (es2.toList.map keyOf).length := hnd.length_le_of_subset fun k hk => (hS2 k).mp ((e k) ▸ (hS k).mpr hk)
    have h2 : (es2.toList.map keyOf).length ≤ (es.toList.map keyOf).length := hnd2.length_le_of_subset fun k hk => (hS k).mp ((e k).symm ▸ (hS2 k).mpr hk)
    omega
end
theorem set_eqM (a b : Addr) (S T : Int → Bool) (n m : Nat) : Meets (Builtin.«frozenset.__eq__» ⟨[.ref a, .ref b], []⟩) (fun _ R s => SetE s.heap a S n ∧ SetE s.heap b T m ∧ ∀ r : Bool, (r = true ↔ ∀ k, S k = T k) → R (.ok (.ret (.bool r))) s) :=
  .of_wp fun prog w A R s h => set_eqC (Q := fun v s' => R (.ok (.ret v)) s') h.1 h.2.1 h.2.2
theorem entry_set_eq : entryFor table "set.__eq__" = some Builtin.«frozenset.__eq__» :=
  entryFor_alias (id' := "frozenset.__eq__") (by kernel_rfl) rfl (by decide +kernel) (by kernel_rfl)
theorem set_eqV {prog : Program} {w : World} {A : Around} {E : Value → Shared → Prop} {s : Shared} {a b : Addr} {S T : Int → Bool} {n m : Nat} {Q : Value → Shared → Prop} (hu : A.units < cLine) (R1 : SetE s.heap a S n) (R2 : SetE s.heap b T m) (h : ∀ r : Bool, (r = true ↔ ∀ k, S k = T k) → Q (.bool r) s) :
    wpAny (model prog w) A (compareOp .Eq (.ref a) (.ref b)) Q E s := by
  obtain ⟨o, es, ep, t, ho, hx, _⟩ := id R1
  obtain ⟨o2, es2, ep2, t2, ho2, hx2, _⟩ := id R2
  exact richCompare_meets_room (op := .Eq) ⟨o, ho, hx.1⟩ ⟨o2, ho2, hx2.1⟩ PySem.F.slot_set_eq entry_set_eq (PySem.F.args_set_eq_2 _ _) (set_eqM a b S T n m)
    ⟨R1, R2, fun r hr => show Value.bool r ≠ Value.notImplemented ∧ Q (.bool r) s from ⟨(fun x => nomatch x), h r hr⟩⟩ hu
/-! ### as one object -/
def SetEO (a : Addr) (S : Int → Bool) (n : Nat) : HO := .ext fun h => SetE h a S n
theorem SetE.at {h h' : Heap} {a : Addr} {S : Int → Bool} {n : Nat} (R : SetE h a S n) (k : ∀ o, h.get? a = some o → h'.get? a = some o) : SetE h' a S n := by
  obtain ⟨o, es, ep, t, ho, r⟩ := R
  exact ⟨o, es, ep, t, k o ho, r⟩
theorem setEO_new {w : World} {P : Program} {H : Hp} {h : Heap} {a : Addr} {S : Int → Bool} {n : Nat} (R : SetE h a S n) : ObjOk P w H h a (SetEO a S n) := by
  have ⟨o, _, _, _, ho, _⟩ := R
  exact ⟨R, ⟨o, ho⟩, fun h1 h2 p k => SetE.at p k⟩
theorem setEO_get {X : Cx} {pins : List (Addr × Obj)} {σ : L2.St} {H : Hp} {s : Shared} {a : Addr} {S : Int → Bool} {n : Nat} (I : Inv X pins σ H s) (ha : H a = some (SetEO a S n)) : SetE s.heap a S n := (I.hok a _ ha).1
/-- set == set -/
def rSetEq : R2 := fun x y H Q => ∃ a b S T n m, x = V.ref a ∧ y = V.ref b ∧ H a = some (SetEO a S n) ∧ H b = some (SetEO b T m) ∧ ∀ r : Bool, (r = true ↔ ∀ k, S k = T k) → Q (.bl r) H
theorem op_setEq {X : Cx} (hu : X.A.units < cLine) : OpR X (compareOp .Eq) rSetEq := by
  intro pins s σ H x y v u Q I rx ry h
  obtain ⟨a, b, S, T, n, m, rfl, rfl, ha, hb, q⟩ := h
  cases rx
  cases ry
  exact set_eqV hu (setEO_get I ha) (setEO_get I hb) fun r hr => ⟨.bl r, H, I, rfl, q r hr⟩
theorem met_nodup : ∀ (l acc : List Int), acc.Nodup → (l.foldl step_dedup acc).Nodup ∧ ∀ k, k ∈ l.foldl step_dedup acc ↔ k ∈ acc ∨ k ∈ l
  | [], acc, h => ⟨h, by simp⟩
  | x :: l, acc, h => by
    have hx : (step_dedup acc x).Nodup ∧ ∀ k, k ∈ step_dedup acc x ↔ k ∈ acc ∨ k = x := by
      unfold step_dedup
      by_cases hm : x ∈ acc
      · have e : (acc.any fun y => y == x) = true := List.any_eq_true.mpr ⟨x, hm, by simp⟩
        rw [if_pos e]
        refine ⟨h, fun k => ⟨.inl, fun q => q.elim id fun z => z ▸ hm⟩⟩
      · have e : ¬ (acc.any fun y => y == x) = true := fun q => by
          obtain ⟨y, hy, z⟩ := List.any_eq_true.mp q
          have z' : y = x := by simpa using z
          exact hm (z' ▸ hy)
        rw [if_neg e]
        refine ⟨List.nodup_append.mpr ⟨h, by simp, fun p hp q hq e => ?_⟩, fun k => by simp⟩
        have : q = x := by simpa using hq
        exact hm (this ▸ e ▸ hp)
    obtain ⟨h1, h2⟩ := met_nodup l (step_dedup acc x) hx.1
    refine ⟨h1, fun k => ?_⟩
    rw [List.foldl_cons, h2 k, hx.2 k]
    simp
    exact or_assoc
/-- n entries that hold n members: none twice -/
theorem nodup_of {l l' : List Int} (hn : l.Nodup) (hs : ∀ k, k ∈ l ↔ k ∈ l') (hl : l.length = l'.length) : l'.Nodup := by
  have key : ∀ (l' l : List Int), l.Nodup → (∀ k ∈ l, k ∈ l') → l'.length ≤ l.length → l'.Nodup := by
    intro l'
    induction l' with
    | nil => intro _ _ _ _; exact List.nodup_nil
    | cons x r ih =>
      intro l hn hs hl
      have h1 : (l.erase x).Nodup := hn.erase x
      have h2 : ∀ k ∈ l.erase x, k ∈ r := fun k hk => by
        have hk' := (hn.mem_erase_iff).mp hk
        rcases List.mem_cons.mp (hs k hk'.2) with e | e
        · exact absurd e hk'.1
        · exact e
      have h3 : r.length ≤ (l.erase x).length := by
        have := List.length_erase_le (a := x) (l := l)
        by_cases hx : x ∈ l
        · rw [List.length_erase_of_mem hx]
          simp at hl
          omega
        · rw [List.erase_of_not_mem hx]
          simp at hl
          omega
      refine List.nodup_cons.mpr ⟨fun hx => ?_, ih _ h1 h2 h3⟩
      have h4 : ∀ k ∈ l, k ∈ r := fun k hk => by
        rcases List.mem_cons.mp (hs k hk) with e | e
        · exact e ▸ hx
        · exact e
      have h5 := hn.length_le_of_subset h4
      simp at hl
      omega
  exact key l' l hn (fun k hk => (hs k).mp hk) (Nat.le_of_eq hl.symm)
theorem SetE.ofSet {P : Program} {w : World} {h : Heap} {a : Addr} {S : Int → Bool} {ms : List Int} (R : h.SetOf (intKind P w) a S ms.length) (hn : ms.Nodup) (hS : ∀ k, S k = true ↔ k ∈ ms) : SetE h a S ms.length := by
  obtain ⟨o, es, ep, t, h1, h2, h3, h4, h5, h6, h7, h8⟩ := R
  have g : ∀ e ∈ es.toList, GoodE e := fun e he => by
    obtain ⟨⟨k, q1, q2⟩, _⟩ := h4 e he
    obtain ⟨tk, q3⟩ := Value.isInt_shape (show Value.isInt k e.2 = true from q1)
    exact ⟨k, tk, q3, q2⟩
  have hm : ∀ k, S k = true ↔ k ∈ es.toList.map keyOf := fun k => (h5 k).trans (good_mem (P := P) (w := w) g k).symm
  refine ⟨o, es, ep, t, h1, h2, h3, g, nodup_of hn (fun k => (hS k).symm.trans (hm k)) ?_, hm, h6, h7, h8⟩
  rw [List.length_map, Array.length_toList]
  exact h8.symm
/-- set(x), x a list or a tuple of ints -/
def rSetA (K : PySem.W.Frag) : List V → Hp → VK → Prop := fun vs H Q => ∃ (l : Addr) (ns : List Int), vs = [V.ref l] ∧ (SqL K H l (ns.map V.int) ∨ SqT K H l (ns.map V.int)) ∧ ns.length < 64 ∧
  ∀ p c, H p = none → Q (.ref p) (upd H p (SetEO p (fun j => decide (j ∈ ns)) c))
theorem cr_setA {X : Cx} (hc : X.calm = true) : CallR X (.type "set") (rSetA X.K) := by
  intro pins s σ H vs us Q I r h
  obtain ⟨l, ns, rfl, hq, hn, q⟩ := h
  rw [Vals.ref1 r]
  have hnone : H s.heap.objs.size = none := I.hok.fresh (Nat.le_refl _)
  rcases hq with hq | hq
  · obtain ⟨its, rv, pl, hz⟩ := I.list hq
    have hi : PyProof.Rows.IntsAre its ns := RZ.intsAre_vals rv
    have hlen : its.length = ns.length := PyProof.Rows.IntsAre.length hi
    have hval : (List.range its.toArray.size).map (fun i => ns.getD i 0) = ns := by
      apply List.ext_getElem?
      intro i
      by_cases h : i < ns.length
      · simp [List.getElem?_map, List.getElem?_range (show i < its.length by omega), h]
      · rw [List.getElem?_eq_none (by simp; omega), List.getElem?_eq_none (by omega)]
    refine PySem.call_set_list (items := its.toArray) (ns := ns) (I.ok.hd hc) pl.isList (by simpa using hi) (by rw [List.size_toArray, hlen]; unfold scanBound; omega) fun h' tk R hk => ?_
    obtain ⟨m1, m2⟩ := met_nodup ns [] List.nodup_nil
    have hfm : PyProof.Rows.firstMet (fun i => ns.getD i 0) its.toArray.size = ns.foldl step_dedup [] := by
      unfold PyProof.Rows.firstMet
      rw [hval]
    rw [hfm] at R
    have R' := SetE.ofSet R m1 fun k => by simp
    have R2 : SetE h' s.heap.objs.size (fun j => decide (j ∈ ns)) (ns.foldl step_dedup []).length := by
      obtain ⟨o, es, ep, t, a1, a2, a3, a4, a5, a6, a7⟩ := R'
      refine ⟨o, es, ep, t, a1, a2, a3, a4, a5, fun k => (Iff.trans ?_ (a6 k)), a7⟩
      simp [m2 k]
    exact ⟨.ref s.heap.objs.size, _, I.laid (t' := tk) (fun b o e => hk b o (Heap.lt_size e) e) (Nat.le_refl _) (setEO_new R2), rfl, q _ _ hnone⟩
  · obtain ⟨its, rv, pl, hz⟩ := I.tuple hq
    refine call_set_tupI ns (I.ok.hd hc) (show s.heap.IsTuple l its.toArray from pl) (by simpa using RZ.intsAre_vals rv) (by unfold scanBound; omega) fun h' tk c R hcn hk => ?_
    exact ⟨.ref s.heap.objs.size, _, I.laid (t' := tk) hk (Nat.le_refl _) (setEO_new (SetE.of R)), rfl, q _ c hnone⟩
section
variable {D : Dom} {k : Nat}
theorem seq_iff {ns ms : List Int} {r : Bool} (h : r = true ↔ ∀ k, decide (k ∈ ns) = decide (k ∈ ms)) : r = seqI ns ms := by
  rw [Bool.eq_iff_iff, h]
  unfold seqI
  rw [Bool.and_eq_true, List.all_eq_true, List.all_eq_true]
  constructor
  · intro e
    refine ⟨fun x hx => ?_, fun x hx => ?_⟩
    · have := e x
      simp [hx] at this
      simpa using this
    · have := e x
      simp [hx] at this
      simpa using this
  · rintro ⟨h1, h2⟩ x
    rw [Bool.eq_iff_iff]
    simp
    exact ⟨fun hx => by simpa using h1 x hx, fun hx => by simpa using h2 x hx⟩
theorem st_seteq {a b : CE} : ST D k (.seteq a b) := fun X W Γ e w tk cc => ⟨fun pins s σ H Q I ⟨M, A, S, σd, R, sr, p⟩ => by
  simp only [evT] at p
  exact p.elim⟩
theorem intsL_of {K : PySem.W.Frag} {mg : Str → Option Value} {H : Hp} {M : Addr → Prop} {A : List Addr} {S : Sto} {v : VV} {u : V} {x : PD} {ns : List Int} (R : Rel K H M A S) (hv : Vr K mg H M A v u) (ex : rd S v = some x) (e : intsL x = some ns) : ∃ l, u = .ref l ∧ (SqL K H l (ns.map V.int) ∨ SqT K H l (ns.map V.int)) ∧ ns.length < 64 := by
  unfold intsL at e
  split at e
  · rename_i ds
    obtain ⟨ms, h1, h2⟩ := Option.bind_eq_some_iff.mp e
    split at h2
    · cases h2
      have h3 := intsD_eq h1
      subst h3
      obtain ⟨q, xs, rfl, hs, rs, hz⟩ := R.rdL hv ex
      rw [rps_map rs] at hs
      exact ⟨q, rfl, .inl hs, by assumption⟩
    · cases h2
  · rename_i ds
    obtain ⟨ms, h1, h2⟩ := Option.bind_eq_some_iff.mp e
    split at h2
    · cases h2
      have h3 := intsD_eq h1
      subst h3
      obtain ⟨q, xs, rfl, hs, _, rs, hz⟩ := rdT hv ex
      rw [rps_map rs] at hs
      exact ⟨q, rfl, .inr hs, by assumption⟩
    · cases h2
  · cases e
theorem se_seteq {a b : CE} (ia : SE D k a) (ib : SE D k b) : SE D k (.seteq a b) := by
  intro X W Γ e w tk c
  have z : ∃ x p e1 q y p2 e2 q2 pos, e = .Compare (.Call (.Name x p) [e1] [] q) [.Eq] [.Call (.Name y p2) [e2] [] q2] pos ∧ (decide (x = "set") && decide (y = "set") && blB D Γ x && blB D Γ y && chkE D Γ a e1 && !starB e1 && chkE D Γ b e2 && !starB e2) = true := by
    unfold chkE at c
    split at c <;> first | (rename_i heq; cases heq; done) | skip
    all_goals first | (rename_i heq; cases heq; exact ⟨_, _, _, _, _, _, _, _, _, rfl, c⟩) | (cases c)
  obtain ⟨x, p, e1, q, y, p2, e2, q2, pos, rfl, c⟩ := z
  obtain ⟨c1, d2⟩ := ba c
  obtain ⟨c2, k2⟩ := ba c1
  obtain ⟨c3, d1⟩ := ba c2
  obtain ⟨c4, k1⟩ := ba c3
  obtain ⟨c5, b2⟩ := ba c4
  obtain ⟨c6, b1⟩ := ba c5
  obtain ⟨n1, n2⟩ := ba c6
  have hx := of_decide_eq_true n1
  have hy := of_decide_eq_true n2
  obtain ⟨g1, g2, g3, g4⟩ := bl_of w b1
  obtain ⟨f1, f2, f3, f4⟩ := bl_of w b2
  have hs : starB e1 = false := by simpa using d1
  have hs2 : starB e2 = false := by simpa using d2
  subst hx
  subst hy
  refine (pe_cmpR (op_setEq (by have := units_of w; omega)) (pe_callTy (cr_setA w.calm) g1 g4 boot_set_ (pa_cons (ia X W Γ e1 w tk k1) pa_nil (star_cons hs)) g3 g2 (star_cons hs)) (pe_callTy (cr_setA w.calm) f1 f4 boot_set_ (pa_cons (ib X W Γ e2 w tk k2) pa_nil (star_cons hs2)) f3 f2 (star_cons hs2)) (marks rfl)).imp fun σ H Q ⟨M, A, S, σd, R, sr, p⟩ => ?_
  simp only [evE] at p
  refine ⟨M, A, S, σd, R, sr, (post.bind p).imp fun v H1 M1 A1 S1 f R1 p1 u1 r1 => ?_⟩
  obtain ⟨xa, ns, ea, en, p2⟩ := op1_post p1
  obtain ⟨l, rfl, hq, hlen⟩ := intsL_of R1 r1 ea en
  refine ⟨l, ns, rfl, hq, hlen, fun p0 n0 hp0 => ?_⟩
  have hN := R1.nM hp0
  have F0 : Fm H1 M1 A1 S1 (upd H1 p0 (SetEO p0 (fun j => decide (j ∈ ns)) n0)) M1 A1 S1 := Fm.new hp0
  refine ⟨M1, A1, S1, σd, R1.new hp0, (sr.mono f).mono F0, (post.bind (post.from (K := X.K) p2 F0)).imp fun v2 H2 M2 A2 S2 ff R2 p3 u2 r2 => ?_⟩
  obtain ⟨xb, ms, eb, em, p4⟩ := op1_post p3
  obtain ⟨l2, rfl, hq2, hlen2⟩ := intsL_of R2 r2 eb em
  refine ⟨l2, ms, rfl, hq2, hlen2, fun p9 n9 hp9 => ?_⟩
  have h0 := (ff.st p0 _ upd_same hN).1
  refine ⟨p0, p9, _, _, n0, n9, rfl, rfl, by rw [upd_ne (ne_of_none h0 hp9)]; exact h0, upd_same, fun r hr => ?_⟩
  rw [seq_iff hr]
  exact p4 _ _ _ (Fm.new hp9) (R2.new hp9) _ (Rp.bl _)
end
end KA
/-! KAAll: every expression's evaluation is the text's. -/
namespace KA
open PySem PySem.Spec PyProof.Rows L2
section
variable {D : Dom} {k : Nat}
def plainT : Expr → Bool
  | .UnaryOp .Not _ _ => false
  | .BoolOp _ _ _ => false
  | .Compare _ _ _ _ => false
  | .IfExp _ _ _ _ => false
  | .NamedExpr _ _ _ => false
  | _ => true
theorem plain_true {e : Expr} (h : plainT e = true) (env : Env) : ∀ whole, isTrue e env whole = (do let v ← whole; standAt e.pos; holding [v] (truthy v)) := by
  cases e with
  | UnaryOp o x p => cases o <;> first | (intro _; rfl) | cases h
  | _ => first | (intro _; rfl) | cases h
theorem se_rom {m : Str} {o : CE} {as : CEs} : SE D k (.rom m o as) := fun X W Γ e w tk c => by unfold chkE at c; cases c
mutual
theorem se_all : ∀ c : CE, SE D k c
  | .var i => se_var i
  | .con d => se_con d
  | .gcon x d => se_gcon x d
  | .bin op a b => se_bin op (se_all a) (se_all b)
  | .neg a => se_neg (se_all a)
  | .bnot a => se_bnot (se_all a)
  | .band as => se_band (sand_all as)
  | .bor as => se_bor (sor_all as)
  | .ifx t a b => se_ifx (st_all t) (se_all a) (se_all b)
  | .seteq a b => se_seteq (se_all a) (se_all b)
  | .cmp op a b => se_cmp op (se_all a) (se_all b)
  | .cmp2 p q a b c => se_cmp2 p q (se_all a) (se_all b) (se_all c)
  | .isn n a => se_isn n (se_all a)
  | .call f as => se_call f (ses_all as)
  | .callk f ks as => se_callk f ks (sks_all as)
  | .blt b as => se_blt b (ses_all as)
  | .isin a ts => se_isin ts (se_all a)
  | .meth m o as => se_meth m (se_all o) (sxs_all as)
  | .sub a i => se_sub (se_all a) (se_all i)
  | .slc a lo hi => se_slc (se_all a) (so_all lo) (so_all hi)
  | .rev a => se_rev (se_all a)
  | .rom m o as => se_rom
  | .sset a => se_sset (se_all a)
  | .tup es => se_tup (sxs_all es)
  | .lst m es => se_lst m (sxs_all es)
  | .rng t m i => se_rng t m (sr_all i)
  | .comp m elt (.mk tg it c) => se_comp m (se_all elt) (si_all it) (sc_all c)
  | .comp2 m elt (.mk tg it c) (.mk tg1 it1 c1) => se_comp2 m (se_all elt) (si_all it) (sc_all c) (si_all it1) (sc_all c1)
theorem st_all : ∀ c : CE, ST D k c
  | .cmp op a b => st_cmp op (se_all a) (se_all b)
  | .cmp2 p q a b c => st_cmp2 p q (se_all a) (se_all b) (se_all c)
  | .isn n a => st_isn n (se_all a)
  | .bnot a => st_bnot (st_all a)
  | .band as => st_band (stand_all as)
  | .bor as => st_bor (stor_all as)
  | .ifx t a b => st_ifx
  | .seteq a b => st_seteq
  | .var i => st_value (se_var i) (fun Γ e env c => plain_true (by cases e <;> first | rfl | (unfold chkE at c; cases c)) env) (by intros; simp only [evT])
  | .con d => st_value (se_con d) (fun Γ e env c => plain_true (by cases e <;> first | rfl | (cases d <;> (unfold chkE at c; cases c))) env) (by intros; simp only [evT])
  | .gcon x d => st_value (se_gcon x d) (fun Γ e env c => plain_true (by cases e <;> first | rfl | (unfold chkE at c; cases c)) env) (by intros; simp only [evT])
  | .bin op a b => st_value (se_bin op (se_all a) (se_all b)) (fun Γ e env c => plain_true (by cases e <;> first | rfl | (unfold chkE at c; cases c)) env) (by intros; simp only [evT])
  | .neg a => st_value (se_neg (se_all a)) (fun Γ e env c => plain_true (by cases e with | UnaryOp o x p => (cases o <;> first | rfl | (unfold chkE at c; cases c)) | _ => first | rfl | (unfold chkE at c; cases c)) env) (by intros; simp only [evT])
  | .call f as => st_value (se_call f (ses_all as)) (fun Γ e env c => plain_true (by cases e <;> first | rfl | (unfold chkE at c; cases c)) env) (by intros; simp only [evT])
  | .callk f ks as => st_value (se_callk f ks (sks_all as)) (fun Γ e env c => plain_true (by cases e <;> first | rfl | (unfold chkE at c; cases c)) env) (by intros; simp only [evT])
  | .blt b as => st_value (se_blt b (ses_all as)) (fun Γ e env c => plain_true (by cases e <;> first | rfl | (unfold chkE at c; cases c)) env) (by intros; simp only [evT])
  | .isin a ts => st_value (se_isin ts (se_all a)) (fun Γ e env c => plain_true (by cases e <;> first | rfl | (unfold chkE at c; cases c)) env) (by intros; simp only [evT])
  | .meth m o as => st_value (se_meth m (se_all o) (sxs_all as)) (fun Γ e env c => plain_true (by cases e <;> first | rfl | (cases o <;> (unfold chkE at c; cases c))) env) (by intros; simp only [evT])
  | .sub a i => st_value (se_sub (se_all a) (se_all i)) (fun Γ e env c => plain_true (by cases e <;> first | rfl | (unfold chkE at c; cases c)) env) (by intros; simp only [evT])
  | .slc a lo hi => st_value (se_slc (se_all a) (so_all lo) (so_all hi)) (fun Γ e env c => plain_true (by cases e <;> first | rfl | (unfold chkE at c; cases c)) env) (by intros; simp only [evT])
  | .sset a => st_value (se_sset (se_all a)) (fun Γ e env c => plain_true (by cases e <;> first | rfl | (unfold chkE at c; cases c)) env) (by intros; simp only [evT])
  | .rev a => st_value (se_rev (se_all a)) (fun Γ e env c => plain_true (by cases e <;> first | rfl | (unfold chkE at c; cases c)) env) (by intros; simp only [evT])
  | .rom m o as => st_value se_rom (fun Γ e env c => plain_true (by cases e <;> first | rfl | (unfold chkE at c; cases c)) env) (by intros; simp only [evT])
  | .tup es => st_value (se_tup (sxs_all es)) (fun Γ e env c => plain_true (by cases e <;> first | rfl | (unfold chkE at c; cases c)) env) (by intros; simp only [evT])
  | .lst m es => st_value (se_lst m (sxs_all es)) (fun Γ e env c => plain_true (by cases e <;> first | rfl | (unfold chkE at c; cases c)) env) (by intros; simp only [evT])
  | .rng t m i => st_value (se_rng t m (sr_all i)) (fun Γ e env c => plain_true (by cases e <;> first | rfl | (unfold chkE at c; cases c)) env) (by intros; simp only [evT])
  | .comp m elt (.mk tg it c0) => st_value (se_comp m (se_all elt) (si_all it) (sc_all c0)) (fun Γ e env c => plain_true (by cases e <;> first | rfl | (unfold chkE at c; cases c)) env) (by intros; simp only [evT])
  | .comp2 m elt (.mk tg it c0) (.mk tg1 it1 c1) => st_value (se_comp2 m (se_all elt) (si_all it) (sc_all c0) (si_all it1) (sc_all c1)) (fun Γ e env c => plain_true (by cases e <;> first | rfl | (unfold chkE at c; cases c)) env) (by intros; simp only [evT])
theorem ses_all : ∀ c : CEs, SEs D k c
  | .nil => ses_nil
  | .cons a as => ses_cons (se_all a) (ses_all as)
theorem sxs_all : ∀ c : CEs, SXs D k c
  | .nil => sxs_nil
  | .cons a as => sxs_cons (se_all a) (sxs_all as)
theorem sks_all : ∀ c : CEs, SKs D k c
  | .nil => sks_nil
  | .cons a as => sks_cons (se_all a) (sks_all as)
theorem sand_all : ∀ c : CEs, SAnd D k c
  | .nil => sand_nil
  | .cons a as => sand_cons (se_all a) (sand_all as)
theorem sor_all : ∀ c : CEs, SOr D k c
  | .nil => sor_nil
  | .cons a as => sor_cons (se_all a) (sor_all as)
theorem stand_all : ∀ c : CEs, STAnd D k c
  | .nil => stand_nil
  | .cons a as => stand_cons (st_all a) (stand_all as)
theorem stor_all : ∀ c : CEs, STOr D k c
  | .nil => stor_nil
  | .cons a as => stor_cons (st_all a) (stor_all as)
theorem so_all : ∀ c : CO, SO D k c
  | .none => so_none
  | .some a => so_some (se_all a)
theorem sc_all : ∀ c : CO, SC D k c
  | .none => sc_none
  | .some a => sc_some (st_all a)
theorem si_all : ∀ c : CI, SI D k c
  | .seq a => si_seq (se_all a)
  | .rng a => si_rng (se_all a)
  | .rng2 a b => si_rng2 (se_all a) (se_all b)
  | .enum a => si_enum (se_all a)
  | .zip a b => si_zip (se_all a) (se_all b)
  | .zip3 a b c => si_zip3 (se_all a) (se_all b) (se_all c)
theorem sr_all : ∀ c : CI, SR_ D k c
  | .seq a => sr_no fun Γ e => by unfold chkR; rfl
  | .rng a => sr_1 (se_all a)
  | .rng2 a b => sr_2 (se_all a) (se_all b)
  | .enum a => sr_no fun Γ e => by unfold chkR; rfl
  | .zip a b => sr_no fun Γ e => by unfold chkR; rfl
  | .zip3 a b c => sr_no fun Γ e => by unfold chkR; rfl
end
end
end KA
/-! KAStmt: statements are the text's. -/
namespace KA
open PySem PySem.Spec PyProof.Rows L2
/-! ### when a core statement is the text's -/
def kfB (sc : Scope) : Bool := match sc.kind with
  | .function => true
  | _ => false
def compB : Expr → Bool
  | .ListComp _ _ _ _ => true
  | .SetComp _ _ _ _ => true
  | .DictComp _ _ _ _ _ => true
  | _ => false
/-- [..] into a local name of the same line -/
def swT (Γ : Cs) (x : Str) (px : Pos) : Expr → Bool
  | .ListComp _ _ scope pos => kfB Γ.sc && decide (Γ.sc.names.lookup x = some .local) && (px.line == pos.line) && !(scope.names.any fun (n, k) => n == x && (k == .local || k == .cell))
  | _ => false
/-- [..] into a name that is not plain local -/
def swF (Γ : Cs) (x : Str) : Expr → Bool
  | .ListComp _ _ _ _ => decide (Γ.sc.names.lookup x ≠ some .local)
  | _ => false
def parB (Γ : Cs) : List Nat → List Expr → List Expr → Bool
  | [i, j], [.Name x px, .Name y py], [a, b] => kfB Γ.sc && decide (i ≠ j) && decide (x ≠ y) && decide (Γ.N[i]? = some x) && decide (Γ.N[j]? = some y) && decide (Γ.sc.names.lookup x = some .local) && decide (Γ.sc.names.lookup y = some .local) && (py.line == px.line) &&
      !([a, b].all (foldedForSure 8)) && !([a, b].all (constantsAlone 8))
  | [i, j, l], [.Name x px, .Name y py, .Name z pz], [a, b, c] => kfB Γ.sc && decide (i ≠ j) && decide (i ≠ l) && decide (j ≠ l) && decide (x ≠ y) && decide (x ≠ z) && decide (y ≠ z) && decide (Γ.N[i]? = some x) && decide (Γ.N[j]? = some y) && decide (Γ.N[l]? = some z) &&
      decide (Γ.sc.names.lookup x = some .local) && decide (Γ.sc.names.lookup y = some .local) && decide (Γ.sc.names.lookup z = some .local) && (py.line == px.line) && (pz.line == px.line) && !([a, b, c].all (foldedForSure 8)) && !([a, b, c].all (constantsAlone 8))
  | _, _, _ => false
/-- several names, not all of them plain local (or all values constants): by a tuple -/
def parT (Γ : Cs) (is : List Nat) (ts vs : List Expr) : Bool := nmsB Γ is ts && decide (is.length < 100) && (ts.any (fun e => match e with | .Name id _ => !(Γ.sc.names.lookup id == some .local) | _ => true) || vs.all (foldedForSure 8))
mutual
def chkS (D : Dom) (Γ : Cs) : CS → Stmt → Bool
  | .set i e, .Assign [.Name x px] v _ => decide (Γ.N[i]? = some x) && stB Γ x && chkE D Γ e v && (!compB v || swT Γ x px v || swF Γ x v)
  | .par is es, .Assign [.Tuple ts _ _] (.Tuple vs _ _) _ => (parB Γ is ts vs || parT Γ is ts vs) && chkEs D Γ es vs
  | .unp is e, .Assign [.Tuple ts _ _] v _ => nmsB Γ is ts && chkE D Γ e v && !tupB v
  | .sst o i e, .Assign [.Subscript ob ix _] v _ => chkE D Γ o ob && chkE D Γ i ix && ixB ix && chkE D Γ e v
  | .expr e, .Expr v _ => chkE D Γ e v && !compB v
  | .ret e, .Return (some v) _ => chkE D Γ e v
  | .retN, .Return none _ => true
  | .ifs t a b, .If c p q _ => chkE D Γ t c && chkSs D Γ a p && chkSs D Γ b q
  | .for_ tg it b, .For t i body [] _ => chkG Γ tg t && chkI D Γ it i && (tupB t || !needT it) && chkSs D Γ b body
  | .whil 0 _ _, _ => true
  | .whil _ t b, .While c body [] _ => chkE D Γ t c && chkSs D Γ b body
  | .aug i op e, .AugAssign (.Name x _) o v _ => decide (op = o) && decide (op = .Add ∨ op = .Sub) && decide (Γ.N[i]? = some x) && stB Γ x && chkE D Γ e v
  | .raise_ c (.cons (.con (.str m)) .nil), .Raise (some (.Call (.Name x _) [.Constant (.str m') _ _] [] _)) none _ => decide (x = c) && decide (m = m') && glB Γ.sc x && D.X.contains c
  | .try_ b c i j, .Try body [.ExceptHandler (some (.Name x _)) (some n) [.Assign [.Name y _] (.Name z _) _] _] [] [] _ => decide (x = c) && glB Γ.sc x && D.X.contains c && decide (i ≠ j) && decide (Γ.N[i]? = some n) && decide (Γ.N[j]? = some y) && decide (z = n) && okN n &&
      decide (Γ.sc.names.lookup n = some .local) && decide (Γ.sc.names.lookup y = some .local) && chkSs D Γ b body
  | .pass, .Pass _ => true
  | .pass, .Expr (.Constant (.str _) _ _) _ => true
  | _, _ => false
def chkSs (D : Dom) (Γ : Cs) : CSs → List Stmt → Bool
  | .nil, [] => true
  | .cons (.frz _) ss, sts => chkSs D Γ ss sts
  | .cons s ss, st :: sts => chkS D Γ s st && chkSs D Γ ss sts
  | _, _ => false
end
/-! ### what a statement promises -/
section
variable {K : PySem.W.Frag} {mg : Str → Option Value}
def postS (K : PySem.W.Frag) (mg : Str → Option Value) (W : WX) (D : Ends) (H : Hp) (M : Addr → Prop) (A : List Addr) (S : Sto) : SR → Prop
  | .nx σd S' => ∀ H' M' A' σ, Fm H M A S H' M' A' S' → Rel K H' M' A' S' → Sr K mg H' M' A' σd σ → D.nx σ H'
  | .rt v S' => ∀ H' M' A' u, Fm H M A S H' M' A' S' → Rel K H' M' A' S' → Vr K mg H' M' A' v u → D.rt u H'
  | .exc e σd S' => ∀ H' M' A' σ c d, Fm H M A S H' M' A' S' → Rel K H' M' A' S' → Sr K mg H' M' A' σd σ → Er mg e c d H' → W c d σ H'
  | .bad => False
variable {W : WX} {D : Ends} {H H' : Hp} {M M' : Addr → Prop} {A A' : List Addr} {S S' : Sto}
theorem postS.from {r : SR} (h : postS K mg W D H M A S r) (f : Fm H M A S H' M' A' S') : postS K mg W D H' M' A' S' r := by
  cases r with
  | nx σd S2 => exact fun H2 M2 A2 σ g => h H2 M2 A2 σ (f.trans g)
  | rt v S2 => exact fun H2 M2 A2 u g => h H2 M2 A2 u (f.trans g)
  | exc e σd S2 => exact fun H2 M2 A2 σ c d g => h H2 M2 A2 σ c d (f.trans g)
  | bad => exact h
/-- a statement's end is another's beginning -/
theorem postS.bind {r : SR} {g : Sg → Sto → SR} (h : postS K mg W D H M A S (r.bind g)) : postS K mg W { D with nx := fun σ H' => ∃ M' A' S' σd, Rel K H' M' A' S' ∧ Sr K mg H' M' A' σd σ ∧ Fm H M A S H' M' A' S' ∧ postS K mg W D H' M' A' S' (g σd S') } H M A S r := by
  cases r with
  | nx σd S2 => exact fun H2 M2 A2 σ f R s => ⟨M2, A2, S2, σd, R, s, f, postS.from (K := K) h f⟩
  | rt v S2 => exact h
  | exc e σd S2 => exact h
  | bad => exact h
theorem postS.mono {r : SR} {nx nx' : L2.St → Hp → Prop} {rt : VK} {bk ct bk' ct' : L2.St → Hp → Prop} (h : postS K mg W ⟨nx, rt, bk, ct⟩ H M A S r) (f : ∀ σ H, nx σ H → nx' σ H) : postS K mg W ⟨nx', rt, bk', ct'⟩ H M A S r := by
  cases r with
  | nx σd S2 => exact fun H2 M2 A2 σ g R s => f _ _ (h H2 M2 A2 σ g R s)
  | rt v S2 => exact h
  | exc e σd S2 => exact h
  | bad => exact h
/-- an expression in a statement -/
theorem postS.thenS {α : Type} {r : R α} {σd : Sg} {σ : L2.St} {g : α → Sto → SR} (s : Sr K mg H M A σd σ) (h : postS K mg W D H M A S (r.thenS σd g)) : post K mg (fun c d H => W c d σ H) H M A S r fun a H' M' A' S' => postS K mg W D H' M' A' S' (g a S') := by
  cases r with
  | ok a S2 => exact fun H2 M2 A2 f R => postS.from (K := K) h f
  | exc e S2 => exact fun H2 M2 A2 c d f R x => h H2 M2 A2 σ c d f R (s.mono f) x
  | bad => exact h
def tS (K : PySem.W.Frag) (mg : Str → Option Value) (W : WX) (r : Sg → Sto → SR) : TS := fun D σ H => ∃ M A S σd, Rel K H M A S ∧ Sr K mg H M A σd σ ∧ postS K mg W D H M A S (r σd S)
end
section
variable {D : Dom} {k : Nat}
structure Ow (X : Cx) : Prop where
  own : PassesOwn (model X.prog X.w) X.A X.env X.xe
  stk : X.stack = X.env :: X.outer
  frm : X.env.frame = some X.env.locals
  exn : X.ex = []
def SS (D : Dom) (k : Nat) (c : CS) : Prop := ∀ (X : Cx) (W : WX) (Γ : Cs) (st : Stmt), Wd D k Γ X → Takes X W → Ow X → chkS D Γ c st = true → PS X st (tS X.K X.mg W fun σ S => evS (evCall D.T k) (parOf D.T) c σ S)
def SSs (D : Dom) (k : Nat) (cs : CSs) : Prop := ∀ (X : Cx) (W : WX) (Γ : Cs) (sts : List Stmt), Wd D k Γ X → Takes X W → Ow X → chkSs D Γ cs sts = true → PSs X sts (tS X.K X.mg W fun σ S => evSs (evCall D.T k) (parOf D.T) cs σ S)
theorem _root_.L2.PS.imp {X : Cx} {st : Stmt} {t t' : TS} (h : PS X st t) (i : ∀ E σ H, t' E σ H → t E σ H) : PS X st t' := ⟨fun pins s σ H E I q => h.run pins s σ H E I (i E σ H q)⟩
theorem _root_.L2.PSs.imp {X : Cx} {st : List Stmt} {t t' : TS} (h : PSs X st t) (i : ∀ E σ H, t' E σ H → t E σ H) : PSs X st t' := ⟨fun pins s σ H E I q => h.run pins s σ H E I (i E σ H q)⟩
theorem sss_nil : SSs D k .nil := fun X W Γ sts w tk ow c => by
  cases sts with
  | nil =>
    refine pss_nil.imp fun E σ H ⟨M, A, S, σd, R, sr, p⟩ => ?_
    simp only [evSs] at p
    exact p H M A σ Fm.refl R sr
  | cons a b => exact no (by unfold chkSs at c; cases c)
theorem chk_cons {s : CS} {ss : CSs} {Γ : Cs} {sts : List Stmt} (h : chkSs D Γ (.cons s ss) sts = true) : (∃ i, s = .frz i ∧ chkSs D Γ ss sts = true) ∨ ∃ st r, sts = st :: r ∧ chkS D Γ s st = true ∧ chkSs D Γ ss r = true := by
  cases s with
  | frz i => exact .inl ⟨i, rfl, by unfold chkSs at h; exact h⟩
  | _ =>
    cases sts with
    | nil => unfold chkSs at h; cases h
    | cons st r =>
      unfold chkSs at h
      obtain ⟨c1, c2⟩ := ba h
      exact .inr ⟨st, r, rfl, c1, c2⟩
theorem sss_cons {s : CS} {ss : CSs} (i1 : SS D k s) (i2 : SSs D k ss) : SSs D k (.cons s ss) := fun X W Γ sts w tk ow c => by
  rcases chk_cons c with ⟨i, rfl, c2⟩ | ⟨st, r, rfl, c1, c2⟩
  · refine (i2 X W Γ sts w tk ow c2).imp fun E σ H ⟨M, A, S, σd, R, sr, p⟩ => ?_
    simp only [evSs, evS] at p
    have stay : postS X.K X.mg W E H M A S (evSs (evCall D.T k) (parOf D.T) ss σd S) → tS X.K X.mg W (fun σ S => evSs (evCall D.T k) (parOf D.T) ss σ S) E σ H := fun q => ⟨M, A, S, σd, R, sr, q⟩
    rcases hσ : σd[i]? with _ | _ | v
    · simp only [hσ, SR.bind_nx] at p; exact stay p
    · simp only [hσ, SR.bind_nx] at p; exact stay p
    · cases v with
      | d x => simp only [hσ, SR.bind_nx] at p; exact stay p
      | ex x => simp only [hσ, SR.bind_nx] at p; exact stay p
      | loc l =>
        obtain ⟨u, _, a, ea, _⟩ := sr.at_ i _ hσ
        rcases hS : S[l]? with _ | o
        · simp only [hσ, hS, SR.bind_nx] at p; exact stay p
        · cases o with
          | frz ds => simp only [hσ, hS, SR.bind_nx] at p; exact stay p
          | lst ds =>
            simp only [hσ, hS, SR.bind_nx] at p
            obtain ⟨R', f', _⟩ := R.still hS ea
            exact ⟨_, A, _, σd, R', sr.mono f', postS.from p f'⟩
  · refine (pss_cons (i1 X W Γ st w tk ow c1) (i2 X W Γ r w tk ow c2)).imp fun E σ H ⟨M, A, S, σd, R, sr, p⟩ => ?_
    simp only [evSs] at p
    exact ⟨M, A, S, σd, R, sr, (postS.bind p).mono fun σ' H' ⟨M2, A2, S2, σ2, R2, s2, _, p2⟩ => ⟨M2, A2, S2, σ2, R2, s2, p2⟩⟩
theorem ss_pass : SS D k .pass := fun X W Γ st w tk ow c => by
  have fin : ∀ {E : Ends} {σ : L2.St} {H : Hp}, tS X.K X.mg W (fun σ S => evS (evCall D.T k) (parOf D.T) .pass σ S) E σ H → E.nx σ H := fun ⟨M, A, S, σd, R, sr, p⟩ => by
    simp only [evS] at p
    exact p _ M A _ Fm.refl R sr
  cases st with
  | Pass pos => exact ps_pass.imp fun E σ H q => fin q
  | Expr v pos =>
    cases v with
    | Constant cc j p =>
      cases cc with
      | str x => exact ps_doc.imp fun E σ H q => fin q
      | _ => exact no (by unfold chkS at c; cases c)
    | _ => exact no (by unfold chkS at c; cases c)
  | _ => exact no (by unfold chkS at c; cases c)
theorem ss_expr (e : CE) : SS D k (.expr e) := fun X W Γ st w tk ow c => by
  cases st with
  | Expr v pos =>
    obtain ⟨c1, c2⟩ := ba (show (chkE D Γ e v && !compB v) = true by unfold chkS at c; exact c)
    refine (ps_expr (se_all e X W Γ v w tk c1) (by cases v <;> first | rfl | (simp [compB] at c2))).imp fun E σ H ⟨M, A, S, σd, R, sr, p⟩ => ?_
    simp only [evS] at p
    exact ⟨M, A, S, σd, R, sr, (postS.thenS sr p).imp fun v H1 M1 A1 S1 f1 R1 p1 u r1 => p1 H1 M1 A1 σ Fm.refl R1 (sr.mono f1)⟩
  | _ => exact no (by unfold chkS at c; cases c)
theorem ss_ret (e : CE) : SS D k (.ret e) := fun X W Γ st w tk ow c => by
  cases st with
  | Return v pos =>
    cases v with
    | none => exact no (by unfold chkS at c; cases c)
    | some v =>
      refine (ps_ret (se_all e X W Γ v w tk (by unfold chkS at c; exact c))).imp fun E σ H ⟨M, A, S, σd, R, sr, p⟩ => ?_
      simp only [evS] at p
      exact ⟨M, A, S, σd, R, sr, (postS.thenS sr p).imp fun v H1 M1 A1 S1 f1 R1 p1 u r1 => p1 H1 M1 A1 u Fm.refl R1 r1⟩
  | _ => exact no (by unfold chkS at c; cases c)
theorem ss_retN : SS D k .retN := fun X W Γ st w tk ow c => by
  cases st with
  | Return v pos =>
    cases v with
    | some _ => exact no (by unfold chkS at c; cases c)
    | none =>
      refine ps_retN.imp fun E σ H ⟨M, A, S, σd, R, sr, p⟩ => ?_
      simp only [evS] at p
      exact p H M A .non Fm.refl R Rp.non
  | _ => exact no (by unfold chkS at c; cases c)
theorem ss_ifs (t : CE) {a b : CSs} (ia : SSs D k a) (ib : SSs D k b) : SS D k (.ifs t a b) := fun X W Γ st w tk ow c => by
  cases st with
  | If cc p q pos =>
    obtain ⟨c1, c2⟩ := ba (show (chkE D Γ t cc && chkSs D Γ a p && chkSs D Γ b q) = true by unfold chkS at c; exact c)
    obtain ⟨c3, c4⟩ := ba c1
    refine (ps_if (st_all t X W Γ cc w tk c3) (ia X W Γ p w tk ow c4) (ib X W Γ q w tk ow c2)).imp fun E σ H ⟨M, A, S, σd, R, sr, p⟩ => ?_
    simp only [evS] at p
    refine ⟨M, A, S, σd, R, sr, (postS.thenS sr p).imp fun bb H1 M1 A1 S1 f1 R1 p1 => ?_⟩
    cases bb with
    | true => exact ⟨M1, A1, S1, σd, R1, sr.mono f1, by simpa using p1⟩
    | false => exact ⟨M1, A1, S1, σd, R1, sr.mono f1, by simpa using p1⟩
  | _ => exact no (by unfold chkS at c; cases c)
/-! ### assignments -/
theorem kind_of {X : Cx} {Γ : Cs} (w : Wd D k Γ X) (h : kfB Γ.sc = true) : X.env.scope.kind = .function := by
  rw [w.scp]
  unfold kfB at h
  split at h
  · assumption
  · cases h
theorem set_post {X : Cx} {W : WX} {i : Nat} {e : CE} {E : Ends} {σ : L2.St} {H : Hp} (h : tS X.K X.mg W (fun σ S => evS (evCall D.T k) (parOf D.T) (.set i e) σ S) E σ H) :
    tV X.K X.mg W (fun σ S => evE (evCall D.T k) (parOf D.T) σ e S) σ H fun u H1 => E.nx (σ.set i (some u)) H1 := by
  obtain ⟨M, A, S, σd, R, sr, p⟩ := h
  simp only [evS] at p
  exact ⟨M, A, S, σd, R, sr, (postS.thenS sr p).imp fun v H1 M1 A1 S1 f1 R1 p1 u r1 => p1 H1 M1 A1 _ Fm.refl R1 ((sr.mono f1).set r1)⟩
theorem ss_set (i : Nat) (e : CE) : SS D k (.set i e) := fun X W Γ st w tk ow c => by
  cases st with
  | Assign ts v pos =>
    have z : ∃ x px, ts = [.Name x px] := by
      unfold chkS at c
      split at c <;> simp_all
    obtain ⟨x, px, rfl⟩ := z
    · 
      obtain ⟨c1, c2⟩ := ba (show (decide (Γ.N[i]? = some x) && stB Γ x && chkE D Γ e v && (!compB v || swT Γ x px v || swF Γ x v)) = true by unfold chkS at c; exact c)
      obtain ⟨c3, c4⟩ := ba c1
      obtain ⟨c5, c6⟩ := ba c3
      obtain ⟨l1, l2⟩ := loc_of w c6
      have hN : X.N.Nodup := by rw [w.hN]; exact w.nd
      have hi : X.N[i]? = some x := by rw [w.hN]; exact of_decide_eq_true c5
      have plain : swapsWith v (some (.Name x px)) pos.line X.env = pure false → PS X (.Assign [.Name x px] v pos) (tS X.K X.mg W fun σ S => evS (evCall D.T k) (parOf D.T) (.set i e) σ S) := fun hs =>
        (ps_set hN hi l1 (se_all e X W Γ v w tk c4) hs l2).imp fun E σ H q => set_post q
      by_cases hc : compB v = true
      · cases v with
        | ListComp elt gs scope lp =>
          by_cases hT : swT Γ x px (.ListComp elt gs scope lp) = true
          · obtain ⟨d1, d2⟩ := ba (show (kfB Γ.sc && decide (Γ.sc.names.lookup x = some .local) && (px.line == lp.line) && !(scope.names.any fun (n, k) => n == x && (k == .local || k == .cell))) = true from hT)
            obtain ⟨d3, d4⟩ := ba d1
            obtain ⟨d5, d6⟩ := ba d3
            have hl : X.env.scope.names.lookup x = some .local := by rw [w.scp]; exact of_decide_eq_true d6
            have hsw : swapsWith (.ListComp elt gs scope lp) (some (.Name x px)) pos.line X.env = pure true := sw_true (kind_of w d5) hl d4 (by simpa using d2)
            cases e with
            | comp m elt0 g =>
              obtain ⟨tg, it, cc⟩ := g
              cases gs with
              | nil => exact no (by unfold chkE at c4; cases c4)
              | cons g r =>
                obtain ⟨t, ii, ifs, as⟩ := g
                have z : as = 0 ∧ r = [] := by
                  unfold chkE at c4
                  split at c4 <;> simp_all
                obtain ⟨z1, z2⟩ := z
                subst z1 z2
                have ok := comp_ok (se_all elt0) (si_all it) (sc_all cc) w tk c4
                exact (ps_setLc w.calm hN hi hl hsw ok.pi ok.ok ok.pg ok.pt ok.pe ok.fs).imp fun E σ H q => comp_post (own := ownOf Γ.N tg.slots) ok.ow (set_post q)
            | comp2 m elt0 g g1 =>
              obtain ⟨tg, it, cc⟩ := g
              obtain ⟨tg1, it1, cc1⟩ := g1
              cases gs with
              | nil => exact no (by unfold chkE at c4; cases c4)
              | cons g r =>
                obtain ⟨t, ii, ifs, as⟩ := g
                have z : ∃ t1 i1 ifs1, as = 0 ∧ r = [⟨t1, i1, ifs1, 0⟩] := by
                  unfold chkE at c4
                  split at c4 <;> simp_all
                obtain ⟨t1, i1, ifs1, z1, z2⟩ := z
                subst z1 z2
                have ok := comp_ok2 (se_all elt0) (si_all it) (sc_all cc) (si_all it1) (sc_all cc1) w tk c4
                exact (ps_setLc2 w.calm hN hi hl hsw ok.pi ok.ok (by intro j hj; rw [ok.ow]; simp [hj]) ok.pg ok.pt ok.pi1 ok.pg1 ok.pt1 ok.pe ok.fs ok.fs1).imp fun E σ H q => comp_post2 (own := ownOf Γ.N (tg.slots ++ tg1.slots)) ok.ow (set_post q)
            | con dd => cases dd <;> exact no (by unfold chkE at c4; cases c4)
            | meth _ oo _ => cases oo <;> exact no (by unfold chkE at c4; cases c4)
            | _ => exact no (by unfold chkE at c4; cases c4)
          · have hF : swF Γ x (.ListComp elt gs scope lp) = true := by
              simp only [hc, Bool.not_true, Bool.false_or] at c2
              simpa [hT] using c2
            have hF' := of_decide_eq_true (show decide (Γ.sc.names.lookup x ≠ some .local) = true from hF)
            refine plain ?_
            have hk : (X.env.kindOf x == some .local) = false := by
              show (X.env.scope.names.lookup x == some .local) = false
              rw [w.scp]
              simpa using hF'
            unfold swapsWith
            simp only [hk, Bool.and_false, Bool.false_and]
        | SetComp _ _ _ _ =>
          cases e with
          | con dd => cases dd <;> exact no (by unfold chkE at c4; cases c4)
          | meth _ oo _ => cases oo <;> exact no (by unfold chkE at c4; cases c4)
          | comp _ _ g => cases g; exact no (by unfold chkE at c4; cases c4)
          | comp2 _ _ g g1 => cases g; cases g1; exact no (by unfold chkE at c4; cases c4)
          | _ => exact no (by unfold chkE at c4; cases c4)
        | DictComp _ _ _ _ _ =>
          cases e with
          | con dd => cases dd <;> exact no (by unfold chkE at c4; cases c4)
          | meth _ oo _ => cases oo <;> exact no (by unfold chkE at c4; cases c4)
          | comp _ _ g => cases g; exact no (by unfold chkE at c4; cases c4)
          | comp2 _ _ g g1 => cases g; cases g1; exact no (by unfold chkE at c4; cases c4)
          | _ => exact no (by unfold chkE at c4; cases c4)
        | _ => exact absurd hc (by simp [compB])
      · exact plain (by cases v <;> first | rfl | (simp [compB] at hc))
  | _ => exact no (by unfold chkS at c; cases c)
end
end KA
/-! KATry: errors that are raised, errors that are caught and held. -/
namespace KA
open PySem PySem.Spec PyProof.Rows L2
section
variable {X : Cx} {pins : List (Addr × Obj)} {σ : L2.St} {H : Hp} {s : Shared} {a : Addr} {oe : Obj} {φ : Heap → Prop}
/-- an object that was made meanwhile is tracked from now on -/
theorem inv_track (I : Inv X pins σ H s) (hE : s.heap.get? a = some oe) (hno : ∀ v, oe.data ≠ .cell v) (hH : H a = none) (hL : a ≠ X.env.locals) (h0 : X.s_0.heap.get? a = none) (hp : ∀ p ∈ X.pn ++ pins, p.1 ≠ a) (ok : ObjOk X.prog X.w (upd H a (.ext φ)) s.heap a (.ext φ)) : Inv X pins σ (upd H a (.ext φ)) s := by
  have ne : ∀ {b : Addr} {o : HO}, H b = some o → b ≠ a := fun e => ne_of_none e hH
  have old : ∀ {b : Addr}, b ≠ a → upd H a (.ext φ) b = H b := fun e => upd_ne e
  constructor
  case ok => exact I.ok
  case os => exact I.os
  case bare => exact I.bare
  case loc => exact I.loc
  case cell => exact I.cell
  case len => exact I.len
  case free => rw [old (Ne.symm hL)]; exact I.free
  case freeC =>
    intro x c hx
    obtain ⟨v, o, ho, hv⟩ := I.cell x c hx
    have hc : c ≠ a := fun z => by
      rw [z, hE] at ho
      cases ho
      exact hno v hv
    rw [old hc]
    exact I.freeC x c hx
  case pin =>
    intro p hm
    obtain ⟨g1, g2, g3⟩ := I.pin p hm
    exact ⟨g1, by rw [old (hp p hm)]; exact g2, g3⟩
  case hok =>
    intro b o hb
    by_cases hba : b = a
    · subst hba
      rw [upd_same] at hb
      cases hb
      exact ok
    · rw [old hba] at hb
      exact (I.hok b o hb).stay (fun _ _ _ q => q) (fun c q => (old (ne q)).trans q) (fun c xs q => (old (ne q)).trans q)
  case base =>
    have B := I.base
    constructor
    case keep => exact B.keep
    case slot => exact B.slot
    case there => exact B.there
    case free =>
      intro b o hb hn hx
      rw [old (fun z => by rw [z, h0] at hb; cases hb)]
      exact B.free b o hb hn hx
    case tups => intro b xs hb; have q := B.tups b xs hb; rw [old (ne q)]; exact q
    case frzs => intro b o u hb; have q := B.frzs b o u hb; rw [old (ne q)]; exact q
    case tbls => intro b ps hb; obtain ⟨m, q⟩ := B.tbls b ps hb; exact ⟨m, by rw [old (ne q)]; exact q⟩
end
/-- what the clause 'except x as n: y = n' wishes of an error of the body -/
def wHeld (K : PySem.W.Frag) (cv : Value) (i j : Nat) (D : Ends) : WX := fun cls d σ H => PySem.W.exmOne K cls cv = some true ∧ ∀ a, H a = none → D.nx ((σ.set j (some (.ref a))).set i none) (upd H a (ExT cls d a))
section
variable {X : Cx} {x n y : Str} {cv : Value} {i j : Nat} {body : List Stmt} {np p1 p2 p3 q1 q2 : Pos} {tb : WX → TS}
theorem ps_held (ow : Ow X) (hN : X.N.Nodup) (hi : X.N[i]? = some n) (hj : X.N[j]? = some y) (hij : i ≠ j) (hn : X.env.scope.names.lookup n = some .local) (hy : X.env.scope.names.lookup y = some .local) (hk : okN n = true) (hc : Names X x cv)
    (hb : ∀ (W : WX) (pn : List (Addr × Obj)) (xe : Value → Shared → Prop), Takes (X.tr pn xe) W → PassesOwn (model X.prog X.w) X.A X.env xe → PSs (X.tr pn xe) body (tb W)) :
    PS X (.Try body [.ExceptHandler (some (.Name x np)) (some n) [.Assign [.Name y p1] (.Name n p2) p3] q1] [] [] q2) (fun D σ H => tb (wHeld X.K cv i j D) D σ H) := by
  obtain ⟨o1, o2, _⟩ := ok_of hk
  have kn : X.env.kindOf n = some .local := hn
  -- the suite
  have suite : ∀ (a : Addr) (pn : List (Addr × Obj)), PSs (X.suite a pn) [.Assign [.Name y p1] (.Name n p2) p3] (tAsg (tVar i) (gName j)) := fun a pn =>
    pss_one (ps_set (X := X.suite a pn) hN hj (.inl hy) (pe_var (X := X.suite a pn) hi (.inl hn) o1 o2) (by rfl) (.inr hy))
  constructor
  intro pins s σ H D I ht
  have okX := I.ok
  have frames : X.A.frames = some (X.env :: X.outer) := okX.frames.trans (congrArg some ow.stk)
  apply wpAny_Try_except
  -- the body, under the wish that an error goes to the clause
  let xe : Value → Shared → Prop := fun e t1 => wpAny (model X.prog X.w) X.A (noteFrame e X.env) (fun _ t2 => wpAny (model X.prog X.w) X.A (setFlight e none) (fun _ t3 =>
    wpAny (model X.prog X.w) X.A (handleBy e X.env [.ExceptHandler (some (.Name x np)) (some n) [.Assign [.Name y p1] (.Name n p2) p3] q1]) (SP X pins D) X.xe t3) X.xe t2) X.xe t1
  have caught : Takes (X.tr (X.pn ++ pins) xe) (wHeld X.K cv i j D) := by
    rintro u t ⟨a, G, t0, pins2, σ2, H2, cls, d, rfl, I2, grd, ups, sky, hH, hos, hbare, hm, hyes⟩
    have J0 : Inv X pins σ2 H2 t0 := I2.ofTry okX
    have skyX : Sky G (X.env :: X.outer) a (Zc cls d) X.env.locals t.heap := ow.stk ▸ sky
    refine Sky.land Zc.steady frames ow.frm skyX fun g3 fl3 up3 => ?_
    have gnew : G.get? a = none := fl3.2.1
    have J3 : Inv X pins σ2 H2 { t with heap := g3 } := J0.landed grd fl3.1 (ups.trans up3) hos hbare
    obtain ⟨e3, w3, at3, z3, f3⟩ := fl3.there
    -- the error stands in no frame
    have away : a ∉ frs (X.env :: X.outer) := fun hmem => by
      obtain ⟨_, ob, hob, hnf⟩ := Heap.FunFrames.mem fl3.2.2.1 hmem
      rw [at3] at hob
      cases hob
      exact hnf _ f3
    have aL : a ≠ X.env.locals := fun z => away (List.mem_filterMap.mpr ⟨X.env, List.mem_cons_self, z ▸ ow.frm⟩)
    have aF : a ∉ X.fs := fun hm => by
      obtain ⟨ev, hev, hq⟩ := List.mem_filterMap.mp hm
      exact away (List.mem_filterMap.mpr ⟨ev, List.mem_cons_of_mem _ hev, hq⟩)
    have aStk : a ∉ frs X.stack := ow.stk ▸ away
    -- it is newer than the def's entry and than all that is pinned
    have t0none : t0.heap.get? a = none := by
      cases hq : t0.heap.get? a with
      | none => rfl
      | some ob =>
        have := grd a ob hq aStk
        rw [gnew] at this
        cases this
    have a0 : X.s_0.heap.get? a = none := by
      cases hq : X.s_0.heap.get? a with
      | none => rfl
      | some ob =>
        obtain ⟨o2, h2⟩ := J0.base.there a ob hq (by rw [ow.exn]; simp)
        rw [t0none] at h2
        cases h2
    have aP : ∀ p ∈ X.pn ++ pins, p.1 ≠ a := fun p hp z => by
      have h2 := (J0.pin p hp).1
      rw [z, t0none] at h2
      cases h2
    have S3 := J3.suite at3 f3 hH aL aF
    refine wpAny_handleBy_cons (codeAny_handlers_test ?_) (by intro z; cases z)
    have lk := PySem.W.exm_one (M := model X.prog X.w) J3.kIn (fun A' Q' E' st kk q => wpAny_typeOf_ref (kk _ _ at3) (by rw [z3.1]; exact q) : PySem.W.Looks (model X.prog X.w) g3 (typeOf (.ref a)) cls) hm
    have named : ∀ {Q E : Value → Shared → Prop}, Q cv { t with heap := g3 } → wpAny (model X.prog X.w) (X.A.mark (some (.ref a))) (eval (.Name x np) X.env) Q E { t with heap := g3 } := fun {Q E} q => by
      rcases hc with ⟨k1, k2, k3 | ⟨k3, k4, k5⟩⟩
      · exact ld_glob (X := X.suite a ((a, e3) :: (X.pn ++ pins))) S3 k1 k3 q k2
      · exact ld_blt (X := X.suite a ((a, e3) :: (X.pn ++ pins))) S3 k1 k3 k4 q k5 k2
    refine named (lk.here ?_)
    apply codeAny_handlers_suite_as
    refine HandSPX.lands_againZ fl3 fun g4 fl4 up4 => ?_
    have J4 : Inv X pins σ2 H2 { t with heap := g4 } := J0.landed grd fl4.1 ((ups.trans up3).trans up4) hos hbare
    obtain ⟨e4, w4, at4, z4, f4⟩ := fl4.there
    have S4 := J4.suite at4 f4 hH aL aF
    refine store_ok (X := X.suite a ((a, e4) :: (X.pn ++ pins))) (v := .ref a) S4 hN hi (.inl hn) rfl (fun t5 S5 => ?_) (.inr hn)
    have run := (suite a ((a, e4) :: (X.pn ++ pins))).run [] t5 (σ2.set i (some (.ref a))) H2 { nx := fun σ' H' => σ' = (σ2.set i (some (.ref a))).set j (some (.ref a)) ∧ H' = H2, rt := fun _ _ => False } S5
      ⟨.ref a, by
        have lt : i < σ2.length := by rw [J4.len]; exact (List.getElem?_eq_some_iff.mp hi).1
        rw [List.getElem?_set_self lt], rfl, rfl⟩
    refine wpAny_mono run (fun f t6 h6 => ?_) (fun _ _ z => z.elim)
    cases f with
    | next =>
      obtain ⟨σ6, H6, S6, rfl, rfl⟩ := h6
      have at6 : t6.heap.get? a = some e4 := (S6.pin (a, e4) (List.mem_append.mpr (.inl List.mem_cons_self))).1
      have notCell : ∀ v, e4.data ≠ .cell v := fun v z => by rw [f4] at z; cases z
      have J6 := inv_track (φ := fun h => ∃ (oe : Obj) (vs : Array Value), h.get? a = some oe ∧ Zc cls d oe ∧ oe.data = .fields vs) (S6.unsuite okX) at6 notCell hH aL a0 aP
        ⟨⟨e4, w4, at6, z4, f4⟩, ⟨e4, at6⟩, fun h1 h2 ⟨ob, vs, k1, k2, k3⟩ kk => ⟨ob, vs, kk ob k1, k2, k3⟩⟩
      refine gone_ok J6 hN hi kn fun t7 J7 => ⟨_, _, J7, ?_⟩
      have := hyes a hH
      have es : (((σ2.set i (some (V.ref a))).set j (some (.ref a))).set i none) = (σ2.set j (some (.ref a))).set i none := by
        rw [List.set_comm _ _ hij, List.set_set]
      rw [es]
      exact this
    | ret u => obtain ⟨v6, σ6, H6, S6, r6, z⟩ := h6; exact z.elim
    | brk => obtain ⟨σ6, H6, S6, z⟩ := h6; exact z.elim
    | cont => obtain ⟨σ6, H6, S6, z⟩ := h6; exact z.elim
  refine wpAny_mono ((hb (wHeld X.K cv i j D) (X.pn ++ pins) xe caught PassesOwn.looking).run [] s σ H D (I.toTry _) ht) (fun f t1 h1 => ?_) (fun e t1 z => z)
  cases f with
  | next =>
    obtain ⟨σ', H', J', q⟩ := h1
    exact wpAny_execs_nil ⟨σ', H', J'.ofTry okX, q⟩
  | ret u =>
    obtain ⟨v, σ', H', J', r, q⟩ := h1
    exact ⟨v, σ', H', J'.ofTry okX, r, q⟩
  | brk => obtain ⟨σ', H', J', q⟩ := h1; exact ⟨σ', H', J'.ofTry okX, q⟩
  | cont => obtain ⟨σ', H', J', q⟩ := h1; exact ⟨σ', H', J'.ofTry okX, q⟩
end
section
variable {D : Dom} {k : Nat}
theorem wd_tr {Γ : Cs} {X : Cx} {pn : List (Addr × Obj)} {xe : Value → Shared → Prop} (w : Wd D k Γ X) : Wd D k Γ (X.tr pn xe) := ⟨w.hN, w.nd, w.scp, w.fn, w.calm, w.room, w.grd, w.fns, w.blt, w.con, w.exc, w.hasX⟩
theorem ss_raise (c : Str) (as : CEs) : SS D k (.raise_ c as) := fun X W Γ st w tk ow ck => by
  have z : ∃ x p m j p2 q r, st = .Raise (some (.Call (.Name x p) [.Constant (.str m) j p2] [] q)) none r ∧ ∃ m', (decide (x = c) && decide (m' = m) && glB Γ.sc x && D.X.contains c) = true := by
    unfold chkS at ck
    split at ck
    all_goals first
      | (cases ck; done)
      | (rename_i h; cases h; exact ⟨_, _, _, _, _, _, _, rfl, _, ck⟩)
      | exact ⟨_, _, _, _, _, _, _, rfl, _, ck⟩
      | simp_all
  obtain ⟨x, p, m, j, p2, q, r, rfl, m', ck⟩ := z
  obtain ⟨c1, c2⟩ := ba ck
  obtain ⟨c3, c4⟩ := ba c1
  obtain ⟨c5, c6⟩ := ba c3
  have hx := of_decide_eq_true c5
  subst hx
  obtain ⟨hx, cv, hm⟩ := w.hasX x c2
  obtain ⟨g1, g2, g3⟩ := gl_of w c4
  obtain ⟨C, rfl, e1, e2, e3, e4, _⟩ := w.exc.cls x hx cv hm
  refine (ps_raise w.calm tk (pmk_own PySem.F.excBase_ValueError e1 hm e2 (raises_own e3 e4) g1 g2)).imp fun E σ H ⟨M, A, S, σd, R, sr, p⟩ => ?_
  simp only [evS] at p
  exact p H M A σ (.ref C) none Fm.refl R sr ⟨hm, hx, fun _ => rfl⟩
theorem ss_try {b : CSs} (c : Str) (i j : Nat) (ib : SSs D k b) : SS D k (.try_ b c i j) := fun X W Γ st w tk ow ck => by
  have z : ∃ body x np n y p1 z p2 p3 q1 q2, st = .Try body [.ExceptHandler (some (.Name x np)) (some n) [.Assign [.Name y p1] (.Name z p2) p3] q1] [] [] q2 ∧
      (decide (x = c) && glB Γ.sc x && D.X.contains c && decide (i ≠ j) && decide (Γ.N[i]? = some n) && decide (Γ.N[j]? = some y) && decide (z = n) && okN n && decide (Γ.sc.names.lookup n = some .local) && decide (Γ.sc.names.lookup y = some .local) && chkSs D Γ b body) = true := by
    unfold chkS at ck
    split at ck
    all_goals first
      | (cases ck; done)
      | (rename_i h; cases h; exact ⟨_, _, _, _, _, _, _, _, _, _, _, rfl, ck⟩)
      | exact ⟨_, _, _, _, _, _, _, _, _, _, _, rfl, ck⟩
      | simp_all
  obtain ⟨body, x, np, n, y, p1, z, p2, p3, q1, q2, rfl, ck⟩ := z
  obtain ⟨ck, c11⟩ := ba ck
  obtain ⟨ck, c10⟩ := ba ck
  obtain ⟨ck, c9⟩ := ba ck
  obtain ⟨ck, c8⟩ := ba ck
  obtain ⟨ck, c7⟩ := ba ck
  obtain ⟨ck, c6⟩ := ba ck
  obtain ⟨ck, c5⟩ := ba ck
  obtain ⟨ck, c4⟩ := ba ck
  obtain ⟨ck, c3⟩ := ba ck
  obtain ⟨c1, c2⟩ := ba ck
  have hx := of_decide_eq_true c1
  have hz := of_decide_eq_true c7
  subst hx hz
  obtain ⟨hx, cv, hm⟩ := w.hasX x c3
  obtain ⟨g1, g2, g3⟩ := gl_of w c2
  refine (ps_held (cv := cv) (tb := fun W' => tS X.K X.mg W' fun σ S => evSs (evCall D.T k) (parOf D.T) b σ S) ow (by rw [w.hN]; exact w.nd) (by rw [w.hN]; exact of_decide_eq_true c5) (by rw [w.hN]; exact of_decide_eq_true c6) (of_decide_eq_true c4) (by rw [w.scp]; exact of_decide_eq_true c9) (by rw [w.scp]; exact of_decide_eq_true c10) c8 ⟨g1, g2, .inl hm⟩
    (fun W' pn xe tk' own => ib (X.tr pn xe) W' Γ body (wd_tr w) tk' ⟨own, ow.stk, ow.frm, ow.exn⟩ c11)).imp fun E σ H ⟨M, A, S, σd, R, sr, p⟩ => ⟨M, A, S, σd, R, sr, ?_⟩
  simp only [evS] at p
  show postS X.K X.mg (wHeld X.K cv i j E) E H M A S (evSs (evCall D.T k) (parOf D.T) b σd S)
  generalize evSs (evCall D.T k) (parOf D.T) b σd S = rr at p ⊢
  cases rr with
  | nx σ' S' => exact p
  | rt v S' => exact p
  | bad => exact p.elim
  | exc e σ' S' =>
    intro H' M' A' τ cl d f R' sr' er
    dsimp only at p
    split at p
    · rename_i hq
      have h1 := (w.exc.sub e.c hq.1 x hq.2.1 cl cv er.1 hm).1
      rw [hq.2.2] at h1
      refine ⟨h1, fun a ha => ?_⟩
      have nM : ¬ M' a := R'.nM ha
      have hv : Vr X.K X.mg (upd H' a (ExT cl d a)) M' A' (.ex e) (.ref a) := ⟨a, cl, d, rfl, er, upd_same, nM⟩
      exact p _ M' A' _ (f.trans (Fm.new ha)) (R'.new ha) (((sr'.mono (Fm.new (S := S') ha)).set hv).gone)
    · exact p.elim
end
end KA
/-! KAStmt2: assignments to several names, items; loops. -/
namespace KA
open PySem PySem.Spec PyProof.Rows L2
section
variable {D : Dom} {k : Nat}
theorem ss_never (t : CE) (b : CSs) : SS D k (.whil 0 t b) := fun X W Γ st w tk ow c => ps_never.imp fun E σ H ⟨M, A, S, σd, R, sr, p⟩ => by
  simp only [evS, loopW] at p
  exact p
theorem pg_or {X : Cx} {e : Expr} {g g' : TG} (h : PG X e g) (h' : PG X e g') : PG X e (fun v σ H Q => g v σ H Q ∨ g' v σ H Q) :=
  ⟨fun pins s σ H v u Q I r hw => hw.elim (h.run pins s σ H v u Q I r) (h'.run pins s σ H v u Q I r)⟩
theorem ss_unp (is : List Nat) (e : CE) : SS D k (.unp is e) := fun X W Γ st w tk ow c => by
  cases st with
  | Assign ts v pos =>
    have z : ∃ es kt pt, ts = [.Tuple es kt pt] ∧ (nmsB Γ is es && chkE D Γ e v && !tupB v) = true := by
      unfold chkS at c
      split at c <;> simp_all
    obtain ⟨es, kt, pt, rfl, c⟩ := z
    obtain ⟨c1, c2⟩ := ba c
    obtain ⟨c3, c4⟩ := ba c1
    obtain ⟨q1, q2, q3⟩ := pgs_nms w c3
    have hp := pg_or (pg_tup (k := kt) (pos := pt) w.calm q1 (q2 _) (q3 _)) (pg_lst (k := kt) (pos := pt) w.calm q1 (q2 _) (q3 _))
    refine (ps_asg (se_all e X W Γ v w tk c4) hp (by cases v <;> rfl) (by cases v <;> first | rfl | (simp [tupB] at c2)) rfl).imp fun E σ H ⟨M, A, S, σd, R, sr, p⟩ => ?_
    simp only [evS] at p
    refine ⟨M, A, S, σd, R, sr, (post.bind (postS.thenS sr p)).imp fun v H1 M1 A1 S1 f1 R1 p1 u r1 => ?_⟩
    unfold op1 at p1
    cases e1 : rd S1 v with
    | none => rw [e1] at p1; exact p1.elim
    | some x =>
      rw [e1] at p1
      have p2 := post.ok R1 p1
      split at p2
      · rename_i xs ex
        split at p2
        · rename_i hl
          rcases itemsD_eq ex with z | z
          · rw [z] at e1
            obtain ⟨a, ys, rfl, hs, rs, _⟩ := R1.rdL r1 e1
            exact .inr ⟨a, ys, rfl, hs, by rw [← rs.length]; exact hl, names_bind hl rs (sr.mono f1) fun σ' s' => p2 H1 M1 A1 σ' Fm.refl R1 s'⟩
          · rw [z] at e1
            obtain ⟨a, ys, rfl, hs, _, rs, _⟩ := rdT r1 e1
            exact .inl ⟨a, ys, rfl, hs, by rw [← rs.length]; exact hl, names_bind hl rs (sr.mono f1) fun σ' s' => p2 H1 M1 A1 σ' Fm.refl R1 s'⟩
        · exact p2.elim
      · exact p2.elim
  | _ => exact no (by unfold chkS at c; cases c)
theorem ss_aug (i : Nat) (op : Operator) (e : CE) : SS D k (.aug i op e) := fun X W Γ st w tk ow c => by
  cases st with
  | AugAssign t o v pos =>
    cases t with
    | Name x px =>
      obtain ⟨c1, c2⟩ := ba (show (decide (op = o) && decide (op = .Add ∨ op = .Sub) && decide (Γ.N[i]? = some x) && stB Γ x && chkE D Γ e v) = true by unfold chkS at c; exact c)
      obtain ⟨c3, c4⟩ := ba c1
      obtain ⟨c5, c6⟩ := ba c3
      obtain ⟨c7, c8⟩ := ba c5
      have ho := of_decide_eq_true c7
      subst ho
      obtain ⟨l1, l2⟩ := loc_of w c4
      have hN : X.N.Nodup := by rw [w.hN]; exact w.nd
      have hi : X.N[i]? = some x := by rw [w.hN]; exact of_decide_eq_true c6
      have fin : ∀ (f : Int → Int → Int), PIp X op (ipI f) → (∀ a b z, augD op a b = some z → ∃ i j, a = .int i ∧ b = .int j ∧ z = .int (f i j)) → PS X (.AugAssign (.Name x px) op v pos) (tS X.K X.mg W fun σ S => evS (evCall D.T k) (parOf D.T) (.aug i op e) σ S) := fun f hp hf => by
        refine (ps_aug hN hi l1 (se_all e X W Γ v w tk c2) hp l2).imp fun E σ H ⟨M, A, S, σd, R, sr, p⟩ => ?_
        simp only [evS] at p
        split at p
        · rename_i y hy
          obtain ⟨u, hu, ru⟩ := sr.at_ i y hy
          refine ⟨u, hu, M, A, S, σd, R, sr, (postS.thenS sr p).imp fun v2 H1 M1 A1 S1 f1 R1 p1 u2 r2 => ?_⟩
          unfold op2 at p1
          cases e1 : rd S1 y with
          | none => rw [e1] at p1; exact p1.elim
          | some a =>
            cases e2 : rd S1 v2 with
            | none => rw [e1, e2] at p1; exact p1.elim
            | some b =>
              rw [e1, e2] at p1
              dsimp only at p1
              cases e3 : augD op a b with
              | none => rw [e3] at p1; exact p1.elim
              | some z =>
                rw [e3] at p1
                obtain ⟨i1, j1, ea, eb, ez⟩ := hf a b z e3
                subst ea eb ez
                exact ⟨i1, j1, rd_int (ru.mono f1) e1, rd_int r2 e2, p1 H1 M1 A1 _ Fm.refl R1 ((sr.mono f1).set (v := .d (.int (f i1 j1))) (Rp.int _))⟩
        · exact p.elim
      have ha : ∀ {a b z : PD}, augD .Add a b = some z → ∃ i j, a = .int i ∧ b = .int j ∧ z = .int (i + j) := fun {a b z} h => by
        unfold augD at h
        split at h <;> first | (cases h; exact ⟨_, _, rfl, rfl, rfl⟩) | simp_all
      have hs : ∀ {a b z : PD}, augD .Sub a b = some z → ∃ i j, a = .int i ∧ b = .int j ∧ z = .int (i - j) := fun {a b z} h => by
        unfold augD at h
        split at h <;> first | (cases h; exact ⟨_, _, rfl, rfl, rfl⟩) | simp_all
      rcases of_decide_eq_true c8 with rfl | rfl
      · exact fin (fun i j => i + j) ip_add fun a b z h => ha h
      · exact fin (fun i j => i - j) ip_sub fun a b z h => hs h
    | _ => exact no (by unfold chkS at c; cases c)
  | _ => exact no (by unfold chkS at c; cases c)
theorem ss_sst (o i e : CE) : SS D k (.sst o i e) := fun X W Γ st w tk ow c => by
  cases st with
  | Assign ts v pos =>
    have z : ∃ ob ix sp, ts = [.Subscript ob ix sp] ∧ (chkE D Γ o ob && chkE D Γ i ix && ixB ix && chkE D Γ e v) = true := by
      unfold chkS at c
      split at c <;> simp_all
      exact ⟨_, _, ⟨rfl, rfl⟩, c.1.1, c.1.2⟩
    obtain ⟨ob, ix, sp, rfl, c⟩ := z
    obtain ⟨c1, c2⟩ := ba c
    obtain ⟨c3, c4⟩ := ba c1
    obtain ⟨c5, c6⟩ := ba c3
    have hp : PG X (.Subscript ob ix sp) (gSub _ _ rSetL) := pg_sub (se_all o X W Γ ob w tk c5) (se_all i X W Γ ix w tk c6) set_list (by cases ix <;> first | (intro _; rfl) | cases c4)
    refine (ps_asg (se_all e X W Γ v w tk c2) hp (by cases v <;> rfl) (by cases v <;> rfl) rfl).imp fun E σ H ⟨M, A, S, σd, R, sr, p⟩ => ?_
    simp only [evS] at p
    refine ⟨M, A, S, σd, R, sr, (post.bind (postS.thenS sr p)).imp fun v1 H1 M1 A1 S1 f1 R1 p1 u r1 => ?_⟩
    obtain ex | ⟨x, S2, M2, ex, R2, f2, rp⟩ := esc_ok R1 r1
    · rw [ex] at p1; exact p1.elim
    rw [ex] at p1
    have p2 := postS.thenS ((sr.mono f1).mono f2) (post.ok R2 (p1.from f2))
    refine ⟨M2, A1, S2, σd, R2, (sr.mono f1).mono f2, p2.imp fun v3 H3 M3 A3 S3 f3 R3 p3 u3 r3 => ?_⟩
    have p4 := postS.thenS (((sr.mono f1).mono f2).mono f3) p3
    refine ⟨M3, A3, S3, σd, R3, ((sr.mono f1).mono f2).mono f3, (post.bind p4).imp fun v4 H4 M4 A4 S4 f4 R4 p5 u4 r4 => ?_⟩
    unfold op1 at p5
    cases e1 : rd S4 v4 with
    | none => rw [e1] at p5; exact p5.elim
    | some y =>
      rw [e1] at p5
      have p6 := post.ok R4 p5
      unfold KA.setItem at p6
      split at p6
      · rename_i l kk
        split at p6
        · rename_i ds hl
          split at p6
          · rename_i j hj
            obtain ⟨a, ea, rfl⟩ := r3.mono f4
            obtain ⟨mA, xs, eA, rA, zA⟩ := R4.lst l ds a hl ea
            have ru := (rp.stay f3.st).stay f4.st
            obtain ⟨R', f'⟩ := R4.put hl ea (rA.set ru j) (by rw [List.length_set]; exact zA)
            exact ⟨a, xs, kk, j, rfl, rd_int r4 e1, eA, by rw [← rA.length]; exact hj, p6 _ _ _ σ f' R' (((((sr.mono f1).mono f2).mono f3).mono f4).mono f')⟩
          · exact p6.elim
        · exact p6.elim
      · exact p6.elim
  | _ => exact no (by unfold chkS at c; cases c)
theorem nb {b : Bool} (h : (!b) = true) : b = false := by cases b <;> first | rfl | cases h
/-! ### several names at once -/
theorem two_vs {K : PySem.W.Frag} {mg : Str → Option Value} {H : Hp} {M : Addr → Prop} {A : List Addr} {vs : List VV} {us : List V} (r : Vs K mg H M A vs us) (h : vs.length = 2) : ∃ v1 v2 u1 u2, vs = [v1, v2] ∧ us = [u1, u2] ∧ Vr K mg H M A v1 u1 ∧ Vr K mg H M A v2 u2 := by
  cases r with
  | nil => cases h
  | cons a r =>
    cases r with
    | nil => cases h
    | cons b r =>
      cases r with
      | nil => exact ⟨_, _, _, _, rfl, rfl, a, b⟩
      | cons _ _ => simp at h
theorem three_vs {K : PySem.W.Frag} {mg : Str → Option Value} {H : Hp} {M : Addr → Prop} {A : List Addr} {vs : List VV} {us : List V} (r : Vs K mg H M A vs us) (h : vs.length = 3) : ∃ v1 v2 v3 u1 u2 u3, vs = [v1, v2, v3] ∧ us = [u1, u2, u3] ∧ Vr K mg H M A v1 u1 ∧ Vr K mg H M A v2 u2 ∧ Vr K mg H M A v3 u3 := by
  cases r with
  | nil => cases h
  | cons a r =>
    cases r with
    | nil => cases h
    | cons b r =>
      cases r with
      | nil => cases h
      | cons c r =>
        cases r with
        | nil => exact ⟨_, _, _, _, _, _, rfl, rfl, a, b, c⟩
        | cons _ _ => simp at h
theorem no_star {Γ : Cs} {es : CEs} {vs : List Expr} (h : chkEs D Γ es vs = true) : ∀ v ∈ vs, starB v = false := by
  induction vs generalizing es with
  | nil => simp
  | cons v r ih =>
    cases es with
    | nil => unfold chkEs at h; cases h
    | cons a as =>
      obtain ⟨_, h2, h3⟩ := chkEs_cons h
      intro u hu
      rcases List.mem_cons.mp hu with rfl | hu
      · exact h2
      · exact ih h3 u hu
theorem star_no {e : Expr} (h : starB e = false) : ¬ ((match e with | .Starred _ _ => true | _ => false) = true) := by
  cases e <;> first | exact Bool.false_ne_true | cases h
theorem swp2 {env : Env} {x y : Str} {px py pt pt2 : Pos} {kt k2 : Nat} {a b : Expr} (hk : env.scope.kind = .function) (hx : env.scope.names.lookup x = some .local) (hy : env.scope.names.lookup y = some .local) (hl : (py.line == px.line) = true) (hn : x ≠ y)
    (hs : ∀ v ∈ [a, b], starB v = false) (h1 : [a, b].all (foldedForSure 8) = false) (h2 : [a, b].all (constantsAlone 8) = false) :
    swappedStores [.Tuple [.Name x px, .Name y py] kt pt] (.Tuple [a, b] k2 pt2) env = pure (some [x, y]) := by
  have hb : env.blockKind = .function := by unfold Env.blockKind; rw [hk]; rfl
  have kx : env.kindOf x = some .local := hx
  have ky : env.kindOf y = some .local := hy
  have hn' : (y == x) = false := by simpa using (Ne.symm hn)
  unfold swappedStores
  simp only [List.length_cons, List.length_nil, hb, h1, h2, kx, ky, List.filterMap_cons, List.filterMap_nil, List.head?_cons, Expr.pos, Option.map_some, Option.getD_some, hl, beq_self_eq_true, Bool.and_true, if_true, Bool.and_self]
  simp [List.eraseDups_cons, hn']
  intro h
  exfalso
  rcases h with h | h
  · have hs' := hs a (by simp)
    cases a <;> first | exact absurd h Bool.false_ne_true | exact absurd hs' (by simp [starB])
  · have hs' := hs b (by simp)
    cases b <;> first | exact absurd h Bool.false_ne_true | exact absurd hs' (by simp [starB])
theorem swp3 {env : Env} {x y z : Str} {px py pz pt pt2 : Pos} {kt k2 : Nat} {a b c : Expr} (hk : env.scope.kind = .function) (hx : env.scope.names.lookup x = some .local) (hy : env.scope.names.lookup y = some .local) (hz : env.scope.names.lookup z = some .local) (hl : (py.line == px.line) = true) (hl2 : (pz.line == px.line) = true)
    (hn : x ≠ y) (hn2 : x ≠ z) (hn3 : y ≠ z) (hs : ∀ v ∈ [a, b, c], starB v = false) (h1 : [a, b, c].all (foldedForSure 8) = false) (h2 : [a, b, c].all (constantsAlone 8) = false) :
    swappedStores [.Tuple [.Name x px, .Name y py, .Name z pz] kt pt] (.Tuple [a, b, c] k2 pt2) env = pure (some [x, y, z]) := by
  have hb : env.blockKind = .function := by unfold Env.blockKind; rw [hk]; rfl
  have kx : env.kindOf x = some .local := hx
  have ky : env.kindOf y = some .local := hy
  have kz : env.kindOf z = some .local := hz
  have hn' : (y == x) = false := by simpa using (Ne.symm hn)
  have hn2' : (z == x) = false := by simpa using (Ne.symm hn2)
  have hn3' : (z == y) = false := by simpa using (Ne.symm hn3)
  unfold swappedStores
  simp only [List.length_cons, List.length_nil, hb, h1, h2, kx, ky, kz, List.filterMap_cons, List.filterMap_nil, List.head?_cons, Expr.pos, Option.map_some, Option.getD_some, hl, hl2, beq_self_eq_true, Bool.and_true, if_true, Bool.and_self]
  simp [List.eraseDups_cons, hn', hn2', hn3']
  intro h
  exfalso
  rcases h with h | h | h
  · have hs' := hs a (by simp)
    cases a <;> first | exact absurd h Bool.false_ne_true | exact absurd hs' (by simp [starB])
  · have hs' := hs b (by simp)
    cases b <;> first | exact absurd h Bool.false_ne_true | exact absurd hs' (by simp [starB])
  · have hs' := hs c (by simp)
    cases c <;> first | exact absurd h Bool.false_ne_true | exact absurd hs' (by simp [starB])
theorem names_bindV {K : PySem.W.Frag} {mg : Str → Option Value} {H : Hp} {M : Addr → Prop} {A : List Addr} : ∀ {is : List Nat} {ds : List VV} {xs : List V} {σd : Sg} {σ : L2.St} {Q : L2.St → Hp → Prop}, ds.length = is.length → Vs K mg H M A ds xs → Sr K mg H M A σd σ →
    (∀ σ', Sr K mg H M A ((is.zip ds).foldl (fun σ p => σ.set p.1 (some p.2)) σd) σ' → Q σ' H) → gNames is xs σ H Q
  | [], [], _, _, _, _, _, .nil, s, q => ⟨rfl, q _ s⟩
  | [], _ :: _, _, _, _, _, l, _, _, _ => by cases l
  | _ :: _, [], _, _, _, _, l, _, _, _ => by cases l
  | i :: is, d :: ds, _, σd, σ, Q, l, .cons r rs, s, q => ⟨_, _, rfl, names_bindV (is := is) (ds := ds) (by simpa using l) rs (s.set (i := i) (v := d) r) q⟩
theorem swp_none {ts vs : List Expr} {kt k2 : Nat} {pt pt2 : Pos} {env : Env} (h : (ts.any (fun e => match e with | .Name id _ => !(env.scope.names.lookup id == some .local) | _ => true) || vs.all (foldedForSure 8)) = true) :
    swappedStores [.Tuple ts kt pt] (.Tuple vs k2 pt2) env = pure none := by
  unfold swappedStores
  dsimp only
  split
  · rfl
  · split
    · rfl
    · split
      · rfl
      · rename_i hn
        split
        · rfl
        · rename_i hf
          exfalso
          rcases Bool.or_eq_true_iff.mp h with h | h
          · obtain ⟨e, he, q⟩ := List.any_eq_true.mp h
            simp at hn
            have hall := hn.1 e he
            cases e with
            | Name id pos =>
              have q' : (env.kindOf id == some .local) = false := by
                show (env.scope.names.lookup id == some .local) = false
                simpa using q
              have q2 : ¬ env.kindOf id = some .local := by simpa using q'
              simp [q2] at hall
            | _ => simp at hall
          · exact hf h
theorem par_tup {X : Cx} {W : WX} {Γ : Cs} {is : List Nat} {es : CEs} {tes vs : List Expr} {kt k2 : Nat} {pt pt2 pos : Pos} (w : Wd D k Γ X) (tk : Takes X W) (h : parT Γ is tes vs = true) (c2 : chkEs D Γ es vs = true) :
    PS X (.Assign [.Tuple tes kt pt] (.Tuple vs k2 pt2) pos) (tS X.K X.mg W fun σ S => evS (evCall D.T k) (parOf D.T) (.par is es) σ S) := by
  obtain ⟨h1, h2⟩ := ba h
  obtain ⟨h3, h4⟩ := ba h1
  obtain ⟨q1, q2, q3⟩ := pgs_nms w h3
  have hlt := of_decide_eq_true h4
  refine (ps_asg (pe_tup (ses_all es X W Γ vs w tk c2)) (pg_tup (k := kt) (pos := pt) w.calm q1 (q2 _) (q3 _)) rfl (swp_none (by rw [w.scp]; exact h2)) rfl).imp fun E σ H ⟨M, A, S, σd, R, sr, p⟩ => ?_
  simp only [evS] at p
  refine ⟨M, A, S, σd, R, sr, (postS.thenS sr p).imp fun vv H1 M1 A1 S1 f1 R1 p1 us rs => ?_⟩
  split at p1
  · rename_i hl
    have hl2 : us.length = is.length := by rw [← rs.length]; exact hl
    refine ⟨by rw [sz_eq, hl2]; show _ ≤ 16777216; omega, fun q hq => ?_⟩
    have fq : Fm H1 M1 A1 S1 (upd H1 q (.tup us)) M1 A1 S1 := Fm.new hq
    have Rq := R1.new (o := .tup us) hq
    exact ⟨q, us, rfl, SqT.of upd_same, hl2, names_bindV hl (rs.mono fq) ((sr.mono f1).mono fq) fun σ' s' => p1 _ _ _ σ' fq Rq s'⟩
  · exact p1.elim
theorem ss_par (is : List Nat) (es : CEs) : SS D k (.par is es) := fun X W Γ st w tk ow c => by
  cases st with
  | Assign ts v pos =>
    have z : ∃ tes kt pt vs k2 pt2, ts = [.Tuple tes kt pt] ∧ v = .Tuple vs k2 pt2 ∧ ((parB Γ is tes vs || parT Γ is tes vs) && chkEs D Γ es vs) = true := by
      unfold chkS at c
      split at c <;> simp_all
    obtain ⟨tes, kt, pt, vs, k2, pt2, rfl, rfl, c⟩ := z
    obtain ⟨c1, c2⟩ := ba c
    by_cases hT : parT Γ is tes vs = true
    · exact par_tup w tk hT c2
    replace c1 : parB Γ is tes vs = true := by
      cases q : parB Γ is tes vs with
      | true => rfl
      | false => rw [q, Bool.false_or] at c1; exact absurd c1 hT
    have hst := no_star c2
    have hN : X.N.Nodup := by rw [w.hN]; exact w.nd
    unfold parB at c1
    split at c1
    · rename_i i j x px y py a b _
      obtain ⟨d1, e1⟩ := ba c1
      obtain ⟨d2, e2⟩ := ba d1
      obtain ⟨d3, e3⟩ := ba d2
      obtain ⟨d4, e4⟩ := ba d3
      obtain ⟨d5, e5⟩ := ba d4
      obtain ⟨d6, e6⟩ := ba d5
      obtain ⟨d7, e7⟩ := ba d6
      obtain ⟨d8, e8⟩ := ba d7
      obtain ⟨d9, e9⟩ := ba d8
      have hx : X.env.scope.names.lookup x = some .local := by rw [w.scp]; exact of_decide_eq_true e5
      have hy : X.env.scope.names.lookup y = some .local := by rw [w.scp]; exact of_decide_eq_true e4
      refine (ps_par w.calm hN (by rw [w.hN]; exact of_decide_eq_true e7) (by rw [w.hN]; exact of_decide_eq_true e6) (of_decide_eq_true e9) hx hy (ses_all es X W Γ [a, b] w tk c2)
        (swp2 (kind_of w d9) hx hy e3 (of_decide_eq_true e8) hst (nb e2) (nb e1)) rfl).imp fun E σ H ⟨M, A, S, σd, R, sr, p⟩ => ?_
      simp only [evS] at p
      refine ⟨M, A, S, σd, R, sr, (postS.thenS sr p).imp fun vv H1 M1 A1 S1 f1 R1 p1 us rs => ?_⟩
      split at p1
      · rename_i hl
        obtain ⟨v1, v2, u1, u2, rfl, rfl, r1, r2⟩ := two_vs rs hl
        exact ⟨u1, u2, rfl, p1 H1 M1 A1 _ Fm.refl R1 (((sr.mono f1).set r1).set r2)⟩
      · exact p1.elim
    · rename_i i j l x px y py z pz a b cc _
      obtain ⟨d1, e1⟩ := ba c1
      obtain ⟨d2, e2⟩ := ba d1
      obtain ⟨d3, e3⟩ := ba d2
      obtain ⟨d4, e4⟩ := ba d3
      obtain ⟨d5, e5⟩ := ba d4
      obtain ⟨d6, e6⟩ := ba d5
      obtain ⟨d7, e7⟩ := ba d6
      obtain ⟨d8, e8⟩ := ba d7
      obtain ⟨d9, e9⟩ := ba d8
      obtain ⟨d10, e10⟩ := ba d9
      obtain ⟨d11, e11⟩ := ba d10
      obtain ⟨d12, e12⟩ := ba d11
      obtain ⟨d13, e13⟩ := ba d12
      obtain ⟨d14, e14⟩ := ba d13
      obtain ⟨d15, e15⟩ := ba d14
      obtain ⟨d16, e16⟩ := ba d15
      have hx : X.env.scope.names.lookup x = some .local := by rw [w.scp]; exact of_decide_eq_true e7
      have hy : X.env.scope.names.lookup y = some .local := by rw [w.scp]; exact of_decide_eq_true e6
      have hz : X.env.scope.names.lookup z = some .local := by rw [w.scp]; exact of_decide_eq_true e5
      refine (ps_par3 w.calm hN (by rw [w.hN]; exact of_decide_eq_true e10) (by rw [w.hN]; exact of_decide_eq_true e9) (by rw [w.hN]; exact of_decide_eq_true e8) (of_decide_eq_true e16) (of_decide_eq_true e15) (of_decide_eq_true e14) hx hy hz (ses_all es X W Γ [a, b, cc] w tk c2)
        (swp3 (kind_of w d16) hx hy hz e4 e3 (of_decide_eq_true e13) (of_decide_eq_true e12) (of_decide_eq_true e11) hst (nb e2) (nb e1)) rfl).imp fun E σ H ⟨M, A, S, σd, R, sr, p⟩ => ?_
      simp only [evS] at p
      refine ⟨M, A, S, σd, R, sr, (postS.thenS sr p).imp fun vv H1 M1 A1 S1 f1 R1 p1 us rs => ?_⟩
      split at p1
      · rename_i hl
        obtain ⟨v1, v2, v3, u1, u2, u3, rfl, rfl, r1, r2, r3⟩ := three_vs rs hl
        exact ⟨u1, u2, u3, rfl, p1 H1 M1 A1 _ Fm.refl R1 ((((sr.mono f1).set r1).set r2).set r3)⟩
      · exact p1.elim
    · cases c1
  | _ => exact no (by unfold chkS at c; cases c)
/-! ### loops -/
theorem SR.assoc (r : SR) (f g : Sg → Sto → SR) : (r.bind f).bind g = r.bind fun σ S => (f σ S).bind g := by cases r <;> rfl
theorem ss_for (tg : Tg) (it : CI) {b : CSs} (ib : SSs D k b) : SS D k (.for_ tg it b) := fun X W Γ st w tk ow c => by
  cases st with
  | For t i body orelse pos =>
    cases orelse with
    | cons _ _ => exact no (by unfold chkS at c; cases c)
    | nil =>
      obtain ⟨c1, c2⟩ := ba (show (chkG Γ tg t && chkI D Γ it i && (tupB t || !needT it) && chkSs D Γ b body) = true by unfold chkS at c; exact c)
      obtain ⟨c3, c4⟩ := ba c1
      obtain ⟨c5, c6⟩ := ba c3
      obtain ⟨p1, p2⟩ := si_all it X W Γ t i w tk c6 c4
      refine (ps_for ow.own w.calm p1 (pg_of w c5) (ib X W Γ body w tk ow c2) p2).imp fun E σ H ⟨M, A, S, σd, R, sr, p⟩ => ?_
      simp only [evS] at p
      refine ⟨M, A, S, σd, R, sr, (postS.thenS sr p).imp fun ⟨items, gd⟩ H1 M1 A1 S1 f1 R1 p1 J wk => ?_⟩
      generalize hf : (fun x σ S => match bindTg tg x σ with | some σ => evSs (evCall D.T k) (parOf D.T) b σ S | none => SR.bad) = f
      have p1 : postS X.K X.mg W E H1 M1 A1 S1 ((loopF (fun x σ S => grdS gd S (f x σ S)) items σd S1).bind fun σ S => grdS gd S (.nx σ S)) := by rw [← hf]; exact p1
      let Wt : Nat → Nat → L2.St → Hp → Prop := fun i m σ H => m = items.length - i ∧ i ≤ items.length ∧ ∃ M A S σd, Rel X.K H M A S ∧ Sr X.K X.mg H M A σd σ ∧ Wk X.K J items gd H M A ∧ postS X.K X.mg W E H M A S ((loopF (fun x σ S => grdS gd S (f x σ S)) (items.drop i) σd S).bind fun σ S => grdS gd S (.nx σ S))
      refine ⟨Wt, ⟨items.length, by simp, Nat.zero_le _, M1, A1, S1, σd, R1, sr.mono f1, wk, p1⟩, ?_⟩
      rintro i m σ H ⟨rfl, hi, M, A, S, σd, R, sr, wk, p⟩
      by_cases ho : gOk gd S
      case neg =>
        refine False.elim ?_
        by_cases hlt : i < items.length
        · rw [List.drop_eq_getElem_cons hlt] at p
          unfold loopF at p
          rw [grdS_no ho] at p
          exact p.elim
        · rw [List.drop_eq_nil_of_le (by omega)] at p
          have p : postS X.K X.mg W E H M A S (grdS gd S (.nx σd S)) := p
          rw [grdS_no ho] at p
          exact p.elim
      obtain ⟨w1, w2, w3⟩ := wk H M A S Stay.refl ⟨[], by simp⟩ R ho
      by_cases hlt : i < items.length
      · refine .inr ⟨w1 i hlt, fun σ' H' => Wt (i + 1) (items.length - (i + 1)) σ' H', fun σ' H' h => ⟨_, by omega, h⟩, fun x H2 y => ?_⟩
        have hd : items[i]? = some items[i] := by simp [hlt]
        obtain ⟨rp, hh⟩ := w3 i _ hd x H2 y
        rw [List.drop_eq_getElem_cons hlt] at p
        have f2' : Fm H M A S H2 M A S ∧ Rel X.K H2 M A S := by
          rcases hh with rfl | ⟨T, o, e, rfl⟩
          · exact ⟨Fm.refl, R⟩
          · exact ⟨Fm.new e, R.new e⟩
        obtain ⟨fz, R2⟩ := f2'
        generalize items[i] = d at *
        unfold loopF at p
        rw [grdS_ok ho] at p
        have p := postS.from (K := X.K) p fz
        cases hb : bindTg tg d σd with
        | none => rw [show f d σd S = .bad by rw [← hf]; simp only [hb]] at p; exact p.elim
        | some σ' =>
          rw [show f d σd S = evSs (evCall D.T k) (parOf D.T) b σ' S by rw [← hf]; simp only [hb]] at p
          rw [SR.assoc] at p
          refine tg_bind hb rp (sr.mono fz) fun σ2 s2 => ⟨M, A, S, σ', R2, s2, ?_⟩
          refine (postS.bind p).mono fun σ3 H3 ⟨M3, A3, S3, σd3, R3, s3, f3, p3⟩ => ⟨rfl, hlt, M3, A3, S3, σd3, R3, s3, (wk.stay fz.st fz.pre).stay f3.st f3.pre, p3⟩
      · have e : i = items.length := by omega
        subst e
        rw [List.drop_length] at p
        have p : postS X.K X.mg W E H M A S (grdS gd S (.nx σd S)) := p
        rw [grdS_ok ho] at p
        exact .inl ⟨w2 _ rfl, p H M A σ Fm.refl R sr⟩
  | _ => exact no (by unfold chkS at c; cases c)
theorem ss_whil (n : Nat) (t : CE) {b : CSs} (ib : SSs D k b) : SS D k (.whil n t b) := fun X W Γ st w tk ow c => by
  cases n with
  | zero => exact ss_never t b X W Γ st w tk ow c
  | succ n =>
    cases st with
    | While cc body orelse pos =>
      cases orelse with
      | cons _ _ => exact no (by unfold chkS at c; cases c)
      | nil =>
        obtain ⟨c1, c2⟩ := ba (show (chkE D Γ t cc && chkSs D Γ b body) = true by unfold chkS at c; exact c)
        refine (ps_while ow.own (st_all t X W Γ cc w tk c1) (ib X W Γ body w tk ow c2)).imp fun E σ H ⟨M, A, S, σd, R, sr, p⟩ => ?_
        simp only [evS] at p
        refine ⟨fun m σ H => ∃ M A S σd, Rel X.K H M A S ∧ Sr X.K X.mg H M A σd σ ∧ postS X.K X.mg W E H M A S (loopW (fun σ S => evT (evCall D.T k) (parOf D.T) σ t S) (fun σ S => evSs (evCall D.T k) (parOf D.T) b σ S) m σd S), ⟨n + 1, M, A, S, σd, R, sr, p⟩, ?_⟩
        rintro m σ H ⟨M, A, S, σd, R, sr, p⟩
        cases m with
        | zero => unfold loopW at p; exact p.elim
        | succ m =>
          unfold loopW at p
          refine ⟨M, A, S, σd, R, sr, (postS.thenS sr p).imp fun bb H1 M1 A1 S1 f1 R1 p1 => ?_⟩
          cases bb with
          | false => exact (show postS X.K X.mg W E H1 M1 A1 S1 (.nx σd S1) from p1) H1 M1 A1 σ Fm.refl R1 (sr.mono f1)
          | true =>
            have p1 : postS X.K X.mg W E H1 M1 A1 S1 ((evSs (evCall D.T k) (parOf D.T) b σd S1).bind fun σ S => loopW (fun σ S => evT (evCall D.T k) (parOf D.T) σ t S) (fun σ S => evSs (evCall D.T k) (parOf D.T) b σ S) m σ S) := p1
            refine ⟨fun σ' H' => ∃ M A S σd, Rel X.K H' M A S ∧ Sr X.K X.mg H' M A σd σ' ∧ postS X.K X.mg W E H' M A S (loopW (fun σ S => evT (evCall D.T k) (parOf D.T) σ t S) (fun σ S => evSs (evCall D.T k) (parOf D.T) b σ S) m σd S), fun σ' H' h => ⟨m, Nat.lt_succ_self _, h⟩, M1, A1, S1, σd, R1, sr.mono f1, ?_⟩
            exact (postS.bind p1).mono fun σ3 H3 ⟨M3, A3, S3, σd3, R3, s3, f3, p3⟩ => ⟨M3, A3, S3, σd3, R3, s3, p3⟩
    | _ => exact no (by unfold chkS at c; cases c)
theorem ss_no {c : CS} (h : ∀ Γ st, chkS D Γ c st = false) : SS D k c := fun X W Γ st w tk ow q => by rw [h] at q; cases q
mutual
theorem ss_all : ∀ c : CS, SS D k c
  | .set i e => ss_set i e
  | .par is es => ss_par is es
  | .unp is e => ss_unp is e
  | .sst o i e => ss_sst o i e
  | .expr e => ss_expr e
  | .ret e => ss_ret e
  | .retN => ss_retN
  | .ifs t a b => ss_ifs t (sss_all a) (sss_all b)
  | .for_ tg it b => ss_for tg it (sss_all b)
  | .whil n t b => ss_whil n t (sss_all b)
  | .aug i op e => ss_aug i op e
  | .raise_ c as => ss_raise c as
  | .try_ b c i j => ss_try c i j (sss_all b)
  | .pass => ss_pass
  | .frz i => ss_no fun Γ st => by cases st <;> (unfold chkS; rfl)
theorem sss_all : ∀ c : CSs, SSs D k c
  | .nil => sss_nil
  | .cons s ss => sss_cons (ss_all s) (sss_all ss)
end
end
end KA
/-! KACall: defs keep their promises. -/
namespace KA
open PySem PySem.Spec PyProof.Rows L2
/-! ### behind a call -/
section
variable {K : PySem.W.Frag} {mg : Str → Option Value} {H H' : Hp} {M M' : Addr → Prop} {A A' : List Addr} {S S' : Sto} {a : Addr}
theorem take_at {α : Type} {l : List α} {n i : Nat} {x : α} (h : (l.take n)[i]? = some x) : i < n ∧ l[i]? = some x := by
  by_cases hi : i < n
  · rw [List.getElem?_take_of_lt hi] at h; exact ⟨hi, h⟩
  · rw [List.getElem?_eq_none (by rw [List.length_take]; omega)] at h; cases h
theorem Rel.take (r : Rel K H M A S) (n : Nat) : Rel K H M (A.take n) (S.take n) where
  len := by rw [List.length_take, List.length_take, r.len]
  nd := r.nd.sublist (List.take_sublist _ _)
  lst := fun l ds a e1 e2 => r.lst l ds a (take_at e1).2 (take_at e2).2
  frz := fun l ds a e1 e2 => r.frz l ds a (take_at e1).2 (take_at e2).2
  al := r.al
theorem Fm.take (f : Fm H M A S H' M' A' S') (hl : A.length = S.length) : Fm H M A S H' M' (A'.take S.length) (S'.take S.length) where
  st := f.st
  ex := fun a u e m n => let ⟨h1, h2, h3⟩ := f.ex a u e m n; ⟨h1, h2, fun ⟨l, ds, e1, e2⟩ => h3 ⟨l, ds, (take_at e1).2, (take_at e2).2⟩⟩
  pre := by
    obtain ⟨B, e⟩ := f.pre
    exact ⟨[], by rw [e, ← hl, List.take_left, List.append_nil]⟩
/-- one list is handed back -/
theorem Rel.hand (r : Rel K H M A S) {n l : Nat} {ds : List PD} (hn : n ≤ A.length) (hl : n ≤ l) (e1 : S[l]? = some (O.lst ds)) (e2 : A[l]? = some a) : Rel K H M (A.take n ++ [a]) (S.take n ++ [O.lst ds]) := by
  have lenA : (A.take n).length = n := by rw [List.length_take]; omega
  have lenS : (S.take n).length = n := by rw [List.length_take, ← r.len]; omega
  have cA : ∀ (j : Nat) (b : Addr), (A.take n ++ [a])[j]? = some b → (j < n ∧ A[j]? = some b) ∨ (j = n ∧ b = a) := fun j b e => by
    by_cases hj : j < n
    · rw [List.getElem?_append_left (by omega)] at e; exact .inl (take_at e)
    · rw [List.getElem?_append_right (by omega), lenA] at e
      have h0 : j - n = 0 := by
        have := (List.getElem?_eq_some_iff.mp e).1
        simp at this; omega
      rw [h0] at e
      exact .inr ⟨by omega, by simpa using e.symm⟩
  have cS : ∀ (j : Nat), j < n → (S.take n ++ [O.lst ds])[j]? = S[j]? := fun j hj => by
    rw [List.getElem?_append_left (by omega), List.getElem?_take_of_lt hj]
  have cN : (S.take n ++ [O.lst ds])[n]? = some (O.lst ds) := by rw [List.getElem?_append_right (by omega), lenS, Nat.sub_self]; rfl
  refine ⟨by simp [lenA, lenS], ?_, fun j ds' b f1 f2 => ?_, fun j ds' b f1 f2 => ?_, r.al⟩
  · refine List.nodup_append.mpr ⟨r.nd.sublist (List.take_sublist _ _), by simp, fun x hx y hy e => ?_⟩
    have hy' : y = a := by simpa using hy
    subst hy' e
    obtain ⟨j, hj⟩ := List.getElem?_of_mem hx
    obtain ⟨h1, h2⟩ := take_at hj
    have := nodup_at r.nd h2 e2
    omega
  · rcases cA j b f2 with ⟨hj, h⟩ | ⟨rfl, rfl⟩
    · rw [cS j hj] at f1
      exact r.lst j ds' b f1 h
    · rw [cN] at f1
      have : ds = ds' := by simpa using f1
      subst this
      exact r.lst l ds b e1 e2
  · rcases cA j b f2 with ⟨hj, h⟩ | ⟨rfl, rfl⟩
    · rw [cS j hj] at f1
      exact r.frz j ds' b f1 h
    · rw [cN] at f1
      simp at f1
theorem hand_at {α : Type} {l : List α} {n j : Nat} {x y : α} (hn : n ≤ l.length) (h : (l.take n ++ [x])[j]? = some y) : (j < n ∧ l[j]? = some y) ∨ (j = n ∧ y = x) := by
  have len : (l.take n).length = n := by rw [List.length_take]; omega
  by_cases hj : j < n
  · rw [List.getElem?_append_left (by omega)] at h; exact .inl (take_at h)
  · rw [List.getElem?_append_right (by omega), len] at h
    have h0 : j - n = 0 := by
      have := (List.getElem?_eq_some_iff.mp h).1
      simp at this; omega
    rw [h0] at h
    exact .inr ⟨by omega, by simpa using h.symm⟩
theorem Fm.len (f : Fm H M A S H' M' A' S') (r : Rel K H' M' A' S') (hl : A.length = S.length) : S.length ≤ A'.length ∧ S.length ≤ S'.length := by
  obtain ⟨B, e⟩ := f.pre
  have h1 := r.len
  have h2 : A'.length = A.length + B.length := by rw [e, List.length_append]
  omega
theorem Fm.hand (f : Fm H M A S H' M' A' S') (r : Rel K H' M' A' S') (hl : A.length = S.length) {l : Nat} {ds : List PD} (e1 : S'[l]? = some (O.lst ds)) (e2 : A'[l]? = some a) : Fm H M A S H' M' (A'.take S.length ++ [a]) (S'.take S.length ++ [O.lst ds]) where
  st := f.st
  ex := fun b u e m n => by
    obtain ⟨h1, h2, h3⟩ := f.ex b u e m n
    obtain ⟨z1, z2⟩ := f.len r hl
    refine ⟨h1, h2, fun ⟨j, ds', q1, q2⟩ => ?_⟩
    rcases hand_at z1 q2 with ⟨g1, g2⟩ | ⟨g1, g2⟩
    · rcases hand_at z2 q1 with ⟨g3, g4⟩ | ⟨g3, g4⟩
      · exact h3 ⟨j, ds', g4, g2⟩
      · exact absurd g1 (by rw [g3]; exact Nat.lt_irrefl _)
    · subst g2
      exact h3 ⟨l, ds, e1, e2⟩
  pre := by
    obtain ⟨B, e⟩ := f.pre
    exact ⟨[a], by rw [e, ← hl, List.take_left]⟩
/-- what a body's end is to the caller -/
theorem post_fin {W : WX} {E : XK} {Q : VK} {m : Bool} {r : SR} (R : Rel K H M A S) (hW : ∀ c d σ H, E c d H → W c d σ H)
    (h : post K mg E H M A S (finD m S.length r) fun v H' M' A' _ => ∀ u, Vr K mg H' M' A' v u → Q u H') : postS K mg W { nx := fun _ H' => Q .non H', rt := Q } H M A S r := by
  have hl := R.len
  cases r with
  | bad => exact h
  | nx σd S' => exact fun H' M' A' σ f R' s => h H' M' _ (f.take hl) (R'.take _) _ Rp.non
  | exc e σd S' => exact fun H' M' A' σ c d f R' s x => hW _ _ _ _ (h H' M' _ c d (f.take hl) (R'.take _) x)
  | rt v S' =>
    intro H' M' A' u f R' hu
    obtain ⟨z1, z2⟩ := f.len R' hl
    cases v with
    | d x => exact h H' M' _ (f.take hl) (R'.take _) u hu
    | ex e => exact h H' M' _ (f.take hl) (R'.take _) u hu
    | loc l =>
      obtain ⟨a, ea, rfl⟩ := hu
      unfold finD at h
      dsimp only at h
      by_cases hlt : l < S.length
      · rw [if_pos hlt] at h
        exact h H' M' _ (f.take hl) (R'.take _) _ ⟨a, by rw [List.getElem?_take_of_lt hlt]; exact ea, rfl⟩
      · rw [if_neg hlt] at h
        have lt : l < S'.length := by rw [← R'.len]; exact (List.getElem?_eq_some_iff.mp ea).1
        rcases sto_cases lt with ⟨ds, q⟩ | ⟨ds, q⟩
        · rw [q] at h
          dsimp only at h
          cases m with
          | true =>
            rw [if_pos rfl] at h
            refine h H' M' _ (f.hand R' hl q ea) (R'.hand z1 (by omega) q ea) _ ⟨a, ?_, rfl⟩
            have : (A'.take S.length).length = S.length := by rw [List.length_take]; omega
            rw [List.getElem?_append_right (by omega), this, Nat.sub_self]; rfl
          | false =>
            rw [if_neg Bool.false_ne_true] at h
            obtain ⟨R2, f2, rp⟩ := R'.still q ea
            have e : (S'.set l (O.frz ds)).take S.length = S'.take S.length := by
              rw [List.take_set_of_le (by omega)]
            have h1 := (f.trans f2).take hl
            have h2 := R2.take S.length
            rw [e] at h1 h2
            exact h H' _ _ h1 h2 _ rp
        · rw [q] at h
          exact h H' M' _ (f.take hl) (R'.take _) _ (R'.frz l ds a q ea).1
end
end KA
/-! KACall2: every def of a law's text keeps its promise; the law's end. -/
namespace KA
open PySem PySem.Spec PyProof.Rows L2
/-- a def of the text, by its body: around it no object is being written -/
theorem fnG_of {P : Program} {w : World} {K : PySem.W.Frag} {mg : Str → Option Value} {base : Heap} {k : Nat} {f : Addr} {x qual : Str} {params : Arguments} {body : List Stmt} {scope : Scope} {fd : FuncData} {N ps : List Str} {sp : Sp}
    (F : FunD K x qual params body scope [] [] f fd) (S : FnScope N ps scope) (len : ∀ vs H Q E, sp vs H Q E → vs.length = ps.length)
    (hbody : ∀ (cdv : Value) (A : Around) (outer : List Env) (s : Shared) (H : Hp) (vs : List V) (Q : VK) (E : XK), Room k (A.deeper (envOfC qual scope s.heap.objs.size f cdv)) → A.guards = some [] → sp vs H Q E →
      ∃ t, PSs (cxOf (L2.CX P w) P w K mg base N qual scope f cdv A outer s H E) body t ∧ t { nx := fun _ H' => Q .non H', rt := Q } (L2.start N vs) H) : FnG P w K mg base (k + 1) f fd ps sp := by
  obtain ⟨oc, od, dV, kV, doc, pm, an, cdv, ct, osl, rfl, lk, hcd, _, _⟩ := F.ex
  refine ⟨len, fun A outer s H args us vs Q E hr hG e0 hb r hsp => ?_⟩
  have hl := len _ _ _ _ hsp
  have inH : ∀ (b : Addr) (o : Obj), base.get? b = some o → s.heap.get? b = some o := fun b o e => (e0.bs b o e).1
  have KX : K.In s.heap := e0.mod.kin.keeps inH
  have lim : s.heap.NoLimit := e0.mod.nolimit.keeps inH
  have cells : ∀ y ∈ ps.zip us, scope.names.lookup y.1 = some .local ∨ (scope.names.lookup y.1 = some .cell ∧ ((cellsFrom (s.heap.objs.size + 1) scope.names []).lookup y.1).isSome = true) := fun y hy => by
    obtain ⟨n, v⟩ := y
    rcases S.par n (List.of_mem_zip hy).1 with q | q
    · exact .inl q
    · exact .inr ⟨q, PySem.W.cellsFrom_some _ _ _ (.inl q)⟩
  refine codeAny_call_function hr.depth (KX _ _ lk) rfl S.co S.gen rfl (PySem.W.codeRec_of KX hcd) (hb _ _ _ _ ?_)
  refine wpAny_newFunctionEnv_cells S.kind cells fun env he s1 hin => ?_
  subst he
  obtain ⟨t, ht, hq⟩ := hbody cdv A outer s H vs Q E (hr.deeper _) hG hsp
  have I := inv_start (CX := L2.CX P w) (P := P) (w := w) (E := E) S hr.hd e0 hl r hin
  refine ⟨lim.keeps hin.toInCall.keep, codeAny_func (wpAny_mono (ht.run [] s1 (L2.start N vs) H _ I hq) (fun fl s' hs => ?_) fun e s' hs => hs)⟩
  cases fl with
  | ret u =>
    obtain ⟨v, σ', H', J, rv, q⟩ := hs
    exact ⟨v, H', J.os, J.bare, J.base, J.hok, rv, q⟩
  | next =>
    obtain ⟨σ', H', J, q⟩ := hs
    exact ⟨V.non, H', J.os, J.bare, J.base, J.hok, rfl, q⟩
  | brk =>
    obtain ⟨_, _, _, q⟩ := hs
    exact False.elim q
  | cont =>
    obtain ⟨_, _, _, q⟩ := hs
    exact False.elim q
/-- a def's datum is the text's -/
structure DfOk (D : Dom) (K : PySem.W.Frag) (mg : Str → Option Value) (f : Nat) (d : FD) : Prop where
  np : d.np ≤ d.N.length
  ex : ∃ (x : Str) (params : Arguments) (body : List Stmt) (scope : Scope) (fa : Addr) (fd : FuncData) (qual : Str), mg (D.nm f d) = some (.ref fa) ∧ FunD K x qual params body scope [] [] fa fd ∧ FnScope d.N (d.N.take d.np) scope ∧
    chkSs D ⟨d.N, scope, fun _ => true⟩ d.body body = true ∧ Binds K fd (d.N.take d.np) [] ∧ ∀ ks, D.KW.contains (f, ks) = true → KwB K fd (d.N.take d.np) ks
/-- a law's text -/
structure LawOk (D : Dom) (K : PySem.W.Frag) (mg : Str → Option Value) : Prop where
  defs : ∀ f d, D.T f = some d → DfOk D K mg f d
  blt : ∀ x, D.B.contains x = true → mg x = none
  con : ∀ x d, D.const x d = true → ∃ u v, mg x = some u ∧ RelV v u ∧ ∀ H M, Rp K H M d v
  exc : ExF K mg
  hasX : ∀ x, D.X.contains x = true → x ∈ EXN ∧ ∃ c, mg x = some c
section
variable {D : Dom} {P : Program} {w : World} {K : PySem.W.Frag} {mg : Str → Option Value} {base : Heap}
def FnsAt (D : Dom) (P : Program) (w : World) (K : PySem.W.Frag) (mg : Str → Option Value) (base : Heap) (k : Nat) : Prop := ∀ f d, D.T f = some d → d.np ≤ d.N.length ∧ ∃ fa fd, mg (D.nm f d) = some (.ref fa) ∧ PySem.W.keepIn K (.ref fa) = true ∧ FnG P w K mg base k fa fd (d.N.take d.np) (spC D K mg k f (d.N.take d.np).length) ∧
  Binds K fd (d.N.take d.np) [] ∧ ∀ ks, D.KW.contains (f, ks) = true → KwB K fd (d.N.take d.np) ks
theorem spC_len {k f n : Nat} {ps : List Str} (h : ps.length = n) (vs : List V) (H : Hp) (Q : VK) (E : XK) (q : spC D K mg k f n vs H Q E) : vs.length = ps.length := by
  obtain ⟨_, _, _, _, _, _, e, _⟩ := q
  rw [e, h]
theorem sr_start {H : Hp} {M : Addr → Prop} {A : List Addr} {N : List Str} {args : List VV} {vs : List V} (r : Vs K mg H M A args vs) : Sr K mg H M A (startD N.length args) (L2.start N vs) := by
  have hl := r.length
  refine ⟨by unfold startD L2.start; simp [hl], fun i v e => ?_⟩
  unfold startD at e
  by_cases hi : i < args.length
  · rw [List.getElem?_append_left (by simpa using hi), List.getElem?_map] at e
    cases q : args[i]? with
    | none => rw [q] at e; cases e
    | some v' =>
      rw [q] at e
      have : v' = v := by simpa using e
      subst this
      obtain ⟨u, hu, ru⟩ := r.get q
      refine ⟨u, ?_, ru⟩
      unfold L2.start
      rw [List.getElem?_append_left (by rw [List.length_map, ← hl]; exact hi), List.getElem?_map, hu]; rfl
  · rw [List.getElem?_append_right (by simpa using hi), List.getElem?_replicate] at e
    split at e <;> cases e
theorem fns_all (L : LawOk D K mg) : ∀ k, FnsAt D P w K mg base k
  | 0 => fun f d hd => by
    obtain ⟨hnp, xn, params, body, scope, fa, fd, qual, hm, F, S, _, hb, hk⟩ := L.defs f d hd
    exact ⟨hnp, fa, fd, hm, F.kp, ⟨spC_len rfl, fun A outer s H args us vs Q E hr hG e0 hbb r ⟨_, _, _, _, _, _, _, p⟩ => by
      simp only [evCall] at p
      exact p.elim⟩, hb, hk⟩
  | k + 1 => fun f d hd => by
    have ih := fns_all L k
    obtain ⟨hnp, xn, params, body, scope, fa, fd, qual, hm, F, S, hc, hb, hk⟩ := L.defs f d hd
    refine ⟨hnp, fa, fd, hm, F.kp, fnG_of F S (spC_len rfl) fun cdv A outer s H vs Q E hr hG hsp => ?_, hb, hk⟩
    obtain ⟨M, A', S', args, R, rv, hlen, p⟩ := hsp
    have tk : Takes (cxOf (L2.CX P w) P w K mg base d.N qual scope fa cdv A outer s H E) (fun cls dd _ H => E cls dd H) := takes_of (E₁ := fun e' s'' => L2.CX P w outer H s E e' s'') rfl rfl rfl rfl
    have ow : Ow (cxOf (L2.CX P w) P w K mg base d.N qual scope fa cdv A outer s H E) := ⟨passes_of (K := fun e s'' => L2.CX P w outer H s E e s'') (E₁ := fun e' s'' => L2.CX P w outer H s E e' s'') rfl, rfl, rfl, rfl⟩
    have wd : Wd D k ⟨d.N, scope, fun _ => true⟩ (cxOf (L2.CX P w) P w K mg base d.N qual scope fa cdv A outer s H E) := ⟨rfl, S.nd, rfl, fun _ _ => rfl, rfl, hr, hG, ih, L.blt, L.con, L.exc, L.hasX⟩
    refine ⟨_, sss_all d.body _ _ _ _ wd tk ow hc, M, A', S', startD d.N.length args, R, sr_start rv, ?_⟩
    unfold evCall at p
    rw [hd] at p
    dsimp only at p
    split at p
    · exact post_fin R (fun _ _ _ _ h => h) p
    · exact p.elim
/-- a law: the evaluator's answer is the text's -/
theorem law_end {k f : Nat} {d : FD} {fa a : Addr} {x : Str} {mb : Str → Option Value} {s₁ : Shared} {vs : List Value} {ns : List Int} (L : LawOk D K mg) (hd : D.T f = some d) (hp : d.N.take d.np = [x]) (hr : Room k callerA)
    (ev : ∃ S, evCall D.T k f [.d (.list (ns.map .int))] [] = .ok (.d (.bool true)) S)
    (KX : K.In s₁.heap) (hns : s₁.heap.Ns mainGlobals mg) (hb : s₁.heap.Ns builtinsNs mb) (hbb : ∀ x : Str, x ≠ "__name__" → mb x = bootBuiltins x) (hlim : s₁.heap.NoLimit) (hg : s₁.gens = #[]) (hm : mg (D.nm f d) = some (.ref fa))
    (ha : s₁.heap.get? a = some { cls := .type "list", data := .seq vs.toArray }) (hi : IntsAre vs ns) (hl : ns.length ≤ SZ) :
    codeAny (model P w) callerA (.call (.ref fa) ⟨[.ref a], []⟩) (fun r s' => r = .ok (.ret (.bool true)) ∧ OldK s₁.heap s'.heap ∧ s'.os = s₁.os ∧ AllBare s'.gens) s₁ := by
  have rv := vals_ints hi
  have hlen : ns.length ≤ sizeLine := by rw [sz_eq]; exact hl
  have intR : ∀ {H : Hp} (l : List Int), Rps K H (fun _ => False) (l.map .int) (l.map V.int) := fun {H} l => by
    induction l with
    | nil => exact .nil
    | cons i r ih => exact .cons (.int i) ih
  -- from any abstract heap that tracks at most the script, as an object that stays
  have core : ∀ H : Hp, (∀ b, H b ≠ none → b = a ∧ H b = some (.frz { cls := .type "list", data := .seq vs.toArray } (.lst (ns.map V.int))) ∧ K.lookup a = none) → SqFL K H (fun _ => False) a (ns.map V.int) →
      codeAny (model P w) callerA (.call (.ref fa) ⟨[.ref a], []⟩) (fun r s' => r = .ok (.ret (.bool true)) ∧ OldK s₁.heap s'.heap ∧ s'.os = s₁.os ∧ AllBare s'.gens) s₁ := fun H hH hS => by
    have base_of : ∀ {b : Addr} {o : Obj}, s₁.heap.get? b = some o → H b = none → (hidT s₁.heap H).get? b = some o := fun e n => hidT_get e n
    have noD : ∀ {b : Addr} {o : Obj} {es : Array DictEntry} {ep : Nat}, s₁.heap.get? b = some o → o.data = .dict es ep → H b = none := fun {b o es ep} e dd => by
      cases q : H b with
      | none => rfl
      | some u =>
        obtain ⟨rfl, _, _⟩ := hH b (by rw [q]; simp)
        rw [ha] at e; cases e
        cases (show Data.seq vs.toArray _ = Data.dict es ep from dd)
    have nsK : ∀ {b : Addr} {m : Str → Option Value}, s₁.heap.Ns b m → (hidT s₁.heap H).Ns b m := fun {b m} ⟨o, es, ep, e, dd, r⟩ => ⟨o, es, ep, base_of e (noD e dd), dd, r⟩
    have hKb : K.In (hidT s₁.heap H) := fun b o e => base_of (KX b o e) (by
      cases q : H b with
      | none => rfl
      | some u =>
        obtain ⟨rfl, _, h3⟩ := hH b (by rw [q]; simp)
        rw [h3] at e; cases e)
    have hM : Mod K mg (hidT s₁.heap H) := ⟨hKb, nsK hns, ⟨mb, nsK hb, hbb⟩, let ⟨mc, h1, h2⟩ := hlim; ⟨mc, nsK h1, h2⟩⟩
    have hok : HOk P w H s₁.heap := fun b u z => by
      obtain ⟨rfl, h2, _⟩ := hH b (by rw [z]; simp)
      rw [h2] at z; cases z
      exact ⟨ha, by rw [List.length_map]; exact hlen, vs, _, rv, ha⟩
    have e0 : Env0 P w K mg (hidT s₁.heap H) callerA [] s₁ H := ⟨rfl, hM, fun b o e => of_hidT e, Nat.le_of_eq (hidT_size _ _), trivial, fun b hb => absurd (show b ∈ ([] : List Addr) from hb) (by simp), hok, .of_eq hg⟩
    obtain ⟨hnp, fa', fd', hm', hk', F, hbi, _⟩ := fns_all (P := P) (w := w) (base := hidT s₁.heap H) L k f d hd
    rw [hm] at hm'
    cases hm'
    obtain ⟨Se, ev⟩ := ev
    have hbs : BindsTo s₁ fd' ⟨[.ref a], []⟩ ((d.N.take d.np).zip [.ref a]) := by
      have := hbi s₁ [.ref a] KX (by rw [hp]; rfl)
      simpa using this
    refine codeAny_mono (F.run callerA [] s₁ H ⟨[.ref a], []⟩ [.ref a] [.ref a] (fun v _ => v = .bl true) (fun _ _ _ => False) hr rfl e0 hbs (.cons rfl .nil)
      ⟨fun _ => False, [], [], [.d (.list (ns.map .int))], ⟨rfl, List.nodup_nil, fun l ds b e => by simp at e, fun l ds b e => by simp at e, fun b z => z.elim⟩, .cons (Rp.lst hS (intR ns)) .nil, by rw [hp]; rfl, ?_⟩) fun r s' h => ?_
    · rw [ev]
      intro H' M' A' f' R' u hu
      cases (show Rp K H' M' (.bool true) u from hu)
      rfl
    · cases r with
      | error e =>
        obtain ⟨_, _, _, _, _, _, _, _, _, _, _, _, z⟩ := h
        exact z.elim
      | ok fl =>
        cases fl with
        | next => exact False.elim h
        | brk => exact False.elim h
        | cont => exact False.elim h
        | ret u =>
          obtain ⟨v, H', os, bare, un, hok', r', q⟩ := h
          have q' : v = .bl true := q
          subst q'
          obtain rfl : u = Value.bool true := r'
          refine ⟨rfl, OldK.of_keep fun b o e => ?_, os, bare⟩
          cases q : H b with
          | none => exact un.keep b o e q (by intro z; exact absurd (show b ∈ ([] : List Addr) from z) (by simp)) (by simp)
          | some u =>
            obtain ⟨rfl, h2, _⟩ := hH b (by rw [q]; simp)
            have z2 := un.frzs b _ _ h2
            obtain ⟨e2, _⟩ := hok' b _ z2
            rw [ha] at e; cases e
            exact e2
  cases hk : K.lookup a with
  | some o =>
    have e := KX a o hk
    rw [ha] at e
    cases e
    refine core (fun _ => none) (fun b z => absurd rfl z) ⟨.inr (.inr ⟨_, vs.toArray, _, hk, rfl, rfl, rfl, by rw [List.size_toArray, hi.length]; exact hlen, by simpa using rv⟩), by rw [List.length_map]; exact hl⟩
  | none =>
    refine core (fun b => if b = a then some (.frz { cls := .type "list", data := .seq vs.toArray } (.lst (ns.map V.int))) else none) (fun b z => ?_) ⟨.inl ⟨.inr ⟨_, if_pos rfl⟩, fun z => z⟩, by rw [List.length_map]; exact hl⟩
    by_cases hb : b = a
    · exact ⟨hb, if_pos hb, hk⟩
    · exact absurd (if_neg hb) z
/-- a law over a head by facts -/
theorem walk_ev {l : PySem.W.OpenLaw} {n k f : Nat} {q : Program} {loose : List Str} {XP : (Str → Option Value) → Heap → Prop} {YP : World → Heap → Prop} {dr : DefRec} {d : FD} {x : Str}
    (hn : l.most = some n) (hn2 : n ≤ SZ) (hdf : dr.params.defaults = []) (hr : Room k callerA) (hd : D.T f = some d) (hp : d.N.take d.np = [x]) (hnm : dr.name = D.nm f d)
    (F : ∀ (w : World) (mg : Str → Option Value) (h : Heap), YP w h → h.Ns mainGlobals mg → ∃ K : PySem.W.Frag, K.In h ∧ LawOk D K mg)
    (ev : ∀ ns : List Int, ns.length ≤ n → ∃ S, evCall D.T k f [.d (.list (ns.map .int))] [] = .ok (.d (.bool true)) S) :
    PySem.W.WalkO q loose XP YP l.row.toRowW dr [] (fun f vs => PySem.call f vs) := by
  refine Att.attach_call hn hdf fun w s₀ s₁ mg mb fa o pm cd doc a vs ns G Y ho hd' hcd hmg hobj hints hlen hg => ?_
  obtain ⟨K, KX, L⟩ := F w mg _ Y G.T.g
  rw [hnm] at hmg
  exact law_end L hd hp hr (ev ns hlen) KX G.T.g G.T.b G.T.builtins G.T.nolimit hg hmg hobj hints (Nat.le_trans hlen hn2)
end
end KA
/-! KALaw: a law's text by facts. -/
namespace KA
open PySem PySem.Spec PyProof.Rows L2
theorem look_mem {α β : Type} [BEq α] [LawfulBEq α] {x : α} {v : β} : ∀ {l : List (α × β)}, l.lookup x = some v → (x, v) ∈ l
  | [], h => by cases h
  | (y, u) :: r, h => by
    rw [List.lookup_cons] at h
    cases e : x == y with
    | true =>
      rw [e] at h
      cases h
      rw [eq_of_beq e]
      exact List.mem_cons_self
    | false =>
      rw [e] at h
      exact List.mem_cons_of_mem _ (look_mem h)
theorem all0 {α : Type} {p : α → Prop} : ∀ y ∈ ([] : List α), p y := by simp
theorem allc {α : Type} {p : α → Prop} {a : α} {l : List α} (h : p a) (t : ∀ y ∈ l, p y) : ∀ y ∈ a :: l, p y := List.forall_mem_cons.mpr ⟨h, t⟩
/-- a table of defs -/
def tabOf (l : List (Nat × FD)) : Tab := fun f => l.lookup f
def domOf (l : List (Nat × FD)) (C : List (Str × PD)) (B : List Str) (KW : List (Nat × List Str)) (al : List (Nat × Str)) (xs : List Str) : Dom := ⟨tabOf l, C, B, KW, al, xs⟩
def ConOk (K : PySem.W.Frag) (mg : Str → Option Value) (q : Str × PD) : Prop := ∃ u v, mg q.1 = some u ∧ RelV v u ∧ ∀ H M, Rp K H M q.2 v
theorem con_int {K : PySem.W.Frag} {mg : Str → Option Value} {x : Str} {i : Int} (h : ∃ t, mg x = some (.int i t)) : ConOk K mg (x, .int i) := let ⟨t, e⟩ := h; ⟨_, .int i, e, ⟨t, rfl⟩, fun _ _ => .int i⟩
theorem con_str {K : PySem.W.Frag} {mg : Str → Option Value} {x i : Str} (h : ∃ t, mg x = some (.str i t)) : ConOk K mg (x, .str i) := let ⟨t, e⟩ := h; ⟨_, .str i, e, ⟨t, rfl⟩, fun _ _ => .str i⟩
theorem const_eq {D : Dom} {x : Str} {d : PD} (h : D.const x d = true) : D.C.lookup x = some d := by
  unfold Dom.const at h
  split at h
  · rename_i e
    rw [e, of_decide_eq_true h]
  · rename_i e
    rw [e, of_decide_eq_true h]
  · cases h
/-- the errors' classes by one Bool -/
def clsB (K : PySem.W.Frag) (C : Addr) : Bool := PySem.W.excIn K C He.veBase "ValueError.__new__" && (PySem.W.keepIn K (.ref C) && (decide (PySem.W.subIn K (.ref C) (.type "BaseException") = some true) && (decide (PySem.W.typeIn K (.ref C) = some (.type "type")) &&
  (decide (PySem.W.kitOne K (.ref C) (.type "ValueError") = some true) && (He.eqO (PySem.W.findIn K (.ref C) "__getattribute__") (some (some (.builtin "BaseException.__getattribute__"))) && (He.eqO (PySem.W.findIn K (.ref C) "__getattr__") (some none) &&
  (PySem.W.hasDictIn K C && (He.eqO (PySem.W.findIn K (.ref C) "__class__") (some (some (.builtin "object.__class__"))) && (He.eqO (PySem.W.specialIn K (.builtin "object.__class__") "__get__") (some (some (.builtin "getset_descriptor.__get__"))) &&
  (decide (PySem.W.takesIn K (.builtin "object.__class__") = some true) && decide (PySem.W.mroIn K C (.type "object") = some true)))))))))))
def exB (xs : List Str) (K : PySem.W.Frag) : Bool := xs.all fun x => clsB K (He.ga K x) && xs.all fun y => decide (PySem.W.exmOne K (.ref (He.ga K x)) (.ref (He.ga K y)) = some (isSub x y)) && decide (PySem.W.kitOne K (.ref (He.ga K x)) (.ref (He.ga K y)) = some (isSub x y))
theorem exF_of {K : PySem.W.Frag} {mg : Str → Option Value} {xs : List Str} (hg : ∀ x ∈ xs, mg x = some (.ref (He.ga K x))) (hn : ∀ x ∈ EXN.filter (fun x => !decide (x ∈ xs)), mg x = none) (hx : exB xs K = true) : ExF K mg := by
  have mem : ∀ x ∈ EXN, ∀ c, mg x = some c → x ∈ xs ∧ c = .ref (He.ga K x) := fun x h c e => by
    by_cases q : x ∈ xs
    · rw [hg x q] at e
      exact ⟨q, (Option.some.inj e).symm⟩
    · rw [hn x (List.mem_filter.mpr ⟨h, by simpa using q⟩)] at e
      cases e
  refine ⟨fun x h c e => ?_, fun x h y h' c d e e' => ?_⟩
  · obtain ⟨q, rfl⟩ := mem x h c e
    have h1 := (ba (List.all_eq_true.mp hx x q)).1
    obtain ⟨a1, h1⟩ := ba h1
    obtain ⟨a2, h1⟩ := ba h1
    obtain ⟨a3, h1⟩ := ba h1
    obtain ⟨a4, h1⟩ := ba h1
    obtain ⟨a5, h1⟩ := ba h1
    obtain ⟨a6, h1⟩ := ba h1
    obtain ⟨a7, h1⟩ := ba h1
    obtain ⟨a8, h1⟩ := ba h1
    obtain ⟨a9, h1⟩ := ba h1
    obtain ⟨a10, h1⟩ := ba h1
    obtain ⟨a11, a12⟩ := ba h1
    exact ⟨_, rfl, a1, a2, of_decide_eq_true a3, of_decide_eq_true a4, ⟨He.eqO_ok a6, He.eqO_ok a7, of_decide_eq_true a3, a8, He.eqO_ok a9, He.eqO_ok a10, of_decide_eq_true a11, of_decide_eq_true a12⟩, of_decide_eq_true a5⟩
  · obtain ⟨q, rfl⟩ := mem x h c e
    obtain ⟨q', rfl⟩ := mem y h' d e'
    obtain ⟨h2, h3⟩ := ba (List.all_eq_true.mp (ba (List.all_eq_true.mp hx x q)).2 y q')
    exact ⟨of_decide_eq_true h2, of_decide_eq_true h3⟩
theorem lawOk_of {K : PySem.W.Frag} {mg : Str → Option Value} {l : List (Nat × FD)} {C : List (Str × PD)} {B : List Str} {KW : List (Nat × List Str)} {al : List (Nat × Str)} {xs : List Str} (hl : ∀ p ∈ l, DfOk (domOf l C B KW al xs) K mg p.1 p.2) (hB : ∀ x ∈ B, mg x = none) (hC : ∀ q ∈ C, ConOk K mg q)
    (hg : ∀ x ∈ xs, mg x = some (.ref (He.ga K x))) (hn : ∀ x ∈ EXN.filter (fun x => !decide (x ∈ xs)), mg x = none) (hx : exB xs K = true) (hs : ∀ x ∈ xs, x ∈ EXN) : LawOk (domOf l C B KW al xs) K mg where
  defs := fun f d h => hl (f, d) (look_mem h)
  blt := fun x h => hB x (List.contains_iff_mem.mp h)
  con := fun x d h => hC (x, d) (look_mem (const_eq h))
  exc := exF_of hg hn hx
  hasX := fun x h => have q : x ∈ xs := List.contains_iff_mem.mp h; ⟨hs x q, _, hg x q⟩
/-- a head by facts and one more Bool -/
def obsE (n : Nat) (fa : List He.Fa) (fn : List He.DefD) (ex : PySem.W.Frag → Bool) (g : Addr → Option Obj) : He.AlD × Bool := (He.obsD fa fn (He.frG g (He.asD g n)), ex (He.frG g (He.asD g n)))
def hookE (n : Nat) (fa : List He.Fa) (fn : List He.DefD) (ex : PySem.W.Frag → Bool) : PySem.W.Hook where
  α := He.AlD × Bool
  obs := fun s => obsE n fa fn ex s.heap.get?
  val := fun _ => (He.valD fn, true)
  says := fun _ h => ∃ K : PySem.W.Frag, K.In h ∧ He.SaysD fa fn K ∧ ex K = true
  of := fun _ _ e => ⟨_, He.frG_in, congrArg Prod.fst e, congrArg Prod.snd e⟩
  keeps := fun _ _ _ ⟨K, hK, c⟩ k => ⟨K, PySem.W.Frag.In.keeps hK k, c⟩
theorem obsE_eq {n : Nat} {fa : List He.Fa} {fn : List He.DefD} {ex : PySem.W.Frag → Bool} {g : Addr → Option Obj} {s : Shared} (h : ∀ a, g a = s.heap.get? a) : obsE n fa fn ex g = (hookE n fa fn ex).obs s := by
  rw [show g = s.heap.get? from funext h]
  rfl
/-- keywords: every way a def is called by them -/
theorem kw_all {KW : List (Nat × List Str)} {f : Nat} {kf : List (List Str)} {p : List Str → Prop} (e : (KW.filterMap fun q => if q.1 = f then some q.2 else none) = kf) (h : ∀ ks ∈ kf, p ks) : ∀ ks, KW.contains (f, ks) = true → p ks := fun ks hk => by
  refine h ks ?_
  rw [← e]
  exact List.mem_filterMap.mpr ⟨(f, ks), List.contains_iff_mem.mp hk, by simp⟩
/-- a def is called by keywords -/
theorem kwB_of {K : PySem.W.Frag} {x qual : Str} {params : Arguments} {body : List Stmt} {scope : Scope} {f : Addr} {fd : FuncData} {ps ks : List Str} (F : FunD K x qual params body scope [] [] f fd) (hs : ∀ p ∈ ps, p ∈ ks)
    (h : ∀ (kV doc pm : Value) (an : Option Addr) (cdv ct : Value) (ws : List Value), ws.length = ks.length → bindArgs (PySem.W.fnOf x qual params body scope .none kV doc pm an cdv ct) ⟨[], ks.zip ws⟩ = pure (ps.zip (kwG ps ks ws))) : KwB K fd ps ks := by
  obtain ⟨oc, od, dV, kV, doc, pm, an, cdv, ct, osl, rfl, lk, hcd, hD, hK⟩ := F.ex
  rcases hD with ⟨_, rfl⟩ | ⟨e, _⟩
  · exact ⟨hs, fun s ws _ hl => .of_eq (h kV doc pm an cdv ct ws hl)⟩
  · exact absurd rfl e
end KA
/-! KB0: the evaluator by values: names hold lists, draws are any numbers. -/
namespace KB
open PySem KA

/-- what a name holds: data; a list of its own that may be changed; a list that is only lent; a feed; an exception -/
inductive VB where
  | d (x : PD)
  | own (ds : List PD)
  | bor (ds : List PD)
  | feed
  | ex (e : Ex)
abbrev SgB := List (Option VB)
/-- an evaluation's ends, by what is drawn -/
inductive B (α : Type) where
  | ret (a : α)
  | exc (e : Ex)
  | bad
  | draw (m : Int) (k : Int → B α)
namespace B
variable {α β : Type}
def bind : B α → (α → B β) → B β
  | .ret a, f => f a
  | .exc e, _ => .exc e
  | .bad, _ => .bad
  | .draw m k, f => .draw m fun i => (k i).bind f
/-- no exception may leave -/
def bindN : B α → (α → B β) → B β
  | .ret a, f => f a
  | .exc _, _ => .bad
  | .bad, _ => .bad
  | .draw m k, f => .draw m fun i => (k i).bindN f
@[simp] theorem bind_ret (a : α) (f : α → B β) : (B.ret a).bind f = f a := Eq.trans rfl rfl
@[simp] theorem bind_exc (e : Ex) (f : α → B β) : (B.exc e : B α).bind f = .exc e := Eq.trans rfl rfl
@[simp] theorem bind_bad (f : α → B β) : (B.bad : B α).bind f = .bad := Eq.trans rfl rfl
@[simp] theorem bind_draw (m : Int) (k : Int → B α) (f : α → B β) : (B.draw m k).bind f = .draw m fun i => (k i).bind f := Eq.trans rfl rfl
@[simp] theorem bindN_ret (a : α) (f : α → B β) : (B.ret a).bindN f = f a := Eq.trans rfl rfl
@[simp] theorem bindN_bad (f : α → B β) : (B.bad : B α).bindN f = .bad := Eq.trans rfl rfl
@[simp] theorem bindN_draw (m : Int) (k : Int → B α) (f : α → B β) : (B.draw m k).bindN f = .draw m fun i => (k i).bindN f := Eq.trans rfl rfl
def opt : Option α → B α
  | some a => .ret a
  | none => .bad
@[simp] theorem opt_some (a : α) : opt (some a) = .ret a := Eq.trans rfl rfl
@[simp] theorem opt_none : (opt none : B α) = .bad := Eq.trans rfl rfl
end B
def VB.lend : VB → VB
  | .own x => .bor x
  | v => v
@[simp] theorem lend_d (x : PD) : (VB.d x).lend = .d x := Eq.trans rfl rfl
@[simp] theorem lend_own (x : List PD) : (VB.own x).lend = .bor x := Eq.trans rfl rfl
@[simp] theorem lend_bor (x : List PD) : (VB.bor x).lend = .bor x := Eq.trans rfl rfl
@[simp] theorem lend_feed : VB.feed.lend = .feed := Eq.trans rfl rfl
@[simp] theorem lend_ex (e : Ex) : (VB.ex e).lend = .ex e := Eq.trans rfl rfl
def rd : VB → Option PD
  | .d x => some x
  | .own ds => some (.list ds)
  | .bor ds => some (.list ds)
  | _ => none
@[simp] theorem rd_d (x : PD) : rd (.d x) = some x := Eq.trans rfl rfl
@[simp] theorem rd_own (x : List PD) : rd (.own x) = some (.list x) := Eq.trans rfl rfl
@[simp] theorem rd_bor (x : List PD) : rd (.bor x) = some (.list x) := Eq.trans rfl rfl
def esc : VB → B PD
  | .d x => .ret x
  | _ => .bad
@[simp] theorem esc_d (x : PD) : esc (.d x) = .ret x := Eq.trans rfl rfl
/-- what is walked -/
def srcB : VB → B PD
  | .d x => .ret x
  | .own ds => .ret (.list ds)
  | .bor ds => .ret (.list ds)
  | _ => .bad
@[simp] theorem srcB_d (x : PD) : srcB (.d x) = .ret x := Eq.trans rfl rfl
@[simp] theorem srcB_own (x : List PD) : srcB (.own x) = .ret (.list x) := Eq.trans rfl rfl
@[simp] theorem srcB_bor (x : List PD) : srcB (.bor x) = .ret (.list x) := Eq.trans rfl rfl
def op1 {β : Type} (f : PD → Option β) (v : VB) : B β := match rd v with
  | some x => B.opt (f x)
  | none => .bad
def op2 {β : Type} (f : PD → PD → Option β) (v w : VB) : B β := match rd v, rd w with
  | some x, some y => B.opt (f x y)
  | _, _ => .bad
@[simp] theorem op1_d {β : Type} (f : PD → Option β) (x : PD) : op1 f (.d x) = B.opt (f x) := Eq.trans rfl rfl
@[simp] theorem op1_own {β : Type} (f : PD → Option β) (x : List PD) : op1 f (.own x) = B.opt (f (.list x)) := Eq.trans rfl rfl
@[simp] theorem op1_bor {β : Type} (f : PD → Option β) (x : List PD) : op1 f (.bor x) = B.opt (f (.list x)) := Eq.trans rfl rfl
@[simp] theorem op2_d {β : Type} (f : PD → PD → Option β) (x y : PD) : op2 f (.d x) (.d y) = B.opt (f x y) := Eq.trans rfl rfl
@[simp] theorem op2_bd {β : Type} (f : PD → PD → Option β) (x : List PD) (y : PD) : op2 f (.bor x) (.d y) = B.opt (f (.list x) y) := Eq.trans rfl rfl
@[simp] theorem op2_db {β : Type} (f : PD → PD → Option β) (x : PD) (y : List PD) : op2 f (.d x) (.bor y) = B.opt (f x (.list y)) := Eq.trans rfl rfl
@[simp] theorem op2_bb {β : Type} (f : PD → PD → Option β) (x : List PD) (y : List PD) : op2 f (.bor x) (.bor y) = B.opt (f (.list x) (.list y)) := Eq.trans rfl rfl
def rds : List VB → Option (List PD)
  | [] => some []
  | v :: vs => match rd v, rds vs with
    | some x, some xs => some (x :: xs)
    | _, _ => none
@[simp] theorem rds_nil : rds [] = some [] := Eq.trans rfl rfl
@[simp] theorem rds_d (x : PD) (vs : List VB) : rds (.d x :: vs) = (rds vs).map (x :: ·) := by
  rw [rds]
  cases rds vs <;> rfl
@[simp] theorem rds_bor (x : List PD) (vs : List VB) : rds (.bor x :: vs) = (rds vs).map (.list x :: ·) := by
  rw [rds]
  cases rds vs <;> rfl
@[simp] theorem rds_own (x : List PD) (vs : List VB) : rds (.own x :: vs) = (rds vs).map (.list x :: ·) := by
  rw [rds]
  cases rds vs <;> rfl
def newM (m : Bool) (d : PD) : B VB := match m, d with
  | false, d => .ret (.d d)
  | true, .list ds => .ret (.own ds)
  | true, _ => .bad
@[simp] theorem newM_false (d : PD) : newM false d = .ret (.d d) := by cases d <;> rfl
@[simp] theorem newM_true (ds : List PD) : newM true (.list ds) = .ret (.own ds) := Eq.trans rfl rfl
def bltV (b : Bn) (xs : List PD) : B VB := match b with
  | .listM => (B.opt (bltD .list_ xs)).bind fun z => newM true z
  | b => (B.opt (bltD b xs)).bind fun z => .ret (.d z)
def bltVs (b : Bn) (vs : List VB) : B VB := match rds vs with
  | none => .bad
  | some xs => bltV b xs
def bindTg : Tg → PD → SgB → Option SgB
  | .nm i, x, σ => some (σ.set i (some (.d x)))
  | .tp is, .tuple xs, σ => if xs.length = is.length then some ((is.zip xs).foldl (fun σ p => σ.set p.1 (some (.d p.2))) σ) else none
  | .tp _, _, _ => none
def wipeD (σ : SgB) : List Nat → SgB
  | [] => σ
  | v :: vs => (wipeD σ vs).set v none
def loopC (f : PD → B (Option PD)) : List PD → List PD → B (List PD)
  | [], acc => .ret acc
  | x :: xs, acc => (f x).bindN fun o => match o with
    | none => loopC f xs acc
    | some y => if acc.length < SZ then loopC f xs (acc ++ [y]) else .bad
def loopC2 (f : PD → List PD → B (List PD)) : List PD → List PD → B (List PD)
  | [], acc => .ret acc
  | x :: xs, acc => (f x acc).bindN fun acc' => loopC2 f xs acc'
def keyArgs (ps ks : List Str) (vs : List VB) : Option (List VB) := ps.mapM fun p => (ks.zip vs).lookup p
/-- a list that is no longer than the longest -/
def chkL (xs : List PD) : B (List PD) := if xs.length ≤ SZ then .ret xs else .bad
/-- methods that change a list -/
def methL (m : Str) (ds : List PD) (vs : List PD) : Option (PD × List PD) :=
  if m = "append" then match vs with
    | [x] => if ds.length < SZ then some (.none, ds ++ [x]) else none
    | _ => none
  else if m = "extend" then match vs with
    | [.list xs] => if ds.length + xs.length ≤ SZ then some (.none, ds ++ xs) else none
    | _ => none
  else if m = "pop" then match vs with
    | [.int i] => popAt ds i
    | _ => none
  else none
def isinB (ts : List Tn) : VB → B Bool
  | .ex e => B.opt (isinX e ts)
  | v => op1 (fun x => isinD x ts) v
@[simp] theorem isinB_d (ts : List Tn) (x : PD) : isinB ts (.d x) = B.opt (isinD x ts) := Eq.trans rfl rfl
@[simp] theorem isinB_b (ts : List Tn) (x : List PD) : isinB ts (.bor x) = B.opt (isinD (.list x) ts) := Eq.trans rfl rfl
@[simp] theorem isinB_o (ts : List Tn) (x : List PD) : isinB ts (.own x) = B.opt (isinD (.list x) ts) := Eq.trans rfl rfl
@[simp] theorem isinB_x (ts : List Tn) (e : Ex) : isinB ts (.ex e) = B.opt (isinX e ts) := Eq.trans rfl rfl
def isNonB : VB → Bool
  | .d .none => true
  | _ => false
@[simp] theorem isNonB_none : isNonB (.d .none) = true := Eq.trans rfl rfl
@[simp] theorem isNonB_bool (b : Bool) : isNonB (.d (.bool b)) = false := Eq.trans rfl rfl
@[simp] theorem isNonB_int (b : Int) : isNonB (.d (.int b)) = false := Eq.trans rfl rfl
@[simp] theorem isNonB_str (b : Str) : isNonB (.d (.str b)) = false := Eq.trans rfl rfl
@[simp] theorem isNonB_list (b : List PD) : isNonB (.d (.list b)) = false := Eq.trans rfl rfl
@[simp] theorem isNonB_tuple (b : List PD) : isNonB (.d (.tuple b)) = false := Eq.trans rfl rfl
@[simp] theorem isNonB_own (b : List PD) : isNonB (.own b) = false := Eq.trans rfl rfl
@[simp] theorem isNonB_bor (b : List PD) : isNonB (.bor b) = false := Eq.trans rfl rfl
@[simp] theorem isNonB_ex (b : Ex) : isNonB (.ex b) = false := Eq.trans rfl rfl
variable (call : Nat → List VB → B VB) (par : Nat → List Str)
mutual
@[simp] def evE (σ : SgB) : CE → B VB
  | .var i => match σ[i]? with
    | some (some v) => .ret v.lend
    | _ => .bad
  | .con d => .ret (.d d)
  | .gcon _ d => .ret (.d d)
  | .bin op a b => (evE σ a).bind fun v => (evE σ b).bind fun w => (op2 (binD op) v w).bind fun z => .ret (.d z)
  | .neg a => (evE σ a).bind fun v => (op1 negD v).bind fun z => .ret (.d z)
  | .bnot a => (evE σ a).bind fun v => (op1 boolD v).bind fun b => .ret (.d (.bool !b))
  | .band as => evAnd σ as
  | .bor as => evOr σ as
  | .seteq a b => (evE σ a).bind fun v => (op1 intsL v).bind fun ns => (evE σ b).bind fun w => (op1 intsL w).bind fun ms => .ret (.d (.bool (seqI ns ms)))
  | .ifx t a b => (evT σ t).bind fun c => if c = true then evE σ a else evE σ b
  | .cmp op a b => (evE σ a).bind fun v => (evE σ b).bind fun w => (op2 (cmpD op) v w).bind fun z => .ret (.d (.bool z))
  | .cmp2 o1 o2 a b c => (evE σ a).bind fun v => (evE σ b).bind fun w => (op2 (cmpD o1) v w).bind fun k =>
      if k = true then (evE σ c).bind fun x => (op2 (cmpD o2) w x).bind fun k => .ret (.d (.bool k)) else .ret (.d (.bool false))
  | .isn neg a => (evE σ a).bind fun v => .ret (.d (.bool (isNonB v != neg)))
  | .call f as => (evEs σ as).bind fun vs => call f vs
  | .callk f ks as => (evEs σ as).bind fun vs => (B.opt (keyArgs (par f) ks vs)).bind fun vs => call f vs
  | .blt b as => (evEs σ as).bind fun vs => bltVs b vs
  | .isin a ts => (evE σ a).bind fun v => (isinB ts v).bind fun z => .ret (.d (.bool z))
  | .meth _ _ _ => .bad
  | .sub a i => (evE σ a).bind fun v => (evE σ i).bind fun w => (op2 subD v w).bind fun z => .ret (.d z)
  | .slc a lo hi => (evE σ a).bind fun v => (evO σ lo).bind fun l => (evO σ hi).bind fun h => (op1 (fun x => slcD x l h) v).bind fun z => .ret (.d z)
  | .rev a => (evE σ a).bind fun v => (op1 revD v).bind fun z => .ret (.d z)
  | .rom m o as => (evE σ o).bind fun v => (esc v).bind fun x => (evXs σ as).bind fun xs => (B.opt (roD m x xs)).bind fun z => .ret (.d z)
  | .sset a => (evE σ a).bind fun v => (op1 ssetD v).bind fun z => .ret (.d z)
  | .tup es => (evXs σ es).bind fun xs => if xs.length ≤ SZ then .ret (.d (.tuple xs)) else .bad
  | .lst m es => (evXs σ es).bind fun xs => if xs.length ≤ SZ then newM m (.list xs) else .bad
  | .rng t m i => (evI σ i).bind fun xs => if t = true then .ret (.d (.tuple xs)) else newM m (.list xs)
  | .comp m elt (.mk tg it c) => (evI σ it).bind fun items =>
      (loopC (fun x => (B.opt (bindTg tg x (wipeD σ tg.slots))).bind fun σ' => (evC σ' c).bind fun k =>
        if k = true then ((evE σ' elt).bind esc).bind fun y => .ret (some y) else .ret none) items []).bind fun ds => newM m (.list ds)
  | .comp2 m elt (.mk tg it c) (.mk tg1 it1 c1) => (evI σ it).bind fun items =>
      (loopC2 (fun x acc => (B.opt (bindTg tg x (wipeD σ (tg.slots ++ tg1.slots)))).bind fun σ' => (evC σ' c).bind fun k =>
        if k = true then (evI σ' it1).bind fun items1 =>
          loopC (fun x => (B.opt (bindTg tg1 x (wipeD σ' tg1.slots))).bind fun σ2 => (evC σ2 c1).bind fun k =>
            if k = true then ((evE σ2 elt).bind esc).bind fun y => .ret (some y) else .ret none) items1 acc
        else .ret acc) items []).bind fun ds => newM m (.list ds)
@[simp] def evEs (σ : SgB) : CEs → B (List VB)
  | .nil => .ret []
  | .cons e es => (evE σ e).bind fun v => (evEs σ es).bind fun vs => .ret (v :: vs)
@[simp] def evXs (σ : SgB) : CEs → B (List PD)
  | .nil => .ret []
  | .cons e es => ((evE σ e).bind esc).bind fun v => (evXs σ es).bind fun vs => .ret (v :: vs)
@[simp] def evAnd (σ : SgB) : CEs → B VB
  | .nil => .bad
  | .cons e .nil => evE σ e
  | .cons e es => (evE σ e).bind fun v => (op1 boolD v).bind fun b => if b = true then evAnd σ es else .ret (.d (.bool false))
@[simp] def evOr (σ : SgB) : CEs → B VB
  | .nil => .bad
  | .cons e .nil => evE σ e
  | .cons e es => (evE σ e).bind fun v => (op1 boolD v).bind fun b => if b = true then .ret (.d (.bool true)) else evOr σ es
def evT (σ : SgB) : CE → B Bool
  | .bnot a => (evT σ a).bind fun b => .ret (!b)
  | .band as => evTAnd σ as
  | .bor as => evTOr σ as
  | .ifx _ _ _ => .bad
  | .seteq _ _ => .bad
  | e => (evE σ e).bind fun v => op1 truthD v
@[simp] def evTAnd (σ : SgB) : CEs → B Bool
  | .nil => .bad
  | .cons e .nil => evT σ e
  | .cons e es => (evT σ e).bind fun b => if b = true then evTAnd σ es else .ret false
@[simp] def evTOr (σ : SgB) : CEs → B Bool
  | .nil => .bad
  | .cons e .nil => evT σ e
  | .cons e es => (evT σ e).bind fun b => if b = true then .ret true else evTOr σ es
@[simp] def evC (σ : SgB) : CO → B Bool
  | .none => .ret true
  | .some e => evT σ e
@[simp] def evO (σ : SgB) : CO → B (Option Int)
  | .none => .ret none
  | .some e => (evE σ e).bind fun v => (op1 intD v).bind fun i => .ret (some i)
@[simp] def evI (σ : SgB) : CI → B (List PD)
  | .seq e => (evE σ e).bind fun v => (srcB v).bind fun x => (B.opt (itemsD x)).bind chkL
  | .rng e => (evE σ e).bind fun v => (op1 intD v).bind fun n => if rngOk 0 n = true then .ret (rngD 0 n) else .bad
  | .rng2 a b => (evE σ a).bind fun v => (evE σ b).bind fun w => (op1 intD v).bind fun i => (op1 intD w).bind fun j => if rngOk i j = true then .ret (rngD i j) else .bad
  | .enum e => (evE σ e).bind fun v => (srcB v).bind fun x => (B.opt (itemsD x)).bind fun xs => (chkL xs).bind fun xs => .ret (enumD 0 xs)
  | .zip a b => (evE σ a).bind fun v => (srcB v).bind fun x => (evE σ b).bind fun w => (srcB w).bind fun y => (B.opt (zipP x y)).bind chkL
  | .zip3 a b c => (evE σ a).bind fun v => (esc v).bind fun x => (evE σ b).bind fun w => (esc w).bind fun y => (evE σ c).bind fun u => (esc u).bind fun z => (B.opt (zip3P x y z)).bind chkL
end
/-- what a loop of statements walks: data -/
@[simp] def evIs (σ : SgB) : CI → B (List PD)
  | .seq e => (evE call par σ e).bind fun v => (esc v).bind fun x => (B.opt (itemsD x)).bind chkL
  | .enum e => (evE call par σ e).bind fun v => (esc v).bind fun x => (B.opt (itemsD x)).bind fun xs => (chkL xs).bind fun xs => .ret (enumD 0 xs)
  | .zip a b => (evE call par σ a).bind fun v => (esc v).bind fun x => (evE call par σ b).bind fun w => (esc w).bind fun y => (B.opt (zipP x y)).bind chkL
  | .zip3 a b c => (evE call par σ a).bind fun v => (esc v).bind fun x => (evE call par σ b).bind fun w => (esc w).bind fun y => (evE call par σ c).bind fun u => (esc u).bind fun z => (B.opt (zip3P x y z)).bind chkL
  | .rng e => (evE call par σ e).bind fun v => (op1 intD v).bind fun n => if rngOk 0 n = true then .ret (rngD 0 n) else .bad
  | .rng2 a b => (evE call par σ a).bind fun v => (evE call par σ b).bind fun w => (op1 intD v).bind fun i => (op1 intD w).bind fun j => if rngOk i j = true then .ret (rngD i j) else .bad
/-! ### statements -/
inductive St where
  | nx (σ : SgB)
  | rt (v : VB)
  | ex (e : Ex) (σ : SgB)
def bindS (b : B St) (f : SgB → B St) : B St := b.bind fun r => match r with
  | .nx σ => f σ
  | r => .ret r
def thenS {α : Type} : B α → SgB → (α → B St) → B St
  | .ret a, _, f => f a
  | .exc e, σ, _ => .ret (.ex e σ)
  | .bad, _, _ => .bad
  | .draw m k, σ, f => .draw m fun i => thenS (k i) σ f
@[simp] theorem bindS_nx (σ : SgB) (f : SgB → B St) : bindS (.ret (.nx σ)) f = f σ := Eq.trans rfl rfl
@[simp] theorem bindS_rt (v : VB) (f : SgB → B St) : bindS (.ret (.rt v)) f = .ret (.rt v) := Eq.trans rfl rfl
@[simp] theorem bindS_ex (e : Ex) (σ : SgB) (f : SgB → B St) : bindS (.ret (.ex e σ)) f = .ret (.ex e σ) := Eq.trans rfl rfl
@[simp] theorem bindS_bad (f : SgB → B St) : bindS .bad f = .bad := Eq.trans rfl rfl
@[simp] theorem bindS_draw (m : Int) (k : Int → B St) (f : SgB → B St) : bindS (.draw m k) f = .draw m fun i => bindS (k i) f := Eq.trans rfl rfl
section
variable {α : Type}
@[simp] theorem thenS_ret (a : α) (σ : SgB) (f : α → B St) : thenS (.ret a) σ f = f a := Eq.trans rfl rfl
@[simp] theorem thenS_exc (e : Ex) (σ : SgB) (f : α → B St) : thenS (.exc e) σ f = .ret (.ex e σ) := Eq.trans rfl rfl
@[simp] theorem thenS_bad (σ : SgB) (f : α → B St) : thenS .bad σ f = .bad := Eq.trans rfl rfl
@[simp] theorem thenS_draw (m : Int) (k : Int → B α) (σ : SgB) (f : α → B St) : thenS (.draw m k) σ f = .draw m fun i => thenS (k i) σ f := Eq.trans rfl rfl
end
def loopF (f : PD → SgB → B St) : List PD → SgB → B St
  | [], σ => .ret (.nx σ)
  | x :: xs, σ => bindS (f x σ) fun σ => loopF f xs σ
def loopW (t : SgB → B Bool) (f : SgB → B St) : Nat → SgB → B St
  | 0, _ => .bad
  | n + 1, σ => thenS (t σ) σ fun b => if b = true then bindS (f σ) fun σ => loopW t f n σ else .ret (.nx σ)
/-- what may be held by a name: not what is lent -/
def keep : VB → B VB
  | .bor _ => .bad
  | v => .ret v
@[simp] theorem keep_d (x : PD) : keep (.d x) = .ret (.d x) := Eq.trans rfl rfl
@[simp] theorem keep_own (x : List PD) : keep (.own x) = .ret (.own x) := Eq.trans rfl rfl
@[simp] theorem keep_feed : keep .feed = .ret .feed := Eq.trans rfl rfl
@[simp] theorem keep_ex (e : Ex) : keep (.ex e) = .ret (.ex e) := Eq.trans rfl rfl
def keeps : List VB → B (List VB)
  | [] => .ret []
  | v :: vs => (keep v).bind fun v => (keeps vs).bind fun vs => .ret (v :: vs)
/-- a value that is handed out: a name's own list goes with it -/
@[simp] def evM (σ : SgB) : CE → B VB
  | .var i => match σ[i]? with
    | some (some v) => .ret v
    | _ => .bad
  | e => evE call par σ e
/-- pop of a name's own list, else an expression -/
@[simp] def evP1 (σ : SgB) : CE → B (PD × SgB)
  | .meth m (.var j) as => match σ[j]? with
    | some (some (.own ds)) => (evXs call par σ as).bind fun xs => (B.opt (methL m ds xs)).bind fun r => .ret (r.1, σ.set j (some (.own r.2)))
    | _ => .bad
  | e => ((evE call par σ e).bind esc).bind fun x => .ret (x, σ)
/-- a method's arguments -/
@[simp] def evP (σ : SgB) : CEs → B (List PD × SgB)
  | .cons e .nil => (evP1 call par σ e).bind fun r => .ret ([r.1], r.2)
  | es => (evXs call par σ es).bind fun xs => .ret (xs, σ)
/-- a value for a name -/
@[simp] def evSet (σ : SgB) : CE → B (VB × SgB)
  | .var j => match σ[j]? with
    | some (some (.own ds)) => .ret (.own ds, σ.set j none)
    | some (some v) => (keep v).bind fun v => .ret (v, σ)
    | _ => .bad
  | .meth m (.var j) as => (evP1 call par σ (.meth m (.var j) as)).bind fun r => .ret (.d r.1, r.2)
  | e => ((evE call par σ e).bind keep).bind fun v => .ret (v, σ)
/-- a statement that is an expression -/
@[simp] def evX (σ : SgB) : CE → B SgB
  | .meth m (.var i) as => match σ[i]? with
    | some (some (.own _)) => (evP call par σ as).bind fun r => match r.2[i]? with
      | some (some (.own ds)) => (B.opt (methL m ds r.1)).bind fun q => .ret (r.2.set i (some (.own q.2)))
      | _ => .bad
    | _ => .bad
  | e => (evE call par σ e).bind fun _ => .ret σ
mutual
@[simp] def evS : CS → SgB → B St
  | .set i e, σ => thenS (evSet call par σ e) σ fun r => .ret (.nx (r.2.set i (some r.1)))
  | .par is es, σ => thenS ((evEs call par σ es).bind keeps) σ fun vs => if vs.length = is.length then .ret (.nx ((is.zip vs).foldl (fun σ p => σ.set p.1 (some p.2)) σ)) else .bad
  | .unp is e, σ => thenS ((evE call par σ e).bind fun v => op1 some v) σ fun x => match itemsD x with
    | some xs => if xs.length = is.length then .ret (.nx ((is.zip xs).foldl (fun σ p => σ.set p.1 (some (.d p.2))) σ)) else .bad
    | none => .bad
  | .sst o i e, σ => match o with
    | .var j => match σ[j]? with
      | some (some (.own ds)) => thenS ((evE call par σ e).bind esc) σ fun x => thenS ((evE call par σ i).bind fun v => op1 intD v) σ fun k => match L2.ixN ds.length k with
        | some n => .ret (.nx (σ.set j (some (.own (ds.set n x)))))
        | none => .bad
      | _ => .bad
    | _ => .bad
  | .expr e, σ => thenS (evX call par σ e) σ fun σ => .ret (.nx σ)
  | .ret e, σ => thenS (evM call par σ e) σ fun v => .ret (.rt v)
  | .retN, _ => .ret (.rt (.d .none))
  | .ifs t a b, σ => thenS (evT call par σ t) σ fun c => if c = true then evSs a σ else evSs b σ
  | .for_ tg it b, σ => thenS (evIs call par σ it) σ fun items => loopF (fun x σ => match bindTg tg x σ with | some σ => evSs b σ | none => .bad) items σ
  | .whil n t b, σ => loopW (fun σ => evT call par σ t) (fun σ => evSs b σ) n σ
  | .aug i op e, σ => match σ[i]? with
    | some (some v) => thenS (evE call par σ e) σ fun w => thenS (op2 (augD op) v.lend w) σ fun z => .ret (.nx (σ.set i (some (.d z))))
    | _ => .bad
  | .raise_ c _, σ => .ret (.ex ⟨c, []⟩ σ)
  | .try_ b c i j, σ => (evSs b σ).bind fun r => match r with
    | .ex e σ' => if e.c ∈ EXN ∧ c ∈ EXN ∧ isSub e.c c = true then .ret (.nx ((σ'.set j (some (.ex e))).set i none)) else .bad
    | r => .ret r
  | .pass, σ => .ret (.nx σ)
  | .frz i, σ => match σ[i]? with
    | some (some (.own ds)) => .ret (.nx (σ.set i (some (.d (.list ds)))))
    | some (some (.d _)) => .ret (.nx σ)
    | _ => .bad
@[simp] def evSs : CSs → SgB → B St
  | .nil, σ => .ret (.nx σ)
  | .cons s ss, σ => bindS (evS s σ) fun σ => evSs ss σ
end
/-! ### calls -/
def startD (n : Nat) (vs : List VB) : SgB := vs.map (fun v => some v.lend) ++ List.replicate (n - vs.length) none
def finB (m : Bool) : St → B VB
  | .nx _ => .ret (.d .none)
  | .rt (.own ds) => if m = true then .ret (.own ds) else .ret (.d (.list ds))
  | .rt (.d x) => .ret (.d x)
  | .rt (.ex e) => .ret (.ex e)
  | .rt _ => .bad
  | .ex e _ => .exc e
/-- the defs that are known: draws, feeds -/
structure Kn where
  draw : List Nat
  feed : List Nat
def drawB : List VB → B VB
  | [.feed, .d (.int m)] => if m < 18446744073709551616 then .draw m fun i => .ret (.d (.int i)) else .bad
  | _ => .bad
/-- a feed is made of a script and a cell's number -/
def feedB : List VB → B VB
  | [.d (.list ds), .d (.int k)] => match intsD ds with
    | some ns => if 0 ≤ k ∧ k < 1000 ∧ ns.length < 1000 then .ret .feed else .bad
    | none => .bad
  | _ => .bad
def evCall (N : Kn) (T : Tab) : Nat → Nat → List VB → B VB
  | 0, _, _ => .bad
  | k + 1, f, vs => match T f with
    | none => .bad
    | some d => if f ∈ N.draw then drawB vs else if f ∈ N.feed then feedB vs else if vs.length = d.np then (evSs (evCall N T k) (parOf T) d.body (startD d.N.length vs)).bind (finB d.retM) else .bad
end KB
/-! KB1: what the evaluator by values says holds of the evaluator by places: expressions. -/
namespace KB
open PySem KA
/-! ### leaves -/
inductive Leaf (α : Type) where
  | ret (a : α)
  | exc (e : Ex)
  | bad
/-- a leaf that is reached within n draws; what is left of them -/
inductive Rch {α : Type} : Nat → B α → Leaf α → Nat → Prop
  | ret {n : Nat} {a : α} : Rch n (.ret a) (.ret a) n
  | exc {n : Nat} {e : Ex} : Rch n (.exc e) (.exc e) n
  | bad {n : Nat} : Rch n .bad .bad n
  | out {m : Int} {k : Int → B α} : Rch 0 (.draw m k) .bad 0
  | neg {n : Nat} {m : Int} {k : Int → B α} : ¬ 0 < m → Rch n (.draw m k) .bad n
  | draw {n n' : Nat} {m i : Int} {k : Int → B α} {l : Leaf α} : 0 ≤ i → i < m → Rch n (k i) l n' → Rch (n + 1) (.draw m k) l n'
section
variable {α β : Type} {n n1 n2 : Nat} {b : B α} {f : α → B β} {l : Leaf β} {a : α} {e : Ex}
theorem Rch.bind (h : Rch n b (.ret a) n1) (g : Rch n1 (f a) l n2) : Rch n (b.bind f) l n2 := by
  generalize hl : Leaf.ret a = q at h
  induction h with
  | ret => cases hl; exact g
  | exc => cases hl
  | bad => cases hl
  | out => cases hl
  | neg _ => cases hl
  | draw h0 h1 _ ih => exact .draw h0 h1 (ih g hl)
theorem Rch.bind_bad (h : Rch n b .bad n1) : Rch n (b.bind f) .bad n1 := by
  generalize hl : Leaf.bad = q at h
  induction h with
  | ret => cases hl
  | exc => cases hl
  | bad => exact .bad
  | out => exact .out
  | neg h => exact .neg h
  | draw h0 h1 _ ih => exact .draw h0 h1 (ih hl)
theorem Rch.bind_exc (h : Rch n b (.exc e) n1) : Rch n (b.bind f) (.exc e) n1 := by
  generalize hl : Leaf.exc e = q at h
  induction h with
  | ret => cases hl
  | exc => cases hl; exact .exc
  | bad => cases hl
  | out => cases hl
  | neg h => cases hl
  | draw h0 h1 _ ih => exact .draw h0 h1 (ih hl)
theorem Rch.bindN (h : Rch n b (.ret a) n1) (g : Rch n1 (f a) l n2) : Rch n (b.bindN f) l n2 := by
  generalize hl : Leaf.ret a = q at h
  induction h with
  | ret => cases hl; exact g
  | exc => cases hl
  | bad => cases hl
  | out => cases hl
  | neg _ => cases hl
  | draw h0 h1 _ ih => exact .draw h0 h1 (ih g hl)
theorem Rch.bindN_bad (h : Rch n b .bad n1) : Rch n (b.bindN f) .bad n1 := by
  generalize hl : Leaf.bad = q at h
  induction h with
  | ret => cases hl
  | exc => cases hl
  | bad => exact .bad
  | out => exact .out
  | neg h => exact .neg h
  | draw h0 h1 _ ih => exact .draw h0 h1 (ih hl)
theorem Rch.bindN_exc (h : Rch n b (.exc e) n1) : Rch n (b.bindN f) .bad n1 := by
  generalize hl : Leaf.exc e = q at h
  induction h with
  | ret => cases hl
  | exc => exact .bad
  | bad => cases hl
  | out => cases hl
  | neg h => cases hl
  | draw h0 h1 _ ih => exact .draw h0 h1 (ih hl)
end
/-! ### the relation -/
/-- so many draws at most -/
def LIM : Int := 2 ^ 200000
/-- a feed at l that may be drawn from n times more -/
def Feed (S : Sto) (l n : Nat) : Prop := ∃ a b c : Int, S[l]? = some (O.lst [.int a, .int b, .int c]) ∧ 0 ≤ a ∧ 0 ≤ b ∧ b < 2 ^ 200 ∧ 0 ≤ c ∧ c + n ≤ LIM
abbrev Fs := Nat → Prop
def Feeds (Φ : Fs) (S : Sto) (n : Nat) : Prop := (n : Int) ≤ LIM ∧ ∀ l, Φ l → Feed S l n
structure Fr (n0 : Nat) (Φ : Fs) (S : Sto) (Φ' : Fs) (S' : Sto) : Prop where
  len : S.length ≤ S'.length
  up : ∀ l, Φ l → Φ' l
  dn : ∀ l, l < n0 → Φ' l → Φ l
  eq : ∀ l, l < n0 → ¬ Φ l → S'[l]? = S[l]?
def RV (n0 : Nat) (Φ : Fs) (S : Sto) : VB → VV → Prop
  | .d x, u => u = .d x ∨ ∃ l ds, u = .loc l ∧ S[l]? = some (.frz ds) ∧ x = .list ds ∧ ¬ Φ l
  | .own ds, u => ∃ l, u = .loc l ∧ S[l]? = some (.lst ds) ∧ ¬ Φ l ∧ n0 ≤ l
  | .bor ds, u => ∃ l, u = .loc l ∧ S[l]? = some (.lst ds) ∧ ¬ Φ l
  | .feed, u => ∃ l, u = .loc l ∧ Φ l
  | .ex e, u => u = .ex e
structure Post (Φ : Fs) (n : Nat) (S : Sto) (Φ' : Fs) (n' : Nat) (S' : Sto) : Prop where
  fr : Fr S.length Φ S Φ' S'
  fe : Feeds Φ' S' n'
section
variable {n0 n1 : Nat} {Φ Φ' Φ2 : Fs} {S S' S2 : Sto} {v : VB} {u : VV}
theorem Fr.refl : Fr n0 Φ S Φ S := ⟨Nat.le_refl _, fun _ h => h, fun _ _ h => h, fun _ _ _ => rfl⟩
theorem Fr.trans (f : Fr n0 Φ S Φ' S') (g : Fr n1 Φ' S' Φ2 S2) (h : n0 ≤ n1) : Fr n0 Φ S Φ2 S2 :=
  ⟨Nat.le_trans f.len g.len, fun l q => g.up l (f.up l q), fun l hl q => f.dn l hl (g.dn l (Nat.lt_of_lt_of_le hl h) q), fun l hl q => (g.eq l (Nat.lt_of_lt_of_le hl h) fun z => q (f.dn l hl z)).trans (f.eq l hl q)⟩
theorem Fr.le (f : Fr n1 Φ S Φ' S') (h : n0 ≤ n1) : Fr n0 Φ S Φ' S' := ⟨f.len, f.up, fun l hl => f.dn l (Nat.lt_of_lt_of_le hl h), fun l hl => f.eq l (Nat.lt_of_lt_of_le hl h)⟩
theorem lt_at {l : Nat} {o : O} (h : S[l]? = some o) : l < S.length := (List.getElem?_eq_some_iff.mp h).1
theorem RV.mono (f : Fr S.length Φ S Φ' S') (r : RV n0 Φ S v u) : RV n0 Φ' S' v u := by
  cases v with
  | d x =>
    rcases r with r | ⟨l, ds, h1, h2, h3, h4⟩
    · exact .inl r
    · have := lt_at h2
      exact .inr ⟨l, ds, h1, (f.eq l this h4).trans h2, h3, fun q => h4 (f.dn l this q)⟩
  | own ds =>
    obtain ⟨l, h1, h2, h3, h4⟩ := r
    have := lt_at h2
    exact ⟨l, h1, (f.eq l this h3).trans h2, fun q => h3 (f.dn l this q), h4⟩
  | bor ds =>
    obtain ⟨l, h1, h2, h3⟩ := r
    have := lt_at h2
    exact ⟨l, h1, (f.eq l this h3).trans h2, fun q => h3 (f.dn l this q)⟩
  | feed =>
    obtain ⟨l, h1, h2⟩ := r
    exact ⟨l, h1, f.up l h2⟩
  | ex e => exact r
theorem RV.le (h : n1 ≤ n0) (r : RV n0 Φ S v u) : RV n1 Φ S v u := by
  cases v with
  | own ds =>
    obtain ⟨l, h1, h2, h3, h4⟩ := r
    exact ⟨l, h1, h2, h3, Nat.le_trans h h4⟩
  | _ => exact r
theorem RV.lend (r : RV n0 Φ S v u) : RV n1 Φ S v.lend u := by
  cases v with
  | own ds =>
    obtain ⟨l, h1, h2, h3, h4⟩ := r
    exact ⟨l, h1, h2, h3⟩
  | _ => exact r
theorem RV.rd {x : PD} (r : RV n0 Φ S v u) (h : KB.rd v = some x) : KA.rd S u = some x := by
  cases v with
  | d y =>
    cases h
    rcases r with r | ⟨l, ds, h1, h2, h3, h4⟩
    · subst r; rfl
    · subst h1 h3
      simp [KA.rd, h2]
  | own ds =>
    cases h
    obtain ⟨l, h1, h2, _⟩ := r
    subst h1
    simp [KA.rd, h2]
  | bor ds =>
    cases h
    obtain ⟨l, h1, h2, _⟩ := r
    subst h1
    simp [KA.rd, h2]
  | feed => cases h
  | ex e => cases h
inductive RVs (n0 : Nat) (Φ : Fs) (S : Sto) : List VB → List VV → Prop
  | nil : RVs n0 Φ S [] []
  | cons {v : VB} {u : VV} {vs : List VB} {us : List VV} : RV n0 Φ S v u → RVs n0 Φ S vs us → RVs n0 Φ S (v :: vs) (u :: us)
theorem RVs.mono (f : Fr S.length Φ S Φ' S') : ∀ {vs : List VB} {us : List VV}, RVs n0 Φ S vs us → RVs n0 Φ' S' vs us
  | _, _, .nil => .nil
  | _, _, .cons r t => .cons (r.mono f) (RVs.mono f t)
theorem RVs.le (h : n1 ≤ n0) : ∀ {vs : List VB} {us : List VV}, RVs n0 Φ S vs us → RVs n1 Φ S vs us
  | _, _, .nil => .nil
  | _, _, .cons r t => .cons (r.le h) (RVs.le h t)
theorem RVs.length : ∀ {vs : List VB} {us : List VV}, RVs n0 Φ S vs us → vs.length = us.length
  | _, _, .nil => rfl
  | _, _, .cons _ t => by rw [List.length_cons, List.length_cons, RVs.length t]
theorem RVs.get : ∀ {vs : List VB} {us : List VV} {i : Nat} {v : VB}, RVs n0 Φ S vs us → vs[i]? = some v → ∃ u, us[i]? = some u ∧ RV n0 Φ S v u
  | _, _, _, _, .nil, e => by simp at e
  | _, _, 0, _, .cons r _, e => by simp at e; subst e; exact ⟨_, rfl, r⟩
  | _, _, i + 1, v, .cons _ t, e => by
    obtain ⟨u, h1, h2⟩ := RVs.get (i := i) (v := v) t (by simpa using e)
    exact ⟨u, by simpa using h1, h2⟩
theorem RVs.rds : ∀ {vs : List VB} {us : List VV} {xs : List PD}, RVs n0 Φ S vs us → KB.rds vs = some xs → KA.rds S us = some xs
  | _, _, _, .nil, e => e
  | v :: vs, _, xs, .cons r t, e => by
    unfold KB.rds at e
    cases h1 : KB.rd v with
    | none => rw [h1] at e; cases e
    | some x =>
      cases h2 : KB.rds vs with
      | none => rw [h1, h2] at e; cases e
      | some ys =>
        rw [h1, h2] at e
        have : x :: ys = xs := by simpa using e
        subst this
        unfold KA.rds
        rw [r.rd h1, RVs.rds t h2]
/-- the owned ones lie apart -/
def Ap (vs : List VB) (us : List VV) : Prop := ∀ (i j l : Nat) (ds es : List PD), i ≠ j → vs[i]? = some (.own ds) → vs[j]? = some (.own es) → us[i]? = some (.loc l) → us[j]? ≠ some (.loc l)
/-- names -/
structure RS (n0 : Nat) (Φ : Fs) (S : Sto) (σ : SgB) (τ : Sg) : Prop where
  len : σ.length = τ.length
  at_ : ∀ (i : Nat) (v : VB), σ[i]? = some (some v) → ∃ u, τ[i]? = some (some u) ∧ RV n0 Φ S v u
  sep : ∀ (i j l : Nat) (ds : List PD) (v : VB), i ≠ j → σ[i]? = some (some (.own ds)) → τ[i]? = some (some (.loc l)) → σ[j]? = some (some v) → τ[j]? ≠ some (some (.loc l))
theorem RS.mono {σ : SgB} {τ : Sg} (f : Fr S.length Φ S Φ' S') (r : RS n0 Φ S σ τ) : RS n0 Φ' S' σ τ := ⟨r.len, fun i v h => let ⟨u, h1, h2⟩ := r.at_ i v h; ⟨u, h1, h2.mono f⟩, r.sep⟩
end
/-! ### simulation -/
def Mt {α β : Type} (Φ : Fs) (n : Nat) (S : Sto) (n' : Nat) (P : Fs → Sto → α → β → Prop) : Leaf α → R β → Prop
  | .bad, _ => True
  | .ret a, .ok c S' => ∃ Φ', Post Φ n S Φ' n' S' ∧ P Φ' S' a c
  | .exc e, .exc e' S' => e = e' ∧ ∃ Φ', Post Φ n S Φ' n' S'
  | _, _ => False
def Sim {α β : Type} (Φ : Fs) (n : Nat) (S : Sto) (b : B α) (r : R β) (P : Fs → Sto → α → β → Prop) : Prop := ∃ l n', Rch n b l n' ∧ Mt Φ n S n' P l r
section
variable {α β γ δ : Type} {Φ Φ' : Fs} {n n' : Nat} {S S' : Sto} {b : B α} {r : R β} {P : Fs → Sto → α → β → Prop} {f : α → B γ} {g : β → Sto → R δ} {P' : Fs → Sto → γ → δ → Prop}
theorem Post.refl (h : Feeds Φ S n) : Post Φ n S Φ n S := ⟨Fr.refl, h⟩
theorem Post.trans {Φ2 : Fs} {n2 : Nat} {S2 : Sto} (p : Post Φ n S Φ' n' S') (q : Post Φ' n' S' Φ2 n2 S2) : Post Φ n S Φ2 n2 S2 := ⟨p.fr.trans q.fr p.fr.len, q.fe⟩
theorem Sim.bad : Sim Φ n S (.bad : B α) r P := ⟨_, _, .bad, trivial⟩
theorem Sim.ret {a : α} {c : β} (h : Feeds Φ S n) (p : P Φ S a c) : Sim Φ n S (.ret a) (.ok c S) P := ⟨_, _, .ret, Φ, .refl h, p⟩
theorem Sim.exc {e : Ex} (h : Feeds Φ S n) : Sim Φ n S (.exc e : B α) (.exc e S : R β) P := ⟨_, _, .exc, rfl, Φ, .refl h⟩
theorem Sim.imp {Q : Fs → Sto → α → β → Prop} (h : Sim Φ n S b r P) (i : ∀ Φ' n' S' a c, Post Φ n S Φ' n' S' → P Φ' S' a c → Q Φ' S' a c) : Sim Φ n S b r Q := by
  obtain ⟨l, n1, h1, h2⟩ := h
  refine ⟨l, n1, h1, ?_⟩
  cases l with
  | bad => trivial
  | ret a =>
    cases r with
    | ok c S' => obtain ⟨Φ', p, q⟩ := h2; exact ⟨Φ', p, i _ _ _ _ _ p q⟩
    | exc e S' => exact h2.elim
    | bad => exact h2.elim
  | exc e => cases r <;> exact h2
theorem Sim.bind (h : Sim Φ n S b r P) (i : ∀ Φ' n' S' a c, Post Φ n S Φ' n' S' → P Φ' S' a c → Sim Φ' n' S' (f a) (g c S') P') : Sim Φ n S (b.bind f) (r.bind g) P' := by
  obtain ⟨l, n1, h1, h2⟩ := h
  cases l with
  | bad => exact ⟨_, _, h1.bind_bad, trivial⟩
  | ret a =>
    cases r with
    | ok c S' =>
      obtain ⟨Φ', p, q⟩ := h2
      obtain ⟨l2, n2, h3, h4⟩ := i _ _ _ _ _ p q
      refine ⟨l2, n2, h1.bind h3, ?_⟩
      show Mt Φ n S n2 P' l2 (g c S')
      cases l2 with
      | bad => trivial
      | ret a2 =>
        generalize g c S' = r2 at h4
        cases r2 with
        | ok c2 S2 => obtain ⟨Φ2, p2, q2⟩ := h4; exact ⟨Φ2, p.trans p2, q2⟩
        | exc e S2 => exact h4.elim
        | bad => exact h4.elim
      | exc e =>
        generalize g c S' = r2 at h4
        cases r2 with
        | ok c2 S2 => exact h4.elim
        | exc e2 S2 => obtain ⟨he, Φ2, p2⟩ := h4; exact ⟨he, Φ2, p.trans p2⟩
        | bad => exact h4.elim
    | exc e S' => exact h2.elim
    | bad => exact h2.elim
  | exc e =>
    cases r with
    | ok c S' => exact h2.elim
    | exc e' S' => exact ⟨_, _, h1.bind_exc, h2⟩
    | bad => exact h2.elim
/-- a check that only the evaluator by values makes -/
theorem Sim.bindL {f : α → B γ} {r : R δ} {o : Option α} (i : ∀ a, o = some a → Sim Φ n S (f a) r P') : Sim Φ n S ((B.opt o).bind f) r P' := by
  cases o with
  | none => exact .bad
  | some a => exact i a rfl
theorem Sim.opt {o : Option α} {o' : Option β} {f : α → B γ} {g : β → Sto → R δ} (h : Feeds Φ S n) (i : ∀ a, o = some a → ∃ c, o' = some c ∧ Sim Φ n S (f a) (g c S) P') : Sim Φ n S ((B.opt o).bind f) ((R.opt o' S).bind g) P' := by
  cases o with
  | none => exact .bad
  | some a =>
    obtain ⟨c, e, q⟩ := i a rfl
    subst e
    exact q
theorem Sim.chk {xs : List PD} {f : List PD → B γ} {r : R δ} (i : xs.length ≤ SZ → Sim Φ n S (f xs) r P') : Sim Φ n S ((chkL xs).bind f) r P' := by
  unfold chkL
  by_cases h : xs.length ≤ SZ
  · rw [if_pos h]; exact i h
  · rw [if_neg h]; exact .bad
theorem Sim.op1 {β : Type} {n0 : Nat} {v : VB} {u : VV} {F : PD → Option β} (h : Feeds Φ S n) (r : RV n0 Φ S v u) : Sim Φ n S (KB.op1 F v) (KA.op1 F S u) fun _ _ a c => a = c := by
  unfold KB.op1 KA.op1
  cases q : KB.rd v with
  | none => exact .bad
  | some x =>
    rw [r.rd q]
    dsimp only
    cases F x with
    | none => exact .bad
    | some z => exact .ret h rfl
theorem Sim.op2 {β : Type} {n0 n1 : Nat} {v w : VB} {u z : VV} {F : PD → PD → Option β} (h : Feeds Φ S n) (r : RV n0 Φ S v u) (s : RV n1 Φ S w z) : Sim Φ n S (KB.op2 F v w) (KA.op2 F S u z) fun _ _ a c => a = c := by
  unfold KB.op2 KA.op2
  cases q : KB.rd v with
  | none => exact .bad
  | some x =>
    cases q2 : KB.rd w with
    | none => exact .bad
    | some y =>
      rw [r.rd q, s.rd q2]
      dsimp only
      cases F x y with
      | none => exact .bad
      | some z => exact .ret h rfl
theorem Sim.esc {n0 : Nat} {v : VB} {u : VV} (h : Feeds Φ S n) (r : RV n0 Φ S v u) : Sim Φ n S (KB.esc v) (KA.esc S u) fun _ _ a c => a = c := by
  cases v with
  | d x =>
    rcases r with r | ⟨l, ds, h1, h2, h3, h4⟩
    · subst r; exact .ret h rfl
    · subst h1 h3
      have : KA.esc S (.loc l) = .ok (.list ds) S := by simp [KA.esc, h2]
      rw [this]
      exact .ret h rfl
  | _ => exact .bad
theorem Sim.newM {m : Bool} {d : PD} (h : Feeds Φ S n) : Sim Φ n S (KB.newM m d) (KA.newM m d S) fun Φ' S' v u => RV S.length Φ' S' v u := by
  cases m with
  | false =>
    have e : KA.newM false d S = .ok (.d d) S := by cases d <;> rfl
    rw [newM_false, e]
    exact .ret h (.inl rfl)
  | true =>
    cases d with
    | list ds =>
      have hN : ¬ Φ S.length := fun q => by
        obtain ⟨a, b, c, e, _⟩ := h.2 _ q
        exact absurd (lt_at e) (Nat.lt_irrefl _)
      refine ⟨_, _, .ret, Φ, ⟨⟨by simp, fun _ h => h, fun _ _ h => h, fun l hl _ => by rw [List.getElem?_append_left hl]⟩, h.1, fun l q => ?_⟩, S.length, rfl, by simp, hN, Nat.le_refl _⟩
      obtain ⟨a, b, c, e, q⟩ := h.2 l q
      exact ⟨a, b, c, by rw [List.getElem?_append_left (lt_at e)]; exact e, q⟩
    | _ => exact .bad
theorem bltD_rel {n0 : Nat} {b : Bn} {vs : List VB} {us : List VV} (h : Feeds Φ S n) (r : RVs n0 Φ S vs us) : Sim Φ n S (KB.bltVs b vs) (KA.bltVs b us S) fun Φ' S' v u => RV S.length Φ' S' v u := by
  unfold KB.bltVs KA.bltVs
  cases q : KB.rds vs with
  | none => exact .bad
  | some xs =>
    rw [r.rds q]
    dsimp only
    cases b with
    | listM =>
      unfold KB.bltV KA.bltV
      dsimp only
      exact .opt h fun a e => ⟨a, e, .newM h⟩
    | _ =>
      unfold KB.bltV KA.bltV
      dsimp only
      exact .opt h fun a e => ⟨a, e, .ret h (.inl rfl)⟩
/-- a comprehension's turns -/
theorem Sim.loopC {fB : PD → B (Option PD)} {fA : PD → Sto → R (Option PD)} : ∀ {items acc : List PD} {Φ : Fs} {n : Nat} {S : Sto}, Feeds Φ S n → (∀ x Φ' n' S', Post Φ n S Φ' n' S' → Sim Φ' n' S' (fB x) (fA x S') fun _ _ a c => a = c) →
    Sim Φ n S (KB.loopC fB items acc) (KA.loopC fA items acc S) fun _ _ a c => a = c
  | [], acc, Φ, n, S, h, _ => .ret h rfl
  | x :: xs, acc, Φ, n, S, h, i => by
    unfold KB.loopC KA.loopC
    obtain ⟨l, n1, h1, h2⟩ := i x Φ n S (.refl h)
    cases l with
    | bad => exact ⟨_, _, h1.bindN_bad, trivial⟩
    | exc e => exact ⟨_, _, h1.bindN_exc, trivial⟩
    | ret a =>
      generalize hr : fA x S = r at h2
      cases r with
      | exc e S' => exact h2.elim
      | bad => exact h2.elim
      | ok c S' =>
        obtain ⟨Φ', p, q⟩ := h2
        subst q
        have next : ∀ acc', Sim Φ n S ((fB x).bindN fun o => KB.loopC fB xs acc') (KA.loopC fA xs acc' S') fun _ _ a c => a = c := fun acc' => by
          obtain ⟨l2, n2, h3, h4⟩ := Sim.loopC (items := xs) (acc := acc') p.fe fun y Φ2 n2 S2 p2 => i y Φ2 n2 S2 (p.trans p2)
          refine ⟨l2, n2, h1.bindN h3, ?_⟩
          generalize KA.loopC fA xs acc' S' = r2 at h4
          cases l2 with
          | bad => trivial
          | ret a2 =>
            cases r2 with
            | ok c2 S2 => obtain ⟨Φ2, p2, q2⟩ := h4; exact ⟨Φ2, p.trans p2, q2⟩
            | exc e S2 => exact h4.elim
            | bad => exact h4.elim
          | exc e =>
            cases r2 with
            | ok c2 S2 => exact h4.elim
            | exc e2 S2 => obtain ⟨he, Φ2, p2⟩ := h4; exact ⟨he, Φ2, p.trans p2⟩
            | bad => exact h4.elim
        have next2 : ∀ acc' (F : Option PD → B (List PD)), F a = KB.loopC fB xs acc' → Sim Φ n S ((fB x).bindN F) (KA.loopC fA xs acc' S') fun _ _ a c => a = c := fun acc' F hF => by
          obtain ⟨l2, n2, h3, h4⟩ := Sim.loopC (items := xs) (acc := acc') p.fe fun y Φ2 n2 S2 p2 => i y Φ2 n2 S2 (p.trans p2)
          refine ⟨l2, n2, h1.bindN (hF ▸ h3), ?_⟩
          generalize KA.loopC fA xs acc' S' = r2 at h4
          cases l2 with
          | bad => trivial
          | ret a2 =>
            cases r2 with
            | ok c2 S2 => obtain ⟨Φ2, p2, q2⟩ := h4; exact ⟨Φ2, p.trans p2, q2⟩
            | exc e S2 => exact h4.elim
            | bad => exact h4.elim
          | exc e =>
            cases r2 with
            | ok c2 S2 => exact h4.elim
            | exc e2 S2 => obtain ⟨he, Φ2, p2⟩ := h4; exact ⟨he, Φ2, p.trans p2⟩
            | bad => exact h4.elim
        cases a with
        | none => exact next2 acc _ rfl
        | some y =>
          dsimp only
          by_cases hz : acc.length < SZ
          · rw [if_pos hz]
            exact next2 (acc ++ [y]) _ (by dsimp only; rw [if_pos hz])
          · refine ⟨.bad, n1, h1.bindN (l := .bad) (n2 := n1) ?_, trivial⟩
            dsimp only
            rw [if_neg hz]
            exact .bad
theorem Sim.loopC2 {fB : PD → List PD → B (List PD)} {fA : PD → List PD → Sto → R (List PD)} : ∀ {items acc : List PD} {Φ : Fs} {n : Nat} {S : Sto}, Feeds Φ S n → (∀ x acc Φ' n' S', Post Φ n S Φ' n' S' → Sim Φ' n' S' (fB x acc) (fA x acc S') fun _ _ a c => a = c) →
    Sim Φ n S (KB.loopC2 fB items acc) (KA.loopC2 fA items acc S) fun _ _ a c => a = c
  | [], acc, Φ, n, S, h, _ => .ret h rfl
  | x :: xs, acc, Φ, n, S, h, i => by
    unfold KB.loopC2 KA.loopC2
    obtain ⟨l, n1, h1, h2⟩ := i x acc Φ n S (.refl h)
    cases l with
    | bad => exact ⟨_, _, h1.bindN_bad, trivial⟩
    | exc e => exact ⟨_, _, h1.bindN_exc, trivial⟩
    | ret a =>
      generalize hr : fA x acc S = r at h2
      cases r with
      | exc e S' => exact h2.elim
      | bad => exact h2.elim
      | ok c S' =>
        obtain ⟨Φ', p, q⟩ := h2
        subst q
        dsimp only
        obtain ⟨l2, n2, h3, h4⟩ := Sim.loopC2 (items := xs) (acc := a) p.fe fun y acc Φ2 n2 S2 p2 => i y acc Φ2 n2 S2 (p.trans p2)
        refine ⟨l2, n2, h1.bindN h3, ?_⟩
        generalize KA.loopC2 fA xs a S' = r2 at h4
        cases l2 with
        | bad => trivial
        | ret a2 =>
          cases r2 with
          | ok c2 S2 => obtain ⟨Φ2, p2, q2⟩ := h4; exact ⟨Φ2, p.trans p2, q2⟩
          | exc e S2 => exact h4.elim
          | bad => exact h4.elim
        | exc e =>
          cases r2 with
          | ok c2 S2 => exact h4.elim
          | exc e2 S2 => obtain ⟨he, Φ2, p2⟩ := h4; exact ⟨he, Φ2, p.trans p2⟩
          | bad => exact h4.elim
end
/-! ### names that are set -/
section
variable {n0 : Nat} {Φ : Fs} {S : Sto} {σ : SgB} {τ : Sg} {i : Nat}
theorem get_set {α : Type} {l : List α} {i j : Nat} {x y : α} (h : (l.set i x)[j]? = some y) : (j = i ∧ y = x ∧ i < l.length) ∨ (j ≠ i ∧ l[j]? = some y) := by
  by_cases hj : j = i
  · subst hj
    have lt : j < l.length := by
      have := (List.getElem?_eq_some_iff.mp h).1
      simpa using this
    rw [List.getElem?_set_self lt] at h
    exact .inl ⟨rfl, (Option.some.inj h).symm, lt⟩
  · rw [List.getElem?_set_ne (Ne.symm hj)] at h
    exact .inr ⟨hj, h⟩
theorem RS.none (r : RS n0 Φ S σ τ) : RS n0 Φ S (σ.set i none) (τ.set i none) := by
  refine ⟨by simp [r.len], fun j v h => ?_, fun a b l ds v hab h1 h2 h3 h4 => ?_⟩
  · rcases get_set h with ⟨_, e, _⟩ | ⟨hj, h⟩
    · cases e
    · obtain ⟨u, h1, h2⟩ := r.at_ j v h
      exact ⟨u, by rw [List.getElem?_set_ne (Ne.symm hj)]; exact h1, h2⟩
  · rcases get_set h1 with ⟨_, e, _⟩ | ⟨ha, h1⟩
    · cases e
    rcases get_set h3 with ⟨_, e, _⟩ | ⟨hb, h3⟩
    · cases e
    rw [List.getElem?_set_ne (Ne.symm ha)] at h2
    rw [List.getElem?_set_ne (Ne.symm hb)] at h4
    exact r.sep a b l ds v hab h1 h2 h3 h4
/-- a value that is no list of its own -/
theorem RS.set {v : VB} {u : VV} (r : RS n0 Φ S σ τ) (hf : ∀ l, Φ l → ∃ ds, S[l]? = some (O.lst ds)) (q : RV n0 Φ S v u) (hv : (∃ x, v = .d x) ∨ v = .feed ∨ ∃ e, v = .ex e) : RS n0 Φ S (σ.set i (some v)) (τ.set i (some u)) := by
  have apart : ∀ (l : Nat) (ds : List PD) (w : VV), RV n0 Φ S (.own ds) w → w = .loc l → u ≠ .loc l := fun l ds w hw e hu => by
    subst e hu
    obtain ⟨l', e', h2, h3, h4⟩ := hw
    cases e'
    rcases hv with ⟨x, rfl⟩ | rfl | ⟨e, rfl⟩
    · rcases q with q | ⟨l2, ds2, g1, g2, _⟩
      · cases q
      · cases g1
        rw [h2] at g2; cases g2
    · obtain ⟨l2, g1, g2⟩ := q
      cases g1
      exact h3 g2
    · cases q
  refine ⟨by simp [r.len], fun j w h => ?_, fun a b l ds w hab h1 h2 h3 h4 => ?_⟩
  · rcases get_set h with ⟨rfl, e, hl⟩ | ⟨hj, h⟩
    · cases e
      exact ⟨u, by rw [List.getElem?_set_self (by rw [← r.len]; exact hl)], q⟩
    · obtain ⟨z, h1, h2⟩ := r.at_ j w h
      exact ⟨z, by rw [List.getElem?_set_ne (Ne.symm hj)]; exact h1, h2⟩
  · rcases get_set h1 with ⟨rfl, e, hl⟩ | ⟨ha, h1⟩
    · rcases hv with ⟨x, rfl⟩ | rfl | ⟨e', rfl⟩ <;> cases e
    rw [List.getElem?_set_ne (Ne.symm ha)] at h2
    obtain ⟨z, g1, g2⟩ := r.at_ a _ h1
    rw [h2] at g1; cases g1
    rcases get_set h3 with ⟨rfl, e, hl⟩ | ⟨hb, h3⟩
    · rw [List.getElem?_set_self (by rw [← r.len]; exact hl)] at h4
      have : u = .loc l := by simpa using h4
      exact apart l ds _ g2 rfl this
    · rw [List.getElem?_set_ne (Ne.symm hb)] at h4
      exact r.sep a b l ds w hab h1 h2 h3 h4
theorem RS.setD {x : PD} (r : RS n0 Φ S σ τ) (hf : ∀ l, Φ l → ∃ ds, S[l]? = some (O.lst ds)) : RS n0 Φ S (σ.set i (some (.d x))) (τ.set i (some (.d x))) := r.set hf (.inl rfl) (.inl ⟨x, rfl⟩)
theorem Feeds.lst {n : Nat} (h : Feeds Φ S n) : ∀ l, Φ l → ∃ ds, S[l]? = some (O.lst ds) := fun l q => let ⟨_, _, _, e, _⟩ := h.2 l q; ⟨_, e⟩
theorem RS.wipe (r : RS n0 Φ S σ τ) : ∀ vs : List Nat, RS n0 Φ S (wipeD σ vs) (KA.wipeD τ vs)
  | [] => r
  | v :: vs => (RS.wipe r vs).none
theorem RS.foldD (hf : ∀ l, Φ l → ∃ ds, S[l]? = some (O.lst ds)) : ∀ (ps : List (Nat × PD)) {σ : SgB} {τ : Sg}, RS n0 Φ S σ τ → RS n0 Φ S (ps.foldl (fun σ p => σ.set p.1 (some (.d p.2))) σ) (ps.foldl (fun σ p => σ.set p.1 (some (.d p.2))) τ)
  | [], _, _, r => r
  | p :: ps, _, _, r => RS.foldD hf ps (r.setD hf)
theorem RS.bindTg {tg : Tg} {x : PD} {σ' : SgB} (r : RS n0 Φ S σ τ) (hf : ∀ l, Φ l → ∃ ds, S[l]? = some (O.lst ds)) (h : KB.bindTg tg x σ = some σ') : ∃ τ', KA.bindTg tg x τ = some τ' ∧ RS n0 Φ S σ' τ' := by
  cases tg with
  | nm i =>
    cases h
    exact ⟨_, rfl, r.setD hf⟩
  | tp is =>
    cases x with
    | tuple xs =>
      unfold KB.bindTg at h
      unfold KA.bindTg
      dsimp only at h ⊢
      by_cases hl : xs.length = is.length
      · rw [if_pos hl] at h ⊢
        cases h
        exact ⟨_, rfl, RS.foldD hf _ r⟩
      · rw [if_neg hl] at h; cases h
    | _ => cases h
end
end KB
/-! KB2: expressions by values are those by places. -/
namespace KB
open PySem KA
def CallSim (cB : Nat → List VB → B VB) (cA : Nat → List VV → Sto → R VV) : Prop := ∀ (f : Nat) (vs : List VB) (us : List VV) (Φ : Fs) (n : Nat) (S : Sto) (n0 : Nat), RVs n0 Φ S vs us → Feeds Φ S n → Sim Φ n S (cB f vs) (cA f us S) fun Φ' S' v u => RV S.length Φ' S' v u
section
variable (cB : Nat → List VB → B VB) (cA : Nat → List VV → Sto → R VV) (par : Nat → List Str)
abbrev Here {α β : Type} (b : SgB → B α) (r : Sg → Sto → R β) (P : Sto → Fs → Sto → α → β → Prop) : Prop := ∀ (n0 : Nat) (σ : SgB) (τ : Sg) (Φ : Fs) (n : Nat) (S : Sto), RS n0 Φ S σ τ → Feeds Φ S n → Sim Φ n S (b σ) (r τ S) (P S)
def PV : Sto → Fs → Sto → VB → VV → Prop := fun S Φ' S' v u => RV S.length Φ' S' v u
def PVs : Sto → Fs → Sto → List VB → List VV → Prop := fun S Φ' S' vs us => RVs S.length Φ' S' vs us ∧ Ap vs us
/-- lists that are walked stand as they are -/
def GG (Φ : Fs) (S : Sto) (g : Gd) : Prop := ∀ p ∈ g, S[p.1]? = some (.lst p.2) ∧ ¬ Φ p.1
theorem GG.nil {Φ : Fs} {S : Sto} : GG Φ S [] := fun p h => absurd h (by simp)
theorem GG.mono {Φ Φ' : Fs} {S S' : Sto} {g : Gd} (f : Fr S.length Φ S Φ' S') (h : GG Φ S g) : GG Φ' S' g := fun p hp => by
  obtain ⟨h1, h2⟩ := h p hp
  have := lt_at h1
  exact ⟨(f.eq _ this h2).trans h1, fun q => h2 (f.dn _ this q)⟩
theorem GG.ok {Φ : Fs} {S : Sto} {g : Gd} (h : GG Φ S g) : gOk g S := fun p hp => .inl (h p hp).1
theorem GG.app {Φ : Fs} {S : Sto} {g g' : Gd} (h : GG Φ S g) (h' : GG Φ S g') : GG Φ S (g ++ g') := fun p hp => (List.mem_append.mp hp).elim (h p) (h' p)
def PI : Sto → Fs → Sto → List PD → List PD × Gd → Prop := fun _ Φ' S' a c => a = c.1 ∧ GG Φ' S' c.2
def PIs : Sto → Fs → Sto → List PD → List PD × Gd → Prop := fun _ _ _ a c => c = (a, [])
def PE {α : Type} : Sto → Fs → Sto → α → α → Prop := fun _ _ _ a c => a = c
abbrev ESim (e : CE) : Prop := Here (fun σ => KB.evE cB par σ e) (fun τ S => KA.evE cA par τ e S) PV
abbrev TSim (e : CE) : Prop := Here (fun σ => KB.evT cB par σ e) (fun τ S => KA.evT cA par τ e S) PE
abbrev EsSim (e : CEs) : Prop := Here (fun σ => KB.evEs cB par σ e) (fun τ S => KA.evEs cA par τ e S) PVs
abbrev XsSim (e : CEs) : Prop := Here (fun σ => KB.evXs cB par σ e) (fun τ S => KA.evXs cA par τ e S) PE
abbrev AndSim (e : CEs) : Prop := Here (fun σ => KB.evAnd cB par σ e) (fun τ S => KA.evAnd cA par τ e S) PV
abbrev OrSim (e : CEs) : Prop := Here (fun σ => KB.evOr cB par σ e) (fun τ S => KA.evOr cA par τ e S) PV
abbrev TAndSim (e : CEs) : Prop := Here (fun σ => KB.evTAnd cB par σ e) (fun τ S => KA.evTAnd cA par τ e S) PE
abbrev TOrSim (e : CEs) : Prop := Here (fun σ => KB.evTOr cB par σ e) (fun τ S => KA.evTOr cA par τ e S) PE
abbrev CSim (e : CO) : Prop := Here (fun σ => KB.evC cB par σ e) (fun τ S => KA.evC cA par τ e S) PE
abbrev OSim (e : CO) : Prop := Here (fun σ => KB.evO cB par σ e) (fun τ S => KA.evO cA par τ e S) PE
abbrev ISim (e : CI) : Prop := Here (fun σ => KB.evI cB par σ e) (fun τ S => KA.evI cA par τ e S) PI
abbrev IsSim (e : CI) : Prop := Here (fun σ => KB.evIs cB par σ e) (fun τ S => KA.evI cA par τ e S) PIs
end
section
variable {cB : Nat → List VB → B VB} {cA : Nat → List VV → Sto → R VV} {par : Nat → List Str}
theorem PV.to {S S1 S2 : Sto} {Φ Φ2 : Fs} {n n1 : Nat} {Φ1 : Fs} {v : VB} {u : VV} (p : Post Φ n S Φ1 n1 S1) (h : PV S1 Φ2 S2 v u) : PV S Φ2 S2 v u := RV.le p.fr.len h
theorem Sim.toV {α β : Type} {Φ Φ1 : Fs} {n n1 : Nat} {S S1 : Sto} {b : B VB} {r : R VV} (p : Post Φ n S Φ1 n1 S1) (h : Sim Φ1 n1 S1 b r (PV S1)) : Sim Φ1 n1 S1 b r (PV S) := h.imp fun _ _ _ _ _ _ q => q.to p
theorem noV {n0 : Nat} {Φ : Fs} {S : Sto} {v : VB} {u : VV} (r : RV n0 Φ S v u) : isNonV u = isNonB v := by
  cases v with
  | d x =>
    rcases r with r | ⟨l, ds, h1, h2, h3, h4⟩
    · subst r; cases x <;> rfl
    · subst h1 h3; rfl
  | own ds => obtain ⟨l, h1, _⟩ := r; subst h1; rfl
  | bor ds => obtain ⟨l, h1, _⟩ := r; subst h1; rfl
  | feed => obtain ⟨l, h1, _⟩ := r; subst h1; rfl
  | ex e => cases r; rfl
theorem es_var (i : Nat) : ESim cB cA par (.var i) := fun n0 σ τ Φ n S r h => by
  simp only [KB.evE, KA.evE]
  cases q : σ[i]? with
  | none => exact .bad
  | some o =>
    cases o with
    | none => exact .bad
    | some v =>
      obtain ⟨u, h1, h2⟩ := r.at_ i v q
      rw [h1]
      exact .ret h h2.lend
theorem es_con (d : PD) : ESim cB cA par (.con d) := fun n0 σ τ Φ n S r h => by
  simp only [KB.evE, KA.evE]
  exact .ret h (.inl rfl)
theorem es_gcon (x : Str) (d : PD) : ESim cB cA par (.gcon x d) := fun n0 σ τ Φ n S r h => by
  simp only [KB.evE, KA.evE]
  exact .ret h (.inl rfl)
theorem es_op2 {β : Type} {F : PD → PD → Option β} {G : β → PD} {a b : CE} (ia : ESim cB cA par a) (ib : ESim cB cA par b) :
    Here (fun σ => (KB.evE cB par σ a).bind fun v => (KB.evE cB par σ b).bind fun w => (KB.op2 F v w).bind fun z => .ret (.d (G z))) (fun τ S => (KA.evE cA par τ a S).bind fun v S => (KA.evE cA par τ b S).bind fun w S => (KA.op2 F S v w).bind fun z S => .ok (.d (G z)) S) PV := fun n0 σ τ Φ n S r h =>
  (ia n0 σ τ Φ n S r h).bind fun Φ1 n1 S1 v u p1 q1 => (ib n0 σ τ Φ1 n1 S1 (r.mono p1.fr) p1.fe).bind fun Φ2 n2 S2 w z p2 q2 =>
    (Sim.op2 p2.fe (RV.mono p2.fr q1) q2).bind fun Φ3 n3 S3 a c p3 e => by subst e; exact .ret p3.fe (.inl rfl)
theorem es_op1 {β : Type} {F : PD → Option β} {G : β → PD} {a : CE} (ia : ESim cB cA par a) :
    Here (fun σ => (KB.evE cB par σ a).bind fun v => (KB.op1 F v).bind fun z => .ret (.d (G z))) (fun τ S => (KA.evE cA par τ a S).bind fun v S => (KA.op1 F S v).bind fun z S => .ok (.d (G z)) S) PV := fun n0 σ τ Φ n S r h =>
  (ia n0 σ τ Φ n S r h).bind fun Φ1 n1 S1 v u p1 q1 => (Sim.op1 p1.fe q1).bind fun Φ3 n3 S3 a c p3 e => by subst e; exact .ret p3.fe (.inl rfl)
theorem es_bin (op : Operator) {a b : CE} (ia : ESim cB cA par a) (ib : ESim cB cA par b) : ESim cB cA par (.bin op a b) := fun n0 σ τ Φ n S r h => by
  simp only [KB.evE, KA.evE]
  exact es_op2 (G := id) ia ib n0 σ τ Φ n S r h
theorem es_cmp (op : CmpOp) {a b : CE} (ia : ESim cB cA par a) (ib : ESim cB cA par b) : ESim cB cA par (.cmp op a b) := fun n0 σ τ Φ n S r h => by
  simp only [KB.evE, KA.evE]
  exact es_op2 (G := .bool) ia ib n0 σ τ Φ n S r h
theorem es_sub {a b : CE} (ia : ESim cB cA par a) (ib : ESim cB cA par b) : ESim cB cA par (.sub a b) := fun n0 σ τ Φ n S r h => by
  simp only [KB.evE, KA.evE]
  exact es_op2 (G := id) ia ib n0 σ τ Φ n S r h
theorem es_neg {a : CE} (ia : ESim cB cA par a) : ESim cB cA par (.neg a) := fun n0 σ τ Φ n S r h => by
  simp only [KB.evE, KA.evE]
  exact es_op1 (G := id) ia n0 σ τ Φ n S r h
theorem es_bnot {a : CE} (ia : ESim cB cA par a) : ESim cB cA par (.bnot a) := fun n0 σ τ Φ n S r h => by
  simp only [KB.evE, KA.evE]
  exact es_op1 (G := fun b => .bool !b) ia n0 σ τ Φ n S r h
theorem es_rev {a : CE} (ia : ESim cB cA par a) : ESim cB cA par (.rev a) := fun n0 σ τ Φ n S r h => by
  simp only [KB.evE, KA.evE]
  exact es_op1 (G := id) ia n0 σ τ Φ n S r h
theorem es_sset {a : CE} (ia : ESim cB cA par a) : ESim cB cA par (.sset a) := fun n0 σ τ Φ n S r h => by
  simp only [KB.evE, KA.evE]
  exact es_op1 (G := id) ia n0 σ τ Φ n S r h
theorem es_isin (ts : List Tn) {a : CE} (ia : ESim cB cA par a) : ESim cB cA par (.isin a ts) := fun n0 σ τ Φ n S r h => by
  simp only [KB.evE, KA.evE]
  refine (ia n0 σ τ Φ n S r h).bind fun Φ1 n1 S1 v u p1 q1 => ?_
  have key : Sim Φ1 n1 S1 (isinB ts v) (isinV ts S1 u) fun _ _ a c => a = c := by
    cases v with
    | ex e =>
      cases (show u = .ex e from q1)
      rw [show isinB ts (.ex e) = B.opt (isinX e ts) from rfl, show isinV ts S1 (.ex e) = R.opt (isinX e ts) S1 from rfl]
      cases isinX e ts with
      | none => exact .bad
      | some z => exact .ret p1.fe rfl
    | d x =>
      have h1 := Sim.op1 (F := fun x => isinD x ts) p1.fe q1
      have : isinV ts S1 u = KA.op1 (fun x => isinD x ts) S1 u := by
        rcases q1 with rfl | ⟨l, ds, rfl, _⟩ <;> rfl
      rw [this]
      exact h1
    | own x =>
      have h1 := Sim.op1 (F := fun x => isinD x ts) p1.fe q1
      obtain ⟨l, rfl, _⟩ := q1
      exact h1
    | bor x =>
      have h1 := Sim.op1 (F := fun x => isinD x ts) p1.fe q1
      obtain ⟨l, rfl, _⟩ := q1
      exact h1
    | feed => exact .bad
  exact key.bind fun Φ3 n3 S3 a c p3 e => by subst e; exact .ret p3.fe (.inl rfl)
theorem es_isn (neg : Bool) {a : CE} (ia : ESim cB cA par a) : ESim cB cA par (.isn neg a) := fun n0 σ τ Φ n S r h => by
  simp only [KB.evE, KA.evE]
  exact (ia n0 σ τ Φ n S r h).bind fun Φ1 n1 S1 v u p1 q1 => by rw [noV q1]; exact .ret p1.fe (.inl rfl)
theorem es_cmp2 (o1 o2 : CmpOp) {a b c : CE} (ia : ESim cB cA par a) (ib : ESim cB cA par b) (ic : ESim cB cA par c) : ESim cB cA par (.cmp2 o1 o2 a b c) := fun n0 σ τ Φ n S r h => by
  simp only [KB.evE, KA.evE]
  exact (ia n0 σ τ Φ n S r h).bind fun Φ1 n1 S1 v u p1 q1 => (ib n0 σ τ Φ1 n1 S1 (r.mono p1.fr) p1.fe).bind fun Φ2 n2 S2 w z p2 q2 =>
    (Sim.op2 p2.fe (RV.mono p2.fr q1) q2).bind fun Φ3 n3 S3 a c p3 e => by
      subst e
      by_cases ha : a = true
      · simp only [ha, if_true]
        exact (ic n0 σ τ Φ3 n3 S3 (((r.mono p1.fr).mono p2.fr).mono p3.fr) p3.fe).bind fun Φ4 n4 S4 x y p4 q4 =>
          (Sim.op2 p4.fe (RV.mono p4.fr (RV.mono p3.fr q2)) q4).bind fun Φ5 n5 S5 a c p5 e => by subst e; exact .ret p5.fe (.inl rfl)
      · simp only [ha, if_false]
        exact .ret p3.fe (.inl rfl)
theorem es_seteq {a b : CE} (ia : ESim cB cA par a) (ib : ESim cB cA par b) : ESim cB cA par (.seteq a b) := fun n0 σ τ Φ n S r h => by
  simp only [KB.evE, KA.evE]
  exact (ia n0 σ τ Φ n S r h).bind fun Φ1 n1 S1 v u p1 q1 => (Sim.op1 p1.fe q1).bind fun Φ2 n2 S2 ns ns' p2 e2 => (ib n0 σ τ Φ2 n2 S2 ((r.mono p1.fr).mono p2.fr) p2.fe).bind fun Φ3 n3 S3 w z p3 q3 => (Sim.op1 p3.fe q3).bind fun Φ4 n4 S4 ms ms' p4 e4 => by
    subst e2
    subst e4
    exact .ret p4.fe (.inl rfl)
theorem es_ifx {t a b : CE} (it : TSim cB cA par t) (ia : ESim cB cA par a) (ib : ESim cB cA par b) : ESim cB cA par (.ifx t a b) := fun n0 σ τ Φ n S r h => by
  simp only [KB.evE, KA.evE]
  exact (it n0 σ τ Φ n S r h).bind fun Φ1 n1 S1 v u p1 e => by
    cases (show v = u from e)
    by_cases hv : v = true
    · simp only [hv, if_true]
      exact (ia n0 σ τ Φ1 n1 S1 (r.mono p1.fr) p1.fe).imp fun _ _ _ _ _ _ q => PV.to p1 q
    · simp only [hv, if_false]
      exact (ib n0 σ τ Φ1 n1 S1 (r.mono p1.fr) p1.fe).imp fun _ _ _ _ _ _ q => PV.to p1 q
theorem es_call (hc : CallSim cB cA) (f : Nat) {as : CEs} (ia : EsSim cB cA par as) : ESim cB cA par (.call f as) := fun n0 σ τ Φ n S r h => by
  simp only [KB.evE, KA.evE]
  exact (ia n0 σ τ Φ n S r h).bind fun Φ1 n1 S1 vs us p1 q1 => (hc f vs us Φ1 n1 S1 _ q1.1 p1.fe).imp fun _ _ _ _ _ _ q => PV.to p1 q
theorem look_rel {n0 : Nat} {Φ : Fs} {S : Sto} (p : Str) : ∀ {ks : List Str} {vs : List VB} {us : List VV} {v : VB}, RVs n0 Φ S vs us → (ks.zip vs).lookup p = some v → ∃ u, (ks.zip us).lookup p = some u ∧ RV n0 Φ S v u
  | [], _, _, _, _, e => by simp at e
  | _ :: _, _, _, _, .nil, e => by simp at e
  | k :: ks, _, _, v, .cons (v := v1) (u := u1) r t, e => by
    rw [List.zip_cons_cons, List.lookup_cons] at e ⊢
    cases hk : p == k with
    | true =>
      rw [hk] at e
      cases e
      exact ⟨u1, rfl, r⟩
    | false =>
      rw [hk] at e
      exact look_rel p t e
theorem key_rel {n0 : Nat} {Φ : Fs} {S : Sto} {ks : List Str} {vs : List VB} {us : List VV} (r : RVs n0 Φ S vs us) : ∀ {ps : List Str} {ws : List VB}, KB.keyArgs ps ks vs = some ws → ∃ xs, KA.keyArgs ps ks us = some xs ∧ RVs n0 Φ S ws xs
  | [], ws, e => by
    cases e
    exact ⟨[], rfl, .nil⟩
  | p :: ps, ws, e => by
    unfold KB.keyArgs at e
    unfold KA.keyArgs
    rw [List.mapM_cons] at e ⊢
    cases h1 : (ks.zip vs).lookup p with
    | none => rw [h1] at e; cases e
    | some v =>
      obtain ⟨u, g1, g2⟩ := look_rel p r h1
      cases h2 : ps.mapM fun p => (ks.zip vs).lookup p with
      | none => rw [h1, h2] at e; cases e
      | some w =>
        obtain ⟨xs, g3, g4⟩ := key_rel r (ps := ps) (ws := w) h2
        rw [h1, h2] at e
        have : v :: w = ws := by simpa using e
        subst this
        refine ⟨u :: xs, ?_, .cons g2 g4⟩
        have g3' : (ps.mapM fun p => (ks.zip us).lookup p) = some xs := g3
        rw [g1, g3']
        rfl
theorem es_callk (hc : CallSim cB cA) (f : Nat) (ks : List Str) {as : CEs} (ia : EsSim cB cA par as) : ESim cB cA par (.callk f ks as) := fun n0 σ τ Φ n S r h => by
  simp only [KB.evE, KA.evE]
  exact (ia n0 σ τ Φ n S r h).bind fun Φ1 n1 S1 vs us p1 q1 => .opt p1.fe fun ws e => by
    obtain ⟨xs, h1, h2⟩ := key_rel q1.1 e
    exact ⟨xs, h1, (hc f ws xs Φ1 n1 S1 _ h2 p1.fe).imp fun _ _ _ _ _ _ q => PV.to p1 q⟩
theorem es_blt (b : Bn) {as : CEs} (ia : EsSim cB cA par as) : ESim cB cA par (.blt b as) := fun n0 σ τ Φ n S r h => by
  simp only [KB.evE, KA.evE]
  exact (ia n0 σ τ Φ n S r h).bind fun Φ1 n1 S1 vs us p1 q1 => (bltD_rel p1.fe q1.1).imp fun _ _ _ _ _ _ q => PV.to p1 q
theorem es_meth (m : Str) (o : CE) (as : CEs) : ESim cB cA par (.meth m o as) := fun n0 σ τ Φ n S r h => by
  simp only [KB.evE]
  exact .bad
theorem es_slc {a : CE} {lo hi : CO} (ia : ESim cB cA par a) (il : OSim cB cA par lo) (ih : OSim cB cA par hi) : ESim cB cA par (.slc a lo hi) := fun n0 σ τ Φ n S r h => by
  simp only [KB.evE, KA.evE]
  exact (ia n0 σ τ Φ n S r h).bind fun Φ1 n1 S1 v u p1 q1 => (il n0 σ τ Φ1 n1 S1 (r.mono p1.fr) p1.fe).bind fun Φ2 n2 S2 l l' p2 e2 => (ih n0 σ τ Φ2 n2 S2 ((r.mono p1.fr).mono p2.fr) p2.fe).bind fun Φ3 n3 S3 k k' p3 e3 => by
    cases (show l = l' from e2)
    cases (show k = k' from e3)
    exact (Sim.op1 p3.fe (RV.mono p3.fr (RV.mono p2.fr q1))).bind fun Φ4 n4 S4 a c p4 e => by subst e; exact .ret p4.fe (.inl rfl)
theorem es_tup {es : CEs} (ia : XsSim cB cA par es) : ESim cB cA par (.tup es) := fun n0 σ τ Φ n S r h => by
  simp only [KB.evE, KA.evE]
  exact (ia n0 σ τ Φ n S r h).bind fun Φ1 n1 S1 xs ys p1 e => by
    cases (show xs = ys from e)
    by_cases hz : xs.length ≤ SZ
    · rw [if_pos hz, if_pos hz]; exact .ret p1.fe (.inl rfl)
    · rw [if_neg hz]; exact .bad
theorem es_lst (m : Bool) {es : CEs} (ia : XsSim cB cA par es) : ESim cB cA par (.lst m es) := fun n0 σ τ Φ n S r h => by
  simp only [KB.evE, KA.evE]
  exact (ia n0 σ τ Φ n S r h).bind fun Φ1 n1 S1 xs ys p1 e => by
    cases (show xs = ys from e)
    by_cases hz : xs.length ≤ SZ
    · rw [if_pos hz, if_pos hz]; exact (Sim.newM p1.fe).imp fun _ _ _ _ _ _ q => PV.to p1 q
    · rw [if_neg hz]; exact .bad
theorem es_rng (t m : Bool) {i : CI} (ii : ISim cB cA par i) : ESim cB cA par (.rng t m i) := fun n0 σ τ Φ n S r h => by
  simp only [KB.evE, KA.evE]
  exact (ii n0 σ τ Φ n S r h).bind fun Φ1 n1 S1 xs ys p1 e => by
    obtain ⟨ys, gd⟩ := ys
    cases (show xs = ys from e.1)
    by_cases ht : t = true
    · rw [if_pos ht, if_pos ht]; exact .ret p1.fe (.inl rfl)
    · rw [if_neg ht, if_neg ht]; exact (Sim.newM p1.fe).imp fun _ _ _ _ _ _ q => PV.to p1 q
theorem bind_id {α : Type} : ∀ (b : B α), b.bind .ret = b
  | .ret _ => rfl
  | .exc _ => rfl
  | .bad => rfl
  | .draw m k => by
    show B.draw m (fun i => (k i).bind .ret) = _
    congr 1
    exact funext fun i => bind_id (k i)
theorem Sim.bindR {α β δ : Type} {Φ : Fs} {n : Nat} {S : Sto} {b : B α} {r : R β} {P : Fs → Sto → α → β → Prop} {g : β → Sto → R δ} {P' : Fs → Sto → α → δ → Prop} (h : Sim Φ n S b r P) (i : ∀ Φ' n' S' a c, Post Φ n S Φ' n' S' → P Φ' S' a c → Sim Φ' n' S' (.ret a) (g c S') P') : Sim Φ n S b (r.bind g) P' := by
  have := h.bind (f := .ret) i
  rwa [bind_id] at this
/-- a turn of a comprehension -/
theorem turn_rel {tg : Tg} {c : CO} {ws : List Nat} {bB : SgB → B (Option PD)} {bA : Sg → Sto → R (Option PD)} (ic : CSim cB cA par c) (ib : Here bB bA PE) {n0 : Nat} {σ : SgB} {τ : Sg} {Φ : Fs} {n : Nat} {S : Sto} (r : RS n0 Φ S σ τ) (h : Feeds Φ S n) (x : PD) :
    Sim Φ n S ((B.opt (KB.bindTg tg x (KB.wipeD σ ws))).bind fun σ' => (KB.evC cB par σ' c).bind fun k => if k = true then bB σ' else .ret none) ((R.opt (KA.bindTg tg x (KA.wipeD τ ws)) S).bind fun σ' S => (KA.evC cA par σ' c S).bind fun k S => if k = true then bA σ' S else .ok none S) fun _ _ a c => a = c := by
  refine .opt h fun σ' e => ?_
  obtain ⟨τ', e2, r2⟩ := (r.wipe ws).bindTg h.lst e
  refine ⟨τ', e2, (ic n0 σ' τ' Φ n S r2 h).bind fun Φ1 n1 S1 k k' p1 e3 => ?_⟩
  cases (show k = k' from e3)
  by_cases hk : k = true
  · rw [if_pos hk, if_pos hk]
    exact ib n0 σ' τ' Φ1 n1 S1 (r2.mono p1.fr) p1.fe
  · rw [if_neg hk, if_neg hk]
    exact .ret p1.fe rfl
theorem elt_rel {e : CE} (ie : ESim cB cA par e) : Here (fun σ => ((KB.evE cB par σ e).bind KB.esc).bind fun y => .ret (some y)) (fun τ S => ((KA.evE cA par τ e S).bind fun v S => KA.esc S v).bind fun y S => .ok (some y) S) PE := fun n0 σ τ Φ n S r h =>
  ((ie n0 σ τ Φ n S r h).bind fun Φ1 n1 S1 v u p1 q1 => Sim.esc p1.fe q1).bind fun Φ2 n2 S2 a c p2 e => by
    cases (show a = c from e)
    exact .ret p2.fe rfl
theorem es_comp (m : Bool) {elt : CE} {tg : Tg} {it : CI} {c : CO} (ie : ESim cB cA par elt) (ii : ISim cB cA par it) (ic : CSim cB cA par c) : ESim cB cA par (.comp m elt (.mk tg it c)) := fun n0 σ τ Φ n S r h => by
  simp only [KB.evE, KA.evE]
  exact (ii n0 σ τ Φ n S r h).bind fun Φ1 n1 S1 xs ys p1 e => by
    obtain ⟨ys, gd⟩ := ys
    have gg : GG Φ1 S1 gd := e.2
    cases (show xs = ys from e.1)
    dsimp only
    refine (Sim.loopC p1.fe fun x Φ2 n2 S2 p2 => ?_).bind fun Φ3 n3 S3 a b p3 e3 => ?_
    · rw [grd_ok (gg.mono p2.fr).ok]
      exact turn_rel ic (elt_rel ie) ((r.mono p1.fr).mono p2.fr) p2.fe x
    · cases (show a = b from e3)
      rw [grd_ok (gg.mono p3.fr).ok]
      exact (Sim.newM p3.fe).imp fun _ _ _ _ _ _ q => PV.to (p1.trans p3) q
theorem es_comp2 (m : Bool) {elt : CE} {tg tg1 : Tg} {it it1 : CI} {c c1 : CO} (ie : ESim cB cA par elt) (ii : ISim cB cA par it) (ic : CSim cB cA par c) (ii1 : ISim cB cA par it1) (ic1 : CSim cB cA par c1) : ESim cB cA par (.comp2 m elt (.mk tg it c) (.mk tg1 it1 c1)) := fun n0 σ τ Φ n S r h => by
  simp only [KB.evE, KA.evE]
  exact (ii n0 σ τ Φ n S r h).bind fun Φ1 n1 S1 xs ys p1 e => by
    obtain ⟨ys, gd⟩ := ys
    have gg : GG Φ1 S1 gd := e.2
    cases (show xs = ys from e.1)
    dsimp only
    refine (Sim.loopC2 p1.fe fun x acc Φ2 n2 S2 p2 => ?_).bind fun Φ3 n3 S3 a b p3 e3 => ?_
    · rw [grd_ok (gg.mono p2.fr).ok]
      have r2 := (r.mono p1.fr).mono p2.fr
      refine .opt p2.fe fun σ' e => ?_
      obtain ⟨τ', e2, r3⟩ := (r2.wipe (tg.slots ++ tg1.slots)).bindTg p2.fe.lst e
      refine ⟨τ', e2, (ic n0 σ' τ' Φ2 n2 S2 r3 p2.fe).bind fun Φ3 n3 S3 k k' p3 e3 => ?_⟩
      cases (show k = k' from e3)
      by_cases hk : k = true
      · rw [if_pos hk, if_pos hk]
        exact (ii1 n0 σ' τ' Φ3 n3 S3 (r3.mono p3.fr) p3.fe).bind fun Φ4 n4 S4 zs zs' p4 e4 => by
          obtain ⟨zs', gd1⟩ := zs'
          have gg1 : GG Φ4 S4 gd1 := e4.2
          cases (show zs = zs' from e4.1)
          dsimp only
          refine (Sim.loopC p4.fe fun y Φ5 n5 S5 p5 => ?_).bindR fun Φ5 n5 S5 a b p5 e5 => ?_
          · rw [grd_ok (gg1.mono p5.fr).ok]
            exact turn_rel ic1 (elt_rel ie) (((r3.mono p3.fr).mono p4.fr).mono p5.fr) p5.fe y
          · cases (show a = b from e5)
            rw [grd_ok (gg1.mono p5.fr).ok]
            exact .ret p5.fe rfl
      · rw [if_neg hk, if_neg hk]
        exact .ret p3.fe rfl
    · cases (show a = b from e3)
      rw [grd_ok (gg.mono p3.fr).ok]
      exact (Sim.newM p3.fe).imp fun _ _ _ _ _ _ q => PV.to (p1.trans p3) q
/-! lists of expressions -/
theorem ess_nil : EsSim cB cA par .nil := fun n0 σ τ Φ n S r h => by
  simp only [KB.evEs, KA.evEs]
  exact .ret h ⟨.nil, fun i j l ds es hij h1 => by simp at h1⟩
theorem ess_cons {e : CE} {es : CEs} (ie : ESim cB cA par e) (is : EsSim cB cA par es) : EsSim cB cA par (.cons e es) := fun n0 σ τ Φ n S r h => by
  simp only [KB.evEs, KA.evEs]
  refine (ie n0 σ τ Φ n S r h).bind fun Φ1 n1 S1 v u p1 q1 => (is n0 σ τ Φ1 n1 S1 (r.mono p1.fr) p1.fe).bind fun Φ2 n2 S2 vs us p2 q2 => .ret p2.fe ⟨.cons (RV.mono p2.fr q1) (q2.1.le p1.fr.len), ?_⟩
  intro i j l ds es' hij h1 h2 h3 h4
  have first : ∀ (k : Nat) (ds : List PD), v = .own ds → (∃ zs, vs[k]? = some (.own zs)) → u = .loc l → us[k]? = some (.loc l) → False := fun k ds hv hk' hu hs => by
    obtain ⟨zs, hz⟩ := hk'
    subst hv hu
    obtain ⟨l', e', g1, g2, g3⟩ := q1
    cases e'
    obtain ⟨w, k1, k2⟩ := q2.1.get hz
    rw [hs] at k1; cases k1
    obtain ⟨l2, e2, _, _, g4⟩ := k2
    cases e2
    exact absurd (lt_at g1) (Nat.not_lt.mpr g4)
  cases i with
  | zero =>
    cases j with
    | zero => exact hij rfl
    | succ j =>
      simp at h1 h2 h3 h4
      exact first j ds h1 ⟨_, h2⟩ h3 h4
  | succ i =>
    cases j with
    | zero =>
      simp at h1 h2 h3 h4
      exact first i es' h2 ⟨_, h1⟩ h4 h3
    | succ j =>
      simp at h1 h2 h3 h4
      exact q2.2 i j l ds es' (fun e => hij (by rw [e])) h1 h2 h3 h4
theorem xs_nil : XsSim cB cA par .nil := fun n0 σ τ Φ n S r h => by
  simp only [KB.evXs, KA.evXs]
  exact .ret h rfl
theorem xs_cons {e : CE} {es : CEs} (ie : ESim cB cA par e) (is : XsSim cB cA par es) : XsSim cB cA par (.cons e es) := fun n0 σ τ Φ n S r h => by
  simp only [KB.evXs, KA.evXs]
  refine ((ie n0 σ τ Φ n S r h).bind fun Φ1 n1 S1 v u p1 q1 => Sim.esc p1.fe q1).bind fun Φ2 n2 S2 a c p2 e => (is n0 σ τ Φ2 n2 S2 (r.mono p2.fr) p2.fe).bind fun Φ3 n3 S3 vs us p3 e3 => ?_
  cases (show a = c from e)
  cases (show vs = us from e3)
  exact .ret p3.fe rfl
theorem and_nil : AndSim cB cA par .nil := fun n0 σ τ Φ n S r h => by
  simp only [KB.evAnd]
  exact .bad
theorem and_cons {e : CE} {es : CEs} (ie : ESim cB cA par e) (is : AndSim cB cA par es) : AndSim cB cA par (.cons e es) := fun n0 σ τ Φ n S r h => by
  cases es with
  | nil =>
    simp only [KB.evAnd, KA.evAnd]
    exact ie n0 σ τ Φ n S r h
  | cons a b =>
    simp only [KB.evAnd, KA.evAnd]
    exact (ie n0 σ τ Φ n S r h).bind fun Φ1 n1 S1 v u p1 q1 => (Sim.op1 p1.fe q1).bind fun Φ2 n2 S2 k k' p2 e => by
      subst e
      by_cases hk : k = true
      · rw [if_pos hk, if_pos hk]
        have := is n0 σ τ Φ2 n2 S2 ((r.mono p1.fr).mono p2.fr) p2.fe
        simp only [KB.evAnd, KA.evAnd] at this
        exact this.imp fun _ _ _ _ _ _ q => PV.to (p1.trans p2) q
      · rw [if_neg hk, if_neg hk]
        exact .ret p2.fe (.inl rfl)
theorem or_nil : OrSim cB cA par .nil := fun n0 σ τ Φ n S r h => by
  simp only [KB.evOr]
  exact .bad
theorem or_cons {e : CE} {es : CEs} (ie : ESim cB cA par e) (is : OrSim cB cA par es) : OrSim cB cA par (.cons e es) := fun n0 σ τ Φ n S r h => by
  cases es with
  | nil =>
    simp only [KB.evOr, KA.evOr]
    exact ie n0 σ τ Φ n S r h
  | cons a b =>
    simp only [KB.evOr, KA.evOr]
    exact (ie n0 σ τ Φ n S r h).bind fun Φ1 n1 S1 v u p1 q1 => (Sim.op1 p1.fe q1).bind fun Φ2 n2 S2 k k' p2 e => by
      subst e
      by_cases hk : k = true
      · rw [if_pos hk, if_pos hk]
        exact .ret p2.fe (.inl rfl)
      · rw [if_neg hk, if_neg hk]
        have := is n0 σ τ Φ2 n2 S2 ((r.mono p1.fr).mono p2.fr) p2.fe
        simp only [KB.evOr, KA.evOr] at this
        exact this.imp fun _ _ _ _ _ _ q => PV.to (p1.trans p2) q
theorem tand_nil : TAndSim cB cA par .nil := fun n0 σ τ Φ n S r h => by
  simp only [KB.evTAnd]
  exact .bad
theorem tand_cons {e : CE} {es : CEs} (ie : TSim cB cA par e) (is : TAndSim cB cA par es) : TAndSim cB cA par (.cons e es) := fun n0 σ τ Φ n S r h => by
  cases es with
  | nil =>
    simp only [KB.evTAnd, KA.evTAnd]
    exact ie n0 σ τ Φ n S r h
  | cons a b =>
    simp only [KB.evTAnd, KA.evTAnd]
    exact (ie n0 σ τ Φ n S r h).bind fun Φ2 n2 S2 k k' p2 e => by
      cases (show k = k' from e)
      by_cases hk : k = true
      · rw [if_pos hk, if_pos hk]
        have := is n0 σ τ Φ2 n2 S2 (r.mono p2.fr) p2.fe
        simp only [KB.evTAnd, KA.evTAnd] at this
        exact this
      · rw [if_neg hk, if_neg hk]
        exact .ret p2.fe rfl
theorem tor_nil : TOrSim cB cA par .nil := fun n0 σ τ Φ n S r h => by
  simp only [KB.evTOr]
  exact .bad
theorem tor_cons {e : CE} {es : CEs} (ie : TSim cB cA par e) (is : TOrSim cB cA par es) : TOrSim cB cA par (.cons e es) := fun n0 σ τ Φ n S r h => by
  cases es with
  | nil =>
    simp only [KB.evTOr, KA.evTOr]
    exact ie n0 σ τ Φ n S r h
  | cons a b =>
    simp only [KB.evTOr, KA.evTOr]
    exact (ie n0 σ τ Φ n S r h).bind fun Φ2 n2 S2 k k' p2 e => by
      cases (show k = k' from e)
      by_cases hk : k = true
      · rw [if_pos hk, if_pos hk]
        exact .ret p2.fe rfl
      · rw [if_neg hk, if_neg hk]
        have := is n0 σ τ Φ2 n2 S2 (r.mono p2.fr) p2.fe
        simp only [KB.evTOr, KA.evTOr] at this
        exact this
theorem c_none : CSim cB cA par .none := fun n0 σ τ Φ n S r h => by
  simp only [KB.evC, KA.evC]
  exact .ret h rfl
theorem c_some {e : CE} (ie : TSim cB cA par e) : CSim cB cA par (.some e) := fun n0 σ τ Φ n S r h => by
  simp only [KB.evC, KA.evC]
  exact ie n0 σ τ Φ n S r h
theorem o_none : OSim cB cA par .none := fun n0 σ τ Φ n S r h => by
  simp only [KB.evO, KA.evO]
  exact .ret h rfl
theorem o_some {e : CE} (ie : ESim cB cA par e) : OSim cB cA par (.some e) := fun n0 σ τ Φ n S r h => by
  simp only [KB.evO, KA.evO]
  exact (ie n0 σ τ Φ n S r h).bind fun Φ1 n1 S1 v u p1 q1 => (Sim.op1 p1.fe q1).bind fun Φ2 n2 S2 k k' p2 e => by
    subst e
    exact .ret p2.fe rfl
/-! what is walked -/
theorem Sim.src {Φ : Fs} {n n0 : Nat} {S : Sto} {v : VB} {u : VV} (h : Feeds Φ S n) (r : RV n0 Φ S v u) : Sim Φ n S (srcB v) (KA.src S u) fun Φ' S' a c => a = c.1 ∧ GG Φ' S' c.2 := by
  cases v with
  | d x =>
    rcases r with r | ⟨l, ds, h1, h2, h3, h4⟩
    · subst r; exact .ret h ⟨rfl, .nil⟩
    · subst h1 h3
      have : KA.src S (.loc l) = .ok (.list ds, []) S := by simp [KA.src, h2]
      rw [this]
      exact .ret h ⟨rfl, .nil⟩
  | own ds =>
    obtain ⟨l, h1, h2, h3, _⟩ := r
    subst h1
    have : KA.src S (.loc l) = .ok (.list ds, [(l, ds)]) S := by simp [KA.src, h2]
    rw [this]
    exact .ret h ⟨rfl, fun p hp => by simp at hp; subst hp; exact ⟨h2, h3⟩⟩
  | bor ds =>
    obtain ⟨l, h1, h2, h3⟩ := r
    subst h1
    have : KA.src S (.loc l) = .ok (.list ds, [(l, ds)]) S := by simp [KA.src, h2]
    rw [this]
    exact .ret h ⟨rfl, fun p hp => by simp at hp; subst hp; exact ⟨h2, h3⟩⟩
  | _ => exact .bad
theorem Sim.src0 {Φ : Fs} {n n0 : Nat} {S : Sto} {v : VB} {u : VV} (h : Feeds Φ S n) (r : RV n0 Φ S v u) : Sim Φ n S (KB.esc v) (KA.src S u) fun _ _ a c => c = (a, []) := by
  cases v with
  | d x =>
    rcases r with r | ⟨l, ds, h1, h2, h3, h4⟩
    · subst r; exact .ret h rfl
    · subst h1 h3
      have : KA.src S (.loc l) = .ok (.list ds, []) S := by simp [KA.src, h2]
      rw [this]
      exact .ret h rfl
  | _ => exact .bad
theorem es_rom (m : Str) {o : CE} {as : CEs} (io : ESim cB cA par o) (is : XsSim cB cA par as) : ESim cB cA par (.rom m o as) := fun n0 σ τ Φ n S r h => by
  simp only [KB.evE, KA.evE]
  refine (io n0 σ τ Φ n S r h).bind fun Φ1 n1 S1 v u p1 q1 => (Sim.src0 p1.fe q1).bind fun Φ2 n2 S2 a c p2 e => ?_
  subst e
  rw [if_pos rfl]
  exact (is n0 σ τ Φ2 n2 S2 ((r.mono p1.fr).mono p2.fr) p2.fe).bind fun Φ3 n3 S3 xs ys p3 e => by
    cases (show xs = ys from e)
    exact .opt p3.fe fun z ez => ⟨z, ez, .ret p3.fe (.inl rfl)⟩
theorem i_seq {e : CE} (ie : ESim cB cA par e) : ISim cB cA par (.seq e) := fun n0 σ τ Φ n S r h => by
  simp only [KB.evI, KA.evI]
  refine (ie n0 σ τ Φ n S r h).bind fun Φ1 n1 S1 v u p1 q1 => (Sim.src p1.fe q1).bind fun Φ2 n2 S2 a c p2 e => ?_
  obtain ⟨c, gd⟩ := c
  obtain ⟨e1, gg⟩ := e
  subst e1
  refine .opt p2.fe fun xs e2 => ⟨xs, e2, ?_⟩
  unfold chkL
  split
  · exact .ret p2.fe ⟨rfl, gg⟩
  · exact .bad
theorem is_seq {e : CE} (ie : ESim cB cA par e) : IsSim cB cA par (.seq e) := fun n0 σ τ Φ n S r h => by
  simp only [KB.evIs, KA.evI]
  refine (ie n0 σ τ Φ n S r h).bind fun Φ1 n1 S1 v u p1 q1 => (Sim.src0 p1.fe q1).bind fun Φ2 n2 S2 a c p2 e => ?_
  subst e
  refine .opt p2.fe fun xs e2 => ⟨xs, e2, ?_⟩
  unfold chkL
  split
  · exact .ret p2.fe rfl
  · exact .bad
theorem i_rng {e : CE} (ie : ESim cB cA par e) : ISim cB cA par (.rng e) := fun n0 σ τ Φ n S r h => by
  simp only [KB.evI, KA.evI]
  refine (ie n0 σ τ Φ n S r h).bind fun Φ1 n1 S1 v u p1 q1 => (Sim.op1 p1.fe q1).bind fun Φ2 n2 S2 a c p2 e => ?_
  subst e
  split
  · exact .ret p2.fe ⟨rfl, .nil⟩
  · exact .bad
theorem i_rng2 {a b : CE} (ia : ESim cB cA par a) (ib : ESim cB cA par b) : ISim cB cA par (.rng2 a b) := fun n0 σ τ Φ n S r h => by
  simp only [KB.evI, KA.evI]
  refine (ia n0 σ τ Φ n S r h).bind fun Φ1 n1 S1 v u p1 q1 => (ib n0 σ τ Φ1 n1 S1 (r.mono p1.fr) p1.fe).bind fun Φ2 n2 S2 w z p2 q2 =>
    (Sim.op1 p2.fe (RV.mono p2.fr q1)).bind fun Φ3 n3 S3 a c p3 e => (Sim.op1 p3.fe (RV.mono p3.fr q2)).bind fun Φ4 n4 S4 a c p4 e => ?_
  subst e
  subst e
  split
  · exact .ret p4.fe ⟨rfl, .nil⟩
  · exact .bad
theorem i_enum {e : CE} (ie : ESim cB cA par e) : ISim cB cA par (.enum e) := fun n0 σ τ Φ n S r h => by
  simp only [KB.evI, KA.evI]
  refine (ie n0 σ τ Φ n S r h).bind fun Φ1 n1 S1 v u p1 q1 => (Sim.src p1.fe q1).bind fun Φ2 n2 S2 a c p2 e => ?_
  obtain ⟨c, gd⟩ := c
  obtain ⟨e1, gg⟩ := e
  subst e1
  refine .opt p2.fe fun xs e2 => ⟨xs, e2, .chk fun _ => .ret p2.fe ⟨rfl, gg⟩⟩
theorem is_enum {e : CE} (ie : ESim cB cA par e) : IsSim cB cA par (.enum e) := fun n0 σ τ Φ n S r h => by
  simp only [KB.evIs, KA.evI]
  refine (ie n0 σ τ Φ n S r h).bind fun Φ1 n1 S1 v u p1 q1 => (Sim.src0 p1.fe q1).bind fun Φ2 n2 S2 a c p2 e => ?_
  subst e
  refine .opt p2.fe fun xs e2 => ⟨xs, e2, .chk fun _ => .ret p2.fe rfl⟩
theorem i_zip {a b : CE} (ia : ESim cB cA par a) (ib : ESim cB cA par b) : ISim cB cA par (.zip a b) := fun n0 σ τ Φ n S r h => by
  simp only [KB.evI, KA.evI]
  refine (ia n0 σ τ Φ n S r h).bind fun Φ1 n1 S1 v u p1 q1 => (Sim.src p1.fe q1).bind fun Φ2 n2 S2 a c p2 e => (ib n0 σ τ Φ2 n2 S2 ((r.mono p1.fr).mono p2.fr) p2.fe).bind fun Φ3 n3 S3 v u p3 q3 => (Sim.src p3.fe q3).bind fun Φ4 n4 S4 a2 c2 p4 e2 => ?_
  obtain ⟨c, gd⟩ := c
  obtain ⟨e1, gg⟩ := e
  subst e1
  obtain ⟨c2, gd2⟩ := c2
  obtain ⟨e3, gg2⟩ := e2
  subst e3
  refine .opt p4.fe fun xs e2 => ⟨xs, e2, ?_⟩
  unfold chkL
  split
  · exact .ret p4.fe ⟨rfl, ((gg.mono p3.fr).mono p4.fr).app gg2⟩
  · exact .bad
theorem i_zip3 {a b c : CE} (ia : ESim cB cA par a) (ib : ESim cB cA par b) (ic : ESim cB cA par c) : ISim cB cA par (.zip3 a b c) := fun n0 σ τ Φ n S r h => by
  simp only [KB.evI, KA.evI]
  refine (ia n0 σ τ Φ n S r h).bind fun Φ1 n1 S1 v u p1 q1 => (Sim.src0 p1.fe q1).bind fun Φ2 n2 S2 a c p2 e => (ib n0 σ τ Φ2 n2 S2 ((r.mono p1.fr).mono p2.fr) p2.fe).bind fun Φ3 n3 S3 v u p3 q3 => (Sim.src0 p3.fe q3).bind fun Φ4 n4 S4 a2 c2 p4 e2 =>
    (ic n0 σ τ Φ4 n4 S4 ((((r.mono p1.fr).mono p2.fr).mono p3.fr).mono p4.fr) p4.fe).bind fun Φ5 n5 S5 v u p5 q5 => (Sim.src0 p5.fe q5).bind fun Φ6 n6 S6 a3 c3 p6 e3 => ?_
  subst e
  subst e2
  subst e3
  refine .opt p6.fe fun xs e2 => ⟨xs, e2, ?_⟩
  unfold chkL
  split
  · exact .ret p6.fe ⟨rfl, .nil⟩
  · exact .bad
theorem is_zip3 {a b c : CE} (ia : ESim cB cA par a) (ib : ESim cB cA par b) (ic : ESim cB cA par c) : IsSim cB cA par (.zip3 a b c) := fun n0 σ τ Φ n S r h => by
  simp only [KB.evIs, KA.evI]
  refine (ia n0 σ τ Φ n S r h).bind fun Φ1 n1 S1 v u p1 q1 => (Sim.src0 p1.fe q1).bind fun Φ2 n2 S2 a c p2 e => (ib n0 σ τ Φ2 n2 S2 ((r.mono p1.fr).mono p2.fr) p2.fe).bind fun Φ3 n3 S3 v u p3 q3 => (Sim.src0 p3.fe q3).bind fun Φ4 n4 S4 a2 c2 p4 e2 =>
    (ic n0 σ τ Φ4 n4 S4 ((((r.mono p1.fr).mono p2.fr).mono p3.fr).mono p4.fr) p4.fe).bind fun Φ5 n5 S5 v u p5 q5 => (Sim.src0 p5.fe q5).bind fun Φ6 n6 S6 a3 c3 p6 e3 => ?_
  subst e
  subst e2
  subst e3
  refine .opt p6.fe fun xs e2 => ⟨xs, e2, ?_⟩
  unfold chkL
  split
  · exact .ret p6.fe rfl
  · exact .bad
theorem is_zip {a b : CE} (ia : ESim cB cA par a) (ib : ESim cB cA par b) : IsSim cB cA par (.zip a b) := fun n0 σ τ Φ n S r h => by
  simp only [KB.evIs, KA.evI]
  refine (ia n0 σ τ Φ n S r h).bind fun Φ1 n1 S1 v u p1 q1 => (Sim.src0 p1.fe q1).bind fun Φ2 n2 S2 a c p2 e => (ib n0 σ τ Φ2 n2 S2 ((r.mono p1.fr).mono p2.fr) p2.fe).bind fun Φ3 n3 S3 v u p3 q3 => (Sim.src0 p3.fe q3).bind fun Φ4 n4 S4 a2 c2 p4 e2 => ?_
  subst e
  subst e2
  refine .opt p4.fe fun xs e2 => ⟨xs, e2, ?_⟩
  unfold chkL
  split
  · exact .ret p4.fe rfl
  · exact .bad
theorem is_rng {e : CE} (ie : ESim cB cA par e) : IsSim cB cA par (.rng e) := fun n0 σ τ Φ n S r h => by
  simp only [KB.evIs, KA.evI]
  refine (ie n0 σ τ Φ n S r h).bind fun Φ1 n1 S1 v u p1 q1 => (Sim.op1 p1.fe q1).bind fun Φ2 n2 S2 a c p2 e => ?_
  subst e
  split
  · exact .ret p2.fe rfl
  · exact .bad
theorem is_rng2 {a b : CE} (ia : ESim cB cA par a) (ib : ESim cB cA par b) : IsSim cB cA par (.rng2 a b) := fun n0 σ τ Φ n S r h => by
  simp only [KB.evIs, KA.evI]
  refine (ia n0 σ τ Φ n S r h).bind fun Φ1 n1 S1 v u p1 q1 => (ib n0 σ τ Φ1 n1 S1 (r.mono p1.fr) p1.fe).bind fun Φ2 n2 S2 w z p2 q2 =>
    (Sim.op1 p2.fe (RV.mono p2.fr q1)).bind fun Φ3 n3 S3 a c p3 e => (Sim.op1 p3.fe (RV.mono p3.fr q2)).bind fun Φ4 n4 S4 a c p4 e => ?_
  subst e
  subst e
  split
  · exact .ret p4.fe rfl
  · exact .bad
theorem ts_val {e : CE} (ie : ESim cB cA par e) (hB : ∀ σ, KB.evT cB par σ e = (KB.evE cB par σ e).bind fun v => KB.op1 truthD v) (hA : ∀ τ S, KA.evT cA par τ e S = (KA.evE cA par τ e S).bind fun v S => KA.op1 truthD S v) : TSim cB cA par e := fun n0 σ τ Φ n S r h => by
  simp only [hB, hA]
  exact (ie n0 σ τ Φ n S r h).bind fun Φ1 n1 S1 v u p1 q1 => Sim.op1 p1.fe q1
theorem ts_bnot {e : CE} (ie : TSim cB cA par e) : TSim cB cA par (.bnot e) := fun n0 σ τ Φ n S r h => by
  simp only [KB.evT, KA.evT]
  exact (ie n0 σ τ Φ n S r h).bind fun Φ1 n1 S1 v u p1 e => by
    cases (show v = u from e)
    exact .ret p1.fe rfl
theorem ts_band {es : CEs} (is : TAndSim cB cA par es) : TSim cB cA par (.band es) := fun n0 σ τ Φ n S r h => by
  simp only [KB.evT, KA.evT]
  exact is n0 σ τ Φ n S r h
theorem ts_bor {es : CEs} (is : TOrSim cB cA par es) : TSim cB cA par (.bor es) := fun n0 σ τ Φ n S r h => by
  simp only [KB.evT, KA.evT]
  exact is n0 σ τ Φ n S r h
theorem es_band {es : CEs} (is : AndSim cB cA par es) : ESim cB cA par (.band es) := fun n0 σ τ Φ n S r h => by
  simp only [KB.evE, KA.evE]
  exact is n0 σ τ Φ n S r h
theorem es_bor {es : CEs} (is : OrSim cB cA par es) : ESim cB cA par (.bor es) := fun n0 σ τ Φ n S r h => by
  simp only [KB.evE, KA.evE]
  exact is n0 σ τ Φ n S r h
mutual
theorem es_all (hc : CallSim cB cA) : ∀ c : CE, ESim cB cA par c
  | .var i => es_var i
  | .con d => es_con d
  | .gcon x d => es_gcon x d
  | .bin op a b => es_bin op (es_all hc a) (es_all hc b)
  | .neg a => es_neg (es_all hc a)
  | .bnot a => es_bnot (es_all hc a)
  | .band as => es_band (and_all hc as)
  | .bor as => es_bor (or_all hc as)
  | .seteq a b => es_seteq (es_all hc a) (es_all hc b)
  | .ifx t a b => es_ifx (ts_all hc t) (es_all hc a) (es_all hc b)
  | .cmp op a b => es_cmp op (es_all hc a) (es_all hc b)
  | .cmp2 p q a b c => es_cmp2 p q (es_all hc a) (es_all hc b) (es_all hc c)
  | .isn n a => es_isn n (es_all hc a)
  | .call f as => es_call hc f (ess_all hc as)
  | .callk f ks as => es_callk hc f ks (ess_all hc as)
  | .blt b as => es_blt b (ess_all hc as)
  | .isin a ts => es_isin ts (es_all hc a)
  | .meth m o as => es_meth m o as
  | .sub a i => es_sub (es_all hc a) (es_all hc i)
  | .slc a lo hi => es_slc (es_all hc a) (o_all hc lo) (o_all hc hi)
  | .rev a => es_rev (es_all hc a)
  | .rom m o as => es_rom m (es_all hc o) (xs_all hc as)
  | .sset a => es_sset (es_all hc a)
  | .tup es => es_tup (xs_all hc es)
  | .lst m es => es_lst m (xs_all hc es)
  | .rng t m i => es_rng t m (i_all hc i)
  | .comp m elt (.mk tg it c) => es_comp m (es_all hc elt) (i_all hc it) (c_all hc c)
  | .comp2 m elt (.mk tg it c) (.mk tg1 it1 c1) => es_comp2 m (es_all hc elt) (i_all hc it) (c_all hc c) (i_all hc it1) (c_all hc c1)
theorem ts_all (hc : CallSim cB cA) : ∀ c : CE, TSim cB cA par c
  | .bnot a => ts_bnot (ts_all hc a)
  | .band as => ts_band (tand_all hc as)
  | .bor as => ts_bor (tor_all hc as)
  | .ifx t a b => fun n0 σ τ Φ n S r h => by simp only [KB.evT]; exact .bad
  | .seteq a b => fun n0 σ τ Φ n S r h => by simp only [KB.evT]; exact .bad
  | .var i => ts_val (es_var i) (by intros; simp only [KB.evT]) (by intros; simp only [KA.evT])
  | .con d => ts_val (es_con d) (by intros; simp only [KB.evT]) (by intros; simp only [KA.evT])
  | .gcon x d => ts_val (es_gcon x d) (by intros; simp only [KB.evT]) (by intros; simp only [KA.evT])
  | .bin op a b => ts_val (es_bin op (es_all hc a) (es_all hc b)) (by intros; simp only [KB.evT]) (by intros; simp only [KA.evT])
  | .neg a => ts_val (es_neg (es_all hc a)) (by intros; simp only [KB.evT]) (by intros; simp only [KA.evT])
  | .cmp op a b => ts_val (es_cmp op (es_all hc a) (es_all hc b)) (by intros; simp only [KB.evT]) (by intros; simp only [KA.evT])
  | .cmp2 p q a b c => ts_val (es_cmp2 p q (es_all hc a) (es_all hc b) (es_all hc c)) (by intros; simp only [KB.evT]) (by intros; simp only [KA.evT])
  | .isn n a => ts_val (es_isn n (es_all hc a)) (by intros; simp only [KB.evT]) (by intros; simp only [KA.evT])
  | .call f as => ts_val (es_call hc f (ess_all hc as)) (by intros; simp only [KB.evT]) (by intros; simp only [KA.evT])
  | .callk f ks as => ts_val (es_callk hc f ks (ess_all hc as)) (by intros; simp only [KB.evT]) (by intros; simp only [KA.evT])
  | .blt b as => ts_val (es_blt b (ess_all hc as)) (by intros; simp only [KB.evT]) (by intros; simp only [KA.evT])
  | .isin a ts => ts_val (es_isin ts (es_all hc a)) (by intros; simp only [KB.evT]) (by intros; simp only [KA.evT])
  | .meth m o as => ts_val (es_meth m o as) (by intros; simp only [KB.evT]) (by intros; simp only [KA.evT])
  | .sub a i => ts_val (es_sub (es_all hc a) (es_all hc i)) (by intros; simp only [KB.evT]) (by intros; simp only [KA.evT])
  | .slc a lo hi => ts_val (es_slc (es_all hc a) (o_all hc lo) (o_all hc hi)) (by intros; simp only [KB.evT]) (by intros; simp only [KA.evT])
  | .rev a => ts_val (es_rev (es_all hc a)) (by intros; simp only [KB.evT]) (by intros; simp only [KA.evT])
  | .rom m o as => ts_val (es_rom m (es_all hc o) (xs_all hc as)) (by intros; simp only [KB.evT]) (by intros; simp only [KA.evT])
  | .sset a => ts_val (es_sset (es_all hc a)) (by intros; simp only [KB.evT]) (by intros; simp only [KA.evT])
  | .tup es => ts_val (es_tup (xs_all hc es)) (by intros; simp only [KB.evT]) (by intros; simp only [KA.evT])
  | .lst m es => ts_val (es_lst m (xs_all hc es)) (by intros; simp only [KB.evT]) (by intros; simp only [KA.evT])
  | .rng t m i => ts_val (es_rng t m (i_all hc i)) (by intros; simp only [KB.evT]) (by intros; simp only [KA.evT])
  | .comp m elt (.mk tg it c) => ts_val (es_comp m (es_all hc elt) (i_all hc it) (c_all hc c)) (by intros; simp only [KB.evT]) (by intros; simp only [KA.evT])
  | .comp2 m elt (.mk tg it c) (.mk tg1 it1 c1) => ts_val (es_comp2 m (es_all hc elt) (i_all hc it) (c_all hc c) (i_all hc it1) (c_all hc c1)) (by intros; simp only [KB.evT]) (by intros; simp only [KA.evT])
theorem ess_all (hc : CallSim cB cA) : ∀ c : CEs, EsSim cB cA par c
  | .nil => ess_nil
  | .cons a as => ess_cons (es_all hc a) (ess_all hc as)
theorem xs_all (hc : CallSim cB cA) : ∀ c : CEs, XsSim cB cA par c
  | .nil => xs_nil
  | .cons a as => xs_cons (es_all hc a) (xs_all hc as)
theorem and_all (hc : CallSim cB cA) : ∀ c : CEs, AndSim cB cA par c
  | .nil => and_nil
  | .cons a as => and_cons (es_all hc a) (and_all hc as)
theorem or_all (hc : CallSim cB cA) : ∀ c : CEs, OrSim cB cA par c
  | .nil => or_nil
  | .cons a as => or_cons (es_all hc a) (or_all hc as)
theorem tand_all (hc : CallSim cB cA) : ∀ c : CEs, TAndSim cB cA par c
  | .nil => tand_nil
  | .cons a as => tand_cons (ts_all hc a) (tand_all hc as)
theorem tor_all (hc : CallSim cB cA) : ∀ c : CEs, TOrSim cB cA par c
  | .nil => tor_nil
  | .cons a as => tor_cons (ts_all hc a) (tor_all hc as)
theorem c_all (hc : CallSim cB cA) : ∀ c : CO, CSim cB cA par c
  | .none => c_none
  | .some a => c_some (ts_all hc a)
theorem o_all (hc : CallSim cB cA) : ∀ c : CO, OSim cB cA par c
  | .none => o_none
  | .some a => o_some (es_all hc a)
theorem i_all (hc : CallSim cB cA) : ∀ c : CI, ISim cB cA par c
  | .seq a => i_seq (es_all hc a)
  | .rng a => i_rng (es_all hc a)
  | .rng2 a b => i_rng2 (es_all hc a) (es_all hc b)
  | .enum a => i_enum (es_all hc a)
  | .zip a b => i_zip (es_all hc a) (es_all hc b)
  | .zip3 a b c => i_zip3 (es_all hc a) (es_all hc b) (es_all hc c)
end
theorem is_all (hc : CallSim cB cA) : ∀ c : CI, IsSim cB cA par c
  | .seq a => is_seq (es_all hc a)
  | .rng a => is_rng (es_all hc a)
  | .rng2 a b => is_rng2 (es_all hc a) (es_all hc b)
  | .enum a => is_enum (es_all hc a)
  | .zip a b => is_zip (es_all hc a) (es_all hc b)
  | .zip3 a b c => is_zip3 (es_all hc a) (es_all hc b) (es_all hc c)
end
end KB
/-! KB3: statements by values are those by places. -/
namespace KB
open PySem KA
/-! ### a frame of its own: places from n0 on -/
structure PW (n0 : Nat) (Φ : Fs) (S : Sto) (Φ' : Fs) (n' : Nat) (S' : Sto) : Prop where
  fr : Fr n0 Φ S Φ' S'
  fe : Feeds Φ' S' n'
def MtW {α β : Type} (n0 : Nat) (Φ : Fs) (S : Sto) (n' : Nat) (P : Fs → Sto → α → β → Prop) (X : Fs → Sto → Prop) : Leaf α → R β → Prop
  | .bad, _ => True
  | .ret a, .ok c S' => ∃ Φ', PW n0 Φ S Φ' n' S' ∧ P Φ' S' a c
  | .exc e, .exc e' S' => e = e' ∧ ∃ Φ', PW n0 Φ S Φ' n' S' ∧ X Φ' S'
  | _, _ => False
def SimW {α β : Type} (n0 : Nat) (Φ : Fs) (n : Nat) (S : Sto) (b : B α) (r : R β) (P : Fs → Sto → α → β → Prop) (X : Fs → Sto → Prop) : Prop := ∃ l n', Rch n b l n' ∧ MtW n0 Φ S n' P X l r
def MtS (n0 : Nat) (Φ : Fs) (S : Sto) (n' : Nat) : Leaf St → SR → Prop
  | .bad, _ => True
  | .ret (.nx σ), .nx τ S' => ∃ Φ', PW n0 Φ S Φ' n' S' ∧ RS n0 Φ' S' σ τ
  | .ret (.rt v), .rt u S' => ∃ Φ', PW n0 Φ S Φ' n' S' ∧ RV n0 Φ' S' v u
  | .ret (.ex e σ), .exc e' τ S' => e = e' ∧ ∃ Φ', PW n0 Φ S Φ' n' S' ∧ RS n0 Φ' S' σ τ
  | _, _ => False
def SimS (n0 : Nat) (Φ : Fs) (n : Nat) (S : Sto) (b : B St) (r : SR) : Prop := ∃ l n', Rch n b l n' ∧ MtS n0 Φ S n' l r
section
variable {α β γ δ : Type} {n0 : Nat} {Φ Φ' : Fs} {n n' : Nat} {S S' : Sto} {b : B α} {r : R β} {P : Fs → Sto → α → β → Prop} {X : Fs → Sto → Prop} {f : α → B γ} {g : β → Sto → R δ} {P' : Fs → Sto → γ → δ → Prop} {σ : SgB} {τ : Sg}
theorem PW.refl (h : Feeds Φ S n) : PW n0 Φ S Φ n S := ⟨Fr.refl, h⟩
theorem PW.trans {Φ2 : Fs} {n2 : Nat} {S2 : Sto} (p : PW n0 Φ S Φ' n' S') (q : PW n0 Φ' S' Φ2 n2 S2) : PW n0 Φ S Φ2 n2 S2 := ⟨p.fr.trans q.fr (Nat.le_refl _), q.fe⟩
theorem Post.pw (p : Post Φ n S Φ' n' S') (h : n0 ≤ S.length) : PW n0 Φ S Φ' n' S' := ⟨p.fr.le h, p.fe⟩
theorem SimW.bad : SimW n0 Φ n S (.bad : B α) r P X := ⟨_, _, .bad, trivial⟩
theorem SimW.ret {a : α} {c : β} (h : Feeds Φ S n) (p : P Φ S a c) : SimW n0 Φ n S (.ret a) (.ok c S) P X := ⟨_, _, .ret, Φ, .refl h, p⟩
theorem Sim.w (hn : n0 ≤ S.length) (h : Sim Φ n S b r P) (x : ∀ Φ' S' n', Post Φ n S Φ' n' S' → X Φ' S') : SimW n0 Φ n S b r P X := by
  obtain ⟨l, n1, h1, h2⟩ := h
  refine ⟨l, n1, h1, ?_⟩
  cases l with
  | bad => trivial
  | ret a =>
    cases r with
    | ok c S' => obtain ⟨Φ', p, q⟩ := h2; exact ⟨Φ', p.pw hn, q⟩
    | exc e S' => exact h2.elim
    | bad => exact h2.elim
  | exc e =>
    cases r with
    | ok c S' => exact h2.elim
    | exc e' S' => obtain ⟨he, Φ', p⟩ := h2; exact ⟨he, Φ', p.pw hn, x _ _ _ p⟩
    | bad => exact h2.elim
theorem MtW.from {l : Leaf α} {r : R β} {Φ2 : Fs} {n2 : Nat} {S2 : Sto} (p : PW n0 Φ S Φ' n' S') (h : MtW n0 Φ' S' n2 P X l r) : MtW n0 Φ S n2 P X l r := by
  cases l with
  | bad => trivial
  | ret a =>
    cases r with
    | ok c S' => obtain ⟨Φ', p2, q⟩ := h; exact ⟨Φ', p.trans p2, q⟩
    | exc e S' => exact h.elim
    | bad => exact h.elim
  | exc e =>
    cases r with
    | ok c S' => exact h.elim
    | exc e' S' => obtain ⟨he, Φ', p2, x⟩ := h; exact ⟨he, Φ', p.trans p2, x⟩
    | bad => exact h.elim
theorem SimW.bind (h : SimW n0 Φ n S b r P X) (i : ∀ Φ' n' S' a c, PW n0 Φ S Φ' n' S' → P Φ' S' a c → SimW n0 Φ' n' S' (f a) (g c S') P' X) : SimW n0 Φ n S (b.bind f) (r.bind g) P' X := by
  obtain ⟨l, n1, h1, h2⟩ := h
  cases l with
  | bad => exact ⟨_, _, h1.bind_bad, trivial⟩
  | ret a =>
    cases r with
    | ok c S' =>
      obtain ⟨Φ', p, q⟩ := h2
      obtain ⟨l2, n2, h3, h4⟩ := i _ _ _ _ _ p q
      exact ⟨l2, n2, h1.bind h3, MtW.from (Φ2 := Φ) (n2 := n2) (S2 := S) p h4⟩
    | exc e S' => exact h2.elim
    | bad => exact h2.elim
  | exc e =>
    cases r with
    | ok c S' => exact h2.elim
    | exc e' S' => exact ⟨_, _, h1.bind_exc, h2⟩
    | bad => exact h2.elim
theorem SimW.imp {Q : Fs → Sto → α → β → Prop} (h : SimW n0 Φ n S b r P X) (i : ∀ Φ' n' S' a c, PW n0 Φ S Φ' n' S' → P Φ' S' a c → Q Φ' S' a c) : SimW n0 Φ n S b r Q X := by
  obtain ⟨l, n1, h1, h2⟩ := h
  refine ⟨l, n1, h1, ?_⟩
  cases l with
  | bad => trivial
  | ret a =>
    cases r with
    | ok c S' => obtain ⟨Φ', p, q⟩ := h2; exact ⟨Φ', p, i _ _ _ _ _ p q⟩
    | exc e S' => exact h2.elim
    | bad => exact h2.elim
  | exc e => cases r <;> exact h2
theorem thenS_ret' {b : B α} {a : α} {n1 n2 : Nat} {F : α → B St} {l : Leaf St} (h : Rch n b (.ret a) n1) (g : Rch n1 (F a) l n2) : Rch n (thenS b σ F) l n2 := by
  generalize hl : Leaf.ret a = q at h
  induction h with
  | ret => cases hl; exact g
  | exc => cases hl
  | bad => cases hl
  | out => cases hl
  | neg _ => cases hl
  | draw h0 h1 _ ih => exact .draw h0 h1 (ih g hl)
theorem thenS_bad' {b : B α} {n1 : Nat} {F : α → B St} (h : Rch n b .bad n1) : Rch n (thenS b σ F) .bad n1 := by
  generalize hl : Leaf.bad = q at h
  induction h with
  | ret => cases hl
  | exc => cases hl
  | bad => exact .bad
  | out => exact .out
  | neg h => exact .neg h
  | draw h0 h1 _ ih => exact .draw h0 h1 (ih hl)
theorem thenS_exc' {b : B α} {n1 : Nat} {e : Ex} {F : α → B St} (h : Rch n b (.exc e) n1) : Rch n (thenS b σ F) (.ret (.ex e σ)) n1 := by
  generalize hl : Leaf.exc e = q at h
  induction h with
  | ret => cases hl
  | exc => cases hl; exact .ret
  | bad => cases hl
  | out => cases hl
  | neg h => cases hl
  | draw h0 h1 _ ih => exact .draw h0 h1 (ih hl)
theorem MtS.from {l : Leaf St} {r : SR} {n2 : Nat} (p : PW n0 Φ S Φ' n' S') (h : MtS n0 Φ' S' n2 l r) : MtS n0 Φ S n2 l r := by
  cases l with
  | bad => trivial
  | exc e => cases r <;> exact h.elim
  | ret a =>
    cases a with
    | nx σ =>
      cases r with
      | nx τ S2 => obtain ⟨Φ2, p2, q⟩ := h; exact ⟨Φ2, p.trans p2, q⟩
      | _ => exact h.elim
    | rt v =>
      cases r with
      | rt u S2 => obtain ⟨Φ2, p2, q⟩ := h; exact ⟨Φ2, p.trans p2, q⟩
      | _ => exact h.elim
    | ex e σ =>
      cases r with
      | exc e' τ S2 => obtain ⟨he, Φ2, p2, q⟩ := h; exact ⟨he, Φ2, p.trans p2, q⟩
      | _ => exact h.elim
theorem SimW.thenS {F : α → B St} {G : β → Sto → SR} (h : SimW n0 Φ n S b r P fun Φ' S' => RS n0 Φ' S' σ τ) (i : ∀ Φ' n' S' a c, PW n0 Φ S Φ' n' S' → P Φ' S' a c → SimS n0 Φ' n' S' (F a) (G c S')) : SimS n0 Φ n S (thenS b σ F) (r.thenS τ G) := by
  obtain ⟨l, n1, h1, h2⟩ := h
  cases l with
  | bad => exact ⟨_, _, thenS_bad' h1, trivial⟩
  | ret a =>
    cases r with
    | ok c S' =>
      obtain ⟨Φ', p, q⟩ := h2
      obtain ⟨l2, n2, h3, h4⟩ := i _ _ _ _ _ p q
      exact ⟨l2, n2, thenS_ret' h1 h3, MtS.from p h4⟩
    | exc e S' => exact h2.elim
    | bad => exact h2.elim
  | exc e =>
    cases r with
    | ok c S' => exact h2.elim
    | exc e' S' => exact ⟨_, _, thenS_exc' h1, h2⟩
    | bad => exact h2.elim
theorem SimS.bad {r : SR} : SimS n0 Φ n S .bad r := ⟨_, _, .bad, trivial⟩
theorem SimS.nx (h : Feeds Φ S n) (r : RS n0 Φ S σ τ) : SimS n0 Φ n S (.ret (.nx σ)) (.nx τ S) := ⟨_, _, .ret, Φ, .refl h, r⟩
theorem SimS.bind {b : B St} {r : SR} {F : SgB → B St} {G : Sg → Sto → SR} (h : SimS n0 Φ n S b r) (i : ∀ Φ' n' S' σ τ, PW n0 Φ S Φ' n' S' → RS n0 Φ' S' σ τ → SimS n0 Φ' n' S' (F σ) (G τ S')) : SimS n0 Φ n S (bindS b F) (r.bind G) := by
  obtain ⟨l, n1, h1, h2⟩ := h
  unfold bindS
  cases l with
  | bad => exact ⟨_, _, h1.bind_bad, trivial⟩
  | exc e => cases r <;> exact h2.elim
  | ret a =>
    cases a with
    | nx σ =>
      cases r with
      | nx τ S2 =>
        obtain ⟨Φ2, p2, q⟩ := h2
        obtain ⟨l2, n2, h3, h4⟩ := i _ _ _ _ _ p2 q
        exact ⟨l2, n2, h1.bind h3, MtS.from p2 h4⟩
      | _ => exact h2.elim
    | rt v =>
      cases r with
      | rt u S2 => exact ⟨_, _, h1.bind .ret, h2⟩
      | _ => exact h2.elim
    | ex e σ =>
      cases r with
      | exc e' τ S2 => exact ⟨_, _, h1.bind .ret, h2⟩
      | _ => exact h2.elim
/-- a list of its own is changed -/
theorem RS.put {i l : Nat} {ds ds' : List PD} (r : RS n0 Φ S σ τ) (h : Feeds Φ S n) (h1 : σ[i]? = some (some (.own ds))) (h2 : τ[i]? = some (some (.loc l))) : S[l]? = some (.lst ds) ∧ PW n0 Φ S Φ n (S.set l (.lst ds')) ∧ RS n0 Φ (S.set l (.lst ds')) (σ.set i (some (.own ds'))) τ := by
  obtain ⟨u, g1, g2⟩ := r.at_ i _ h1
  rw [h2] at g1; cases g1
  obtain ⟨l', e, k1, k2, k3⟩ := g2
  cases e
  have hl := lt_at k1
  have hi := lt_at2 h1
  refine ⟨k1, ⟨⟨by simp, fun _ q => q, fun _ _ q => q, fun j hj _ => by rw [List.getElem?_set_ne (by omega)]⟩, h.1, fun j q => ?_⟩, ⟨by simp [r.len], fun j v e => ?_, fun a b l2 es v hab e1 e2 e3 e4 => ?_⟩⟩
  · obtain ⟨a, b, c, e, q2⟩ := h.2 j q
    have : j ≠ l := fun z => k2 (z ▸ q)
    exact ⟨a, b, c, by rw [List.getElem?_set_ne (Ne.symm this)]; exact e, q2⟩
  · rcases get_set e with ⟨rfl, e', _⟩ | ⟨hj, e'⟩
    · cases e'
      exact ⟨_, h2, l, rfl, by rw [List.getElem?_set_self hl], k2, k3⟩
    · obtain ⟨u, g1, g2⟩ := r.at_ j v e'
      refine ⟨u, g1, ?_⟩
      have ne : ∀ l2, u = .loc l2 → l2 ≠ l := fun l2 hu hl2 => by
        subst hu hl2
        exact r.sep i j l2 ds v (Ne.symm hj) h1 h2 e' g1
      cases v with
      | d x =>
        rcases g2 with g2 | ⟨l2, ds2, m1, m2, m3, m4⟩
        · exact .inl g2
        · exact .inr ⟨l2, ds2, m1, by rw [List.getElem?_set_ne (Ne.symm (ne l2 m1))]; exact m2, m3, m4⟩
      | own ds2 =>
        obtain ⟨l2, m1, m2, m3, m4⟩ := g2
        exact ⟨l2, m1, by rw [List.getElem?_set_ne (Ne.symm (ne l2 m1))]; exact m2, m3, m4⟩
      | bor ds2 =>
        obtain ⟨l2, m1, m2, m3⟩ := g2
        exact ⟨l2, m1, by rw [List.getElem?_set_ne (Ne.symm (ne l2 m1))]; exact m2, m3⟩
      | feed => exact g2
      | ex e => exact g2
  · have hv : ∃ w, σ[b]? = some (some w) := by
      rcases get_set e3 with ⟨rfl, e', _⟩ | ⟨hb, e'⟩
      · exact ⟨_, h1⟩
      · exact ⟨_, e'⟩
    obtain ⟨w, hw⟩ := hv
    rcases get_set e1 with ⟨rfl, e', _⟩ | ⟨ha, e'⟩
    · exact r.sep a b l2 ds w hab h1 e2 hw e4
    · exact r.sep a b l2 es w hab e' e2 hw e4
where lt_at2 {α : Type} {l : List α} {i : Nat} {x : α} (h : l[i]? = some x) : i < l.length := (List.getElem?_eq_some_iff.mp h).1
theorem meth_rel {m : Str} {l : Nat} {ds ds' xs : List PD} {x : PD} (h : S[l]? = some (.lst ds)) (e : methL m ds xs = some (x, ds')) : KA.methV m (.loc l) xs S = .ok (.d x) (S.set l (.lst ds')) := by
  have md : ∀ F : List PD → Option (PD × List PD), F ds = some (x, ds') → mutD S l F = .ok (.d x) (S.set l (.lst ds')) := fun F hF => by
    unfold mutD
    rw [h]
    dsimp only
    rw [hF]
  unfold methL at e
  unfold KA.methV
  dsimp only
  by_cases h1 : m = "append"
  · rw [if_pos h1] at e ⊢
    split at e
    · exact md _ e
    · cases e
  · rw [if_neg h1] at e ⊢
    by_cases h2 : m = "extend"
    · rw [if_pos h2] at e ⊢
      split at e
      · exact md _ e
      · cases e
    · rw [if_neg h2] at e ⊢
      by_cases h3 : m = "pop"
      · rw [if_pos h3] at e ⊢
        split at e
        · exact md _ e
        · cases e
      · rw [if_neg h3] at e; cases e
end
section
variable {cB : Nat → List VB → B VB} {cA : Nat → List VV → Sto → R VV} {par : Nat → List Str}
abbrev WHere {α β : Type} (b : SgB → B α) (r : Sg → Sto → R β) (P : Nat → Sg → Fs → Sto → α → β → Prop) : Prop := ∀ (n0 : Nat) (σ : SgB) (τ : Sg) (Φ : Fs) (n : Nat) (S : Sto), n0 ≤ S.length → RS n0 Φ S σ τ → Feeds Φ S n → SimW n0 Φ n S (b σ) (r τ S) (P n0 τ) fun Φ' S' => RS n0 Φ' S' σ τ
theorem p1_sim (hc : CallSim cB cA) (e : CE) : WHere (fun σ => KB.evP1 cB par σ e) (fun τ S => (KA.evE cA par τ e S).bind fun v S => KA.esc S v) fun n0 τ Φ' S' a c => a.1 = c ∧ RS n0 Φ' S' a.2 τ := fun n0 σ τ Φ n S hn r h => by
  have plain : SimW n0 Φ n S (((KB.evE cB par σ e).bind KB.esc).bind fun x => .ret (x, σ)) ((KA.evE cA par τ e S).bind fun v S => KA.esc S v) (fun Φ' S' a c => a.1 = c ∧ RS n0 Φ' S' a.2 τ) fun Φ' S' => RS n0 Φ' S' σ τ := by
    have h1 : Sim Φ n S ((KB.evE cB par σ e).bind KB.esc) ((KA.evE cA par τ e S).bind fun v S => KA.esc S v) fun _ _ a c => a = c := (es_all (par := par) hc e n0 σ τ Φ n S r h).bind fun Φ1 n1 S1 v u p1 q1 => Sim.esc p1.fe q1
    have h2 := (h1.imp fun Φ' n' S' a c p q => (⟨q, r.mono p.fr⟩ : a = c ∧ RS n0 Φ' S' σ τ)).w (X := fun Φ' S' => RS n0 Φ' S' σ τ) hn fun Φ' S' n' p => r.mono p.fr
    have h3 := h2.bind (f := fun x => B.ret (x, σ)) (g := fun v S => R.ok v S) (P' := fun Φ' S' a c => a.1 = c ∧ RS n0 Φ' S' a.2 τ) fun Φ' n' S' a c p q => SimW.ret p.fe q
    have e0 : ∀ r : R PD, (r.bind fun v S => R.ok v S) = r := fun r => by cases r <;> rfl
    rw [e0] at h3
    exact h3
  cases e with
  | meth m o as =>
    cases o with
    | var j =>
      simp only [KB.evP1]
      cases q : σ[j]? with
      | none => exact .bad
      | some o =>
        cases o with
        | none => exact .bad
        | some v =>
          cases v with
          | own ds =>
            obtain ⟨u, g1, g2⟩ := r.at_ j _ q
            obtain ⟨l, e, k1, k2, k3⟩ := g2
            subst e
            simp only [KA.evE, g1, R.bind_ok]
            have e1 : ∀ rr : R (List PD), ((rr.bind fun xs S => KA.methV m (.loc l) xs S).bind fun v S => KA.esc S v) = rr.bind fun xs S => (KA.methV m (.loc l) xs S).bind fun v S => KA.esc S v := fun rr => by cases rr <;> rfl
            rw [e1]
            refine SimW.bind (((xs_all (par := par) hc as n0 σ τ Φ n S r h).imp fun Φ' n' S' a c p q => (⟨q, r.mono p.fr⟩ : a = c ∧ RS n0 Φ' S' σ τ)).w hn fun Φ' S' n' p => r.mono p.fr) fun Φ1 n1 S1 xs ys p1 ⟨e2, r1⟩ => ?_
            subst e2
            cases qm : methL m ds xs with
            | none => exact .bad
            | some rr =>
              obtain ⟨x, ds'⟩ := rr
              obtain ⟨m1, m2, m3⟩ := r1.put (ds' := ds') p1.fe q g1
              rw [meth_rel m1 qm]
              exact ⟨_, _, .ret, Φ1, m2, rfl, m3⟩
          | _ => exact .bad
    | _ =>
      simp only [KB.evP1, KB.evE, B.bind_bad]
      exact .bad
  | _ =>
    simp only [KB.evP1]
    exact plain
theorem p_sim (hc : CallSim cB cA) (es : CEs) : WHere (fun σ => KB.evP cB par σ es) (fun τ S => KA.evXs cA par τ es S) fun n0 τ Φ' S' a c => a.1 = c ∧ RS n0 Φ' S' a.2 τ := fun n0 σ τ Φ n S hn r h => by
  have plain : ∀ es, SimW n0 Φ n S ((KB.evXs cB par σ es).bind fun x => .ret (x, σ)) (KA.evXs cA par τ es S) (fun Φ' S' a c => a.1 = c ∧ RS n0 Φ' S' a.2 τ) fun Φ' S' => RS n0 Φ' S' σ τ := fun es => by
    have h1 := xs_all (par := par) hc es n0 σ τ Φ n S r h
    have h2 := (h1.imp fun Φ' n' S' a c p q => (⟨q, r.mono p.fr⟩ : a = c ∧ RS n0 Φ' S' σ τ)).w (X := fun Φ' S' => RS n0 Φ' S' σ τ) hn fun Φ' S' n' p => r.mono p.fr
    have h3 := h2.bind (f := fun x => B.ret (x, σ)) (g := fun v S => R.ok v S) (P' := fun Φ' S' a c => a.1 = c ∧ RS n0 Φ' S' a.2 τ) fun Φ' n' S' a c p q => SimW.ret p.fe q
    have e0 : ∀ r : R (List PD), (r.bind fun v S => R.ok v S) = r := fun r => by cases r <;> rfl
    rw [e0] at h3
    exact h3
  cases es with
  | nil =>
    simp only [KB.evP]
    exact plain .nil
  | cons e t =>
    cases t with
    | nil =>
      simp only [KB.evP, KA.evXs]
      exact SimW.bind (p1_sim hc e n0 σ τ Φ n S hn r h) fun Φ1 n1 S1 a c p1 q => by
        simp only [R.bind_ok]
        exact ⟨_, _, .ret, Φ1, .refl p1.fe, by rw [q.1], q.2⟩
    | cons e2 t2 =>
      simp only [KB.evP]
      exact plain _
theorem keep_rel {n0 : Nat} {Φ : Fs} {S : Sto} {v w : VB} (h : keep v = .ret w) : w = v ∧ ∀ ds, v ≠ .bor ds := by
  cases v <;> first | (cases h; exact ⟨rfl, fun _ => by simp⟩) | cases h
/-- a fresh value goes to a name -/
theorem RS.fresh {n0 : Nat} {Φ : Fs} {S : Sto} {σ : SgB} {τ : Sg} {v : VB} {u : VV} {i : Nat} (r : RS n0 Φ S σ τ) (hf : ∀ l, Φ l → ∃ ds, S[l]? = some (O.lst ds)) (q : RV n0 Φ S v u) (hb : ∀ ds, v ≠ .bor ds) (hl : ∀ (ds : List PD) (l : Nat), v = .own ds → u = VV.loc l → ∀ (j : Nat) (w : VB), σ[j]? = some (some w) → τ[j]? ≠ some (some (VV.loc l))) : RS n0 Φ S (σ.set i (some v)) (τ.set i (some u)) := by
  cases v with
  | d x => exact r.set hf q (.inl ⟨x, rfl⟩)
  | feed => exact r.set hf q (.inr (.inl rfl))
  | ex e => exact r.set hf q (.inr (.inr ⟨e, rfl⟩))
  | bor ds => exact absurd rfl (hb ds)
  | own ds =>
    obtain ⟨l, e, k1, k2, k3⟩ := q
    subst e
    have hl' := hl ds l rfl rfl
    refine ⟨by simp [r.len], fun j w h => ?_, fun a b l2 es w hab h1 h2 h3 h4 => ?_⟩
    · rcases get_set h with ⟨rfl, e, hlt⟩ | ⟨hj, h⟩
      · cases e
        exact ⟨_, by rw [List.getElem?_set_self (by rw [← r.len]; exact hlt)], l, rfl, k1, k2, k3⟩
      · obtain ⟨z, h1, h2⟩ := r.at_ j w h
        exact ⟨z, by rw [List.getElem?_set_ne (Ne.symm hj)]; exact h1, h2⟩
    · have cell : ∀ (c : Nat) (w : VB), (σ.set i (some (.own ds)))[c]? = some (some w) → (c = i ∧ w = .own ds ∧ (τ.set i (some (.loc l)))[c]? = some (some (.loc l))) ∨ (c ≠ i ∧ σ[c]? = some (some w) ∧ (τ.set i (some (.loc l)))[c]? = τ[c]?) := fun c w h => by
        rcases get_set h with ⟨rfl, e, hlt⟩ | ⟨hc, h⟩
        · cases e
          exact .inl ⟨rfl, rfl, by rw [List.getElem?_set_self (by rw [← r.len]; exact hlt)]⟩
        · exact .inr ⟨hc, h, by rw [List.getElem?_set_ne (Ne.symm hc)]⟩
      rcases cell a _ h1 with ⟨ra, ea, ta⟩ | ⟨ha, ea, ta⟩
      · rw [ta] at h2; cases h2
        rcases cell b w h3 with ⟨rb, _, _⟩ | ⟨hb', eb, tb⟩
        · exact hab (ra.trans rb.symm)
        · rw [tb] at h4; exact hl' b w eb h4
      · rw [ta] at h2
        rcases cell b w h3 with ⟨rb, eb, tb⟩ | ⟨hb', eb, tb⟩
        · rw [tb] at h4; cases h4
          exact hl' a _ ea h2
        · rw [tb] at h4; exact r.sep a b l2 es w hab ea h2 eb h4
theorem RS.lt {n0 : Nat} {Φ : Fs} {S : Sto} {σ : SgB} {τ : Sg} (r : RS n0 Φ S σ τ) (hf : ∀ l, Φ l → ∃ ds, S[l]? = some (O.lst ds)) {j l : Nat} {w : VB} (h : σ[j]? = some (some w)) (e : τ[j]? = some (some (.loc l))) : l < S.length := by
  obtain ⟨u, h1, h2⟩ := r.at_ j w h
  rw [e] at h1; cases h1
  cases w with
  | d x =>
    rcases h2 with h2 | ⟨l2, ds, e1, e2, _⟩
    · cases h2
    · cases e1; exact lt_at e2
  | own ds => obtain ⟨l2, e1, e2, _⟩ := h2; cases e1; exact lt_at e2
  | bor ds => obtain ⟨l2, e1, e2, _⟩ := h2; cases e1; exact lt_at e2
  | feed =>
    obtain ⟨l2, e1, e2⟩ := h2; cases e1
    obtain ⟨ds, e3⟩ := hf _ e2
    exact lt_at e3
  | ex x => cases h2
theorem set_sim (hc : CallSim cB cA) (e : CE) : WHere (fun σ => KB.evSet cB par σ e) (fun τ S => KA.evE cA par τ e S) fun n0 τ Φ' S' a c => ∀ i, RS n0 Φ' S' (a.2.set i (some a.1)) (τ.set i (some c)) := fun n0 σ τ Φ n S hn r h => by
  have plain : SimW n0 Φ n S (((KB.evE cB par σ e).bind keep).bind fun v => .ret (v, σ)) (KA.evE cA par τ e S) (fun Φ' S' a c => ∀ i, RS n0 Φ' S' (a.2.set i (some a.1)) (τ.set i (some c))) fun Φ' S' => RS n0 Φ' S' σ τ := by
    have h1 := es_all (par := par) hc e n0 σ τ Φ n S r h
    have h2 : Sim Φ n S (((KB.evE cB par σ e).bind keep).bind fun v => .ret (v, σ)) ((KA.evE cA par τ e S).bind fun v S => .ok v S) fun Φ' S' a c => ∀ i, RS n0 Φ' S' (a.2.set i (some a.1)) (τ.set i (some c)) := by
      have e1 : ∀ b : B VB, (b.bind keep).bind (fun v => B.ret (v, σ)) = b.bind fun v => (keep v).bind fun v => B.ret (v, σ) := fun b => by
        induction b with
        | draw m k ih => simp only [B.bind_draw, ih]
        | _ => rfl
      rw [e1]
      refine h1.bind fun Φ1 n1 S1 v u p1 q1 => ?_
      cases hk : keep v with
      | ret w =>
        obtain ⟨rfl, hb⟩ := keep_rel (n0 := n0) (Φ := Φ) (S := S) hk
        refine .ret p1.fe fun i => (r.mono p1.fr).fresh p1.fe.lst (RV.le hn q1) hb fun ds l ev eu j w' hw ht => ?_
        subst ev eu
        obtain ⟨l2, e2, k1, k2, k3⟩ := q1
        cases e2
        exact absurd (r.lt h.lst hw ht) (Nat.not_lt.mpr k3)
      | exc e => cases v <;> cases hk
      | bad => exact .bad
      | draw m k => cases v <;> cases hk
    have e0 : ∀ r : R VV, (r.bind fun v S => R.ok v S) = r := fun r => by cases r <;> rfl
    rw [e0] at h2
    exact h2.w hn fun Φ' S' n' p => r.mono p.fr
  cases e with
  | var j =>
    simp only [KB.evSet, KA.evE]
    cases q : σ[j]? with
    | none => exact .bad
    | some o =>
      cases o with
      | none => exact .bad
      | some v =>
        obtain ⟨u, g1, g2⟩ := r.at_ j _ q
        rw [g1]
        have own_or : (∃ ds, v = .own ds) ∨ ∀ ds, v ≠ .own ds := by
          cases v <;> first | exact .inl ⟨_, rfl⟩ | exact .inr fun _ => by simp
        rcases own_or with ⟨ds, rfl⟩ | hno
        · refine .ret h fun i => ?_
          have r0 : RS n0 Φ S (σ.set j none) τ := by
            refine ⟨by simp [r.len], fun a w e => ?_, fun a b l ds v hab h1 h2 h3 h4 => ?_⟩
            · rcases get_set e with ⟨_, e', _⟩ | ⟨_, e'⟩
              · cases e'
              · exact r.at_ a w e'
            · rcases get_set h1 with ⟨_, e', _⟩ | ⟨_, h1⟩
              · cases e'
              rcases get_set h3 with ⟨_, e', _⟩ | ⟨_, h3⟩
              · cases e'
              exact r.sep a b l ds v hab h1 h2 h3 h4
          refine r0.fresh h.lst g2 (by simp) fun ds' l ev eu b w hw ht => ?_
          subst eu
          rcases get_set hw with ⟨_, e', _⟩ | ⟨hb, hw⟩
          · cases e'
          · exact r.sep j b l ds w (Ne.symm hb) q g1 hw ht
        · have goal : SimW n0 Φ n S ((keep v).bind fun v => .ret (v, σ)) (.ok u S) (fun Φ' S' a c => ∀ i, RS n0 Φ' S' (a.2.set i (some a.1)) (τ.set i (some c))) fun Φ' S' => RS n0 Φ' S' σ τ := by
            cases hk : keep v with
            | ret w =>
              obtain ⟨rfl, hb⟩ := keep_rel (n0 := n0) (Φ := Φ) (S := S) hk
              exact .ret h fun i => r.fresh h.lst g2 hb fun ds l ev => absurd ev (hno ds)
            | exc e => cases v <;> cases hk
            | bad => exact .bad
            | draw m k => cases v <;> cases hk
          cases v with
          | own ds => exact absurd rfl (hno ds)
          | _ => exact goal
  | meth m o as =>
    cases o with
    | var j =>
      simp only [KB.evSet]
      have h1 := p1_sim (par := par) hc (.meth m (.var j) as) n0 σ τ Φ n S hn r h
      -- the method hands back plain data
      have key : ∀ (b : B (PD × SgB)) (rr : R VV), (∀ u S', rr = .ok u S' → ∃ x, u = .d x) → SimW n0 Φ n S b (rr.bind fun v S => KA.esc S v) (fun Φ' S' a c => a.1 = c ∧ RS n0 Φ' S' a.2 τ) (fun Φ' S' => RS n0 Φ' S' σ τ) →
          SimW n0 Φ n S (b.bind fun r => .ret (.d r.1, r.2)) rr (fun Φ' S' a c => ∀ i, RS n0 Φ' S' (a.2.set i (some a.1)) (τ.set i (some c))) fun Φ' S' => RS n0 Φ' S' σ τ := fun b rr hd hs => by
        obtain ⟨l, n1, k1, k2⟩ := hs
        cases l with
        | bad => exact ⟨_, _, k1.bind_bad, trivial⟩
        | ret a =>
          cases rr with
          | ok u S' =>
            obtain ⟨x, rfl⟩ := hd u S' rfl
            obtain ⟨Φ', p, q1, q2⟩ := k2
            refine ⟨_, _, k1.bind .ret, Φ', p, fun i => ?_⟩
            rw [q1]
            exact q2.setD p.fe.lst
          | exc e S' => exact k2.elim
          | bad => exact k2.elim
        | exc e =>
          cases rr with
          | ok u S' =>
            obtain ⟨x, rfl⟩ := hd u S' rfl
            exact k2.elim
          | exc e' S' => exact ⟨_, _, k1.bind_exc, k2⟩
          | bad => exact k2.elim
      refine key _ _ (fun u S' e => ?_) h1
      simp only [KA.evE] at e
      rcases hτ : τ[j]? with _ | _ | w
      · simp only [hτ, R.bind_bad] at e; cases e
      · simp only [hτ, R.bind_bad] at e; cases e
      · simp only [hτ, R.bind_ok] at e
        cases w with
        | loc l =>
          dsimp only at e
          cases hx : KA.evXs cA par τ as S with
          | ok xs S2 =>
            rw [hx] at e
            simp only [R.bind_ok] at e
            have md : ∀ F : List PD → Option (PD × List PD), mutD S2 l F = .ok u S' → ∃ x, u = .d x := fun F hF => by
              unfold mutD at hF
              split at hF
              · split at hF
                · cases hF; exact ⟨_, rfl⟩
                · cases hF
              · cases hF
            unfold KA.methV at e
            dsimp only at e
            split at e
            · split at e
              · exact md _ e
              · cases e
            · split at e
              · split at e
                · exact md _ e
                · cases e
              · split at e
                · split at e
                  · exact md _ e
                  · cases e
                · cases e
          | exc e' S2 => rw [hx] at e; cases e
          | bad => rw [hx] at e; cases e
        | d x => cases e
        | ex x => cases e
    | _ =>
      simp only [KB.evSet, KB.evE, B.bind_bad]
      exact .bad
  | _ =>
    simp only [KB.evSet]
    exact plain
end
end KB
/-! KB4: statements and calls by values are those by places. -/
namespace KB
open PySem KA
section
variable {cB : Nat → List VB → B VB} {cA : Nat → List VV → Sto → R VV} {par : Nat → List Str}
abbrev SSim (cB : Nat → List VB → B VB) (cA : Nat → List VV → Sto → R VV) (par : Nat → List Str) (s : CS) : Prop := ∀ (n0 : Nat) (σ : SgB) (τ : Sg) (Φ : Fs) (n : Nat) (S : Sto), n0 ≤ S.length → RS n0 Φ S σ τ → Feeds Φ S n → SimS n0 Φ n S (KB.evS cB par s σ) (KA.evS cA par s τ S)
abbrev SsSim (cB : Nat → List VB → B VB) (cA : Nat → List VV → Sto → R VV) (par : Nat → List Str) (s : CSs) : Prop := ∀ (n0 : Nat) (σ : SgB) (τ : Sg) (Φ : Fs) (n : Nat) (S : Sto), n0 ≤ S.length → RS n0 Φ S σ τ → Feeds Φ S n → SimS n0 Φ n S (KB.evSs cB par s σ) (KA.evSs cA par s τ S)
theorem PW.len {n0 : Nat} {Φ Φ' : Fs} {S S' : Sto} {n' : Nat} (p : PW n0 Φ S Φ' n' S') (h : n0 ≤ S.length) : n0 ≤ S'.length := Nat.le_trans h p.fr.len
/-- an expression in a statement -/
theorem e_then {α β : Type} {P : Sto → Fs → Sto → α → β → Prop} {b : SgB → B α} {r : Sg → Sto → R β} (i : Here b r P) {n0 : Nat} {σ : SgB} {τ : Sg} {Φ : Fs} {n : Nat} {S : Sto} (hn : n0 ≤ S.length) (h : RS n0 Φ S σ τ) (hf : Feeds Φ S n) {F : α → B St} {G : β → Sto → SR}
    (j : ∀ Φ' n' S' a c, n0 ≤ S'.length → RS n0 Φ' S' σ τ → Feeds Φ' S' n' → P S Φ' S' a c → SimS n0 Φ' n' S' (F a) (G c S')) : SimS n0 Φ n S (thenS (b σ) σ F) ((r τ S).thenS τ G) :=
  (((i n0 σ τ Φ n S h hf).imp fun Φ' n' S' a c p q => (⟨q, h.mono p.fr⟩ : P S Φ' S' a c ∧ RS n0 Φ' S' σ τ)).w hn fun Φ' S' n' p => h.mono p.fr).thenS fun Φ' n' S' a c p q => j Φ' n' S' a c (p.len hn) q.2 p.fe q.1
theorem ss_set (hc : CallSim cB cA) (i : Nat) (e : CE) : SSim cB cA par (.set i e) := fun n0 σ τ Φ n S hn r h => by
  simp only [KB.evS, KA.evS]
  exact (set_sim hc e n0 σ τ Φ n S hn r h).thenS fun Φ1 n1 S1 a c p q => SimS.nx p.fe (q i)
theorem keeps_bad : ∀ vs : List VB, (keeps vs = .ret vs ∧ ∀ v ∈ vs, ∀ ds, v ≠ .bor ds) ∨ keeps vs = .bad
  | [] => .inl ⟨rfl, by simp⟩
  | v :: vs => by
    unfold keeps
    rcases keeps_bad vs with ⟨h1, h2⟩ | h
    · have fin : keep v = .ret v → (∀ ds, v ≠ .bor ds) → (((keep v).bind fun v => (keeps vs).bind fun vs => .ret (v :: vs)) = .ret (v :: vs) ∧ ∀ w ∈ v :: vs, ∀ ds, w ≠ .bor ds) := fun hk hb => by
        rw [hk, h1]
        refine ⟨rfl, fun w hw ds => ?_⟩
        rcases List.mem_cons.mp hw with e | e
        · rw [e]; exact hb ds
        · exact h2 w e ds
      cases v with
      | bor ds => exact .inr rfl
      | d x => exact .inl (fin rfl fun _ => by simp)
      | own x => exact .inl (fin rfl fun _ => by simp)
      | feed => exact .inl (fin rfl fun _ => by simp)
      | ex e => exact .inl (fin rfl fun _ => by simp)
    · rw [h]
      cases v <;> exact .inr rfl
theorem fold_fresh {n0 : Nat} {Φ : Fs} {S : Sto} (hf : ∀ l, Φ l → ∃ ds, S[l]? = some (O.lst ds)) : ∀ (is : List Nat) (vs : List VB) (us : List VV) (σ : SgB) (τ : Sg), RS n0 Φ S σ τ → RVs n0 Φ S vs us → Ap vs us → (∀ v ∈ vs, ∀ ds, v ≠ .bor ds) →
    (∀ (k l : Nat) (ds : List PD), vs[k]? = some (.own ds) → us[k]? = some (VV.loc l) → ∀ (j : Nat) (w : VB), σ[j]? = some (some w) → τ[j]? ≠ some (some (VV.loc l))) →
    RS n0 Φ S ((is.zip vs).foldl (fun σ p => σ.set p.1 (some p.2)) σ) ((is.zip us).foldl (fun σ p => σ.set p.1 (some p.2)) τ)
  | [], _, _, _, _, r, _, _, _, _ => by simpa using r
  | i :: is, _, _, _, _, r, .nil, _, _, _ => by simpa using r
  | i :: is, _, _, σ, τ, r, .cons (v := v) (u := u) (vs := vs) (us := us) q t, ap, hb, hl => by
    rw [List.zip_cons_cons, List.zip_cons_cons, List.foldl_cons, List.foldl_cons]
    have r1 : RS n0 Φ S (σ.set i (some v)) (τ.set i (some u)) := r.fresh hf q (hb v (by simp)) fun ds l ev eu => hl 0 l ds (by rw [ev]; rfl) (by rw [eu]; rfl)
    refine fold_fresh hf is vs us _ _ r1 t (fun a b l ds es hab h1 h2 h3 => ap (a + 1) (b + 1) l ds es (by omega) (by simpa using h1) (by simpa using h2) (by simpa using h3) |> fun z => by simpa using z) (fun w hw => hb w (by simp [hw])) fun k l ds h1 h2 j w hw => ?_
    rcases get_set hw with ⟨rfl, ew, hlt⟩ | ⟨hj, hw⟩
    · cases ew
      rw [List.getElem?_set_self (by rw [← r.len]; exact hlt)]
      intro eu
      have eu : u = .loc l := by simpa using eu
      subst eu
      obtain ⟨u2, g1, g2⟩ := t.get h1
      rw [h2] at g1; cases g1
      obtain ⟨l2, e2, k1, k2, k3⟩ := g2
      cases e2
      cases v with
      | d x =>
        rcases q with q | ⟨l3, ds3, e3, e4, _⟩
        · cases q
        · cases e3
          rw [k1] at e4; cases e4
      | own ds0 => exact ap 0 (k + 1) _ ds0 ds (by omega) rfl (by simpa using h1) rfl (by simpa using h2)
      | bor ds0 => exact hb _ (by simp) ds0 rfl
      | feed =>
        obtain ⟨l3, e3, e4⟩ := q
        cases e3
        exact k2 e4
      | ex e => cases q
    · rw [List.getElem?_set_ne (Ne.symm hj)]
      exact hl (k + 1) l ds (by simpa using h1) (by simpa using h2) j w hw
theorem ss_par (hc : CallSim cB cA) (is : List Nat) (es : CEs) : SSim cB cA par (.par is es) := fun n0 σ τ Φ n S hn r h => by
  simp only [KB.evS, KA.evS]
  have h1 : Here (fun σ => (KB.evEs cB par σ es).bind keeps) (fun τ S => KA.evEs cA par τ es S) fun S Φ' S' vs us => PVs S Φ' S' vs us ∧ ∀ v ∈ vs, ∀ ds, v ≠ .bor ds := fun n0 σ τ Φ n S r h => by
    have e0 : ∀ r : R (List VV), (r.bind fun v S => R.ok v S) = r := fun r => by cases r <;> rfl
    have h2 := (ess_all (par := par) hc es n0 σ τ Φ n S r h).bind (f := keeps) (g := fun v S => R.ok v S) (P' := fun Φ' S' vs us => PVs S Φ' S' vs us ∧ ∀ v ∈ vs, ∀ ds, v ≠ .bor ds) fun Φ1 n1 S1 vs us p1 q1 => by
      rcases keeps_bad vs with ⟨k1, k2⟩ | k
      · rw [k1]; exact .ret p1.fe ⟨q1, k2⟩
      · rw [k]; exact .bad
    rw [e0] at h2
    exact h2
  have hs := h1 n0 σ τ Φ n S r h
  refine (((hs.imp fun Φ' n' S' a c p q => (⟨q, h.lst, p.fr⟩ : (PVs S Φ' S' a c ∧ ∀ v ∈ a, ∀ ds, v ≠ .bor ds) ∧ (∀ l, Φ l → ∃ ds, S[l]? = some (O.lst ds)) ∧ Fr S.length Φ S Φ' S')).w hn fun Φ' S' n' p => r.mono p.fr).thenS fun Φ1 n1 S1 vs us p1 ⟨⟨⟨q1, q2⟩, q3⟩, q4, fr⟩ => ?_)
  by_cases hl : vs.length = is.length
  · rw [if_pos hl, if_pos (q1.length ▸ hl)]
    refine SimS.nx p1.fe (fold_fresh p1.fe.lst is vs us σ τ (r.mono fr) (q1.le hn) q2 q3 fun k l ds e1 e2 j w hw ht => ?_)
    obtain ⟨u, g1, g2⟩ := q1.get e1
    rw [e2] at g1; cases g1
    obtain ⟨l2, z1, z2, z3, z4⟩ := g2
    cases z1
    exact absurd (r.lt h.lst hw ht) (Nat.not_lt.mpr z4)
  · rw [if_neg hl]; exact .bad
theorem ss_unp (hc : CallSim cB cA) (is : List Nat) (e : CE) : SSim cB cA par (.unp is e) := fun n0 σ τ Φ n S hn r h => by
  simp only [KB.evS, KA.evS]
  have h1 : Here (fun σ => (KB.evE cB par σ e).bind fun v => KB.op1 some v) (fun τ S => (KA.evE cA par τ e S).bind fun v S => KA.op1 some S v) PE := fun n0 σ τ Φ n S r h =>
    (es_all (par := par) hc e n0 σ τ Φ n S r h).bind fun Φ1 n1 S1 v u p1 q1 => Sim.op1 p1.fe q1
  refine e_then h1 hn r h fun Φ1 n1 S1 a c hn1 r1 f1 ea => ?_
  cases (show a = c from ea)
  cases itemsD a with
  | some xs =>
    dsimp only
    by_cases hl : xs.length = is.length
    · rw [if_pos hl, if_pos hl]
      exact SimS.nx f1 (RS.foldD f1.lst _ r1)
    · rw [if_neg hl]; exact .bad
  | none => exact .bad
theorem ss_sst (hc : CallSim cB cA) (o i e : CE) : SSim cB cA par (.sst o i e) := fun n0 σ τ Φ n S hn r h => by
  have h1 : Here (fun σ => (KB.evE cB par σ e).bind KB.esc) (fun τ S => (KA.evE cA par τ e S).bind fun v S => KA.esc S v) PE := fun n0 σ τ Φ n S r h =>
    (es_all (par := par) hc e n0 σ τ Φ n S r h).bind fun Φ1 n1 S1 v u p1 q1 => Sim.esc p1.fe q1
  have h2 : Here (fun σ => (KB.evE cB par σ i).bind fun v => KB.op1 intD v) (fun τ S => (KA.evE cA par τ i S).bind fun v S => KA.op1 some S v) fun _ _ _ k y => y = .int k := fun n0 σ τ Φ n S r h =>
    (es_all (par := par) hc i n0 σ τ Φ n S r h).bind fun Φ1 n1 S1 v u p1 q1 => by
      unfold KB.op1 KA.op1
      cases q : KB.rd v with
      | none => exact .bad
      | some x =>
        rw [q1.rd q]
        dsimp only
        cases x with
        | int k => exact .ret p1.fe rfl
        | _ => exact .bad
  cases o with
  | var j =>
    simp only [KB.evS, KA.evS]
    rcases hσ : σ[j]? with _ | _ | v
    · exact .bad
    · exact .bad
    · cases v with
      | own ds =>
        obtain ⟨u, g1, l, rfl, k1, k2, k3⟩ := r.at_ j _ hσ
        simp only [KA.evE, g1, R.thenS_ok]
        refine e_then h1 hn r h fun Φ1 n1 S1 a c hn1 r1 f1 ea => ?_
        cases (show a = c from ea)
        refine e_then h2 hn1 r1 f1 fun Φ2 n2 S2 k y hn2 r2 f2 ey => ?_
        subst ey
        cases hx : L2.ixN ds.length k with
        | none => exact .bad
        | some m =>
          obtain ⟨m1, m2, m3⟩ := r2.put (ds' := ds.set m a) f2 hσ g1
          have e1 : KA.setItem S2 (.loc l) (.int k) a = .ok () (S2.set l (.lst (ds.set m a))) := by
            unfold KA.setItem
            dsimp only
            rw [m1]
            dsimp only
            rw [hx]
          simp only [e1, R.thenS_ok]
          exact ⟨_, _, .ret, Φ2, m2, m3⟩
      | _ => exact .bad
  | _ =>
    simp only [KB.evS]
    exact .bad
theorem ss_expr (hc : CallSim cB cA) (e : CE) : SSim cB cA par (.expr e) := fun n0 σ τ Φ n S hn r h => by
  have plain : SimS n0 Φ n S (thenS ((KB.evE cB par σ e).bind fun _ => .ret σ) σ fun σ => .ret (.nx σ)) ((KA.evE cA par τ e S).thenS τ fun _ S => .nx τ S) := by
    have e0 : ∀ r : R VV, (r.bind fun v S => R.ok v S) = r := fun r => by cases r <;> rfl
    have h2 : Here (fun σ => (KB.evE cB par σ e).bind fun _ => .ret σ) (fun τ S => KA.evE cA par τ e S) fun _ _ _ a _ => True := fun n0 σ τ Φ n S r h => by
      have := (es_all (par := par) hc e n0 σ τ Φ n S r h).bind (f := fun _ => B.ret σ) (g := fun v S => R.ok v S) (P' := fun _ _ _ _ => True) fun Φ1 n1 S1 v u p1 q1 => .ret p1.fe trivial
      rw [e0] at this
      exact this
    have h3 : Sim Φ n S ((KB.evE cB par σ e).bind fun _ => .ret σ) (KA.evE cA par τ e S) fun Φ' S' a _ => a = σ ∧ RS n0 Φ' S' σ τ := by
      have := (es_all (par := par) hc e n0 σ τ Φ n S r h).bind (f := fun _ => B.ret σ) (g := fun v S => R.ok v S) (P' := fun Φ' S' a _ => a = σ ∧ RS n0 Φ' S' σ τ) fun Φ1 n1 S1 v u p1 q1 => .ret p1.fe ⟨rfl, r.mono p1.fr⟩
      rw [e0] at this
      exact this
    exact (h3.w hn fun Φ' S' n' p => r.mono p.fr).thenS fun Φ' n' S' a c p q => by
      rw [q.1]
      exact SimS.nx p.fe q.2
  simp only [KB.evS, KA.evS]
  cases e with
  | meth m o as =>
    cases o with
    | var i =>
      simp only [KB.evX]
      rcases hσ : σ[i]? with _ | _ | v
      · exact .bad
      · exact .bad
      · cases v with
        | own ds0 =>
          obtain ⟨u, g1, l, rfl, k1, k2, k3⟩ := r.at_ i _ hσ
          simp only [KA.evE, g1, R.bind_ok]
          refine (SimW.bind (P' := fun Φ' S' σ' _ => RS n0 Φ' S' σ' τ) (p_sim hc as n0 σ τ Φ n S hn r h) fun Φ1 n1 S1 a c p1 q1 => ?_).thenS fun Φ2 n2 S2 a c p q => SimS.nx p.fe q
          obtain ⟨q1, q2⟩ := q1
          subst q1
          rcases hσ1 : a.2[i]? with _ | _ | v
          · exact .bad
          · exact .bad
          · cases v with
            | own ds =>
              dsimp only
              obtain ⟨u, g2, l2, e2, k4, k5, k6⟩ := q2.at_ i _ hσ1
              rw [g1] at g2
              cases g2
              cases e2
              cases qm : methL m ds a.1 with
              | none => exact .bad
              | some rr =>
                obtain ⟨x, ds'⟩ := rr
                obtain ⟨m1, m2, m3⟩ := q2.put (ds' := ds') p1.fe hσ1 g1
                rw [meth_rel m1 qm]
                exact ⟨_, _, .ret, Φ1, m2, m3⟩
            | _ => exact .bad
        | _ => exact .bad
    | _ =>
      simp only [KB.evX, KB.evE, B.bind_bad]
      exact .bad
  | _ =>
    simp only [KB.evX]
    exact plain
theorem ss_ret (hc : CallSim cB cA) (e : CE) : SSim cB cA par (.ret e) := fun n0 σ τ Φ n S hn r h => by
  simp only [KB.evS, KA.evS]
  have plain : SimS n0 Φ n S (thenS (KB.evE cB par σ e) σ fun v => .ret (.rt v)) ((KA.evE cA par τ e S).thenS τ fun v S => .rt v S) := by
    have h3 : Sim Φ n S (KB.evE cB par σ e) (KA.evE cA par τ e S) fun Φ' S' v u => RV n0 Φ' S' v u := (es_all (par := par) hc e n0 σ τ Φ n S r h).imp fun _ _ _ _ _ p q => RV.le hn q
    exact (h3.w hn fun Φ' S' n' p => r.mono p.fr).thenS fun Φ' n' S' a c p q => ⟨_, _, .ret, Φ', .refl p.fe, q⟩
  cases e with
  | var i =>
    simp only [KB.evM, KA.evE]
    rcases hσ : σ[i]? with _ | _ | v
    · exact .bad
    · exact .bad
    · obtain ⟨u, g1, g2⟩ := r.at_ i _ hσ
      rw [g1]
      exact ⟨_, _, .ret, Φ, .refl h, g2⟩
  | _ =>
    simp only [KB.evM]
    exact plain
theorem ss_retN : SSim cB cA par .retN := fun n0 σ τ Φ n S hn r h => by
  simp only [KB.evS, KA.evS]
  exact ⟨_, _, .ret, Φ, .refl h, .inl rfl⟩
theorem ss_ifs (hc : CallSim cB cA) (t : CE) {a b : CSs} (ia : SsSim cB cA par a) (ib : SsSim cB cA par b) : SSim cB cA par (.ifs t a b) := fun n0 σ τ Φ n S hn r h => by
  simp only [KB.evS, KA.evS]
  refine e_then (ts_all (par := par) hc t) hn r h fun Φ1 n1 S1 c c' hn1 r1 f1 e => ?_
  cases (show c = c' from e)
  by_cases hc : c = true
  · rw [if_pos hc, if_pos hc]; exact ia _ _ _ _ _ _ hn1 r1 f1
  · rw [if_neg hc, if_neg hc]; exact ib _ _ _ _ _ _ hn1 r1 f1
theorem loopF_sim {n0 : Nat} {fB : PD → SgB → B St} {fA : PD → Sg → Sto → SR} (i : ∀ x σ τ Φ n S, n0 ≤ S.length → RS n0 Φ S σ τ → Feeds Φ S n → SimS n0 Φ n S (fB x σ) (fA x τ S)) : ∀ (xs : List PD) (σ : SgB) (τ : Sg) (Φ : Fs) (n : Nat) (S : Sto), n0 ≤ S.length → RS n0 Φ S σ τ → Feeds Φ S n → SimS n0 Φ n S (KB.loopF fB xs σ) (KA.loopF fA xs τ S)
  | [], σ, τ, Φ, n, S, hn, r, h => SimS.nx h r
  | x :: xs, σ, τ, Φ, n, S, hn, r, h => by
    unfold KB.loopF KA.loopF
    exact (i x σ τ Φ n S hn r h).bind fun Φ1 n1 S1 σ1 τ1 p1 r1 => loopF_sim i xs σ1 τ1 Φ1 n1 S1 (p1.len hn) r1 p1.fe
theorem sr_id (r : SR) : (r.bind fun σ S => .nx σ S) = r := by cases r <;> rfl
theorem ss_for (hc : CallSim cB cA) (tg : Tg) (it : CI) {b : CSs} (ib : SsSim cB cA par b) : SSim cB cA par (.for_ tg it b) := fun n0 σ τ Φ n S hn r h => by
  simp only [KB.evS, KA.evS]
  refine e_then (is_all (par := par) hc it) hn r h fun Φ1 n1 S1 c c' hn1 r1 f1 e => ?_
  cases (show c' = (c, []) from e)
  simp only [grdS_nil]
  rw [sr_id]
  refine loopF_sim (fun x σ τ Φ n S hn r h => ?_) c σ τ Φ1 n1 S1 hn1 r1 f1
  cases hb : KB.bindTg tg x σ with
  | none => exact .bad
  | some σ' =>
    obtain ⟨τ', e1, r2⟩ := r.bindTg h.lst hb
    rw [e1]
    exact ib _ _ _ _ _ _ hn r2 h
theorem loopW_sim {n0 : Nat} {tB : SgB → B Bool} {tA : Sg → Sto → R Bool} {fB : SgB → B St} {fA : Sg → Sto → SR} (it : Here tB tA PE) (i : ∀ σ τ Φ n S, n0 ≤ S.length → RS n0 Φ S σ τ → Feeds Φ S n → SimS n0 Φ n S (fB σ) (fA τ S)) : ∀ (k : Nat) (σ : SgB) (τ : Sg) (Φ : Fs) (n : Nat) (S : Sto), n0 ≤ S.length → RS n0 Φ S σ τ → Feeds Φ S n → SimS n0 Φ n S (KB.loopW tB fB k σ) (KA.loopW tA fA k τ S)
  | 0, σ, τ, Φ, n, S, hn, r, h => .bad
  | k + 1, σ, τ, Φ, n, S, hn, r, h => by
    unfold KB.loopW KA.loopW
    refine e_then it hn r h fun Φ1 n1 S1 c c' hn1 r1 f1 e => ?_
    cases (show c = c' from e)
    by_cases hc : c = true
    · rw [if_pos hc, if_pos hc]
      exact (i σ τ Φ1 n1 S1 hn1 r1 f1).bind fun Φ2 n2 S2 σ2 τ2 p2 r2 => loopW_sim it i k σ2 τ2 Φ2 n2 S2 (p2.len hn1) r2 p2.fe
    · rw [if_neg hc, if_neg hc]
      exact SimS.nx f1 r1
theorem ss_whil (hc : CallSim cB cA) (k : Nat) (t : CE) {b : CSs} (ib : SsSim cB cA par b) : SSim cB cA par (.whil k t b) := fun n0 σ τ Φ n S hn r h => by
  simp only [KB.evS, KA.evS]
  exact loopW_sim (ts_all (par := par) hc t) (fun σ τ Φ n S hn r h => ib _ _ _ _ _ _ hn r h) k σ τ Φ n S hn r h
theorem ss_aug (hc : CallSim cB cA) (i : Nat) (op : Operator) (e : CE) : SSim cB cA par (.aug i op e) := fun n0 σ τ Φ n S hn r h => by
  simp only [KB.evS, KA.evS]
  rcases hσ : σ[i]? with _ | _ | v
  · exact .bad
  · exact .bad
  · obtain ⟨u, g1, g2⟩ := r.at_ i _ hσ
    rw [g1]
    dsimp only
    have h3 : Sim Φ n S (KB.evE cB par σ e) (KA.evE cA par τ e S) fun Φ' S' w z => RV S.length Φ' S' w z ∧ RV n0 Φ' S' v u ∧ RS n0 Φ' S' σ τ := (es_all (par := par) hc e n0 σ τ Φ n S r h).imp fun _ _ _ _ _ p q => ⟨q, g2.mono p.fr, r.mono p.fr⟩
    refine (h3.w hn fun Φ' S' n' p => r.mono p.fr).thenS fun Φ1 n1 S1 w z p1 ⟨q1, q2, r1⟩ => ?_
    have h4 : Sim Φ1 n1 S1 (KB.op2 (augD op) v.lend w) (KA.op2 (augD op) S1 u z) fun Φ' S' a c => a = c ∧ RS n0 Φ' S' σ τ := (Sim.op2 p1.fe (q2.lend (n1 := n0)) q1).imp fun _ _ _ _ _ p q => ⟨q, r1.mono p.fr⟩
    refine (h4.w (p1.len hn) fun Φ' S' n' p => r1.mono p.fr).thenS fun Φ2 n2 S2 a c p2 ⟨q3, r2⟩ => ?_
    subst q3
    exact SimS.nx p2.fe (r2.setD p2.fe.lst)
theorem ss_raise (c : Str) (as : CEs) : SSim cB cA par (.raise_ c as) := fun n0 σ τ Φ n S hn r h => by
  simp only [KB.evS, KA.evS]
  exact ⟨_, _, .ret, rfl, Φ, .refl h, r⟩
theorem ss_frz (i : Nat) : SSim cB cA par (.frz i) := fun n0 σ τ Φ n S hn r h => by
  simp only [KB.evS, KA.evS]
  have same : SimS n0 Φ n S (.ret (.nx σ)) (.nx τ S) := SimS.nx h r
  -- by places more may be frozen than by values
  have go : ∀ l ds, τ[i]? = some (some (VV.loc l)) → S[l]? = some (.lst ds) → (∃ es, σ[i]? = some (some (.own es))) → ∃ σ', (match σ[i]? with | some (some (.own ds)) => B.ret (St.nx (σ.set i (some (.d (.list ds))))) | some (some (.d _)) => .ret (.nx σ) | _ => .bad) = .ret (.nx σ') ∧ SimS n0 Φ n S (.ret (.nx σ')) (.nx τ (S.set l (.frz ds))) := fun l ds ht hS ⟨es, hσ⟩ => by
    obtain ⟨u, g1, l2, e2, k1, k2, k3⟩ := r.at_ i _ hσ
    rw [ht] at g1; cases g1; cases e2
    rw [hS] at k1; cases k1
    rw [hσ]
    refine ⟨_, rfl, _, _, .ret, Φ, ⟨⟨by simp, fun _ q => q, fun _ _ q => q, fun j hj _ => by rw [List.getElem?_set_ne (by omega)]⟩, h.1, fun j q => ?_⟩, ⟨by simp [r.len], fun j v e => ?_, fun a b l3 fs v hab e1 e2 e3 e4 => ?_⟩⟩
    · obtain ⟨a, b, c, e, q2⟩ := h.2 j q
      have : j ≠ l := fun z => k2 (z ▸ q)
      exact ⟨a, b, c, by rw [List.getElem?_set_ne (Ne.symm this)]; exact e, q2⟩
    · rcases get_set e with ⟨rfl, e', _⟩ | ⟨hj, e'⟩
      · cases e'
        exact ⟨_, ht, .inr ⟨l, ds, rfl, by rw [List.getElem?_set_self (lt_at hS)], rfl, k2⟩⟩
      · obtain ⟨u, g1, g2⟩ := r.at_ j v e'
        refine ⟨u, g1, ?_⟩
        have ne : ∀ l2, u = .loc l2 → l2 ≠ l := fun l2 hu hl2 => by
          subst hu hl2
          exact r.sep i j l2 ds v (Ne.symm hj) hσ ht e' g1
        cases v with
        | d x =>
          rcases g2 with g2 | ⟨l2, ds2, m1, m2, m3, m4⟩
          · exact .inl g2
          · exact .inr ⟨l2, ds2, m1, by rw [List.getElem?_set_ne (Ne.symm (ne l2 m1))]; exact m2, m3, m4⟩
        | own ds2 =>
          obtain ⟨l2, m1, m2, m3, m4⟩ := g2
          exact ⟨l2, m1, by rw [List.getElem?_set_ne (Ne.symm (ne l2 m1))]; exact m2, m3, m4⟩
        | bor ds2 =>
          obtain ⟨l2, m1, m2, m3⟩ := g2
          exact ⟨l2, m1, by rw [List.getElem?_set_ne (Ne.symm (ne l2 m1))]; exact m2, m3⟩
        | feed => exact g2
        | ex e => exact g2
    · rcases get_set e1 with ⟨rfl, e', _⟩ | ⟨ha, e'⟩
      · cases e'
      · rcases get_set e3 with ⟨rfl, e'', _⟩ | ⟨hb, e''⟩
        · exact r.sep a b l3 fs _ hab e' e2 hσ e4
        · exact r.sep a b l3 fs v hab e' e2 e'' e4
  rcases hσ : σ[i]? with _ | _ | v
  · exact .bad
  · exact .bad
  · obtain ⟨u, g1, g2⟩ := r.at_ i _ hσ
    cases v with
    | own ds =>
      obtain ⟨l, rfl, k1, _⟩ := g2
      obtain ⟨σ', h1, h2⟩ := go l ds g1 k1 ⟨ds, hσ⟩
      rw [hσ] at h1
      have e := (show B.ret (St.nx (σ.set i (some (.d (.list ds))))) = B.ret (St.nx σ') from h1)
      rw [g1]
      dsimp only
      rw [k1]
      show SimS n0 Φ n S (B.ret (St.nx (σ.set i (some (.d (.list ds)))))) _
      rw [e]
      exact h2
    | d x =>
      rcases g2 with rfl | ⟨l, ds, rfl, k1, _⟩
      · rw [g1]; exact same
      · rw [g1]
        dsimp only
        rw [k1]
        exact same
    | _ => exact .bad
theorem ss_pass : SSim cB cA par .pass := fun n0 σ τ Φ n S hn r h => by
  simp only [KB.evS, KA.evS]
  exact SimS.nx h r
theorem ss_try {b : CSs} (c : Str) (i j : Nat) (ib : SsSim cB cA par b) : SSim cB cA par (.try_ b c i j) := fun n0 σ τ Φ n S hn r h => by
  simp only [KB.evS, KA.evS]
  obtain ⟨l, n1, h1, h2⟩ := ib n0 σ τ Φ n S hn r h
  generalize KA.evSs cA par b τ S = rr at h2
  cases l with
  | bad => exact ⟨_, _, h1.bind_bad, trivial⟩
  | exc e => cases rr <;> exact h2.elim
  | ret a =>
    cases a with
    | nx σ1 =>
      cases rr with
      | nx τ1 S1 => exact ⟨_, _, h1.bind .ret, h2⟩
      | _ => exact h2.elim
    | rt v =>
      cases rr with
      | rt u S1 => exact ⟨_, _, h1.bind .ret, h2⟩
      | _ => exact h2.elim
    | ex e σ1 =>
      cases rr with
      | exc e' τ1 S1 =>
        obtain ⟨he, Φ1, p1, r1⟩ := h2
        subst he
        dsimp only
        by_cases hc : e.c ∈ EXN ∧ c ∈ EXN ∧ isSub e.c c = true
        · refine ⟨_, n1, h1.bind (l := .ret (.nx ((σ1.set j (some (.ex e))).set i none))) (n2 := n1) (by dsimp only; rw [if_pos hc]; exact .ret), ?_⟩
          rw [if_pos hc]
          exact ⟨Φ1, p1, (r1.set p1.fe.lst (show RV n0 Φ1 S1 (.ex e) (.ex e) from rfl) (.inr (.inr ⟨e, rfl⟩))).none⟩
        · exact ⟨.bad, n1, h1.bind (l := .bad) (n2 := n1) (by dsimp only; rw [if_neg hc]; exact .bad), trivial⟩
      | _ => exact h2.elim
theorem sss_nil : SsSim cB cA par .nil := fun n0 σ τ Φ n S hn r h => by
  simp only [KB.evSs, KA.evSs]
  exact SimS.nx h r
theorem sss_cons {s : CS} {ss : CSs} (is : SSim cB cA par s) (iss : SsSim cB cA par ss) : SsSim cB cA par (.cons s ss) := fun n0 σ τ Φ n S hn r h => by
  simp only [KB.evSs, KA.evSs]
  exact (is _ _ _ _ _ _ hn r h).bind fun Φ1 n1 S1 σ1 τ1 p1 r1 => iss _ _ _ _ _ _ (p1.len hn) r1 p1.fe
mutual
theorem ss_all (hc : CallSim cB cA) : ∀ s : CS, SSim cB cA par s
  | .set i e => ss_set hc i e
  | .par is es => ss_par hc is es
  | .unp is e => ss_unp hc is e
  | .sst o i e => ss_sst hc o i e
  | .expr e => ss_expr hc e
  | .ret e => ss_ret hc e
  | .retN => ss_retN
  | .ifs t a b => ss_ifs hc t (sss_all hc a) (sss_all hc b)
  | .for_ tg it b => ss_for hc tg it (sss_all hc b)
  | .whil n t b => ss_whil hc n t (sss_all hc b)
  | .aug i op e => ss_aug hc i op e
  | .raise_ c as => ss_raise c as
  | .try_ b c i j => ss_try c i j (sss_all hc b)
  | .pass => ss_pass
  | .frz i => ss_frz i
theorem sss_all (hc : CallSim cB cA) : ∀ s : CSs, SsSim cB cA par s
  | .nil => sss_nil
  | .cons s ss => sss_cons (ss_all hc s) (sss_all hc ss)
end
end
/-! ### calls -/
/-- a def that draws; one that makes a feed -/
def DrawOk (T : Tab) (f : Nat) : Prop := ∀ (d : FD), T f = some d → ∀ (k : Nat) (S : Sto) (l n : Nat) (m : Int), 0 < m → m < 18446744073709551616 → Feed S l (n + 1) → ∃ (i : Int) (S' : Sto), KA.evCall T (k + 1) f [.loc l, .d (.int m)] S = .ok (.d (.int i)) S' ∧ 0 ≤ i ∧ i < m ∧ Feed S' l n ∧ S'.length = S.length ∧ ∀ j, j ≠ l → S'[j]? = S[j]?
def FeedOk (T : Tab) (f : Nat) : Prop := ∀ (d : FD), T f = some d → ∀ (k : Nat) (S : Sto) (u : VV) (ns : List Int) (c : Int), KA.rd S u = some (.list (ns.map .int)) → 0 ≤ c → c < 1000 → ns.length < 1000 → ∃ a b : Int, KA.evCall T (k + 1) f [u, .d (.int c)] S = .ok (.loc S.length) (S ++ [.lst [.int a, .int b, .int 0]]) ∧ 0 ≤ a ∧ 0 ≤ b ∧ b < 2 ^ 200
theorem ints_eq : ∀ {ds : List PD} {ns : List Int}, intsD ds = some ns → ds = ns.map .int
  | [], ns, e => by cases e; rfl
  | x :: r, ns, e => by
    cases x with
    | int i =>
      unfold intsD at e
      cases h : intsD r with
      | none => rw [h] at e; cases e
      | some m =>
        rw [h] at e
        have : i :: m = ns := by simpa using e
        subst this
        rw [List.map_cons, ints_eq h]
    | _ => cases e
theorem rv_int {n0 : Nat} {Φ : Fs} {S : Sto} {x : PD} {u : VV} (hx : ∀ ds, x ≠ .list ds) (r : RV n0 Φ S (.d x) u) : u = .d x := by
  rcases r with r | ⟨_, ds, _, _, e, _⟩
  · exact r
  · exact absurd e (hx ds)
theorem feed_le {S : Sto} {l n n' : Nat} (h : Feed S l n) (hn : n' ≤ n) : Feed S l n' := by
  obtain ⟨a, b, c, e, h1, h2, h3, h4, h5⟩ := h
  exact ⟨a, b, c, e, h1, h2, h3, h4, by omega⟩
theorem start_rel {Φ : Fs} {S : Sto} {n0 n1 N : Nat} {vs : List VB} {us : List VV} (r : RVs n0 Φ S vs us) : RS n1 Φ S (KB.startD N vs) (KA.startD N us) := by
  have hl := r.length
  have at_ : ∀ (i : Nat) (v : VB), (KB.startD N vs)[i]? = some (some v) → ∃ w u, vs[i]? = some w ∧ v = w.lend ∧ (KA.startD N us)[i]? = some (some u) ∧ RV n0 Φ S w u := fun i v h => by
    unfold KB.startD at h
    unfold KA.startD
    by_cases hi : i < vs.length
    · rw [List.getElem?_append_left (by simpa using hi), List.getElem?_map] at h
      rw [List.getElem?_append_left (by rw [List.length_map, ← hl]; exact hi), List.getElem?_map]
      cases hv : vs[i]? with
      | none => rw [hv] at h; cases h
      | some w =>
        rw [hv] at h
        obtain ⟨u, h1, h2⟩ := r.get hv
        rw [h1]
        exact ⟨w, u, rfl, (Option.some.inj (Option.some.inj h)).symm, rfl, h2⟩
    · rw [List.getElem?_append_right (by simpa using hi), List.getElem?_replicate] at h
      split at h <;> cases h
  refine ⟨by simp [KB.startD, KA.startD, hl], fun i v h => ?_, fun i j l ds v hij h1 h2 h3 h4 => ?_⟩
  · obtain ⟨w, u, _, e, h1, h2⟩ := at_ i v h
    subst e
    exact ⟨u, h1, h2.lend⟩
  · obtain ⟨w, u, _, e, _, _⟩ := at_ i _ h1
    cases w <;> cases e
theorem fin_t (ds : List PD) : finB true (.rt (.own ds)) = .ret (.own ds) := rfl
theorem fin_f (ds : List PD) : finB false (.rt (.own ds)) = .ret (.d (.list ds)) := rfl
theorem call_sim {N : Kn} {T : Tab} (hd : ∀ f ∈ N.draw, DrawOk T f) (hfe : ∀ f ∈ N.feed, FeedOk T f) : ∀ k, CallSim (KB.evCall N T k) (KA.evCall T k)
  | 0 => fun f vs us Φ n S n0 r h => by
    unfold KB.evCall
    exact .bad
  | k + 1 => fun f vs us Φ n S n0 r h => by
    have hlt : ∀ l, Φ l → l < S.length := fun l q => by
      obtain ⟨ds, e⟩ := h.lst l q
      exact lt_at e
    unfold KB.evCall
    cases hT : T f with
    | none => exact .bad
    | some d =>
    dsimp only
    by_cases h1 : f ∈ N.draw
    · rw [if_pos h1]
      unfold drawB
      split
      · rename_i m
        cases r with
        | cons q t =>
          cases t with
          | cons q2 t2 =>
            cases t2
            obtain ⟨l, rfl, hl⟩ := q
            have := rv_int (by simp) q2
            subst this
            split
            · rename_i hm2
              by_cases hm : 0 < m
              · cases n with
                | zero => exact ⟨_, _, .out, trivial⟩
                | succ n =>
                  obtain ⟨i, S', e, i0, i1, hF, e1, e2⟩ := hd f h1 d hT k S l n m hm hm2 (h.2 l hl)
                  rw [e]
                  refine ⟨_, n, .draw i0 i1 .ret, Φ, ⟨⟨by omega, fun _ q => q, fun _ _ q => q, fun j _ q => e2 j fun z => q (z ▸ hl)⟩, by have := h.1; omega, fun j q => ?_⟩, .inl rfl⟩
                  by_cases hj : j = l
                  · subst hj; exact hF
                  · obtain ⟨a, b, c, g1, g2⟩ := feed_le (h.2 j q) (Nat.le_succ n)
                    exact ⟨a, b, c, by rw [e2 j hj]; exact g1, g2⟩
              · exact ⟨_, _, .neg hm, trivial⟩
            · exact .bad
      · exact .bad
    · rw [if_neg h1]
      by_cases h2 : f ∈ N.feed
      · rw [if_pos h2]
        unfold feedB
        split
        · rename_i ds c
          split
          · rename_i ns hns
            split
            · rename_i hc
              cases r with
              | cons q t =>
                cases t with
                | cons q2 t2 =>
                  cases t2
                  have e2 := rv_int (by simp) q2
                  subst e2
                  have hds := ints_eq hns
                  have hq := q.rd (x := .list ds) rfl
                  rw [hds] at hq
                  obtain ⟨a, b, e, ha, hb, hb2⟩ := hfe f h2 d hT k S _ ns c hq hc.1 hc.2.1 hc.2.2
                  rw [e]
                  refine ⟨_, n, .ret, fun l => Φ l ∨ l = S.length, ⟨⟨by simp, fun _ q => .inl q, fun l hl q => q.elim id fun z => absurd hl (by omega), fun l hl _ => by rw [List.getElem?_append_left hl]⟩, h.1, fun l q => ?_⟩, S.length, rfl, .inr rfl⟩
                  rcases q with q | rfl
                  · obtain ⟨a, b, c, g1, g2⟩ := h.2 l q
                    exact ⟨a, b, c, by rw [List.getElem?_append_left (lt_at g1)]; exact g1, g2⟩
                  · exact ⟨a, b, 0, by simp, ha, hb, hb2, Int.le_refl _, by have := h.1; omega⟩
            · exact .bad
          · exact .bad
        · exact .bad
      · rw [if_neg h2]
        unfold KA.evCall
        rw [hT]
        · dsimp only
          rw [r.length]
          by_cases hl : us.length = d.np
          · rw [if_pos hl, if_pos hl]
            obtain ⟨l, n1, g1, g2⟩ := sss_all (par := parOf T) (call_sim hd hfe k) d.body S.length (KB.startD d.N.length vs) (KA.startD d.N.length us) Φ n S (Nat.le_refl _) (start_rel r) h
            generalize KA.evSs (KA.evCall T k) (parOf T) d.body (KA.startD d.N.length us) S = rr at g2
            -- the frame's end
            have cut : ∀ {Φ' : Fs} {n' : Nat} {S' : Sto}, PW S.length Φ S Φ' n' S' → Post Φ n S (fun l => Φ' l ∧ l < S.length) n' (S'.take S.length) ∧ (S'.take S.length).length = S.length := fun {Φ' n' S'} p => by
              have len : (S'.take S.length).length = S.length := by rw [List.length_take]; exact Nat.min_eq_left p.fr.len
              refine ⟨⟨⟨by omega, fun l q => ⟨p.fr.up l q, hlt l q⟩, fun l _ q => p.fr.dn l q.2 q.1, fun l hl q => by rw [List.getElem?_take_of_lt hl]; exact p.fr.eq l hl q⟩, p.fe.1, fun l q => ?_⟩, len⟩
              obtain ⟨a, b, c, e, q2⟩ := p.fe.2 l q.1
              exact ⟨a, b, c, by rw [List.getElem?_take_of_lt q.2]; exact e, q2⟩
            cases l with
            | bad => exact ⟨_, _, g1.bind_bad, trivial⟩
            | exc e => cases rr <;> exact g2.elim
            | ret a =>
              cases a with
              | nx σ =>
                cases rr with
                | nx τ S' =>
                  obtain ⟨Φ', p, q⟩ := g2
                  exact ⟨_, _, g1.bind .ret, _, (cut p).1, .inl rfl⟩
                | _ => exact g2.elim
              | ex e σ =>
                cases rr with
                | exc e' τ S' =>
                  obtain ⟨he, Φ', p, q⟩ := g2
                  exact ⟨_, _, g1.bind .exc, he, _, (cut p).1⟩
                | _ => exact g2.elim
              | rt v =>
                cases rr with
                | rt u S' =>
                  obtain ⟨Φ', p, q⟩ := g2
                  cases v with
                  | d x =>
                    refine ⟨_, _, g1.bind .ret, ?_⟩
                    rcases q with rfl | ⟨l, ds, rfl, e1, rfl, e3⟩
                    · exact ⟨_, (cut p).1, .inl rfl⟩
                    · unfold finD
                      dsimp only
                      by_cases hl2 : l < S.length
                      · rw [if_pos hl2]
                        exact ⟨_, (cut p).1, .inr ⟨l, ds, rfl, by rw [List.getElem?_take_of_lt hl2]; exact e1, rfl, fun z => e3 z.1⟩⟩
                      · rw [if_neg hl2, e1]
                        exact ⟨_, (cut p).1, .inl rfl⟩
                  | own ds =>
                    obtain ⟨l, rfl, e1, e2, e3⟩ := q
                    unfold finD
                    dsimp only
                    rw [if_neg (by omega), e1]
                    dsimp only
                    cases hm : d.retM with
                    | true =>
                      rw [if_pos rfl]
                      obtain ⟨c1, c2⟩ := cut p
                      refine ⟨.ret (VB.own ds), n1, g1.bind (l := .ret (VB.own ds)) (n2 := n1) (by rw [fin_t]; exact .ret), fun l => Φ' l ∧ l < S.length, ⟨⟨by rw [List.length_append, c2]; exact Nat.le_add_right _ _, c1.fr.up, c1.fr.dn, fun l hl q => by rw [List.getElem?_append_left (by rw [c2]; exact hl)]; exact c1.fr.eq l hl q⟩, c1.fe.1, fun l q => ?_⟩, (⟨S.length, rfl, by rw [List.getElem?_append_right (by rw [c2]; exact Nat.le_refl _), c2, Nat.sub_self]; rfl, fun z => absurd z.2 (Nat.lt_irrefl _), Nat.le_refl _⟩ : RV S.length _ _ (.own ds) _)⟩
                      obtain ⟨a, b, c, e, q2⟩ := c1.fe.2 l q
                      exact ⟨a, b, c, by rw [List.getElem?_append_left (lt_at e)]; exact e, q2⟩
                    | false =>
                      rw [if_neg Bool.false_ne_true]
                      exact ⟨.ret (VB.d (.list ds)), n1, g1.bind (l := .ret (VB.d (.list ds))) (n2 := n1) (by rw [fin_f]; exact .ret), _, (cut p).1, (Or.inl rfl : RV S.length _ _ (.d (.list ds)) _)⟩
                  | ex e =>
                    cases q
                    exact ⟨_, _, g1.bind .ret, _, (cut p).1, rfl⟩
                  | bor ds => exact ⟨.bad, n1, g1.bind .bad, trivial⟩
                  | feed => exact ⟨.bad, n1, g1.bind .bad, trivial⟩
                | _ => exact g2.elim
          · rw [if_neg hl]; exact .bad
end KB
/-! KB5: how many draws there are at most; what the evaluator by values shows of the one by places. -/
namespace KB
open PySem KA
def OkX {α : Type} : B α → (α → Prop) → (Ex → Prop) → Prop
  | .ret a, Q, _ => Q a
  | .exc e, _, E => E e
  | .bad, _, _ => False
  | .draw m k, Q, E => 0 < m ∧ ∀ i, 0 ≤ i → i < m → OkX (k i) Q E
/-- at most n draws; what comes of it -/
def Dp {α : Type} : B α → Nat → (α → Prop) → Prop
  | .ret a, _, P => P a
  | .exc _, _, _ => True
  | .bad, _, _ => True
  | .draw _ k, n, P => ∃ n', n = n' + 1 ∧ ∀ i, Dp (k i) n' P
section
variable {α β : Type} {n n' m : Nat} {b : B α} {P : α → Prop} {Q : β → Prop} {f : α → B β}
theorem ok_leaf {l : Leaf α} {R : α → Prop} {E : Ex → Prop} (h : Rch n b l n') (d : Dp b n P) (o : OkX b R E) : (∃ a, l = .ret a ∧ R a) ∨ ∃ e, l = .exc e ∧ E e := by
  induction h with
  | ret => exact .inl ⟨_, rfl, o⟩
  | exc => exact .inr ⟨_, rfl, o⟩
  | bad => exact o.elim
  | out => obtain ⟨n', e, _⟩ := d; cases e
  | neg hm => exact absurd o.1 hm
  | draw h0 h1 _ ih =>
    obtain ⟨n', e, q⟩ := d
    cases e
    exact ih (q _) (o.2 _ h0 h1)
theorem Dp.mono (d : Dp b n P) (h : n ≤ m) : Dp b m P := by
  induction b generalizing n m with
  | ret a => exact d
  | exc e => trivial
  | bad => trivial
  | draw k g ih =>
    obtain ⟨n', e, q⟩ := d
    cases m with
    | zero => omega
    | succ m => exact ⟨m, rfl, fun i => ih i (q i) (by omega)⟩
theorem Dp.imp {P' : α → Prop} (d : Dp b n P) (i : ∀ a, P a → P' a) : Dp b n P' := by
  induction b generalizing n with
  | ret a => exact i a d
  | exc e => trivial
  | bad => trivial
  | draw k g ih =>
    obtain ⟨n', e, q⟩ := d
    exact ⟨n', e, fun j => ih j (q j)⟩
theorem Dp.bind (d : Dp b n P) (i : ∀ a, P a → Dp (f a) m Q) : Dp (b.bind f) (n + m) Q := by
  induction b generalizing n with
  | ret a => exact (i a d).mono (Nat.le_add_left _ _)
  | exc e => trivial
  | bad => trivial
  | draw k g ih =>
    obtain ⟨n', e, q⟩ := d
    exact ⟨n' + m, by omega, fun j => ih j (q j)⟩
theorem Dp.bindN (d : Dp b n P) (i : ∀ a, P a → Dp (f a) m Q) : Dp (b.bindN f) (n + m) Q := by
  induction b generalizing n with
  | ret a => exact (i a d).mono (Nat.le_add_left _ _)
  | exc e => trivial
  | bad => trivial
  | draw k g ih =>
    obtain ⟨n', e, q⟩ := d
    exact ⟨n' + m, by omega, fun j => ih j (q j)⟩
theorem Dp.thenS {F : α → B St} {σ : SgB} {Q : St → Prop} (hx : ∀ e σ, Q (.ex e σ)) (d : Dp b n P) (i : ∀ a, P a → Dp (F a) m Q) : Dp (thenS b σ F) (n + m) Q := by
  induction b generalizing n with
  | ret a => exact (i a d).mono (Nat.le_add_left _ _)
  | exc e => exact hx _ _
  | bad => trivial
  | draw k g ih =>
    obtain ⟨n', e, q⟩ := d
    exact ⟨n' + m, by omega, fun j => ih j (q j)⟩
theorem Dp.opt {o : Option α} : Dp (B.opt o) 0 fun _ => True := by cases o <;> trivial
theorem Dp.op1 {F : PD → Option α} {v : VB} : Dp (op1 F v) 0 fun _ => True := by
  unfold KB.op1
  cases rd v with
  | none => trivial
  | some x => exact .opt
theorem Dp.op2 {F : PD → PD → Option α} {v w : VB} : Dp (op2 F v w) 0 fun _ => True := by
  unfold KB.op2
  split
  · exact .opt
  · trivial
theorem srcB_d0 {v : VB} : Dp (srcB v) 0 fun _ => True := by cases v <;> trivial
theorem Dp.esc {v : VB} : Dp (esc v) 0 fun _ => True := by cases v <;> trivial
theorem Dp.keep {v : VB} : Dp (keep v) 0 fun _ => True := by cases v <;> trivial
theorem Dp.newM {k : Bool} {d : PD} : Dp (newM k d) 0 fun _ => True := by cases k <;> cases d <;> trivial
theorem Dp.any (d : Dp b n P) : Dp b n fun _ => True := d.imp fun _ _ => trivial
abbrev D0 {α : Type} (b : B α) (n : Nat) : Prop := Dp b n fun _ => True
theorem D0.bind (d : D0 b n) (i : ∀ a, D0 (f a) m) : D0 (b.bind f) (n + m) := Dp.bind d fun a _ => i a
theorem D0.bind0 (d : D0 b n) (i : ∀ a, D0 (f a) 0) : D0 (b.bind f) n := (Dp.bind d fun a _ => i a).mono (by simp)
theorem D0.ret {a : α} : D0 (.ret a) n := trivial
theorem D0.bad : D0 (.bad : B α) n := trivial
theorem loopC_d {fB : PD → B (Option PD)} {k : Nat} (h : ∀ x, D0 (fB x) k) : ∀ (xs acc : List PD), D0 (loopC fB xs acc) (xs.length * k)
  | [], acc => trivial
  | x :: xs, acc => by
    unfold loopC
    refine (Dp.bindN (h x) fun o _ => ?_ : Dp _ (k + xs.length * k) _).mono (by rw [List.length_cons, Nat.succ_mul]; omega)
    cases o with
    | none => exact loopC_d h xs acc
    | some y =>
      dsimp only
      split
      · exact loopC_d h xs _
      · trivial
theorem loopC2_d {fB : PD → List PD → B (List PD)} {k : Nat} (h : ∀ x a, D0 (fB x a) k) : ∀ (xs acc : List PD), D0 (loopC2 fB xs acc) (xs.length * k)
  | [], acc => trivial
  | x :: xs, acc => by
    unfold loopC2
    exact (Dp.bindN (h x acc) fun o _ => loopC2_d h xs o : Dp _ (k + xs.length * k) _).mono (by rw [List.length_cons, Nat.succ_mul]; omega)
end
/-! ### weights -/
mutual
def wE : CE → Nat
  | .var _ => 0
  | .con _ => 0
  | .gcon _ _ => 0
  | .bin _ a b => wE a + wE b
  | .neg a => wE a
  | .bnot a => wE a
  | .band as => wEs as
  | .bor as => wEs as
  | .ifx t a b => wE t + (wE a + wE b)
  | .seteq a b => wE a + wE b
  | .cmp _ a b => wE a + wE b
  | .cmp2 _ _ a b c => wE a + (wE b + wE c)
  | .isn _ a => wE a
  | .call _ as => wEs as + 1
  | .callk _ _ as => wEs as + 1
  | .blt _ as => wEs as
  | .isin a _ => wE a
  | .meth _ o as => wEs as
  | .sub a i => wE a + wE i
  | .slc a lo hi => wE a + (wO lo + wO hi)
  | .rev a => wE a
  | .rom _ o as => wE o + wEs as
  | .sset a => wE a
  | .tup es => wEs es
  | .lst _ es => wEs es
  | .rng _ _ i => wI i
  | .comp _ elt (.mk _ it c) => wI it + SZ * (wO c + wE elt)
  | .comp2 _ elt (.mk _ it c) (.mk _ it1 c1) => wI it + SZ * (wO c + (wI it1 + SZ * (wO c1 + wE elt)))
def wEs : CEs → Nat
  | .nil => 0
  | .cons e es => wE e + wEs es
def wO : CO → Nat
  | .none => 0
  | .some e => wE e
def wI : CI → Nat
  | .seq e => wE e
  | .rng e => wE e
  | .rng2 a b => wE a + wE b
  | .enum e => wE e
  | .zip a b => wE a + wE b
  | .zip3 a b c => wE a + (wE b + wE c)
end
mutual
def wS : CS → Nat
  | .set _ e => wE e
  | .par _ es => wEs es
  | .unp _ e => wE e
  | .sst _ i e => wE e + wE i
  | .expr e => wE e
  | .ret e => wE e
  | .retN => 0
  | .ifs t a b => wE t + (wSs a + wSs b)
  | .for_ _ it b => wI it + SZ * wSs b
  | .whil n t b => n * (wE t + wSs b)
  | .aug _ _ e => wE e
  | .raise_ _ _ => 0
  | .try_ b _ _ _ => wSs b
  | .pass => 0
  | .frz _ => 0
def wSs : CSs → Nat
  | .nil => 0
  | .cons s ss => wS s + wSs ss
end
section
variable {call : Nat → List VB → B VB} {par : Nat → List Str} {c : Nat}
theorem chk_d {xs : List PD} : Dp (chkL xs) 0 fun xs => xs.length ≤ SZ := by
  unfold chkL
  split
  · assumption
  · trivial
theorem blt_d {b : Bn} {vs : List VB} : D0 (bltVs b vs) 0 := by
  unfold bltVs
  split
  · trivial
  · unfold bltV
    split
    · exact D0.bind0 .opt fun _ => .newM
    · exact D0.bind0 .opt fun _ => trivial
theorem isin_d {ts : List Tn} {v : VB} : D0 (isinB ts v) 0 := by
  cases v with
  | ex e => exact .opt
  | d x => exact Dp.op1 (F := fun x => isinD x ts) (v := .d x)
  | own x => exact Dp.op1 (F := fun x => isinD x ts) (v := .own x)
  | bor x => exact Dp.op1 (F := fun x => isinD x ts) (v := .bor x)
  | feed => trivial
theorem enumD_len2 (xs : List PD) : ∀ n, (enumD n xs).length = xs.length := by
  induction xs with
  | nil => intro n; rfl
  | cons a r ih => intro n; unfold enumD; simp [ih]
theorem rng_len2 {lo hi : Int} (h : rngOk lo hi = true) : (rngD lo hi).length ≤ SZ := by
  unfold rngOk at h
  have h := of_decide_eq_true h
  unfold rngD
  rw [List.length_map, List.length_range]
  exact h.2.2.2.2
theorem val_d {σ : SgB} {e : CE} {n : Nat} (h : D0 (evE call par σ e) n) (ht : evT call par σ e = (evE call par σ e).bind fun v => op1 truthD v) : D0 (evT call par σ e) n := by
  rw [ht]
  exact D0.bind0 h fun _ => .op1
theorem turn_d {tg : Tg} {ws : List Nat} {σ : SgB} {x : PD} {cB : SgB → B Bool} {eB : SgB → B VB} {n m : Nat} (h1 : ∀ σ, D0 (cB σ) n) (h2 : ∀ σ, D0 (eB σ) m) :
    D0 ((B.opt (bindTg tg x (wipeD σ ws))).bind fun σ' => (cB σ').bind fun k => if k = true then ((eB σ').bind esc).bind fun y => .ret (some y) else .ret none) (n + m) := by
  have : n + m = 0 + (n + m) := by omega
  rw [this]
  refine D0.bind .opt fun σ' => D0.bind (h1 σ') fun k => ?_
  split
  · exact D0.bind0 (D0.bind0 (h2 σ') fun _ => .esc) fun _ => trivial
  · trivial
theorem arith {a b c d : Nat} (h : a ≤ b) : a * (c * d) ≤ b * c * d := by
  rw [← Nat.mul_assoc]
  exact Nat.mul_le_mul_right _ (Nat.mul_le_mul_right _ h)
mutual
theorem dE (hc : ∀ f vs, D0 (call f vs) c) (σ : SgB) : ∀ e : CE, D0 (evE call par σ e) (wE e * c)
  | .var i => by
    simp only [evE]
    split <;> trivial
  | .con d => by simp only [evE]; trivial
  | .gcon x d => by simp only [evE]; trivial
  | .bin op a b => by
    simp only [evE, wE, Nat.add_mul]
    exact D0.bind (dE hc σ a) fun v => D0.bind0 (dE hc σ b) fun w => D0.bind0 .op2 fun _ => trivial
  | .neg a => by
    simp only [evE, wE]
    exact D0.bind0 (dE hc σ a) fun v => D0.bind0 .op1 fun _ => trivial
  | .bnot a => by
    simp only [evE, wE]
    exact D0.bind0 (dE hc σ a) fun v => D0.bind0 .op1 fun _ => trivial
  | .band as => by
    simp only [evE, wE]
    exact dAnd hc σ as
  | .bor as => by
    simp only [evE, wE]
    exact dOr hc σ as
  | .seteq a b => by
    simp only [evE, wE, Nat.add_mul]
    refine D0.bind (dE hc σ a) fun v => ?_
    rw [← Nat.zero_add (wE b * c)]
    refine D0.bind (n := 0) .op1 fun ns => ?_
    exact D0.bind0 (dE hc σ b) fun w => D0.bind0 .op1 fun _ => trivial
  | .ifx t a b => by
    simp only [evE, wE, Nat.add_mul]
    refine D0.bind (dT hc σ t) fun v => ?_
    split
    · exact (dE hc σ a).mono (by omega)
    · exact (dE hc σ b).mono (by omega)
  | .cmp op a b => by
    simp only [evE, wE, Nat.add_mul]
    exact D0.bind (dE hc σ a) fun v => D0.bind0 (dE hc σ b) fun w => D0.bind0 .op2 fun _ => trivial
  | .cmp2 p q a b d => by
    simp only [evE, wE, Nat.add_mul]
    refine D0.bind (dE hc σ a) fun v => D0.bind (dE hc σ b) fun w => (D0.bind .op2 fun k => ?_ : D0 _ (0 + wE d * c)).mono (by omega)
    split
    · exact D0.bind0 (dE hc σ d) fun _ => D0.bind0 .op2 fun _ => trivial
    · trivial
  | .isn n a => by
    simp only [evE, wE]
    exact D0.bind0 (dE hc σ a) fun v => trivial
  | .call f as => by
    simp only [evE, wE, Nat.add_mul, Nat.one_mul]
    exact D0.bind (dEs hc σ as) fun vs => hc f vs
  | .callk f ks as => by
    simp only [evE, wE, Nat.add_mul, Nat.one_mul]
    exact D0.bind (dEs hc σ as) fun vs => (D0.bind .opt fun vs => hc f vs : D0 _ (0 + c)).mono (by omega)
  | .blt b as => by
    simp only [evE, wE]
    exact D0.bind0 (dEs hc σ as) fun vs => blt_d
  | .isin a ts => by
    simp only [evE, wE]
    exact D0.bind0 (dE hc σ a) fun v => D0.bind0 isin_d fun _ => trivial
  | .meth m o as => by
    simp only [evE]
    trivial
  | .sub a i => by
    simp only [evE, wE, Nat.add_mul]
    exact D0.bind (dE hc σ a) fun v => D0.bind0 (dE hc σ i) fun w => D0.bind0 .op2 fun _ => trivial
  | .slc a lo hi => by
    simp only [evE, wE, Nat.add_mul]
    exact D0.bind (dE hc σ a) fun v => D0.bind (dO hc σ lo) fun w => D0.bind0 (dO hc σ hi) fun w => D0.bind0 .op1 fun _ => trivial
  | .rev a => by
    simp only [evE, wE]
    exact D0.bind0 (dE hc σ a) fun v => D0.bind0 .op1 fun _ => trivial
  | .rom m o as => by
    simp only [evE, wE, Nat.add_mul]
    refine D0.bind (dE hc σ o) fun v => ?_
    rw [← Nat.zero_add (wEs as * c)]
    refine D0.bind (n := 0) .esc fun x => ?_
    exact D0.bind0 (dXs hc σ as) fun xs => D0.bind0 .opt fun _ => trivial
  | .sset a => by
    simp only [evE, wE]
    exact D0.bind0 (dE hc σ a) fun v => D0.bind0 .op1 fun _ => trivial
  | .tup es => by
    simp only [evE, wE]
    refine D0.bind0 (dXs hc σ es) fun xs => ?_
    split <;> trivial
  | .lst m es => by
    simp only [evE, wE]
    refine D0.bind0 (dXs hc σ es) fun xs => ?_
    split
    · exact .newM
    · trivial
  | .rng t m i => by
    simp only [evE, wE]
    refine D0.bind0 (dI hc σ i).any fun xs => ?_
    split
    · trivial
    · exact .newM
  | .comp m elt (.mk tg it d) => by
    simp only [evE, wE, Nat.add_mul]
    refine Dp.bind (dI hc σ it) fun xs hx => D0.bind0 ?_ fun _ => .newM
    refine (loopC_d (k := (wO d + wE elt) * c) (fun x => ?_) xs []).mono (arith hx)
    rw [Nat.add_mul]
    exact turn_d (fun σ => dC hc σ d) (fun σ => dE hc σ elt)
  | .comp2 m elt (.mk tg it d) (.mk tg1 it1 d1) => by
    simp only [evE, wE, Nat.add_mul]
    refine Dp.bind (dI hc σ it) fun xs hx => D0.bind0 ?_ fun _ => .newM
    refine (loopC2_d (k := (wO d + (wI it1 + SZ * (wO d1 + wE elt))) * c) (fun x a => ?_) xs []).mono (arith hx)
    rw [Nat.add_mul, Nat.add_mul]
    refine (D0.bind .opt fun σ' => D0.bind (dC hc σ' d) fun k => ?_ : D0 _ (0 + _)).mono (by rw [Nat.zero_add]; exact Nat.le_refl _)
    split
    · refine Dp.bind (dI hc σ' it1) fun xs hx => ?_
      refine (loopC_d (k := (wO d1 + wE elt) * c) (fun x => ?_) xs _).mono (arith hx)
      rw [Nat.add_mul]
      exact turn_d (fun σ => dC hc σ d1) (fun σ => dE hc σ elt)
    · trivial
theorem dEs (hc : ∀ f vs, D0 (call f vs) c) (σ : SgB) : ∀ e : CEs, D0 (evEs call par σ e) (wEs e * c)
  | .nil => by simp only [evEs]; trivial
  | .cons e es => by
    simp only [evEs, wEs, Nat.add_mul]
    exact D0.bind (dE hc σ e) fun v => D0.bind0 (dEs hc σ es) fun _ => trivial
theorem dXs (hc : ∀ f vs, D0 (call f vs) c) (σ : SgB) : ∀ e : CEs, D0 (evXs call par σ e) (wEs e * c)
  | .nil => by simp only [evXs]; trivial
  | .cons e es => by
    simp only [evXs, wEs, Nat.add_mul]
    exact D0.bind (D0.bind0 (dE hc σ e) fun _ => .esc) fun v => D0.bind0 (dXs hc σ es) fun _ => trivial
theorem dAnd (hc : ∀ f vs, D0 (call f vs) c) (σ : SgB) : ∀ e : CEs, D0 (evAnd call par σ e) (wEs e * c)
  | .nil => by simp only [evAnd]; trivial
  | .cons e .nil => by
    simp only [evAnd, wEs, Nat.add_zero]
    exact dE hc σ e
  | .cons e (.cons e2 es) => by
    have := dAnd hc σ (.cons e2 es)
    simp only [evAnd, wEs, Nat.add_mul] at this ⊢
    refine D0.bind (dE hc σ e) fun v => (D0.bind .op1 fun k => ?_ : D0 _ (0 + (wE e2 * c + wEs es * c))).mono (by omega)
    split
    · exact this
    · trivial
theorem dOr (hc : ∀ f vs, D0 (call f vs) c) (σ : SgB) : ∀ e : CEs, D0 (evOr call par σ e) (wEs e * c)
  | .nil => by simp only [evOr]; trivial
  | .cons e .nil => by
    simp only [evOr, wEs, Nat.add_zero]
    exact dE hc σ e
  | .cons e (.cons e2 es) => by
    have := dOr hc σ (.cons e2 es)
    simp only [evOr, wEs, Nat.add_mul] at this ⊢
    refine D0.bind (dE hc σ e) fun v => (D0.bind .op1 fun k => ?_ : D0 _ (0 + (wE e2 * c + wEs es * c))).mono (by omega)
    split
    · trivial
    · exact this
theorem dT (hc : ∀ f vs, D0 (call f vs) c) (σ : SgB) : ∀ e : CE, D0 (evT call par σ e) (wE e * c)
  | .bnot a => by
    simp only [evT, wE]
    exact D0.bind0 (dT hc σ a) fun _ => trivial
  | .band as => by
    simp only [evT, wE]
    exact dTAnd hc σ as
  | .bor as => by
    simp only [evT, wE]
    exact dTOr hc σ as
  | .ifx t a b => by simp only [evT]; trivial
  | .seteq a b => by simp only [evT]; trivial
  | .var i => val_d (by simp only [evE]; split <;> trivial) (by simp only [evT])
  | .con d => val_d (by simp only [evE]; trivial) (by simp only [evT])
  | .gcon x d => val_d (by simp only [evE]; trivial) (by simp only [evT])
  | .bin op a b => val_d (by simp only [evE, wE, Nat.add_mul]; exact D0.bind (dE hc σ a) fun v => D0.bind0 (dE hc σ b) fun w => D0.bind0 .op2 fun _ => trivial) (by simp only [evT])
  | .neg a => val_d (by simp only [evE, wE]; exact D0.bind0 (dE hc σ a) fun v => D0.bind0 .op1 fun _ => trivial) (by simp only [evT])
  | .cmp op a b => val_d (by simp only [evE, wE, Nat.add_mul]; exact D0.bind (dE hc σ a) fun v => D0.bind0 (dE hc σ b) fun w => D0.bind0 .op2 fun _ => trivial) (by simp only [evT])
  | .cmp2 p q a b d => val_d (by
      simp only [evE, wE, Nat.add_mul]
      refine D0.bind (dE hc σ a) fun v => D0.bind (dE hc σ b) fun w => (D0.bind .op2 fun k => ?_ : D0 _ (0 + wE d * c)).mono (by omega)
      split
      · exact D0.bind0 (dE hc σ d) fun _ => D0.bind0 .op2 fun _ => trivial
      · trivial) (by simp only [evT])
  | .isn n a => val_d (by simp only [evE, wE]; exact D0.bind0 (dE hc σ a) fun v => trivial) (by simp only [evT])
  | .call f as => val_d (by simp only [evE, wE, Nat.add_mul, Nat.one_mul]; exact D0.bind (dEs hc σ as) fun vs => hc f vs) (by simp only [evT])
  | .callk f ks as => val_d (by simp only [evE, wE, Nat.add_mul, Nat.one_mul]; exact D0.bind (dEs hc σ as) fun vs => (D0.bind .opt fun vs => hc f vs : D0 _ (0 + c)).mono (by omega)) (by simp only [evT])
  | .blt b as => val_d (by simp only [evE, wE]; exact D0.bind0 (dEs hc σ as) fun vs => blt_d) (by simp only [evT])
  | .isin a ts => val_d (by simp only [evE, wE]; exact D0.bind0 (dE hc σ a) fun v => D0.bind0 isin_d fun _ => trivial) (by simp only [evT])
  | .meth m o as => by simp only [evT, evE, B.bind_bad]; trivial
  | .sub a i => val_d (by simp only [evE, wE, Nat.add_mul]; exact D0.bind (dE hc σ a) fun v => D0.bind0 (dE hc σ i) fun w => D0.bind0 .op2 fun _ => trivial) (by simp only [evT])
  | .slc a lo hi => val_d (by simp only [evE, wE, Nat.add_mul]; exact D0.bind (dE hc σ a) fun v => D0.bind (dO hc σ lo) fun w => D0.bind0 (dO hc σ hi) fun w => D0.bind0 .op1 fun _ => trivial) (by simp only [evT])
  | .rev a => val_d (by simp only [evE, wE]; exact D0.bind0 (dE hc σ a) fun v => D0.bind0 .op1 fun _ => trivial) (by simp only [evT])
  | .rom m o as => val_d (dE hc σ (.rom m o as)) (by simp only [evT])
  | .sset a => val_d (by simp only [evE, wE]; exact D0.bind0 (dE hc σ a) fun v => D0.bind0 .op1 fun _ => trivial) (by simp only [evT])
  | .tup es => val_d (by
      simp only [evE, wE]
      refine D0.bind0 (dXs hc σ es) fun xs => ?_
      split <;> trivial) (by simp only [evT])
  | .lst m es => val_d (by
      simp only [evE, wE]
      refine D0.bind0 (dXs hc σ es) fun xs => ?_
      split
      · exact .newM
      · trivial) (by simp only [evT])
  | .rng t m i => val_d (by
      simp only [evE, wE]
      refine D0.bind0 (dI hc σ i).any fun xs => ?_
      split
      · trivial
      · exact .newM) (by simp only [evT])
  | .comp m elt (.mk tg it d) => val_d (by
      simp only [evE, wE, Nat.add_mul]
      refine Dp.bind (dI hc σ it) fun xs hx => D0.bind0 ?_ fun _ => .newM
      refine (loopC_d (k := (wO d + wE elt) * c) (fun x => ?_) xs []).mono (arith hx)
      rw [Nat.add_mul]
      exact turn_d (fun σ => dC hc σ d) (fun σ => dE hc σ elt)) (by simp only [evT])
  | .comp2 m elt (.mk tg it d) (.mk tg1 it1 d1) => val_d (by
      simp only [evE, wE, Nat.add_mul]
      refine Dp.bind (dI hc σ it) fun xs hx => D0.bind0 ?_ fun _ => .newM
      refine (loopC2_d (k := (wO d + (wI it1 + SZ * (wO d1 + wE elt))) * c) (fun x a => ?_) xs []).mono (arith hx)
      rw [Nat.add_mul, Nat.add_mul]
      refine (D0.bind .opt fun σ' => D0.bind (dC hc σ' d) fun k => ?_ : D0 _ (0 + _)).mono (by rw [Nat.zero_add]; exact Nat.le_refl _)
      split
      · refine Dp.bind (dI hc σ' it1) fun xs hx => ?_
        refine (loopC_d (k := (wO d1 + wE elt) * c) (fun x => ?_) xs _).mono (arith hx)
        rw [Nat.add_mul]
        exact turn_d (fun σ => dC hc σ d1) (fun σ => dE hc σ elt)
      · trivial) (by simp only [evT])
theorem dTAnd (hc : ∀ f vs, D0 (call f vs) c) (σ : SgB) : ∀ e : CEs, D0 (evTAnd call par σ e) (wEs e * c)
  | .nil => by simp only [evTAnd]; trivial
  | .cons e .nil => by
    simp only [evTAnd, wEs, Nat.add_zero]
    exact dT hc σ e
  | .cons e (.cons e2 es) => by
    have := dTAnd hc σ (.cons e2 es)
    simp only [evTAnd, wEs, Nat.add_mul] at this ⊢
    refine D0.bind (dT hc σ e) fun v => ?_
    split
    · exact this
    · trivial
theorem dTOr (hc : ∀ f vs, D0 (call f vs) c) (σ : SgB) : ∀ e : CEs, D0 (evTOr call par σ e) (wEs e * c)
  | .nil => by simp only [evTOr]; trivial
  | .cons e .nil => by
    simp only [evTOr, wEs, Nat.add_zero]
    exact dT hc σ e
  | .cons e (.cons e2 es) => by
    have := dTOr hc σ (.cons e2 es)
    simp only [evTOr, wEs, Nat.add_mul] at this ⊢
    refine D0.bind (dT hc σ e) fun v => ?_
    split
    · trivial
    · exact this
theorem dC (hc : ∀ f vs, D0 (call f vs) c) (σ : SgB) : ∀ e : CO, D0 (evC call par σ e) (wO e * c)
  | .none => by simp only [evC]; trivial
  | .some e => by
    simp only [evC, wO]
    exact dT hc σ e
theorem dO (hc : ∀ f vs, D0 (call f vs) c) (σ : SgB) : ∀ e : CO, D0 (evO call par σ e) (wO e * c)
  | .none => by simp only [evO]; trivial
  | .some e => by
    simp only [evO, wO]
    exact D0.bind0 (dE hc σ e) fun v => D0.bind0 .op1 fun _ => trivial
theorem dI (hc : ∀ f vs, D0 (call f vs) c) (σ : SgB) : ∀ e : CI, Dp (evI call par σ e) (wI e * c) fun xs => xs.length ≤ SZ
  | .seq e => by
    simp only [evI, wI]
    exact (Dp.bind (dE hc σ e) fun v _ => Dp.bind (m := 0) srcB_d0 fun x _ => Dp.bind .opt fun xs _ => chk_d).mono (by omega)
  | .rng e => by
    simp only [evI, wI]
    refine (Dp.bind (dE hc σ e) fun v _ => Dp.bind (m := 0) .op1 fun n _ => ?_).mono (by omega)
    split
    · rename_i h; exact rng_len2 h
    · trivial
  | .rng2 a b => by
    simp only [evI, wI, Nat.add_mul]
    refine Dp.bind (dE hc σ a) fun v _ => (Dp.bind (dE hc σ b) fun w _ => Dp.bind (m := 0) .op1 fun i _ => Dp.bind (m := 0) .op1 fun j _ => ?_).mono (by omega)
    split
    · rename_i h; exact rng_len2 h
    · trivial
  | .enum e => by
    simp only [evI, wI]
    exact (Dp.bind (dE hc σ e) fun v _ => Dp.bind (m := 0) srcB_d0 fun x _ => Dp.bind .opt fun xs _ => Dp.bind (m := 0) chk_d fun xs h => by
      show (enumD 0 xs).length ≤ SZ
      rw [enumD_len2]; exact h).mono (by omega)
  | .zip a b => by
    simp only [evI, wI, Nat.add_mul]
    exact Dp.bind (dE hc σ a) fun v _ => (Dp.bind (m := wE b * c) srcB_d0 fun x _ => (Dp.bind (m := 0) (dE hc σ b) fun w _ => Dp.bind (m := 0) srcB_d0 fun y _ => Dp.bind (m := 0) .opt fun xs _ => chk_d)).mono (by omega)
  | .zip3 a b c' => by
    simp only [evI, wI, Nat.add_mul]
    exact Dp.bind (dE hc σ a) fun v _ => (Dp.bind (m := wE b * c + wE c' * c) (Dp.esc (v := v)) fun x _ => Dp.bind (dE hc σ b) fun w _ => (Dp.bind (m := wE c' * c) (Dp.esc (v := w)) fun y _ => Dp.bind (m := 0) (dE hc σ c') fun u _ => Dp.bind (m := 0) (Dp.esc (v := u)) fun z _ => Dp.bind (m := 0) .opt fun xs _ => chk_d).mono (by omega)).mono (by omega)
end
theorem dIs (hc : ∀ f vs, D0 (call f vs) c) (σ : SgB) : ∀ e : CI, Dp (evIs call par σ e) (wI e * c) fun xs => xs.length ≤ SZ
  | .seq e => by
    simp only [evIs, wI]
    exact (Dp.bind (dE hc σ e) fun v _ => Dp.bind (m := 0) (.esc) fun x _ => Dp.bind .opt fun xs _ => chk_d).mono (by omega)
  | .rng e => by
    have := dI (par := par) hc σ (.rng e)
    simp only [evI] at this
    simp only [evIs]
    exact this
  | .rng2 a b => by
    have := dI (par := par) hc σ (.rng2 a b)
    simp only [evI] at this
    simp only [evIs]
    exact this
  | .enum e => by
    simp only [evIs, wI]
    exact (Dp.bind (dE hc σ e) fun v _ => Dp.bind (m := 0) (.esc) fun x _ => Dp.bind .opt fun xs _ => Dp.bind (m := 0) chk_d fun xs h => by
      show (enumD 0 xs).length ≤ SZ
      rw [enumD_len2]; exact h).mono (by omega)
  | .zip3 a b c' => by
    simp only [evIs, wI, Nat.add_mul]
    exact Dp.bind (dE hc σ a) fun v _ => (Dp.bind (m := wE b * c + wE c' * c) (Dp.esc (v := v)) fun x _ => Dp.bind (dE hc σ b) fun w _ => (Dp.bind (m := wE c' * c) (Dp.esc (v := w)) fun y _ => Dp.bind (m := 0) (dE hc σ c') fun u _ => Dp.bind (m := 0) (Dp.esc (v := u)) fun z _ => Dp.bind (m := 0) .opt fun xs _ => chk_d).mono (by omega)).mono (by omega)
  | .zip a b => by
    simp only [evIs, wI, Nat.add_mul]
    exact Dp.bind (dE hc σ a) fun v _ => (Dp.bind (m := wE b * c) (Dp.esc (v := v)) fun x _ => (Dp.bind (m := 0) (dE hc σ b) fun w _ => Dp.bind (m := 0) (Dp.esc (v := w)) fun y _ => Dp.bind (m := 0) .opt fun xs _ => chk_d)).mono (by omega)
/-! statements -/
theorem dP1 (hc : ∀ f vs, D0 (call f vs) c) (σ : SgB) (e : CE) : D0 (evP1 call par σ e) (wE e * c) := by
  have plain : D0 (((evE call par σ e).bind esc).bind fun x => .ret (x, σ)) (wE e * c) := D0.bind0 (D0.bind0 (dE hc σ e) fun _ => .esc) fun _ => trivial
  cases e with
  | meth m o as =>
    cases o with
    | var j =>
      simp only [evP1, wE]
      split
      · exact D0.bind0 (dXs hc σ as) fun xs => D0.bind0 .opt fun _ => trivial
      · trivial
    | _ => simp only [evP1]; exact plain
  | _ => simp only [evP1]; exact plain
theorem dP (hc : ∀ f vs, D0 (call f vs) c) (σ : SgB) (es : CEs) : D0 (evP call par σ es) (wEs es * c) := by
  have plain : ∀ es, D0 ((evXs call par σ es).bind fun x => .ret (x, σ)) (wEs es * c) := fun es => D0.bind0 (dXs hc σ es) fun _ => trivial
  cases es with
  | nil => simp only [evP]; exact plain .nil
  | cons e t =>
    cases t with
    | nil =>
      simp only [evP, wEs, Nat.add_zero]
      exact D0.bind0 (dP1 hc σ e) fun r => D0.ret
    | cons e2 t2 => simp only [evP]; exact plain _
theorem dSet (hc : ∀ f vs, D0 (call f vs) c) (σ : SgB) (e : CE) : D0 (evSet call par σ e) (wE e * c) := by
  have plain : D0 (((evE call par σ e).bind keep).bind fun v => .ret (v, σ)) (wE e * c) := D0.bind0 (D0.bind0 (dE hc σ e) fun _ => .keep) fun _ => trivial
  cases e with
  | var j =>
    simp only [evSet]
    split
    · trivial
    · exact D0.bind0 (Dp.mono .keep (Nat.zero_le _)) fun r => D0.ret
    · trivial
  | meth m o as =>
    cases o with
    | var j =>
      simp only [evSet]
      exact D0.bind0 (dP1 hc σ _) fun r => D0.ret
    | _ => simp only [evSet]; exact plain
  | _ => simp only [evSet]; exact plain
theorem dX (hc : ∀ f vs, D0 (call f vs) c) (σ : SgB) (e : CE) : D0 (evX call par σ e) (wE e * c) := by
  have plain : D0 ((evE call par σ e).bind fun _ => .ret σ) (wE e * c) := D0.bind0 (dE hc σ e) fun _ => trivial
  cases e with
  | meth m o as =>
    cases o with
    | var j =>
      simp only [evX, wE]
      split
      · refine D0.bind0 (dP hc σ as) fun r => ?_
        split
        · exact D0.bind0 .opt fun _ => trivial
        · trivial
      · trivial
    | _ => simp only [evX]; exact plain
  | _ => simp only [evX]; exact plain
theorem dM (hc : ∀ f vs, D0 (call f vs) c) (σ : SgB) (e : CE) : D0 (evM call par σ e) (wE e * c) := by
  cases e with
  | var j =>
    simp only [evM]
    split <;> trivial
  | _ => simp only [evM]; exact dE hc σ _
theorem D0.thenS {α : Type} {b : B α} {n m : Nat} {σ : SgB} {F : α → B St} (d : D0 b n) (i : ∀ a, D0 (F a) m) : D0 (thenS b σ F) (n + m) := Dp.thenS (fun _ _ => trivial) d fun a _ => i a
theorem D0.thenS0 {α : Type} {b : B α} {n : Nat} {σ : SgB} {F : α → B St} (d : D0 b n) (i : ∀ a, D0 (F a) 0) : D0 (KB.thenS b σ F) n := (D0.thenS d i).mono (by simp)
theorem D0.bindS {b : B St} {n m : Nat} {F : SgB → B St} (d : D0 b n) (i : ∀ a, D0 (F a) m) : D0 (bindS b F) (n + m) := D0.bind d fun r => by
  cases r with
  | nx σ => exact i σ
  | _ => trivial
theorem keeps_d (vs : List VB) : D0 (keeps vs) 0 := by
  rcases keeps_bad vs with ⟨h, _⟩ | h <;> rw [h] <;> trivial
theorem loopF_d {f : PD → SgB → B St} {k : Nat} (h : ∀ x σ, D0 (f x σ) k) : ∀ (xs : List PD) (σ : SgB), D0 (loopF f xs σ) (xs.length * k)
  | [], σ => trivial
  | x :: xs, σ => by
    unfold loopF
    exact (D0.bindS (h x σ) fun σ => loopF_d h xs σ : D0 _ (k + xs.length * k)).mono (by rw [List.length_cons, Nat.succ_mul]; omega)
theorem loopW_d {t : SgB → B Bool} {f : SgB → B St} {a b : Nat} (ht : ∀ σ, D0 (t σ) a) (h : ∀ σ, D0 (f σ) b) : ∀ (n : Nat) (σ : SgB), D0 (loopW t f n σ) (n * (a + b))
  | 0, σ => trivial
  | n + 1, σ => by
    unfold loopW
    refine (D0.thenS (ht σ) fun k => ?_ : D0 _ (a + (b + n * (a + b)))).mono (by rw [Nat.succ_mul]; omega)
    split
    · exact D0.bindS (h σ) fun σ => loopW_d ht h n σ
    · trivial
mutual
theorem dS (hc : ∀ f vs, D0 (call f vs) c) : ∀ (s : CS) (σ : SgB), D0 (evS call par s σ) (wS s * c)
  | .set i e, σ => by
    simp only [evS, wS]
    exact D0.thenS0 (dSet hc σ e) fun _ => trivial
  | .par is es, σ => by
    simp only [evS, wS]
    refine D0.thenS0 (D0.bind0 (dEs hc σ es) fun _ => keeps_d _) fun vs => ?_
    split <;> trivial
  | .unp is e, σ => by
    simp only [evS, wS]
    refine D0.thenS0 (D0.bind0 (dE hc σ e) fun _ => .op1) fun x => ?_
    split
    · split <;> trivial
    · trivial
  | .sst o i e, σ => by
    simp only [evS, wS, Nat.add_mul]
    split
    · split
      · refine D0.thenS (D0.bind0 (dE hc σ e) fun _ => .esc) fun x => D0.thenS0 (D0.bind0 (dE hc σ i) fun _ => .op1) fun k => ?_
        split <;> trivial
      · trivial
    · trivial
  | .expr e, σ => by
    simp only [evS, wS]
    exact D0.thenS0 (dX hc σ e) fun _ => trivial
  | .ret e, σ => by
    simp only [evS, wS]
    exact D0.thenS0 (dM hc σ e) fun _ => trivial
  | .retN, σ => trivial
  | .ifs t a b, σ => by
    simp only [evS, wS, Nat.add_mul]
    refine D0.thenS (dT hc σ t) fun k => ?_
    split
    · exact (dSs hc a σ).mono (by omega)
    · exact (dSs hc b σ).mono (by omega)
  | .for_ tg it b, σ => by
    simp only [evS, wS, Nat.add_mul]
    refine Dp.thenS (fun _ _ => trivial) (dIs hc σ it) fun xs hx => ?_
    refine (loopF_d (k := wSs b * c) (fun x σ => ?_) xs σ).mono (arith hx)
    split
    · exact dSs hc b _
    · trivial
  | .whil n t b, σ => by
    simp only [evS, wS]
    have := loopW_d (fun σ => dT (par := par) hc σ t) (fun σ => dSs hc b σ) n σ
    rw [← Nat.add_mul, ← Nat.mul_assoc] at this
    exact this
  | .aug i op e, σ => by
    simp only [evS, wS]
    split
    · exact D0.thenS0 (dE hc σ e) fun w => D0.thenS0 .op2 fun _ => trivial
    · trivial
  | .raise_ x as, σ => trivial
  | .try_ b x i j, σ => by
    simp only [evS, wS]
    refine D0.bind0 (dSs hc b σ) fun r => ?_
    cases r with
    | ex e σ' =>
      dsimp only
      split <;> trivial
    | _ => trivial
  | .pass, σ => trivial
  | .frz i, σ => by
    simp only [evS]
    split <;> trivial
theorem dSs (hc : ∀ f vs, D0 (call f vs) c) : ∀ (s : CSs) (σ : SgB), D0 (evSs call par s σ) (wSs s * c)
  | .nil, σ => trivial
  | .cons s ss, σ => by
    simp only [evSs, wSs, Nat.add_mul]
    exact D0.bindS (dS hc s σ) fun σ => dSs hc ss σ
end
end
theorem dCall {N : Kn} {T : Tab} {W : Nat} (hW : 1 ≤ W) (hT : ∀ f d, T f = some d → wSs d.body ≤ W) : ∀ (k f : Nat) (vs : List VB), D0 (evCall N T k f vs) (W ^ k)
  | 0, f, vs => trivial
  | k + 1, f, vs => by
    unfold evCall
    have h1 : 1 ≤ W ^ (k + 1) := Nat.pow_pos hW
    split
    · trivial
    · rename_i d hd
      split
      · unfold drawB
        split
        · split
          · exact ⟨W ^ (k + 1) - 1, by omega, fun i => trivial⟩
          · trivial
        · trivial
      · split
        · unfold feedB
          split
          · split
            · split <;> trivial
            · trivial
          · trivial
        · split
          · refine D0.bind0 ((dSs (dCall hW hT k) d.body _).mono ?_) fun r => ?_
            · rw [Nat.pow_succ, Nat.mul_comm]
              exact Nat.mul_le_mul_left _ (hT f d hd)
            · cases r with
              | rt v =>
                cases v with
                | own ds => cases d.retM <;> trivial
                | _ => trivial
              | _ => trivial
          · trivial
set_option exponentiation.threshold 300000
/-- a law by values holds by places -/
theorem top {N : Kn} {T : Tab} {x k f : Nat} {ns : List Int} (hd : ∀ f ∈ N.draw, DrawOk T f) (hfe : ∀ f ∈ N.feed, FeedOk T f) (hT : ∀ f d, T f = some d → wSs d.body ≤ 2 ^ x) (hx : x * k ≤ 200000)
    (h : OkX (KB.evCall N T k f [.d (.list (ns.map .int))]) (fun v => v = .d (.bool true)) fun _ => False) : ∃ S, KA.evCall T k f [.d (.list (ns.map .int))] [] = .ok (.d (.bool true)) S := by
  have hl : ((2 ^ x) ^ k : Nat) ≤ 2 ^ 200000 := by
    rw [← Nat.pow_mul]
    exact Nat.pow_le_pow_right (by decide) hx
  have hF : Feeds (fun _ => False) [] ((2 ^ x) ^ k) := by
    refine ⟨?_, fun l q => q.elim⟩
    unfold LIM
    have : (((2 ^ x) ^ k : Nat) : Int) ≤ ((2 ^ 200000 : Nat) : Int) := Int.ofNat_le.mpr hl
    have e : ((2 ^ 200000 : Nat) : Int) = 2 ^ 200000 := by rw [Int.natCast_pow]; rfl
    rw [← e]; exact this
  obtain ⟨l, n', h1, h2⟩ := call_sim (N := N) (T := T) hd hfe k f [.d (.list (ns.map .int))] [.d (.list (ns.map .int))] (fun _ => False) ((2 ^ x) ^ k) [] 0 (.cons (.inl rfl) .nil) hF
  rcases ok_leaf h1 (dCall (Nat.pow_pos (by decide)) hT k f _) h with ⟨a, e, q⟩ | ⟨e, _, q⟩
  · subst e q
    generalize KA.evCall T k f [.d (.list (ns.map .int))] [] = rr at h2
    cases rr with
    | ok u S' =>
      obtain ⟨Φ', p, q⟩ := h2
      rcases q with rfl | ⟨_, _, _, _, e, _⟩
      · exact ⟨S', rfl⟩
      · cases e
    | exc e S' => exact h2.elim
    | bad => exact h2.elim
  · exact q.elim
end KB
/-! KB6: reasoning about the evaluator by values. -/
namespace KB
open PySem KA
/-- no exception leaves -/
abbrev NoX : Ex → Prop := fun _ => False
abbrev Ok {α : Type} (b : B α) (Q : α → Prop) : Prop := OkX b Q NoX
section
variable {α β : Type} {Q Q' : α → Prop} {E E' : Ex → Prop}
@[simp] theorem ok_ret (a : α) : OkX (.ret a) Q E = Q a := Eq.trans rfl rfl
@[simp] theorem ok_exc (e : Ex) : OkX (.exc e : B α) Q E = E e := Eq.trans rfl rfl
@[simp] theorem ok_bad : OkX (.bad : B α) Q E = False := Eq.trans rfl rfl
@[simp] theorem ok_draw (m : Int) (k : Int → B α) : OkX (.draw m k) Q E = (0 < m ∧ ∀ i, 0 ≤ i → i < m → OkX (k i) Q E) := Eq.trans rfl rfl
@[simp] theorem ok_bind (b : B α) (f : α → B β) (Q : β → Prop) : OkX (b.bind f) Q E = OkX b (fun a => OkX (f a) Q E) E := by
  induction b with
  | draw m k ih => simp only [B.bind_draw, ok_draw, ih]
  | _ => rfl
@[simp] theorem ok_bindN (b : B α) (f : α → B β) (Q : β → Prop) : OkX (b.bindN f) Q E = OkX b (fun a => OkX (f a) Q E) NoX := by
  induction b with
  | draw m k ih => simp only [B.bindN_draw, ok_draw, ih]
  | _ => rfl
theorem OkX.imp {b : B α} (h : OkX b Q E) (i : ∀ a, Q a → Q' a) (j : ∀ e, E e → E' e) : OkX b Q' E' := by
  induction b with
  | ret a => exact i a h
  | exc e => exact j e h
  | bad => exact h
  | draw m k ih => exact ⟨h.1, fun a h0 h1 => ih a (h.2 a h0 h1)⟩
theorem OkX.mono {b : B α} (h : OkX b Q E) (i : ∀ a, Q a → Q' a) : OkX b Q' E := h.imp i fun _ q => q
end
/-- a statement's ends -/
def stP (N : SgB → Prop) (R : VB → Prop) (X : Ex → SgB → Prop) : St → Prop
  | .nx σ => N σ
  | .rt v => R v
  | .ex e σ => X e σ
def OkS (b : B St) (N : SgB → Prop) (R : VB → Prop) (X : Ex → SgB → Prop) : Prop := OkX b (stP N R X) NoX
section
variable {N N' : SgB → Prop} {R R' : VB → Prop} {X X' : Ex → SgB → Prop} {α : Type}
@[simp] theorem okS_nx (σ : SgB) : OkS (.ret (.nx σ)) N R X = N σ := Eq.trans rfl rfl
@[simp] theorem okS_rt (v : VB) : OkS (.ret (.rt v)) N R X = R v := Eq.trans rfl rfl
@[simp] theorem okS_ex (e : Ex) (σ : SgB) : OkS (.ret (.ex e σ)) N R X = X e σ := Eq.trans rfl rfl
@[simp] theorem okS_bad : OkS .bad N R X = False := Eq.trans rfl rfl
@[simp] theorem okS_draw (m : Int) (k : Int → B St) : OkS (.draw m k) N R X = (0 < m ∧ ∀ i, 0 ≤ i → i < m → OkS (k i) N R X) := Eq.trans rfl rfl
@[simp] theorem okS_bindS (b : B St) (f : SgB → B St) : OkS (bindS b f) N R X = OkS b (fun σ => OkS (f σ) N R X) R X := by
  induction b with
  | ret r => cases r <;> rfl
  | exc e => rfl
  | bad => rfl
  | draw m k ih => simp only [bindS_draw, okS_draw, ih]
@[simp] theorem okS_thenS (b : B α) (σ : SgB) (f : α → B St) : OkS (thenS b σ f) N R X = OkX b (fun a => OkS (f a) N R X) (fun e => X e σ) := by
  induction b with
  | draw m k ih => simp only [thenS_draw, okS_draw, ok_draw, ih]
  | _ => rfl
@[simp] theorem okS_bind (b : B α) (f : α → B St) : OkS (b.bind f) N R X = OkX b (fun a => OkS (f a) N R X) NoX := by
  unfold OkS
  rw [ok_bind]
theorem OkS.imp {b : B St} (h : OkS b N R X) (i : ∀ σ, N σ → N' σ) (j : ∀ v, R v → R' v) (l : ∀ e σ, X e σ → X' e σ) : OkS b N' R' X' := by
  refine OkX.imp (Q := stP N R X) (Q' := stP N' R' X') h (fun r => ?_) fun _ q => q
  cases r with
  | nx σ => exact i σ
  | rt v => exact j v
  | ex e σ => exact l e σ
end
section
variable {call : Nat → List VB → B VB} {par : Nat → List Str}
@[simp] theorem evT_isin (σ : SgB) (a : CE) (ts : List Tn) : evT call par σ (.isin a ts) = (evE call par σ (.isin a ts)).bind fun v => op1 truthD v := by simp only [evT]
@[simp] theorem evT_cmp (σ : SgB) (op : CmpOp) (a b : CE) : evT call par σ (.cmp op a b) = (evE call par σ (.cmp op a b)).bind fun v => op1 truthD v := by simp only [evT]
@[simp] theorem evT_cmp2 (σ : SgB) (p q : CmpOp) (a b c : CE) : evT call par σ (.cmp2 p q a b c) = (evE call par σ (.cmp2 p q a b c)).bind fun v => op1 truthD v := by simp only [evT]
@[simp] theorem evT_isn (σ : SgB) (n : Bool) (a : CE) : evT call par σ (.isn n a) = (evE call par σ (.isn n a)).bind fun v => op1 truthD v := by simp only [evT]
@[simp] theorem evT_call (σ : SgB) (f : Nat) (as : CEs) : evT call par σ (.call f as) = (evE call par σ (.call f as)).bind fun v => op1 truthD v := by simp only [evT]
@[simp] theorem evT_callk (σ : SgB) (f : Nat) (ks : List Str) (as : CEs) : evT call par σ (.callk f ks as) = (evE call par σ (.callk f ks as)).bind fun v => op1 truthD v := by simp only [evT]
@[simp] theorem evT_var (σ : SgB) (i : Nat) : evT call par σ (.var i) = (evE call par σ (.var i)).bind fun v => op1 truthD v := by simp only [evT]
@[simp] theorem evT_blt (σ : SgB) (b : Bn) (as : CEs) : evT call par σ (.blt b as) = (evE call par σ (.blt b as)).bind fun v => op1 truthD v := by simp only [evT]
@[simp] theorem evT_sub (σ : SgB) (a i : CE) : evT call par σ (.sub a i) = (evE call par σ (.sub a i)).bind fun v => op1 truthD v := by simp only [evT]
@[simp] theorem evT_con (σ : SgB) (d : PD) : evT call par σ (.con d) = (evE call par σ (.con d)).bind fun v => op1 truthD v := by simp only [evT]
@[simp] theorem evT_bnot (σ : SgB) (a : CE) : evT call par σ (.bnot a) = (evT call par σ a).bind fun b => .ret (!b) := by simp only [evT]
@[simp] theorem evT_band (σ : SgB) (as : CEs) : evT call par σ (.band as) = evTAnd call par σ as := by simp only [evT]
@[simp] theorem evT_bor (σ : SgB) (as : CEs) : evT call par σ (.bor as) = evTOr call par σ as := by simp only [evT]
@[simp] theorem keeps_nil : KB.keeps [] = .ret [] := Eq.trans rfl rfl
@[simp] theorem keeps_cons (v : VB) (vs : List VB) : KB.keeps (v :: vs) = (keep v).bind fun v => (KB.keeps vs).bind fun vs => .ret (v :: vs) := Eq.trans rfl rfl
@[simp] theorem wipe_nil (σ : SgB) : KB.wipeD σ [] = σ := Eq.trans rfl rfl
@[simp] theorem wipe_cons (σ : SgB) (v : Nat) (vs : List Nat) : KB.wipeD σ (v :: vs) = (KB.wipeD σ vs).set v none := Eq.trans rfl rfl
@[simp] theorem slots_nm (i : Nat) : KA.Tg.slots (.nm i) = [i] := Eq.trans rfl rfl
@[simp] theorem slots_tp (is : List Nat) : KA.Tg.slots (.tp is) = is := Eq.trans rfl rfl
@[simp] theorem bind_nm (i : Nat) (x : PD) (σ : SgB) : bindTg (.nm i) x σ = some (σ.set i (some (.d x))) := Eq.trans rfl rfl
@[simp] theorem bind_tp2 (i j : Nat) (x y : PD) (σ : SgB) : bindTg (.tp [i, j]) (.tuple [x, y]) σ = some ((σ.set i (some (.d x))).set j (some (.d y))) := Eq.trans rfl rfl
@[simp] theorem bind_tp3 (i j k : Nat) (x y z : PD) (σ : SgB) : bindTg (.tp [i, j, k]) (.tuple [x, y, z]) σ = some (((σ.set i (some (.d x))).set j (some (.d y))).set k (some (.d z))) := Eq.trans rfl rfl
theorem bltVs_1 (b : Bn) (hb : b ≠ .listM) {v : VB} {x : PD} (h : rd v = some x) : bltVs b [v] = (B.opt (bltD b [x])).bind fun z => .ret (.d z) := by
  unfold bltVs
  simp only [rds, h]
  cases b <;> first | rfl | exact absurd rfl hb
theorem bltVs_2 (b : Bn) (hb : b ≠ .listM) {v w : VB} {x y : PD} (h : rd v = some x) (h2 : rd w = some y) : bltVs b [v, w] = (B.opt (bltD b [x, y])).bind fun z => .ret (.d z) := by
  unfold bltVs
  simp only [rds, h, h2]
  cases b <;> first | rfl | exact absurd rfl hb
end
@[simp] theorem blt_len_d (x : PD) : bltVs .len [.d x] = (B.opt (bltD .len [x])).bind fun z => .ret (.d z) := bltVs_1 _ (by decide) rfl
@[simp] theorem blt_len_b (x : List PD) : bltVs .len [.bor x] = (B.opt (bltD .len [.list x])).bind fun z => .ret (.d z) := bltVs_1 _ (by decide) rfl
@[simp] theorem blt_len_o (x : List PD) : bltVs .len [.own x] = (B.opt (bltD .len [.list x])).bind fun z => .ret (.d z) := bltVs_1 _ (by decide) rfl
@[simp] theorem blt_sum_d (x : PD) : bltVs .sum [.d x] = (B.opt (bltD .sum [x])).bind fun z => .ret (.d z) := bltVs_1 _ (by decide) rfl
@[simp] theorem blt_sum_b (x : List PD) : bltVs .sum [.bor x] = (B.opt (bltD .sum [.list x])).bind fun z => .ret (.d z) := bltVs_1 _ (by decide) rfl
@[simp] theorem blt_sum_o (x : List PD) : bltVs .sum [.own x] = (B.opt (bltD .sum [.list x])).bind fun z => .ret (.d z) := bltVs_1 _ (by decide) rfl
@[simp] theorem blt_all__d (x : PD) : bltVs .all_ [.d x] = (B.opt (bltD .all_ [x])).bind fun z => .ret (.d z) := bltVs_1 _ (by decide) rfl
@[simp] theorem blt_all__b (x : List PD) : bltVs .all_ [.bor x] = (B.opt (bltD .all_ [.list x])).bind fun z => .ret (.d z) := bltVs_1 _ (by decide) rfl
@[simp] theorem blt_all__o (x : List PD) : bltVs .all_ [.own x] = (B.opt (bltD .all_ [.list x])).bind fun z => .ret (.d z) := bltVs_1 _ (by decide) rfl
@[simp] theorem blt_any__d (x : PD) : bltVs .any_ [.d x] = (B.opt (bltD .any_ [x])).bind fun z => .ret (.d z) := bltVs_1 _ (by decide) rfl
@[simp] theorem blt_any__b (x : List PD) : bltVs .any_ [.bor x] = (B.opt (bltD .any_ [.list x])).bind fun z => .ret (.d z) := bltVs_1 _ (by decide) rfl
@[simp] theorem blt_any__o (x : List PD) : bltVs .any_ [.own x] = (B.opt (bltD .any_ [.list x])).bind fun z => .ret (.d z) := bltVs_1 _ (by decide) rfl
@[simp] theorem blt_max__d (x : PD) : bltVs .max_ [.d x] = (B.opt (bltD .max_ [x])).bind fun z => .ret (.d z) := bltVs_1 _ (by decide) rfl
@[simp] theorem blt_max__b (x : List PD) : bltVs .max_ [.bor x] = (B.opt (bltD .max_ [.list x])).bind fun z => .ret (.d z) := bltVs_1 _ (by decide) rfl
@[simp] theorem blt_max__o (x : List PD) : bltVs .max_ [.own x] = (B.opt (bltD .max_ [.list x])).bind fun z => .ret (.d z) := bltVs_1 _ (by decide) rfl
@[simp] theorem blt_min__d (x : PD) : bltVs .min_ [.d x] = (B.opt (bltD .min_ [x])).bind fun z => .ret (.d z) := bltVs_1 _ (by decide) rfl
@[simp] theorem blt_min__b (x : List PD) : bltVs .min_ [.bor x] = (B.opt (bltD .min_ [.list x])).bind fun z => .ret (.d z) := bltVs_1 _ (by decide) rfl
@[simp] theorem blt_min__o (x : List PD) : bltVs .min_ [.own x] = (B.opt (bltD .min_ [.list x])).bind fun z => .ret (.d z) := bltVs_1 _ (by decide) rfl
@[simp] theorem blt_int__d (x : PD) : bltVs .int_ [.d x] = (B.opt (bltD .int_ [x])).bind fun z => .ret (.d z) := bltVs_1 _ (by decide) rfl
@[simp] theorem blt_int__b (x : List PD) : bltVs .int_ [.bor x] = (B.opt (bltD .int_ [.list x])).bind fun z => .ret (.d z) := bltVs_1 _ (by decide) rfl
@[simp] theorem blt_int__o (x : List PD) : bltVs .int_ [.own x] = (B.opt (bltD .int_ [.list x])).bind fun z => .ret (.d z) := bltVs_1 _ (by decide) rfl
@[simp] theorem blt_repr__d (x : PD) : bltVs .repr_ [.d x] = (B.opt (bltD .repr_ [x])).bind fun z => .ret (.d z) := bltVs_1 _ (by decide) rfl
@[simp] theorem blt_repr__b (x : List PD) : bltVs .repr_ [.bor x] = (B.opt (bltD .repr_ [.list x])).bind fun z => .ret (.d z) := bltVs_1 _ (by decide) rfl
@[simp] theorem blt_repr__o (x : List PD) : bltVs .repr_ [.own x] = (B.opt (bltD .repr_ [.list x])).bind fun z => .ret (.d z) := bltVs_1 _ (by decide) rfl
@[simp] theorem blt_str__d (x : PD) : bltVs .str_ [.d x] = (B.opt (bltD .str_ [x])).bind fun z => .ret (.d z) := bltVs_1 _ (by decide) rfl
@[simp] theorem blt_str__b (x : List PD) : bltVs .str_ [.bor x] = (B.opt (bltD .str_ [.list x])).bind fun z => .ret (.d z) := bltVs_1 _ (by decide) rfl
@[simp] theorem blt_str__o (x : List PD) : bltVs .str_ [.own x] = (B.opt (bltD .str_ [.list x])).bind fun z => .ret (.d z) := bltVs_1 _ (by decide) rfl
@[simp] theorem blt_tuple__d (x : PD) : bltVs .tuple_ [.d x] = (B.opt (bltD .tuple_ [x])).bind fun z => .ret (.d z) := bltVs_1 _ (by decide) rfl
@[simp] theorem blt_tuple__b (x : List PD) : bltVs .tuple_ [.bor x] = (B.opt (bltD .tuple_ [.list x])).bind fun z => .ret (.d z) := bltVs_1 _ (by decide) rfl
@[simp] theorem blt_tuple__o (x : List PD) : bltVs .tuple_ [.own x] = (B.opt (bltD .tuple_ [.list x])).bind fun z => .ret (.d z) := bltVs_1 _ (by decide) rfl
@[simp] theorem blt_list__d (x : PD) : bltVs .list_ [.d x] = (B.opt (bltD .list_ [x])).bind fun z => .ret (.d z) := bltVs_1 _ (by decide) rfl
@[simp] theorem blt_list__b (x : List PD) : bltVs .list_ [.bor x] = (B.opt (bltD .list_ [.list x])).bind fun z => .ret (.d z) := bltVs_1 _ (by decide) rfl
@[simp] theorem blt_list__o (x : List PD) : bltVs .list_ [.own x] = (B.opt (bltD .list_ [.list x])).bind fun z => .ret (.d z) := bltVs_1 _ (by decide) rfl
@[simp] theorem blt_sorted__d (x : PD) : bltVs .sorted_ [.d x] = (B.opt (bltD .sorted_ [x])).bind fun z => .ret (.d z) := bltVs_1 _ (by decide) rfl
@[simp] theorem blt_sorted__b (x : List PD) : bltVs .sorted_ [.bor x] = (B.opt (bltD .sorted_ [.list x])).bind fun z => .ret (.d z) := bltVs_1 _ (by decide) rfl
@[simp] theorem blt_sorted__o (x : List PD) : bltVs .sorted_ [.own x] = (B.opt (bltD .sorted_ [.list x])).bind fun z => .ret (.d z) := bltVs_1 _ (by decide) rfl
@[simp] theorem blt_lenset_d (x : PD) : bltVs .lenset [.d x] = (B.opt (bltD .lenset [x])).bind fun z => .ret (.d z) := bltVs_1 _ (by decide) rfl
@[simp] theorem blt_lenset_b (x : List PD) : bltVs .lenset [.bor x] = (B.opt (bltD .lenset [.list x])).bind fun z => .ret (.d z) := bltVs_1 _ (by decide) rfl
@[simp] theorem blt_lenset_o (x : List PD) : bltVs .lenset [.own x] = (B.opt (bltD .lenset [.list x])).bind fun z => .ret (.d z) := bltVs_1 _ (by decide) rfl
@[simp] theorem blt_sortset_d (x : PD) : bltVs .sortset [.d x] = (B.opt (bltD .sortset [x])).bind fun z => .ret (.d z) := bltVs_1 _ (by decide) rfl
@[simp] theorem blt_sortset_b (x : List PD) : bltVs .sortset [.bor x] = (B.opt (bltD .sortset [.list x])).bind fun z => .ret (.d z) := bltVs_1 _ (by decide) rfl
@[simp] theorem blt_sortset_o (x : List PD) : bltVs .sortset [.own x] = (B.opt (bltD .sortset [.list x])).bind fun z => .ret (.d z) := bltVs_1 _ (by decide) rfl
@[simp] theorem blt2_max__d (x y : PD) : bltVs .max_ [.d x, .d y] = (B.opt (bltD .max_ [x, y])).bind fun z => .ret (.d z) := bltVs_2 _ (by decide) rfl rfl
@[simp] theorem blt2_min__d (x y : PD) : bltVs .min_ [.d x, .d y] = (B.opt (bltD .min_ [x, y])).bind fun z => .ret (.d z) := bltVs_2 _ (by decide) rfl rfl
@[simp] theorem blt_listM_d (x : PD) : bltVs .listM [.d x] = (B.opt (bltD .list_ [x])).bind fun z => newM true z := Eq.trans rfl rfl
@[simp] theorem blt_listM_b (x : List PD) : bltVs .listM [.bor x] = .ret (.own x) := Eq.trans rfl rfl
@[simp] theorem blt_listM_o (x : List PD) : bltVs .listM [.own x] = .ret (.own x) := Eq.trans rfl rfl
@[simp] theorem meth_app (ds : List PD) (x : PD) (h : ds.length < SZ) : methL "append" ds [x] = some (.none, ds ++ [x]) := by
  unfold methL
  rw [if_pos rfl]
  dsimp only
  rw [if_pos h]
theorem meth_ext (ds xs : List PD) (h : ds.length + xs.length ≤ SZ) : methL "extend" ds [.list xs] = some (.none, ds ++ xs) := by
  unfold methL
  rw [if_neg (by decide +kernel), if_pos rfl]
  dsimp only
  rw [if_pos h]
theorem meth_pop (ds : List PD) (i : Int) : methL "pop" ds [.int i] = popAt ds i := by
  unfold methL
  rw [if_neg (by decide +kernel), if_neg (by decide +kernel), if_pos rfl]
/-! ### calls -/
theorem lends {n : Nat} (vs : List VB) (h : n = vs.length) : startD n vs = vs.map fun v => some v.lend := by
  unfold startD
  rw [h, Nat.sub_self]
  simp
section
variable {N : Kn} {T : Tab} {k f : Nat} {d : FD} {vs : List VB}
theorem call_eq (hT : T f = some d) (h1 : f ∉ N.draw) (h2 : f ∉ N.feed) (hl : vs.length = d.np) : evCall N T (k + 1) f vs = (evSs (evCall N T k) (parOf T) d.body (startD d.N.length vs)).bind (finB d.retM) := by
  rw [evCall, hT]
  dsimp only
  rw [if_neg h1, if_neg h2, if_pos hl]
theorem draw_eq (hT : T f = some d) (h1 : f ∈ N.draw) {m : Int} (hm : m < 18446744073709551616) : evCall N T (k + 1) f [.feed, .d (.int m)] = .draw m fun i => .ret (.d (.int i)) := by
  rw [evCall, hT]
  dsimp only
  rw [if_pos h1]
  unfold drawB
  dsimp only
  rw [if_pos hm]
theorem feed_eq (hT : T f = some d) (h1 : f ∉ N.draw) (h2 : f ∈ N.feed) {ns : List Int} {c : Int} (h0 : 0 ≤ c) (hc : c < 1000) (hn : ns.length < 1000) : evCall N T (k + 1) f [.d (.list (ns.map .int)), .d (.int c)] = .ret .feed := by
  rw [evCall, hT]
  dsimp only
  rw [if_neg h1, if_pos h2]
  have hi : ∀ l : List Int, intsD (l.map .int) = some l := fun l => by
    induction l with
    | nil => rfl
    | cons a r ih => rw [List.map_cons, intsD, ih]; rfl
  unfold feedB
  dsimp only
  rw [hi]
  dsimp only
  rw [if_pos ⟨h0, hc, hn⟩]
/-- what a call hands back -/
def Fin (m : Bool) (R : VB → Prop) : VB → Prop
  | .own ds => if m = true then R (.own ds) else R (.d (.list ds))
  | .d x => R (.d x)
  | .ex e => R (.ex e)
  | _ => False
@[simp] theorem fin_d (m : Bool) (R : VB → Prop) (x : PD) : Fin m R (.d x) = R (.d x) := Eq.trans rfl rfl
@[simp] theorem fin_ex (m : Bool) (R : VB → Prop) (x : Ex) : Fin m R (.ex x) = R (.ex x) := Eq.trans rfl rfl
@[simp] theorem fin_of (R : VB → Prop) (x : List PD) : Fin false R (.own x) = R (.d (.list x)) := Eq.trans rfl rfl
@[simp] theorem fin_ot (R : VB → Prop) (x : List PD) : Fin true R (.own x) = R (.own x) := Eq.trans rfl rfl
theorem ok_fin {m : Bool} {b : B St} {R : VB → Prop} {E : Ex → Prop} (h : OkS b (fun _ => R (.d .none)) (Fin m R) fun e _ => E e) : OkX (b.bind (finB m)) R E := by
  unfold OkS at h
  rw [ok_bind]
  refine h.imp (fun r q => ?_) fun _ z => z.elim
  cases r with
  | nx σ => exact q
  | ex e σ => exact q
  | rt v =>
    cases v with
    | own ds => cases m <;> exact q
    | d x => exact q
    | ex e => exact q
    | bor x => exact q.elim
    | feed => exact q.elim
theorem ok_call {R : VB → Prop} {E : Ex → Prop} (hT : T f = some d) (h1 : f ∉ N.draw) (h2 : f ∉ N.feed) (hl : vs.length = d.np)
    (h : OkS (evSs (evCall N T k) (parOf T) d.body (startD d.N.length vs)) (fun _ => R (.d .none)) (Fin d.retM R) fun e _ => E e) : OkX (evCall N T (k + 1) f vs) R E := by
  rw [call_eq hT h1 h2 hl]
  exact ok_fin h
theorem eq_call {x : PD} (hT : T f = some d) (h1 : f ∉ N.draw) (h2 : f ∉ N.feed) (hl : vs.length = d.np) (h : evSs (evCall N T k) (parOf T) d.body (startD d.N.length vs) = .ret (.rt (.d x))) : evCall N T (k + 1) f vs = .ret (.d x) := by
  rw [call_eq hT h1 h2 hl, h]
  rfl
theorem eq_callN {σ : SgB} (hT : T f = some d) (h1 : f ∉ N.draw) (h2 : f ∉ N.feed) (hl : vs.length = d.np) (h : evSs (evCall N T k) (parOf T) d.body (startD d.N.length vs) = .ret (.nx σ)) : evCall N T (k + 1) f vs = .ret (.d .none) := by
  rw [call_eq hT h1 h2 hl, h]
  rfl
theorem eq_callX {σ : SgB} {e : Ex} (hT : T f = some d) (h1 : f ∉ N.draw) (h2 : f ∉ N.feed) (hl : vs.length = d.np) (h : evSs (evCall N T k) (parOf T) d.body (startD d.N.length vs) = .ret (.ex e σ)) : evCall N T (k + 1) f vs = .exc e := by
  rw [call_eq hT h1 h2 hl, h]
  rfl
end
/-! ### comprehensions -/
section
variable {γ : Type}
/-- a comprehension that only reckons -/
theorem loopC_eq {f : PD → B (Option PD)} {F G : γ → PD} {p : γ → Bool} : ∀ {l : List γ} {acc : List PD}, (∀ y ∈ l, f (F y) = .ret (if p y = true then some (G y) else none)) → acc.length + l.length ≤ SZ → loopC f (l.map F) acc = .ret (acc ++ (l.filter p).map G)
  | [], acc, _, _ => by simp [loopC]
  | x :: r, acc, h, hz => by
    rw [List.map_cons]
    unfold loopC
    rw [h x (by simp)]
    cases hp : p x with
    | true =>
      simp only [if_true, B.bindN_ret]
      rw [if_pos (by simp at hz; omega), loopC_eq (fun y hy => h y (by simp [hy])) (by simp at hz ⊢; omega)]
      simp [hp]
    | false =>
      simp only [Bool.false_eq_true, if_false, B.bindN_ret]
      rw [loopC_eq (fun y hy => h y (by simp [hy])) (by simp at hz ⊢; omega)]
      simp [hp]
theorem loopC_all {f : PD → B (Option PD)} {F G : γ → PD} {l : List γ} {acc : List PD} (h : ∀ y ∈ l, f (F y) = .ret (some (G y))) (hz : acc.length + l.length ≤ SZ) : loopC f (l.map F) acc = .ret (acc ++ l.map G) := by
  rw [loopC_eq (p := fun _ => true) (G := G) (fun y hy => by simpa using h y hy) hz, List.filter_eq_self.mpr (by simp)]
theorem loopC_some {g : PD → PD} {items acc : List PD} (hz : acc.length + items.length ≤ SZ) : loopC (fun x => .ret (some (g x))) items acc = .ret (acc ++ items.map g) := by
  have := loopC_all (f := fun x => .ret (some (g x))) (F := id) (G := g) (l := items) (acc := acc) (fun _ _ => rfl) hz
  simpa using this
theorem loopC_if {p : PD → Bool} {g : PD → PD} {items acc : List PD} (hz : acc.length + items.length ≤ SZ) : loopC (fun x => if p x = true then .ret (some (g x)) else .ret none) items acc = .ret (acc ++ (items.filter p).map g) := by
  have := loopC_eq (f := fun x => if p x = true then .ret (some (g x)) else .ret none) (F := id) (G := g) (p := p) (l := items) (acc := acc) (fun y _ => by dsimp only [id]; split <;> rfl) hz
  simpa using this
theorem loopC2_all {f : PD → List PD → B (List PD)} {F : γ → PD} {G : γ → List PD} : ∀ {l : List γ} {acc : List PD}, (∀ y ∈ l, ∀ a, a.length + (G y).length ≤ acc.length + (l.flatMap G).length → f (F y) a = .ret (a ++ G y)) → loopC2 f (l.map F) acc = .ret (acc ++ l.flatMap G)
  | [], acc, _ => by simp [loopC2]
  | x :: r, acc, h => by
    rw [List.map_cons]
    unfold loopC2
    rw [h x (by simp) acc (by simp)]
    simp only [B.bindN_ret]
    rw [loopC2_all (fun y hy a ha => h y (by simp [hy]) a (by simp at ha ⊢; omega))]
    simp
/-- a comprehension that draws: each item's promise -/
theorem loopC_ok {f : PD → B (Option PD)} {Q : List PD → Prop} (P : γ → PD → Prop) {F : γ → PD} : ∀ {l : List γ} {acc : List PD}, (∀ y ∈ l, OkX (f (F y)) (fun o => ∃ z, o = some z ∧ P y z) NoX) → acc.length + l.length ≤ SZ →
    (∀ ds : List PD, ds.length = l.length → (∀ i (h : i < l.length) (h' : i < ds.length), P l[i] ds[i]) → Q (acc ++ ds)) → OkX (loopC f (l.map F) acc) Q NoX
  | [], acc, _, _, q => by simpa [loopC] using q [] rfl (by intro i h; simp at h)
  | x :: r, acc, h, hz, q => by
    rw [List.map_cons]
    unfold loopC
    rw [ok_bindN]
    refine (h x (by simp)).mono fun o ⟨z, e, hP⟩ => ?_
    subst e
    dsimp only
    rw [if_pos (by simp at hz; omega)]
    refine loopC_ok P (fun y hy => h y (by simp [hy])) (by simp at hz ⊢; omega) fun ds hl hds => ?_
    have := q (z :: ds) (by simp [hl]) (fun i h1 h2 => by
      cases i with
      | zero => exact hP
      | succ i => exact hds i (by simpa using h1) (by simpa using h2))
    simpa using this
theorem unmap {β : Type} {G : β → PD} {P : β → Prop} : ∀ {ds : List PD}, (∀ y ∈ ds, ∃ a, y = G a ∧ P a) → ∃ l : List β, ds = l.map G ∧ ∀ a ∈ l, P a
  | [], _ => ⟨[], rfl, by simp⟩
  | x :: r, h => by
    obtain ⟨a, e, ha⟩ := h x (by simp)
    obtain ⟨l, e2, hl⟩ := unmap (ds := r) fun y hy => h y (by simp [hy])
    exact ⟨a :: l, by rw [e, e2]; rfl, by simpa using ⟨ha, hl⟩⟩
/-- a comprehension that draws, all items of one kind -/
theorem loopC_each {β : Type} {f : PD → B (Option PD)} {Q : List PD → Prop} {F : γ → PD} (G : β → PD) (P : β → Prop) {l : List γ} (h : ∀ y ∈ l, OkX (f (F y)) (fun o => ∃ a, o = some (G a) ∧ P a) NoX) (hz : l.length ≤ SZ)
    (q : ∀ m : List β, m.length = l.length → (∀ a ∈ m, P a) → Q (m.map G)) : OkX (loopC f (l.map F) []) Q NoX := by
  refine loopC_ok (P := fun _ y => ∃ a, y = G a ∧ P a) (fun y hy => (h y hy).mono fun o ⟨a, e, ha⟩ => ⟨_, e, a, rfl, ha⟩) (by simpa using hz) fun ds hl hds => ?_
  obtain ⟨m, e, hm⟩ := unmap (G := G) (P := P) (ds := ds) fun y hy => by
    obtain ⟨i, hi, e⟩ := List.getElem_of_mem hy
    rw [← e]
    exact hds i (by omega) hi
  subst e
  have := q m (by simpa using hl) hm
  simpa using this
/-- .. with a test that may draw: what is kept is a part of what could be, in the same sequence -/
theorem loopC_sub {f : PD → B (Option PD)} {Q : List PD → Prop} {F G : γ → PD} (must : γ → Prop) : ∀ {l : List γ} {acc : List PD}, (∀ y ∈ l, OkX (f (F y)) (fun o => o = some (G y) ∨ (o = none ∧ ¬ must y)) NoX) → acc.length + l.length ≤ SZ →
    (∀ m : List γ, m.Sublist l → (∀ y ∈ l, must y → y ∈ m) → Q (acc ++ m.map G)) → OkX (loopC f (l.map F) acc) Q NoX
  | [], acc, _, _, q => by simpa [loopC] using q [] (List.Sublist.refl _) (by simp)
  | x :: r, acc, h, hz, q => by
    rw [List.map_cons]
    unfold loopC
    rw [ok_bindN]
    refine (h x (by simp)).mono fun o ho => ?_
    rcases ho with e | ⟨e, hm⟩
    · subst e
      dsimp only
      rw [if_pos (by simp at hz; omega)]
      refine loopC_sub must (fun y hy => h y (by simp [hy])) (by simp at hz ⊢; omega) fun m hs hmust => ?_
      have := q (x :: m) (hs.cons₂ x) (fun y hy hy2 => by
        rcases List.mem_cons.mp hy with e | e
        · simp [e]
        · simp [hmust y e hy2])
      simpa using this
    · subst e
      dsimp only
      refine loopC_sub must (fun y hy => h y (by simp [hy])) (by simp at hz ⊢; omega) fun m hs hmust => ?_
      exact q m (hs.cons x) (fun y hy hy2 => by
        rcases List.mem_cons.mp hy with e | e
        · exact absurd (e ▸ hy2) hm
        · exact hmust y e hy2)
/-! ### loops -/
theorem loopF_ok {f : PD → SgB → B St} {F : γ → PD} {l : List γ} {N : SgB → Prop} {R : VB → Prop} {X : Ex → SgB → Prop} (I : Nat → SgB → Prop) {σ : SgB} (h0 : I 0 σ) (st : ∀ i (h : i < l.length) σ, I i σ → OkS (f (F l[i]) σ) (I (i + 1)) R X) (fin : ∀ σ, I l.length σ → N σ) : OkS (loopF f (l.map F) σ) N R X := by
  have aux : ∀ (r : List γ) (n : Nat) (σ : SgB), l.drop n = r → n ≤ l.length → I n σ → OkS (loopF f (r.map F) σ) N R X := by
    intro r
    induction r with
    | nil =>
      intro n σ e hn h
      have : n = l.length := by
        have := congrArg List.length e
        rw [List.length_drop] at this
        simp at this
        omega
      subst this
      exact fin σ h
    | cons x r ih =>
      intro n σ e hn h
      have hx : l[n]? = some x := by
        have := congrArg (·[0]?) e
        simpa using this
      obtain ⟨hlt, hx'⟩ := List.getElem?_eq_some_iff.mp hx
      rw [List.map_cons]
      unfold loopF
      rw [okS_bindS]
      have := st n hlt σ h
      rw [hx'] at this
      exact this.imp (fun σ' h' => ih (n + 1) σ' (by rw [← List.drop_drop, e]; rfl) hlt h') (fun _ q => q) (fun _ _ q => q)
  exact aux l 0 σ rfl (Nat.zero_le _) h0
/-- a loop that only reckons: the state by what is reckoned and what else the names hold -/
theorem loopF_fold {J α : Type} {f : PD → SgB → B St} {F : γ → PD} (s : α → J → SgB) (g : α → γ → α) : ∀ {l : List γ} {a : α} {j : J}, (∀ a j, ∀ y ∈ l, ∃ j', f (F y) (s a j) = .ret (.nx (s (g a y) j'))) → ∃ j', loopF f (l.map F) (s a j) = .ret (.nx (s (l.foldl g a) j'))
  | [], a, j, _ => ⟨j, by simp [loopF]⟩
  | x :: r, a, j, h => by
    obtain ⟨j1, e1⟩ := h a j x (by simp)
    obtain ⟨j2, e2⟩ := loopF_fold s g (l := r) (a := g a x) (j := j1) fun a j y hy => h a j y (by simp [hy])
    refine ⟨j2, ?_⟩
    rw [List.map_cons]
    unfold loopF
    rw [e1]
    simp only [bindS_nx, List.foldl_cons]
    exact e2
/-- .. and what follows -/
theorem loop_bind {J α : Type} {f : PD → SgB → B St} {F : γ → PD} {l : List γ} {cont : SgB → B St} {r : B St} (s : α → J → SgB) (g : α → γ → α) (a : α) (j : J) (h : ∀ a j, ∀ y ∈ l, ∃ j', f (F y) (s a j) = .ret (.nx (s (g a y) j'))) (hc : ∀ j, cont (s (l.foldl g a) j) = r) : bindS (loopF f (l.map F) (s a j)) cont = r := by
  obtain ⟨j', e⟩ := loopF_fold s g (a := a) (j := j) h
  rw [e]
  exact hc j'
theorem loop_bindI {J α : Type} {f : PD → SgB → B St} {F : γ → PD} {l : List γ} {cont : SgB → B St} {r : B St} (s : α → J → SgB) (g : α → γ → α) (I : Nat → α → Prop) (a : α) (j : J) (h0 : I 0 a)
    (h : ∀ i (hi : i < l.length) a j, I i a → I (i + 1) (g a l[i]) ∧ ∃ j', f (F l[i]) (s a j) = .ret (.nx (s (g a l[i]) j'))) (hc : ∀ j, I l.length (l.foldl g a) → cont (s (l.foldl g a) j) = r) : bindS (loopF f (l.map F) (s a j)) cont = r := by
  have aux : ∀ (m : List γ) (n : Nat) (a : α) (j : J), l.drop n = m → n ≤ l.length → I n a → (∀ j, I l.length (m.foldl g a) → cont (s (m.foldl g a) j) = r) → bindS (loopF f (m.map F) (s a j)) cont = r := by
    intro m
    induction m with
    | nil =>
      intro n a j e hn hI hc
      have hn : n = l.length := by
        have := congrArg List.length e
        simp at this
        omega
      subst hn
      simp [loopF]
      exact hc j hI
    | cons x m ih =>
      intro n a j e hn hI hc
      have hx : l[n]? = some x := by
        have := congrArg (·[0]?) e
        simpa using this
      obtain ⟨hlt, hx'⟩ := List.getElem?_eq_some_iff.mp hx
      obtain ⟨h1, j', h2⟩ := h n hlt a j hI
      rw [hx'] at h1 h2
      rw [List.map_cons]
      unfold loopF
      rw [h2]
      simp only [bindS_nx]
      exact ih (n + 1) (g a x) j' (by rw [← List.drop_drop, e]; rfl) hlt h1 hc
  exact aux l 0 a j rfl (Nat.zero_le _) h0 hc
/-- .. that may hand back on the way -/
theorem loop_all {J : Type} {f : PD → SgB → B St} {F : γ → PD} {cont : SgB → B St} (s : J → SgB) (p : γ → Bool) {y n : B St} (hr : ∀ k : SgB → B St, bindS n k = n) : ∀ {l : List γ} (j : J), (∀ j, ∀ y ∈ l, (p y = true → ∃ j', f (F y) (s j) = .ret (.nx (s j'))) ∧ (p y = false → f (F y) (s j) = n)) → (∀ j, cont (s j) = y) →
    bindS (loopF f (l.map F) (s j)) cont = if l.all p = true then y else n
  | [], j, _, hc => by simp [loopF, hc]
  | x :: r, j, h, hc => by
    rw [List.map_cons]
    unfold loopF
    cases hp : p x with
    | true =>
      obtain ⟨j', e⟩ := (h j x (by simp)).1 hp
      rw [e]
      simp only [bindS_nx, List.all_cons, hp, Bool.true_and]
      exact loop_all s p hr j' (fun j y hy => h j y (by simp [hy])) hc
    | false =>
      rw [(h j x (by simp)).2 hp, hr, hr]
      simp [hp]
end
theorem zipD_map {γ δ : Type} (F : γ → PD) (G : δ → PD) : ∀ (l : List γ) (m : List δ), zipD (l.map F) (m.map G) = (l.zip m).map fun p => .tuple [F p.1, G p.2]
  | [], _ => by simp [zipD]
  | _ :: _, [] => by simp [zipD]
  | a :: r, b :: t => by simp [zipD, zipD_map F G r t]
theorem enumD_map {γ : Type} (F : γ → PD) : ∀ (l : List γ) (n : Nat), enumD n (l.map F) = (l.zipIdx n).map fun p => .tuple [.int p.2, F p.1]
  | [], _ => by simp [enumD]
  | a :: r, n => by simp [enumD, enumD_map F r (n + 1), List.zipIdx_cons]
theorem chk_ok {xs : List PD} (h : xs.length ≤ SZ) : chkL xs = .ret xs := by
  unfold chkL
  rw [if_pos h]
end KB
/-! KB7: a law's table within a greater one. -/
namespace KB
open PySem KA
mutual
def clE : CE → List Nat
  | .var _ => []
  | .con _ => []
  | .gcon _ _ => []
  | .bin _ a b => clE a ++ clE b
  | .neg a => clE a
  | .bnot a => clE a
  | .band as => clEs as
  | .bor as => clEs as
  | .ifx t a b => clE t ++ (clE a ++ clE b)
  | .seteq a b => clE a ++ clE b
  | .cmp _ a b => clE a ++ clE b
  | .cmp2 _ _ a b c => clE a ++ (clE b ++ clE c)
  | .isn _ a => clE a
  | .call f as => f :: clEs as
  | .callk f _ as => f :: clEs as
  | .blt _ as => clEs as
  | .isin a _ => clE a
  | .meth _ o as => clE o ++ clEs as
  | .sub a i => clE a ++ clE i
  | .slc a lo hi => clE a ++ (clO lo ++ clO hi)
  | .rev a => clE a
  | .rom _ o as => clE o ++ clEs as
  | .sset a => clE a
  | .tup es => clEs es
  | .lst _ es => clEs es
  | .rng _ _ i => clI i
  | .comp _ elt (.mk _ it c) => clI it ++ (clO c ++ clE elt)
  | .comp2 _ elt (.mk _ it c) (.mk _ it1 c1) => clI it ++ (clO c ++ (clI it1 ++ (clO c1 ++ clE elt)))
def clEs : CEs → List Nat
  | .nil => []
  | .cons e es => clE e ++ clEs es
def clO : CO → List Nat
  | .none => []
  | .some e => clE e
def clI : CI → List Nat
  | .seq e => clE e
  | .rng e => clE e
  | .rng2 a b => clE a ++ clE b
  | .enum e => clE e
  | .zip a b => clE a ++ clE b
  | .zip3 a b c => clE a ++ (clE b ++ clE c)
end
mutual
def clS : CS → List Nat
  | .set _ e => clE e
  | .par _ es => clEs es
  | .unp _ e => clE e
  | .sst o i e => clE e ++ clE i
  | .expr e => clE e
  | .ret e => clE e
  | .retN => []
  | .ifs t a b => clE t ++ (clSs a ++ clSs b)
  | .for_ _ it b => clI it ++ clSs b
  | .whil _ t b => clE t ++ clSs b
  | .aug _ _ e => clE e
  | .raise_ _ _ => []
  | .try_ b _ _ _ => clSs b
  | .pass => []
  | .frz _ => []
def clSs : CSs → List Nat
  | .nil => []
  | .cons s ss => clS s ++ clSs ss
end
section
variable {c1 c2 : Nat → List VB → B VB} {p1 p2 : Nat → List Str}
def Same (c1 c2 : Nat → List VB → B VB) (p1 p2 : Nat → List Str) (l : List Nat) : Prop := ∀ g ∈ l, c1 g = c2 g ∧ p1 g = p2 g
theorem Same.l {a b : List Nat} (h : Same c1 c2 p1 p2 (a ++ b)) : Same c1 c2 p1 p2 a := fun g hg => h g (List.mem_append_left _ hg)
theorem Same.r {a b : List Nat} (h : Same c1 c2 p1 p2 (a ++ b)) : Same c1 c2 p1 p2 b := fun g hg => h g (List.mem_append_right _ hg)
theorem Same.t {a : Nat} {b : List Nat} (h : Same c1 c2 p1 p2 (a :: b)) : Same c1 c2 p1 p2 b := fun g hg => h g (List.mem_cons_of_mem _ hg)
theorem Same.h {a : Nat} {b : List Nat} (h : Same c1 c2 p1 p2 (a :: b)) : c1 a = c2 a ∧ p1 a = p2 a := h a List.mem_cons_self
mutual
theorem gE : ∀ (e : CE), Same c1 c2 p1 p2 (clE e) → ∀ σ, evE c1 p1 σ e = evE c2 p2 σ e
  | .var i, h, σ => by simp only [evE]
  | .con d, h, σ => by simp only [evE]
  | .gcon x d, h, σ => by simp only [evE]
  | .bin op a b, h, σ => by rw [clE] at h; simp only [evE, gE a h.l, gE b h.r]
  | .neg a, h, σ => by rw [clE] at h; simp only [evE, gE a h]
  | .bnot a, h, σ => by rw [clE] at h; simp only [evE, gE a h]
  | .band as, h, σ => by rw [clE] at h; simp only [evE, gAnd as h]
  | .bor as, h, σ => by rw [clE] at h; simp only [evE, gOr as h]
  | .seteq a b, h, σ => by rw [clE] at h; simp only [evE, gE a h.l, gE b h.r]
  | .ifx t a b, h, σ => by rw [clE] at h; simp only [evE, gT t h.l, gE a h.r.l, gE b h.r.r]
  | .cmp op a b, h, σ => by rw [clE] at h; simp only [evE, gE a h.l, gE b h.r]
  | .cmp2 p q a b c, h, σ => by rw [clE] at h; simp only [evE, gE a h.l, gE b h.r.l, gE c h.r.r]
  | .isn n a, h, σ => by rw [clE] at h; simp only [evE, gE a h]
  | .call f as, h, σ => by rw [clE] at h; simp only [evE, gEs as h.t, h.h.1]
  | .callk f ks as, h, σ => by rw [clE] at h; simp only [evE, gEs as h.t, h.h.1, h.h.2]
  | .blt b as, h, σ => by rw [clE] at h; simp only [evE, gEs as h]
  | .isin a ts, h, σ => by rw [clE] at h; simp only [evE, gE a h]
  | .meth m o as, h, σ => by simp only [evE]
  | .sub a i, h, σ => by rw [clE] at h; simp only [evE, gE a h.l, gE i h.r]
  | .slc a lo hi, h, σ => by rw [clE] at h; simp only [evE, gE a h.l, gO lo h.r.l, gO hi h.r.r]
  | .rev a, h, σ => by rw [clE] at h; simp only [evE, gE a h]
  | .rom m o as, h, σ => by rw [clE] at h; simp only [evE, gE o h.l, gXs as h.r]
  | .sset a, h, σ => by rw [clE] at h; simp only [evE, gE a h]
  | .tup es, h, σ => by rw [clE] at h; simp only [evE, gXs es h]
  | .lst m es, h, σ => by rw [clE] at h; simp only [evE, gXs es h]
  | .rng t m i, h, σ => by rw [clE] at h; simp only [evE, gI i h]
  | .comp m elt (.mk tg it c), h, σ => by rw [clE] at h; simp only [evE, gI it h.l, gC c h.r.l, gE elt h.r.r]
  | .comp2 m elt (.mk tg it c) (.mk tg1 it1 c1'), h, σ => by rw [clE] at h; simp only [evE, gI it h.l, gC c h.r.l, gI it1 h.r.r.l, gC c1' h.r.r.r.l, gE elt h.r.r.r.r]
theorem gEs : ∀ (e : CEs), Same c1 c2 p1 p2 (clEs e) → ∀ σ, evEs c1 p1 σ e = evEs c2 p2 σ e
  | .nil, h, σ => by simp only [evEs]
  | .cons e es, h, σ => by rw [clEs] at h; simp only [evEs, gE e h.l, gEs es h.r]
theorem gXs : ∀ (e : CEs), Same c1 c2 p1 p2 (clEs e) → ∀ σ, evXs c1 p1 σ e = evXs c2 p2 σ e
  | .nil, h, σ => by simp only [evXs]
  | .cons e es, h, σ => by rw [clEs] at h; simp only [evXs, gE e h.l, gXs es h.r]
theorem gAnd : ∀ (e : CEs), Same c1 c2 p1 p2 (clEs e) → ∀ σ, evAnd c1 p1 σ e = evAnd c2 p2 σ e
  | .nil, h, σ => by simp only [evAnd]
  | .cons e .nil, h, σ => by rw [clEs] at h; simp only [evAnd, gE e h.l]
  | .cons e (.cons a b), h, σ => by
    have ih := gAnd (.cons a b) (by rw [clEs] at h; exact h.r)
    rw [clEs] at h
    simp only [evAnd] at ih ⊢
    simp only [gE e h.l, ih]
theorem gOr : ∀ (e : CEs), Same c1 c2 p1 p2 (clEs e) → ∀ σ, evOr c1 p1 σ e = evOr c2 p2 σ e
  | .nil, h, σ => by simp only [evOr]
  | .cons e .nil, h, σ => by rw [clEs] at h; simp only [evOr, gE e h.l]
  | .cons e (.cons a b), h, σ => by
    have ih := gOr (.cons a b) (by rw [clEs] at h; exact h.r)
    rw [clEs] at h
    simp only [evOr] at ih ⊢
    simp only [gE e h.l, ih]
theorem gT : ∀ (e : CE), Same c1 c2 p1 p2 (clE e) → ∀ σ, evT c1 p1 σ e = evT c2 p2 σ e
  | .bnot a, h, σ => by rw [clE] at h; simp only [evT, gT a h]
  | .band as, h, σ => by rw [clE] at h; simp only [evT, gTAnd as h]
  | .bor as, h, σ => by rw [clE] at h; simp only [evT, gTOr as h]
  | .ifx _ _ _, h, σ => by simp only [evT]
  | .seteq _ _, h, σ => by simp only [evT]
  | .var i, h, σ => by simp only [evT, evE]
  | .con d, h, σ => by simp only [evT, evE]
  | .gcon x d, h, σ => by simp only [evT, evE]
  | .bin op a b, h, σ => by rw [clE] at h; simp only [evT, evE, gE a h.l, gE b h.r]
  | .neg a, h, σ => by rw [clE] at h; simp only [evT, evE, gE a h]
  | .cmp op a b, h, σ => by rw [clE] at h; simp only [evT, evE, gE a h.l, gE b h.r]
  | .cmp2 p q a b c, h, σ => by rw [clE] at h; simp only [evT, evE, gE a h.l, gE b h.r.l, gE c h.r.r]
  | .isn n a, h, σ => by rw [clE] at h; simp only [evT, evE, gE a h]
  | .call f as, h, σ => by rw [clE] at h; simp only [evT, evE, gEs as h.t, h.h.1]
  | .callk f ks as, h, σ => by rw [clE] at h; simp only [evT, evE, gEs as h.t, h.h.1, h.h.2]
  | .blt b as, h, σ => by rw [clE] at h; simp only [evT, evE, gEs as h]
  | .isin a ts, h, σ => by rw [clE] at h; simp only [evT, evE, gE a h]
  | .meth m o as, h, σ => by simp only [evT, evE]
  | .sub a i, h, σ => by rw [clE] at h; simp only [evT, evE, gE a h.l, gE i h.r]
  | .slc a lo hi, h, σ => by rw [clE] at h; simp only [evT, evE, gE a h.l, gO lo h.r.l, gO hi h.r.r]
  | .rev a, h, σ => by rw [clE] at h; simp only [evT, evE, gE a h]
  | .rom m o as, h, σ => by rw [clE] at h; simp only [evT, evE, gE o h.l, gXs as h.r]
  | .sset a, h, σ => by rw [clE] at h; simp only [evT, evE, gE a h]
  | .tup es, h, σ => by rw [clE] at h; simp only [evT, evE, gXs es h]
  | .lst m es, h, σ => by rw [clE] at h; simp only [evT, evE, gXs es h]
  | .rng t m i, h, σ => by rw [clE] at h; simp only [evT, evE, gI i h]
  | .comp m elt (.mk tg it c), h, σ => by rw [clE] at h; simp only [evT, evE, gI it h.l, gC c h.r.l, gE elt h.r.r]
  | .comp2 m elt (.mk tg it c) (.mk tg1 it1 c1'), h, σ => by rw [clE] at h; simp only [evT, evE, gI it h.l, gC c h.r.l, gI it1 h.r.r.l, gC c1' h.r.r.r.l, gE elt h.r.r.r.r]
theorem gTAnd : ∀ (e : CEs), Same c1 c2 p1 p2 (clEs e) → ∀ σ, evTAnd c1 p1 σ e = evTAnd c2 p2 σ e
  | .nil, h, σ => by simp only [evTAnd]
  | .cons e .nil, h, σ => by rw [clEs] at h; simp only [evTAnd, gT e h.l]
  | .cons e (.cons a b), h, σ => by
    have ih := gTAnd (.cons a b) (by rw [clEs] at h; exact h.r)
    rw [clEs] at h
    simp only [evTAnd] at ih ⊢
    simp only [gT e h.l, ih]
theorem gTOr : ∀ (e : CEs), Same c1 c2 p1 p2 (clEs e) → ∀ σ, evTOr c1 p1 σ e = evTOr c2 p2 σ e
  | .nil, h, σ => by simp only [evTOr]
  | .cons e .nil, h, σ => by rw [clEs] at h; simp only [evTOr, gT e h.l]
  | .cons e (.cons a b), h, σ => by
    have ih := gTOr (.cons a b) (by rw [clEs] at h; exact h.r)
    rw [clEs] at h
    simp only [evTOr] at ih ⊢
    simp only [gT e h.l, ih]
theorem gC : ∀ (e : CO), Same c1 c2 p1 p2 (clO e) → ∀ σ, evC c1 p1 σ e = evC c2 p2 σ e
  | .none, h, σ => by simp only [evC]
  | .some e, h, σ => by rw [clO] at h; simp only [evC, gT e h]
theorem gO : ∀ (e : CO), Same c1 c2 p1 p2 (clO e) → ∀ σ, evO c1 p1 σ e = evO c2 p2 σ e
  | .none, h, σ => by simp only [evO]
  | .some e, h, σ => by rw [clO] at h; simp only [evO, gE e h]
theorem gI : ∀ (e : CI), Same c1 c2 p1 p2 (clI e) → ∀ σ, evI c1 p1 σ e = evI c2 p2 σ e
  | .seq e, h, σ => by rw [clI] at h; simp only [evI, gE e h]
  | .rng e, h, σ => by rw [clI] at h; simp only [evI, gE e h]
  | .rng2 a b, h, σ => by rw [clI] at h; simp only [evI, gE a h.l, gE b h.r]
  | .enum e, h, σ => by rw [clI] at h; simp only [evI, gE e h]
  | .zip a b, h, σ => by rw [clI] at h; simp only [evI, gE a h.l, gE b h.r]
  | .zip3 a b c, h, σ => by rw [clI] at h; simp only [evI, gE a h.l, gE b h.r.l, gE c h.r.r]
end
theorem gIs : ∀ (e : CI), Same c1 c2 p1 p2 (clI e) → ∀ σ, evIs c1 p1 σ e = evIs c2 p2 σ e
  | .seq e, h, σ => by rw [clI] at h; simp only [evIs, gE e h]
  | .rng e, h, σ => by rw [clI] at h; simp only [evIs, gE e h]
  | .rng2 a b, h, σ => by rw [clI] at h; simp only [evIs, gE a h.l, gE b h.r]
  | .enum e, h, σ => by rw [clI] at h; simp only [evIs, gE e h]
  | .zip a b, h, σ => by rw [clI] at h; simp only [evIs, gE a h.l, gE b h.r]
  | .zip3 a b c, h, σ => by rw [clI] at h; simp only [evIs, gE a h.l, gE b h.r.l, gE c h.r.r]
theorem gP1 (e : CE) (h : Same c1 c2 p1 p2 (clE e)) (σ : SgB) : evP1 c1 p1 σ e = evP1 c2 p2 σ e := by
  cases e with
  | meth m o as =>
    rw [clE] at h
    cases o with
    | var j => simp only [evP1, gXs as h.r]
    | _ => simp only [evP1, evE]
  | _ => simp only [evP1, gE _ h]
theorem gP (es : CEs) (h : Same c1 c2 p1 p2 (clEs es)) (σ : SgB) : evP c1 p1 σ es = evP c2 p2 σ es := by
  cases es with
  | nil => simp only [evP, gXs _ h]
  | cons e t =>
    cases t with
    | nil => rw [clEs] at h; simp only [evP, gP1 e h.l]
    | cons a b => simp only [evP, gXs _ h]
theorem gSet (e : CE) (h : Same c1 c2 p1 p2 (clE e)) (σ : SgB) : evSet c1 p1 σ e = evSet c2 p2 σ e := by
  cases e with
  | meth m o as =>
    cases o with
    | var j => simp only [evSet, gP1 _ h]
    | _ => simp only [evSet, evE]
  | var j => simp only [evSet]
  | _ => simp only [evSet, gE _ h]
theorem gX (e : CE) (h : Same c1 c2 p1 p2 (clE e)) (σ : SgB) : evX c1 p1 σ e = evX c2 p2 σ e := by
  cases e with
  | meth m o as =>
    rw [clE] at h
    cases o with
    | var j => simp only [evX, gP as h.r]
    | _ => simp only [evX, evE]
  | _ => simp only [evX, gE _ h]
theorem gM (e : CE) (h : Same c1 c2 p1 p2 (clE e)) (σ : SgB) : evM c1 p1 σ e = evM c2 p2 σ e := by
  cases e with
  | var j => simp only [evM]
  | _ => simp only [evM, gE _ h]
mutual
theorem gS : ∀ (s : CS), Same c1 c2 p1 p2 (clS s) → ∀ σ, evS c1 p1 s σ = evS c2 p2 s σ
  | .set i e, h, σ => by rw [clS] at h; simp only [evS, gSet e h]
  | .par is es, h, σ => by rw [clS] at h; simp only [evS, gEs es h]
  | .unp is e, h, σ => by rw [clS] at h; simp only [evS, gE e h]
  | .sst o i e, h, σ => by rw [clS] at h; simp only [evS, gE e h.l, gE i h.r]
  | .expr e, h, σ => by rw [clS] at h; simp only [evS, gX e h]
  | .ret e, h, σ => by rw [clS] at h; simp only [evS, gM e h]
  | .retN, h, σ => by simp only [evS]
  | .ifs t a b, h, σ => by rw [clS] at h; simp only [evS, gT t h.l, gSs a h.r.l, gSs b h.r.r]
  | .for_ tg it b, h, σ => by rw [clS] at h; simp only [evS, gIs it h.l, gSs b h.r]
  | .whil n t b, h, σ => by rw [clS] at h; simp only [evS, gT t h.l, gSs b h.r]
  | .aug i op e, h, σ => by rw [clS] at h; simp only [evS, gE e h]
  | .raise_ c as, h, σ => by simp only [evS]
  | .try_ b c i j, h, σ => by rw [clS] at h; simp only [evS, gSs b h]
  | .pass, h, σ => by simp only [evS]
  | .frz i, h, σ => by simp only [evS]
theorem gSs : ∀ (s : CSs), Same c1 c2 p1 p2 (clSs s) → ∀ σ, evSs c1 p1 s σ = evSs c2 p2 s σ
  | .nil, h, σ => by simp only [evSs]
  | .cons s ss, h, σ => by rw [clSs] at h; simp only [evSs, gS s h.l, gSs ss h.r]
end
end
/-- a table that is part of another one, closed under calls -/
theorem agree {N : Kn} {T1 T2 : Tab} (hs : ∀ f d, T1 f = some d → T2 f = some d) (hcl : ∀ f d, T1 f = some d → ∀ g ∈ clSs d.body, ∃ d', T1 g = some d') : ∀ (k f : Nat), (∃ d, T1 f = some d) → ∀ vs, evCall N T1 k f vs = evCall N T2 k f vs
  | 0, f, _, vs => by unfold evCall; rfl
  | k + 1, f, ⟨d, hd⟩, vs => by
    unfold evCall
    rw [hd, hs f d hd]
    dsimp only
    have : ∀ σ, evSs (evCall N T1 k) (parOf T1) d.body σ = evSs (evCall N T2 k) (parOf T2) d.body σ := gSs d.body fun g hg => by
      obtain ⟨d', h'⟩ := hcl f d hd g hg
      exact ⟨funext fun vs => agree hs hcl k g ⟨d', h'⟩ vs, by unfold parOf; rw [h', hs g d' h']⟩
    rw [this]
/-- all that T0 holds stands in T, too -/
class Le (T0 T : Tab) : Prop where
  le : ∀ f d, T0 f = some d → T f = some d
instance Le.self (T : Tab) : Le T T := ⟨fun _ _ h => h⟩
def subB (l m : List (Nat × FD)) (ids : List Nat) : Bool := l.all fun p => ids.contains p.1 && (clSs p.2.body).all fun g => (l.lookup g).isSome
end KB
/-! KP: plain data. -/
namespace KA
open PySem
@[simp] theorem truth_bool (b : Bool) : truthD (.bool b) = some b := Eq.trans rfl rfl
@[simp] theorem bool_bool (b : Bool) : boolD (.bool b) = some b := Eq.trans rfl rfl
@[simp] theorem int_int (i : Int) : intD (.int i) = some i := Eq.trans rfl rfl
@[simp] theorem add_int (i j : Int) : binD .Add (.int i) (.int j) = some (.int (i + j)) := Eq.trans rfl rfl
@[simp] theorem sub_int (i j : Int) : binD .Sub (.int i) (.int j) = some (.int (i - j)) := Eq.trans rfl rfl
@[simp] theorem lt_int (i j : Int) : cmpD .Lt (.int i) (.int j) = some (decide (i < j)) := Eq.trans rfl rfl
@[simp] theorem le_int (i j : Int) : cmpD .LtE (.int i) (.int j) = some (decide (i ≤ j)) := Eq.trans rfl rfl
@[simp] theorem gt_int (i j : Int) : cmpD .Gt (.int i) (.int j) = some (decide (j < i)) := Eq.trans rfl rfl
@[simp] theorem ge_int (i j : Int) : cmpD .GtE (.int i) (.int j) = some (decide (j ≤ i)) := Eq.trans rfl rfl
@[simp] theorem eq_int (i j : Int) : cmpD .Eq (.int i) (.int j) = some (i == j) := Eq.trans rfl rfl
@[simp] theorem ne_int (i j : Int) : cmpD .NotEq (.int i) (.int j) = some (!(i == j)) := Eq.trans rfl rfl
@[simp] theorem eq_str (i j : Str) : cmpD .Eq (.str i) (.str j) = some (i == j) := Eq.trans rfl rfl
@[simp] theorem eq_bool (i j : Bool) : cmpD .Eq (.bool i) (.bool j) = some (i == j) := Eq.trans rfl rfl
@[simp] theorem ne_bool (i j : Bool) : cmpD .NotEq (.bool i) (.bool j) = some (!(i == j)) := Eq.trans rfl rfl
@[simp] theorem ne_str (i j : Str) : cmpD .NotEq (.str i) (.str j) = some (!(i == j)) := Eq.trans rfl rfl
@[simp] theorem len_list (ds : List PD) : bltD .len [.list ds] = some (.int ds.length) := Eq.trans rfl rfl
@[simp] theorem len_tuple (ds : List PD) : bltD .len [.tuple ds] = some (.int ds.length) := Eq.trans rfl rfl
@[simp] theorem tuple_list (ds : List PD) : bltD .tuple_ [.list ds] = some (.tuple ds) := Eq.trans rfl rfl
@[simp] theorem tuple_tuple (ds : List PD) : bltD .tuple_ [.tuple ds] = some (.tuple ds) := Eq.trans rfl rfl
@[simp] theorem list_list (ds : List PD) : bltD .list_ [.list ds] = some (.list ds) := Eq.trans rfl rfl
@[simp] theorem list_tuple (ds : List PD) : bltD .list_ [.tuple ds] = some (.list ds) := Eq.trans rfl rfl
@[simp] theorem int_of_int (i : Int) : bltD .int_ [.int i] = some (.int i) := Eq.trans rfl rfl
@[simp] theorem max_int (i j : Int) : bltD .max_ [.int i, .int j] = some (.int (if j > i then j else i)) := Eq.trans rfl rfl
@[simp] theorem min_int (i j : Int) : bltD .min_ [.int i, .int j] = some (.int (if j < i then j else i)) := Eq.trans rfl rfl
@[simp] theorem items_list (ds : List PD) : itemsD (.list ds) = some ds := Eq.trans rfl rfl
@[simp] theorem items_tuple (ds : List PD) : itemsD (.tuple ds) = some ds := Eq.trans rfl rfl
@[simp] theorem zip_list (a b : List PD) : zipP (.list a) (.list b) = some (zipD a b) := Eq.trans rfl rfl
@[simp] theorem zip_tuple (a b : List PD) : zipP (.tuple a) (.tuple b) = some (zipD a b) := Eq.trans rfl rfl
@[simp] theorem all_list (ds : List PD) : bltD .all_ [.list ds] = (boolsD ds).map fun bs => .bool (bs.all id) := Eq.trans rfl rfl
@[simp] theorem any_list (ds : List PD) : bltD .any_ [.list ds] = (boolsD ds).map fun bs => .bool (bs.any id) := Eq.trans rfl rfl
@[simp] theorem sum_list (ds : List PD) : bltD .sum [.list ds] = (intsD ds).map fun ns => .int ns.sum := Eq.trans rfl rfl
@[simp] theorem boolsD_mp {γ : Type} (f : γ → Bool) : ∀ l : List γ, boolsD (l.map fun x => .bool (f x)) = some (l.map f)
  | [] => rfl
  | x :: r => by simp [boolsD, boolsD_mp f r]
@[simp] theorem intsD_mp : ∀ l : List Int, intsD (l.map .int) = some l
  | [] => rfl
  | x :: r => by simp [intsD, intsD_mp r]
theorem atI_nat {α : Type} (xs : List α) (n : Nat) : L2.atI xs (n : Int) = xs[n]? := by
  unfold L2.atI L2.ixN
  by_cases h : n < xs.length
  · simp [h]
  · simp [h]
theorem sub_tup_nat (ds : List PD) (n : Nat) : subD (.tuple ds) (.int n) = ds[n]? := atI_nat ds n
theorem sub_list_nat (ds : List PD) (n : Nat) : subD (.list ds) (.int n) = ds[n]? := atI_nat ds n
/-! ### comprehensions -/
theorem seqIndex_nat {i n : Nat} (h : i < n) : seqIndex? (i : Int) n = some i := by
  unfold seqIndex?
  have : ¬ ((i : Int) < 0) := by omega
  simp [this]
  omega
theorem pop_bound {i n : Nat} (h : i < n) (hz : n ≤ 16777216) : -(2 ^ 63) ≤ (i : Int) ∧ (i : Int) < 2 ^ 63 := by
  have e : (2 : Int) ^ 63 = 9223372036854775808 := by decide +kernel
  rw [e]
  omega
theorem popAt_nat {i : Nat} {x : PD} {ds : List PD} (hi : ds[i]? = some x) (hz : ds.length ≤ SZ) : popAt ds (i : Int) = some (x, ds.eraseIdx i) := by
  have hlt := (List.getElem?_eq_some_iff.mp hi).1
  unfold popAt
  rw [if_pos (pop_bound hlt hz), seqIndex_nat hlt]
  simp only [hi]
def isInt : PD → Bool
  | .int _ => true
  | _ => false
def within (x : PD) (lo hi : Int) : Bool := match x with
  | .int i => decide (lo ≤ i) && decide (i ≤ hi)
  | _ => false
theorem isin_int (x : PD) : isinD x [.ty "int"] = some (isTy x "int") := by
  unfold isinD
  rw [if_pos (by decide)]
  cases isTy x "int" <;> simp [isinD]
theorem isin_bool (x : PD) : isinD x [.ty "bool"] = some (isTy x "bool") := by
  unfold isinD
  rw [if_pos (by decide)]
  cases isTy x "bool" <;> simp [isinD]
theorem isin_tuple (x : PD) : isinD x [.ty "tuple"] = some (isTy x "tuple") := by
  unfold isinD
  rw [if_pos (by decide)]
  cases isTy x "tuple" <;> simp [isinD]
theorem isin_list (x : PD) : isinD x [.ty "list"] = some (isTy x "list") := by
  unfold isinD
  rw [if_pos (by decide)]
  cases isTy x "list" <;> simp [isinD]
def isRow (x : PD) (lo hi : Int) : Bool := match x with
  | .tuple ds => decide (lo ≤ ds.length) && decide ((ds.length : Int) ≤ hi)
  | _ => false
def areWithin (x : PD) (n lo hi : Int) : Bool := match x with
  | .tuple ds => decide ((ds.length : Int) = n) && ds.all (within · lo hi)
  | _ => false
def asc (l : List Int) : Bool := (l.zip l.tail).all fun p => decide (p.1 < p.2)
theorem cut_drop (ds : List PD) : cutD ds (some 1) none = ds.tail := by
  unfold cutD HT.sIx
  cases ds with
  | nil => rfl
  | cons a r =>
    simp
def keyD (key : List Int) : PD := .tuple (key.map .int)
def cutsD (cuts : List Int) : PD := .tuple (cuts.map .int)
def lockD (lock : List (List Int)) : PD := .tuple (lock.map cutsD)
def makeD (c d : Int) : PD := .tuple [.int c, .int d]
/-- a key of the make, a lock of the make -/
def isKey (c d : Int) (key : List Int) : Bool := decide ((key.length : Int) = c) && key.all fun x => decide (0 ≤ x) && decide (x ≤ d - 1)
def areCuts (d : Int) (cuts : List Int) : Bool := decide (1 ≤ cuts.length) && decide ((cuts.length : Int) ≤ d) && (cuts.all fun x => decide (0 ≤ x) && decide (x ≤ d - 1)) && asc cuts
def isLock (c d : Int) (lock : List (List Int)) : Bool := decide ((lock.length : Int) = c) && lock.all (areCuts d)
@[simp] theorem sub0 (x : PD) (r : List PD) : subD (.tuple (x :: r)) (.int 0) = some x := by
  simp [subD, atD, L2.atI, L2.ixN]
@[simp] theorem sub1 (x y : PD) (r : List PD) : subD (.tuple (x :: y :: r)) (.int 1) = some y := by
  simp [subD, atD, L2.atI, L2.ixN]
  rw [if_pos (by omega)]
  rfl
def isMake (c d : Int) : Prop := 1 ≤ c ∧ c ≤ 5 ∧ 2 ≤ d ∧ d ≤ 5
@[simp] theorem pow18 : binD .Pow (.int 10) (.int 18) = some (.int (10 ^ 18)) := Eq.trans rfl rfl
@[simp] theorem pow38 : binD .Pow (.int 10) (.int 38) = some (.int (10 ^ 38)) := Eq.trans rfl rfl
@[simp] theorem pow43 : binD .Pow (.int 10) (.int 43) = some (.int (10 ^ 43)) := Eq.trans rfl rfl
@[simp] theorem pow39 : binD .Pow (.int 10) (.int 39) = some (.int (10 ^ 39)) := Eq.trans rfl rfl
@[simp] theorem pow11 : binD .Pow (.int 10) (.int 11) = some (.int (10 ^ 11)) := Eq.trans rfl rfl
theorem mul_ok {i j : Int} (h : mulOk i j = true) : binD .Mult (.int i) (.int j) = some (.int (i * j)) := by
  show (if mulOk i j = true then some (PyData.int (i * j)) else none) = _
  rw [if_pos h]
theorem mul_l {i j : Int} (h : -(2 ^ 64) < i ∧ i < 2 ^ 64) : binD .Mult (.int i) (.int j) = some (.int (i * j)) := mul_ok (by
  unfold mulOk
  rw [decide_eq_true (Or.inl h), Bool.true_or])
theorem mul_r {i j : Int} (h : -(2 ^ 64) < j ∧ j < 2 ^ 64) : binD .Mult (.int i) (.int j) = some (.int (i * j)) := mul_ok (by
  unfold mulOk
  rw [decide_eq_true (Or.inr h), Bool.true_or])
theorem mul_big {i j : Int} {a b : Nat} (hi : i.natAbs < 2 ^ a) (hj : j.natAbs < 2 ^ b) (h : a + b < 1000000) : binD .Mult (.int i) (.int j) = some (.int (i * j)) := mul_ok (by
  have h1 : i.natAbs.log2 ≤ a := by
    by_cases z : i.natAbs = 0
    · rw [z]; exact Nat.zero_le _
    · exact Nat.le_of_lt ((Nat.log2_lt z).mpr hi)
  have h2 : j.natAbs.log2 ≤ b := by
    by_cases z : j.natAbs = 0
    · rw [z]; exact Nat.zero_le _
    · exact Nat.le_of_lt ((Nat.log2_lt z).mpr hj)
  unfold mulOk
  rw [decide_eq_true (show i.natAbs.log2 + j.natAbs.log2 < 1000000 by omega), Bool.or_true])
theorem mod_pos {i j : Int} (h : 0 < j) : binD .Mod (.int i) (.int j) = some (.int (i % j)) := by
  show (if 0 < j then some (PyData.int (i % j)) else none) = _
  rw [if_pos h]
theorem div_pos {i j : Int} (h : 0 < j) (h2 : j < 2 ^ 64) : binD .FloorDiv (.int i) (.int j) = some (.int (i / j)) := by
  have h3 : j.natAbs.log2 < 9000 := by
    have : j.natAbs < 2 ^ 64 := by omega
    have := (Nat.log2_lt (show j.natAbs ≠ 0 by omega)).mpr this
    omega
  show (if 0 < j ∧ j.natAbs.log2 < 9000 then some (PyData.int (i / j)) else none) = _
  rw [if_pos ⟨h, h3⟩]
/-- a feed stands at l: three whole numbers, the last at most n -/
@[simp] theorem subl0 (x : PD) (r : List PD) : subD (.list (x :: r)) (.int 0) = some x := by
  simp [subD, atD, L2.atI, L2.ixN]
@[simp] theorem subl1 (x y : PD) (r : List PD) : subD (.list (x :: y :: r)) (.int 1) = some y := by
  simp [subD, atD, L2.atI, L2.ixN]
  rw [if_pos (by omega)]
  rfl
@[simp] theorem subl2 (x y z : PD) (r : List PD) : subD (.list (x :: y :: z :: r)) (.int 2) = some z := by
  simp [subD, atD, L2.atI, L2.ixN]
  rw [if_pos (by omega)]
  rfl
theorem isKey_swap {c d : Int} {key : List Int} (hk : isKey c d key = true) {i : Nat} (hi : (i : Int) < c) {x : Int} (hx : 0 ≤ x ∧ x ≤ d - 1) : isKey c d (key.take i ++ [x] ++ key.drop (i + 1)) = true := by
  unfold isKey at hk ⊢
  simp at hk ⊢
  obtain ⟨h1, h2⟩ := hk
  exact ⟨by omega, fun y hy => h2 y (List.mem_of_mem_take hy), hx, fun y hy => h2 y (List.mem_of_mem_drop hy)⟩
theorem cut_take (ds : List PD) (n : Nat) : cutD ds none (some (n : Int)) = ds.take n := by
  unfold cutD
  rw [HT.sIx_none, HT.sIx_nat, List.drop_zero, Nat.sub_zero, List.take_eq_take_iff]
  omega
theorem cut_dropn (ds : List PD) (n : Nat) : cutD ds (some (n : Int)) none = ds.drop n := by
  unfold cutD
  rw [HT.sIx_none, HT.sIx_nat, List.take_of_length_le (by rw [List.length_drop]; exact Nat.le_refl _)]
  by_cases h : n ≤ ds.length
  · rw [Nat.min_eq_left h]
  · rw [Nat.min_eq_right (by omega), List.drop_length, List.drop_eq_nil_of_le (by omega)]
@[simp] theorem make0 (c d : Int) : subD (makeD c d) (.int 0) = some (.int c) := sub0 _ _
@[simp] theorem make1 (c d : Int) : subD (makeD c d) (.int 1) = some (.int d) := sub1 _ _ _
@[simp] theorem items_lock (lock : List (List Int)) : itemsD (lockD lock) = some (lock.map cutsD) := Eq.trans rfl rfl
@[simp] theorem slc_key (key : List Int) (n : Nat) : slcD (keyD key) none (some (n : Int)) = some (keyD (key.take n)) := by
  show some (PyData.tuple (cutD (key.map .int) none (some (n : Int)))) = _
  rw [cut_take, ← List.map_take]
  rfl
@[simp] theorem slc_key1 (key : List Int) (n : Nat) : slcD (keyD key) (some ((n : Int) + 1)) none = some (keyD (key.drop (n + 1))) := by
  show some (PyData.tuple (cutD (key.map .int) (some ((n : Int) + 1)) none)) = _
  have e : (n : Int) + 1 = ((n + 1 : Nat) : Int) := by omega
  rw [e, cut_dropn, ← List.map_drop]
  rfl
theorem add_key {a b : List Int} (h : a.length + b.length ≤ 1000) : binD .Add (keyD a) (keyD b) = some (keyD (a ++ b)) := by
  show (if (a.map PyData.int).length + (b.map PyData.int).length ≤ SZ then some (PyData.tuple (a.map .int ++ b.map .int)) else none) = _
  rw [if_pos (by simp; show _ ≤ 16777216; omega), ← List.map_append]
  rfl
theorem add_key1 {a : List Int} {x : Int} (h : a.length ≤ 900) : binD .Add (keyD a) (.tuple [.int x]) = some (keyD (a ++ [x])) := add_key (b := [x]) (by simp; omega)
/-- all keys' list: the rows so far -/
theorem isin_cons {n : String} (hn : ["int", "bool", "str", "list", "tuple", "dict"].contains n = true) (x : PD) (r : List Tn) : isinD x (.ty n :: r) = if isTy x n then some true else isinD x r := by
  rw [isinD]
  rw [if_pos hn]
@[simp] theorem isin_nil (x : PD) : isinD x [] = some false := by rw [isinD]
@[simp] theorem isin_list_ (x : PD) (r : List Tn) : isinD x (.ty "list" :: r) = if isTy x "list" then some true else isinD x r := isin_cons (by decide) x r
@[simp] theorem isin_tuple_ (x : PD) (r : List Tn) : isinD x (.ty "tuple" :: r) = if isTy x "tuple" then some true else isinD x r := isin_cons (by decide) x r
@[simp] theorem isin_bool_ (x : PD) (r : List Tn) : isinD x (.ty "bool" :: r) = if isTy x "bool" then some true else isinD x r := isin_cons (by decide) x r
@[simp] theorem isin_int_ (x : PD) (r : List Tn) : isinD x (.ty "int" :: r) = if isTy x "int" then some true else isinD x r := isin_cons (by decide) x r
@[simp] theorem isin_str_ (x : PD) (r : List Tn) : isinD x (.ty "str" :: r) = if isTy x "str" then some true else isinD x r := isin_cons (by decide) x r
/-- data that is told: d deep at most -/
theorem zipD_self : ∀ xs : List PD, zipD xs xs = xs.map fun y => .tuple [y, y]
  | [] => rfl
  | x :: r => by simp [zipD, zipD_self r]
theorem filter_no {α : Type} (l : List α) : l.filter (fun _ => false) = [] := List.filter_eq_nil_iff.mpr (by simp)
/-- repr tells it in b signs at most -/
structure Rn (b h : Nat) (x : PD) : Prop where
  sh : x.showable = true
  nd : x.hasDict = false
  dp : x.depth ≤ h
  ln : x.shown.length ≤ b
theorem rn_int {i : Int} (h0 : 0 ≤ i) (h1 : i ≤ 9) : Rn 1 0 (.int i) := by
  have h : i = 0 ∨ i = 1 ∨ i = 2 ∨ i = 3 ∨ i = 4 ∨ i = 5 ∨ i = 6 ∨ i = 7 ∨ i = 8 ∨ i = 9 := by omega
  have key : ∀ n : Nat, n ≤ 9 → ((toString (n : Int) : String) : Str).length ≤ 1 ∧ ((n : Int).natAbs.log2 < 1920) := by decide +kernel
  obtain ⟨n, rfl⟩ : ∃ n : Nat, i = n := ⟨i.toNat, by omega⟩
  obtain ⟨k1, k2⟩ := key n (by omega)
  refine ⟨?_, ?_, ?_, ?_⟩
  · rw [PyData.showable]; exact decide_eq_true k2
  · rw [PyData.hasDict]
  · rw [PyData.depth]; exact Nat.le_refl _
  · rw [PyData.shown]; exact k1
theorem rn_all {b h : Nat} : ∀ {xs : List PD}, (∀ x ∈ xs, Rn b h x) → PyData.showableAll xs = true ∧ PyData.hasDictAll xs = false ∧ PyData.depthAll xs ≤ h ∧ piled (PyData.shownAll xs) ≤ xs.length * (b + 2) ∧ (PyData.shownAll xs).length = xs.length
  | [], _ => ⟨rfl, rfl, Nat.zero_le _, by simp [PyData.shownAll, piled_nil], rfl⟩
  | x :: r, hx => by
    obtain ⟨h1, h2, h3, h4, h5⟩ := rn_all (xs := r) fun y hy => hx y (by simp [hy])
    have q := hx x (by simp)
    have ql := q.ln
    have qd := q.dp
    refine ⟨by rw [PyData.showableAll, q.sh, h1]; rfl, by rw [PyData.hasDictAll, q.nd, h2]; rfl, by rw [PyData.depthAll]; omega, ?_, by rw [PyData.shownAll, List.length_cons, h5, List.length_cons]⟩
    rw [PyData.shownAll, piled_cons, List.length_cons, Nat.add_mul]
    omega
theorem listText_len (ts : List Str) : (listText ts).length ≤ piled ts + 2 := by
  unfold listText
  rw [strLen_append]
  have e1 : ((("]" : String) : Str)).length = 1 := rfl
  have e2 : ((("[" : String) : Str)).length = 1 := rfl
  cases ts with
  | nil => 
    show (("[" : String) : Str).length + _ ≤ _
    rw [e1, e2]
    omega
  | cons t r =>
    rw [textFrom, textFrom_length_pos _ _ _ (by omega), strLen_append, strLen_append, piled_cons, e2]
    have e3 : (((if (0 : Nat) > 0 then ", " else "" : String) : Str)).length = 0 := rfl
    rw [e3]
    have : (("]" : String) : Str).length = 1 := e1
    omega
theorem tupleText_len (ts : List Str) : (tupleText ts).length ≤ piled ts + 3 := by
  unfold tupleText
  rw [strLen_append, strLen_append]
  have e2 : ((("(" : String) : Str)).length = 1 := rfl
  have e3 : (((if (ts.length == 1) = true then ",)" else ")" : String) : Str)).length ≤ 2 := by
    split <;> decide +kernel
  cases ts with
  | nil =>
    have : (Str.join ", " []).length = 0 := rfl
    omega
  | cons t r =>
    have := join_length_add (t :: r) (by simp)
    omega
theorem rn_tuple {b h n : Nat} {xs : List PD} (hx : ∀ x ∈ xs, Rn b h x) (hn : xs.length ≤ n) : Rn (n * (b + 2) + 3) (h + 1) (.tuple xs) := by
  obtain ⟨h1, h2, h3, h4, h5⟩ := rn_all hx
  refine ⟨by rw [PyData.showable]; exact h1, by rw [PyData.hasDict]; exact h2, by rw [PyData.depth]; omega, ?_⟩
  rw [PyData.shown]
  have := tupleText_len (PyData.shownAll xs)
  have := Nat.mul_le_mul_right (b + 2) hn
  omega
theorem rn_list {b h n : Nat} {xs : List PD} (hx : ∀ x ∈ xs, Rn b h x) (hn : xs.length ≤ n) : Rn (n * (b + 2) + 3) (h + 1) (.list xs) := by
  obtain ⟨h1, h2, h3, h4, h5⟩ := rn_all hx
  refine ⟨by rw [PyData.showable]; exact h1, by rw [PyData.hasDict]; exact h2, by rw [PyData.depth]; omega, ?_⟩
  rw [PyData.shown]
  have := listText_len (PyData.shownAll xs)
  have := Nat.mul_le_mul_right (b + 2) hn
  omega
theorem repr_list {b h : Nat} {xs : List PD} (r : Rn b h (.list xs)) (hh : h ≤ 64) (hb : b ≤ 16777216) : bltD .repr_ [.list xs] = some (.str (PyData.list xs).shown) := by
  have h1 := r.ln
  have h2 := r.dp
  show (if (_ && _ && _ && _) = true then _ else _) = _
  rw [if_pos]
  rw [r.sh, r.nd, decide_eq_true (show (PyData.list xs).depth ≤ 64 by omega), decide_eq_true (show (PyData.list xs).shown.length ≤ SZ from Nat.le_trans h1 hb)]
  rfl
theorem rn_lock {c d : Int} (hm : isMake c d) {lock : List (List Int)} (h : isLock c d lock = true) : Rn 103 2 (lockD lock) := by
  obtain ⟨m1, m2, m3, m4⟩ := hm
  unfold isLock at h
  simp at h
  obtain ⟨h1, h2⟩ := h
  refine rn_tuple (b := 18) (n := 5) (h := 1) (fun x hx => ?_) (by simp; omega)
  obtain ⟨cuts, hc, rfl⟩ := List.mem_map.mp hx
  have h3 := h2 cuts hc
  unfold areCuts at h3
  simp at h3
  refine rn_tuple (b := 1) (n := 5) (h := 0) (fun y hy => ?_) (by simp; omega)
  obtain ⟨i, hi, rfl⟩ := List.mem_map.mp hy
  have := h3.1.2 i hi
  exact rn_int (by omega) (by omega)
end KA
/-! KP2: comparing data that holds no bools. -/
namespace KA
open PySem
mutual
def pln : PD → Bool
  | .none => true
  | .int _ => true
  | .str x => PyData.strOk x
  | .list xs => plns xs
  | .tuple xs => plns xs
  | .bool _ => false
  | .dict _ => false
def plns : List PD → Bool
  | [] => true
  | x :: xs => pln x && plns xs
end
mutual
theorem pln_lay : ∀ {x : PD}, pln x = true → x.canLay0 = true
  | .none, _ => by rw [PyData.canLay0]
  | .int _, _ => by rw [PyData.canLay0]
  | .str x, h => by rw [PyData.canLay0]; rw [pln] at h; exact h
  | .list xs, h => by rw [PyData.canLay0]; rw [pln] at h; exact plns_lay h
  | .tuple xs, h => by rw [PyData.canLay0]; rw [pln] at h; exact plns_lay h
  | .bool _, h => by rw [pln] at h; cases h
  | .dict _, h => by rw [pln] at h; cases h
theorem plns_lay : ∀ {xs : List PD}, plns xs = true → PyData.canLayAll0 xs = true
  | [], _ => by rw [PyData.canLayAll0]
  | x :: xs, h => by
    rw [plns] at h
    rw [PyData.canLayAll0, pln_lay (by simp at h; exact h.1), plns_lay (by simp at h; exact h.2)]
    rfl
end
mutual
theorem eqv_pln : ∀ {x y : PD}, pln x = true → pln y = true → (PyData.eqv x y = true ↔ x = y)
  | .none, .none, _, _ => by simp [PyData.eqv]
  | .int i, .int j, _, _ => by simp [PyData.eqv]
  | .str i, .str j, _, _ => by simp [PyData.eqv]
  | .list xs, .list ys, h, k => by
    rw [pln] at h k
    simp [PyData.eqv, eqvs_pln h k]
  | .tuple xs, .tuple ys, h, k => by
    rw [pln] at h k
    simp [PyData.eqv, eqvs_pln h k]
  | .bool _, _, h, _ => by rw [pln] at h; cases h
  | .dict _, _, h, _ => by rw [pln] at h; cases h
  | _, .bool _, _, h => by rw [pln] at h; cases h
  | _, .dict _, _, h => by rw [pln] at h; cases h
  | .none, .int _, _, _ => by simp [PyData.eqv]
  | .none, .str _, _, _ => by simp [PyData.eqv]
  | .none, .list _, _, _ => by simp [PyData.eqv]
  | .none, .tuple _, _, _ => by simp [PyData.eqv]
  | .int _, .none, _, _ => by simp [PyData.eqv]
  | .int _, .str _, _, _ => by simp [PyData.eqv]
  | .int _, .list _, _, _ => by simp [PyData.eqv]
  | .int _, .tuple _, _, _ => by simp [PyData.eqv]
  | .str _, .none, _, _ => by simp [PyData.eqv]
  | .str _, .int _, _, _ => by simp [PyData.eqv]
  | .str _, .list _, _, _ => by simp [PyData.eqv]
  | .str _, .tuple _, _, _ => by simp [PyData.eqv]
  | .list _, .none, _, _ => by simp [PyData.eqv]
  | .list _, .int _, _, _ => by simp [PyData.eqv]
  | .list _, .str _, _, _ => by simp [PyData.eqv]
  | .list _, .tuple _, _, _ => by simp [PyData.eqv]
  | .tuple _, .none, _, _ => by simp [PyData.eqv]
  | .tuple _, .int _, _, _ => by simp [PyData.eqv]
  | .tuple _, .str _, _, _ => by simp [PyData.eqv]
  | .tuple _, .list _, _, _ => by simp [PyData.eqv]
theorem eqvs_pln : ∀ {x y : List PD}, plns x = true → plns y = true → (PyData.eqvAll x y = true ↔ x = y)
  | [], [], _, _ => by simp [PyData.eqvAll]
  | [], _ :: _, _, _ => by simp [PyData.eqvAll]
  | _ :: _, [], _, _ => by simp [PyData.eqvAll]
  | x :: xs, y :: ys, h, k => by
    rw [plns] at h k
    simp at h k
    simp [PyData.eqvAll, eqv_pln h.1 k.1, eqvs_pln h.2 k.2]
end
theorem shaped_pln {x : PD} (h : pln x = true) (d : x.depth ≤ 64) : SeqAt.shaped x = true := by
  unfold SeqAt.shaped
  rw [pln_lay h, decide_eq_true d]
  rfl
theorem eqD_pln {x y : PD} {p : Prop} [Decidable p] (hx : pln x = true) (hy : pln y = true) (dx : x.depth ≤ 64) (dy : y.depth ≤ 64) (h : x = y ↔ p) : eqD x y = some (decide p) := by
  have key : (if (SeqAt.shaped x && SeqAt.shaped y) = true then some (PyData.eqv x y) else none) = some (decide p) := by
    rw [shaped_pln hx dx, shaped_pln hy dy, if_pos (by rfl)]
    congr 1
    rw [Bool.eq_iff_iff, eqv_pln hx hy, h, decide_eq_true_iff]
  have e1 : ∀ i j, x = .int i → y = .int j → eqD x y = some (decide p) := fun i j h1 h2 => by
    subst h1 h2
    show some (i == j) = _
    congr 1
    rw [Bool.eq_iff_iff, beq_iff_eq, decide_eq_true_iff, ← h]
    simp
  have e2 : ∀ i j, x = .str i → y = .str j → eqD x y = some (decide p) := fun i j h1 h2 => by
    subst h1 h2
    show some (i == j) = _
    congr 1
    rw [Bool.eq_iff_iff, beq_iff_eq, decide_eq_true_iff, ← h]
    simp
  cases x <;> cases y <;> first
    | exact e1 _ _ rfl rfl
    | exact e2 _ _ rfl rfl
    | exact key
    | (rw [pln] at hx; cases hx)
    | (rw [pln] at hy; cases hy)
theorem plns_mem : ∀ {ds : List PD}, plns ds = true ↔ ∀ x ∈ ds, pln x = true
  | [] => by simp [plns]
  | x :: r => by simp [plns, plns_mem (ds := r)]
theorem inD_pln {x : PD} {ds : List PD} {p : Prop} [Decidable p] (hx : pln x = true) (hy : plns ds = true) (dx : x.depth ≤ 64) (dy : PyData.depthAll ds ≤ 63) (h : x ∈ ds ↔ p) : inD x ds = some (decide p) := by
  unfold inD
  have h2 : SeqAt.shaped (.list ds) = true := shaped_pln (by rw [pln]; exact hy) (by rw [PyData.depth]; omega)
  rw [shaped_pln hx dx, h2, if_pos (by rfl)]
  congr 1
  rw [Bool.eq_iff_iff, List.any_eq_true, decide_eq_true_iff, ← h]
  constructor
  · rintro ⟨y, h1, h2⟩
    have := (eqv_pln (plns_mem.mp hy y h1) hx).mp h2
    exact this ▸ h1
  · intro h1
    exact ⟨x, h1, (eqv_pln hx hx).mpr rfl⟩
theorem depthAll_le {n : Nat} : ∀ {ds : List PD}, (∀ x ∈ ds, x.depth ≤ n) → PyData.depthAll ds ≤ n
  | [], _ => by rw [PyData.depthAll]; exact Nat.zero_le _
  | x :: r, h => by
    have h1 := h x (by simp)
    have h2 := depthAll_le (ds := r) fun y hy => h y (by simp [hy])
    rw [PyData.depthAll]
    omega
theorem depth_list {n : Nat} {ds : List PD} (h : ∀ x ∈ ds, x.depth ≤ n) : (PyData.list ds).depth ≤ n + 1 := by
  rw [PyData.depth]
  have := depthAll_le h
  omega
theorem depth_tuple {n : Nat} {ds : List PD} (h : ∀ x ∈ ds, x.depth ≤ n) : (PyData.tuple ds).depth ≤ n + 1 := by
  rw [PyData.depth]
  have := depthAll_le h
  omega
/-! ### ints, keys, locks -/
theorem pln_int (i : Int) : pln (.int i) = true := by rw [pln]
theorem dp_int (i : Int) : (PyData.int i).depth = 0 := by rw [PyData.depth]
theorem plns_ints (l : List Int) : plns (l.map .int) = true := plns_mem.mpr fun x hx => by
  obtain ⟨i, _, rfl⟩ := List.mem_map.mp hx
  exact pln_int i
theorem pln_key (k : List Int) : pln (keyD k) = true := by
  unfold keyD
  rw [pln]
  exact plns_ints k
theorem pln_cuts (k : List Int) : pln (cutsD k) = true := pln_key k
theorem dpl_ints (l : List Int) : PyData.depthAll (l.map .int) ≤ 0 := depthAll_le fun x hx => by
  obtain ⟨i, _, rfl⟩ := List.mem_map.mp hx
  rw [dp_int]; exact Nat.le_refl _
theorem dp_key (k : List Int) : (keyD k).depth ≤ 1 := by
  unfold keyD
  rw [PyData.depth]
  have := dpl_ints k
  omega
theorem dp_cuts (k : List Int) : (cutsD k).depth ≤ 1 := dp_key k
theorem plns_map {γ : Type} {F : γ → PD} {l : List γ} (h : ∀ x ∈ l, pln (F x) = true) : plns (l.map F) = true := plns_mem.mpr fun x hx => by
  obtain ⟨i, hi, rfl⟩ := List.mem_map.mp hx
  exact h i hi
theorem pln_lock (k : List (List Int)) : pln (lockD k) = true := by
  unfold lockD
  rw [pln]
  exact plns_map fun x _ => pln_cuts x
theorem dp_map {γ : Type} {F : γ → PD} {l : List γ} {n : Nat} (h : ∀ x ∈ l, (F x).depth ≤ n) : PyData.depthAll (l.map F) ≤ n := depthAll_le fun x hx => by
  obtain ⟨i, hi, rfl⟩ := List.mem_map.mp hx
  exact h i hi
theorem dp_lock (k : List (List Int)) : (lockD k).depth ≤ 2 := by
  unfold lockD
  rw [PyData.depth]
  have := dp_map (l := k) (F := cutsD) fun x _ => dp_cuts x
  omega
theorem int_inj {l m : List Int} : l.map PyData.int = m.map PyData.int ↔ l = m := by
  constructor
  · intro h
    exact (List.map_inj_right (fun x y e => by cases e; rfl)).mp h
  · intro h; rw [h]
@[simp] theorem key_inj {l m : List Int} : keyD l = keyD m ↔ l = m := by
  unfold keyD
  rw [PyData.tuple.injEq, int_inj]
@[simp] theorem cuts_inj {l m : List Int} : cutsD l = cutsD m ↔ l = m := key_inj
@[simp] theorem lock_inj {l m : List (List Int)} : lockD l = lockD m ↔ l = m := by
  unfold lockD
  rw [PyData.tuple.injEq]
  constructor
  · intro h
    exact (List.map_inj_right (fun x y e => cuts_inj.mp e)).mp h
  · intro h; rw [h]
theorem mem_map_inj {γ : Type} {F : γ → PD} (hF : ∀ x y, F x = F y → x = y) {a : γ} {l : List γ} : F a ∈ l.map F ↔ a ∈ l := by
  rw [List.mem_map]
  constructor
  · rintro ⟨x, hx, e⟩
    exact hF x a e ▸ hx
  · intro h
    exact ⟨a, h, rfl⟩
theorem in_ints (x : Int) (l : List Int) : inD (.int x) (l.map .int) = some (decide (x ∈ l)) :=
  inD_pln (pln_int x) (plns_ints l) (by rw [dp_int]; omega) (by have := dpl_ints l; omega) (mem_map_inj fun _ _ e => by cases e; rfl)
theorem in_keys (x : List Int) (l : List (List Int)) : inD (keyD x) (l.map keyD) = some (decide (x ∈ l)) :=
  inD_pln (pln_key x) (plns_map fun y _ => pln_key y) (by have := dp_key x; omega) (by have := dp_map (l := l) (F := keyD) (fun y _ => dp_key y); omega) (mem_map_inj fun _ _ e => key_inj.mp e)
theorem in_cuts (x : List Int) (l : List (List Int)) : inD (cutsD x) (l.map cutsD) = some (decide (x ∈ l)) := in_keys x l
theorem eq_keys (a b : List Int) : eqD (keyD a) (keyD b) = some (decide (a = b)) := eqD_pln (pln_key a) (pln_key b) (by have := dp_key a; omega) (by have := dp_key b; omega) key_inj
theorem eq_locks (a b : List (List Int)) : eqD (lockD a) (lockD b) = some (decide (a = b)) := eqD_pln (pln_lock a) (pln_lock b) (by have := dp_lock a; omega) (by have := dp_lock b; omega) lock_inj
theorem eq_ints_l (a b : List Int) : eqD (.list (a.map .int)) (.list (b.map .int)) = some (decide (a = b)) := eqD_pln (by rw [pln]; exact plns_ints a) (by rw [pln]; exact plns_ints b) (by rw [PyData.depth]; have := dpl_ints a; omega) (by rw [PyData.depth]; have := dpl_ints b; omega) (by rw [PyData.list.injEq, int_inj])
@[simp] theorem eq_nil : eqD (.list []) (.list []) = some true := by have := eq_ints_l [] []; simpa using this
/-- 0, 1, .. below n -/
def rngI (n : Int) : List Int := (List.range n.toNat).map fun (i : Nat) => (i : Int)
theorem rngD_eq (n : Int) : rngD 0 n = (rngI n).map .int := by
  unfold rngD rngI
  rw [List.map_map, Int.sub_zero]
  apply List.map_congr_left
  intro i _
  simp
theorem rng_ok {n : Int} (h0 : 0 ≤ n) (h : n ≤ 1000000) : rngOk 0 n = true := by
  unfold rngOk
  rw [decide_eq_true_iff]
  have e : (2 : Int) ^ 62 = 4611686018427387904 := by decide +kernel
  rw [e]
  refine ⟨by omega, by omega, ?_, by omega, ?_⟩
  · omega
  · show _ ≤ 16777216
    omega
@[simp] theorem rngI_len (n : Int) : (rngI n).length = n.toNat := by simp [rngI]
@[simp] theorem mem_rngI {n x : Int} : x ∈ rngI n ↔ 0 ≤ x ∧ x < n := by
  unfold rngI
  rw [List.mem_map]
  constructor
  · rintro ⟨i, hi, rfl⟩
    have := List.mem_range.mp hi
    omega
  · rintro ⟨h1, h2⟩
    exact ⟨x.toNat, List.mem_range.mpr (by omega), by omega⟩
end KA
namespace KA
open PySem
def c_law_same : FD where
  name := (Str.ofString "_law_same")
  N := [(Str.ofString "told"), (Str.ofString "due"), (Str.ofString "one"), (Str.ofString "other")]
  np := 2
  retM := false
  body := (.cons (.ifs (.isin (.var 1) [(.ty "list"), (.ty "tuple")]) (.cons (.ifs (.bor (.cons (.cmp .NotEq (.isin (.var 0) [(.ty "list")]) (.isin (.var 1) [(.ty "list")])) (.cons (.cmp .NotEq (.isin (.var 0) [(.ty "tuple")]) (.isin (.var 1) [(.ty "tuple")])) .nil))) (.cons (.ret (.con (.bool false))) .nil) .nil) (.cons (.ret (.band (.cons (.cmp .Eq (.blt .len (.cons (.var 0) .nil)) (.blt .len (.cons (.var 1) .nil))) (.cons (.cmp .Eq (.comp false (.con (.int 1)) (.mk (.tp [2, 3]) (.zip (.var 0) (.var 1)) (.some (.bnot (.call 1 (.cons (.var 2) (.cons (.var 3) .nil))))))) (.lst false .nil)) .nil)))) .nil)) .nil) (.cons (.ifs (.isn false (.var 1)) (.cons (.ret (.isn false (.var 0))) .nil) .nil) (.cons (.ifs (.bor (.cons (.cmp .NotEq (.isin (.var 1) [(.ty "bool")]) (.isin (.var 0) [(.ty "bool")])) (.cons (.cmp .NotEq (.isin (.var 1) [(.ty "str")]) (.isin (.var 0) [(.ty "str")])) .nil))) (.cons (.ret (.con (.bool false))) .nil) .nil) (.cons (.ret (.band (.cons (.isin (.var 0) [(.ty "int"), (.ty "str")]) (.cons (.cmp .Eq (.var 0) (.var 1)) .nil)))) .nil))))
def c_is_integer : FD where
  name := (Str.ofString "is_integer")
  N := [(Str.ofString "thing")]
  np := 1
  retM := false
  body := (.cons (.ret (.band (.cons (.isin (.var 0) [(.ty "int")]) (.cons (.bnot (.isin (.var 0) [(.ty "bool")])) .nil)))) .nil)
def c_is_within : FD where
  name := (Str.ofString "is_within")
  N := [(Str.ofString "thing"), (Str.ofString "least"), (Str.ofString "most")]
  np := 3
  retM := false
  body := (.cons (.ret (.band (.cons (.call 2 (.cons (.var 0) .nil)) (.cons (.cmp2 .LtE .LtE (.var 1) (.var 0) (.var 2)) .nil)))) .nil)
def c_is_row : FD where
  name := (Str.ofString "is_row")
  N := [(Str.ofString "thing"), (Str.ofString "least"), (Str.ofString "most")]
  np := 3
  retM := false
  body := (.cons (.ret (.band (.cons (.isin (.var 0) [(.ty "tuple")]) (.cons (.cmp2 .LtE .LtE (.var 1) (.blt .len (.cons (.var 0) .nil)) (.var 2)) .nil)))) .nil)
def c_are_within : FD where
  name := (Str.ofString "are_within")
  N := [(Str.ofString "thing"), (Str.ofString "count"), (Str.ofString "least"), (Str.ofString "most"), (Str.ofString "one")]
  np := 4
  retM := false
  body := (.cons (.ret (.band (.cons (.call 4 (.cons (.var 0) (.cons (.var 1) (.cons (.var 1) .nil)))) (.cons (.blt .all_ (.cons (.comp false (.call 3 (.cons (.var 4) (.cons (.var 2) (.cons (.var 3) .nil)))) (.mk (.nm 4) (.seq (.var 0)) .none)) .nil)) .nil)))) .nil)
def c_is_key_form : FD where
  name := (Str.ofString "is_key_form")
  N := [(Str.ofString "make"), (Str.ofString "thing")]
  np := 2
  retM := false
  body := (.cons (.ret (.call 5 (.cons (.var 1) (.cons (.sub (.var 0) (.con (.int 0))) (.cons (.con (.int 0)) (.cons (.bin .Sub (.sub (.var 0) (.con (.int 1))) (.con (.int 1))) .nil)))))) .nil)
def c_need_key : FD where
  name := (Str.ofString "need_key")
  N := [(Str.ofString "make"), (Str.ofString "key")]
  np := 2
  retM := false
  body := (.cons (.ifs (.bnot (.call 6 (.cons (.var 0) (.cons (.var 1) .nil)))) (.cons (.raise_ (Str.ofString "BadKey") (.cons (.con (.str (Str.ofString "no key"))) .nil)) .nil) .nil) .nil)
def c_is_ascending : FD where
  name := (Str.ofString "is_ascending")
  N := [(Str.ofString "things"), (Str.ofString "one"), (Str.ofString "other")]
  np := 1
  retM := false
  body := (.cons (.ret (.blt .all_ (.cons (.comp false (.cmp .Lt (.var 1) (.var 2)) (.mk (.tp [1, 2]) (.zip (.var 0) (.slc (.var 0) (.some (.con (.int 1))) .none)) .none)) .nil))) .nil)
def c_are_cuts : FD where
  name := (Str.ofString "are_cuts")
  N := [(Str.ofString "make"), (Str.ofString "thing"), (Str.ofString "one")]
  np := 2
  retM := false
  body := (.cons (.ret (.band (.cons (.call 4 (.cons (.var 1) (.cons (.con (.int 1)) (.cons (.sub (.var 0) (.con (.int 1))) .nil)))) (.cons (.blt .all_ (.cons (.comp false (.call 3 (.cons (.var 2) (.cons (.con (.int 0)) (.cons (.bin .Sub (.sub (.var 0) (.con (.int 1))) (.con (.int 1))) .nil)))) (.mk (.nm 2) (.seq (.var 1)) .none)) .nil)) (.cons (.call 8 (.cons (.var 1) .nil)) .nil))))) .nil)
def c_is_lock_form : FD where
  name := (Str.ofString "is_lock_form")
  N := [(Str.ofString "make"), (Str.ofString "thing"), (Str.ofString "cuts")]
  np := 2
  retM := false
  body := (.cons (.ret (.band (.cons (.call 4 (.cons (.var 1) (.cons (.sub (.var 0) (.con (.int 0))) (.cons (.sub (.var 0) (.con (.int 0))) .nil)))) (.cons (.blt .all_ (.cons (.comp false (.call 9 (.cons (.var 0) (.cons (.var 2) .nil))) (.mk (.nm 2) (.seq (.var 1)) .none)) .nil)) .nil)))) .nil)
def c_is_make : FD where
  name := (Str.ofString "is_make")
  N := [(Str.ofString "thing")]
  np := 1
  retM := false
  body := (.cons (.ret (.band (.cons (.call 4 (.cons (.var 0) (.cons (.con (.int 2)) (.cons (.con (.int 2)) .nil)))) (.cons (.call 3 (.cons (.sub (.var 0) (.con (.int 0))) (.cons (.con (.int 1)) (.cons (.gcon (Str.ofString "MOST_CHAMBERS") (.int 5)) .nil)))) (.cons (.call 3 (.cons (.sub (.var 0) (.con (.int 1))) (.cons (.con (.int 2)) (.cons (.gcon (Str.ofString "MOST_DEPTHS") (.int 5)) .nil)))) .nil))))) .nil)
def c_need_make : FD where
  name := (Str.ofString "need_make")
  N := [(Str.ofString "make")]
  np := 1
  retM := false
  body := (.cons (.ifs (.bnot (.call 11 (.cons (.var 0) .nil))) (.cons (.raise_ (Str.ofString "BadMake") (.cons (.con (.str (Str.ofString "no make"))) .nil)) .nil) .nil) .nil)
def c_need_lock : FD where
  name := (Str.ofString "need_lock")
  N := [(Str.ofString "make"), (Str.ofString "lock")]
  np := 2
  retM := false
  body := (.cons (.expr (.call 12 (.cons (.var 0) .nil))) (.cons (.ifs (.bnot (.call 10 (.cons (.var 0) (.cons (.var 1) .nil)))) (.cons (.raise_ (Str.ofString "BadLock") (.cons (.con (.str (Str.ofString "no lock"))) .nil)) .nil) .nil) .nil))
def c_apart_in : FD where
  name := (Str.ofString "apart_in")
  N := [(Str.ofString "make"), (Str.ofString "lock"), (Str.ofString "key"), (Str.ofString "chamber"), (Str.ofString "cuts")]
  np := 3
  retM := false
  body := (.cons (.expr (.call 13 (.cons (.var 0) (.cons (.var 1) .nil)))) (.cons (.expr (.call 7 (.cons (.var 0) (.cons (.var 2) .nil)))) (.cons (.ret (.blt .tuple_ (.cons (.comp false (.var 3) (.mk (.tp [3, 4]) (.enum (.var 1)) (.some (.cmp .NotIn (.sub (.var 2) (.var 3)) (.var 4))))) .nil))) .nil)))
def c_does_open : FD where
  name := (Str.ofString "does_open")
  N := [(Str.ofString "lock"), (Str.ofString "key"), (Str.ofString "cut"), (Str.ofString "cuts")]
  np := 2
  retM := false
  body := (.cons (.ret (.blt .all_ (.cons (.comp false (.cmp .In (.var 2) (.var 3)) (.mk (.tp [2, 3]) (.zip (.var 1) (.var 0)) .none)) .nil))) .nil)
def c_opens : FD where
  name := (Str.ofString "opens")
  N := [(Str.ofString "make"), (Str.ofString "lock"), (Str.ofString "key")]
  np := 3
  retM := false
  body := (.cons (.expr (.call 13 (.cons (.var 0) (.cons (.var 1) .nil)))) (.cons (.expr (.call 7 (.cons (.var 0) (.cons (.var 2) .nil)))) (.cons (.ret (.call 15 (.cons (.var 1) (.cons (.var 2) .nil)))) .nil)))
def c_law_apart : FD where
  name := (Str.ofString "_law_apart")
  N := [(Str.ofString "lock"), (Str.ofString "key"), (Str.ofString "at")]
  np := 2
  retM := false
  body := (.cons (.ret (.blt .tuple_ (.cons (.comp false (.var 2) (.mk (.nm 2) (.rng (.blt .len (.cons (.var 0) .nil))) (.some (.cmp .NotIn (.sub (.var 1) (.var 2)) (.sub (.var 0) (.var 2)))))) .nil))) .nil)
def c_law_draw : FD where
  name := (Str.ofString "_law_draw")
  N := [(Str.ofString "feed"), (Str.ofString "many"), (Str.ofString "stir"), (Str.ofString "got")]
  np := 2
  retM := false
  body := (.cons (.ifs (.cmp .Gt (.sub (.var 0) (.con (.int 0))) (.con (.int 0))) (.cons (.set 3 (.bin .Mod (.blt .int_ (.cons (.sub (.var 0) (.con (.int 0))) .nil)) (.var 1))) (.cons (.sst (.var 0) (.con (.int 0)) (.bin .FloorDiv (.sub (.var 0) (.con (.int 0))) (.var 1))) (.cons (.ret (.var 3)) .nil))) .nil) (.cons (.sst (.var 0) (.con (.int 2)) (.bin .Add (.sub (.var 0) (.con (.int 2))) (.con (.int 1)))) (.cons (.set 2 (.bin .Add (.bin .Add (.bin .Mult (.sub (.var 0) (.con (.int 1))) (.con (.int 5915587277))) (.bin .Mult (.sub (.var 0) (.con (.int 2))) (.con (.int 1500450271)))) (.con (.int 11)))) (.cons (.set 2 (.bin .Mod (.blt .int_ (.cons (.bin .Add (.bin .Mult (.bin .Mult (.var 2) (.var 2)) (.var 2)) (.bin .Mult (.con (.int 3267000013)) (.sub (.var 0) (.con (.int 2))))) .nil)) (.bin .Add (.bin .Pow (.con (.int 10)) (.con (.int 43))) (.con (.int 57))))) (.cons (.set 2 (.bin .Mod (.blt .int_ (.cons (.bin .Add (.bin .Mult (.var 2) (.var 2)) (.con (.int 4093082899))) .nil)) (.bin .Add (.bin .Pow (.con (.int 10)) (.con (.int 39))) (.con (.int 23))))) (.cons (.ret (.bin .Mod (.blt .int_ (.cons (.bin .FloorDiv (.var 2) (.bin .Pow (.con (.int 10)) (.con (.int 11)))) .nil)) (.var 1))) .nil))))))
def c_law_key : FD where
  name := (Str.ofString "_law_key")
  N := [(Str.ofString "feed"), (Str.ofString "make"), (Str.ofString "chamber")]
  np := 2
  retM := false
  body := (.cons (.ret (.blt .tuple_ (.cons (.comp false (.call 18 (.cons (.var 0) (.cons (.sub (.var 1) (.con (.int 1))) .nil))) (.mk (.nm 2) (.rng (.sub (.var 1) (.con (.int 0)))) .none)) .nil))) .nil)
def c_law_one : FD where
  name := (Str.ofString "_law_one")
  N := [(Str.ofString "feed"), (Str.ofString "things")]
  np := 2
  retM := false
  body := (.cons (.ret (.sub (.var 1) (.call 18 (.cons (.var 0) (.cons (.blt .len (.cons (.var 1) .nil)) .nil))))) .nil)
def c_law_size : FD where
  name := (Str.ofString "_law_size")
  N := [(Str.ofString "lock"), (Str.ofString "many"), (Str.ofString "some")]
  np := 1
  retM := false
  body := (.cons (.set 1 (.con (.int 1))) (.cons (.for_ (.nm 2) (.seq (.var 0)) (.cons (.set 1 (.bin .Mult (.var 1) (.blt .len (.cons (.var 2) .nil)))) .nil)) (.cons (.ret (.var 1)) .nil)))
def c_law_mixed : FD where
  name := (Str.ofString "_law_mixed")
  N := [(Str.ofString "feed"), (Str.ofString "things"), (Str.ofString "turn"), (Str.ofString "left"), (Str.ofString "got")]
  np := 2
  retM := false
  body := (.cons (.par [3, 4] (.cons (.blt .listM (.cons (.var 1) .nil)) (.cons (.lst true .nil) .nil))) (.cons (.for_ (.nm 2) (.rng (.blt .len (.cons (.var 1) .nil))) (.cons (.expr (.meth (Str.ofString "append") (.var 4) (.cons (.meth (Str.ofString "pop") (.var 3) (.cons (.call 18 (.cons (.var 0) (.cons (.blt .len (.cons (.var 3) .nil)) .nil))) .nil)) .nil))) .nil)) (.cons (.ret (.var 4)) .nil)))
def c_law_every : FD where
  name := (Str.ofString "_law_every")
  N := [(Str.ofString "lock"), (Str.ofString "rows"), (Str.ofString "some"), (Str.ofString "more"), (Str.ofString "row"), (Str.ofString "cut")]
  np := 1
  retM := false
  body := (.cons (.set 1 (.lst false (.cons (.tup .nil) .nil))) (.cons (.for_ (.nm 2) (.seq (.var 0)) (.cons (.set 3 (.lst true .nil)) (.cons (.frz 1) (.cons (.for_ (.nm 4) (.seq (.var 1)) (.cons (.expr (.meth (Str.ofString "extend") (.var 3) (.cons (.comp false (.bin .Add (.var 4) (.tup (.cons (.var 5) .nil))) (.mk (.nm 5) (.seq (.var 2)) .none)) .nil))) .nil)) (.cons (.set 1 (.var 3)) .nil))))) (.cons (.ret (.var 1)) .nil)))
def c_law_full : FD where
  name := (Str.ofString "_law_full")
  N := [(Str.ofString "make"), (Str.ofString "chamber")]
  np := 1
  retM := false
  body := (.cons (.ret (.blt .tuple_ (.cons (.comp false (.rng true false (.rng (.sub (.var 0) (.con (.int 1))))) (.mk (.nm 1) (.rng (.sub (.var 0) (.con (.int 0)))) .none)) .nil))) .nil)
def c_law_tried : FD where
  name := (Str.ofString "_law_tried")
  N := [(Str.ofString "feed"), (Str.ofString "make"), (Str.ofString "lock"), (Str.ofString "every"), (Str.ofString "rows"), (Str.ofString "turn"), (Str.ofString "at"), (Str.ofString "key"), (Str.ofString "cut"), (Str.ofString "some")]
  np := 3
  retM := false
  body := (.cons (.set 3 (.call 24 (.cons (.var 1) .nil))) (.cons (.ifs (.cmp .LtE (.call 21 (.cons (.var 3) .nil)) (.con (.int 130))) (.cons (.ret (.call 22 (.cons (.var 0) (.cons (.call 23 (.cons (.var 3) .nil)) .nil)))) .nil) .nil) (.cons (.set 4 (.lst true .nil)) (.cons (.for_ (.nm 5) (.rng (.con (.int 16))) (.cons (.set 7 (.blt .tuple_ (.cons (.comp false (.call 20 (.cons (.var 0) (.cons (.var 9) .nil))) (.mk (.nm 9) (.seq (.var 2)) .none)) .nil))) (.cons (.set 6 (.call 18 (.cons (.var 0) (.cons (.sub (.var 1) (.con (.int 0))) .nil)))) (.cons (.expr (.meth (Str.ofString "extend") (.var 4) (.cons (.lst false (.cons (.var 7) (.cons (.bin .Add (.bin .Add (.slc (.var 7) .none (.some (.var 6))) (.tup (.cons (.call 18 (.cons (.var 0) (.cons (.sub (.var 1) (.con (.int 1))) .nil))) .nil))) (.slc (.var 7) (.some (.bin .Add (.var 6) (.con (.int 1)))) .none)) (.cons (.call 19 (.cons (.var 0) (.cons (.var 1) .nil))) .nil)))) .nil))) .nil)))) (.cons (.for_ (.nm 6) (.rng (.sub (.var 1) (.con (.int 0)))) (.cons (.for_ (.nm 8) (.rng (.sub (.var 1) (.con (.int 1)))) (.cons (.set 7 (.call 20 (.cons (.var 0) (.cons (.var 4) .nil)))) (.cons (.expr (.meth (Str.ofString "append") (.var 4) (.cons (.bin .Add (.bin .Add (.slc (.var 7) .none (.some (.var 6))) (.tup (.cons (.var 8) .nil))) (.slc (.var 7) (.some (.bin .Add (.var 6) (.con (.int 1)))) .none)) .nil))) .nil))) .nil)) (.cons (.ret (.var 4)) .nil))))))
def c_law_tells : FD where
  name := (Str.ofString "_law_tells")
  N := [(Str.ofString "feed"), (Str.ofString "make"), (Str.ofString "lock"), (Str.ofString "key"), (Str.ofString "name"), (Str.ofString "due"), (Str.ofString "told")]
  np := 4
  retM := false
  body := (.cons (.par [5, 6] (.cons (.call 17 (.cons (.var 2) (.cons (.var 3) .nil))) (.cons (.lst true .nil) .nil))) (.cons (.for_ (.nm 4) (.seq (.call 22 (.cons (.var 0) (.cons (.lst false (.cons (.con (.str (Str.ofString "opens"))) (.cons (.con (.str (Str.ofString "apart"))) .nil))) .nil)))) (.cons (.ifs (.cmp .Eq (.var 4) (.con (.str (Str.ofString "opens")))) (.cons (.expr (.meth (Str.ofString "append") (.var 6) (.cons (.call 16 (.cons (.var 1) (.cons (.var 2) (.cons (.var 3) .nil)))) .nil))) .nil) (.cons (.expr (.meth (Str.ofString "append") (.var 6) (.cons (.call 14 (.cons (.var 1) (.cons (.var 2) (.cons (.var 3) .nil)))) .nil))) .nil)) (.cons (.ifs (.bnot (.call 1 (.cons (.sub (.var 6) (.neg (.con (.int 1)))) (.cons (.ifx (.cmp .Eq (.var 4) (.con (.str (Str.ofString "opens")))) (.cmp .Eq (.var 5) (.tup .nil)) (.var 5)) .nil)))) (.cons (.ret (.con (.bool false))) .nil) .nil) .nil))) (.cons (.ret (.con (.bool true))) .nil)))
def c_law_cuts : FD where
  name := (Str.ofString "_law_cuts")
  N := [(Str.ofString "feed"), (Str.ofString "depths"), (Str.ofString "way"), (Str.ofString "cut"), (Str.ofString "one")]
  np := 2
  retM := false
  body := (.cons (.par [2, 3] (.cons (.call 18 (.cons (.var 0) (.cons (.con (.int 5)) .nil))) (.cons (.call 18 (.cons (.var 0) (.cons (.var 1) .nil))) .nil))) (.cons (.ifs (.cmp .Eq (.var 2) (.con (.int 0))) (.cons (.ret (.tup (.cons (.var 3) .nil))) .nil) .nil) (.cons (.ifs (.cmp .Eq (.var 2) (.con (.int 1))) (.cons (.ret (.rng true false (.rng (.var 1)))) .nil) .nil) (.cons (.ifs (.cmp .Eq (.var 2) (.con (.int 2))) (.cons (.ret (.blt .tuple_ (.cons (.comp false (.var 4) (.mk (.nm 4) (.rng (.var 1)) (.some (.cmp .NotEq (.var 4) (.var 3))))) .nil))) .nil) .nil) (.cons (.ret (.blt .tuple_ (.cons (.comp false (.var 4) (.mk (.nm 4) (.rng (.var 1)) (.some (.bor (.cons (.cmp .Eq (.var 4) (.var 3)) (.cons (.cmp .Eq (.call 18 (.cons (.var 0) (.cons (.con (.int 2)) .nil))) (.con (.int 0))) .nil)))))) .nil))) .nil)))))
def c_law_lock : FD where
  name := (Str.ofString "_law_lock")
  N := [(Str.ofString "feed"), (Str.ofString "make"), (Str.ofString "chamber")]
  np := 2
  retM := false
  body := (.cons (.ret (.blt .tuple_ (.cons (.comp false (.call 27 (.cons (.var 0) (.cons (.sub (.var 1) (.con (.int 1))) .nil))) (.mk (.nm 2) (.rng (.sub (.var 1) (.con (.int 0)))) .none)) .nil))) .nil)
def c_law_make : FD where
  name := (Str.ofString "_law_make")
  N := [(Str.ofString "feed")]
  np := 1
  retM := false
  body := (.cons (.ifs (.cmp .Gt (.call 18 (.cons (.var 0) (.cons (.con (.int 3)) .nil))) (.con (.int 0))) (.cons (.ret (.call 20 (.cons (.var 0) (.cons (.lst false (.cons (.tup (.cons (.con (.int 1)) (.cons (.con (.int 2)) .nil))) (.cons (.tup (.cons (.con (.int 1)) (.cons (.con (.int 5)) .nil))) (.cons (.tup (.cons (.con (.int 2)) (.cons (.con (.int 2)) .nil))) (.cons (.tup (.cons (.con (.int 2)) (.cons (.con (.int 3)) .nil))) (.cons (.tup (.cons (.con (.int 2)) (.cons (.con (.int 4)) .nil))) (.cons (.tup (.cons (.con (.int 3)) (.cons (.con (.int 2)) .nil))) (.cons (.tup (.cons (.con (.int 3)) (.cons (.con (.int 3)) .nil))) (.cons (.tup (.cons (.con (.int 4)) (.cons (.con (.int 2)) .nil))) (.cons (.tup (.cons (.con (.int 5)) (.cons (.con (.int 2)) .nil))) (.cons (.tup (.cons (.con (.int 1)) (.cons (.con (.int 3)) .nil))) (.cons (.tup (.cons (.con (.int 2)) (.cons (.con (.int 5)) .nil))) (.cons (.tup (.cons (.con (.int 4)) (.cons (.con (.int 3)) .nil))) .nil))))))))))))) .nil)))) .nil) .nil) (.cons (.ret (.tup (.cons (.bin .Add (.con (.int 1)) (.call 18 (.cons (.var 0) (.cons (.con (.int 5)) .nil)))) (.cons (.bin .Add (.con (.int 2)) (.call 18 (.cons (.var 0) (.cons (.con (.int 4)) .nil)))) .nil)))) .nil))
def c_law_feed : FD where
  name := (Str.ofString "_law_feed")
  N := [(Str.ofString "script"), (Str.ofString "k"), (Str.ofString "cell")]
  np := 2
  retM := true
  body := (.cons (.set 2 (.bin .Add (.bin .Mult (.con (.int 613)) (.var 1)) (.bin .Mult (.con (.int 3)) (.blt .sum (.cons (.slc (.var 0) .none (.some (.con (.int 3)))) .nil))))) (.cons (.ifs (.cmp .Lt (.var 1) (.blt .len (.cons (.var 0) .nil))) (.cons (.set 2 (.sub (.var 0) (.var 1))) .nil) .nil) (.cons (.ret (.lst true (.cons (.blt .max_ (.cons (.con (.int 0)) (.cons (.bin .Sub (.var 2) (.bin .Pow (.con (.int 10)) (.con (.int 18)))) .nil))) (.cons (.bin .Mod (.blt .int_ (.cons (.bin .Add (.bin .Add (.bin .Mult (.var 2) (.con (.int 31))) (.bin .Mult (.con (.int 17)) (.var 1))) (.con (.int 5))) .nil)) (.bin .Add (.bin .Pow (.con (.int 10)) (.con (.int 38))) (.con (.int 133)))) (.cons (.con (.int 0)) .nil))))) .nil)))
def c_law : FD where
  name := (Str.ofString "law")
  N := [(Str.ofString "script"), (Str.ofString "k"), (Str.ofString "feed"), (Str.ofString "make"), (Str.ofString "locks"), (Str.ofString "held"), (Str.ofString "key"), (Str.ofString "due"), (Str.ofString "lock")]
  np := 1
  retM := false
  body := (.cons (.for_ (.nm 1) (.rng (.blt .max_ (.cons (.con (.int 2)) (.cons (.blt .min_ (.cons (.blt .len (.cons (.var 0) .nil)) (.cons (.con (.int 6)) .nil))) .nil)))) (.cons (.set 2 (.call 30 (.cons (.var 0) (.cons (.var 1) .nil)))) (.cons (.set 3 (.call 29 (.cons (.var 2) .nil))) (.cons (.set 4 (.lst false (.cons (.call 28 (.cons (.var 2) (.cons (.var 3) .nil))) (.cons (.call 28 (.cons (.var 2) (.cons (.var 3) .nil))) .nil)))) (.cons (.set 5 (.blt .repr_ (.cons (.var 4) .nil))) (.cons (.for_ (.nm 6) (.seq (.call 25 (.cons (.var 2) (.cons (.var 3) (.cons (.sub (.var 4) (.con (.int 0))) .nil))))) (.cons (.for_ (.nm 8) (.seq (.call 22 (.cons (.var 2) (.cons (.var 4) .nil)))) (.cons (.ifs (.bnot (.call 26 (.cons (.var 2) (.cons (.var 3) (.cons (.var 8) (.cons (.var 6) .nil)))))) (.cons (.ret (.con (.bool false))) .nil) .nil) .nil)) .nil)) (.cons (.par [8, 6] (.cons (.call 20 (.cons (.var 2) (.cons (.var 4) .nil))) (.cons (.call 19 (.cons (.var 2) (.cons (.var 3) .nil))) .nil))) (.cons (.set 7 (.lst false (.cons (.cmp .Eq (.call 17 (.cons (.var 8) (.cons (.var 6) .nil))) (.tup .nil)) (.cons (.call 17 (.cons (.var 8) (.cons (.var 6) .nil))) .nil)))) (.cons (.ifs (.bnot (.call 1 (.cons (.lst false (.cons (.callk 16 [(Str.ofString "key"), (Str.ofString "lock"), (Str.ofString "make")] (.cons (.var 6) (.cons (.var 8) (.cons (.var 3) .nil)))) (.cons (.callk 14 [(Str.ofString "key"), (Str.ofString "lock"), (Str.ofString "make")] (.cons (.var 6) (.cons (.var 8) (.cons (.var 3) .nil)))) .nil))) (.cons (.var 7) .nil)))) (.cons (.ret (.con (.bool false))) .nil) .nil) (.cons (.ifs (.cmp .NotEq (.blt .repr_ (.cons (.var 4) .nil)) (.var 5)) (.cons (.ret (.con (.bool false))) .nil) .nil) .nil)))))))))) (.cons (.ret (.con (.bool true))) .nil))
def c_product_rows_2 : FD where
  name := (Str.ofString "product_rows")
  N := [(Str.ofString "lists"), (Str.ofString "found"), (Str.ofString "some"), (Str.ofString "row"), (Str.ofString "one")]
  np := 1
  retM := true
  body := (.cons (.set 1 (.lst true (.cons (.tup .nil) .nil))) (.cons (.for_ (.nm 2) (.seq (.var 0)) (.cons (.frz 1) (.cons (.set 1 (.comp2 true (.bin .Add (.var 3) (.tup (.cons (.var 4) .nil))) (.mk (.nm 3) (.seq (.var 1)) .none) (.mk (.nm 4) (.seq (.var 2)) .none))) .nil))) (.cons (.ret (.var 1)) .nil)))
def c_key_list_2 : FD where
  name := (Str.ofString "key_list")
  N := [(Str.ofString "lock")]
  np := 1
  retM := true
  body := (.cons (.ret (.call 63 (.cons (.blt .list_ (.cons (.var 0) .nil)) .nil))) .nil)
def c_product_of : FD where
  name := (Str.ofString "product_of")
  N := [(Str.ofString "numbers"), (Str.ofString "found"), (Str.ofString "number")]
  np := 1
  retM := false
  body := (.cons (.set 1 (.con (.int 1))) (.cons (.for_ (.nm 2) (.seq (.var 0)) (.cons (.set 1 (.bin .Mult (.var 1) (.var 2))) .nil)) (.cons (.ret (.var 1)) .nil)))
def c_key_count : FD where
  name := (Str.ofString "key_count")
  N := [(Str.ofString "lock"), (Str.ofString "cuts")]
  np := 1
  retM := false
  body := (.cons (.ret (.call 34 (.cons (.comp false (.blt .len (.cons (.var 1) .nil)) (.mk (.nm 1) (.seq (.var 0)) .none)) .nil))) .nil)
def c_keys_of_2 : FD where
  name := (Str.ofString "keys_of")
  N := [(Str.ofString "make"), (Str.ofString "lock")]
  np := 2
  retM := true
  body := (.cons (.expr (.call 13 (.cons (.var 0) (.cons (.var 1) .nil)))) (.cons (.ifs (.cmp .Gt (.call 35 (.cons (.var 1) .nil)) (.gcon (Str.ofString "MOST_KEYS") (.int 500))) (.cons (.raise_ (Str.ofString "TooMany") (.cons (.con (.str (Str.ofString "more than five hundred keys"))) .nil)) .nil) .nil) (.cons (.ret (.call 64 (.cons (.var 1) .nil))) .nil)))
def c_law_told_2 : FD where
  name := (Str.ofString "_law_told")
  N := [(Str.ofString "make"), (Str.ofString "lock"), (Str.ofString "named"), (Str.ofString "e"), (Str.ofString "told"), (Str.ofString "caught")]
  np := 3
  retM := true
  body := (.cons (.par [4, 5] (.cons (.con .none) (.cons (.con .none) .nil))) (.cons (.try_ (.cons (.set 4 (.ifx (.var 2) (.callk 65 [(Str.ofString "lock"), (Str.ofString "make")] (.cons (.var 1) (.cons (.var 0) .nil))) (.call 65 (.cons (.var 0) (.cons (.var 1) .nil))))) .nil) (Str.ofString "TooMany") 3 5) (.cons (.ifs (.isn false (.var 5)) (.cons (.ret (.var 4)) .nil) .nil) (.cons (.ret (.ifx (.band (.cons (.isin (.var 5) [(.own (Str.ofString "KeyedError"))]) (.cons (.isin (.var 5) [(.ty "ValueError")]) .nil))) (.con (.str (Str.ofString "many"))) (.con (.str (Str.ofString "another"))))) .nil))))
def c_count_keys : FD where
  name := (Str.ofString "count_keys")
  N := [(Str.ofString "make"), (Str.ofString "lock")]
  np := 2
  retM := false
  body := (.cons (.expr (.call 13 (.cons (.var 0) (.cons (.var 1) .nil)))) (.cons (.ret (.call 35 (.cons (.var 1) .nil))) .nil))
def c_law_right_4 : FD where
  name := (Str.ofString "_law_right")
  N := [(Str.ofString "feed"), (Str.ofString "make"), (Str.ofString "lock"), (Str.ofString "due"), (Str.ofString "told"), (Str.ofString "held"), (Str.ofString "many")]
  np := 3
  retM := false
  body := (.cons (.par [5, 6] (.cons (.blt .repr_ (.cons (.lst false (.cons (.var 1) (.cons (.var 2) .nil))) .nil)) (.cons (.call 21 (.cons (.var 2) .nil)) .nil))) (.cons (.set 3 (.ifx (.cmp .LtE (.var 6) (.con (.int 500))) (.call 23 (.cons (.var 2) .nil)) (.con (.str (Str.ofString "many"))))) (.cons (.ifs (.bnot (.call 1 (.cons (.lst false (.cons (.call 38 (.cons (.var 1) (.cons (.var 2) .nil))) (.cons (.callk 38 [(Str.ofString "lock"), (Str.ofString "make")] (.cons (.var 2) (.cons (.var 1) .nil))) .nil))) (.cons (.lst false (.cons (.var 6) (.cons (.var 6) .nil))) .nil)))) (.cons (.ret (.con (.bool false))) .nil) .nil) (.cons (.set 4 (.call 66 (.cons (.var 1) (.cons (.var 2) (.cons (.cmp .Eq (.call 18 (.cons (.var 0) (.cons (.con (.int 2)) .nil))) (.con (.int 0))) .nil))))) (.cons (.ifs (.bnot (.call 1 (.cons (.var 4) (.cons (.var 3) .nil)))) (.cons (.ret (.con (.bool false))) .nil) .nil) (.cons (.ifs (.cmp .LtE (.var 6) (.con (.int 500))) (.cons (.expr (.meth (Str.ofString "pop") (.var 4) (.cons (.call 18 (.cons (.var 0) (.cons (.var 6) .nil))) .nil))) (.cons (.expr (.meth (Str.ofString "append") (.var 4) (.cons (.con .none) .nil))) .nil)) .nil) (.cons (.ret (.band (.cons (.call 1 (.cons (.call 66 (.cons (.var 1) (.cons (.var 2) (.cons (.cmp .Eq (.call 18 (.cons (.var 0) (.cons (.con (.int 2)) .nil))) (.con (.int 0))) .nil)))) (.cons (.var 3) .nil))) (.cons (.cmp .Eq (.blt .repr_ (.cons (.lst false (.cons (.var 1) (.cons (.var 2) .nil))) .nil)) (.var 5)) .nil)))) .nil)))))))
def c_law_sized : FD where
  name := (Str.ofString "_law_sized")
  N := [(Str.ofString "feed"), (Str.ofString "make"), (Str.ofString "sizes"), (Str.ofString "got"), (Str.ofString "size")]
  np := 3
  retM := false
  body := (.cons (.set 3 (.lst true .nil)) (.cons (.for_ (.nm 4) (.seq (.call 22 (.cons (.var 0) (.cons (.var 2) .nil)))) (.cons (.expr (.meth (Str.ofString "append") (.var 3) (.cons (.blt .tuple_ (.cons (.blt .sorted_ (.cons (.slc (.call 22 (.cons (.var 0) (.cons (.rng false false (.rng (.sub (.var 1) (.con (.int 1))))) .nil))) .none (.some (.var 4))) .nil)) .nil)) .nil))) .nil)) (.cons (.ret (.blt .tuple_ (.cons (.var 3) .nil))) .nil)))
def c_law_bound : FD where
  name := (Str.ofString "_law_bound")
  N := [(Str.ofString "feed"), (Str.ofString "way"), (Str.ofString "depths"), (Str.ofString "sizes"), (Str.ofString "some")]
  np := 2
  retM := false
  body := (.cons (.ifs (.cmp .Eq (.var 1) (.con (.int 0))) (.cons (.set 3 (.call 20 (.cons (.var 0) (.cons (.lst false (.cons (.lst false (.cons (.con (.int 5)) (.cons (.con (.int 5)) (.cons (.con (.int 5)) (.cons (.con (.int 4)) .nil))))) (.cons (.lst false (.cons (.con (.int 5)) (.cons (.con (.int 5)) (.cons (.con (.int 5)) (.cons (.con (.int 4)) (.cons (.con (.int 1)) .nil)))))) (.cons (.lst false (.cons (.con (.int 5)) (.cons (.con (.int 5)) (.cons (.con (.int 5)) (.cons (.con (.int 2)) (.cons (.con (.int 2)) .nil)))))) .nil)))) .nil)))) .nil) (.cons (.ifs (.cmp .Eq (.var 1) (.con (.int 1))) (.cons (.set 3 (.lst false (.cons (.con (.int 4)) (.cons (.con (.int 4)) (.cons (.con (.int 4)) (.cons (.con (.int 4)) (.cons (.con (.int 2)) .nil))))))) .nil) (.cons (.set 4 (.lst false (.cons (.lst false (.cons (.con (.int 5)) (.cons (.con (.int 5)) (.cons (.con (.int 5)) (.cons (.con (.int 5)) .nil))))) (.cons (.lst false (.cons (.con (.int 5)) (.cons (.con (.int 5)) (.cons (.con (.int 5)) (.cons (.con (.int 5)) (.cons (.con (.int 1)) .nil)))))) (.cons (.lst false (.cons (.con (.int 5)) (.cons (.con (.int 5)) (.cons (.con (.int 5)) (.cons (.con (.int 3)) (.cons (.con (.int 1)) .nil)))))) (.cons (.lst false (.cons (.con (.int 5)) (.cons (.con (.int 4)) (.cons (.con (.int 4)) (.cons (.con (.int 3)) (.cons (.con (.int 2)) .nil)))))) (.cons (.lst false (.cons (.con (.int 5)) (.cons (.con (.int 3)) (.cons (.con (.int 3)) (.cons (.con (.int 3)) (.cons (.con (.int 3)) .nil)))))) (.cons (.lst false (.cons (.con (.int 5)) (.cons (.con (.int 4)) (.cons (.con (.int 3)) (.cons (.con (.int 3)) (.cons (.con (.int 3)) .nil)))))) .nil)))))))) (.cons (.set 3 (.call 20 (.cons (.var 0) (.cons (.bin .Add (.var 4) (.lst false (.cons (.lst false (.cons (.con (.int 5)) (.cons (.con (.int 5)) (.cons (.con (.int 5)) (.cons (.con (.int 5)) (.cons (.con (.int 5)) .nil)))))) (.cons (.lst false (.cons (.con (.int 4)) (.cons (.con (.int 4)) (.cons (.con (.int 4)) (.cons (.con (.int 4)) (.cons (.con (.int 4)) .nil)))))) (.cons (.lst false (.cons (.con (.int 4)) (.cons (.con (.int 4)) (.cons (.con (.int 4)) (.cons (.con (.int 4)) (.cons (.con (.int 1)) .nil)))))) (.cons (.lst false (.cons (.con (.int 4)) (.cons (.con (.int 4)) (.cons (.con (.int 4)) (.cons (.con (.int 3)) (.cons (.con (.int 2)) .nil)))))) (.cons (.lst false (.cons (.con (.int 4)) (.cons (.con (.int 4)) (.cons (.con (.int 4)) (.cons (.con (.int 3)) (.cons (.con (.int 3)) .nil)))))) .nil))))))) .nil)))) .nil))) .nil)) (.cons (.set 2 (.ifx (.bor (.cons (.cmp .Eq (.blt .max_ (.cons (.var 3) .nil)) (.con (.int 5))) (.cons (.cmp .Eq (.call 18 (.cons (.var 0) (.cons (.con (.int 2)) .nil))) (.con (.int 0))) .nil))) (.con (.int 5)) (.con (.int 4)))) (.cons (.ret (.lst false (.cons (.tup (.cons (.blt .len (.cons (.var 3) .nil)) (.cons (.var 2) .nil))) (.cons (.call 40 (.cons (.var 0) (.cons (.tup (.cons (.blt .len (.cons (.var 3) .nil)) (.cons (.var 2) .nil))) (.cons (.var 3) .nil)))) .nil)))) .nil)))
def c_law_5 : FD where
  name := (Str.ofString "law")
  N := [(Str.ofString "script"), (Str.ofString "k"), (Str.ofString "feed"), (Str.ofString "turn"), (Str.ofString "make"), (Str.ofString "lock")]
  np := 1
  retM := false
  body := (.cons (.for_ (.nm 1) (.rng (.blt .max_ (.cons (.con (.int 2)) (.cons (.blt .min_ (.cons (.blt .len (.cons (.var 0) .nil)) (.cons (.con (.int 4)) .nil))) .nil)))) (.cons (.set 2 (.call 30 (.cons (.var 0) (.cons (.var 1) .nil)))) (.cons (.for_ (.nm 3) (.rng (.con (.int 3))) (.cons (.set 4 (.call 29 (.cons (.var 2) .nil))) (.cons (.ifs (.bnot (.call 67 (.cons (.var 2) (.cons (.var 4) (.cons (.call 28 (.cons (.var 2) (.cons (.var 4) .nil))) .nil))))) (.cons (.ret (.con (.bool false))) .nil) .nil) .nil))) (.cons (.unp [4, 5] (.call 41 (.cons (.var 2) (.cons (.ifx (.cmp .Lt (.var 1) (.con (.int 2))) (.var 1) (.call 18 (.cons (.var 2) (.cons (.con (.int 3)) .nil)))) .nil)))) (.cons (.ifs (.bnot (.call 67 (.cons (.var 2) (.cons (.var 4) (.cons (.var 5) .nil))))) (.cons (.ret (.con (.bool false))) .nil) .nil) .nil))))) (.cons (.ret (.con (.bool true))) .nil))
def c_number_of : FD where
  name := (Str.ofString "number_of")
  N := [(Str.ofString "lock"), (Str.ofString "key"), (Str.ofString "found"), (Str.ofString "cut"), (Str.ofString "cuts")]
  np := 2
  retM := false
  body := (.cons (.set 2 (.con (.int 0))) (.cons (.for_ (.tp [3, 4]) (.zip (.var 1) (.var 0)) (.cons (.set 2 (.bin .Add (.bin .Mult (.var 2) (.blt .len (.cons (.var 4) .nil))) (.meth (Str.ofString "index") (.var 4) (.cons (.var 3) .nil)))) .nil)) (.cons (.ret (.var 2)) .nil)))
def c_need_opening : FD where
  name := (Str.ofString "need_opening")
  N := [(Str.ofString "make"), (Str.ofString "lock"), (Str.ofString "key")]
  np := 3
  retM := false
  body := (.cons (.expr (.call 13 (.cons (.var 0) (.cons (.var 1) .nil)))) (.cons (.ifs (.bor (.cons (.bnot (.call 6 (.cons (.var 0) (.cons (.var 2) .nil)))) (.cons (.bnot (.call 15 (.cons (.var 1) (.cons (.var 2) .nil)))) .nil))) (.cons (.raise_ (Str.ofString "BadKey") (.cons (.con (.str (Str.ofString "no key that opens the lock"))) .nil)) .nil) .nil) .nil))
def c_key_number : FD where
  name := (Str.ofString "key_number")
  N := [(Str.ofString "make"), (Str.ofString "lock"), (Str.ofString "key")]
  np := 3
  retM := false
  body := (.cons (.expr (.call 44 (.cons (.var 0) (.cons (.var 1) (.cons (.var 2) .nil))))) (.cons (.ret (.call 43 (.cons (.var 1) (.cons (.var 2) .nil)))) .nil))
def c_law_no_number : FD where
  name := (Str.ofString "_law_no_number")
  N := [(Str.ofString "make"), (Str.ofString "lock"), (Str.ofString "key"), (Str.ofString "caught"), (Str.ofString "e")]
  np := 3
  retM := false
  body := (.cons (.set 3 (.con .none)) (.cons (.try_ (.cons (.expr (.call 45 (.cons (.var 0) (.cons (.var 1) (.cons (.var 2) .nil))))) .nil) (Str.ofString "BadKey") 4 3) (.cons (.ret (.band (.cons (.isn true (.var 3)) (.cons (.isin (.var 3) [(.own (Str.ofString "KeyedError"))]) (.cons (.bnot (.isin (.var 3) [(.own (Str.ofString "BadNumber"))])) .nil))))) .nil)))
def c_law_at : FD where
  name := (Str.ofString "_law_at")
  N := [(Str.ofString "lock"), (Str.ofString "number"), (Str.ofString "got"), (Str.ofString "some")]
  np := 2
  retM := false
  body := (.cons (.set 2 (.tup .nil)) (.cons (.for_ (.nm 3) (.seq (.rev (.var 0))) (.cons (.set 2 (.bin .Add (.tup (.cons (.sub (.var 3) (.bin .Mod (.blt .int_ (.cons (.var 1) .nil)) (.blt .len (.cons (.var 3) .nil)))) .nil)) (.var 2))) (.cons (.set 1 (.bin .FloorDiv (.var 1) (.blt .len (.cons (.var 3) .nil)))) .nil))) (.cons (.ret (.var 2)) .nil)))
def c_key_with : FD where
  name := (Str.ofString "key_with")
  N := [(Str.ofString "lock"), (Str.ofString "number"), (Str.ofString "found"), (Str.ofString "cuts")]
  np := 2
  retM := false
  body := (.cons (.set 2 (.lst true .nil)) (.cons (.for_ (.nm 3) (.seq (.rev (.var 0))) (.cons (.expr (.meth (Str.ofString "append") (.var 2) (.cons (.sub (.var 3) (.bin .Mod (.var 1) (.blt .len (.cons (.var 3) .nil)))) .nil))) (.cons (.set 1 (.bin .FloorDiv (.var 1) (.blt .len (.cons (.var 3) .nil)))) .nil))) (.cons (.ret (.blt .tuple_ (.cons (.rev (.var 2)) .nil))) .nil)))
def c_need_number : FD where
  name := (Str.ofString "need_number")
  N := [(Str.ofString "number"), (Str.ofString "least"), (Str.ofString "most")]
  np := 3
  retM := false
  body := (.cons (.ifs (.bnot (.call 3 (.cons (.var 0) (.cons (.var 1) (.cons (.var 2) .nil))))) (.cons (.raise_ (Str.ofString "BadNumber") (.cons (.con (.str (Str.ofString "no integer in the bounds"))) .nil)) .nil) .nil) .nil)
def c_key_at : FD where
  name := (Str.ofString "key_at")
  N := [(Str.ofString "make"), (Str.ofString "lock"), (Str.ofString "number")]
  np := 3
  retM := false
  body := (.cons (.expr (.call 13 (.cons (.var 0) (.cons (.var 1) .nil)))) (.cons (.expr (.call 49 (.cons (.var 2) (.cons (.con (.int 0)) (.cons (.bin .Sub (.call 35 (.cons (.var 1) .nil)) (.con (.int 1))) .nil))))) (.cons (.ret (.call 48 (.cons (.var 1) (.cons (.var 2) .nil)))) .nil)))
def c_law_no_key_at : FD where
  name := (Str.ofString "_law_no_key_at")
  N := [(Str.ofString "make"), (Str.ofString "lock"), (Str.ofString "number"), (Str.ofString "caught"), (Str.ofString "e")]
  np := 3
  retM := false
  body := (.cons (.set 3 (.con .none)) (.cons (.try_ (.cons (.expr (.call 50 (.cons (.var 0) (.cons (.var 1) (.cons (.var 2) .nil))))) .nil) (Str.ofString "BadNumber") 4 3) (.cons (.ret (.band (.cons (.isn true (.var 3)) (.cons (.isin (.var 3) [(.own (Str.ofString "KeyedError"))]) (.cons (.bnot (.isin (.var 3) [(.own (Str.ofString "BadKey"))])) .nil))))) .nil)))
def c_law_refused : FD where
  name := (Str.ofString "_law_refused")
  N := [(Str.ofString "feed"), (Str.ofString "make"), (Str.ofString "lock"), (Str.ofString "many"), (Str.ofString "number"), (Str.ofString "odd"), (Str.ofString "at"), (Str.ofString "some"), (Str.ofString "key"), (Str.ofString "cut")]
  np := 4
  retM := false
  body := (.cons (.set 4 (.call 18 (.cons (.var 0) (.cons (.var 3) .nil)))) (.cons (.for_ (.nm 5) (.seq (.lst false (.cons (.neg (.con (.int 1))) (.cons (.neg (.var 3)) (.cons (.bin .Sub (.var 4) (.var 3)) (.cons (.var 3) (.cons (.bin .Add (.bin .Add (.var 3) (.con (.int 1))) (.var 4)) (.cons (.bin .Pow (.con (.int 10)) (.con (.int 30))) (.cons (.con (.bool true)) (.cons (.con (.bool false)) (.cons (.con .none) (.cons (.blt .str_ (.cons (.var 4) .nil)) (.cons (.tup (.cons (.var 4) .nil)) (.cons (.lst false (.cons (.var 4) .nil)) .nil)))))))))))))) (.cons (.ifs (.bnot (.call 51 (.cons (.var 1) (.cons (.var 2) (.cons (.var 5) .nil))))) (.cons (.ret (.con (.bool false))) .nil) .nil) .nil)) (.cons (.for_ (.tp [6, 7]) (.enum (.var 2)) (.cons (.set 8 (.call 47 (.cons (.var 2) (.cons (.call 18 (.cons (.var 0) (.cons (.var 3) .nil))) .nil)))) (.cons (.for_ (.nm 9) (.rng (.sub (.var 1) (.con (.int 1)))) (.cons (.ifs (.band (.cons (.cmp .NotIn (.var 9) (.var 7)) (.cons (.bnot (.call 46 (.cons (.var 1) (.cons (.var 2) (.cons (.bin .Add (.bin .Add (.slc (.var 8) .none (.some (.var 6))) (.tup (.cons (.var 9) .nil))) (.slc (.var 8) (.some (.bin .Add (.var 6) (.con (.int 1)))) .none)) .nil))))) .nil))) (.cons (.ret (.con (.bool false))) .nil) .nil) .nil)) .nil))) (.cons (.ret (.con (.bool true))) .nil))))
def c_law_right_2 : FD where
  name := (Str.ofString "_law_right")
  N := [(Str.ofString "feed"), (Str.ofString "make"), (Str.ofString "lock"), (Str.ofString "numbers"), (Str.ofString "rows"), (Str.ofString "number"), (Str.ofString "many"), (Str.ofString "held"), (Str.ofString "due"), (Str.ofString "way"), (Str.ofString "told"), (Str.ofString "turn")]
  np := 3
  retM := false
  body := (.cons (.par [6, 7] (.cons (.call 21 (.cons (.var 2) .nil)) (.cons (.blt .repr_ (.cons (.lst false (.cons (.var 1) (.cons (.var 2) .nil))) .nil)) .nil))) (.cons (.set 3 (.rng false false (.rng (.var 6)))) (.cons (.ifs (.cmp .Gt (.var 6) (.con (.int 100))) (.cons (.set 3 (.bin .Add (.lst false (.cons (.con (.int 0)) (.cons (.bin .Sub (.var 6) (.con (.int 1))) (.cons (.bin .FloorDiv (.var 6) (.con (.int 2))) .nil)))) (.comp false (.call 18 (.cons (.var 0) (.cons (.var 6) .nil))) (.mk (.nm 11) (.rng (.con (.int 30))) .none)))) .nil) .nil) (.cons (.set 4 (.ifx (.cmp .LtE (.var 6) (.con (.int 100))) (.call 23 (.cons (.var 2) .nil)) (.lst false .nil))) (.cons (.for_ (.nm 5) (.seq (.call 22 (.cons (.var 0) (.cons (.var 3) .nil)))) (.cons (.set 8 (.ifx (.cmp .LtE (.var 6) (.con (.int 100))) (.sub (.var 4) (.var 5)) (.call 47 (.cons (.var 2) (.cons (.var 5) .nil))))) (.cons (.set 9 (.call 18 (.cons (.var 0) (.cons (.con (.int 3)) .nil)))) (.cons (.ifs (.band (.cons (.cmp .Eq (.var 9) (.con (.int 0))) (.cons (.bnot (.call 1 (.cons (.callk 45 [(Str.ofString "key"), (Str.ofString "lock"), (Str.ofString "make")] (.cons (.var 8) (.cons (.var 2) (.cons (.var 1) .nil)))) (.cons (.var 5) .nil)))) .nil))) (.cons (.ret (.con (.bool false))) .nil) .nil) (.cons (.set 10 (.ifx (.cmp .Eq (.var 9) (.con (.int 1))) (.callk 50 [(Str.ofString "number"), (Str.ofString "lock"), (Str.ofString "make")] (.cons (.var 5) (.cons (.var 2) (.cons (.var 1) .nil)))) (.call 50 (.cons (.var 1) (.cons (.var 2) (.cons (.var 5) .nil)))))) (.cons (.ifs (.bnot (.call 1 (.cons (.lst false (.cons (.var 10) (.cons (.call 45 (.cons (.var 1) (.cons (.var 2) (.cons (.var 8) .nil)))) .nil))) (.cons (.lst false (.cons (.var 8) (.cons (.var 5) .nil))) .nil)))) (.cons (.ret (.con (.bool false))) .nil) .nil) .nil)))))) (.cons (.ret (.band (.cons (.call 52 (.cons (.var 0) (.cons (.var 1) (.cons (.var 2) (.cons (.var 6) .nil))))) (.cons (.cmp .Eq (.blt .repr_ (.cons (.lst false (.cons (.var 1) (.cons (.var 2) .nil))) .nil)) (.var 7)) .nil)))) .nil))))))
def c_law_3 : FD where
  name := (Str.ofString "law")
  N := [(Str.ofString "script"), (Str.ofString "k"), (Str.ofString "feed"), (Str.ofString "make"), (Str.ofString "lock")]
  np := 1
  retM := false
  body := (.cons (.for_ (.nm 1) (.rng (.blt .max_ (.cons (.con (.int 2)) (.cons (.blt .min_ (.cons (.blt .len (.cons (.var 0) .nil)) (.cons (.con (.int 5)) .nil))) .nil)))) (.cons (.set 2 (.call 30 (.cons (.var 0) (.cons (.var 1) .nil)))) (.cons (.set 3 (.call 29 (.cons (.var 2) .nil))) (.cons (.set 4 (.call 28 (.cons (.var 2) (.cons (.var 3) .nil)))) (.cons (.ifs (.cmp .Eq (.call 18 (.cons (.var 2) (.cons (.con (.int 4)) .nil))) (.con (.int 0))) (.cons (.set 3 (.tup (.cons (.con (.int 5)) (.cons (.bin .Add (.con (.int 2)) (.call 18 (.cons (.var 2) (.cons (.con (.int 4)) .nil)))) .nil)))) (.cons (.set 4 (.call 24 (.cons (.var 3) .nil))) .nil)) .nil) (.cons (.ifs (.bnot (.call 53 (.cons (.var 2) (.cons (.var 3) (.cons (.var 4) .nil))))) (.cons (.ret (.con (.bool false))) .nil) .nil) .nil)))))) (.cons (.ret (.con (.bool true))) .nil))
def c_is_within_2 : FD where
  name := (Str.ofString "is_within")
  N := [(Str.ofString "make"), (Str.ofString "lock"), (Str.ofString "other"), (Str.ofString "cut"), (Str.ofString "cuts"), (Str.ofString "more")]
  np := 3
  retM := false
  body := (.cons (.expr (.call 13 (.cons (.var 0) (.cons (.var 1) .nil)))) (.cons (.expr (.call 13 (.cons (.var 0) (.cons (.var 2) .nil)))) (.cons (.ret (.blt .all_ (.cons (.comp2 false (.cmp .In (.var 3) (.var 5)) (.mk (.tp [4, 5]) (.zip (.var 1) (.var 2)) .none) (.mk (.nm 3) (.seq (.var 4)) .none)) .nil))) .nil)))
def c_both_locks : FD where
  name := (Str.ofString "both_locks")
  N := [(Str.ofString "make"), (Str.ofString "lock"), (Str.ofString "other"), (Str.ofString "found"), (Str.ofString "cuts"), (Str.ofString "more"), (Str.ofString "cut")]
  np := 3
  retM := false
  body := (.cons (.expr (.call 13 (.cons (.var 0) (.cons (.var 1) .nil)))) (.cons (.expr (.call 13 (.cons (.var 0) (.cons (.var 2) .nil)))) (.cons (.set 3 (.blt .tuple_ (.cons (.comp false (.blt .tuple_ (.cons (.comp false (.var 6) (.mk (.nm 6) (.seq (.var 4)) (.some (.cmp .In (.var 6) (.var 5))))) .nil)) (.mk (.tp [4, 5]) (.zip (.var 1) (.var 2)) .none)) .nil))) (.cons (.ret (.ifx (.cmp .In (.tup .nil) (.var 3)) (.con .none) (.var 3))) .nil))))
def c_law_opens : FD where
  name := (Str.ofString "_law_opens")
  N := [(Str.ofString "lock"), (Str.ofString "key"), (Str.ofString "some"), (Str.ofString "cut")]
  np := 2
  retM := false
  body := (.cons (.ret (.cmp .Eq (.comp false (.con (.int 1)) (.mk (.tp [2, 3]) (.zip (.var 0) (.var 1)) (.some (.cmp .NotIn (.var 3) (.var 2))))) (.lst false .nil))) .nil)
def c_law_within : FD where
  name := (Str.ofString "_law_within")
  N := [(Str.ofString "make"), (Str.ofString "lock"), (Str.ofString "other"), (Str.ofString "some"), (Str.ofString "more"), (Str.ofString "key"), (Str.ofString "cut")]
  np := 3
  retM := false
  body := (.cons (.ifs (.cmp .LtE (.call 21 (.cons (.var 1) .nil)) (.con (.int 40))) (.cons (.ret (.cmp .Eq (.comp false (.con (.int 1)) (.mk (.nm 5) (.seq (.call 23 (.cons (.var 1) .nil))) (.some (.bnot (.call 57 (.cons (.var 2) (.cons (.var 5) .nil))))))) (.lst false .nil))) .nil) .nil) (.cons (.for_ (.tp [3, 4]) (.zip (.var 1) (.var 2)) (.cons (.ifs (.cmp .NotEq (.comp false (.con (.int 1)) (.mk (.nm 6) (.seq (.var 3)) (.some (.cmp .NotIn (.var 6) (.var 4))))) (.lst false .nil)) (.cons (.ret (.con (.bool false))) .nil) .nil) .nil)) (.cons (.ret (.con (.bool true))) .nil)))
def c_law_both : FD where
  name := (Str.ofString "_law_both")
  N := [(Str.ofString "lock"), (Str.ofString "other"), (Str.ofString "rows"), (Str.ofString "some"), (Str.ofString "more"), (Str.ofString "cut")]
  np := 2
  retM := false
  body := (.cons (.set 2 (.blt .tuple_ (.cons (.comp false (.blt .tuple_ (.cons (.comp false (.var 5) (.mk (.nm 5) (.seq (.var 3)) (.some (.cmp .In (.var 5) (.var 4))))) .nil)) (.mk (.tp [3, 4]) (.zip (.var 0) (.var 1)) .none)) .nil))) (.cons (.ret (.ifx (.cmp .In (.tup .nil) (.var 2)) (.con .none) (.var 2))) .nil))
def c_law_right_3 : FD where
  name := (Str.ofString "_law_right")
  N := [(Str.ofString "feed"), (Str.ofString "make"), (Str.ofString "lock"), (Str.ofString "other"), (Str.ofString "told"), (Str.ofString "ways"), (Str.ofString "every"), (Str.ofString "keys"), (Str.ofString "key"), (Str.ofString "due"), (Str.ofString "held"), (Str.ofString "so"), (Str.ofString "turn"), (Str.ofString "some")]
  np := 4
  retM := false
  body := (.cons (.par [9, 10] (.cons (.call 59 (.cons (.var 2) (.cons (.var 3) .nil))) (.cons (.blt .repr_ (.cons (.lst false (.cons (.var 1) (.cons (.var 2) (.cons (.var 3) .nil)))) .nil)) .nil))) (.cons (.set 4 (.lst false (.cons (.call 56 (.cons (.var 1) (.cons (.var 2) (.cons (.var 3) .nil)))) (.cons (.call 56 (.cons (.var 1) (.cons (.var 3) (.cons (.var 2) .nil)))) (.cons (.callk 56 [(Str.ofString "other"), (Str.ofString "lock"), (Str.ofString "make")] (.cons (.var 3) (.cons (.var 2) (.cons (.var 1) .nil)))) .nil))))) (.cons (.ifs (.bnot (.call 1 (.cons (.var 4) (.cons (.lst false (.cons (.var 9) (.cons (.var 9) (.cons (.var 9) .nil)))) .nil)))) (.cons (.ret (.con (.bool false))) .nil) .nil) (.cons (.set 5 (.lst false (.cons (.call 58 (.cons (.var 1) (.cons (.var 2) (.cons (.var 3) .nil)))) (.cons (.call 58 (.cons (.var 1) (.cons (.var 3) (.cons (.var 2) .nil)))) (.cons (.call 58 (.cons (.var 1) (.cons (.var 2) (.cons (.var 3) .nil)))) .nil))))) (.cons (.set 4 (.lst false (.cons (.call 55 (.cons (.var 1) (.cons (.var 2) (.cons (.var 3) .nil)))) (.cons (.call 55 (.cons (.var 1) (.cons (.var 3) (.cons (.var 2) .nil)))) (.cons (.callk 55 [(Str.ofString "other"), (Str.ofString "lock"), (Str.ofString "make")] (.cons (.var 3) (.cons (.var 2) (.cons (.var 1) .nil)))) .nil))))) (.cons (.ifs (.bnot (.call 1 (.cons (.var 4) (.cons (.var 5) .nil)))) (.cons (.ret (.con (.bool false))) .nil) .nil) (.cons (.set 6 (.call 24 (.cons (.var 1) .nil))) (.cons (.set 7 (.ifx (.cmp .LtE (.call 21 (.cons (.var 6) .nil)) (.con (.int 32))) (.call 23 (.cons (.var 6) .nil)) (.comp false (.blt .tuple_ (.cons (.comp false (.call 20 (.cons (.var 0) (.cons (.var 13) .nil))) (.mk (.nm 13) (.seq (.var 2)) .none)) .nil)) (.mk (.nm 12) (.rng (.con (.int 12))) .none)))) (.cons (.for_ (.nm 8) (.seq (.var 7)) (.cons (.set 11 (.band (.cons (.call 57 (.cons (.var 2) (.cons (.var 8) .nil))) (.cons (.call 57 (.cons (.var 3) (.cons (.var 8) .nil))) .nil)))) (.cons (.ifs (.bor (.cons (.band (.cons (.isn false (.var 9)) (.cons (.var 11) .nil))) (.cons (.band (.cons (.isn true (.var 9)) (.cons (.bnot (.call 1 (.cons (.call 16 (.cons (.var 1) (.cons (.var 9) (.cons (.var 8) .nil)))) (.cons (.var 11) .nil)))) .nil))) .nil))) (.cons (.ret (.con (.bool false))) .nil) .nil) .nil))) (.cons (.ret (.cmp .Eq (.blt .repr_ (.cons (.lst false (.cons (.var 1) (.cons (.var 2) (.cons (.var 3) .nil)))) .nil)) (.var 10))) .nil))))))))))
def c_law_near : FD where
  name := (Str.ofString "_law_near")
  N := [(Str.ofString "feed"), (Str.ofString "make"), (Str.ofString "lock"), (Str.ofString "way"), (Str.ofString "got"), (Str.ofString "at"), (Str.ofString "spare"), (Str.ofString "some"), (Str.ofString "cut"), (Str.ofString "more")]
  np := 3
  retM := false
  body := (.cons (.par [3, 4] (.cons (.call 18 (.cons (.var 0) (.cons (.con (.int 6)) .nil))) (.cons (.call 28 (.cons (.var 0) (.cons (.var 1) .nil))) .nil))) (.cons (.ifs (.cmp .Eq (.var 3) (.con (.int 0))) (.cons (.set 4 (.var 2)) .nil) (.cons (.ifs (.cmp .Eq (.var 3) (.con (.int 1))) (.cons (.set 4 (.blt .tuple_ (.cons (.comp false (.blt .tuple_ (.cons (.comp false (.var 8) (.mk (.nm 8) (.seq (.var 7)) (.some (.bor (.cons (.cmp .Eq (.var 8) (.sub (.var 7) (.con (.int 0)))) (.cons (.cmp .Gt (.call 18 (.cons (.var 0) (.cons (.con (.int 3)) .nil))) (.con (.int 0))) .nil)))))) .nil)) (.mk (.nm 7) (.seq (.var 2)) .none)) .nil))) .nil) (.cons (.ifs (.cmp .Eq (.var 3) (.con (.int 2))) (.cons (.set 4 (.blt .tuple_ (.cons (.comp false (.blt .tuple_ (.cons (.sset (.bin .Add (.var 7) (.var 9))) .nil)) (.mk (.tp [7, 9]) (.zip (.var 2) (.var 4)) .none)) .nil))) .nil) (.cons (.ifs (.cmp .Eq (.var 3) (.con (.int 3))) (.cons (.set 5 (.call 18 (.cons (.var 0) (.cons (.sub (.var 1) (.con (.int 0))) .nil)))) (.cons (.set 6 (.blt .tuple_ (.cons (.comp false (.var 8) (.mk (.nm 8) (.rng (.sub (.var 1) (.con (.int 1)))) (.some (.cmp .NotIn (.var 8) (.sub (.var 2) (.var 5)))))) .nil))) (.cons (.set 4 (.bin .Add (.bin .Add (.slc (.var 2) .none (.some (.var 5))) (.tup (.cons (.ifx (.cmp .NotEq (.var 6) (.tup .nil)) (.var 6) (.sub (.var 2) (.var 5))) .nil))) (.slc (.var 2) (.some (.bin .Add (.var 5) (.con (.int 1)))) .none))) .nil))) .nil) .nil)) .nil)) .nil)) (.cons (.ret (.var 4)) .nil)))
def c_law_4 : FD where
  name := (Str.ofString "law")
  N := [(Str.ofString "script"), (Str.ofString "k"), (Str.ofString "feed"), (Str.ofString "make"), (Str.ofString "lock"), (Str.ofString "turn")]
  np := 1
  retM := false
  body := (.cons (.for_ (.nm 1) (.rng (.blt .max_ (.cons (.con (.int 2)) (.cons (.blt .min_ (.cons (.blt .len (.cons (.var 0) .nil)) (.cons (.con (.int 8)) .nil))) .nil)))) (.cons (.set 2 (.call 30 (.cons (.var 0) (.cons (.var 1) .nil)))) (.cons (.set 3 (.call 29 (.cons (.var 2) .nil))) (.cons (.set 4 (.call 28 (.cons (.var 2) (.cons (.var 3) .nil)))) (.cons (.for_ (.nm 5) (.rng (.con (.int 5))) (.cons (.ifs (.bnot (.call 60 (.cons (.var 2) (.cons (.var 3) (.cons (.var 4) (.cons (.call 61 (.cons (.var 2) (.cons (.var 3) (.cons (.var 4) .nil)))) .nil)))))) (.cons (.ret (.con (.bool false))) .nil) .nil) .nil)) (.cons (.ifs (.bnot (.call 1 (.cons (.lst false (.cons (.call 56 (.cons (.var 3) (.cons (.var 4) (.cons (.var 4) .nil)))) (.cons (.call 55 (.cons (.var 3) (.cons (.var 4) (.cons (.var 4) .nil)))) .nil))) (.cons (.lst false (.cons (.var 4) (.cons (.con (.bool true)) .nil))) .nil)))) (.cons (.ret (.con (.bool false))) .nil) .nil) .nil)))))) (.cons (.ret (.con (.bool true))) .nil))
def c_bottom_by : FD where
  name := (Str.ofString "bottom_by")
  N := [(Str.ofString "make"), (Str.ofString "key"), (Str.ofString "number"), (Str.ofString "found"), (Str.ofString "top"), (Str.ofString "cuts"), (Str.ofString "cut")]
  np := 3
  retM := false
  body := (.cons (.set 3 (.lst true .nil)) (.cons (.for_ (.nm 4) (.seq (.rev (.var 1))) (.cons (.set 5 (.comp false (.var 6) (.mk (.nm 6) (.rng (.sub (.var 0) (.con (.int 1)))) (.some (.cmp .NotEq (.var 6) (.var 4)))))) (.cons (.expr (.meth (Str.ofString "append") (.var 3) (.cons (.sub (.var 5) (.bin .Mod (.var 2) (.blt .len (.cons (.var 5) .nil)))) .nil))) (.cons (.set 2 (.bin .FloorDiv (.var 2) (.blt .len (.cons (.var 5) .nil)))) .nil)))) (.cons (.ret (.blt .tuple_ (.cons (.rev (.var 3)) .nil))) .nil)))
def c_bottom_count : FD where
  name := (Str.ofString "bottom_count")
  N := [(Str.ofString "make"), (Str.ofString "found"), (Str.ofString "chamber")]
  np := 1
  retM := false
  body := (.cons (.set 1 (.con (.int 1))) (.cons (.for_ (.nm 2) (.rng (.sub (.var 0) (.con (.int 0)))) (.cons (.set 1 (.bin .Mult (.var 1) (.bin .Sub (.sub (.var 0) (.con (.int 1))) (.con (.int 1))))) .nil)) (.cons (.ret (.var 1)) .nil)))
def c_bottom_at : FD where
  name := (Str.ofString "bottom_at")
  N := [(Str.ofString "make"), (Str.ofString "key"), (Str.ofString "number")]
  np := 3
  retM := false
  body := (.cons (.expr (.call 12 (.cons (.var 0) .nil))) (.cons (.expr (.call 7 (.cons (.var 0) (.cons (.var 1) .nil)))) (.cons (.expr (.call 49 (.cons (.var 2) (.cons (.con (.int 0)) (.cons (.bin .Sub (.call 70 (.cons (.var 0) .nil)) (.con (.int 1))) .nil))))) (.cons (.ret (.call 69 (.cons (.var 0) (.cons (.var 1) (.cons (.var 2) .nil))))) .nil))))
def c_law_refused_2 : FD where
  name := (Str.ofString "_law_refused")
  N := [(Str.ofString "make"), (Str.ofString "key"), (Str.ofString "number"), (Str.ofString "caught"), (Str.ofString "e")]
  np := 3
  retM := false
  body := (.cons (.set 3 (.con .none)) (.cons (.try_ (.cons (.expr (.call 71 (.cons (.var 0) (.cons (.var 1) (.cons (.var 2) .nil))))) .nil) (Str.ofString "BadNumber") 4 3) (.cons (.ret (.band (.cons (.isn true (.var 3)) (.cons (.isin (.var 3) [(.own (Str.ofString "KeyedError"))]) (.cons (.bnot (.isin (.var 3) [(.own (Str.ofString "BadKey"))])) .nil))))) .nil)))
def c_law_levels : FD where
  name := (Str.ofString "_law_levels")
  N := [(Str.ofString "feed"), (Str.ofString "make"), (Str.ofString "most"), (Str.ofString "rows"), (Str.ofString "chamber")]
  np := 2
  retM := false
  body := (.cons (.set 2 (.bin .Add (.con (.int 1)) (.call 18 (.cons (.var 0) (.cons (.sub (.var 1) (.con (.int 0))) .nil))))) (.cons (.set 3 (.bin .Add (.rng false false (.rng2 (.con (.int 1)) (.bin .Add (.var 2) (.con (.int 1))))) (.comp false (.bin .Add (.con (.int 1)) (.call 18 (.cons (.var 0) (.cons (.var 2) .nil)))) (.mk (.nm 4) (.rng (.bin .Sub (.sub (.var 1) (.con (.int 0))) (.var 2))) .none)))) (.cons (.ret (.blt .tuple_ (.cons (.call 22 (.cons (.var 0) (.cons (.var 3) .nil))) .nil))) .nil)))
def c_lock_of_chain : FD where
  name := (Str.ofString "lock_of_chain")
  N := [(Str.ofString "key"), (Str.ofString "bottom"), (Str.ofString "top"), (Str.ofString "low")]
  np := 2
  retM := false
  body := (.cons (.ret (.blt .tuple_ (.cons (.comp false (.blt .tuple_ (.cons (.blt .sorted_ (.cons (.lst false (.cons (.var 2) (.cons (.var 3) .nil))) .nil)) .nil)) (.mk (.tp [2, 3]) (.zip (.var 0) (.var 1)) .none)) .nil))) .nil)
def c_is_bottom : FD where
  name := (Str.ofString "is_bottom")
  N := [(Str.ofString "make"), (Str.ofString "key"), (Str.ofString "thing"), (Str.ofString "cut"), (Str.ofString "top")]
  np := 3
  retM := false
  body := (.cons (.ret (.band (.cons (.call 6 (.cons (.var 0) (.cons (.var 2) .nil))) (.cons (.blt .all_ (.cons (.comp false (.cmp .NotEq (.var 3) (.var 4)) (.mk (.tp [3, 4]) (.zip (.var 2) (.var 1)) .none)) .nil)) .nil)))) .nil)
def c_are_levels : FD where
  name := (Str.ofString "are_levels")
  N := [(Str.ofString "make"), (Str.ofString "thing")]
  np := 2
  retM := false
  body := (.cons (.ifs (.bnot (.call 5 (.cons (.var 1) (.cons (.sub (.var 0) (.con (.int 0))) (.cons (.con (.int 1)) (.cons (.gcon (Str.ofString "MOST_LEVEL") (.int 5)) .nil)))))) (.cons (.ret (.con (.bool false))) .nil) .nil) (.cons (.ret (.seteq (.var 1) (.rng false false (.rng2 (.con (.int 1)) (.bin .Add (.blt .max_ (.cons (.var 1) .nil)) (.con (.int 1))))))) .nil))
def c_need_levels : FD where
  name := (Str.ofString "need_levels")
  N := [(Str.ofString "make"), (Str.ofString "key"), (Str.ofString "levels")]
  np := 3
  retM := false
  body := (.cons (.expr (.call 12 (.cons (.var 0) .nil))) (.cons (.expr (.call 7 (.cons (.var 0) (.cons (.var 1) .nil)))) (.cons (.ifs (.bnot (.call 76 (.cons (.var 0) (.cons (.var 2) .nil)))) (.cons (.raise_ (Str.ofString "BadLevels") (.cons (.con (.str (Str.ofString "no levels"))) .nil)) .nil) .nil) .nil)))
def c_need_bottom : FD where
  name := (Str.ofString "need_bottom")
  N := [(Str.ofString "make"), (Str.ofString "key"), (Str.ofString "levels"), (Str.ofString "bottom")]
  np := 4
  retM := false
  body := (.cons (.expr (.call 77 (.cons (.var 0) (.cons (.var 1) (.cons (.var 2) .nil))))) (.cons (.ifs (.bnot (.call 75 (.cons (.var 0) (.cons (.var 1) (.cons (.var 3) .nil))))) (.cons (.raise_ (Str.ofString "BadKey") (.cons (.con (.str (Str.ofString "no bottom key"))) .nil)) .nil) .nil) .nil))
def c_chain_lock : FD where
  name := (Str.ofString "chain_lock")
  N := [(Str.ofString "make"), (Str.ofString "key"), (Str.ofString "levels"), (Str.ofString "bottom")]
  np := 4
  retM := false
  body := (.cons (.expr (.call 78 (.cons (.var 0) (.cons (.var 1) (.cons (.var 2) (.cons (.var 3) .nil)))))) (.cons (.ret (.call 74 (.cons (.var 1) (.cons (.var 3) .nil)))) .nil))
def c_chain_of : FD where
  name := (Str.ofString "chain_of")
  N := [(Str.ofString "key"), (Str.ofString "levels"), (Str.ofString "bottom"), (Str.ofString "found"), (Str.ofString "level"), (Str.ofString "top"), (Str.ofString "one"), (Str.ofString "low")]
  np := 3
  retM := false
  body := (.cons (.set 3 (.lst true .nil)) (.cons (.for_ (.nm 4) (.rng (.bin .Add (.blt .max_ (.cons (.var 1) .nil)) (.con (.int 1)))) (.cons (.expr (.meth (Str.ofString "append") (.var 3) (.cons (.blt .tuple_ (.cons (.comp false (.ifx (.cmp .LtE (.var 6) (.var 4)) (.var 7) (.var 5)) (.mk (.tp [5, 6, 7]) (.zip3 (.var 0) (.var 1) (.var 2)) .none)) .nil)) .nil))) .nil)) (.cons (.ret (.blt .tuple_ (.cons (.var 3) .nil))) .nil)))
def c_chain : FD where
  name := (Str.ofString "chain")
  N := [(Str.ofString "make"), (Str.ofString "key"), (Str.ofString "levels"), (Str.ofString "bottom")]
  np := 4
  retM := false
  body := (.cons (.expr (.call 78 (.cons (.var 0) (.cons (.var 1) (.cons (.var 2) (.cons (.var 3) .nil)))))) (.cons (.ret (.call 80 (.cons (.var 1) (.cons (.var 2) (.cons (.var 3) .nil))))) .nil))
def c_law_chain_lock : FD where
  name := (Str.ofString "_law_chain_lock")
  N := [(Str.ofString "key"), (Str.ofString "bottom"), (Str.ofString "cut"), (Str.ofString "other")]
  np := 2
  retM := false
  body := (.cons (.ret (.blt .tuple_ (.cons (.comp false (.blt .tuple_ (.cons (.blt .sorted_ (.cons (.lst false (.cons (.var 2) (.cons (.var 3) .nil))) .nil)) .nil)) (.mk (.tp [2, 3]) (.zip (.var 0) (.var 1)) .none)) .nil))) .nil)
def c_law_chain : FD where
  name := (Str.ofString "_law_chain")
  N := [(Str.ofString "key"), (Str.ofString "levels"), (Str.ofString "bottom"), (Str.ofString "rows"), (Str.ofString "t"), (Str.ofString "cut"), (Str.ofString "level"), (Str.ofString "other")]
  np := 3
  retM := false
  body := (.cons (.set 3 (.lst true .nil)) (.cons (.for_ (.nm 4) (.rng (.bin .Add (.blt .max_ (.cons (.var 1) .nil)) (.con (.int 1)))) (.cons (.expr (.meth (Str.ofString "append") (.var 3) (.cons (.blt .tuple_ (.cons (.comp false (.ifx (.cmp .LtE (.var 6) (.var 4)) (.var 7) (.var 5)) (.mk (.tp [5, 6, 7]) (.zip3 (.var 0) (.var 1) (.var 2)) .none)) .nil)) .nil))) .nil)) (.cons (.ret (.blt .tuple_ (.cons (.var 3) .nil))) .nil)))
def c_law_chained : FD where
  name := (Str.ofString "_law_chained")
  N := [(Str.ofString "feed"), (Str.ofString "make"), (Str.ofString "key"), (Str.ofString "levels"), (Str.ofString "bottom"), (Str.ofString "due"), (Str.ofString "told"), (Str.ofString "name"), (Str.ofString "named")]
  np := 5
  retM := false
  body := (.cons (.set 5 (.lst false (.cons (.call 83 (.cons (.var 2) (.cons (.var 3) (.cons (.var 4) .nil)))) (.cons (.call 82 (.cons (.var 2) (.cons (.var 4) .nil))) .nil)))) (.cons (.set 6 (.lst false .nil)) (.cons (.for_ (.nm 7) (.seq (.call 22 (.cons (.var 0) (.cons (.lst false (.cons (.con (.str (Str.ofString "chain"))) (.cons (.con (.str (Str.ofString "lock"))) .nil))) .nil)))) (.cons (.ifs (.cmp .Eq (.var 7) (.con (.str (Str.ofString "chain")))) (.cons (.set 6 (.bin .Add (.lst false (.cons (.call 81 (.cons (.var 1) (.cons (.var 2) (.cons (.var 3) (.cons (.var 4) .nil))))) .nil)) (.var 6))) .nil) (.cons (.set 6 (.bin .Add (.var 6) (.lst false (.cons (.call 79 (.cons (.var 1) (.cons (.var 2) (.cons (.var 3) (.cons (.var 4) .nil))))) .nil)))) .nil)) .nil)) (.cons (.ifs (.bnot (.call 1 (.cons (.var 6) (.cons (.var 5) .nil)))) (.cons (.ret (.con (.bool false))) .nil) .nil) (.cons (.set 8 (.lst false (.cons (.callk 81 [(Str.ofString "bottom"), (Str.ofString "levels"), (Str.ofString "key"), (Str.ofString "make")] (.cons (.var 4) (.cons (.var 3) (.cons (.var 2) (.cons (.var 1) .nil))))) (.cons (.callk 79 [(Str.ofString "bottom"), (Str.ofString "levels"), (Str.ofString "key"), (Str.ofString "make")] (.cons (.var 4) (.cons (.var 3) (.cons (.var 2) (.cons (.var 1) .nil))))) .nil)))) (.cons (.ret (.call 1 (.cons (.var 8) (.cons (.var 5) .nil)))) .nil))))))
def c_bottoms : FD where
  name := (Str.ofString "bottoms")
  N := [(Str.ofString "make"), (Str.ofString "key")]
  np := 2
  retM := false
  body := (.cons (.expr (.call 12 (.cons (.var 0) .nil))) (.cons (.expr (.call 7 (.cons (.var 0) (.cons (.var 1) .nil)))) (.cons (.ret (.call 70 (.cons (.var 0) .nil))) .nil)))
def c_law_others : FD where
  name := (Str.ofString "_law_others")
  N := [(Str.ofString "make"), (Str.ofString "key"), (Str.ofString "cut"), (Str.ofString "one")]
  np := 2
  retM := false
  body := (.cons (.ret (.blt .tuple_ (.cons (.comp false (.blt .tuple_ (.cons (.comp false (.var 3) (.mk (.nm 3) (.rng (.sub (.var 0) (.con (.int 1)))) (.some (.cmp .NotEq (.var 3) (.var 2))))) .nil)) (.mk (.nm 2) (.seq (.var 1)) .none)) .nil))) .nil)
def c_law_6 : FD where
  name := (Str.ofString "law")
  N := [(Str.ofString "script"), (Str.ofString "k"), (Str.ofString "feed"), (Str.ofString "make"), (Str.ofString "key"), (Str.ofString "others"), (Str.ofString "many"), (Str.ofString "numbers"), (Str.ofString "rows"), (Str.ofString "levels"), (Str.ofString "number"), (Str.ofString "odd"), (Str.ofString "bottom"), (Str.ofString "told"), (Str.ofString "turn")]
  np := 1
  retM := false
  body := (.cons (.for_ (.nm 1) (.rng (.blt .max_ (.cons (.con (.int 2)) (.cons (.blt .min_ (.cons (.blt .len (.cons (.var 0) .nil)) (.cons (.con (.int 5)) .nil))) .nil)))) (.cons (.set 2 (.call 30 (.cons (.var 0) (.cons (.var 1) .nil)))) (.cons (.set 3 (.call 29 (.cons (.var 2) .nil))) (.cons (.set 4 (.call 19 (.cons (.var 2) (.cons (.var 3) .nil)))) (.cons (.set 5 (.call 86 (.cons (.var 3) (.cons (.var 4) .nil)))) (.cons (.set 6 (.call 21 (.cons (.var 5) .nil))) (.cons (.ifs (.bnot (.call 1 (.cons (.lst false (.cons (.call 85 (.cons (.var 3) (.cons (.var 4) .nil))) (.cons (.callk 85 [(Str.ofString "key"), (Str.ofString "make")] (.cons (.var 4) (.cons (.var 3) .nil))) .nil))) (.cons (.lst false (.cons (.var 6) (.cons (.var 6) .nil))) .nil)))) (.cons (.ret (.con (.bool false))) .nil) .nil) (.cons (.set 7 (.ifx (.cmp .LtE (.var 6) (.con (.int 64))) (.rng false false (.rng (.var 6))) (.bin .Add (.lst false (.cons (.con (.int 0)) (.cons (.bin .Sub (.var 6) (.con (.int 1))) .nil))) (.comp false (.call 18 (.cons (.var 2) (.cons (.var 6) .nil))) (.mk (.nm 14) (.rng (.con (.int 20))) .none))))) (.cons (.set 8 (.ifx (.cmp .LtE (.var 6) (.con (.int 64))) (.call 23 (.cons (.var 5) .nil)) (.lst false .nil))) (.cons (.set 9 (.call 73 (.cons (.var 2) (.cons (.var 3) .nil)))) (.cons (.for_ (.nm 10) (.seq (.call 22 (.cons (.var 2) (.cons (.var 7) .nil)))) (.cons (.set 12 (.ifx (.cmp .LtE (.var 6) (.con (.int 64))) (.sub (.var 8) (.var 10)) (.call 47 (.cons (.var 5) (.cons (.var 10) .nil))))) (.cons (.set 13 (.ifx (.cmp .Eq (.call 18 (.cons (.var 2) (.cons (.con (.int 3)) .nil))) (.con (.int 0))) (.callk 71 [(Str.ofString "number"), (Str.ofString "key"), (Str.ofString "make")] (.cons (.var 10) (.cons (.var 4) (.cons (.var 3) .nil)))) (.call 71 (.cons (.var 3) (.cons (.var 4) (.cons (.var 10) .nil)))))) (.cons (.ifs (.bor (.cons (.bnot (.call 1 (.cons (.var 13) (.cons (.var 12) .nil)))) (.cons (.bnot (.call 84 (.cons (.var 2) (.cons (.var 3) (.cons (.var 4) (.cons (.var 9) (.cons (.var 12) .nil))))))) .nil))) (.cons (.ret (.con (.bool false))) .nil) .nil) (.cons (.ifs (.cmp .Eq (.call 18 (.cons (.var 2) (.cons (.con (.int 4)) .nil))) (.con (.int 0))) (.cons (.set 9 (.call 73 (.cons (.var 2) (.cons (.var 3) .nil)))) .nil) .nil) .nil))))) (.cons (.for_ (.nm 11) (.seq (.lst false (.cons (.neg (.con (.int 1))) (.cons (.neg (.var 6)) (.cons (.var 6) (.cons (.bin .Add (.bin .Add (.var 6) (.con (.int 1))) (.call 18 (.cons (.var 2) (.cons (.con (.int 9)) .nil)))) (.cons (.bin .Pow (.con (.int 10)) (.con (.int 30))) (.cons (.con (.bool true)) (.cons (.con (.bool false)) (.cons (.con .none) (.cons (.con (.str (Str.ofString "0"))) (.cons (.tup (.cons (.con (.int 0)) .nil)) (.cons (.lst false (.cons (.con (.int 0)) .nil)) .nil))))))))))))) (.cons (.ifs (.bnot (.call 72 (.cons (.var 3) (.cons (.var 4) (.cons (.var 11) .nil))))) (.cons (.ret (.con (.bool false))) .nil) .nil) .nil)) .nil)))))))))))) (.cons (.ret (.con (.bool true))) .nil))
def c_meeting : FD where
  name := (Str.ofString "meeting")
  N := [(Str.ofString "key"), (Str.ofString "levels"), (Str.ofString "bottom"), (Str.ofString "other"), (Str.ofString "one"), (Str.ofString "two"), (Str.ofString "level")]
  np := 4
  retM := false
  body := (.cons (.par [4, 5] (.cons (.call 80 (.cons (.var 0) (.cons (.var 1) (.cons (.var 2) .nil)))) (.cons (.call 80 (.cons (.var 0) (.cons (.var 1) (.cons (.var 3) .nil)))) .nil))) (.cons (.ret (.blt .max_ (.cons (.comp false (.var 6) (.mk (.nm 6) (.rng (.blt .len (.cons (.var 4) .nil))) (.some (.cmp .Eq (.sub (.var 4) (.var 6)) (.sub (.var 5) (.var 6)))))) .nil))) .nil))
def c_need_two : FD where
  name := (Str.ofString "need_two")
  N := [(Str.ofString "make"), (Str.ofString "key"), (Str.ofString "levels"), (Str.ofString "bottom"), (Str.ofString "other")]
  np := 5
  retM := false
  body := (.cons (.expr (.call 78 (.cons (.var 0) (.cons (.var 1) (.cons (.var 2) (.cons (.var 3) .nil)))))) (.cons (.ifs (.bnot (.call 75 (.cons (.var 0) (.cons (.var 1) (.cons (.var 4) .nil))))) (.cons (.raise_ (Str.ofString "BadKey") (.cons (.con (.str (Str.ofString "no bottom key"))) .nil)) .nil) .nil) .nil))
def c_meets : FD where
  name := (Str.ofString "meets")
  N := [(Str.ofString "make"), (Str.ofString "key"), (Str.ofString "levels"), (Str.ofString "bottom"), (Str.ofString "other")]
  np := 5
  retM := false
  body := (.cons (.expr (.call 89 (.cons (.var 0) (.cons (.var 1) (.cons (.var 2) (.cons (.var 3) (.cons (.var 4) .nil))))))) (.cons (.ret (.call 88 (.cons (.var 1) (.cons (.var 2) (.cons (.var 3) (.cons (.var 4) .nil)))))) .nil))
def c_law_meets : FD where
  name := (Str.ofString "_law_meets")
  N := [(Str.ofString "key"), (Str.ofString "levels"), (Str.ofString "bottom"), (Str.ofString "other"), (Str.ofString "one"), (Str.ofString "two"), (Str.ofString "t")]
  np := 4
  retM := false
  body := (.cons (.par [4, 5] (.cons (.call 83 (.cons (.var 0) (.cons (.var 1) (.cons (.var 2) .nil)))) (.cons (.call 83 (.cons (.var 0) (.cons (.var 1) (.cons (.var 3) .nil)))) .nil))) (.cons (.ret (.blt .max_ (.cons (.comp false (.var 6) (.mk (.nm 6) (.rng (.blt .len (.cons (.var 4) .nil))) (.some (.cmp .Eq (.sub (.var 4) (.var 6)) (.sub (.var 5) (.var 6)))))) .nil))) .nil))
def c_law_bottom : FD where
  name := (Str.ofString "_law_bottom")
  N := [(Str.ofString "feed"), (Str.ofString "make"), (Str.ofString "key"), (Str.ofString "got"), (Str.ofString "cut"), (Str.ofString "other")]
  np := 3
  retM := false
  body := (.cons (.set 3 (.lst true .nil)) (.cons (.for_ (.nm 4) (.seq (.var 2)) (.cons (.set 5 (.call 18 (.cons (.var 0) (.cons (.bin .Sub (.sub (.var 1) (.con (.int 1))) (.con (.int 1))) .nil)))) (.cons (.expr (.meth (Str.ofString "append") (.var 3) (.cons (.bin .Add (.var 5) (.blt .int_ (.cons (.cmp .GtE (.var 5) (.var 4)) .nil))) .nil))) .nil))) (.cons (.ret (.blt .tuple_ (.cons (.var 3) .nil))) .nil)))
def c_law_bottom_near : FD where
  name := (Str.ofString "_law_bottom_near")
  N := [(Str.ofString "feed"), (Str.ofString "make"), (Str.ofString "key"), (Str.ofString "bottom"), (Str.ofString "other"), (Str.ofString "often"), (Str.ofString "old"), (Str.ofString "new")]
  np := 4
  retM := false
  body := (.cons (.par [4, 5] (.cons (.call 92 (.cons (.var 0) (.cons (.var 1) (.cons (.var 2) .nil)))) (.cons (.call 20 (.cons (.var 0) (.cons (.lst false (.cons (.con (.int 1)) (.cons (.con (.int 2)) (.cons (.con (.int 3)) (.cons (.con (.int 6)) .nil))))) .nil))) .nil))) (.cons (.ret (.blt .tuple_ (.cons (.comp false (.ifx (.cmp .Eq (.call 18 (.cons (.var 0) (.cons (.var 5) .nil))) (.con (.int 0))) (.var 7) (.var 6)) (.mk (.tp [6, 7]) (.zip (.var 3) (.var 4)) .none)) .nil))) .nil))
def c_branch : FD where
  name := (Str.ofString "branch")
  N := [(Str.ofString "make"), (Str.ofString "key"), (Str.ofString "levels"), (Str.ofString "bottom"), (Str.ofString "number"), (Str.ofString "found"), (Str.ofString "level")]
  np := 5
  retM := false
  body := (.cons (.expr (.call 78 (.cons (.var 0) (.cons (.var 1) (.cons (.var 2) (.cons (.var 3) .nil)))))) (.cons (.expr (.call 49 (.cons (.var 4) (.cons (.con (.int 0)) (.cons (.blt .max_ (.cons (.var 2) .nil)) .nil))))) (.cons (.set 5 (.con (.int 1))) (.cons (.for_ (.nm 6) (.seq (.var 2)) (.cons (.ifs (.cmp .Gt (.var 6) (.var 4)) (.cons (.set 5 (.bin .Mult (.var 5) (.bin .Sub (.sub (.var 0) (.con (.int 1))) (.con (.int 1))))) .nil) .nil) .nil)) (.cons (.ret (.var 5)) .nil)))))
def c_law_branches : FD where
  name := (Str.ofString "_law_branches")
  N := [(Str.ofString "make"), (Str.ofString "key"), (Str.ofString "levels"), (Str.ofString "bottom"), (Str.ofString "rows"), (Str.ofString "others"), (Str.ofString "own"), (Str.ofString "one"), (Str.ofString "t"), (Str.ofString "row"), (Str.ofString "some"), (Str.ofString "level")]
  np := 4
  retM := false
  body := (.cons (.par [5, 6] (.cons (.call 86 (.cons (.var 0) (.cons (.var 1) .nil))) (.cons (.call 83 (.cons (.var 1) (.cons (.var 2) (.cons (.var 3) .nil)))) .nil))) (.cons (.ifs (.cmp .Gt (.call 21 (.cons (.var 5) .nil)) (.con (.int 100))) (.cons (.ret (.comp false (.call 21 (.cons (.comp false (.var 10) (.mk (.tp [10, 11]) (.zip (.var 5) (.var 2)) (.some (.cmp .Gt (.var 11) (.var 8))))) .nil)) (.mk (.nm 8) (.rng (.blt .len (.cons (.var 6) .nil))) .none))) .nil) .nil) (.cons (.set 4 (.comp false (.call 83 (.cons (.var 1) (.cons (.var 2) (.cons (.var 7) .nil)))) (.mk (.nm 7) (.seq (.call 23 (.cons (.var 5) .nil))) .none))) (.cons (.ret (.comp false (.blt .len (.cons (.comp false (.con (.int 1)) (.mk (.nm 9) (.seq (.var 4)) (.some (.cmp .Eq (.sub (.var 9) (.var 8)) (.sub (.var 6) (.var 8)))))) .nil)) (.mk (.nm 8) (.rng (.blt .len (.cons (.var 6) .nil))) .none))) .nil))))
def c_law_right_5 : FD where
  name := (Str.ofString "_law_right")
  N := [(Str.ofString "feed"), (Str.ofString "make"), (Str.ofString "key"), (Str.ofString "levels"), (Str.ofString "bottom"), (Str.ofString "due"), (Str.ofString "t"), (Str.ofString "others"), (Str.ofString "other"), (Str.ofString "most"), (Str.ofString "told"), (Str.ofString "turn")]
  np := 5
  retM := false
  body := (.cons (.set 5 (.call 95 (.cons (.var 1) (.cons (.var 2) (.cons (.var 3) (.cons (.var 4) .nil)))))) (.cons (.for_ (.nm 6) (.seq (.call 22 (.cons (.var 0) (.cons (.rng false false (.rng (.blt .len (.cons (.var 5) .nil)))) .nil)))) (.cons (.ifs (.bnot (.call 1 (.cons (.call 94 (.cons (.var 1) (.cons (.var 2) (.cons (.var 3) (.cons (.var 4) (.cons (.var 6) .nil)))))) (.cons (.sub (.var 5) (.var 6)) .nil)))) (.cons (.ret (.con (.bool false))) .nil) .nil) .nil)) (.cons (.set 6 (.call 18 (.cons (.var 0) (.cons (.blt .len (.cons (.var 5) .nil)) .nil)))) (.cons (.ifs (.bnot (.call 1 (.cons (.callk 94 [(Str.ofString "number"), (Str.ofString "bottom"), (Str.ofString "levels"), (Str.ofString "key"), (Str.ofString "make")] (.cons (.var 6) (.cons (.var 4) (.cons (.var 3) (.cons (.var 2) (.cons (.var 1) .nil)))))) (.cons (.sub (.var 5) (.var 6)) .nil)))) (.cons (.ret (.con (.bool false))) .nil) .nil) (.cons (.set 7 (.bin .Add (.lst false (.cons (.var 4) .nil)) (.comp false (.call 93 (.cons (.var 0) (.cons (.var 1) (.cons (.var 2) (.cons (.var 4) .nil))))) (.mk (.nm 11) (.rng (.con (.int 5))) .none)))) (.cons (.for_ (.nm 8) (.seq (.call 22 (.cons (.var 0) (.cons (.var 7) .nil)))) (.cons (.set 9 (.call 91 (.cons (.var 2) (.cons (.var 3) (.cons (.var 4) (.cons (.var 8) .nil)))))) (.cons (.set 10 (.lst false (.cons (.call 90 (.cons (.var 1) (.cons (.var 2) (.cons (.var 3) (.cons (.var 4) (.cons (.var 8) .nil)))))) (.cons (.call 90 (.cons (.var 1) (.cons (.var 2) (.cons (.var 3) (.cons (.var 8) (.cons (.var 4) .nil)))))) .nil)))) (.cons (.ifs (.bnot (.call 1 (.cons (.var 10) (.cons (.lst false (.cons (.var 9) (.cons (.var 9) .nil))) .nil)))) (.cons (.ret (.con (.bool false))) .nil) .nil) (.cons (.ifs (.bnot (.call 1 (.cons (.callk 90 [(Str.ofString "other"), (Str.ofString "bottom"), (Str.ofString "levels"), (Str.ofString "key"), (Str.ofString "make")] (.cons (.var 8) (.cons (.var 4) (.cons (.var 3) (.cons (.var 2) (.cons (.var 1) .nil)))))) (.cons (.var 9) .nil)))) (.cons (.ret (.con (.bool false))) .nil) .nil) .nil))))) (.cons (.ret (.con (.bool true))) .nil)))))))
def c_law_7 : FD where
  name := (Str.ofString "law")
  N := [(Str.ofString "script"), (Str.ofString "k"), (Str.ofString "feed"), (Str.ofString "make"), (Str.ofString "key"), (Str.ofString "turn"), (Str.ofString "levels")]
  np := 1
  retM := false
  body := (.cons (.for_ (.nm 1) (.rng (.blt .max_ (.cons (.con (.int 2)) (.cons (.blt .min_ (.cons (.blt .len (.cons (.var 0) .nil)) (.cons (.con (.int 5)) .nil))) .nil)))) (.cons (.set 2 (.call 30 (.cons (.var 0) (.cons (.var 1) .nil)))) (.cons (.set 3 (.call 29 (.cons (.var 2) .nil))) (.cons (.set 4 (.call 19 (.cons (.var 2) (.cons (.var 3) .nil)))) (.cons (.for_ (.nm 5) (.rng (.con (.int 2))) (.cons (.set 6 (.call 73 (.cons (.var 2) (.cons (.var 3) .nil)))) (.cons (.ifs (.bnot (.call 96 (.cons (.var 2) (.cons (.var 3) (.cons (.var 4) (.cons (.var 6) (.cons (.call 92 (.cons (.var 2) (.cons (.var 3) (.cons (.var 4) .nil)))) .nil))))))) (.cons (.ret (.con (.bool false))) .nil) .nil) .nil))) .nil))))) (.cons (.ret (.con (.bool true))) .nil))
/-- all defs -/
def TGl : List (Nat × FD) := [(1, c_law_same), (2, c_is_integer), (3, c_is_within), (4, c_is_row), (5, c_are_within), (6, c_is_key_form), (7, c_need_key), (8, c_is_ascending), (9, c_are_cuts), (10, c_is_lock_form), (11, c_is_make), (12, c_need_make), (13, c_need_lock), (14, c_apart_in), (15, c_does_open), (16, c_opens), (17, c_law_apart), (18, c_law_draw), (19, c_law_key), (20, c_law_one), (21, c_law_size), (22, c_law_mixed), (23, c_law_every), (24, c_law_full), (25, c_law_tried), (26, c_law_tells), (27, c_law_cuts), (28, c_law_lock), (29, c_law_make), (30, c_law_feed), (31, c_law), (34, c_product_of), (35, c_key_count), (38, c_count_keys), (40, c_law_sized), (41, c_law_bound), (43, c_number_of), (44, c_need_opening), (45, c_key_number), (46, c_law_no_number), (47, c_law_at), (48, c_key_with), (49, c_need_number), (50, c_key_at), (51, c_law_no_key_at), (52, c_law_refused), (53, c_law_right_2), (54, c_law_3), (55, c_is_within_2), (56, c_both_locks), (57, c_law_opens), (58, c_law_within), (59, c_law_both), (60, c_law_right_3), (61, c_law_near), (62, c_law_4), (63, c_product_rows_2), (64, c_key_list_2), (65, c_keys_of_2), (66, c_law_told_2), (67, c_law_right_4), (68, c_law_5), (69, c_bottom_by), (70, c_bottom_count), (71, c_bottom_at), (72, c_law_refused_2), (73, c_law_levels), (74, c_lock_of_chain), (75, c_is_bottom), (76, c_are_levels), (77, c_need_levels), (78, c_need_bottom), (79, c_chain_lock), (80, c_chain_of), (81, c_chain), (82, c_law_chain_lock), (83, c_law_chain), (84, c_law_chained), (85, c_bottoms), (86, c_law_others), (87, c_law_6), (88, c_meeting), (89, c_need_two), (90, c_meets), (91, c_law_meets), (92, c_law_bottom), (93, c_law_bottom_near), (94, c_branch), (95, c_law_branches), (96, c_law_right_5), (97, c_law_7)]
def TG : Tab := tabOf TGl
end KA
/-! KB8: draws and feeds. -/
namespace KA
open PySem
section
variable {call : Nat → List VV → Sto → R VV} {par : Nat → List Str}
theorem bltVs_d (b : Bn) (hb : b ≠ .listM) (x : PD) (S : Sto) : bltVs b [.d x] S = (R.opt (bltD b [x]) S).bind fun z S => .ok (.d z) S := by
  unfold bltVs
  simp only [rds, rd_d]
  cases b <;> first | rfl | exact absurd rfl hb
@[simp] theorem evT_cmp (σ : Sg) (op : CmpOp) (a b : CE) (S : Sto) : evT call par σ (.cmp op a b) S = (evE call par σ (.cmp op a b) S).bind fun v S => op1 truthD S v := by simp only [evT]
@[simp] theorem op1_bool (f : PD → Option Bool) (S : Sto) (x : PD) : op1 f S (.d x) = R.opt (f x) S := Eq.trans rfl rfl
@[simp] theorem newM_false (d : PD) (S : Sto) : newM false d S = .ok (.d d) S := by cases d <;> rfl
@[simp] theorem newM_true (ds : List PD) (S : Sto) : newM true (.list ds) S = .ok (.loc S.length) (S ++ [.lst ds]) := Eq.trans rfl rfl
@[simp] theorem blt1_len (x : PD) (S : Sto) : bltVs .len [.d x] S = (R.opt (bltD .len [x]) S).bind fun z S => .ok (.d z) S := bltVs_d _ (by decide) x S
@[simp] theorem blt1_sum (x : PD) (S : Sto) : bltVs .sum [.d x] S = (R.opt (bltD .sum [x]) S).bind fun z S => .ok (.d z) S := bltVs_d _ (by decide) x S
@[simp] theorem blt1_int_ (x : PD) (S : Sto) : bltVs .int_ [.d x] S = (R.opt (bltD .int_ [x]) S).bind fun z S => .ok (.d z) S := bltVs_d _ (by decide) x S
@[simp] theorem blt1_max_ (x : PD) (S : Sto) : bltVs .max_ [.d x] S = (R.opt (bltD .max_ [x]) S).bind fun z S => .ok (.d z) S := bltVs_d _ (by decide) x S
@[simp] theorem blt2_max_ (x y : PD) (S : Sto) : bltVs .max_ [.d x, .d y] S = (R.opt (bltD .max_ [x, y]) S).bind fun z S => .ok (.d z) S := Eq.trans rfl rfl
end
theorem bltVs_rd {b : Bn} (hb : b ≠ .listM) {v : VV} {x : PD} {S : Sto} (h : rd S v = some x) : bltVs b [v] S = (R.opt (bltD b [x]) S).bind fun z S => .ok (.d z) S := by
  unfold bltVs
  simp only [rds, h]
  cases b <;> first | rfl | exact absurd rfl hb
section
variable {T : Tab}
theorem ev_call {k f : Nat} {d : FD} {vs : List VV} {S : Sto} (hT : T f = some d) (hl : vs.length = d.np) : evCall T (k + 1) f vs S = finD d.retM S.length (evSs (evCall T k) (parOf T) d.body (startD d.N.length vs) S) := by
  unfold evCall
  rw [hT]
  dsimp only
  rw [if_pos hl]
end
theorem rd_at {S : Sto} {l : Nat} {ds : List PD} (h : S[l]? = some (O.lst ds)) : rd S (.loc l) = some (.list ds) := by
  simp [rd, h]
theorem set3 {S : Sto} {l : Nat} {x y z : PD} (h : S[l]? = some (O.lst [x, y, z])) (v : PD) : setItem S (.loc l) (.int 0) v = .ok () (S.set l (.lst [v, y, z])) ∧ setItem S (.loc l) (.int 2) v = .ok () (S.set l (.lst [x, y, v])) := by
  unfold setItem
  simp [h, L2.ixN]
theorem rd_sto {S : Sto} {l : Nat} {x y z : PD} (h : S[l]? = some (O.lst [x, y, z])) : rd S (.loc l) = some (.list [x, y, z]) := rd_at h
/-- how great a stirred number is -/
theorem stir_le {b c L : Int} (hL : 2 ^ 200 ≤ L) (hb : 0 ≤ b) (hb2 : b < 2 ^ 200) (hc : 0 ≤ c) (hc2 : c + 1 ≤ L) (u v w : Int) (hu : 0 ≤ u ∧ u ≤ 2 ^ 33) (hv : 0 ≤ v ∧ v ≤ 2 ^ 33) (hw : 0 ≤ w ∧ w ≤ 100) : (b * u + (c + 1) * v + w).natAbs < (L * 2 ^ 35).natAbs := by
  have h1 : b * u ≤ L * 2 ^ 33 := Int.mul_le_mul (by omega) hu.2 hu.1 (by omega)
  have h2 : (c + 1) * v ≤ L * 2 ^ 33 := Int.mul_le_mul hc2 hv.2 hv.1 (by omega)
  have h3 : 0 ≤ b * u := Int.mul_nonneg hb hu.1
  have h4 : 0 ≤ (c + 1) * v := Int.mul_nonneg (by omega) hv.1
  have e33 : (2 : Int) ^ 33 = 8589934592 := by decide +kernel
  have e35 : (2 : Int) ^ 35 = 34359738368 := by decide +kernel
  have e200 : (2 : Int) ^ 200 = 1606938044258990275541962092341162602522202993782792835301376 := by decide +kernel
  rw [e33] at h1 h2
  rw [e35]
  rw [e200] at hL
  omega
set_option exponentiation.threshold 1000
theorem lim_pow : (KB.LIM * 2 ^ 35).natAbs = 2 ^ 200035 := by
  unfold KB.LIM
  rw [Int.natAbs_mul]
  have h : ∀ n : Nat, ((2 : Int) ^ n).natAbs = 2 ^ n := fun n => by rw [Int.natAbs_pow]; rfl
  rw [h, h, ← Nat.pow_add]
theorem lim_200 : (2 : Int) ^ 200 ≤ KB.LIM := by
  unfold KB.LIM
  have h : ((2 ^ 200 : Nat) : Int) ≤ ((2 ^ 200000 : Nat) : Int) := Int.ofNat_le.mpr (Nat.pow_le_pow_right (by decide) (by decide))
  rw [Int.natCast_pow, Int.natCast_pow] at h
  exact h
theorem nat_mul_lt {x y : Int} {a b : Nat} (hx : x.natAbs < 2 ^ a) (hy : y.natAbs < 2 ^ b) : (x * y).natAbs < 2 ^ (a + b) := by
  rw [Int.natAbs_mul, Nat.pow_add]
  exact Nat.mul_lt_mul'' hx hy
theorem mod_lt200 {x m : Int} (hm : 0 < m) (hm2 : m < 2 ^ 200) : (x % m).natAbs < 2 ^ 200 := by
  have h1 := Int.emod_nonneg x (show m ≠ 0 by omega)
  have h2 := Int.emod_lt_of_pos x hm
  have e200 : (2 : Int) ^ 200 = 1606938044258990275541962092341162602522202993782792835301376 := by decide +kernel
  have e200n : (2 : Nat) ^ 200 = 1606938044258990275541962092341162602522202993782792835301376 := by decide +kernel
  rw [e200] at hm2
  rw [e200n]
  omega
set_option exponentiation.threshold 1000
theorem draw_ok {T : Tab} (hT : ∀ d, T 18 = some d → d = c_law_draw) : KB.DrawOk T 18 := by
  intro d hd k S l n m h0 hm ⟨a, b, c, e, ha, hb, hb2, hc, hcn⟩
  obtain rfl := hT d hd
  have hl : l < S.length := (List.getElem?_eq_some_iff.mp e).1
  have hm2 : m < 2 ^ 64 := by have : (2 : Int) ^ 64 = 18446744073709551616 := by decide +kernel
                              rw [this]; exact hm
  have tk : ∀ o : O, (S.set l o).take S.length = S.set l o := fun o => List.take_of_length_le (by simp)
  have gt : ∀ o : O, (S.set l o)[l]? = some o := fun o => by rw [List.getElem?_set_self hl]
  rw [ev_call hd rfl]
  simp only [c_law_draw, startD]
  simp [op2, rd_at e]
  by_cases hp : 0 < a
  · simp [hp, mod_pos h0, rd_at e, div_pos h0 hm2, set3 e, finD]
    refine ⟨_, _, ⟨rfl, rfl⟩, Int.emod_nonneg _ (by omega), Int.emod_lt_of_pos _ h0, ?_, by simp, fun j hj => ?_⟩
    · rw [tk]; exact ⟨_, _, _, gt _, Int.ediv_nonneg ha (by omega), hb, hb2, hc, by omega⟩
    · rw [tk, List.getElem?_set_ne (Ne.symm hj)]
  · have e2 := gt (.lst [.int a, .int b, .int (c + 1)])
    have mr : ∀ {x y : Int}, -(2 ^ 64) < y ∧ y < 2 ^ 64 → binD .Mult (.int x) (.int y) = some (.int (x * y)) := mul_r
    have hs := stir_le (L := KB.LIM) lim_200 hb hb2 hc (by omega) 5915587277 1500450271 11 (by omega) (by omega) (by omega)
    rw [lim_pow] at hs
    generalize hst : b * 5915587277 + (c + 1) * 1500450271 + 11 = st at hs
    have hs2 := nat_mul_lt hs hs
    have hx1 := mod_lt200 (x := st * st * st + 3267000013 * (c + 1)) (m := 10000000000000000000000000000000000000000057) (by decide) (by decide +kernel)
    generalize hx : (st * st * st + 3267000013 * (c + 1)) % 10000000000000000000000000000000000000000057 = x at hx1
    have m1 : binD .Mult (.int st) (.int st) = some (.int (st * st)) := mul_big hs hs (by decide)
    have m2 : binD .Mult (.int (st * st)) (.int st) = some (.int (st * st * st)) := mul_big hs2 hs (by decide)
    have m3 : binD .Mult (.int x) (.int x) = some (.int (x * x)) := mul_big hx1 hx1 (by decide)
    simp [hp, rd_at e, set3 e, rd_at e2, mr, mul_l, hst, m1, m2, mod_pos, hx, m3, div_pos, h0, op2, finD]
    refine ⟨_, _, ⟨rfl, rfl⟩, Int.emod_nonneg _ (by omega), Int.emod_lt_of_pos _ h0, ?_, by simp, fun j hj => ?_⟩
    · rw [tk]; exact ⟨_, _, _, gt _, ha, hb, hb2, by omega, by omega⟩
    · rw [tk, List.getElem?_set_ne (Ne.symm hj)]
theorem feed_ok {T : Tab} (hT : ∀ d, T 30 = some d → d = c_law_feed) : KB.FeedOk T 30 := by
  intro d hd k S u ns i hu h0 h1 hn
  obtain rfl := hT d hd
  rw [ev_call hd rfl]
  simp only [c_law_feed, startD]
  have hb : -(2 ^ 64) < i ∧ i < 2 ^ 64 := by
    have e : (2 : Int) ^ 64 = 18446744073709551616 := by decide +kernel
    rw [e]; omega
  have hsl : slcD (.list (ns.map .int)) none (some 3) = some (.list ((ns.take 3).map .int)) := by
    show some (PyData.list (cutD (ns.map .int) none (some ((3 : Nat) : Int)))) = _
    rw [cut_take, ← List.map_take]
  have hsum : intsD (List.take 3 (ns.map PyData.int)) = some (ns.take 3) := by rw [← List.map_take, intsD_mp]
  have hz3 : (3 : Nat) ≤ SZ := by decide
  have hlen : ∀ S', S' = S → bltVs .len [u] S' = .ok (.d (.int ns.length)) S' := fun S' q => by subst q; rw [bltVs_rd (by decide) hu]; simp
  have o1 : ∀ {β : Type} (f : PD → Option β), op1 f S u = R.opt (f (.list (ns.map .int))) S := fun f => by unfold op1; rw [hu]
  have o2 : ∀ {β : Type} (f : PD → PD → Option β) (y : PD), op2 f S u (.d y) = R.opt (f (.list (ns.map .int)) y) S := fun f y => by unfold op2; rw [hu]; rfl
  have fin : ∀ cell : Int, ∃ a b : Int, finD true S.length (.rt (.loc S.length) (S ++ [O.lst [.int (if 1000000000000000000 < cell then cell - 1000000000000000000 else 0), .int ((cell * 31 + 17 * i + 5) % 100000000000000000000000000000000000133), .int 0]])) = .ok (.loc S.length) (S ++ [.lst [.int a, .int b, .int 0]]) ∧ 0 ≤ a ∧ 0 ≤ b ∧ b < 2 ^ 200 := fun cell => by
    refine ⟨if 1000000000000000000 < cell then cell - 1000000000000000000 else 0, (cell * 31 + 17 * i + 5) % 100000000000000000000000000000000000133, ?_, ?_, Int.emod_nonneg _ (by decide), ?_⟩
    · unfold finD
      dsimp only
      rw [if_neg (Nat.lt_irrefl _), List.getElem?_append_right (Nat.le_refl _), Nat.sub_self]
      simp
    · split <;> omega
    · have h1 := Int.emod_lt_of_pos (cell * 31 + 17 * i + 5) (show (0 : Int) < 100000000000000000000000000000000000133 by decide)
      have e200 : (2 : Int) ^ 200 = 1606938044258990275541962092341162602522202993782792835301376 := by decide +kernel
      rw [e200]
      omega
  simp [mul_l, hsl, o1, hlen S rfl]
  by_cases hlt : i < ns.length
  · obtain ⟨j, rfl⟩ : ∃ j : Nat, i = j := ⟨i.toNat, by omega⟩
    have hg : (ns.map PyData.int)[j]? = some (.int ns[j]) := by
      have : j < ns.length := by omega
      simp [this]
    simp [hlt, sub_list_nat, hg, hsum, mul_l, mul_r, hz3, mod_pos, o2, hlen S rfl]
    exact fin _
  · simp [hlt, hsum, mul_l, mul_r, hz3, mod_pos, hlen S rfl]
    exact fin _
end KA
/-! KM0: how a def's promise is shown. -/
namespace KC
open PySem KB
open KA hiding rd esc op1 op2 rds newM bltV bltVs bindTg wipeD loopC loopC2 keyArgs evE evEs evXs evAnd evOr evT evTAnd evTOr evC evO evI loopF loopW setItem evS evSs startD evCall rd_d esc_d op1_d op2_d rds_nil newM_false newM_true evT_cmp SR R
/-- the defs that draw, that make feeds -/
abbrev NG : Kn := ⟨[18], [30]⟩
abbrev ev (T : Tab) (k f : Nat) (vs : List VB) : B VB := KB.evCall NG T k f vs
theorem tg {T : Tab} [h : Le TG T] {f : Nat} {d : FD} (e : TGl.lookup f = some d) : T f = some d := h.le f d e
/-- ids of defs that draw nothing, with all that they call -/
def pureB (ids : List Nat) : Bool := ids.all fun f => !(NG.draw.contains f) && match TGl.lookup f with
  | none => false
  | some d => (clSs d.body).all fun g => ids.contains g
def subT (ids : List Nat) : Tab := fun f => if f ∈ ids then TG f else none
theorem sub_d {ids : List Nat} (h : pureB ids = true) : ∀ (k f : Nat) (vs : List VB), D0 (KB.evCall NG (subT ids) k f vs) 0
  | 0, f, vs => trivial
  | k + 1, f, vs => by
    unfold KB.evCall
    cases hT : subT ids f with
    | none => trivial
    | some d =>
      dsimp only
      have hm : f ∈ ids := by
        unfold subT at hT
        split at hT
        · assumption
        · cases hT
      have h1 := List.all_eq_true.mp h f hm
      have hnd : f ∉ NG.draw := by
        obtain ⟨h2, _⟩ := Bool.and_eq_true_iff.mp h1
        simpa using h2
      rw [if_neg hnd]
      split
      · unfold feedB
        split
        · split
          · split <;> trivial
          · trivial
        · trivial
      · split
        · refine D0.bind0 ?_ fun r => ?_
          · have := dSs (par := parOf (subT ids)) (sub_d h k) d.body (KB.startD d.N.length vs)
            rwa [Nat.mul_zero] at this
          · cases r with
            | rt v =>
              cases v with
              | own ds => cases d.retM <;> trivial
              | _ => trivial
            | _ => trivial
        · trivial
theorem sub_le {ids : List Nat} {T : Tab} [Le TG T] : ∀ f d, subT ids f = some d → T f = some d := fun f d e => by
  unfold subT at e
  split at e
  · exact Le.le f d e
  · cases e
theorem sub_cl {ids : List Nat} (h : pureB ids = true) : ∀ f d, subT ids f = some d → ∀ g ∈ clSs d.body, ∃ d', subT ids g = some d' := fun f d e g hg => by
  unfold subT at e
  split at e
  · rename_i hm
    have h1 := (Bool.and_eq_true_iff.mp (List.all_eq_true.mp h f hm)).2
    have e' : TGl.lookup f = some d := e
    rw [e'] at h1
    have hgi : g ∈ ids := List.contains_iff_mem.mp (List.all_eq_true.mp h1 g hg)
    have h2 := (Bool.and_eq_true_iff.mp (List.all_eq_true.mp h g hgi)).2
    cases hl : TGl.lookup g with
    | none => rw [hl] at h2; cases h2
    | some d' => exact ⟨d', by unfold subT; rw [if_pos hgi]; exact hl⟩
  · cases e
theorem leaf_of {α : Type} {b : B α} {Q : α → Prop} {E : Ex → Prop} (d : D0 b 0) (h : OkX b Q E) : (∃ a, b = .ret a ∧ Q a) ∨ ∃ e, b = .exc e ∧ E e := by
  cases b with
  | ret a => exact .inl ⟨a, rfl, h⟩
  | exc e => exact .inr ⟨e, rfl, h⟩
  | bad => exact h.elim
  | draw m k => obtain ⟨n', e, _⟩ := d; cases e
/-- a def that draws nothing hands back just what is shown of it -/
theorem det {T : Tab} [Le TG T] (ids : List Nat) {k f : Nat} {vs : List VB} {w : VB} (h : Ok (ev T k f vs) fun v => v = w) (hp : pureB ids = true := by decide +kernel) (hf : f ∈ ids := by decide) : ev T k f vs = .ret w := by
  have hd : ∃ d, subT ids f = some d := by
    have h2 := (Bool.and_eq_true_iff.mp (List.all_eq_true.mp hp f hf)).2
    cases hl : TGl.lookup f with
    | none => rw [hl] at h2; cases h2
    | some d' => exact ⟨d', by unfold subT; rw [if_pos hf]; exact hl⟩
  have e := agree (N := NG) (T1 := subT ids) (T2 := T) sub_le (sub_cl hp) k f hd vs
  have d := sub_d hp k f vs
  rw [e] at d
  rcases leaf_of d h with ⟨a, e1, e2⟩ | ⟨_, _, q⟩
  · rw [e2] at e1; exact e1
  · exact q.elim
theorem detX {T : Tab} [Le TG T] (ids : List Nat) {k f : Nat} {vs : List VB} {x : Ex} (h : OkX (ev T k f vs) (fun _ => False) fun e => e = x) (hp : pureB ids = true := by decide +kernel) (hf : f ∈ ids := by decide) : ev T k f vs = .exc x := by
  have hd : ∃ d, subT ids f = some d := by
    have h2 := (Bool.and_eq_true_iff.mp (List.all_eq_true.mp hp f hf)).2
    cases hl : TGl.lookup f with
    | none => rw [hl] at h2; cases h2
    | some d' => exact ⟨d', by unfold subT; rw [if_pos hf]; exact hl⟩
  have e := agree (N := NG) (T1 := subT ids) (T2 := T) sub_le (sub_cl hp) k f hd vs
  have d := sub_d hp k f vs
  rw [e] at d
  rcases leaf_of d h with ⟨_, _, q⟩ | ⟨a, e1, e2⟩
  · exact q.elim
  · rw [e2] at e1; exact e1
theorem par_of {T : Tab} [Le TG T] {f : Nat} {d : FD} (e : TGl.lookup f = some d) : parOf T f = d.N.take d.np := by
  unfold parOf
  rw [tg (T := T) e]
section
variable {T : Tab} [Le TG T]
theorem draw_ev (k : Nat) {m : Int} (h : m < 18446744073709551616) : ev T (k + 1) 18 [.feed, .d (.int m)] = .draw m fun i => .ret (.d (.int i)) := draw_eq (tg rfl) (by decide) h
theorem is_integer_ev (k : Nat) (x : PD) : ev T (k + 1) 2 [.d x] = .ret (.d (.bool (isInt x))) := by
  refine eq_call (d := c_is_integer) (tg rfl) (by decide) (by decide) rfl ?_
  simp only [c_is_integer, startD]
  cases x <;> simp [isin_int, isin_bool, isTy, tyD, isInt]
theorem is_within_ev (k : Nat) (x : PD) (lo hi : Int) : ev T (k + 2) 3 [.d x, .d (.int lo), .d (.int hi)] = .ret (.d (.bool (within x lo hi))) := by
  refine eq_call (d := c_is_within) (tg rfl) (by decide) (by decide) rfl ?_
  simp only [c_is_within, startD]
  cases x <;> simp [is_integer_ev, isInt, within]
  rename_i i
  by_cases q : lo ≤ i <;> simp [q]
end
end KC
/-! KM9: from a law by values to the law by places. -/
namespace KC
open PySem KB
open KA hiding rd esc op1 op2 rds newM bltV bltVs bindTg wipeD loopC loopC2 keyArgs evE evEs evXs evAnd evOr evT evTAnd evTOr evC evO evI loopF loopW setItem evS evSs startD evCall rd_d esc_d op1_d op2_d rds_nil newM_false newM_true evT_cmp SR R
def clB (l : List (Nat × FD)) : Bool := l.all fun p => (clSs p.2.body).all fun g => (l.lookup g).isSome
def wB (x : Nat) (l : List (Nat × FD)) : Bool := l.all fun p => decide (wSs p.2.body ≤ 2 ^ x)
theorem law_of {l : List (Nat × FD)} {f k x : Nat} {ns : List Int} (hs : ∀ p ∈ l, TG p.1 = some p.2) (hc : clB l = true) (hf : (l.lookup f).isSome = true) (hw : wB x l = true) (hx : x * k ≤ 200000)
    (h : Ok (ev TG k f [.d (.list (ns.map .int))]) fun v => v = .d (.bool true)) : ∃ S, KA.evCall (tabOf l) k f [.d (.list (ns.map .int))] [] = .ok (.d (.bool true)) S := by
  have hs' : ∀ f d, tabOf l f = some d → TG f = some d := fun f d e => hs (f, d) (look_mem e)
  have hd : ∀ {g : Nat} {c : FD}, TG g = some c → ∀ d, tabOf l g = some d → d = c := fun e d e2 => Option.some.inj ((hs' _ _ e2).symm.trans e)
  refine KB.top (N := NG) (x := x) (fun g hg => ?_) (fun g hg => ?_) (fun f d e => ?_) hx ?_
  · simp at hg
    subst hg
    exact draw_ok (hd rfl)
  · simp at hg
    subst hg
    exact feed_ok (hd rfl)
  · have := List.all_eq_true.mp hw (f, d) (look_mem e)
    exact of_decide_eq_true this
  · obtain ⟨d, hd⟩ := Option.isSome_iff_exists.mp hf
    rw [agree (T2 := TG) hs' (fun f d e g hg => ?_) k f ⟨d, hd⟩]
    · exact h
    · have := List.all_eq_true.mp (List.all_eq_true.mp hc (f, d) (look_mem e)) g hg
      exact Option.isSome_iff_exists.mp this
end KC
namespace KA.K12
open PySem PySem.Spec PyProof.Rows L2
def top (i : Nat) : Stmt := PySem.Challenge.pw_keyedapart_k12_branches_and_meetings.main.body.getD i (.Pass ⟨0, 0, 0, 0⟩)
def tl : List (Nat × FD) := [(18, c_law_draw), (22, c_law_mixed), (1, c_law_same), (80, c_chain_of), (88, c_meeting), (2, c_is_integer), (3, c_is_within), (4, c_is_row), (5, c_are_within), (6, c_is_key_form), (75, c_is_bottom), (76, c_are_levels), (7, c_need_key), (11, c_is_make), (12, c_need_make), (77, c_need_levels), (78, c_need_bottom), (89, c_need_two), (90, c_meets), (83, c_law_chain), (91, c_law_meets), (20, c_law_one), (92, c_law_bottom), (93, c_law_bottom_near), (49, c_need_number), (94, c_branch), (23, c_law_every), (21, c_law_size), (86, c_law_others), (95, c_law_branches), (96, c_law_right_5), (73, c_law_levels), (19, c_law_key), (29, c_law_make), (30, c_law_feed), (97, c_law_7)]
def cs : List (Str × PD) := [((Str.ofString "MOST_CHAMBERS"), .int 5), ((Str.ofString "MOST_DEPTHS"), .int 5), ((Str.ofString "MOST_LEVEL"), .int 5)]
def bs : List Str := [(Str.ofString "ValueError"), (Str.ofString "all"), (Str.ofString "bool"), (Str.ofString "int"), (Str.ofString "isinstance"), (Str.ofString "len"), (Str.ofString "list"), (Str.ofString "max"), (Str.ofString "min"), (Str.ofString "range"), (Str.ofString "set"), (Str.ofString "str"), (Str.ofString "sum"), (Str.ofString "tuple"), (Str.ofString "zip")]
def kw : List (Nat × List Str) := [(94, [(Str.ofString "number"), (Str.ofString "bottom"), (Str.ofString "levels"), (Str.ofString "key"), (Str.ofString "make")]), (90, [(Str.ofString "other"), (Str.ofString "bottom"), (Str.ofString "levels"), (Str.ofString "key"), (Str.ofString "make")])]
def al : List (Nat × Str) := []
def xs : List Str := [(Str.ofString "KeyedError"), (Str.ofString "BadMake"), (Str.ofString "BadKey"), (Str.ofString "BadNumber"), (Str.ofString "BadLevels")]
def fr : List Str := [(Str.ofString "BadLock"), (Str.ofString "BadKeys"), (Str.ofString "BadLocks"), (Str.ofString "BadPins"), (Str.ofString "BadStock"), (Str.ofString "BadBook"), (Str.ofString "BadIndex"), (Str.ofString "BadKeying"), (Str.ofString "NoKeying"), (Str.ofString "BadDoors"), (Str.ofString "BadHolders"), (Str.ofString "BadAnswers"), (Str.ofString "BadName"), (Str.ofString "NothingToUndo"), (Str.ofString "Full"), (Str.ofString "BadCommand"), (Str.ofString "TooMany")]
abbrev dom : Dom := domOf tl cs bs kw al xs
def d18 : He.DefD := ⟨("_law_draw", none), "_law_draw", "_law_draw", defArgs (top 33), defBody (top 33), defScope (top 33), [], []⟩
def d22 : He.DefD := ⟨("_law_mixed", none), "_law_mixed", "_law_mixed", defArgs (top 35), defBody (top 35), defScope (top 35), [], []⟩
def d1 : He.DefD := ⟨("_law_same", none), "_law_same", "_law_same", defArgs (top 36), defBody (top 36), defScope (top 36), [], []⟩
def d80 : He.DefD := ⟨("chain_of", none), "chain_of", "chain_of", defArgs (top 13), defBody (top 13), defScope (top 13), [], []⟩
def d88 : He.DefD := ⟨("meeting", none), "meeting", "meeting", defArgs (top 14), defBody (top 14), defScope (top 14), [], []⟩
def d2 : He.DefD := ⟨("is_integer", none), "is_integer", "is_integer", defArgs (top 7), defBody (top 7), defScope (top 7), [], []⟩
def d3 : He.DefD := ⟨("is_within", none), "is_within", "is_within", defArgs (top 8), defBody (top 8), defScope (top 8), [], []⟩
def d4 : He.DefD := ⟨("is_row", none), "is_row", "is_row", defArgs (top 9), defBody (top 9), defScope (top 9), [], []⟩
def d5 : He.DefD := ⟨("are_within", none), "are_within", "are_within", defArgs (top 10), defBody (top 10), defScope (top 10), [], []⟩
def d6 : He.DefD := ⟨("is_key_form", none), "is_key_form", "is_key_form", defArgs (top 20), defBody (top 20), defScope (top 20), [], []⟩
def d75 : He.DefD := ⟨("is_bottom", none), "is_bottom", "is_bottom", defArgs (top 26), defBody (top 26), defScope (top 26), [], []⟩
def d76 : He.DefD := ⟨("are_levels", none), "are_levels", "are_levels", defArgs (top 24), defBody (top 24), defScope (top 24), [], []⟩
def d7 : He.DefD := ⟨("need_key", none), "need_key", "need_key", defArgs (top 21), defBody (top 21), defScope (top 21), [], []⟩
def d11 : He.DefD := ⟨("is_make", none), "is_make", "is_make", defArgs (top 18), defBody (top 18), defScope (top 18), [], []⟩
def d12 : He.DefD := ⟨("need_make", none), "need_make", "need_make", defArgs (top 19), defBody (top 19), defScope (top 19), [], []⟩
def d77 : He.DefD := ⟨("need_levels", none), "need_levels", "need_levels", defArgs (top 25), defBody (top 25), defScope (top 25), [], []⟩
def d78 : He.DefD := ⟨("need_bottom", none), "need_bottom", "need_bottom", defArgs (top 27), defBody (top 27), defScope (top 27), [], []⟩
def d89 : He.DefD := ⟨("need_two", none), "need_two", "need_two", defArgs (top 29), defBody (top 29), defScope (top 29), [], []⟩
def d90 : He.DefD := ⟨("meets", none), "meets", "meets", defArgs (top 30), defBody (top 30), defScope (top 30), [], []⟩
def d83 : He.DefD := ⟨("_law_chain", none), "_law_chain", "_law_chain", defArgs (top 45), defBody (top 45), defScope (top 45), [], []⟩
def d91 : He.DefD := ⟨("_law_meets", none), "_law_meets", "_law_meets", defArgs (top 47), defBody (top 47), defScope (top 47), [], []⟩
def d20 : He.DefD := ⟨("_law_one", none), "_law_one", "_law_one", defArgs (top 34), defBody (top 34), defScope (top 34), [], []⟩
def d92 : He.DefD := ⟨("_law_bottom", none), "_law_bottom", "_law_bottom", defArgs (top 42), defBody (top 42), defScope (top 42), [], []⟩
def d93 : He.DefD := ⟨("_law_bottom_near", none), "_law_bottom_near", "_law_bottom_near", defArgs (top 43), defBody (top 43), defScope (top 43), [], []⟩
def d49 : He.DefD := ⟨("need_number", none), "need_number", "need_number", defArgs (top 11), defBody (top 11), defScope (top 11), [], []⟩
def d94 : He.DefD := ⟨("branch", none), "branch", "branch", defArgs (top 28), defBody (top 28), defScope (top 28), [], []⟩
def d23 : He.DefD := ⟨("_law_every", none), "_law_every", "_law_every", defArgs (top 39), defBody (top 39), defScope (top 39), [], []⟩
def d21 : He.DefD := ⟨("_law_size", none), "_law_size", "_law_size", defArgs (top 40), defBody (top 40), defScope (top 40), [], []⟩
def d86 : He.DefD := ⟨("_law_others", none), "_law_others", "_law_others", defArgs (top 44), defBody (top 44), defScope (top 44), [], []⟩
def d95 : He.DefD := ⟨("_law_branches", none), "_law_branches", "_law_branches", defArgs (top 46), defBody (top 46), defScope (top 46), [], []⟩
def d96 : He.DefD := ⟨("_law_right", none), "_law_right", "_law_right", defArgs (top 48), defBody (top 48), defScope (top 48), [], []⟩
def d73 : He.DefD := ⟨("_law_levels", none), "_law_levels", "_law_levels", defArgs (top 41), defBody (top 41), defScope (top 41), [], []⟩
def d19 : He.DefD := ⟨("_law_key", none), "_law_key", "_law_key", defArgs (top 38), defBody (top 38), defScope (top 38), [], []⟩
def d29 : He.DefD := ⟨("_law_make", none), "_law_make", "_law_make", defArgs (top 37), defBody (top 37), defScope (top 37), [], []⟩
def d30 : He.DefD := ⟨("_law_feed", none), "_law_feed", "_law_feed", defArgs (top 32), defBody (top 32), defScope (top 32), [], []⟩
def d97 : He.DefD := ⟨("law", none), "law", "law", defArgs (top 49), defBody (top 49), defScope (top 49), [], []⟩
def fn : List He.DefD := [d18, d22, d1, d80, d88, d2, d3, d4, d5, d6, d75, d76, d7, d11, d12, d77, d78, d89, d90, d83, d91, d20, d92, d93, d49, d94, d23, d21, d86, d95, d96, d73, d19, d29, d30, d97]
def fa : List He.Fa := [.glo "_law_draw", .glo "_law_mixed", .glo "_law_same", .glo "chain_of", .glo "meeting", .glo "is_integer", .glo "is_within", .glo "is_row", .glo "are_within", .glo "is_key_form", .glo "is_bottom", .glo "are_levels", .glo "need_key", .glo "is_make", .glo "need_make", .glo "need_levels", .glo "need_bottom", .glo "need_two", .glo "meets", .glo "_law_chain", .glo "_law_meets", .glo "_law_one", .glo "_law_bottom", .glo "_law_bottom_near", .glo "need_number", .glo "branch", .glo "_law_every", .glo "_law_size", .glo "_law_others", .glo "_law_branches", .glo "_law_right", .glo "_law_levels", .glo "_law_key", .glo "_law_make", .glo "_law_feed", .glo "law", .free "ValueError", .free "all", .free "bool", .free "int", .free "isinstance", .free "len", .free "list", .free "max", .free "min", .free "range", .free "set", .free "str", .free "sum", .free "tuple", .free "zip", .int "MOST_CHAMBERS" 5, .int "MOST_DEPTHS" 5, .int "MOST_LEVEL" 5, .glo "KeyedError", .glo "BadMake", .glo "BadKey", .glo "BadNumber", .glo "BadLevels", .free "BadLock", .free "BadKeys", .free "BadLocks", .free "BadPins", .free "BadStock", .free "BadBook", .free "BadIndex", .free "BadKeying", .free "NoKeying", .free "BadDoors", .free "BadHolders", .free "BadAnswers", .free "BadName", .free "NothingToUndo", .free "Full", .free "BadCommand", .free "TooMany"]
set_option maxHeartbeats 0
theorem chk18 : chkSs dom ⟨c_law_draw.N, defScope (top 33), fun _ => true⟩ c_law_draw.body (defBody (top 33)) = true := by kernel_rfl
theorem sc18 : FnScope c_law_draw.N (c_law_draw.N.take c_law_draw.np) (defScope (top 33)) := ⟨rfl, rfl, rfl, by decide +kernel, rfl, by decide +kernel, by decide +kernel⟩
theorem chk22 : chkSs dom ⟨c_law_mixed.N, defScope (top 35), fun _ => true⟩ c_law_mixed.body (defBody (top 35)) = true := by kernel_rfl
theorem sc22 : FnScope c_law_mixed.N (c_law_mixed.N.take c_law_mixed.np) (defScope (top 35)) := ⟨rfl, rfl, rfl, by decide +kernel, rfl, by decide +kernel, by decide +kernel⟩
theorem chk1 : chkSs dom ⟨c_law_same.N, defScope (top 36), fun _ => true⟩ c_law_same.body (defBody (top 36)) = true := by kernel_rfl
theorem sc1 : FnScope c_law_same.N (c_law_same.N.take c_law_same.np) (defScope (top 36)) := ⟨rfl, rfl, rfl, by decide +kernel, rfl, by decide +kernel, by decide +kernel⟩
theorem chk80 : chkSs dom ⟨c_chain_of.N, defScope (top 13), fun _ => true⟩ c_chain_of.body (defBody (top 13)) = true := by kernel_rfl
theorem sc80 : FnScope c_chain_of.N (c_chain_of.N.take c_chain_of.np) (defScope (top 13)) := ⟨rfl, rfl, rfl, by decide +kernel, rfl, by decide +kernel, by decide +kernel⟩
theorem chk88 : chkSs dom ⟨c_meeting.N, defScope (top 14), fun _ => true⟩ c_meeting.body (defBody (top 14)) = true := by kernel_rfl
theorem sc88 : FnScope c_meeting.N (c_meeting.N.take c_meeting.np) (defScope (top 14)) := ⟨rfl, rfl, rfl, by decide +kernel, rfl, by decide +kernel, by decide +kernel⟩
theorem chk2 : chkSs dom ⟨c_is_integer.N, defScope (top 7), fun _ => true⟩ c_is_integer.body (defBody (top 7)) = true := by kernel_rfl
theorem sc2 : FnScope c_is_integer.N (c_is_integer.N.take c_is_integer.np) (defScope (top 7)) := ⟨rfl, rfl, rfl, by decide +kernel, rfl, by decide +kernel, by decide +kernel⟩
theorem chk3 : chkSs dom ⟨c_is_within.N, defScope (top 8), fun _ => true⟩ c_is_within.body (defBody (top 8)) = true := by kernel_rfl
theorem sc3 : FnScope c_is_within.N (c_is_within.N.take c_is_within.np) (defScope (top 8)) := ⟨rfl, rfl, rfl, by decide +kernel, rfl, by decide +kernel, by decide +kernel⟩
theorem chk4 : chkSs dom ⟨c_is_row.N, defScope (top 9), fun _ => true⟩ c_is_row.body (defBody (top 9)) = true := by kernel_rfl
theorem sc4 : FnScope c_is_row.N (c_is_row.N.take c_is_row.np) (defScope (top 9)) := ⟨rfl, rfl, rfl, by decide +kernel, rfl, by decide +kernel, by decide +kernel⟩
theorem chk5 : chkSs dom ⟨c_are_within.N, defScope (top 10), fun _ => true⟩ c_are_within.body (defBody (top 10)) = true := by kernel_rfl
theorem sc5 : FnScope c_are_within.N (c_are_within.N.take c_are_within.np) (defScope (top 10)) := ⟨rfl, rfl, rfl, by decide +kernel, rfl, by decide +kernel, by decide +kernel⟩
theorem chk6 : chkSs dom ⟨c_is_key_form.N, defScope (top 20), fun _ => true⟩ c_is_key_form.body (defBody (top 20)) = true := by kernel_rfl
theorem sc6 : FnScope c_is_key_form.N (c_is_key_form.N.take c_is_key_form.np) (defScope (top 20)) := ⟨rfl, rfl, rfl, by decide +kernel, rfl, by decide +kernel, by decide +kernel⟩
theorem chk75 : chkSs dom ⟨c_is_bottom.N, defScope (top 26), fun _ => true⟩ c_is_bottom.body (defBody (top 26)) = true := by kernel_rfl
theorem sc75 : FnScope c_is_bottom.N (c_is_bottom.N.take c_is_bottom.np) (defScope (top 26)) := ⟨rfl, rfl, rfl, by decide +kernel, rfl, by decide +kernel, by decide +kernel⟩
theorem chk76 : chkSs dom ⟨c_are_levels.N, defScope (top 24), fun _ => true⟩ c_are_levels.body (defBody (top 24)) = true := by kernel_rfl
theorem sc76 : FnScope c_are_levels.N (c_are_levels.N.take c_are_levels.np) (defScope (top 24)) := ⟨rfl, rfl, rfl, by decide +kernel, rfl, by decide +kernel, by decide +kernel⟩
theorem chk7 : chkSs dom ⟨c_need_key.N, defScope (top 21), fun _ => true⟩ c_need_key.body (defBody (top 21)) = true := by kernel_rfl
theorem sc7 : FnScope c_need_key.N (c_need_key.N.take c_need_key.np) (defScope (top 21)) := ⟨rfl, rfl, rfl, by decide +kernel, rfl, by decide +kernel, by decide +kernel⟩
theorem chk11 : chkSs dom ⟨c_is_make.N, defScope (top 18), fun _ => true⟩ c_is_make.body (defBody (top 18)) = true := by kernel_rfl
theorem sc11 : FnScope c_is_make.N (c_is_make.N.take c_is_make.np) (defScope (top 18)) := ⟨rfl, rfl, rfl, by decide +kernel, rfl, by decide +kernel, by decide +kernel⟩
theorem chk12 : chkSs dom ⟨c_need_make.N, defScope (top 19), fun _ => true⟩ c_need_make.body (defBody (top 19)) = true := by kernel_rfl
theorem sc12 : FnScope c_need_make.N (c_need_make.N.take c_need_make.np) (defScope (top 19)) := ⟨rfl, rfl, rfl, by decide +kernel, rfl, by decide +kernel, by decide +kernel⟩
theorem chk77 : chkSs dom ⟨c_need_levels.N, defScope (top 25), fun _ => true⟩ c_need_levels.body (defBody (top 25)) = true := by kernel_rfl
theorem sc77 : FnScope c_need_levels.N (c_need_levels.N.take c_need_levels.np) (defScope (top 25)) := ⟨rfl, rfl, rfl, by decide +kernel, rfl, by decide +kernel, by decide +kernel⟩
theorem chk78 : chkSs dom ⟨c_need_bottom.N, defScope (top 27), fun _ => true⟩ c_need_bottom.body (defBody (top 27)) = true := by kernel_rfl
theorem sc78 : FnScope c_need_bottom.N (c_need_bottom.N.take c_need_bottom.np) (defScope (top 27)) := ⟨rfl, rfl, rfl, by decide +kernel, rfl, by decide +kernel, by decide +kernel⟩
theorem chk89 : chkSs dom ⟨c_need_two.N, defScope (top 29), fun _ => true⟩ c_need_two.body (defBody (top 29)) = true := by kernel_rfl
theorem sc89 : FnScope c_need_two.N (c_need_two.N.take c_need_two.np) (defScope (top 29)) := ⟨rfl, rfl, rfl, by decide +kernel, rfl, by decide +kernel, by decide +kernel⟩
theorem chk90 : chkSs dom ⟨c_meets.N, defScope (top 30), fun _ => true⟩ c_meets.body (defBody (top 30)) = true := by kernel_rfl
theorem sc90 : FnScope c_meets.N (c_meets.N.take c_meets.np) (defScope (top 30)) := ⟨rfl, rfl, rfl, by decide +kernel, rfl, by decide +kernel, by decide +kernel⟩
theorem chk83 : chkSs dom ⟨c_law_chain.N, defScope (top 45), fun _ => true⟩ c_law_chain.body (defBody (top 45)) = true := by kernel_rfl
theorem sc83 : FnScope c_law_chain.N (c_law_chain.N.take c_law_chain.np) (defScope (top 45)) := ⟨rfl, rfl, rfl, by decide +kernel, rfl, by decide +kernel, by decide +kernel⟩
theorem chk91 : chkSs dom ⟨c_law_meets.N, defScope (top 47), fun _ => true⟩ c_law_meets.body (defBody (top 47)) = true := by kernel_rfl
theorem sc91 : FnScope c_law_meets.N (c_law_meets.N.take c_law_meets.np) (defScope (top 47)) := ⟨rfl, rfl, rfl, by decide +kernel, rfl, by decide +kernel, by decide +kernel⟩
theorem chk20 : chkSs dom ⟨c_law_one.N, defScope (top 34), fun _ => true⟩ c_law_one.body (defBody (top 34)) = true := by kernel_rfl
theorem sc20 : FnScope c_law_one.N (c_law_one.N.take c_law_one.np) (defScope (top 34)) := ⟨rfl, rfl, rfl, by decide +kernel, rfl, by decide +kernel, by decide +kernel⟩
theorem chk92 : chkSs dom ⟨c_law_bottom.N, defScope (top 42), fun _ => true⟩ c_law_bottom.body (defBody (top 42)) = true := by kernel_rfl
theorem sc92 : FnScope c_law_bottom.N (c_law_bottom.N.take c_law_bottom.np) (defScope (top 42)) := ⟨rfl, rfl, rfl, by decide +kernel, rfl, by decide +kernel, by decide +kernel⟩
theorem chk93 : chkSs dom ⟨c_law_bottom_near.N, defScope (top 43), fun _ => true⟩ c_law_bottom_near.body (defBody (top 43)) = true := by kernel_rfl
theorem sc93 : FnScope c_law_bottom_near.N (c_law_bottom_near.N.take c_law_bottom_near.np) (defScope (top 43)) := ⟨rfl, rfl, rfl, by decide +kernel, rfl, by decide +kernel, by decide +kernel⟩
theorem chk49 : chkSs dom ⟨c_need_number.N, defScope (top 11), fun _ => true⟩ c_need_number.body (defBody (top 11)) = true := by kernel_rfl
theorem sc49 : FnScope c_need_number.N (c_need_number.N.take c_need_number.np) (defScope (top 11)) := ⟨rfl, rfl, rfl, by decide +kernel, rfl, by decide +kernel, by decide +kernel⟩
theorem chk94 : chkSs dom ⟨c_branch.N, defScope (top 28), fun _ => true⟩ c_branch.body (defBody (top 28)) = true := by kernel_rfl
theorem sc94 : FnScope c_branch.N (c_branch.N.take c_branch.np) (defScope (top 28)) := ⟨rfl, rfl, rfl, by decide +kernel, rfl, by decide +kernel, by decide +kernel⟩
theorem chk23 : chkSs dom ⟨c_law_every.N, defScope (top 39), fun _ => true⟩ c_law_every.body (defBody (top 39)) = true := by kernel_rfl
theorem sc23 : FnScope c_law_every.N (c_law_every.N.take c_law_every.np) (defScope (top 39)) := ⟨rfl, rfl, rfl, by decide +kernel, rfl, by decide +kernel, by decide +kernel⟩
theorem chk21 : chkSs dom ⟨c_law_size.N, defScope (top 40), fun _ => true⟩ c_law_size.body (defBody (top 40)) = true := by kernel_rfl
theorem sc21 : FnScope c_law_size.N (c_law_size.N.take c_law_size.np) (defScope (top 40)) := ⟨rfl, rfl, rfl, by decide +kernel, rfl, by decide +kernel, by decide +kernel⟩
theorem chk86 : chkSs dom ⟨c_law_others.N, defScope (top 44), fun _ => true⟩ c_law_others.body (defBody (top 44)) = true := by kernel_rfl
theorem sc86 : FnScope c_law_others.N (c_law_others.N.take c_law_others.np) (defScope (top 44)) := ⟨rfl, rfl, rfl, by decide +kernel, rfl, by decide +kernel, by decide +kernel⟩
theorem chk95 : chkSs dom ⟨c_law_branches.N, defScope (top 46), fun _ => true⟩ c_law_branches.body (defBody (top 46)) = true := by kernel_rfl
theorem sc95 : FnScope c_law_branches.N (c_law_branches.N.take c_law_branches.np) (defScope (top 46)) := ⟨rfl, rfl, rfl, by decide +kernel, rfl, by decide +kernel, by decide +kernel⟩
theorem chk96 : chkSs dom ⟨c_law_right_5.N, defScope (top 48), fun _ => true⟩ c_law_right_5.body (defBody (top 48)) = true := by kernel_rfl
theorem sc96 : FnScope c_law_right_5.N (c_law_right_5.N.take c_law_right_5.np) (defScope (top 48)) := ⟨rfl, rfl, rfl, by decide +kernel, rfl, by decide +kernel, by decide +kernel⟩
theorem chk73 : chkSs dom ⟨c_law_levels.N, defScope (top 41), fun _ => true⟩ c_law_levels.body (defBody (top 41)) = true := by kernel_rfl
theorem sc73 : FnScope c_law_levels.N (c_law_levels.N.take c_law_levels.np) (defScope (top 41)) := ⟨rfl, rfl, rfl, by decide +kernel, rfl, by decide +kernel, by decide +kernel⟩
theorem chk19 : chkSs dom ⟨c_law_key.N, defScope (top 38), fun _ => true⟩ c_law_key.body (defBody (top 38)) = true := by kernel_rfl
theorem sc19 : FnScope c_law_key.N (c_law_key.N.take c_law_key.np) (defScope (top 38)) := ⟨rfl, rfl, rfl, by decide +kernel, rfl, by decide +kernel, by decide +kernel⟩
theorem chk29 : chkSs dom ⟨c_law_make.N, defScope (top 37), fun _ => true⟩ c_law_make.body (defBody (top 37)) = true := by kernel_rfl
theorem sc29 : FnScope c_law_make.N (c_law_make.N.take c_law_make.np) (defScope (top 37)) := ⟨rfl, rfl, rfl, by decide +kernel, rfl, by decide +kernel, by decide +kernel⟩
theorem chk30 : chkSs dom ⟨c_law_feed.N, defScope (top 32), fun _ => true⟩ c_law_feed.body (defBody (top 32)) = true := by kernel_rfl
theorem sc30 : FnScope c_law_feed.N (c_law_feed.N.take c_law_feed.np) (defScope (top 32)) := ⟨rfl, rfl, rfl, by decide +kernel, rfl, by decide +kernel, by decide +kernel⟩
theorem chk97 : chkSs dom ⟨c_law_7.N, defScope (top 49), fun _ => true⟩ c_law_7.body (defBody (top 49)) = true := by kernel_rfl
theorem sc97 : FnScope c_law_7.N (c_law_7.N.take c_law_7.np) (defScope (top 49)) := ⟨rfl, rfl, rfl, by decide +kernel, rfl, by decide +kernel, by decide +kernel⟩
section
variable {K : PySem.W.Frag} {h : Heap} {mg : Str → Option Value}
theorem ok18 (X : K.In h) (G : h.Ns mainGlobals mg) (c : He.SaysD fa fn K) : DfOk dom K mg 18 c_law_draw := by
  obtain ⟨fd, F⟩ := c.def_ 0 (d := d18) rfl
  exact ⟨by decide, _, _, _, _, _, fd, _, He.glo_ok X G (c.fact 0 (f := .glo "_law_draw") rfl), F, sc18, chk18, F.bindsN (fun _ _ _ _ _ _ us hl => match us, hl with | [_, _], _ => rfl), kw_all (kf := []) (by decide +kernel) all0⟩
theorem ok22 (X : K.In h) (G : h.Ns mainGlobals mg) (c : He.SaysD fa fn K) : DfOk dom K mg 22 c_law_mixed := by
  obtain ⟨fd, F⟩ := c.def_ 1 (d := d22) rfl
  exact ⟨by decide, _, _, _, _, _, fd, _, He.glo_ok X G (c.fact 1 (f := .glo "_law_mixed") rfl), F, sc22, chk22, F.bindsN (fun _ _ _ _ _ _ us hl => match us, hl with | [_, _], _ => rfl), kw_all (kf := []) (by decide +kernel) all0⟩
theorem ok1 (X : K.In h) (G : h.Ns mainGlobals mg) (c : He.SaysD fa fn K) : DfOk dom K mg 1 c_law_same := by
  obtain ⟨fd, F⟩ := c.def_ 2 (d := d1) rfl
  exact ⟨by decide, _, _, _, _, _, fd, _, He.glo_ok X G (c.fact 2 (f := .glo "_law_same") rfl), F, sc1, chk1, F.bindsN (fun _ _ _ _ _ _ us hl => match us, hl with | [_, _], _ => rfl), kw_all (kf := []) (by decide +kernel) all0⟩
theorem ok80 (X : K.In h) (G : h.Ns mainGlobals mg) (c : He.SaysD fa fn K) : DfOk dom K mg 80 c_chain_of := by
  obtain ⟨fd, F⟩ := c.def_ 3 (d := d80) rfl
  exact ⟨by decide, _, _, _, _, _, fd, _, He.glo_ok X G (c.fact 3 (f := .glo "chain_of") rfl), F, sc80, chk80, F.bindsN (fun _ _ _ _ _ _ us hl => match us, hl with | [_, _, _], _ => rfl), kw_all (kf := []) (by decide +kernel) all0⟩
theorem ok88 (X : K.In h) (G : h.Ns mainGlobals mg) (c : He.SaysD fa fn K) : DfOk dom K mg 88 c_meeting := by
  obtain ⟨fd, F⟩ := c.def_ 4 (d := d88) rfl
  exact ⟨by decide, _, _, _, _, _, fd, _, He.glo_ok X G (c.fact 4 (f := .glo "meeting") rfl), F, sc88, chk88, F.bindsN (fun _ _ _ _ _ _ us hl => match us, hl with | [_, _, _, _], _ => rfl), kw_all (kf := []) (by decide +kernel) all0⟩
theorem ok2 (X : K.In h) (G : h.Ns mainGlobals mg) (c : He.SaysD fa fn K) : DfOk dom K mg 2 c_is_integer := by
  obtain ⟨fd, F⟩ := c.def_ 5 (d := d2) rfl
  exact ⟨by decide, _, _, _, _, _, fd, _, He.glo_ok X G (c.fact 5 (f := .glo "is_integer") rfl), F, sc2, chk2, F.bindsN (fun _ _ _ _ _ _ us hl => match us, hl with | [_], _ => rfl), kw_all (kf := []) (by decide +kernel) all0⟩
theorem ok3 (X : K.In h) (G : h.Ns mainGlobals mg) (c : He.SaysD fa fn K) : DfOk dom K mg 3 c_is_within := by
  obtain ⟨fd, F⟩ := c.def_ 6 (d := d3) rfl
  exact ⟨by decide, _, _, _, _, _, fd, _, He.glo_ok X G (c.fact 6 (f := .glo "is_within") rfl), F, sc3, chk3, F.bindsN (fun _ _ _ _ _ _ us hl => match us, hl with | [_, _, _], _ => rfl), kw_all (kf := []) (by decide +kernel) all0⟩
theorem ok4 (X : K.In h) (G : h.Ns mainGlobals mg) (c : He.SaysD fa fn K) : DfOk dom K mg 4 c_is_row := by
  obtain ⟨fd, F⟩ := c.def_ 7 (d := d4) rfl
  exact ⟨by decide, _, _, _, _, _, fd, _, He.glo_ok X G (c.fact 7 (f := .glo "is_row") rfl), F, sc4, chk4, F.bindsN (fun _ _ _ _ _ _ us hl => match us, hl with | [_, _, _], _ => rfl), kw_all (kf := []) (by decide +kernel) all0⟩
theorem ok5 (X : K.In h) (G : h.Ns mainGlobals mg) (c : He.SaysD fa fn K) : DfOk dom K mg 5 c_are_within := by
  obtain ⟨fd, F⟩ := c.def_ 8 (d := d5) rfl
  exact ⟨by decide, _, _, _, _, _, fd, _, He.glo_ok X G (c.fact 8 (f := .glo "are_within") rfl), F, sc5, chk5, F.bindsN (fun _ _ _ _ _ _ us hl => match us, hl with | [_, _, _, _], _ => rfl), kw_all (kf := []) (by decide +kernel) all0⟩
theorem ok6 (X : K.In h) (G : h.Ns mainGlobals mg) (c : He.SaysD fa fn K) : DfOk dom K mg 6 c_is_key_form := by
  obtain ⟨fd, F⟩ := c.def_ 9 (d := d6) rfl
  exact ⟨by decide, _, _, _, _, _, fd, _, He.glo_ok X G (c.fact 9 (f := .glo "is_key_form") rfl), F, sc6, chk6, F.bindsN (fun _ _ _ _ _ _ us hl => match us, hl with | [_, _], _ => rfl), kw_all (kf := []) (by decide +kernel) all0⟩
theorem ok75 (X : K.In h) (G : h.Ns mainGlobals mg) (c : He.SaysD fa fn K) : DfOk dom K mg 75 c_is_bottom := by
  obtain ⟨fd, F⟩ := c.def_ 10 (d := d75) rfl
  exact ⟨by decide, _, _, _, _, _, fd, _, He.glo_ok X G (c.fact 10 (f := .glo "is_bottom") rfl), F, sc75, chk75, F.bindsN (fun _ _ _ _ _ _ us hl => match us, hl with | [_, _, _], _ => rfl), kw_all (kf := []) (by decide +kernel) all0⟩
theorem ok76 (X : K.In h) (G : h.Ns mainGlobals mg) (c : He.SaysD fa fn K) : DfOk dom K mg 76 c_are_levels := by
  obtain ⟨fd, F⟩ := c.def_ 11 (d := d76) rfl
  exact ⟨by decide, _, _, _, _, _, fd, _, He.glo_ok X G (c.fact 11 (f := .glo "are_levels") rfl), F, sc76, chk76, F.bindsN (fun _ _ _ _ _ _ us hl => match us, hl with | [_, _], _ => rfl), kw_all (kf := []) (by decide +kernel) all0⟩
theorem ok7 (X : K.In h) (G : h.Ns mainGlobals mg) (c : He.SaysD fa fn K) : DfOk dom K mg 7 c_need_key := by
  obtain ⟨fd, F⟩ := c.def_ 12 (d := d7) rfl
  exact ⟨by decide, _, _, _, _, _, fd, _, He.glo_ok X G (c.fact 12 (f := .glo "need_key") rfl), F, sc7, chk7, F.bindsN (fun _ _ _ _ _ _ us hl => match us, hl with | [_, _], _ => rfl), kw_all (kf := []) (by decide +kernel) all0⟩
theorem ok11 (X : K.In h) (G : h.Ns mainGlobals mg) (c : He.SaysD fa fn K) : DfOk dom K mg 11 c_is_make := by
  obtain ⟨fd, F⟩ := c.def_ 13 (d := d11) rfl
  exact ⟨by decide, _, _, _, _, _, fd, _, He.glo_ok X G (c.fact 13 (f := .glo "is_make") rfl), F, sc11, chk11, F.bindsN (fun _ _ _ _ _ _ us hl => match us, hl with | [_], _ => rfl), kw_all (kf := []) (by decide +kernel) all0⟩
theorem ok12 (X : K.In h) (G : h.Ns mainGlobals mg) (c : He.SaysD fa fn K) : DfOk dom K mg 12 c_need_make := by
  obtain ⟨fd, F⟩ := c.def_ 14 (d := d12) rfl
  exact ⟨by decide, _, _, _, _, _, fd, _, He.glo_ok X G (c.fact 14 (f := .glo "need_make") rfl), F, sc12, chk12, F.bindsN (fun _ _ _ _ _ _ us hl => match us, hl with | [_], _ => rfl), kw_all (kf := []) (by decide +kernel) all0⟩
theorem ok77 (X : K.In h) (G : h.Ns mainGlobals mg) (c : He.SaysD fa fn K) : DfOk dom K mg 77 c_need_levels := by
  obtain ⟨fd, F⟩ := c.def_ 15 (d := d77) rfl
  exact ⟨by decide, _, _, _, _, _, fd, _, He.glo_ok X G (c.fact 15 (f := .glo "need_levels") rfl), F, sc77, chk77, F.bindsN (fun _ _ _ _ _ _ us hl => match us, hl with | [_, _, _], _ => rfl), kw_all (kf := []) (by decide +kernel) all0⟩
theorem ok78 (X : K.In h) (G : h.Ns mainGlobals mg) (c : He.SaysD fa fn K) : DfOk dom K mg 78 c_need_bottom := by
  obtain ⟨fd, F⟩ := c.def_ 16 (d := d78) rfl
  exact ⟨by decide, _, _, _, _, _, fd, _, He.glo_ok X G (c.fact 16 (f := .glo "need_bottom") rfl), F, sc78, chk78, F.bindsN (fun _ _ _ _ _ _ us hl => match us, hl with | [_, _, _, _], _ => rfl), kw_all (kf := []) (by decide +kernel) all0⟩
theorem ok89 (X : K.In h) (G : h.Ns mainGlobals mg) (c : He.SaysD fa fn K) : DfOk dom K mg 89 c_need_two := by
  obtain ⟨fd, F⟩ := c.def_ 17 (d := d89) rfl
  exact ⟨by decide, _, _, _, _, _, fd, _, He.glo_ok X G (c.fact 17 (f := .glo "need_two") rfl), F, sc89, chk89, F.bindsN (fun _ _ _ _ _ _ us hl => match us, hl with | [_, _, _, _, _], _ => rfl), kw_all (kf := []) (by decide +kernel) all0⟩
theorem ok90 (X : K.In h) (G : h.Ns mainGlobals mg) (c : He.SaysD fa fn K) : DfOk dom K mg 90 c_meets := by
  obtain ⟨fd, F⟩ := c.def_ 18 (d := d90) rfl
  exact ⟨by decide, _, _, _, _, _, fd, _, He.glo_ok X G (c.fact 18 (f := .glo "meets") rfl), F, sc90, chk90, F.bindsN (fun _ _ _ _ _ _ us hl => match us, hl with | [_, _, _, _, _], _ => rfl), kw_all (kf := [[(Str.ofString "other"), (Str.ofString "bottom"), (Str.ofString "levels"), (Str.ofString "key"), (Str.ofString "make")]]) (by decide +kernel) (allc (kwB_of F (by decide +kernel) fun _ _ _ _ _ _ ws hl => match ws, hl with | [_, _, _, _, _], _ => rfl) all0)⟩
theorem ok83 (X : K.In h) (G : h.Ns mainGlobals mg) (c : He.SaysD fa fn K) : DfOk dom K mg 83 c_law_chain := by
  obtain ⟨fd, F⟩ := c.def_ 19 (d := d83) rfl
  exact ⟨by decide, _, _, _, _, _, fd, _, He.glo_ok X G (c.fact 19 (f := .glo "_law_chain") rfl), F, sc83, chk83, F.bindsN (fun _ _ _ _ _ _ us hl => match us, hl with | [_, _, _], _ => rfl), kw_all (kf := []) (by decide +kernel) all0⟩
theorem ok91 (X : K.In h) (G : h.Ns mainGlobals mg) (c : He.SaysD fa fn K) : DfOk dom K mg 91 c_law_meets := by
  obtain ⟨fd, F⟩ := c.def_ 20 (d := d91) rfl
  exact ⟨by decide, _, _, _, _, _, fd, _, He.glo_ok X G (c.fact 20 (f := .glo "_law_meets") rfl), F, sc91, chk91, F.bindsN (fun _ _ _ _ _ _ us hl => match us, hl with | [_, _, _, _], _ => rfl), kw_all (kf := []) (by decide +kernel) all0⟩
theorem ok20 (X : K.In h) (G : h.Ns mainGlobals mg) (c : He.SaysD fa fn K) : DfOk dom K mg 20 c_law_one := by
  obtain ⟨fd, F⟩ := c.def_ 21 (d := d20) rfl
  exact ⟨by decide, _, _, _, _, _, fd, _, He.glo_ok X G (c.fact 21 (f := .glo "_law_one") rfl), F, sc20, chk20, F.bindsN (fun _ _ _ _ _ _ us hl => match us, hl with | [_, _], _ => rfl), kw_all (kf := []) (by decide +kernel) all0⟩
theorem ok92 (X : K.In h) (G : h.Ns mainGlobals mg) (c : He.SaysD fa fn K) : DfOk dom K mg 92 c_law_bottom := by
  obtain ⟨fd, F⟩ := c.def_ 22 (d := d92) rfl
  exact ⟨by decide, _, _, _, _, _, fd, _, He.glo_ok X G (c.fact 22 (f := .glo "_law_bottom") rfl), F, sc92, chk92, F.bindsN (fun _ _ _ _ _ _ us hl => match us, hl with | [_, _, _], _ => rfl), kw_all (kf := []) (by decide +kernel) all0⟩
theorem ok93 (X : K.In h) (G : h.Ns mainGlobals mg) (c : He.SaysD fa fn K) : DfOk dom K mg 93 c_law_bottom_near := by
  obtain ⟨fd, F⟩ := c.def_ 23 (d := d93) rfl
  exact ⟨by decide, _, _, _, _, _, fd, _, He.glo_ok X G (c.fact 23 (f := .glo "_law_bottom_near") rfl), F, sc93, chk93, F.bindsN (fun _ _ _ _ _ _ us hl => match us, hl with | [_, _, _, _], _ => rfl), kw_all (kf := []) (by decide +kernel) all0⟩
theorem ok49 (X : K.In h) (G : h.Ns mainGlobals mg) (c : He.SaysD fa fn K) : DfOk dom K mg 49 c_need_number := by
  obtain ⟨fd, F⟩ := c.def_ 24 (d := d49) rfl
  exact ⟨by decide, _, _, _, _, _, fd, _, He.glo_ok X G (c.fact 24 (f := .glo "need_number") rfl), F, sc49, chk49, F.bindsN (fun _ _ _ _ _ _ us hl => match us, hl with | [_, _, _], _ => rfl), kw_all (kf := []) (by decide +kernel) all0⟩
theorem ok94 (X : K.In h) (G : h.Ns mainGlobals mg) (c : He.SaysD fa fn K) : DfOk dom K mg 94 c_branch := by
  obtain ⟨fd, F⟩ := c.def_ 25 (d := d94) rfl
  exact ⟨by decide, _, _, _, _, _, fd, _, He.glo_ok X G (c.fact 25 (f := .glo "branch") rfl), F, sc94, chk94, F.bindsN (fun _ _ _ _ _ _ us hl => match us, hl with | [_, _, _, _, _], _ => rfl), kw_all (kf := [[(Str.ofString "number"), (Str.ofString "bottom"), (Str.ofString "levels"), (Str.ofString "key"), (Str.ofString "make")]]) (by decide +kernel) (allc (kwB_of F (by decide +kernel) fun _ _ _ _ _ _ ws hl => match ws, hl with | [_, _, _, _, _], _ => rfl) all0)⟩
theorem ok23 (X : K.In h) (G : h.Ns mainGlobals mg) (c : He.SaysD fa fn K) : DfOk dom K mg 23 c_law_every := by
  obtain ⟨fd, F⟩ := c.def_ 26 (d := d23) rfl
  exact ⟨by decide, _, _, _, _, _, fd, _, He.glo_ok X G (c.fact 26 (f := .glo "_law_every") rfl), F, sc23, chk23, F.bindsN (fun _ _ _ _ _ _ us hl => match us, hl with | [_], _ => rfl), kw_all (kf := []) (by decide +kernel) all0⟩
theorem ok21 (X : K.In h) (G : h.Ns mainGlobals mg) (c : He.SaysD fa fn K) : DfOk dom K mg 21 c_law_size := by
  obtain ⟨fd, F⟩ := c.def_ 27 (d := d21) rfl
  exact ⟨by decide, _, _, _, _, _, fd, _, He.glo_ok X G (c.fact 27 (f := .glo "_law_size") rfl), F, sc21, chk21, F.bindsN (fun _ _ _ _ _ _ us hl => match us, hl with | [_], _ => rfl), kw_all (kf := []) (by decide +kernel) all0⟩
theorem ok86 (X : K.In h) (G : h.Ns mainGlobals mg) (c : He.SaysD fa fn K) : DfOk dom K mg 86 c_law_others := by
  obtain ⟨fd, F⟩ := c.def_ 28 (d := d86) rfl
  exact ⟨by decide, _, _, _, _, _, fd, _, He.glo_ok X G (c.fact 28 (f := .glo "_law_others") rfl), F, sc86, chk86, F.bindsN (fun _ _ _ _ _ _ us hl => match us, hl with | [_, _], _ => rfl), kw_all (kf := []) (by decide +kernel) all0⟩
theorem ok95 (X : K.In h) (G : h.Ns mainGlobals mg) (c : He.SaysD fa fn K) : DfOk dom K mg 95 c_law_branches := by
  obtain ⟨fd, F⟩ := c.def_ 29 (d := d95) rfl
  exact ⟨by decide, _, _, _, _, _, fd, _, He.glo_ok X G (c.fact 29 (f := .glo "_law_branches") rfl), F, sc95, chk95, F.bindsN (fun _ _ _ _ _ _ us hl => match us, hl with | [_, _, _, _], _ => rfl), kw_all (kf := []) (by decide +kernel) all0⟩
theorem ok96 (X : K.In h) (G : h.Ns mainGlobals mg) (c : He.SaysD fa fn K) : DfOk dom K mg 96 c_law_right_5 := by
  obtain ⟨fd, F⟩ := c.def_ 30 (d := d96) rfl
  exact ⟨by decide, _, _, _, _, _, fd, _, He.glo_ok X G (c.fact 30 (f := .glo "_law_right") rfl), F, sc96, chk96, F.bindsN (fun _ _ _ _ _ _ us hl => match us, hl with | [_, _, _, _, _], _ => rfl), kw_all (kf := []) (by decide +kernel) all0⟩
theorem ok73 (X : K.In h) (G : h.Ns mainGlobals mg) (c : He.SaysD fa fn K) : DfOk dom K mg 73 c_law_levels := by
  obtain ⟨fd, F⟩ := c.def_ 31 (d := d73) rfl
  exact ⟨by decide, _, _, _, _, _, fd, _, He.glo_ok X G (c.fact 31 (f := .glo "_law_levels") rfl), F, sc73, chk73, F.bindsN (fun _ _ _ _ _ _ us hl => match us, hl with | [_, _], _ => rfl), kw_all (kf := []) (by decide +kernel) all0⟩
theorem ok19 (X : K.In h) (G : h.Ns mainGlobals mg) (c : He.SaysD fa fn K) : DfOk dom K mg 19 c_law_key := by
  obtain ⟨fd, F⟩ := c.def_ 32 (d := d19) rfl
  exact ⟨by decide, _, _, _, _, _, fd, _, He.glo_ok X G (c.fact 32 (f := .glo "_law_key") rfl), F, sc19, chk19, F.bindsN (fun _ _ _ _ _ _ us hl => match us, hl with | [_, _], _ => rfl), kw_all (kf := []) (by decide +kernel) all0⟩
theorem ok29 (X : K.In h) (G : h.Ns mainGlobals mg) (c : He.SaysD fa fn K) : DfOk dom K mg 29 c_law_make := by
  obtain ⟨fd, F⟩ := c.def_ 33 (d := d29) rfl
  exact ⟨by decide, _, _, _, _, _, fd, _, He.glo_ok X G (c.fact 33 (f := .glo "_law_make") rfl), F, sc29, chk29, F.bindsN (fun _ _ _ _ _ _ us hl => match us, hl with | [_], _ => rfl), kw_all (kf := []) (by decide +kernel) all0⟩
theorem ok30 (X : K.In h) (G : h.Ns mainGlobals mg) (c : He.SaysD fa fn K) : DfOk dom K mg 30 c_law_feed := by
  obtain ⟨fd, F⟩ := c.def_ 34 (d := d30) rfl
  exact ⟨by decide, _, _, _, _, _, fd, _, He.glo_ok X G (c.fact 34 (f := .glo "_law_feed") rfl), F, sc30, chk30, F.bindsN (fun _ _ _ _ _ _ us hl => match us, hl with | [_, _], _ => rfl), kw_all (kf := []) (by decide +kernel) all0⟩
theorem ok97 (X : K.In h) (G : h.Ns mainGlobals mg) (c : He.SaysD fa fn K) : DfOk dom K mg 97 c_law_7 := by
  obtain ⟨fd, F⟩ := c.def_ 35 (d := d97) rfl
  exact ⟨by decide, _, _, _, _, _, fd, _, He.glo_ok X G (c.fact 35 (f := .glo "law") rfl), F, sc97, chk97, F.bindsN (fun _ _ _ _ _ _ us hl => match us, hl with | [_], _ => rfl), kw_all (kf := []) (by decide +kernel) all0⟩
theorem fr_eq : EXN.filter (fun x => !decide (x ∈ xs)) = fr := by decide +kernel
theorem xs_in : ∀ x ∈ xs, x ∈ EXN := by decide +kernel
theorem lawOk (X : K.In h) (G : h.Ns mainGlobals mg) (c : He.SaysD fa fn K) (cx : exB xs K = true) : LawOk dom K mg :=
  have e : ∀ x ∈ fr, mg x = none := (allc (He.free_ok X G (c.fact 59 (f := .free "BadLock") rfl)) (allc (He.free_ok X G (c.fact 60 (f := .free "BadKeys") rfl)) (allc (He.free_ok X G (c.fact 61 (f := .free "BadLocks") rfl)) (allc (He.free_ok X G (c.fact 62 (f := .free "BadPins") rfl)) (allc (He.free_ok X G (c.fact 63 (f := .free "BadStock") rfl)) (allc (He.free_ok X G (c.fact 64 (f := .free "BadBook") rfl)) (allc (He.free_ok X G (c.fact 65 (f := .free "BadIndex") rfl)) (allc (He.free_ok X G (c.fact 66 (f := .free "BadKeying") rfl)) (allc (He.free_ok X G (c.fact 67 (f := .free "NoKeying") rfl)) (allc (He.free_ok X G (c.fact 68 (f := .free "BadDoors") rfl)) (allc (He.free_ok X G (c.fact 69 (f := .free "BadHolders") rfl)) (allc (He.free_ok X G (c.fact 70 (f := .free "BadAnswers") rfl)) (allc (He.free_ok X G (c.fact 71 (f := .free "BadName") rfl)) (allc (He.free_ok X G (c.fact 72 (f := .free "NothingToUndo") rfl)) (allc (He.free_ok X G (c.fact 73 (f := .free "Full") rfl)) (allc (He.free_ok X G (c.fact 74 (f := .free "BadCommand") rfl)) (allc (He.free_ok X G (c.fact 75 (f := .free "TooMany") rfl)) all0)))))))))))))))))
  lawOk_of (allc (ok18 X G c) (allc (ok22 X G c) (allc (ok1 X G c) (allc (ok80 X G c) (allc (ok88 X G c) (allc (ok2 X G c) (allc (ok3 X G c) (allc (ok4 X G c) (allc (ok5 X G c) (allc (ok6 X G c) (allc (ok75 X G c) (allc (ok76 X G c) (allc (ok7 X G c) (allc (ok11 X G c) (allc (ok12 X G c) (allc (ok77 X G c) (allc (ok78 X G c) (allc (ok89 X G c) (allc (ok90 X G c) (allc (ok83 X G c) (allc (ok91 X G c) (allc (ok20 X G c) (allc (ok92 X G c) (allc (ok93 X G c) (allc (ok49 X G c) (allc (ok94 X G c) (allc (ok23 X G c) (allc (ok21 X G c) (allc (ok86 X G c) (allc (ok95 X G c) (allc (ok96 X G c) (allc (ok73 X G c) (allc (ok19 X G c) (allc (ok29 X G c) (allc (ok30 X G c) (allc (ok97 X G c) all0)))))))))))))))))))))))))))))))))))) (allc (He.free_ok X G (c.fact 36 (f := .free "ValueError") rfl)) (allc (He.free_ok X G (c.fact 37 (f := .free "all") rfl)) (allc (He.free_ok X G (c.fact 38 (f := .free "bool") rfl)) (allc (He.free_ok X G (c.fact 39 (f := .free "int") rfl)) (allc (He.free_ok X G (c.fact 40 (f := .free "isinstance") rfl)) (allc (He.free_ok X G (c.fact 41 (f := .free "len") rfl)) (allc (He.free_ok X G (c.fact 42 (f := .free "list") rfl)) (allc (He.free_ok X G (c.fact 43 (f := .free "max") rfl)) (allc (He.free_ok X G (c.fact 44 (f := .free "min") rfl)) (allc (He.free_ok X G (c.fact 45 (f := .free "range") rfl)) (allc (He.free_ok X G (c.fact 46 (f := .free "set") rfl)) (allc (He.free_ok X G (c.fact 47 (f := .free "str") rfl)) (allc (He.free_ok X G (c.fact 48 (f := .free "sum") rfl)) (allc (He.free_ok X G (c.fact 49 (f := .free "tuple") rfl)) (allc (He.free_ok X G (c.fact 50 (f := .free "zip") rfl)) all0))))))))))))))) (allc (con_int (He.int_ok X G (c.fact 51 (f := .int "MOST_CHAMBERS" 5) rfl))) (allc (con_int (He.int_ok X G (c.fact 52 (f := .int "MOST_DEPTHS" 5) rfl))) (allc (con_int (He.int_ok X G (c.fact 53 (f := .int "MOST_LEVEL" 5) rfl))) all0))) (allc (He.glo_ok X G (c.fact 54 (f := .glo "KeyedError") rfl)) (allc (He.glo_ok X G (c.fact 55 (f := .glo "BadMake") rfl)) (allc (He.glo_ok X G (c.fact 56 (f := .glo "BadKey") rfl)) (allc (He.glo_ok X G (c.fact 57 (f := .glo "BadNumber") rfl)) (allc (He.glo_ok X G (c.fact 58 (f := .glo "BadLevels") rfl)) all0))))) (fun x hx => e x (fr_eq ▸ hx)) cx xs_in
end
abbrev Rw : PySem.W.OpenRow := PySem.W.OpenLaw.row PySem.Challenge.rw_keyedapart_k12_branches_and_meetings
abbrev hk : PySem.W.Hook := hookE 4 fa fn (exB xs)
def ob (s : PySem.W.SharedT) : He.AlD × Bool := obsE 4 fa fn (exB xs) (HandSHeadRun.getT s)
theorem ob_eq (s : PySem.W.SharedT) : ob s = hk.obs s.abs := obsE_eq (HandSHeadRun.getT_eq s)
def loose : List Str := [(Str.ofString "MOST_CHAMBERS"), (Str.ofString "MOST_DEPTHS"), (Str.ofString "MOST_LEVEL"), (Str.ofString "KeyedError"), (Str.ofString "BadMake"), (Str.ofString "BadKey"), (Str.ofString "BadNumber"), (Str.ofString "BadLevels"), (Str.ofString "is_integer"), (Str.ofString "is_within"), (Str.ofString "is_row"), (Str.ofString "are_within"), (Str.ofString "need_number"), (Str.ofString "chain_of"), (Str.ofString "meeting"), (Str.ofString "is_make"), (Str.ofString "need_make"), (Str.ofString "is_key_form"), (Str.ofString "need_key"), (Str.ofString "are_levels"), (Str.ofString "need_levels"), (Str.ofString "is_bottom"), (Str.ofString "need_bottom"), (Str.ofString "branch"), (Str.ofString "need_two"), (Str.ofString "meets"), (Str.ofString "_law_feed"), (Str.ofString "_law_draw"), (Str.ofString "_law_one"), (Str.ofString "_law_mixed"), (Str.ofString "_law_same"), (Str.ofString "_law_make"), (Str.ofString "_law_key"), (Str.ofString "_law_every"), (Str.ofString "_law_size"), (Str.ofString "_law_levels"), (Str.ofString "_law_bottom"), (Str.ofString "_law_bottom_near"), (Str.ofString "_law_others"), (Str.ofString "_law_chain"), (Str.ofString "_law_branches"), (Str.ofString "_law_meets"), (Str.ofString "_law_right")]
theorem run (w : World) : HandSHeadRun.RunEq Rw (PySem.W.view Rw.prog [49]) hk ob 20000 loose w := by
  intro os
  kernel_rfl
theorem holds_of (k : Nat) (hr : Room k callerA) (ev : ∀ ns : List Int, ns.length ≤ 63 → ∃ S, evCall dom.T k 97 [.d (.list (ns.map .int))] [] = .ok (.d (.bool true)) S) : PySem.Challenge.rw_keyedapart_k12_branches_and_meetings.Holds := by
  w_on; o_law
  refine HandSHeadRun.head_any (r := Rw) (q := PySem.W.view Rw.prog [49]) (H := hk) (ob := ob) (M := 20000) (loose := loose) (d := HandSHeadRun.topDef Rw.prog 49) (kwd := []) ob_eq
    (by kernel_rfl) (fun s => by kernel_rfl) run (by kernel_rfl) (by kernel_rfl) (by kernel_rfl) (by rfl) (by first | assumption | decide +kernel) (by decide +kernel) ⟨rfl, rfl, rfl, rfl, rfl, by decide +kernel⟩ ?hw ?hc
  case hw => w_witness2
  case hc =>
    exact walk_ev (D := dom) (l := PySem.Challenge.rw_keyedapart_k12_branches_and_meetings) (n := 63) (k := k) (f := 97) (d := c_law_7) (x := (Str.ofString "script")) rfl (by decide) (by kernel_rfl) hr (by rfl) (by rfl) (by kernel_rfl) (fun w mg h Y G => let ⟨K, KX, c, cx⟩ := Y; ⟨K, KX, lawOk KX G c cx⟩) ev
theorem inTG : ∀ p ∈ tl, TG p.1 = some p.2 := (allc rfl (allc rfl (allc rfl (allc rfl (allc rfl (allc rfl (allc rfl (allc rfl (allc rfl (allc rfl (allc rfl (allc rfl (allc rfl (allc rfl (allc rfl (allc rfl (allc rfl (allc rfl (allc rfl (allc rfl (allc rfl (allc rfl (allc rfl (allc rfl (allc rfl (allc rfl (allc rfl (allc rfl (allc rfl (allc rfl (allc rfl (allc rfl (allc rfl (allc rfl (allc rfl (allc rfl all0))))))))))))))))))))))))))))))))))))
theorem closed : KC.clB tl = true := by decide +kernel
theorem wide : KC.wB 2000 tl = true := by decide +kernel
theorem holds_by (k : Nat) (hk : 2000 * k ≤ 200000) (hr : Room k callerA) (ev : ∀ ns : List Int, ns.length < 1000 → KB.Ok (KC.ev TG k 97 [.d (.list (ns.map .int))]) fun v => v = .d (.bool true)) : PySem.Challenge.rw_keyedapart_k12_branches_and_meetings.Holds :=
  holds_of k hr fun ns hn => KC.law_of (x := 2000) inTG closed rfl wide hk (ev ns (Nat.lt_of_le_of_lt hn (by decide)))
end KA.K12
/-! KM1: makes, keys, locks: what the looks answer. -/
namespace KC
open PySem KB
open KA hiding rd esc op1 op2 rds newM bltV bltVs bindTg wipeD loopC loopC2 keyArgs evE evEs evXs evAnd evOr evT evTAnd evTOr evC evO evI loopF loopW setItem evS evSs startD evCall rd_d esc_d op1_d op2_d rds_nil newM_false newM_true evT_cmp SR R
section
variable {T : Tab} [Le TG T]
theorem sz_of {n : Nat} (h : n ≤ 1000000) : n ≤ SZ := by show _ ≤ 16777216; omega
theorem is_row_ev (k : Nat) (x : PD) (lo hi : Int) : ev T (k + 1) 4 [.d x, .d (.int lo), .d (.int hi)] = .ret (.d (.bool (isRow x lo hi))) := by
  refine eq_call (d := c_is_row) (tg rfl) (by decide) (by decide) rfl ?_
  simp only [c_is_row, startD]
  cases x <;> simp [isin_tuple, isTy, tyD, isRow]
  rename_i ds
  by_cases q : lo ≤ ds.length <;> simp [q]
theorem are_within_ev (k : Nat) (x : PD) (n lo hi : Int) (hn : n ≤ 1000) : ev T (k + 3) 5 [.d x, .d (.int n), .d (.int lo), .d (.int hi)] = .ret (.d (.bool (areWithin x n lo hi))) := by
  refine eq_call (d := c_are_within) (tg rfl) (by decide) (by decide) rfl ?_
  simp only [c_are_within, startD]
  cases x <;> simp [is_row_ev, isRow, areWithin]
  rename_i ds
  by_cases q : (ds.length : Int) = n
  · have hz : ds.length ≤ SZ := sz_of (by omega)
    simp [q, is_within_ev, chk_ok hz, loopC_some (acc := []) (items := ds) (by simpa using hz)]
  · have q2 : ¬ (n ≤ ds.length ∧ (ds.length : Int) ≤ n) := by omega
    simp [q, q2]
theorem is_ascending_ev (k : Nat) (l : List Int) (hl : l.length ≤ 1000) : ev T (k + 1) 8 [.d (.tuple (l.map .int))] = .ret (.d (.bool (asc l))) := by
  refine eq_call (d := c_is_ascending) (tg rfl) (by decide) (by decide) rfl ?_
  simp only [c_is_ascending, startD]
  have hz : (l.zip l.tail).length ≤ SZ := sz_of (by simp; omega)
  simp [slcD, cut_drop, ← List.map_tail, zipD_map]
  rw [chk_ok (by simpa using hz)]
  simp
  rw [loopC_all (G := fun p => .bool (decide (p.1 < p.2))) (fun p hp => by simp) (by simpa using hz)]
  simp [asc]
theorem is_make_ev (k : Nat) (c d : Int) : ev T (k + 3) 11 [.d (makeD c d)] = .ret (.d (.bool (decide (1 ≤ c) && decide (c ≤ 5) && (decide (2 ≤ d) && decide (d ≤ 5))))) := by
  refine eq_call (d := c_is_make) (tg rfl) (by decide) (by decide) rfl ?_
  simp only [c_is_make, startD]
  simp [makeD, is_row_ev, is_within_ev, isRow, within]
  by_cases q : 1 ≤ c <;> by_cases q2 : c ≤ 5 <;> simp [q, q2]
theorem is_key_ev (k : Nat) {c d : Int} (hc : c ≤ 1000) (key : List Int) : ev T (k + 4) 6 [.d (makeD c d), .d (keyD key)] = .ret (.d (.bool (isKey c d key))) := by
  refine eq_call (d := c_is_key_form) (tg rfl) (by decide) (by decide) rfl ?_
  simp only [c_is_key_form, startD]
  simp [makeD, keyD, are_within_ev _ _ _ _ _ hc, areWithin, isKey, List.all_map, Function.comp_def, within]
theorem are_cuts_ev (k : Nat) {c d : Int} (hd : d ≤ 1000) (cuts : List Int) : ev T (k + 3) 9 [.d (makeD c d), .d (cutsD cuts)] = .ret (.d (.bool (areCuts d cuts))) := by
  refine eq_call (d := c_are_cuts) (tg rfl) (by decide) (by decide) rfl ?_
  simp only [c_are_cuts, startD]
  simp [makeD, cutsD, is_row_ev, isRow, areCuts]
  by_cases q : 1 ≤ cuts.length ∧ (cuts.length : Int) ≤ d
  · have q1 : (1 : Int) ≤ cuts.length := by omega
    have hz : cuts.length ≤ SZ := sz_of (by omega)
    simp [q.1, q.2]
    rw [chk_ok (by simpa using hz)]
    simp
    rw [loopC_all (G := fun x => .bool (decide (0 ≤ x) && decide (x ≤ d - 1))) (fun p hp => by simp [is_within_ev, within]) (by simpa using hz)]
    simp
    by_cases q2 : ∀ x ∈ cuts, 0 ≤ x ∧ x ≤ d - 1
    · simp only [is_ascending_ev _ cuts (show cuts.length ≤ 1000 by omega)]
      have q3 : (cuts.all fun x => decide (0 ≤ x) && decide (x ≤ d - 1)) = true := by simpa using q2
      rw [if_pos q1, if_pos q2]
      simp [q3]
    · have q3 : (cuts.all fun x => decide (0 ≤ x) && decide (x ≤ d - 1)) = false := by simpa using q2
      rw [if_pos q1, if_neg q2]
      simp [q3]
  · have q1 : ¬ ((1 : Int) ≤ cuts.length ∧ (cuts.length : Int) ≤ d) := by omega
    have q2 : (decide (1 ≤ cuts.length) && decide ((cuts.length : Int) ≤ d)) = false := by simpa using q
    rw [if_neg q1]
    simp [q2]
theorem is_lock_ev (k : Nat) {c d : Int} (hc : c ≤ 1000) (hd : d ≤ 1000) (lock : List (List Int)) : ev T (k + 4) 10 [.d (makeD c d), .d (lockD lock)] = .ret (.d (.bool (isLock c d lock))) := by
  refine eq_call (d := c_is_lock_form) (tg rfl) (by decide) (by decide) rfl ?_
  simp only [c_is_lock_form, startD]
  have e : makeD c d = .tuple [.int c, .int d] := rfl
  simp only [lockD]
  simp [e, is_row_ev, isRow, isLock]
  rw [← e]
  by_cases q : (lock.length : Int) = c
  · have hz : lock.length ≤ SZ := sz_of (by omega)
    simp [q]
    rw [chk_ok (by simpa using hz)]
    simp
    rw [loopC_all (G := fun x => .bool (areCuts d x)) (fun p hp => by simp [are_cuts_ev _ hd]) (by simpa using hz)]
    simp
  · rw [if_neg (by omega)]
    simp [q]
theorem need_make_ev (k : Nat) {c d : Int} (hm : isMake c d) : ev T (k + 4) 12 [.d (makeD c d)] = .ret (.d .none) := by
  obtain ⟨m1, m2, m3, m4⟩ := hm
  refine eq_callN (d := c_need_make) (tg rfl) (by decide) (by decide) rfl (σ := [some (.d (makeD c d))]) ?_
  simp [c_need_make, startD, is_make_ev, m1, m2, m3, m4]
theorem need_key_ev (k : Nat) {c d : Int} (hm : isMake c d) {key : List Int} (hkey : isKey c d key = true) : ev T (k + 5) 7 [.d (makeD c d), .d (keyD key)] = .ret (.d .none) := by
  obtain ⟨m1, m2, m3, m4⟩ := hm
  refine eq_callN (d := c_need_key) (tg rfl) (by decide) (by decide) rfl (σ := [some (.d (makeD c d)), some (.d (keyD key))]) ?_
  simp [c_need_key, startD, is_key_ev _ (show c ≤ 1000 by omega), hkey]
theorem need_lock_ev (k : Nat) {c d : Int} (hm : isMake c d) {lock : List (List Int)} (hlock : isLock c d lock = true) : ev T (k + 5) 13 [.d (makeD c d), .d (lockD lock)] = .ret (.d .none) := by
  have hm' := hm
  obtain ⟨m1, m2, m3, m4⟩ := hm
  refine eq_callN (d := c_need_lock) (tg rfl) (by decide) (by decide) rfl (σ := [some (.d (makeD c d)), some (.d (lockD lock))]) ?_
  simp [c_need_lock, startD, need_make_ev _ hm', is_lock_ev _ (show c ≤ 1000 by omega) (show d ≤ 1000 by omega), hlock]
/-- the key opens the lock -/
def doesOpen (lock : List (List Int)) (key : List Int) : Bool := (key.zip lock).all fun p => decide (p.1 ∈ p.2)
theorem does_open_ev (k : Nat) (lock : List (List Int)) (key : List Int) (hz : key.length ≤ 1000) : ev T (k + 1) 15 [.d (lockD lock), .d (keyD key)] = .ret (.d (.bool (doesOpen lock key))) := by
  refine eq_call (d := c_does_open) (tg rfl) (by decide) (by decide) rfl ?_
  simp only [c_does_open, startD]
  have hz : (key.zip lock).length ≤ SZ := sz_of (by simp; omega)
  simp only [lockD, keyD]
  simp [zipD_map]
  rw [chk_ok (by simpa using hz)]
  simp
  rw [loopC_all (G := fun p => .bool (decide (p.1 ∈ p.2))) (fun p hp => by simp [cmpD, cutsD, in_ints]) (by simpa using hz)]
  simp [doesOpen]
theorem opens_ev (k : Nat) {c d : Int} (hm : isMake c d) {lock : List (List Int)} (hlock : isLock c d lock = true) {key : List Int} (hkey : isKey c d key = true) : ev T (k + 6) 16 [.d (makeD c d), .d (lockD lock), .d (keyD key)] = .ret (.d (.bool (doesOpen lock key))) := by
  have hl : key.length ≤ 1000 := by
    unfold isKey at hkey
    simp at hkey
    obtain ⟨_, m2, _⟩ := hm
    omega
  refine eq_call (d := c_opens) (tg rfl) (by decide) (by decide) rfl ?_
  simp only [c_opens, startD]
  simp [need_lock_ev _ hm hlock, need_key_ev _ hm hkey, does_open_ev _ lock key hl]
/-- the chambers in which it does not -/
def apartL (lock : List (List Int)) (key : List Int) : List Int := (lock.zipIdx.filter fun p => decide (key.getD p.2 0 ∉ p.1)).map fun p => (p.2 : Int)
theorem key_at {key : List Int} {i : Nat} (h : i < key.length) : (key.map PyData.int)[i]? = some (.int (key.getD i 0)) := by
  rw [List.getElem?_map, List.getD_eq_getElem?_getD, List.getElem?_eq_getElem h]; rfl
theorem lock_at {lock : List (List Int)} {i : Nat} (h : i < lock.length) : (lock.map cutsD)[i]? = some (cutsD (lock.getD i [])) := by
  rw [List.getElem?_map, List.getD_eq_getElem?_getD, List.getElem?_eq_getElem h]; rfl
theorem apart_in_ev (k : Nat) {c d : Int} (hm : isMake c d) {lock : List (List Int)} (hlock : isLock c d lock = true) {key : List Int} (hkey : isKey c d key = true) : ev T (k + 6) 14 [.d (makeD c d), .d (lockD lock), .d (keyD key)] = .ret (.d (keyD (apartL lock key))) := by
  have hl : (key.length : Int) = c ∧ (lock.length : Int) = c := by
    unfold isKey at hkey
    unfold isLock at hlock
    simp at hkey hlock
    omega
  have hz : lock.length ≤ SZ := sz_of (by obtain ⟨_, m2, _⟩ := hm; omega)
  refine eq_call (d := c_apart_in) (tg rfl) (by decide) (by decide) rfl ?_
  simp only [c_apart_in, startD]
  simp [need_lock_ev _ hm hlock, need_key_ev _ hm hkey]
  simp only [lockD, keyD]
  rw [chk_ok (by simpa using hz)]
  simp [enumD_map]
  rw [loopC_eq (p := fun p => decide (key.getD p.2 0 ∉ p.1)) (G := fun p => .int p.2) (fun p hp => ?_) (by simpa using hz)]
  · simp [apartL, List.map_map, Function.comp_def]
  · have hp2 : p.2 < key.length := by
      have := (List.mem_zipIdx_iff_getElem?.mp hp)
      have := (List.getElem?_eq_some_iff.mp this).1
      omega
    simp [sub_tup_nat, key_at hp2, cmpD, cutsD, in_ints]
    split <;> rfl
end
end KC
/-! KM2: what the laws draw. -/
namespace KC
open PySem KB
open KA hiding rd esc op1 op2 rds newM bltV bltVs bindTg wipeD loopC loopC2 keyArgs evE evEs evXs evAnd evOr evT evTAnd evTOr evC evO evI loopF loopW setItem evS evSs startD evCall rd_d esc_d op1_d op2_d rds_nil newM_false newM_true evT_cmp SR R
section
variable {T : Tab} [Le TG T]
theorem nat_of {i m : Int} (h0 : 0 ≤ i) (h : i < m) : ∃ j : Nat, i = j ∧ (j : Int) < m := ⟨i.toNat, by omega, by omega⟩
theorem one_ev (k : Nat) {x : PD} {xs : List PD} (hx : x = .list xs ∨ x = .tuple xs) (h0 : 0 < xs.length) (hz : xs.length ≤ 1000000) : Ok (ev T (k + 2) 20 [.feed, .d x]) fun v => ∃ y ∈ xs, v = .d y := by
  refine ok_call (d := c_law_one) (tg rfl) (by decide) (by decide) rfl ?_
  simp only [c_law_one, startD]
  rcases hx with rfl | rfl
  all_goals
    simp [draw_ev _ (show (xs.length : Int) < 18446744073709551616 by omega), h0]
    intro i i0 i1
    obtain ⟨j, rfl, hj⟩ := nat_of i0 i1
    have hj' : j < xs.length := by omega
    have hg : xs[j]? = some xs[j] := by simp [hj']
    simp [sub_list_nat, sub_tup_nat, hg]
theorem erase_perm {α : Type} : ∀ {l : List α} {i : Nat} (h : i < l.length), (l[i] :: l.eraseIdx i).Perm l
  | a :: r, 0, _ => by simp
  | a :: r, i + 1, h => by
    have ih := erase_perm (l := r) (i := i) (by simpa using h)
    simp only [List.getElem_cons_succ, List.eraseIdx_cons_succ]
    exact (List.Perm.swap _ _ _).trans (ih.cons a)
theorem mixed_ev (k : Nat) {x : PD} {xs : List PD} (hx : x = .list xs ∨ x = .tuple xs) (hz : xs.length ≤ 1000000) : Ok (ev T (k + 2) 22 [.feed, .d x]) fun v => ∃ ys, v = .d (.list ys) ∧ ys.Perm xs := by
  refine ok_call (d := c_law_mixed) (tg rfl) (by decide) (by decide) rfl ?_
  simp only [c_law_mixed, startD]
  have hl : bltD .list_ [x] = some (.list xs) ∧ bltD .len [x] = some (.int xs.length) := by rcases hx with rfl | rfl <;> exact ⟨rfl, rfl⟩
  simp [hl, rng_ok (show (0 : Int) ≤ xs.length by omega) (show (xs.length : Int) ≤ 1000000 by omega), rngD_eq]
  refine loopF_ok (fun i σ => ∃ tv left got, σ = [some .feed, some (.d x), tv, some (.own left), some (.own got)] ∧ (left ++ got).Perm xs ∧ got.length = i) ⟨none, xs, [], rfl, by simp, rfl⟩ ?_ ?_
  · rintro i hi σ ⟨tv, left, got, rfl, hp, hg⟩
    have hlen := hp.length_eq
    simp at hlen hi
    have hlt : left.length ≤ 1000000 := by omega
    have hz2 : got.length < SZ := by show _ < 16777216; omega
    simp [draw_ev _ (show (left.length : Int) < 18446744073709551616 by omega)]
    refine ⟨by omega, fun j j0 j1 => ?_⟩
    obtain ⟨j, rfl, hj⟩ := nat_of j0 j1
    have hj' : j < left.length := by omega
    have hgj : left[j]? = some left[j] := by simp [hj']
    simp [meth_pop, popAt_nat hgj (sz_of hlt), hz2]
    refine ⟨_, _, _, ⟨rfl, rfl, rfl⟩, ?_, by simp [hg]⟩
    have h1 : left.Perm (left[j] :: left.eraseIdx j) := (erase_perm hj').symm
    refine List.Perm.trans ?_ hp
    have h2 : (left.eraseIdx j ++ (got ++ [left[j]])).Perm ((left[j] :: left.eraseIdx j) ++ got) := by
      rw [← List.append_assoc]
      exact (List.perm_append_singleton _ _).trans (by simp)
    exact h2.trans (h1.symm.append_right got)
  · rintro σ ⟨tv, left, got, rfl, hp, hg⟩
    have hlen := hp.length_eq
    simp at hlen hg
    have hl0 : left = [] := List.eq_nil_of_length_eq_zero (by omega)
    subst hl0
    simp
    exact hp
theorem make_ev (k : Nat) : Ok (ev T (k + 3) 29 [.feed]) fun v => ∃ c d : Int, v = .d (makeD c d) ∧ isMake c d := by
  refine ok_call (d := c_law_make) (tg rfl) (by decide) (by decide) rfl ?_
  simp only [c_law_make, startD]
  have hz : (12 : Nat) ≤ SZ := by decide
  have hz2 : (2 : Nat) ≤ SZ := by decide
  simp [draw_ev, hz, hz2]
  intro i i0 i1
  by_cases hi : 0 < i
  · simp [hi]
    refine (one_ev _ (.inl rfl) (by simp) (by simp)).mono fun v ⟨y, hy, e⟩ => ?_
    subst e
    simp at hy
    rcases hy with rfl | rfl | rfl | rfl | rfl | rfl | rfl | rfl | rfl | rfl | rfl | rfl <;> exact ⟨_, _, rfl, by unfold isMake; omega⟩
  · simp [hi, draw_ev]
    intro a a0 a1 b b0 b1
    exact ⟨_, _, rfl, by unfold isMake; omega⟩
theorem key_ev (k : Nat) {c d : Int} (hm : isMake c d) : Ok (ev T (k + 2) 19 [.feed, .d (makeD c d)]) fun v => ∃ key, v = .d (keyD key) ∧ isKey c d key = true := by
  obtain ⟨m1, m2, m3, m4⟩ := hm
  refine ok_call (d := c_law_key) (tg rfl) (by decide) (by decide) rfl ?_
  simp only [c_law_key, startD]
  simp [rng_ok (show 0 ≤ c by omega) (show c ≤ 1000000 by omega), rngD_eq]
  refine loopC_ok (P := fun _ y => ∃ i : Int, y = .int i ∧ 0 ≤ i ∧ i ≤ d - 1) (fun y hy => ?_) (sz_of (by simp; omega)) fun ds hl hds => ?_
  · simp [draw_ev _ (show d < 18446744073709551616 by omega)]
    exact ⟨by omega, fun i i0 i1 => ⟨i0, by omega⟩⟩
  · simp at hl
    have : ∃ key : List Int, ds = key.map .int ∧ ∀ x ∈ key, 0 ≤ x ∧ x ≤ d - 1 := by
      have h2 : ∀ y ∈ ds, ∃ i : Int, y = .int i ∧ 0 ≤ i ∧ i ≤ d - 1 := fun y hy => by
        obtain ⟨i, hi, e⟩ := List.getElem_of_mem hy
        rw [← e]
        exact hds i (by simp; omega) hi
      clear hds hl
      induction ds with
      | nil => exact ⟨[], rfl, by simp⟩
      | cons a r ih =>
        obtain ⟨i, e, h3⟩ := h2 a (by simp)
        obtain ⟨key, e2, h4⟩ := ih fun y hy => h2 y (by simp [hy])
        exact ⟨i :: key, by rw [e, e2]; rfl, by simpa using ⟨h3, h4⟩⟩
    obtain ⟨key, rfl, hk⟩ := this
    simp at hl
    simp
    refine ⟨key, rfl, ?_⟩
    unfold isKey
    simp
    exact ⟨by omega, hk⟩
theorem asc_iff {l : List Int} : asc l = true ↔ l.Pairwise (· < ·) := by
  have h2 : ∀ (r : List Int) (a : Int), asc (a :: r) = true ↔ ((∀ b, r.head? = some b → a < b) ∧ asc r = true) := fun r a => by
    unfold asc
    cases r with
    | nil => simp
    | cons b t => simp
  induction l with
  | nil => simp [asc]
  | cons a r ih =>
    rw [h2, List.pairwise_cons]
    constructor
    · rintro ⟨h1, h3'⟩
      have h3 := ih.mp h3'
      refine ⟨fun b hb => ?_, h3⟩
      cases r with
      | nil => simp at hb
      | cons c t =>
        have hc := h1 c rfl
        rcases List.mem_cons.mp hb with e | e
        · rw [e]; exact hc
        · have := (List.pairwise_cons.mp h3).1 b e
          omega
    · rintro ⟨h1, h3⟩
      exact ⟨fun b hb => h1 b (List.mem_of_mem_head? hb), ih.mpr h3⟩
theorem rngI_asc (n : Int) : (rngI n).Pairwise (· < ·) := by
  unfold rngI
  rw [List.pairwise_map]
  exact List.pairwise_lt_range.imp fun h => by omega
/-- cuts of a chamber -/
theorem areCuts_iff {d : Int} {l : List Int} : areCuts d l = true ↔ l ≠ [] ∧ (∀ x ∈ l, 0 ≤ x ∧ x < d) ∧ l.Pairwise (· < ·) := by
  unfold areCuts
  simp
  rw [asc_iff]
  constructor
  · rintro ⟨⟨⟨h1, h2⟩, h3⟩, h4⟩
    exact ⟨fun e => by rw [e] at h1; simp at h1, fun x hx => by have := h3 x hx; omega, h4⟩
  · rintro ⟨h1, h3, h4⟩
    have hlen : l.length ≤ d.toNat := by
      have hs : l.Nodup := h4.imp fun h => by omega
      have hsub : ∀ x ∈ l, x ∈ rngI d := fun x hx => mem_rngI.mpr (h3 x hx)
      have := List.Nodup.length_le_of_subset hs hsub
      simpa using this
    have h0 : 0 < l.length := List.length_pos_iff.mpr h1
    have hd : 0 < d := by
      obtain ⟨x, hx⟩ := List.exists_mem_of_ne_nil l h1
      have := h3 x hx
      omega
    exact ⟨⟨⟨by omega, by omega⟩, fun x hx => by have := h3 x hx; omega⟩, h4⟩
/-- a part of the cuts, in their sequence, is cuts again -/
theorem areCuts_sub {d : Int} {l m : List Int} (h : areCuts d l = true) (hs : m.Sublist l) (hm : m ≠ []) : areCuts d m = true := by
  obtain ⟨h1, h2, h3⟩ := areCuts_iff.mp h
  exact areCuts_iff.mpr ⟨hm, fun x hx => h2 x (hs.subset hx), h3.sublist hs⟩
theorem full_cuts {d : Int} (h1 : 1 ≤ d) : areCuts d (rngI d) = true :=
  areCuts_iff.mpr ⟨fun e => by have := rngI_len d; rw [e] at this; simp at this; omega, fun x hx => by simpa using hx, rngI_asc d⟩
theorem cuts_ev (k : Nat) {d : Int} (h2 : 2 ≤ d) (h5 : d ≤ 5) : Ok (ev T (k + 2) 27 [.feed, .d (.int d)]) fun v => ∃ l, v = .d (cutsD l) ∧ areCuts d l = true := by
  refine ok_call (d := c_law_cuts) (tg rfl) (by decide) (by decide) rfl ?_
  simp only [c_law_cuts, startD]
  have z1 : (1 : Nat) ≤ SZ := by decide
  have zr : (rngI d).length ≤ SZ := sz_of (by simp; omega)
  have hr : rngOk 0 d = true := rng_ok (show 0 ≤ d by omega) (show d ≤ 1000000 by omega)
  have hfull := full_cuts (d := d) (by omega)
  simp [draw_ev, show d < 18446744073709551616 by omega, z1, show 0 < d by omega]
  intro w w0 w1 cut c0 c1
  by_cases q0 : w = 0
  · simp [q0]
    exact ⟨[cut], rfl, areCuts_iff.mpr ⟨by simp, by simpa using ⟨c0, c1⟩, by simp⟩⟩
  by_cases q1 : w = 1
  · simp [q1, hr, rngD_eq]
    exact ⟨rngI d, rfl, hfull⟩
  by_cases q2 : w = 2
  · simp [q2, hr, rngD_eq]
    rw [loopC_eq (p := fun x => !(x == cut)) (G := .int) (fun x hx => by simp; split <;> simp_all) (by simpa using zr)]
    simp
    refine ⟨_, rfl, areCuts_sub hfull List.filter_sublist fun e => ?_⟩
    have := List.filter_eq_nil_iff.mp e
    have a0 := this 0 (by simp; omega)
    have a1 := this 1 (by simp; omega)
    simp at a0 a1
    omega
  simp [q0, q1, q2, hr, rngD_eq]
  refine loopC_sub (must := fun x => x = cut) (G := .int) (fun x hx => ?_) (by simpa using zr) fun m hs hm => ?_
  · simp
    by_cases hxc : x = cut
    · simp [hxc]
    · simp [hxc, draw_ev]
      intro i i0 i1
      by_cases hi : i = 0
      · simp [hi]
      · simp [hi]
  · simp
    refine ⟨m, rfl, areCuts_sub hfull hs fun e => ?_⟩
    have := hm cut (by simpa using ⟨c0, c1⟩) rfl
    rw [e] at this
    simp at this
theorem lock_ev (k : Nat) {c d : Int} (hm : isMake c d) : Ok (ev T (k + 3) 28 [.feed, .d (makeD c d)]) fun v => ∃ lock, v = .d (lockD lock) ∧ isLock c d lock = true := by
  obtain ⟨m1, m2, m3, m4⟩ := hm
  refine ok_call (d := c_law_lock) (tg rfl) (by decide) (by decide) rfl ?_
  simp only [c_law_lock, startD]
  simp [rng_ok (show 0 ≤ c by omega) (show c ≤ 1000000 by omega), rngD_eq]
  refine loopC_each (G := cutsD) (P := fun l => areCuts d l = true) (fun y hy => ?_) (sz_of (by simp; omega)) fun m hl hP => ?_
  · simp
    exact (cuts_ev _ m3 m4).mono fun v ⟨l, e, hl⟩ => by subst e; simpa using hl
  · simp at hl
    refine ⟨m, rfl, ?_⟩
    unfold isLock
    simp
    exact ⟨by omega, hP⟩
end
end KC
/-! KM3: all keys of a lock; locks together. -/
namespace KC
open PySem KB
open KA hiding rd esc op1 op2 rds newM bltV bltVs bindTg wipeD loopC loopC2 keyArgs evE evEs evXs evAnd evOr evT evTAnd evTOr evC evO evI loopF loopW setItem evS evSs startD evCall rd_d esc_d op1_d op2_d rds_nil newM_false newM_true evT_cmp SR R
/-! ### plain -/
/-- one of each, ascending where these are -/
def prodR : List (List Int) → List (List Int)
  | [] => [[]]
  | c :: r => c.flatMap fun x => (prodR r).map (x :: ·)
def stepR (rows : List (List Int)) (c : List Int) : List (List Int) := rows.flatMap fun row => c.map fun x => row ++ [x]
theorem stepR_len (c : List Int) : ∀ m : List (List Int), (stepR m c).length = m.length * c.length
  | [] => by simp [stepR]
  | a :: r => by
    have := stepR_len c r
    unfold stepR at this ⊢
    rw [List.flatMap_cons, List.length_append, this, List.length_map, List.length_cons, Nat.succ_mul, Nat.add_comm]
theorem fold_prod : ∀ (lock : List (List Int)) (rows : List (List Int)), lock.foldl stepR rows = rows.flatMap fun r => (prodR lock).map (r ++ ·)
  | [], rows => by simp [prodR]
  | c :: l, rows => by
    rw [List.foldl_cons, fold_prod l]
    simp [stepR, prodR, List.flatMap_assoc, List.map_flatMap, List.flatMap_map, List.map_map, Function.comp_def]
theorem fold_prod1 (lock : List (List Int)) : lock.foldl stepR [[]] = prodR lock := by
  rw [fold_prod]
  simp
/-- how many -/
def sizeL (lock : List (List Int)) : Int := (prodR lock).length
theorem len_prod : ∀ (lock : List (List Int)), (prodR lock).length = lock.foldr (fun c n => c.length * n) 1
  | [] => rfl
  | c :: l => by
    simp [prodR, List.length_flatMap, len_prod l]
    induction c with
    | nil => simp
    | cons a r ih => simp [ih, Nat.add_mul]; omega
theorem size_cons (c : List Int) (l : List (List Int)) : sizeL (c :: l) = c.length * sizeL l := by
  unfold sizeL
  rw [len_prod, len_prod, List.foldr_cons]
  push_cast
  rfl
theorem size_fold : ∀ (lock : List (List Int)) (m : Int), lock.foldl (fun (m : Int) (c : List Int) => m * (c.length : Int)) m = m * sizeL lock
  | [], m => by simp [sizeL, prodR]
  | c :: l, m => by
    rw [List.foldl_cons, size_fold l, size_cons, Int.mul_assoc]
theorem prod_le {m : Nat} (hm : 1 ≤ m) : ∀ {lock : List (List Int)} {n : Nat}, lock.length ≤ n → (∀ c ∈ lock, c.length ≤ m) → (prodR lock).length ≤ m ^ n
  | [], n, _, _ => by
    simp [prodR]
    exact Nat.pow_pos hm
  | c :: l, n, h, hc => by
    cases n with
    | zero => simp at h
    | succ n =>
      rw [len_prod, List.foldr_cons, ← len_prod, Nat.pow_succ, Nat.mul_comm]
      exact Nat.mul_le_mul (prod_le hm (by simpa using h) fun x hx => hc x (by simp [hx])) (hc c (by simp))
/-- the key has one cut of each -/
def Opn : List Int → List (List Int) → Prop
  | [], [] => True
  | x :: k, c :: l => x ∈ c ∧ Opn k l
  | _, _ => False
theorem mem_prod : ∀ {lock : List (List Int)} {k : List Int}, k ∈ prodR lock ↔ Opn k lock
  | [], k => by cases k <;> simp [prodR, Opn]
  | c :: l, k => by
    cases k with
    | nil => simp [prodR, Opn]
    | cons x k => simp [prodR, Opn, mem_prod (lock := l)]
theorem Opn.len : ∀ {k : List Int} {lock : List (List Int)}, Opn k lock → k.length = lock.length
  | [], [], _ => rfl
  | x :: k, c :: l, h => by simp [Opn.len h.2]
  | [], _ :: _, h => h.elim
  | _ :: _, [], h => h.elim
theorem opn_iff : ∀ {k : List Int} {lock : List (List Int)}, k.length = lock.length → (doesOpen lock k = true ↔ Opn k lock)
  | [], [], _ => by simp [doesOpen, Opn]
  | x :: k, c :: l, h => by
    have := opn_iff (k := k) (lock := l) (by simpa using h)
    unfold doesOpen at this ⊢
    simp [Opn] at this ⊢
    intro _
    exact this
  | [], _ :: _, h => by simp at h
  | _ :: _, [], h => by simp at h
/-- what a lock of a make is -/
theorem isLock_iff {c d : Int} {lock : List (List Int)} : isLock c d lock = true ↔ (lock.length : Int) = c ∧ ∀ x ∈ lock, areCuts d x = true := by
  unfold isLock
  simp
theorem isKey_iff {c d : Int} {key : List Int} : isKey c d key = true ↔ (key.length : Int) = c ∧ ∀ x ∈ key, 0 ≤ x ∧ x < d := by
  unfold isKey
  simp
  intro _
  constructor <;> intro h x hx <;> have := h x hx <;> omega
theorem cuts_len {d : Int} {l : List Int} (h : areCuts d l = true) : (l.length : Int) ≤ d ∧ 1 ≤ l.length := by
  unfold areCuts at h
  simp at h
  omega
theorem lock_len {c d : Int} (hm : isMake c d) {lock : List (List Int)} (h : isLock c d lock = true) : lock.length ≤ 5 ∧ (∀ x ∈ lock, x.length ≤ 5) ∧ ∀ x ∈ lock, x ≠ [] := by
  obtain ⟨m1, m2, m3, m4⟩ := hm
  obtain ⟨h1, h2⟩ := isLock_iff.mp h
  refine ⟨by omega, fun x hx => ?_, fun x hx e => ?_⟩
  · have := cuts_len (h2 x hx); omega
  · have := cuts_len (h2 x hx); rw [e] at this; simp at this
theorem opn_key {c d : Int} {lock : List (List Int)} (h : isLock c d lock = true) {k : List Int} (ho : Opn k lock) : isKey c d k = true := by
  obtain ⟨h1, h2⟩ := isLock_iff.mp h
  refine isKey_iff.mpr ⟨by rw [ho.len]; exact h1, ?_⟩
  have : ∀ (k : List Int) (lock : List (List Int)), Opn k lock → (∀ x ∈ lock, areCuts d x = true) → ∀ x ∈ k, 0 ≤ x ∧ x < d := by
    intro k
    induction k with
    | nil => intro l _ _ x hx; simp at hx
    | cons a r ih =>
      intro l ho hl x hx
      cases l with
      | nil => exact ho.elim
      | cons c l =>
        rcases List.mem_cons.mp hx with e | e
        · rw [e]
          exact (areCuts_iff.mp (hl c (by simp))).2.1 a ho.1
        · exact ih l ho.2 (fun y hy => hl y (by simp [hy])) x e
  exact this k lock ho h2
/-- a full lock -/
def fullL (c d : Int) : List (List Int) := List.replicate c.toNat (rngI d)
theorem full_lock {c d : Int} (hm : isMake c d) : isLock c d (fullL c d) = true := by
  obtain ⟨m1, m2, m3, m4⟩ := hm
  refine isLock_iff.mpr ⟨by simp [fullL]; omega, fun x hx => ?_⟩
  have := List.eq_of_mem_replicate hx
  rw [this]
  exact full_cuts (by omega)
section
variable {T : Tab} [Le TG T]
theorem size_ev (k : Nat) {lock : List (List Int)} (hl : lock.length ≤ 1000) (hs : ∀ c ∈ lock, c.length ≤ 1000) : ev T (k + 1) 21 [.d (lockD lock)] = .ret (.d (.int (sizeL lock))) := by
  refine eq_call (d := c_law_size) (tg rfl) (by decide) (by decide) rfl ?_
  simp only [c_law_size, startD]
  simp only [lockD]
  simp
  rw [chk_ok (sz_of (by simp; omega))]
  simp
  refine loop_bind (s := fun (m : Int) (j : Option VB) => [some (.d (.tuple (lock.map cutsD))), some (.d (.int m)), j]) (g := fun m c => m * (c.length : Int)) 1 none (fun m j c hc => ?_) fun j => ?_
  · have hb : -(2 ^ 64) < (c.length : Int) ∧ (c.length : Int) < 2 ^ 64 := by
      have e : (2 : Int) ^ 64 = 18446744073709551616 := by decide +kernel
      have := hs c hc
      rw [e]; omega
    exact ⟨some (.d (cutsD c)), by simp [cutsD, mul_r hb]⟩
  · simp [size_fold]
theorem full_ev (k : Nat) {c d : Int} (hm : isMake c d) : ev T (k + 1) 24 [.d (makeD c d)] = .ret (.d (lockD (fullL c d))) := by
  obtain ⟨m1, m2, m3, m4⟩ := hm
  refine eq_call (d := c_law_full) (tg rfl) (by decide) (by decide) rfl ?_
  simp only [c_law_full, startD]
  have hr := rng_ok (show 0 ≤ c by omega) (show c ≤ 1000000 by omega)
  have hr2 := rng_ok (show 0 ≤ d by omega) (show d ≤ 1000000 by omega)
  simp [hr, rngD_eq]
  rw [loopC_all (G := fun _ => cutsD (rngI d)) (fun p hp => by simp [hr2, rngD_eq, cutsD]) (sz_of (by simp; omega))]
  simp [lockD, fullL, List.map_const']
theorem every_ev (k : Nat) {lock : List (List Int)} (hl : lock.length ≤ 5) (hs : ∀ c ∈ lock, c.length ≤ 5) : ev T (k + 1) 23 [.d (lockD lock)] = .ret (.d (.list ((prodR lock).map keyD))) := by
  refine det [23] ?_
  refine ok_call (d := c_law_every) (tg rfl) (by decide) (by decide) rfl ?_
  simp only [c_law_every, startD]
  have z0 : (0 : Nat) ≤ SZ := by decide
  have z1 : (1 : Nat) ≤ SZ := by decide
  simp only [lockD]
  simp [z0, z1]
  rw [chk_ok (sz_of (by simp; omega))]
  simp
  refine loopF_ok (fun i σ => ∃ b x2 x3 x4 x5, σ = [some (.d (.tuple (lock.map cutsD))), some (if b = true then .own ((prodR (lock.take i)).map keyD) else .d (.list ((prodR (lock.take i)).map keyD))), x2, x3, x4, x5]) ⟨false, none, none, none, none, rfl⟩ ?_ ?_
  · rintro i hi σ ⟨b, x2, x3, x4, x5, rfl⟩
    have hci := hs lock[i] (List.getElem_mem hi)
    have hnext : prodR (lock.take (i + 1)) = stepR (prodR (lock.take i)) lock[i] := by
      rw [← fold_prod1, ← fold_prod1, List.take_succ_eq_append_getElem hi, List.foldl_append]
      rfl
    have hlen : (prodR (lock.take i)).length ≤ 3125 := Nat.le_trans (prod_le (m := 5) (n := 5) (by decide) (by simp; omega) fun c hc => hs c (List.mem_of_mem_take hc)) (by decide)
    have hrow : ∀ row ∈ prodR (lock.take i), row.length ≤ 5 := fun row hr => by
      rw [(mem_prod.mp hr).len]
      simp
      omega
    rw [hnext]
    generalize prodR (lock.take i) = rows at hlen hrow
    cases b
    all_goals
      simp [z0]
      rw [chk_ok (sz_of (by simp; omega))]
      simp
      refine loopF_ok (fun n σ => ∃ x4 x5, σ = [some (.d (.tuple (lock.map cutsD))), some (.d (.list (rows.map keyD))), some (.d (cutsD lock[i])), some (.own ((stepR (rows.take n) lock[i]).map keyD)), x4, x5]) ⟨x4, x5, rfl⟩ ?_ ?_
      · rintro n hn σ ⟨x4, x5, rfl⟩
        have hr := hrow rows[n] (List.getElem_mem hn)
        have e1 : stepR (rows.take (n + 1)) lock[i] = stepR (rows.take n) lock[i] ++ lock[i].map fun x => rows[n] ++ [x] := by
          unfold stepR
          rw [List.take_succ_eq_append_getElem hn, List.flatMap_append]
          simp
        have e2 : (stepR (rows.take n) lock[i]).length ≤ 15625 := by
          rw [stepR_len]
          calc _ ≤ 3125 * 5 := Nat.mul_le_mul (by simp; omega) hci
            _ = 15625 := rfl
        simp [cutsD]
        rw [chk_ok (sz_of (by simp; omega))]
        simp
        rw [loopC_all (G := fun x => keyD (rows[n] ++ [x])) (fun x hx => by simp [z1, keyD, binD, sz_of (show rows[n].length + 1 ≤ 1000000 by omega)]) (sz_of (by simp; omega))]
        simp
        rw [meth_ext _ _ (sz_of (by simp; omega))]
        simp
        rw [e1]
        simp
      · rintro σ ⟨x4, x5, rfl⟩
        simp
        try exact ⟨true, _, _, _, _, rfl⟩
  · rintro σ ⟨b, x2, x3, x4, x5, rfl⟩
    cases b <;> simp
end
end KC
/-! KM4: told and due; locks together (k04). -/
namespace KC
open PySem KB
open KA hiding rd esc op1 op2 rds newM bltV bltVs bindTg wipeD loopC loopC2 keyArgs evE evEs evXs evAnd evOr evT evTAnd evTOr evC evO evI loopF loopW setItem evS evSs startD evCall rd_d esc_d op1_d op2_d rds_nil newM_false newM_true evT_cmp SR R
/-- data that is told: d deep at most -/
def plainN : Nat → PD → Bool
  | _, .none => true
  | _, .bool _ => true
  | _, .int _ => true
  | _, .str _ => true
  | d + 1, .list xs => decide (xs.length ≤ 1000000) && xs.all (plainN d)
  | d + 1, .tuple xs => decide (xs.length ≤ 1000000) && xs.all (plainN d)
  | _, _ => false
/-- [1 for .. if ..] == [] -/
theorem ones {γ : Type} (l : List γ) (p : γ → Bool) : eqD (.list ((l.filter p).map fun _ => .int 1)) (.list []) = some (l.all fun x => !p x) := by
  have h := eq_ints_l ((l.filter p).map fun _ => (1 : Int)) []
  rw [List.map_map] at h
  have e : ((fun _ => PyData.int 1) : γ → PD) = PyData.int ∘ fun _ => (1 : Int) := rfl
  rw [e]
  rw [List.map_nil] at h
  rw [h]
  congr 1
  rw [Bool.eq_iff_iff]
  simp
section
variable {T : Tab} [Le TG T]
theorem same_ev : ∀ (d : Nat) (x : PD) (k : Nat), plainN d x = true → ev T (k + (d + 1)) 1 [.d x, .d x] = .ret (.d (.bool true)) := by
  intro d
  induction d with
  | zero =>
    intro x k hx
    refine eq_call (d := c_law_same) (tg rfl) (by decide) (by decide) rfl ?_
    simp only [c_law_same, startD]
    cases x <;> simp [plainN] at hx <;> simp [isTy, tyD, cmpD, eqD]
  | succ d ih =>
    intro x k hx
    refine eq_call (d := c_law_same) (tg rfl) (by decide) (by decide) rfl ?_
    simp only [c_law_same, startD]
    have e0 : k + (d + 1) = k + d + 1 := rfl
    cases x with
    | list xs =>
      simp [plainN] at hx
      simp [isTy, tyD, zipD_self]
      rw [chk_ok (sz_of (by simp; omega))]
      simp
      rw [loopC_eq (p := fun _ => false) (G := fun y => y) (fun y hy => by have := ih y k (hx.2 y hy); simp at this ⊢; simp [this]) (sz_of (by simp; omega))]
      simp [cmpD, filter_no]
    | tuple xs =>
      simp [plainN] at hx
      simp [isTy, tyD, zipD_self]
      rw [chk_ok (sz_of (by simp; omega))]
      simp
      rw [loopC_eq (p := fun _ => false) (G := fun y => y) (fun y hy => by have := ih y k (hx.2 y hy); simp at this ⊢; simp [this]) (sz_of (by simp; omega))]
      simp [cmpD, filter_no]
    | dict _ => simp [plainN] at hx
    | _ => simp [isTy, tyD, cmpD, eqD]
/-! ### both, within -/
def bothL (lock other : List (List Int)) : List (List Int) := (lock.zip other).map fun p => p.1.filter fun x => decide (x ∈ p.2)
def bothV (lock other : List (List Int)) : PD := if [] ∈ bothL lock other then .none else lockD (bothL lock other)
def withinL (lock other : List (List Int)) : Bool := (lock.zip other).all fun p => p.1.all fun x => decide (x ∈ p.2)
theorem both_locks_ev (k : Nat) {c d : Int} (hm : isMake c d) {lock other : List (List Int)} (h1 : isLock c d lock = true) (h2 : isLock c d other = true) : ev T (k + 6) 56 [.d (makeD c d), .d (lockD lock), .d (lockD other)] = .ret (.d (bothV lock other)) := by
  obtain ⟨l1, l2, _⟩ := lock_len hm h1
  refine eq_call (d := c_both_locks) (tg rfl) (by decide) (by decide) rfl ?_
  simp only [c_both_locks, startD]
  simp [need_lock_ev _ hm h1, need_lock_ev _ hm h2]
  simp only [lockD]
  simp [zipD_map]
  rw [chk_ok (sz_of (by simp; omega))]
  simp
  rw [loopC_all (G := fun p => cutsD (p.1.filter fun x => decide (x ∈ p.2))) (fun p hp => ?_) (sz_of (by simp; omega))]
  · have z0 : (0 : Nat) ≤ SZ := by decide
    have e : (lock.zip other).map (fun p => cutsD (p.1.filter fun x => decide (x ∈ p.2))) = (bothL lock other).map cutsD := by simp [bothL, List.map_map, Function.comp_def]
    have e0 : PyData.tuple [] = cutsD [] := rfl
    simp [z0, cmpD, e, e0, in_cuts]
    unfold bothV
    split <;> simp_all [lockD]
  · have hp1 := l2 _ (List.of_mem_zip hp).1
    simp [cutsD]
    rw [chk_ok (sz_of (by simp; omega))]
    simp
    rw [loopC_eq (p := fun x => decide (x ∈ p.2)) (G := .int) (fun x hx => by simp [cmpD, in_ints]; split <;> simp_all) (sz_of (by simp; omega))]
    simp
theorem law_both_ev (k : Nat) {lock other : List (List Int)} (l1 : lock.length ≤ 5) (l2 : ∀ x ∈ lock, x.length ≤ 5) : ev T (k + 1) 59 [.d (lockD lock), .d (lockD other)] = .ret (.d (bothV lock other)) := by
  refine eq_call (d := c_law_both) (tg rfl) (by decide) (by decide) rfl ?_
  simp only [c_law_both, startD]
  simp only [lockD]
  simp [zipD_map]
  rw [chk_ok (sz_of (by simp; omega))]
  simp
  rw [loopC_all (G := fun p => cutsD (p.1.filter fun x => decide (x ∈ p.2))) (fun p hp => ?_) (sz_of (by simp; omega))]
  · have z0 : (0 : Nat) ≤ SZ := by decide
    have e : (lock.zip other).map (fun p => cutsD (p.1.filter fun x => decide (x ∈ p.2))) = (bothL lock other).map cutsD := by simp [bothL, List.map_map, Function.comp_def]
    have e0 : PyData.tuple [] = cutsD [] := rfl
    simp [z0, cmpD, e, e0, in_cuts]
    unfold bothV
    split <;> simp_all [lockD]
  · have hp1 := l2 _ (List.of_mem_zip hp).1
    simp [cutsD]
    rw [chk_ok (sz_of (by simp; omega))]
    simp
    rw [loopC_eq (p := fun x => decide (x ∈ p.2)) (G := .int) (fun x hx => by simp [cmpD, in_ints]; split <;> simp_all) (sz_of (by simp; omega))]
    simp
theorem flat_le {γ δ : Type} {G : γ → List δ} {b : Nat} : ∀ {l : List γ}, (∀ x ∈ l, (G x).length ≤ b) → (l.flatMap G).length ≤ l.length * b
  | [], _ => by simp
  | x :: r, h => by
    have h1 := flat_le (G := G) (b := b) (l := r) fun y hy => h y (by simp [hy])
    have h2 := h x (by simp)
    rw [List.flatMap_cons, List.length_append, List.length_cons, Nat.succ_mul]
    omega
theorem is_within2_ev (k : Nat) {c d : Int} (hm : isMake c d) {lock other : List (List Int)} (h1 : isLock c d lock = true) (h2 : isLock c d other = true) : ev T (k + 6) 55 [.d (makeD c d), .d (lockD lock), .d (lockD other)] = .ret (.d (.bool (withinL lock other))) := by
  obtain ⟨l1, l2, _⟩ := lock_len hm h1
  refine eq_call (d := c_is_within_2) (tg rfl) (by decide) (by decide) rfl ?_
  simp only [c_is_within_2, startD]
  simp [need_lock_ev _ hm h1, need_lock_ev _ hm h2]
  simp only [lockD]
  simp [zipD_map]
  rw [chk_ok (sz_of (by simp; omega))]
  simp
  let mk : Int × List Int → PD := fun q => .bool (decide (q.1 ∈ q.2))
  have hb : ((lock.zip other).flatMap fun p => (p.1.map fun x => (x, p.2)).map mk).length ≤ 25 := by
    have := flat_le (G := fun p : List Int × List Int => (p.1.map fun x => (x, p.2)).map mk) (b := 5) (l := lock.zip other) fun p hp => by simpa using l2 _ (List.of_mem_zip hp).1
    simp at this ⊢
    omega
  rw [loopC2_all (G := fun p => (p.1.map fun x => (x, p.2)).map mk) (fun p hp a ha => ?_)]
  · simp only [List.nil_append, B.bind_ret]
    rw [← List.map_flatMap]
    simp [mk, withinL, Function.comp_def]
  · have hp1 := l2 _ (List.of_mem_zip hp).1
    simp [cutsD]
    rw [chk_ok (sz_of (by simp; omega))]
    simp
    rw [loopC_all (G := fun x => mk (x, p.2)) (fun x hx => by simp [cmpD, in_ints, mk]) (sz_of (by simp only [List.length_map, List.length_nil] at ha hb; omega))]
    simp [List.map_map, Function.comp_def]
theorem law_opens_ev (k : Nat) {lock : List (List Int)} {key : List Int} (hl : lock.length ≤ 1000) : ev T (k + 1) 57 [.d (lockD lock), .d (keyD key)] = .ret (.d (.bool (doesOpen lock key))) := by
  refine eq_call (d := c_law_opens) (tg rfl) (by decide) (by decide) rfl ?_
  simp only [c_law_opens, startD]
  have z0 : (0 : Nat) ≤ SZ := by decide
  simp only [lockD, keyD]
  simp [zipD_map]
  rw [chk_ok (sz_of (by simp; omega))]
  simp
  rw [loopC_eq (p := fun p => decide (p.2 ∉ p.1)) (G := fun _ => .int 1) (fun x hx => by simp [cmpD, cutsD, in_ints]; split <;> simp_all) (sz_of (by simp; omega))]
  simp [z0, cmpD, ones]
  unfold doesOpen
  rw [Bool.eq_iff_iff]
  simp
  constructor
  · intro h a b hab
    have := h b a (by rw [List.mem_iff_getElem?] at hab ⊢; obtain ⟨i, hi⟩ := hab; refine ⟨i, ?_⟩; rw [List.getElem?_zip_eq_some] at hi ⊢; exact ⟨hi.2, hi.1⟩)
    exact this
  · intro h a b hab
    have := h b a (by rw [List.mem_iff_getElem?] at hab ⊢; obtain ⟨i, hi⟩ := hab; refine ⟨i, ?_⟩; rw [List.getElem?_zip_eq_some] at hi ⊢; exact ⟨hi.2, hi.1⟩)
    exact this
/-! ### plain facts -/
theorem doesOpen_cons (c : List Int) (l : List (List Int)) (x : Int) (k : List Int) : doesOpen (c :: l) (x :: k) = (decide (x ∈ c) && doesOpen l k) := by simp [doesOpen]
theorem both_open : ∀ {lock other : List (List Int)} {key : List Int}, lock.length = key.length → other.length = key.length → doesOpen (bothL lock other) key = (doesOpen lock key && doesOpen other key)
  | [], [], [], _, _ => by simp [bothL, doesOpen]
  | a :: l, b :: m, x :: k, h1, h2 => by
    have ih := both_open (lock := l) (other := m) (key := k) (by simpa using h1) (by simpa using h2)
    have e : bothL (a :: l) (b :: m) = (a.filter fun x => decide (x ∈ b)) :: bothL l m := by simp [bothL]
    rw [e, doesOpen_cons, doesOpen_cons, doesOpen_cons, ih, Bool.eq_iff_iff]
    simp
    constructor
    · rintro ⟨⟨h1, h2⟩, h3, h4⟩; exact ⟨⟨h1, h3⟩, h2, h4⟩
    · rintro ⟨⟨h1, h3⟩, h2, h4⟩; exact ⟨⟨h1, h2⟩, h3, h4⟩
  | [], _ :: _, [], _, h => by simp at h
  | _ :: _, _, [], h, _ => by simp at h
  | [], _, _ :: _, h, _ => by simp at h
  | _ :: _, [], _ :: _, _, h => by simp at h
theorem empty_shut : ∀ {lock : List (List Int)} {key : List Int}, lock.length = key.length → [] ∈ lock → doesOpen lock key = false
  | a :: l, x :: k, h, hm => by
    rw [doesOpen_cons]
    rcases List.mem_cons.mp hm with e | e
    · rw [← e]; simp
    · rw [empty_shut (by simpa using h) e]; simp
  | _ :: _, [], h, _ => by simp at h
theorem both_comm_mem {lock other : List (List Int)} : True := trivial
theorem both_lock {c d : Int} {lock other : List (List Int)} (h1 : isLock c d lock = true) (h2 : isLock c d other = true) (hn : [] ∉ bothL lock other) : isLock c d (bothL lock other) = true := by
  obtain ⟨a1, a2⟩ := isLock_iff.mp h1
  obtain ⟨b1, b2⟩ := isLock_iff.mp h2
  refine isLock_iff.mpr ⟨by simp [bothL]; omega, fun x hx => ?_⟩
  have hx' := hx
  unfold bothL at hx
  obtain ⟨p, hp, rfl⟩ := List.mem_map.mp hx
  exact areCuts_sub (a2 _ (List.of_mem_zip hp).1) List.filter_sublist fun e => hn (e ▸ hx')
theorem within_keys : ∀ {lock other : List (List Int)}, lock.length = other.length → (∀ c ∈ lock, c ≠ []) → ((∀ k, Opn k lock → Opn k other) ↔ withinL lock other = true)
  | [], [], _, _ => by
    simp [withinL]
  | a :: l, b :: m, h, hn => by
    have ih := within_keys (lock := l) (other := m) (by simpa using h) fun c hc => hn c (by simp [hc])
    have ex : ∀ l : List (List Int), (∀ c ∈ l, c ≠ []) → ∃ k, Opn k l := fun l => by
      induction l with
      | nil => intro _; exact ⟨[], trivial⟩
      | cons c r ih =>
        intro hl
        obtain ⟨k, hk⟩ := ih fun c hc => hl c (by simp [hc])
        obtain ⟨x, hx⟩ := List.exists_mem_of_ne_nil c (hl c (by simp))
        exact ⟨x :: k, hx, hk⟩
    have e : withinL (a :: l) (b :: m) = ((a.all fun x => decide (x ∈ b)) && withinL l m) := by simp [withinL]
    rw [e]
    simp only [Bool.and_eq_true, ← ih]
    constructor
    · intro hk
      obtain ⟨k0, hk0⟩ := ex l fun c hc => hn c (by simp [hc])
      obtain ⟨x0, hx0⟩ := List.exists_mem_of_ne_nil a (hn a (by simp))
      refine ⟨?_, fun k ho => (hk (x0 :: k) ⟨hx0, ho⟩).2⟩
      simp
      intro x hx
      exact (hk (x :: k0) ⟨hx, hk0⟩).1
    · rintro ⟨h1, h2⟩ k ho
      cases k with
      | nil => exact ho.elim
      | cons x k =>
        simp at h1
        exact ⟨h1 x ho.1, h2 k ho.2⟩
  | [], _ :: _, h, _ => by simp at h
  | _ :: _, [], h, _ => by simp at h
theorem within_all {lock other : List (List Int)} (h : lock.length = other.length) (hn : ∀ c ∈ lock, c ≠ []) : ((prodR lock).all fun k => doesOpen other k) = withinL lock other := by
  rw [Bool.eq_iff_iff, ← within_keys h hn, List.all_eq_true]
  constructor
  · intro hk k ho
    exact (opn_iff (by rw [ho.len, h])).mp (hk k (mem_prod.mpr ho))
  · intro hk k hm
    have ho := mem_prod.mp hm
    exact (opn_iff (by rw [ho.len, h])).mpr (hk k ho)
theorem law_within_ev (k : Nat) {c d : Int} (hm : isMake c d) {lock other : List (List Int)} (h1 : isLock c d lock = true) (h2 : isLock c d other = true) : ev T (k + 2) 58 [.d (makeD c d), .d (lockD lock), .d (lockD other)] = .ret (.d (.bool (withinL lock other))) := by
  obtain ⟨l1, l2, l3⟩ := lock_len hm h1
  obtain ⟨m1, m2, m3⟩ := lock_len hm h2
  have hll : lock.length = other.length := by
    have := (isLock_iff.mp h1).1
    have := (isLock_iff.mp h2).1
    omega
  have z0 : (0 : Nat) ≤ SZ := by decide
  refine det [58, 21, 23, 57] ?_
  refine ok_call (d := c_law_within) (tg rfl) (by decide) (by decide) rfl ?_
  simp only [c_law_within, startD]
  simp [size_ev _ (show lock.length ≤ 1000 by omega) (fun x hx => by have := l2 x hx; omega)]
  by_cases hs : sizeL lock ≤ 40
  · have hp : (prodR lock).length ≤ 40 := by unfold sizeL at hs; omega
    simp [hs, every_ev _ l1 l2]
    rw [chk_ok (sz_of (by simp; omega))]
    simp
    rw [loopC_eq (p := fun k => !(doesOpen other k)) (G := fun _ => .int 1) (fun x hx => by simp [law_opens_ev _ (show other.length ≤ 1000 by omega)]; split <;> simp_all) (sz_of (by simp; omega))]
    simp [z0, cmpD, ones]
    have := within_all hll l3
    simpa using this
  · simp [hs]
    simp only [lockD]
    simp [zipD_map]
    rw [chk_ok (sz_of (by simp; omega))]
    simp
    refine loopF_ok (fun i σ => ((lock.zip other).take i).all (fun p => p.1.all fun x => decide (x ∈ p.2)) = true ∧ ∃ x3 x4 x5 x6, σ = [some (.d (makeD c d)), some (.d (.tuple (lock.map cutsD))), some (.d (.tuple (other.map cutsD))), x3, x4, x5, x6]) ⟨by simp, none, none, none, none, rfl⟩ ?_ ?_
    · rintro i hi σ ⟨hI, x3, x4, x5, x6, rfl⟩
      have hpl : (lock.zip other)[i].1.length ≤ 5 := l2 _ (List.of_mem_zip (List.getElem_mem hi)).1
      have hlast : ((lock.zip other).take (i + 1)).all (fun p => p.1.all fun x => decide (x ∈ p.2)) = ((lock.zip other)[i].1.all fun x => decide (x ∈ (lock.zip other)[i].2)) := by
        rw [List.take_succ_eq_append_getElem hi, List.all_append, hI]
        simp
      have hw : withinL lock other = true → ((lock.zip other)[i].1.all fun x => decide (x ∈ (lock.zip other)[i].2)) = true := fun h => List.all_eq_true.mp h _ (List.getElem_mem hi)
      rw [hlast]
      generalize (lock.zip other)[i] = p at hpl hw
      obtain ⟨pa, pb⟩ := p
      have hpl : pa.length ≤ 5 := hpl
      simp [cutsD]
      rw [chk_ok (sz_of (by simp; omega))]
      simp
      rw [loopC_eq (p := fun x => decide (x ∉ pb)) (G := fun _ => .int 1) (fun x hx => by simp [cmpD, in_ints]; split <;> simp_all) (sz_of (by simp; omega))]
      simp [z0, cmpD, ones]
      by_cases hq : ∃ x, x ∈ pa ∧ ¬x ∈ pb
      · rw [if_pos hq]
        obtain ⟨x, hx1, hx2⟩ := hq
        simp
        cases hwl : withinL lock other with
        | false => rfl
        | true =>
          have := List.all_eq_true.mp (hw hwl) x hx1
          exact absurd (by simpa using this) hx2
      · rw [if_neg hq]
        simp
        exact fun x hx => Classical.byContradiction fun hn => hq ⟨x, hx, hn⟩
    · rintro σ ⟨hI, x3, x4, x5, x6, rfl⟩
      rw [List.take_length] at hI
      have hI' : withinL lock other = true := hI
      rw [hI']
end
end KC
/-! KM5: the law k04. -/
namespace KC
open PySem KB
open KA hiding rd esc op1 op2 rds newM bltV bltVs bindTg wipeD loopC loopC2 keyArgs evE evEs evXs evAnd evOr evT evTAnd evTOr evC evO evI loopF loopW setItem evS evSs startD evCall rd_d esc_d op1_d op2_d rds_nil newM_false newM_true evT_cmp SR R
/-! ### sorted(set(..)) -/
theorem mem_insS {x y : Int} : ∀ {l : List Int}, y ∈ insS x l ↔ y = x ∨ y ∈ l
  | [] => by simp [insS]
  | a :: r => by
    unfold insS
    split
    · simp
    · split
      · rename_i h1 h2
        subst h2
        simp
      · simp [mem_insS (l := r)]
        constructor
        · rintro (h | h | h)
          · exact .inr (.inl h)
          · exact .inl h
          · exact .inr (.inr h)
        · rintro (h | h | h)
          · exact .inr (.inl h)
          · exact .inl h
          · exact .inr (.inr h)
theorem asc_insS {x : Int} : ∀ {l : List Int}, l.Pairwise (· < ·) → (insS x l).Pairwise (· < ·)
  | [], _ => by simp [insS]
  | a :: r, h => by
    obtain ⟨h1, h2⟩ := List.pairwise_cons.mp h
    unfold insS
    split
    · rename_i hx
      refine List.pairwise_cons.mpr ⟨fun b hb => ?_, h⟩
      rcases List.mem_cons.mp hb with e | e
      · rw [e]; exact hx
      · have := h1 b e; omega
    · split
      · exact h
      · rename_i hx hy
        refine List.pairwise_cons.mpr ⟨fun b hb => ?_, asc_insS h2⟩
        rcases mem_insS.mp hb with e | e
        · rw [e]; omega
        · exact h1 b e
theorem mem_setI {y : Int} : ∀ {l : List Int}, y ∈ setI l ↔ y ∈ l
  | [] => by simp [setI]
  | a :: r => by
    unfold setI
    rw [mem_insS, mem_setI (l := r)]
    simp
theorem asc_setI : ∀ (l : List Int), (setI l).Pairwise (· < ·)
  | [] => by simp [setI]
  | a :: r => by
    unfold setI
    exact asc_insS (asc_setI r)
theorem setI_cuts {d : Int} {l : List Int} (h : l ≠ []) (h2 : ∀ x ∈ l, 0 ≤ x ∧ x < d) : areCuts d (setI l) = true := by
  refine areCuts_iff.mpr ⟨fun e => ?_, fun x hx => h2 x (mem_setI.mp hx), asc_setI l⟩
  obtain ⟨x, hx⟩ := List.exists_mem_of_ne_nil l h
  have := mem_setI.mpr hx
  rw [e] at this
  simp at this
theorem sset_ints {l : List Int} (h : l.length < 64) : ssetD (.tuple (l.map .int)) = some (.list ((setI l).map .int)) := by
  unfold ssetD
  dsimp only
  rw [intsD_mp]
  dsimp only
  rw [if_pos h]
theorem eq_cuts (a b : List Int) : eqD (cutsD a) (cutsD b) = some (decide (a = b)) := eq_keys a b
/-! ### slices of a lock -/
@[simp] theorem slc_lock (l : List (List Int)) (n : Nat) : slcD (lockD l) none (some (n : Int)) = some (lockD (l.take n)) := by
  show some (PyData.tuple (cutD (l.map cutsD) none (some (n : Int)))) = _
  rw [cut_take, ← List.map_take]
  rfl
@[simp] theorem slc_lock1 (l : List (List Int)) (n : Nat) : slcD (lockD l) (some ((n : Int) + 1)) none = some (lockD (l.drop (n + 1))) := by
  show some (PyData.tuple (cutD (l.map cutsD) (some ((n : Int) + 1)) none)) = _
  have e : (n : Int) + 1 = ((n + 1 : Nat) : Int) := by omega
  rw [e, cut_dropn, ← List.map_drop]
  rfl
theorem add_lock {a b : List (List Int)} (h : a.length + b.length ≤ 1000) : binD .Add (lockD a) (lockD b) = some (lockD (a ++ b)) := by
  show (if (a.map cutsD).length + (b.map cutsD).length ≤ SZ then some (PyData.tuple (a.map cutsD ++ b.map cutsD)) else none) = _
  rw [if_pos (sz_of (by simp; omega)), ← List.map_append]
  rfl
theorem lock_put {c d : Int} {lock : List (List Int)} (h : isLock c d lock = true) {i : Nat} (hi : i < lock.length) {x : List Int} (hx : areCuts d x = true) : isLock c d (lock.take i ++ [x] ++ lock.drop (i + 1)) = true := by
  obtain ⟨h1, h2⟩ := isLock_iff.mp h
  refine isLock_iff.mpr ⟨by simp; omega, fun y hy => ?_⟩
  simp at hy
  rcases hy with e | e | e
  · exact h2 y (List.mem_of_mem_take e)
  · rw [e]; exact hx
  · exact h2 y (List.mem_of_mem_drop e)
section
variable {T : Tab} [Le TG T]
theorem near_ev (k : Nat) {c d : Int} (hm : isMake c d) {lock : List (List Int)} (hlock : isLock c d lock = true) : Ok (ev T (k + 4) 61 [.feed, .d (makeD c d), .d (lockD lock)]) fun v => ∃ other, v = .d (lockD other) ∧ isLock c d other = true := by
  obtain ⟨l1, l2, l3⟩ := lock_len hm hlock
  obtain ⟨hc, hcuts⟩ := isLock_iff.mp hlock
  have hm' := hm
  obtain ⟨m1, m2, m3, m4⟩ := hm'
  have z0 : (0 : Nat) ≤ SZ := by decide
  have z1 : (1 : Nat) ≤ SZ := by decide
  have hrd := rng_ok (show 0 ≤ d by omega) (show d ≤ 1000000 by omega)
  refine ok_call (d := c_law_near) (tg rfl) (by decide) (by decide) rfl ?_
  simp only [c_law_near, startD]
  simp [draw_ev]
  intro w w0 w1
  refine (lock_ev _ hm).mono fun v ⟨got, e, hgot⟩ => ?_
  subst e
  obtain ⟨g1, g2, g3⟩ := lock_len hm hgot
  obtain ⟨hcg, hcutsg⟩ := isLock_iff.mp hgot
  simp
  by_cases q0 : w = 0
  · simp [q0]
    exact hlock
  by_cases q1 : w = 1
  · simp [q1]
    rw [chk_ok (sz_of (by simp; omega))]
    simp
    refine loopC_each (G := cutsD) (P := fun x => areCuts d x = true) (fun x hx => ?_) (sz_of (by omega)) fun m hl hP => ?_
    · obtain ⟨a, r, hxr⟩ := List.exists_cons_of_ne_nil (l3 x hx)
      have hx5 := l2 x hx
      have hcx := hcuts x hx
      subst hxr
      simp [cutsD]
      rw [chk_ok (sz_of (by simp at hx5 ⊢; omega))]
      simp
      rw [← List.map_cons]
      refine loopC_sub (must := fun y => y = a) (G := .int) (fun y hy => ?_) (sz_of (by simp at hx5 ⊢; omega)) fun m hs hmust => ?_
      · simp
        by_cases hya : y = a
        · simp [hya]
        · simp [hya, draw_ev]
          intro i i0 i1
          by_cases hi : 0 < i
          · simp [hi]
          · simp [hi]
      · simp
        refine ⟨m, rfl, areCuts_sub hcx hs fun e => ?_⟩
        have := hmust a (by simp) rfl
        rw [e] at this
        simp at this
    · exact ⟨m, rfl, isLock_iff.mpr ⟨by omega, hP⟩⟩
  by_cases q2 : w = 2
  · simp [q2]
    have e : zipP (lockD lock) (lockD got) = some (zipD (lock.map cutsD) (got.map cutsD)) := rfl
    simp [e, zipD_map]
    rw [chk_ok (sz_of (by simp; omega))]
    simp
    rw [loopC_all (G := fun p => cutsD (setI (p.1 ++ p.2))) (fun p hp => ?_) (sz_of (by simp; omega))]
    · simp
      refine ⟨(lock.zip got).map fun p => setI (p.1 ++ p.2), by simp [lockD, List.map_map, Function.comp_def], isLock_iff.mpr ⟨by simp; omega, fun x hx => ?_⟩⟩
      obtain ⟨p, hp, rfl⟩ := List.mem_map.mp hx
      have ha := hcuts _ (List.of_mem_zip hp).1
      have hb := hcutsg _ (List.of_mem_zip hp).2
      refine setI_cuts (fun e => (areCuts_iff.mp ha).1 (by simp at e; exact e.1)) fun y hy => ?_
      rcases List.mem_append.mp hy with h | h
      · exact (areCuts_iff.mp ha).2.1 y h
      · exact (areCuts_iff.mp hb).2.1 y h
    · have ha := l2 _ (List.of_mem_zip hp).1
      have hb := g2 _ (List.of_mem_zip hp).2
      have e : binD .Add (cutsD p.1) (cutsD p.2) = some (.tuple ((p.1 ++ p.2).map .int)) := add_key (a := p.1) (b := p.2) (by omega)
      simp only [evE, bind_tp2, B.opt_some, B.bind_ret]
      simp [e]
      rw [← List.map_append, sset_ints (by simp; omega)]
      simp [cutsD]
  by_cases q3 : w = 3
  · simp [q3, draw_ev, show c < 18446744073709551616 by omega]
    refine ⟨by omega, fun i i0 i1 => ?_⟩
    obtain ⟨i, rfl, hi⟩ := nat_of i0 i1
    have hil : i < lock.length := by omega
    have hat : subD (lockD lock) (.int (i : Int)) = some (cutsD lock[i]) := by
      unfold lockD
      rw [sub_tup_nat]
      simp [hil]
    simp [hrd, rngD_eq]
    rw [loopC_eq (p := fun x => decide (x ∉ lock[i])) (G := .int) (fun x hx => by simp [hat, cmpD, cutsD, in_ints]; split <;> simp_all) (sz_of (by simp; omega))]
    simp [z0]
    have e0 : PyData.tuple [] = cutsD [] := rfl
    have e1 : ∀ l : List Int, PyData.tuple (l.map .int) = cutsD l := fun l => rfl
    have hci := hcuts lock[i] (List.getElem_mem hil)
    rw [e0, e1]
    have e2 : ∀ x : List Int, PyData.tuple [cutsD x] = lockD [x] := fun x => rfl
    have done : ∀ x : List Int, areCuts d x = true → OkX (B.opt (binD .Add (lockD (lock.take i ++ [x])) (lockD (lock.drop (i + 1))))) (fun a => ∃ other, a = lockD other ∧ isLock c d other = true) NoX := fun x hx => by
      rw [add_lock (by simp; omega)]
      simp
      have := lock_put hlock hil hx
      simpa using this
    have add1 : ∀ x : List Int, binD .Add (lockD (lock.take i)) (lockD [x]) = some (lockD (lock.take i ++ [x])) := fun x => add_lock (by simp; omega)
    simp [cmpD, eq_cuts, z1]
    by_cases hq : (rngI d).filter (fun x => !decide (x ∈ lock[i])) = []
    · rw [if_neg (by simp [hq])]
      simp only [hat, B.opt_some, B.bind_ret, ok_ret, ok_bind, esc_d, if_pos z1, e2, op2_d, add1]
      exact done _ hci
    · rw [if_pos (by simp [hq])]
      simp [e2, add1]
      exact done _ (areCuts_sub (full_cuts (by omega)) List.filter_sublist hq)
  simp [q0, q1, q2, q3]
  exact hgot
theorem rn_make {c d : Int} (hm : isMake c d) : Rn 9 1 (makeD c d) := by
  obtain ⟨m1, m2, m3, m4⟩ := hm
  refine rn_tuple (b := 1) (n := 2) (h := 0) (fun x hx => ?_) (by simp)
  simp at hx
  rcases hx with rfl | rfl
  · exact rn_int (by omega) (by omega)
  · exact rn_int (by omega) (by omega)
theorem rn_le {b b' h h' : Nat} {x : PD} (r : Rn b h x) (hb : b ≤ b') (hh : h ≤ h') : Rn b' h' x := ⟨r.sh, r.nd, Nat.le_trans r.dp hh, Nat.le_trans r.ln hb⟩
theorem repr_mll {c d : Int} (hm : isMake c d) {a b : List (List Int)} (h1 : isLock c d a = true) (h2 : isLock c d b = true) : bltD .repr_ [.list [makeD c d, lockD a, lockD b]] = some (.str (PyData.list [makeD c d, lockD a, lockD b]).shown) := by
  refine repr_list (b := 318) (h := 3) (rn_list (b := 103) (n := 3) (h := 2) (fun x hx => ?_) (by simp)) (by decide) (by decide)
  simp at hx
  rcases hx with rfl | rfl | rfl
  · exact rn_le (rn_make hm) (by decide) (by decide)
  · exact rn_lock hm h1
  · exact rn_lock hm h2
theorem plain_cuts (n : Nat) {l : List Int} (h : l.length ≤ 1000000) : plainN (n + 1) (cutsD l) = true := by
  simp [cutsD, plainN, h]
theorem plain_key (n : Nat) {l : List Int} (h : l.length ≤ 1000000) : plainN (n + 1) (keyD l) = true := plain_cuts n h
theorem plain_lock (n : Nat) {c d : Int} (hm : isMake c d) {l : List (List Int)} (h : isLock c d l = true) : plainN (n + 2) (lockD l) = true := by
  obtain ⟨l1, l2, _⟩ := lock_len hm h
  simp [lockD, plainN]
  exact ⟨by omega, fun x hx => plain_cuts n (by have := l2 x hx; omega)⟩
theorem within_comm {lock : List (List Int)} : True := trivial
theorem both_len {lock other : List (List Int)} : (bothL lock other).length = min lock.length other.length := by simp [bothL]
theorem both_swap {c d : Int} {lock other : List (List Int)} (h1 : isLock c d lock = true) (h2 : isLock c d other = true) : bothL lock other = bothL other lock := by
  have key : ∀ (a b : List (List Int)), (∀ x ∈ a, areCuts d x = true) → (∀ x ∈ b, areCuts d x = true) → bothL a b = bothL b a := by
    intro a
    induction a with
    | nil => intro b _ _; cases b <;> simp [bothL]
    | cons x r ih =>
      intro b ha hb
      cases b with
      | nil => simp [bothL]
      | cons y t =>
        have e1 : bothL (x :: r) (y :: t) = (x.filter fun z => decide (z ∈ y)) :: bothL r t := by simp [bothL]
        have e2 : bothL (y :: t) (x :: r) = (y.filter fun z => decide (z ∈ x)) :: bothL t r := by simp [bothL]
        rw [e1, e2, ih t (fun z hz => ha z (by simp [hz])) (fun z hz => hb z (by simp [hz]))]
        congr 1
        -- two ascending lists of the same members
        have hx := (areCuts_iff.mp (ha x (by simp))).2.2
        have hy := (areCuts_iff.mp (hb y (by simp))).2.2
        refine asc_ext (hx.sublist List.filter_sublist) (hy.sublist List.filter_sublist) fun z => ?_
        simp
        exact And.comm
  exact key lock other (isLock_iff.mp h1).2 (isLock_iff.mp h2).2
where asc_ext : ∀ {l m : List Int}, l.Pairwise (· < ·) → m.Pairwise (· < ·) → (∀ z, z ∈ l ↔ z ∈ m) → l = m
  | [], [], _, _, _ => rfl
  | [], b :: m, _, _, h => by have := (h b).mpr (by simp); simp at this
  | a :: l, [], _, _, h => by have := (h a).mp (by simp); simp at this
  | a :: l, b :: m, h1, h2, h => by
    obtain ⟨p1, p2⟩ := List.pairwise_cons.mp h1
    obtain ⟨q1, q2⟩ := List.pairwise_cons.mp h2
    have e : a = b := by
      have ha := (h a).mp (by simp)
      have hb := (h b).mpr (by simp)
      rcases List.mem_cons.mp ha with e | e
      · exact e
      · rcases List.mem_cons.mp hb with e2 | e2
        · exact e2.symm
        · have := q1 a e; have := p1 b e2; omega
    subst e
    congr 1
    refine asc_ext p2 q2 fun z => ?_
    have hz := h z
    simp at hz
    constructor
    · intro hl
      have hne : z ≠ a := fun e => by have := p1 z hl; omega
      rcases hz.mp (.inr hl) with e | e
      · exact absurd e hne
      · exact e
    · intro hl
      have hne : z ≠ a := fun e => by have := q1 z hl; omega
      rcases hz.mpr (.inr hl) with e | e
      · exact absurd e hne
      · exact e
theorem right3_ev (k : Nat) {c d : Int} (hm : isMake c d) {lock other : List (List Int)} (h1 : isLock c d lock = true) (h2 : isLock c d other = true) : Ok (ev T (k + 8) 60 [.feed, .d (makeD c d), .d (lockD lock), .d (lockD other)]) fun v => v = .d (.bool true) := by
  obtain ⟨l1, l2, l3⟩ := lock_len hm h1
  obtain ⟨m1, m2, m3⟩ := lock_len hm h2
  have hm' := hm
  obtain ⟨n1, n2, n3, n4⟩ := hm'
  have hcl := (isLock_iff.mp h1).1
  have hco := (isLock_iff.mp h2).1
  have z3 : (3 : Nat) ≤ SZ := by decide
  have hfull := full_lock hm
  obtain ⟨f1, f2, f3⟩ := lock_len hm hfull
  have hsw : bothV other lock = bothV lock other := by unfold bothV; rw [both_swap h1 h2]
  have hdue : plainN 2 (bothV lock other) = true := by
    unfold bothV
    split
    · rfl
    · rename_i hn
      exact plain_lock 0 hm (both_lock h1 h2 hn)
  have sm1 : ∀ x : PD, plainN 3 x = true → KB.evCall NG T (k + 7) 1 [.d x, .d x] = .ret (.d (.bool true)) := fun x hx => same_ev 3 x (k + 3) hx
  have sb : ∀ b : Bool, KB.evCall NG T (k + 7) 1 [.d (.bool b), .d (.bool b)] = .ret (.d (.bool true)) := fun b => same_ev 0 (.bool b) (k + 6) rfl
  refine ok_call (d := c_law_right_3) (tg rfl) (by decide) (by decide) rfl ?_
  simp only [c_law_right_3, startD]
  have hb1 := law_both_ev (T := T) (k + 6) (other := other) l1 l2
  have hb2 := both_locks_ev (T := T) (k + 1) hm h1 h2
  have hb3 := both_locks_ev (T := T) (k + 1) hm h2 h1
  have hw1 := law_within_ev (T := T) (k + 5) hm h1 h2
  have hw2 := law_within_ev (T := T) (k + 5) hm h2 h1
  have hi1 := is_within2_ev (T := T) (k + 1) hm h1 h2
  have hi2 := is_within2_ev (T := T) (k + 1) hm h2 h1
  rw [hsw] at hb3
  have kwb : keyArgs (parOf T 56) ["other", "lock", "make"] [.d (lockD other), .d (lockD lock), .d (makeD c d)] = some [.d (makeD c d), .d (lockD lock), .d (lockD other)] := by
    rw [par_of (T := T) (f := 56) (d := c_both_locks) rfl]; rfl
  have kwi : keyArgs (parOf T 55) ["other", "lock", "make"] [.d (lockD other), .d (lockD lock), .d (makeD c d)] = some [.d (makeD c d), .d (lockD lock), .d (lockD other)] := by
    rw [par_of (T := T) (f := 55) (d := c_is_within_2) rfl]; rfl
  have p1 : plainN 3 (.list [bothV lock other, bothV lock other, bothV lock other]) = true := by simp [plainN, hdue]
  have p2 : plainN 3 (.list [.bool (withinL lock other), .bool (withinL other lock), .bool (withinL lock other)]) = true := by simp [plainN]
  simp [hb1, z3, repr_mll hm h1 h2, hb2, hb3, kwb, sm1 _ p1, hw1, hw2, hi1, hi2, kwi, sm1 _ p2, full_ev (T := T) (k + 6) hm, size_ev (T := T) (k + 6) (show (fullL c d).length ≤ 1000 by omega) (fun x hx => by have := f2 x hx; omega)]
  refine OkX.mono (Q := fun a => ∃ keys : List (List Int), a = .d (.list (keys.map keyD)) ∧ (∀ x ∈ keys, isKey c d x = true) ∧ keys.length ≤ 3125) ?_ fun a ⟨keys, e, hkeys, hlen⟩ => ?_
  · by_cases hs : sizeL (fullL c d) ≤ 32
    · simp only [hs, if_true]
      have := every_ev (T := T) (k + 6) f1 f2
      simp [this]
      exact ⟨prodR (fullL c d), rfl, fun x hx => opn_key hfull (mem_prod.mp hx), prod_le (m := 5) (n := 5) (by decide) f1 f2⟩
    · simp only [hs, if_false]
      simp [rng_ok (show (0 : Int) ≤ 12 by decide) (show (12 : Int) ≤ 1000000 by decide), rngD_eq]
      refine loopC_each (G := keyD) (P := fun x => isKey c d x = true) (fun y hy => ?_) (sz_of (by simp)) fun m hl hP => ?_
      · rw [chk_ok (sz_of (by simp; omega))]
        simp
        refine loopC_each (G := .int) (P := fun x => 0 ≤ x ∧ x < d) (fun x hx => ?_) (sz_of (by omega)) fun m hl hP => ?_
        · have hx5 := l2 x hx
          have hne := l3 x hx
          have hcx := (areCuts_iff.mp ((isLock_iff.mp h1).2 x hx)).2.1
          simp only [ok_bind]
          refine (one_ev (T := T) (k + 5) (x := cutsD x) (.inr rfl) (by simp; exact List.length_pos_iff.mpr hne) (by simp; omega)).mono fun v ⟨y, hy, e⟩ => ?_
          subst e
          obtain ⟨i, hi, rfl⟩ := List.mem_map.mp hy
          simp
          exact hcx i hi
        · exact ⟨m, rfl, isKey_iff.mpr ⟨by omega, hP⟩⟩
      · simp at hl
        exact ⟨m, rfl, hP, by omega⟩
  · subst e
    simp
    rw [chk_ok (sz_of (by simp; omega))]
    simp only [ok_ret]
    refine loopF_ok (fun i σ => ∃ x8 x11, σ = [some VB.feed, some (VB.d (makeD c d)), some (VB.d (lockD lock)), some (VB.d (lockD other)),
        some (VB.d (PyData.list [PyData.bool (withinL lock other), PyData.bool (withinL other lock), PyData.bool (withinL lock other)])),
        some (VB.d (PyData.list [PyData.bool (withinL lock other), PyData.bool (withinL other lock), PyData.bool (withinL lock other)])),
        some (VB.d (lockD (fullL c d))), some (VB.d (PyData.list (List.map keyD keys))), x8,
        some (VB.d (bothV lock other)),
        some (VB.d (PyData.str (PyData.list [makeD c d, lockD lock, lockD other]).shown)), x11, none, none]) ⟨none, none, rfl⟩ ?_ ?_
    · rintro i hi σ ⟨x8, x11, rfl⟩
      have hk := hkeys _ (List.getElem_mem hi)
      generalize keys[i] = key at hk
      have hkl := (isKey_iff.mp hk).1
      have ho1 := law_opens_ev (T := T) (k + 6) (lock := lock) (key := key) (by omega)
      have ho2 := law_opens_ev (T := T) (k + 6) (lock := other) (key := key) (by omega)
      have hopen := both_open (lock := lock) (other := other) (key := key) (by omega) (by omega)
      have sT := sb true
      have sF := sb false
      by_cases hn : [] ∈ bothL lock other
      · have hd : bothV lock other = .none := by unfold bothV; rw [if_pos hn]
        have hf : (doesOpen lock key && doesOpen other key) = false := by
          rw [← hopen]
          exact empty_shut (by rw [both_len]; omega) hn
        rw [hd]
        rcases Bool.eq_false_or_eq_true (doesOpen lock key) with e1 | e1 <;> rcases Bool.eq_false_or_eq_true (doesOpen other key) with e2 | e2 <;> rw [e1] at ho1 hf <;> rw [e2] at ho2 hf <;> first | (simp at hf; done) | simp [ho1, ho2]
      · have hd : bothV lock other = lockD (bothL lock other) := by unfold bothV; rw [if_neg hn]
        have hop := opens_ev (T := T) (k + 1) hm (both_lock h1 h2 hn) hk
        have hnn : isNonB (VB.d (lockD (bothL lock other))) = false := rfl
        rw [hd]
        rw [hopen] at hop
        rcases Bool.eq_false_or_eq_true (doesOpen lock key) with e1 | e1 <;> rcases Bool.eq_false_or_eq_true (doesOpen other key) with e2 | e2 <;> rw [e1] at ho1 hop <;> rw [e2] at ho2 hop <;> simp at hop <;> simp [ho1, ho2, hop, sT, sF, hnn]
    · rintro σ ⟨x8, x11, rfl⟩
      simp [repr_mll hm h1 h2]
theorem both_self {lock : List (List Int)} : bothL lock lock = lock := by
  induction lock with
  | nil => rfl
  | cons a l ih =>
    have e : bothL (a :: l) (a :: l) = (a.filter fun x => decide (x ∈ a)) :: bothL l l := by simp [bothL]
    rw [e, ih, List.filter_eq_self.mpr (fun x hx => by simpa using hx)]
theorem within_self {lock : List (List Int)} : withinL lock lock = true := by
  induction lock with
  | nil => rfl
  | cons a l ih =>
    simp [withinL] at ih ⊢
    exact ih
theorem law_4_ev (k : Nat) {ns : List Int} (hn : ns.length < 1000) : Ok (ev T (k + 9) 62 [.d (.list (ns.map .int))]) fun v => v = .d (.bool true) := by
  refine ok_call (d := c_law_4) (tg rfl) (by decide) (by decide) rfl ?_
  simp only [c_law_4, startD]
  simp
  obtain ⟨n, hne, n0, n8⟩ : ∃ n : Int, (if (2 : Int) < if (8 : Int) < (ns.length : Int) then 8 else (ns.length : Int) then if (8 : Int) < (ns.length : Int) then 8 else (ns.length : Int) else 2) = n ∧ 0 ≤ n ∧ n ≤ 8 := ⟨_, rfl, by split <;> split <;> omega, by split <;> split <;> omega⟩
  rw [hne]
  simp [rng_ok n0 (show n ≤ 1000000 by omega), rngD_eq]
  refine loopF_ok (fun i σ => ∃ x1 x2 x3 x4 x5, σ = [some (.d (.list (ns.map .int))), x1, x2, x3, x4, x5]) ⟨none, none, none, none, none, rfl⟩ ?_ ?_
  · rintro i hi σ ⟨x1, x2, x3, x4, x5, rfl⟩
    have hk := mem_rngI.mp (List.getElem_mem hi)
    generalize (rngI n)[i] = y at hk
    have hf := fun (y : Int) (h0 : 0 ≤ y) (h1 : y < n) => feed_eq (N := NG) (T := T) (f := 30) (k := k + 7) (ns := ns) (c := y) (tg rfl) (by decide) (by decide) h0 (by omega) hn
    simp [hf _ hk.1 hk.2]
    refine (make_ev (T := T) (k + 5)).mono fun v ⟨c, d, e, hm⟩ => ?_
    subst e
    simp
    refine (lock_ev (T := T) (k + 5) hm).mono fun v ⟨lock, e, hl⟩ => ?_
    subst e
    simp [rng_ok (show (0 : Int) ≤ 5 by decide) (show (5 : Int) ≤ 1000000 by decide)]
    refine loopF_ok (F := PyData.int) (l := rngI 5) (fun i σ => ∃ x5, σ = [some (.d (.list (ns.map .int))), some (VB.d (PyData.int y)), some VB.feed, some (VB.d (makeD c d)), some (VB.d (lockD lock)), x5]) ?_ ?_ ?_
    · exact ⟨x5, rfl⟩
    · rintro j hj σ ⟨x5, rfl⟩
      simp
      refine (near_ev (T := T) (k + 4) hm hl).mono fun v ⟨other, e, ho⟩ => ?_
      subst e
      refine (right3_ev (T := T) k hm hl ho).mono fun v e => ?_
      subst e
      simp
    · rintro σ ⟨x5, rfl⟩
      obtain ⟨l1, l2, l3⟩ := lock_len hm hl
      have z2 : (2 : Nat) ≤ SZ := by decide
      have h1 := both_locks_ev (T := T) (k + 2) hm hl hl
      have hv : bothV lock lock = lockD lock := by
        unfold bothV
        rw [both_self, if_neg fun h => l3 _ h rfl]
      have h2 := is_within2_ev (T := T) (k + 2) hm hl hl
      rw [hv] at h1
      rw [within_self] at h2
      have h3 := same_ev (T := T) 3 (.list [lockD lock, .bool true]) (k + 4) (by simp [plainN, plain_lock 0 hm hl])
      simp [h1, h2, h3, z2]
  · rintro σ ⟨x1, x2, x3, x4, x5, rfl⟩
    simp
end
end KC
/-! KM6: counting and listing keys (k02). -/
namespace KC
open PySem KB
open KA hiding rd esc op1 op2 rds newM bltV bltVs bindTg wipeD loopC loopC2 keyArgs evE evEs evXs evAnd evOr evT evTAnd evTOr evC evO evI loopF loopW setItem evS evSs startD evCall rd_d esc_d op1_d op2_d rds_nil newM_false newM_true evT_cmp SR R
section
variable {T : Tab} [Le TG T]
theorem prod_rows_ev (k : Nat) {lock : List (List Int)} (hl : lock.length ≤ 5) (hs : ∀ c ∈ lock, c.length ≤ 5) : ev T (k + 1) 63 [.d (.list (lock.map cutsD))] = .ret (.own ((prodR lock).map keyD)) := by
  refine det [63] ?_
  refine ok_call (d := c_product_rows_2) (tg rfl) (by decide) (by decide) rfl ?_
  simp only [c_product_rows_2, startD]
  have z0 : (0 : Nat) ≤ SZ := by decide
  have z1 : (1 : Nat) ≤ SZ := by decide
  simp [z0, z1]
  rw [chk_ok (sz_of (by simp; omega))]
  simp
  refine loopF_ok (fun i σ => ∃ x2, σ = [some (.d (.list (lock.map cutsD))), some (.own ((prodR (lock.take i)).map keyD)), x2, none, none]) ⟨none, rfl⟩ ?_ ?_
  · rintro i hi σ ⟨x2, rfl⟩
    have hci := hs lock[i] (List.getElem_mem hi)
    have hnext : prodR (lock.take (i + 1)) = stepR (prodR (lock.take i)) lock[i] := by
      rw [← fold_prod1, ← fold_prod1, List.take_succ_eq_append_getElem hi, List.foldl_append]
      rfl
    have hlen : (prodR (lock.take i)).length ≤ 3125 := Nat.le_trans (prod_le (m := 5) (n := 5) (by decide) (by simp; omega) fun c hc => hs c (List.mem_of_mem_take hc)) (by decide)
    have hrow : ∀ row ∈ prodR (lock.take i), row.length ≤ 5 := fun row hr => by
      rw [(mem_prod.mp hr).len]
      simp
      omega
    rw [hnext]
    generalize prodR (lock.take i) = rows at hlen hrow
    have h15 : rows.length * lock[i].length ≤ 15625 := by
      calc _ ≤ 3125 * 5 := Nat.mul_le_mul hlen hci
        _ = 15625 := rfl
    simp
    rw [chk_ok (sz_of (by simp; omega))]
    simp
    have hfl : (rows.flatMap fun row => lock[i].map fun x => keyD (row ++ [x])) = (stepR rows lock[i]).map keyD := by
      simp [stepR, List.map_flatMap, Function.comp_def]
    rw [loopC2_all (G := fun row => (lock[i].map fun x => keyD (row ++ [x]))) (fun row hrw a ha => ?_)]
    · rw [hfl]
      simp
    · have hr := hrow row hrw
      rw [hfl] at ha
      simp [stepR_len] at ha
      simp [cutsD]
      rw [chk_ok (sz_of (by simp; omega))]
      simp only [B.bind_ret]
      rw [loopC_all (G := fun x => keyD (row ++ [x])) (fun x hx => by simp [z1, keyD, binD, sz_of (show row.length + 1 ≤ 1000000 by omega)]) (sz_of (by omega))]
  · rintro σ ⟨x2, rfl⟩
    simp
theorem eq_callO {k f : Nat} {d : FD} {vs : List VB} {x : List PD} (hT : T f = some d) (h1 : f ∉ NG.draw) (h2 : f ∉ NG.feed) (hl : vs.length = d.np) (hm : d.retM = true) (h : KB.evSs (KB.evCall NG T k) (parOf T) d.body (KB.startD d.N.length vs) = .ret (.rt (.own x))) : KB.evCall NG T (k + 1) f vs = .ret (.own x) := by
  rw [call_eq hT h1 h2 hl, h, hm]
  rfl
theorem key_list_ev (k : Nat) {lock : List (List Int)} (hl : lock.length ≤ 5) (hs : ∀ c ∈ lock, c.length ≤ 5) : ev T (k + 2) 64 [.d (lockD lock)] = .ret (.own ((prodR lock).map keyD)) := by
  refine eq_callO (d := c_key_list_2) (tg rfl) (by decide) (by decide) rfl rfl ?_
  simp only [c_key_list_2, startD]
  have := prod_rows_ev (T := T) k hl hs
  simp [lockD, bltD, this]
theorem prod_of_ev (k : Nat) {l : List Int} (hl : l.length ≤ 1000) (hs : ∀ x ∈ l, 0 ≤ x ∧ x ≤ 1000) : ev T (k + 1) 34 [.d (.list (l.map .int))] = .ret (.d (.int (l.foldl (fun a b => a * b) 1))) := by
  refine eq_call (d := c_product_of) (tg rfl) (by decide) (by decide) rfl ?_
  simp only [c_product_of, startD]
  simp
  rw [chk_ok (sz_of (by simp; omega))]
  simp
  refine loop_bind (s := fun (m : Int) (j : Option VB) => [some (.d (.list (l.map .int))), some (.d (.int m)), j]) (g := fun m c => m * c) 1 none (fun m j c hc => ?_) fun j => ?_
  · have hb : -(2 ^ 64) < c ∧ c < 2 ^ 64 := by
      have e : (2 : Int) ^ 64 = 18446744073709551616 := by decide +kernel
      have := hs c hc
      rw [e]; omega
    exact ⟨some (.d (.int c)), by simp [mul_r hb]⟩
  · simp
theorem key_count_ev (k : Nat) {lock : List (List Int)} (hl : lock.length ≤ 5) (hs : ∀ c ∈ lock, c.length ≤ 5) : ev T (k + 2) 35 [.d (lockD lock)] = .ret (.d (.int (sizeL lock))) := by
  refine eq_call (d := c_key_count) (tg rfl) (by decide) (by decide) rfl ?_
  simp only [c_key_count, startD]
  simp only [lockD]
  simp
  rw [chk_ok (sz_of (by simp; omega))]
  simp
  rw [loopC_all (G := fun c => .int (c.length : Int)) (fun c hc => by simp [cutsD]) (sz_of (by simp; omega))]
  have e : lock.map (fun c => PyData.int (c.length : Int)) = (lock.map fun c => (c.length : Int)).map .int := by simp
  simp
  have hp := prod_of_ev (T := T) k (l := lock.map fun c => (c.length : Int)) (by simp; omega) (fun x hx => by
    obtain ⟨c, hc, rfl⟩ := List.mem_map.mp hx
    have := hs c hc
    omega)
  rw [e]
  simp only [ev] at hp
  rw [hp]
  simp [List.foldl_map, size_fold]
theorem count_keys_ev (k : Nat) {c d : Int} (hm : isMake c d) {lock : List (List Int)} (h : isLock c d lock = true) : ev T (k + 6) 38 [.d (makeD c d), .d (lockD lock)] = .ret (.d (.int (sizeL lock))) := by
  obtain ⟨l1, l2, _⟩ := lock_len hm h
  refine eq_call (d := c_count_keys) (tg rfl) (by decide) (by decide) rfl ?_
  simp only [c_count_keys, startD]
  simp [need_lock_ev _ hm h, key_count_ev (T := T) (k + 3) l1 l2]
theorem keys_of_ev (k : Nat) {c d : Int} (hm : isMake c d) {lock : List (List Int)} (h : isLock c d lock = true) (hn : sizeL lock ≤ 500) : ev T (k + 6) 65 [.d (makeD c d), .d (lockD lock)] = .ret (.own ((prodR lock).map keyD)) := by
  obtain ⟨l1, l2, _⟩ := lock_len hm h
  refine eq_callO (d := c_keys_of_2) (tg rfl) (by decide) (by decide) rfl rfl ?_
  simp only [c_keys_of_2, startD]
  have hc := key_count_ev (T := T) (k + 3) l1 l2
  have hk := key_list_ev (T := T) (k + 3) l1 l2
  have hlt : ¬ 500 < sizeL lock := by omega
  simp [need_lock_ev _ hm h, hc, hk, hlt, cmpD]
theorem keys_many_ev (k : Nat) {c d : Int} (hm : isMake c d) {lock : List (List Int)} (h : isLock c d lock = true) (hn : 500 < sizeL lock) : ev T (k + 6) 65 [.d (makeD c d), .d (lockD lock)] = .exc ⟨"TooMany", []⟩ := by
  obtain ⟨l1, l2, _⟩ := lock_len hm h
  have hc := key_count_ev (T := T) (k + 3) l1 l2
  refine eq_callX (d := c_keys_of_2) (σ := [some (.d (makeD c d)), some (.d (lockD lock))]) (tg rfl) (by decide) (by decide) rfl ?_
  simp only [c_keys_of_2, startD]
  simp [need_lock_ev _ hm h, hc, hn, cmpD]
theorem kw_65 (c d : Int) (lock : List (List Int)) : keyArgs (parOf T 65) ["lock", "make"] [.d (lockD lock), .d (makeD c d)] = some [.d (makeD c d), .d (lockD lock)] := by
  rw [par_of (T := T) (f := 65) (d := c_keys_of_2) rfl]; rfl
theorem kw_38 (c d : Int) (lock : List (List Int)) : keyArgs (parOf T 38) ["lock", "make"] [.d (lockD lock), .d (makeD c d)] = some [.d (makeD c d), .d (lockD lock)] := by
  rw [par_of (T := T) (f := 38) (d := c_count_keys) rfl]; rfl
theorem told_ev (k : Nat) {c d : Int} (hm : isMake c d) {lock : List (List Int)} (h : isLock c d lock = true) (hn : sizeL lock ≤ 500) (b : Bool) : ev T (k + 7) 66 [.d (makeD c d), .d (lockD lock), .d (.bool b)] = .ret (.own ((prodR lock).map keyD)) := by
  refine eq_callO (d := c_law_told_2) (tg rfl) (by decide) (by decide) rfl rfl ?_
  simp only [c_law_told_2, startD]
  have hk := keys_of_ev (T := T) k hm h hn
  cases b <;> simp [hk, kw_65]
theorem told_many_ev (k : Nat) {c d : Int} (hm : isMake c d) {lock : List (List Int)} (h : isLock c d lock = true) (hn : 500 < sizeL lock) (b : Bool) : ev T (k + 7) 66 [.d (makeD c d), .d (lockD lock), .d (.bool b)] = .ret (.d (.str "many")) := by
  refine eq_call (d := c_law_told_2) (tg rfl) (by decide) (by decide) rfl ?_
  simp only [c_law_told_2, startD]
  have hk := keys_many_ev (T := T) k hm h hn
  have e1 : isSub "TooMany" "TooMany" = true := by decide +kernel
  have e2 : isinX ⟨"TooMany", []⟩ [.own "KeyedError"] = some true := by decide +kernel
  have e3 : isinX ⟨"TooMany", []⟩ [.ty "ValueError"] = some true := by decide +kernel
  have e4 : ("TooMany" : Str) ∈ EXN := by decide +kernel
  cases b <;> simp [hk, kw_65, e1, e2, e3, e4]
theorem same_l (d : Nat) {xs : List PD} (k : Nat) {v : VB} (hv : v.lend = .bor xs) (hx : plainN (d + 1) (.list xs) = true) : ev T (k + (d + 2)) 1 [v, .d (.list xs)] = .ret (.d (.bool true)) := by
  refine eq_call (d := c_law_same) (tg rfl) (by decide) (by decide) rfl ?_
  simp only [c_law_same, startD]
  simp [plainN] at hx
  simp [hv, isTy, tyD, zipP, zipD_self]
  rw [chk_ok (sz_of (by simp; omega))]
  simp
  rw [loopC_eq (p := fun _ => false) (G := fun y => y) (fun y hy => by have := same_ev (T := T) d y k (hx.2 y hy); simp at this ⊢; simp [this]) (sz_of (by simp; omega))]
  simp [cmpD, filter_no]
theorem repr_ml {c d : Int} (hm : isMake c d) {a : List (List Int)} (h1 : isLock c d a = true) : bltD .repr_ [.list [makeD c d, lockD a]] = some (.str (PyData.list [makeD c d, lockD a]).shown) := by
  refine repr_list (b := 213) (h := 3) (rn_list (b := 103) (n := 2) (h := 2) (fun x hx => ?_) (by simp)) (by decide) (by decide)
  simp at hx
  rcases hx with rfl | rfl
  · exact rn_le (rn_make hm) (by decide) (by decide)
  · exact rn_lock hm h1
theorem right4_ev (k : Nat) {c d : Int} (hm : isMake c d) {lock : List (List Int)} (h : isLock c d lock = true) : Ok (ev T (k + 8) 67 [.feed, .d (makeD c d), .d (lockD lock)]) fun v => v = .d (.bool true) := by
  obtain ⟨l1, l2, l3⟩ := lock_len hm h
  have z2 : (2 : Nat) ≤ SZ := by decide
  have hlen : (prodR lock).length ≤ 3125 := Nat.le_trans (prod_le (m := 5) (n := 5) (by decide) l1 l2) (by decide)
  have hs : sizeL lock = (prodR lock).length := rfl
  have hc := count_keys_ev (T := T) (k + 1) hm h
  have hz := size_ev (T := T) (k + 6) (show lock.length ≤ 1000 by omega) (fun x hx => by have := l2 x hx; omega)
  have hs2 := same_ev (T := T) 2 (.list [.int (sizeL lock), .int (sizeL lock)]) (k + 4) (by simp [plainN])
  have hpos : 0 < sizeL lock := by
    have : ∀ l : List (List Int), (∀ x ∈ l, x ≠ []) → 0 < sizeL l := by
      intro l
      induction l with
      | nil => intro _; decide
      | cons a r ih =>
        intro hh
        rw [size_cons]
        have h1 := ih fun x hx => hh x (by simp [hx])
        have h2 : 0 < a.length := List.length_pos_iff.mpr (hh a (by simp))
        exact Int.mul_pos (by omega) h1
    exact this lock l3
  refine ok_call (d := c_law_right_4) (tg rfl) (by decide) (by decide) rfl ?_
  simp only [c_law_right_4, startD]
  by_cases hn : sizeL lock ≤ 500
  · have ht := fun b => told_ev (T := T) k hm h hn b
    have he := every_ev (T := T) (k + 6) l1 l2
    have hpl : plainN 2 (.list ((prodR lock).map keyD)) = true := by
      simp [plainN]
      refine ⟨by omega, fun row hr => plain_key 0 ?_⟩
      have := (mem_prod.mp hr).len
      omega
    have hso := fun v hv => same_l (T := T) 1 (k + 4) (v := v) (xs := (prodR lock).map keyD) hv hpl
    have hso1 := hso (.own ((prodR lock).map keyD)) rfl
    have hso2 := hso (.bor ((prodR lock).map keyD)) rfl
    simp [repr_ml hm h, z2, hz, hn, he, hc, kw_38, hs2, draw_ev]
    intro i i0 i1
    have h18 : sizeL lock < 18446744073709551616 := by omega
    have hzz : (prodR lock).length ≤ SZ := sz_of (by omega)
    simp [ht, hso1, hso2, hn, draw_ev _ h18]
    refine ⟨hpos, fun j j0 j1 => ?_⟩
    obtain ⟨j, rfl, hj⟩ := nat_of j0 j1
    have hj' : j < ((prodR lock).map keyD).length := by simp; omega
    have hgj : ((prodR lock).map keyD)[j]? = some ((prodR lock).map keyD)[j] := List.getElem?_eq_getElem hj'
    simp [meth_pop, popAt_nat hgj (by simpa using hzz)]
    rw [meth_app _ _ (Nat.lt_of_le_of_lt (List.length_eraseIdx_le _ _) (by show _ < 16777216; simp; omega))]
    simp [ht, hso1, hso2, draw_ev, repr_ml hm h]
    intro i i0 i1
    simp [z2, repr_ml hm h]
  · have hn' : 500 < sizeL lock := by omega
    have ht := fun b => told_many_ev (T := T) k hm h hn' b
    have hss := same_ev (T := T) 0 (.str "many") (k + 6) rfl
    simp [repr_ml hm h, z2, hz, hn, hc, kw_38, hs2, draw_ev, ht]
    intro i i0 i1
    simp [ht, hss, hn, draw_ev, repr_ml hm h]
    intro i i0 i1
    simp [z2, repr_ml hm h]
end
end KC
/-! KM7: locks of given sizes; k02 as a whole. -/
namespace KC
open PySem KB
open KA hiding rd esc op1 op2 rds newM bltV bltVs bindTg wipeD loopC loopC2 keyArgs evE evEs evXs evAnd evOr evT evTAnd evTOr evC evO evI loopF loopW setItem evS evSs startD evCall rd_d esc_d op1_d op2_d rds_nil newM_false newM_true evT_cmp SR R
theorem perm_ints {ys : List PD} {l : List Int} (h : ys.Perm (l.map .int)) : ∃ zs : List Int, ys = zs.map .int ∧ (∀ z ∈ zs, z ∈ l) ∧ zs.length = l.length ∧ (l.Pairwise (· < ·) → zs.Pairwise (· ≠ ·)) := by
  have h1 : ∀ y ∈ ys, ∃ z : Int, y = .int z := fun y hy => by
    obtain ⟨z, _, e⟩ := List.mem_map.mp (h.subset hy)
    exact ⟨z, e.symm⟩
  have h2 : ∀ (ys : List PD), (∀ y ∈ ys, ∃ z : Int, y = .int z) → ∃ zs : List Int, ys = zs.map .int := by
    intro ys
    induction ys with
    | nil => intro _; exact ⟨[], rfl⟩
    | cons y r ih =>
      intro hh
      obtain ⟨z, rfl⟩ := hh y (by simp)
      obtain ⟨zs, rfl⟩ := ih fun y hy => hh y (by simp [hy])
      exact ⟨z :: zs, rfl⟩
  obtain ⟨zs, rfl⟩ := h2 ys h1
  refine ⟨zs, rfl, fun z hz => ?_, by simpa using h.length_eq, fun hp => ?_⟩
  · obtain ⟨y, hy, e⟩ := List.mem_map.mp (h.subset (List.mem_map_of_mem hz))
    cases e
    exact hy
  · have hn : (l.map PyData.int).Pairwise (· ≠ ·) := by
      rw [List.pairwise_map]
      exact hp.imp fun {a b} hab e => by cases e; omega
    have := (h.pairwise_iff (R := (· ≠ ·)) fun {a b} q => Ne.symm q).mpr hn
    rw [List.pairwise_map] at this
    exact this.imp fun {a b} q e => q (by rw [e])
theorem sort_cuts {d : Int} {zs : List Int} (h0 : zs ≠ []) (hm : ∀ z ∈ zs, 0 ≤ z ∧ z < d) (hp : zs.Pairwise (· ≠ ·)) : areCuts d (sortI zs) = true := by
  have hpm := sortI_perm zs
  refine areCuts_iff.mpr ⟨fun e => ?_, fun x hx => hm x (hpm.subset hx), ?_⟩
  · rw [e] at hpm
    exact h0 hpm.symm.eq_nil
  · have h1 := sortI_sorted zs
    have h2 := (hpm.pairwise_iff (R := (· ≠ ·)) fun {a b} q => Ne.symm q).mpr hp
    exact (h1.and h2).imp fun {a b} q => by omega
section
variable {T : Tab} [Le TG T]
theorem sized_ev (k : Nat) {c d : Int} (hm : isMake c d) {sizes : List Int} (hc : (sizes.length : Int) = c) (hs : ∀ x ∈ sizes, 1 ≤ x ∧ x ≤ d) : Ok (ev T (k + 3) 40 [.feed, .d (makeD c d), .d (.list (sizes.map .int))]) fun v => ∃ lock, v = .d (lockD lock) ∧ isLock c d lock = true := by
  obtain ⟨m1, m2, m3, m4⟩ := hm
  refine ok_call (d := c_law_sized) (tg rfl) (by decide) (by decide) rfl ?_
  simp only [c_law_sized, startD]
  have z0 : (0 : Nat) ≤ SZ := by decide
  simp [z0]
  refine (mixed_ev (T := T) k (.inl rfl) (by simp; omega)).mono fun v ⟨ys, e, hp⟩ => ?_
  subst e
  obtain ⟨ns, rfl, hns, hnl, _⟩ := perm_ints hp
  simp
  rw [chk_ok (sz_of (by simp; omega))]
  simp only [ok_ret]
  refine loopF_ok (F := PyData.int) (l := ns) (fun i σ => ∃ lock x4, σ = [some .feed, some (.d (makeD c d)), some (.d (.list (sizes.map .int))), some (.own (lock.map cutsD)), x4] ∧ lock.length = i ∧ ∀ x ∈ lock, areCuts d x = true) ⟨[], none, rfl, rfl, by simp⟩ ?_ ?_
  · intro i hi σ hI
    obtain ⟨lock, x4, hσ, hll, hcu⟩ := hI
    subst hσ
    have hni := hs _ (hns _ (List.getElem_mem hi))
    have hlt : lock.length < SZ := by show _ < 16777216; omega
    simp [rng_ok (show 0 ≤ d by omega) (show d ≤ 1000000 by omega), rngD_eq]
    obtain ⟨n, hn, hn6⟩ : ∃ n : Nat, ns[i] = (n : Int) ∧ n ≤ 5 := ⟨ns[i].toNat, by omega, by omega⟩
    rw [hn] at hni ⊢
    refine (mixed_ev (T := T) k (.inl rfl) (by simp; omega)).mono fun v ⟨ys, e, hp⟩ => ?_
    subst e
    obtain ⟨zs, rfl, hzs, hzl, hzp⟩ := perm_ints hp
    have hzp := hzp (rngI_asc d)
    simp [slcD, cut_take]
    have hsrt : bltD .sorted_ [.list (List.take n (zs.map .int))] = some (.list ((sortI (zs.take n)).map .int)) := by
      rw [← List.map_take]
      show (match intsD ((zs.take n).map .int) with
        | some ns => if ns.length < 64 then some (PyData.list ((sortI ns).map .int)) else none
        | none => none) = _
      rw [intsD_mp]
      dsimp only
      rw [if_pos (by simp; omega)]
    have htup : ∀ l : List PD, bltD .tuple_ [.list l] = some (.tuple l) := fun l => rfl
    rw [hsrt]
    simp [htup, meth_app _ _ (show (lock.map cutsD).length < SZ by simpa using hlt)]
    refine ⟨lock ++ [sortI (zs.take n)], by simp [cutsD], by simp; omega, fun x hx => ?_⟩
    rcases List.mem_append.mp hx with hx | hx
    · exact hcu x hx
    · simp at hx
      subst hx
      refine sort_cuts (fun e => ?_) (fun z hz => mem_rngI.mp (hzs z (List.mem_of_mem_take hz))) (hzp.sublist (List.take_sublist _ _))
      have h1 := congrArg List.length e
      rw [List.length_take, hzl, rngI_len] at h1
      simp only [List.length_nil] at h1
      omega
  · rintro σ ⟨lock, x4, rfl, hll, hcu⟩
    simp
    exact ⟨lock, rfl, isLock_iff.mpr ⟨by omega, hcu⟩⟩
/-- sizes of a lock -/
def goodS (sizes : List Int) : Bool := decide (1 ≤ sizes.length) && decide (sizes.length ≤ 5) && sizes.all fun x => decide (1 ≤ x) && decide (x ≤ 5)
theorem bound_ev (k : Nat) {w : Int} (hw : 0 ≤ w) : Ok (ev T (k + 4) 41 [.feed, .d (.int w)]) fun v => ∃ c d lock, v = .d (.list [makeD c d, lockD lock]) ∧ isMake c d ∧ isLock c d lock = true := by
  refine ok_call (d := c_law_bound) (tg rfl) (by decide) (by decide) rfl ?_
  simp only [c_law_bound, startD]
  have z5 : (5 : Nat) ≤ SZ := by decide
  have z4 : (4 : Nat) ≤ SZ := by decide
  have z3 : (3 : Nat) ≤ SZ := by decide
  have z6 : (6 : Nat) ≤ SZ := by decide
  have z2 : (2 : Nat) ≤ SZ := by decide
  have key : ∀ (ls : List (List Int)) (l : List PD), l = ls.map (fun s => .list (s.map .int)) → ls.all goodS = true → ∀ y ∈ l, ∃ s : List Int, y = .list (s.map .int) ∧ goodS s = true := fun ls l e h y hy => by
    subst e
    obtain ⟨s, hs, rfl⟩ := List.mem_map.mp hy
    exact ⟨s, rfl, List.all_eq_true.mp h s hs⟩
  rw [KB.evSs]
  rw [okS_bindS]
  refine OkS.imp (N := fun σ => ∃ (sizes : List Int) (x4 : Option VB), σ = [some .feed, some (.d (.int w)), none, some (.d (.list (sizes.map .int))), x4] ∧ goodS sizes = true) (R := fun _ => False) (X := fun _ _ => False) ?_ (fun σ hI => ?_) (fun _ q => q.elim) fun _ _ q => q.elim
  · by_cases w0 : w = 0
    · simp [w0, z5, z4, z3, cmpD, eqD]
      refine (one_ev (T := T) (k + 1) (.inl rfl) (by simp) (by simp)).imp (fun v ⟨y, hy, e⟩ => ?_) fun _ q => q.elim
      subst e
      obtain ⟨s, rfl, hg⟩ := key [[5, 5, 5, 4], [5, 5, 5, 4, 1], [5, 5, 5, 2, 2]] _ rfl (by decide) y hy
      simp
      exact ⟨s, rfl, hg⟩
    · by_cases w1 : w = 1
      · simp [w1, z5, cmpD, eqD]
        exact ⟨[4, 4, 4, 4, 2], rfl, by decide⟩
      · simp [w0, w1, z5, z4, z6, cmpD, eqD]
        have hadd : ∀ (a b : List PD), a.length + b.length ≤ SZ → binD .Add (.list a) (.list b) = some (.list (a ++ b)) := fun a b h => if_pos h
        rw [hadd _ _ (by decide)]
        simp
        refine (one_ev (T := T) (k + 1) (.inl rfl) (by simp) (by simp)).imp (fun v ⟨y, hy, e⟩ => ?_) fun _ q => q.elim
        subst e
        obtain ⟨s, rfl, hg⟩ := key [[5, 5, 5, 5], [5, 5, 5, 5, 1], [5, 5, 5, 3, 1], [5, 4, 4, 3, 2], [5, 3, 3, 3, 3], [5, 4, 3, 3, 3], [5, 5, 5, 5, 5], [4, 4, 4, 4, 4], [4, 4, 4, 4, 1], [4, 4, 4, 3, 2], [4, 4, 4, 3, 3]] _ rfl (by decide) y hy
        simp
        exact ⟨s, rfl, hg⟩
  · obtain ⟨sizes, x4, e, hg⟩ := hI
    rw [e]
    unfold goodS at hg
    simp at hg
    obtain ⟨⟨g1, g2⟩, g3⟩ := hg
    have hfin : ∀ D : Int, (D = 5 ∨ D = 4) → (∀ x ∈ sizes, 1 ≤ x ∧ x ≤ D) → Ok (ev T (k + 3) 40 [.feed, .d (makeD (sizes.length : Int) D), .d (.list (sizes.map .int))]) fun v => ∃ lock, v = .d (lockD lock) ∧ isLock (sizes.length : Int) D lock = true := fun D hD hx => sized_ev k ⟨by omega, by omega, by omega, by omega⟩ rfl hx
    have hmk : ∀ D : Int, PyData.tuple [.int (sizes.length : Int), .int D] = makeD (sizes.length : Int) D := fun D => rfl
    have hmax : ∃ m : Int, bltD .max_ [.list (sizes.map .int)] = some (.int m) ∧ m ∈ sizes ∧ ∀ x ∈ sizes, x ≤ m := by
      cases sizes with
      | nil => simp at g1
      | cons n r =>
        refine ⟨maxI n r, ?_, (maxI_spec n r).1, fun x hx => (maxI_spec n r).2 x hx⟩
        show (match intsD ((n :: r).map .int) with
          | some (n :: ns) => some (PyData.int (maxI n ns))
          | _ => none) = _
        rw [intsD_mp]
    obtain ⟨m, hm1, hm0, hm2⟩ := hmax
    have fin5 := hfin 5 (.inl rfl) fun x hx => g3 x hx
    by_cases hm5 : m = 5
    · simp [hm1, hm5, cmpD, eqD, hmk, z2]
      refine fin5.mono fun v ⟨lock, e, hl⟩ => ?_
      subst e
      simp
      exact ⟨_, _, _, ⟨rfl, rfl⟩, ⟨by omega, by omega, by omega, by omega⟩, hl⟩
    · simp [hm1, hm5, cmpD, eqD, hmk, z2, draw_ev]
      intro i i0 i1
      by_cases hi : i = 0
      · simp [hi, hmk, z2]
        refine fin5.mono fun v ⟨lock, e, hl⟩ => ?_
        subst e
        simp
        exact ⟨_, _, _, ⟨rfl, rfl⟩, ⟨by omega, by omega, by omega, by omega⟩, hl⟩
      · have hall : ∀ x ∈ sizes, x ≤ 4 := fun x hx => by
          have h1 := hm2 x hx
          have h2 := (g3 m hm0).2
          omega
        simp [hi, hmk, z2]
        refine (hfin 4 (.inr rfl) fun x hx => ⟨(g3 x hx).1, hall x hx⟩).mono fun v ⟨lock, e, hl⟩ => ?_
        subst e
        simp
        exact ⟨_, _, _, ⟨rfl, rfl⟩, ⟨by omega, by omega, by omega, by omega⟩, hl⟩
theorem law_2_ev (k : Nat) {ns : List Int} (hn : ns.length < 1000) : Ok (ev T (k + 9) 68 [.d (.list (ns.map .int))]) fun v => v = .d (.bool true) := by
  refine ok_call (d := c_law_5) (tg rfl) (by decide) (by decide) rfl ?_
  simp only [c_law_5, startD]
  simp
  obtain ⟨n, hne, n0, n8⟩ : ∃ n : Int, (if (2 : Int) < if (4 : Int) < (ns.length : Int) then 4 else (ns.length : Int) then if (4 : Int) < (ns.length : Int) then 4 else (ns.length : Int) else 2) = n ∧ 0 ≤ n ∧ n ≤ 4 := ⟨_, rfl, by split <;> split <;> omega, by split <;> split <;> omega⟩
  rw [hne]
  simp [rng_ok n0 (show n ≤ 1000000 by omega), rngD_eq]
  refine loopF_ok (F := PyData.int) (l := rngI n) (fun i σ => ∃ x1 x2 x3 x4 x5, σ = [some (.d (.list (ns.map .int))), x1, x2, x3, x4, x5]) ⟨none, none, none, none, none, rfl⟩ ?_ ?_
  · rintro i hi σ ⟨x1, x2, x3, x4, x5, rfl⟩
    have hk := mem_rngI.mp (List.getElem_mem hi)
    generalize (rngI n)[i] = y at hk
    have hf := feed_eq (N := NG) (T := T) (f := 30) (k := k + 7) (ns := ns) (c := y) (tg rfl) (by decide) (by decide) hk.1 (by omega) hn
    simp [hf, rng_ok (show (0 : Int) ≤ 3 by decide) (show (3 : Int) ≤ 1000000 by decide), rngD_eq]
    refine loopF_ok (F := PyData.int) (l := rngI 3) (fun i σ => ∃ x3 x4 x5, σ = [some (.d (.list (ns.map .int))), some (VB.d (PyData.int y)), some VB.feed, x3, x4, x5]) ⟨x3, x4, x5, rfl⟩ ?_ ?_
    · rintro j hj σ ⟨x3, x4, x5, rfl⟩
      simp
      refine (make_ev (T := T) (k + 5)).mono fun v ⟨c, d, e, hm⟩ => ?_
      subst e
      simp
      refine (lock_ev (T := T) (k + 5) hm).mono fun v ⟨lock, e, hl⟩ => ?_
      subst e
      refine (right4_ev (T := T) k hm hl).mono fun v e => ?_
      subst e
      simp
    · rintro σ ⟨x3, x4, x5, rfl⟩
      simp
      have hb : ∀ w : Int, 0 ≤ w → OkX (KB.evCall NG T (k + 8) 41 [.feed, .d (.int w)]) (fun v => ∃ c d lock, v = .d (.list [makeD c d, lockD lock]) ∧ isMake c d ∧ isLock c d lock = true) NoX := fun w h => bound_ev (k + 4) h
      have fin2 : ∀ (c d : Int) (lock : List (List Int)), isMake c d → isLock c d lock = true → OkX (KB.evCall NG T (k + 8) 67 [.feed, .d (makeD c d), .d (lockD lock)]) (fun v => v = .d (.bool true)) NoX := fun c d lock hm hl => right4_ev k hm hl
      by_cases hy : y < 2
      · simp [hy]
        refine (hb y hk.1).mono fun v ⟨c, d, lock, e, hm, hl⟩ => ?_
        subst e
        simp
        refine (fin2 c d lock hm hl).mono fun v e => ?_
        subst e
        simp
      · simp [hy, draw_ev]
        intro j j0 j1
        refine (hb j j0).mono fun v ⟨c, d, lock, e, hm, hl⟩ => ?_
        subst e
        simp
        refine (fin2 c d lock hm hl).mono fun v e => ?_
        subst e
        simp
  · rintro σ ⟨x1, x2, x3, x4, x5, rfl⟩
    simp
end
end KC
/-! KM8: bottom keys by number, chains (k11). -/
namespace KC
open PySem KB
open KA hiding rd esc op1 op2 rds newM bltV bltVs bindTg wipeD loopC loopC2 keyArgs evE evEs evXs evAnd evOr evT evTAnd evTOr evC evO evI loopF loopW setItem evS evSs startD evCall rd_d esc_d op1_d op2_d rds_nil newM_false newM_true evT_cmp SR R
/-- the key with this number: the last chamber turns first -/
def digR : List (List Int) → Nat → List Int → List Int
  | [], _, acc => acc
  | c :: l, n, acc => digR l (n / c.length) (c.getD (n % c.length) 0 :: acc)
/-- of the chambers in their own sequence -/
def atR (lock : List (List Int)) (n : Nat) : List Int := digR lock.reverse n []
theorem digR_acc : ∀ (l : List (List Int)) (n : Nat) (acc : List Int), digR l n acc = digR l n [] ++ acc
  | [], _, _ => rfl
  | c :: l, n, acc => by
    unfold digR
    rw [digR_acc l _ (_ :: acc), digR_acc l _ [_]]
    simp
theorem prod_snoc (lock : List (List Int)) (c : List Int) : prodR (lock ++ [c]) = stepR (prodR lock) c := by
  rw [← fold_prod1, ← fold_prod1, List.foldl_append]
  rfl
theorem step_at {rows : List (List Int)} {c : List Int} (hc : 0 < c.length) : ∀ {n : Nat}, n < rows.length * c.length → (stepR rows c)[n]? = some (rows.getD (n / c.length) [] ++ [c.getD (n % c.length) 0]) := by
  unfold stepR
  induction rows with
  | nil => intro n h; simp at h
  | cons r t ih =>
    intro n h
    rw [List.flatMap_cons]
    by_cases hn : n < c.length
    · rw [List.getElem?_append_left (by simpa using hn), Nat.div_eq_of_lt hn, Nat.mod_eq_of_lt hn]
      simp [hn]
    · have hge : c.length ≤ n := by omega
      rw [List.getElem?_append_right (by simpa using hge)]
      have h2 : n - c.length < t.length * c.length := by
        rw [List.length_cons, Nat.succ_mul] at h
        omega
      have := ih h2
      rw [List.length_map, this]
      have e1 : n / c.length = (n - c.length) / c.length + 1 := by
        rw [Nat.div_eq_sub_div hc hge]
      have e2 : n % c.length = (n - c.length) % c.length := Nat.mod_eq_sub_mod hge
      rw [e1, e2]
      simp
theorem prod_rev : ∀ (r : List (List Int)) (n : Nat), (∀ c ∈ r, c ≠ []) → n < (prodR r.reverse).length → (prodR r.reverse)[n]? = some (digR r n [])
  | [], n, _, h => by
    simp [prodR] at h
    subst h
    rfl
  | c :: l, n, hne, h => by
    have hc : 0 < c.length := List.length_pos_iff.mpr (hne c (by simp))
    rw [List.reverse_cons, prod_snoc, stepR_len] at h
    rw [List.reverse_cons, prod_snoc, step_at hc h]
    have hd : n / c.length < (prodR l.reverse).length := Nat.div_lt_of_lt_mul (by rw [Nat.mul_comm]; exact h)
    have := prod_rev l (n / c.length) (fun x hx => hne x (by simp [hx])) hd
    unfold digR
    rw [digR_acc]
    congr 2
    rw [List.getD_eq_getElem?_getD, this]
    rfl
/-- rows[n] -/
theorem prod_at (lock : List (List Int)) (n : Nat) (hne : ∀ c ∈ lock, c ≠ []) (h : n < (prodR lock).length) : (prodR lock)[n]? = some (atR lock n) := by
  have := prod_rev lock.reverse n (fun c hc => hne c (by simpa using hc)) (by simpa using h)
  simpa [atR] using this
theorem size_nat (lock : List (List Int)) : sizeL lock = ((prodR lock).length : Int) := rfl
/-- the others of a key's cuts -/
def othersL (d : Int) (key : List Int) : List (List Int) := key.map fun x => (rngI d).filter fun y => !decide (y = x)
theorem without_len {x : Int} : ∀ {l : List Int}, l.Nodup → x ∈ l → (l.filter fun y => !decide (y = x)).length + 1 = l.length
  | a :: l, hn, hm => by
    obtain ⟨h1, h2⟩ := List.nodup_cons.mp hn
    by_cases e : a = x
    · have : l.filter (fun y => !decide (y = x)) = l := List.filter_eq_self.mpr fun y hy => by
        have : y ≠ x := fun q => h1 (e ▸ q ▸ hy)
        simp [this]
      rw [List.filter_cons_of_neg (by simp [e]), this]
      simp
    · have hm' : x ∈ l := (List.mem_cons.mp hm).elim (fun q => absurd q.symm e) id
      rw [List.filter_cons_of_pos (by simp [e]), List.length_cons, List.length_cons, without_len h2 hm']
theorem others_len {d x : Int} (h0 : 0 ≤ x) (h1 : x < d) : (((rngI d).filter fun y => !decide (y = x)).length : Int) = d - 1 := by
  have hn : (rngI d).Nodup := (rngI_asc d).imp fun {a b} q e => by omega
  have h := without_len hn (mem_rngI.mpr ⟨h0, h1⟩)
  rw [rngI_len] at h
  omega
section
variable {T : Tab} [Le TG T]
theorem others_ev (k : Nat) {c d : Int} (hm : isMake c d) {key : List Int} (hk : key.length ≤ 1000) : ev T (k + 1) 86 [.d (makeD c d), .d (keyD key)] = .ret (.d (lockD (othersL d key))) := by
  obtain ⟨m1, m2, m3, m4⟩ := hm
  refine eq_call (d := c_law_others) (tg rfl) (by decide) (by decide) rfl ?_
  simp only [c_law_others, startD]
  simp only [keyD]
  simp
  rw [chk_ok (sz_of (by simp; omega))]
  simp
  rw [loopC_all (G := fun x => cutsD ((rngI d).filter fun y => !decide (y = x))) (fun x hx => ?_) (sz_of (by simp; omega))]
  · simp [lockD, othersL]
  · simp [rng_ok (show 0 ≤ d by omega) (show d ≤ 1000000 by omega), rngD_eq]
    rw [loopC_eq (p := fun y => !decide (y = x)) (G := .int) (fun y hy => by simp [cmpD, eqD]; split <;> simp_all) (sz_of (by simp; omega))]
    simp [cutsD]
theorem fold_same (e : Int) : ∀ (l l' : List Int) (m : Int), l.length = l'.length → l.foldl (fun m _ => m * e) m = l'.foldl (fun m _ => m * e) m
  | [], [], _, _ => rfl
  | _ :: l, _ :: l', m, h => by
    rw [List.foldl_cons, List.foldl_cons, fold_same e l l' _ (by simpa using h)]
theorem size_others {d : Int} : ∀ (key : List Int) (m : Int), (∀ x ∈ key, 0 ≤ x ∧ x < d) → key.foldl (fun m _ => m * (d - 1)) m = m * sizeL (othersL d key)
  | [], m, _ => by
    have : sizeL (othersL d []) = 1 := rfl
    rw [this, List.foldl_nil, Int.mul_one]
  | x :: r, m, h => by
    have hx := h x (by simp)
    have e : othersL d (x :: r) = ((rngI d).filter fun y => !decide (y = x)) :: othersL d r := rfl
    rw [List.foldl_cons, size_others r _ (fun y hy => h y (by simp [hy])), e, size_cons, others_len hx.1 hx.2, Int.mul_assoc]
theorem bot_count_ev (k : Nat) {c d : Int} (hm : isMake c d) {key : List Int} (hkey : isKey c d key = true) : ev T (k + 1) 70 [.d (makeD c d)] = .ret (.d (.int (sizeL (othersL d key)))) := by
  obtain ⟨m1, m2, m3, m4⟩ := hm
  obtain ⟨k1, k2⟩ := isKey_iff.mp hkey
  refine eq_call (d := c_bottom_count) (tg rfl) (by decide) (by decide) rfl ?_
  simp only [c_bottom_count, startD]
  simp [rng_ok (show 0 ≤ c by omega) (show c ≤ 1000000 by omega), rngD_eq]
  have hb : -(2 ^ 64) < d - 1 ∧ d - 1 < 2 ^ 64 := by
    have e : (2 : Int) ^ 64 = 18446744073709551616 := by decide +kernel
    rw [e]; omega
  refine loop_bind (F := PyData.int) (l := rngI c) (s := fun (m : Int) (j : Option VB) => [some (.d (makeD c d)), some (.d (.int m)), j]) (g := fun m _ => m * (d - 1)) 1 none (fun m j y hy => ⟨some (.d (.int y)), ?_⟩) fun j => ?_
  · simp [mul_r hb]
  · simp
    rw [fold_same (d - 1) (rngI c) key 1 (by simp; omega), size_others key 1 k2, Int.one_mul]
theorem bottoms_ev (k : Nat) {c d : Int} (hm : isMake c d) {key : List Int} (hkey : isKey c d key = true) : ev T (k + 6) 85 [.d (makeD c d), .d (keyD key)] = .ret (.d (.int (sizeL (othersL d key)))) := by
  refine eq_call (d := c_bottoms) (tg rfl) (by decide) (by decide) rfl ?_
  simp only [c_bottoms, startD]
  have h := bot_count_ev (T := T) (k + 4) hm hkey
  simp [need_make_ev _ hm, need_key_ev _ hm hkey, h]
theorem revD_key (key : List Int) : revD (keyD key) = some (keyD key.reverse) := by
  show some (PyData.tuple (key.map PyData.int).reverse) = _
  rw [← List.map_reverse]; rfl
theorem revD_list (l : List PD) : revD (.list l) = some (.list l.reverse) := rfl
theorem cast_mod (a b : Nat) : (a : Int) % (b : Int) = ((a % b : Nat) : Int) := rfl
theorem cast_div (a b : Nat) : (a : Int) / (b : Int) = ((a / b : Nat) : Int) := rfl
theorem bottom_by_ev (k : Nat) {c d : Int} (hm : isMake c d) {key : List Int} (hkey : isKey c d key = true) (n : Nat) : ev T (k + 1) 69 [.d (makeD c d), .d (keyD key), .d (.int n)] = .ret (.d (keyD (atR (othersL d key) n))) := by
  obtain ⟨m1, m2, m3, m4⟩ := hm
  obtain ⟨k1, k2⟩ := isKey_iff.mp hkey
  refine det [69] ?_
  refine ok_call (d := c_bottom_by) (tg rfl) (by decide) (by decide) rfl ?_
  simp only [c_bottom_by, startD]
  have z0 : (0 : Nat) ≤ SZ := by decide
  simp [z0, revD_key]
  simp only [keyD]
  simp
  rw [chk_ok (sz_of (by simp; omega))]
  simp only [ok_ret]
  rw [← List.map_reverse]
  refine loopF_ok (F := PyData.int) (l := key.reverse) (fun i σ => ∃ (fs : List Int) (m : Nat) (x4 x5 : Option VB), σ = [some (.d (makeD c d)), some (.d (.tuple (key.map .int))), some (.d (.int (m : Int))), some (.own (fs.map .int)), x4, x5, none] ∧ fs.length = i ∧ digR ((key.reverse.drop i).map fun x => (rngI d).filter fun y => !decide (y = x)) m fs.reverse = atR (othersL d key) n) ⟨[], n, none, none, rfl, rfl, ?_⟩ ?_ ?_
  · unfold atR othersL
    rw [← List.map_reverse]
    rfl
  · intro i hi σ hI
    have hx := k2 _ (List.mem_reverse.mp (List.getElem_mem hi))
    have hdrop := List.drop_eq_getElem_cons hi
    generalize key.reverse[i] = x at hx hdrop
    rcases hI with ⟨fs, m, x4, x5, e, hl, hd⟩
    rw [e]
    rw [hdrop, List.map_cons] at hd
    unfold digR at hd
    have hol := others_len hx.1 hx.2
    generalize hoL : (rngI d).filter (fun y => !decide (y = x)) = ol at hd hol
    have hls : fs.length < SZ := by show _ < 16777216; simp at hi; omega
    simp [rng_ok (show 0 ≤ d by omega) (show d ≤ 1000000 by omega), rngD_eq]
    rw [loopC_eq (p := fun y => !decide (y = x)) (G := .int) (fun y hy => by simp [cmpD, eqD]; split <;> simp_all) (sz_of (by simp; omega))]
    rw [hoL]
    have hp : (0 : Int) < (ol.length : Int) := by omega
    have hp2 : (ol.length : Int) < 2 ^ 64 := by
      have e : (2 : Int) ^ 64 = 18446744073709551616 := by decide +kernel
      rw [e]; omega
    have hlt : m % ol.length < ol.length := Nat.mod_lt _ (by omega)
    have hsub : subD (.list (ol.map .int)) (.int ((m : Int) % (ol.length : Int))) = some (.int (ol.getD (m % ol.length) 0)) := by
      rw [cast_mod, sub_list_nat]
      simp [hlt]
    simp [mod_pos hp, div_pos hp hp2, hsub, meth_app _ _ (show (fs.map PyData.int).length < SZ by simpa using hls)]
    refine ⟨fs ++ [ol.getD (m % ol.length) 0], m / ol.length, by simp, by simp; omega, ?_⟩
    rw [List.map_drop, List.map_reverse] at hd
    rw [List.reverse_append]
    exact hd
  · intro σ hI
    rcases hI with ⟨fs, m, x4, x5, e, hl, hd⟩
    rw [e]
    have hz : key.reverse.drop key.reverse.length = [] := List.drop_length
    rw [hz] at hd
    have hd' : fs.reverse = atR (othersL d key) n := hd
    simp [revD_list, bltD]
    rw [← hd']
    simp [keyD]
theorem law_at_ev (k : Nat) {lock : List (List Int)} (hl : lock.length ≤ 5) (hs : ∀ c ∈ lock, c.length ≤ 5 ∧ c ≠ []) (n : Nat) : ev T (k + 1) 47 [.d (lockD lock), .d (.int n)] = .ret (.d (keyD (atR lock n))) := by
  refine det [47] ?_
  refine ok_call (d := c_law_at) (tg rfl) (by decide) (by decide) rfl ?_
  simp only [c_law_at, startD]
  have z0 : (0 : Nat) ≤ SZ := by decide
  have z1 : (1 : Nat) ≤ SZ := by decide
  have hrev : revD (lockD lock) = some (lockD lock.reverse) := by
    show some (PyData.tuple (lock.map cutsD).reverse) = _
    rw [← List.map_reverse]; rfl
  simp [z0, hrev]
  simp only [lockD]
  rw [chk_ok (sz_of (by simp; omega))]
  simp only [ok_ret]
  try rw [← List.map_reverse]
  refine loopF_ok (F := cutsD) (l := lock.reverse) (fun i σ => ∃ (fs : List Int) (m : Nat) (x3 : Option VB), σ = [some (.d (.tuple (lock.map cutsD))), some (.d (.int (m : Int))), some (.d (keyD fs)), x3] ∧ fs.length = i ∧ digR (lock.reverse.drop i) m fs = atR lock n) ⟨[], n, none, rfl, rfl, rfl⟩ ?_ ?_
  · intro i hi σ hI
    have hx := hs _ (List.mem_reverse.mp (List.getElem_mem hi))
    have hdrop := List.drop_eq_getElem_cons hi
    generalize lock.reverse[i] = ol at hx hdrop
    rcases hI with ⟨fs, m, x3, e, hlf, hd⟩
    rw [e]
    rw [hdrop] at hd
    unfold digR at hd
    have hpos : 0 < ol.length := List.length_pos_iff.mpr hx.2
    have hp : (0 : Int) < (ol.length : Int) := by omega
    have hp2 : (ol.length : Int) < 2 ^ 64 := by
      have e : (2 : Int) ^ 64 = 18446744073709551616 := by decide +kernel
      rw [e]; omega
    have hlt : m % ol.length < ol.length := Nat.mod_lt _ hpos
    have hsub : subD (cutsD ol) (.int ((m : Int) % (ol.length : Int))) = some (.int (ol.getD (m % ol.length) 0)) := by
      rw [cast_mod]
      unfold cutsD
      rw [sub_tup_nat]
      simp [hlt]
    have hint : bltD .int_ [.int (m : Int)] = some (.int (m : Int)) := rfl
    have hlen : bltD .len [cutsD ol] = some (.int (ol.length : Int)) := by simp [cutsD, bltD]
    have hadd : ∀ y : Int, binD .Add (.tuple [.int y]) (keyD fs) = some (keyD (y :: fs)) := fun y => add_key (a := [y]) (b := fs) (by simp at hi; simp; omega)
    simp [mod_pos hp, div_pos hp hp2, hsub, hint, hlen, hadd, z1]
    exact ⟨ol.getD (m % ol.length) 0 :: fs, m / ol.length, ⟨by simp, rfl⟩, by simp; omega, hd⟩
  · intro σ hI
    rcases hI with ⟨fs, m, x3, e, hlf, hd⟩
    rw [e]
    have hz : lock.reverse.drop lock.reverse.length = [] := List.drop_length
    rw [hz] at hd
    have hd' : fs = atR lock n := hd
    simp
    rw [hd']
theorem need_num_ev (k : Nat) {x : PD} {lo hi : Int} (h : within x lo hi = true) : ev T (k + 3) 49 [.d x, .d (.int lo), .d (.int hi)] = .ret (.d .none) := by
  refine eq_callN (d := c_need_number) (σ := [some (.d x), some (.d (.int lo)), some (.d (.int hi))]) (tg rfl) (by decide) (by decide) rfl ?_
  simp only [c_need_number, startD]
  have hw := is_within_ev (T := T) k x lo hi
  rw [h] at hw
  simp [hw]
theorem need_num_x (k : Nat) {x : PD} {lo hi : Int} (h : within x lo hi = false) : ev T (k + 3) 49 [.d x, .d (.int lo), .d (.int hi)] = .exc ⟨"BadNumber", []⟩ := by
  refine eq_callX (d := c_need_number) (σ := [some (.d x), some (.d (.int lo)), some (.d (.int hi))]) (tg rfl) (by decide) (by decide) rfl ?_
  simp only [c_need_number, startD]
  have hw := is_within_ev (T := T) k x lo hi
  rw [h] at hw
  simp [hw]
theorem bottom_at_ev (k : Nat) {c d : Int} (hm : isMake c d) {key : List Int} (hkey : isKey c d key = true) {n : Nat} (hn : (n : Int) < sizeL (othersL d key)) : ev T (k + 6) 71 [.d (makeD c d), .d (keyD key), .d (.int n)] = .ret (.d (keyD (atR (othersL d key) n))) := by
  refine eq_call (d := c_bottom_at) (tg rfl) (by decide) (by decide) rfl ?_
  simp only [c_bottom_at, startD]
  have h := bot_count_ev (T := T) (k + 4) hm hkey
  have h2 := bottom_by_ev (T := T) (k + 4) hm hkey n
  have h3 := need_num_ev (T := T) (k + 2) (x := .int n) (lo := 0) (hi := sizeL (othersL d key) - 1) (by simp [within]; omega)
  simp [need_make_ev _ hm, need_key_ev _ hm hkey, h, h2, h3]
theorem bottom_at_x (k : Nat) {c d : Int} (hm : isMake c d) {key : List Int} (hkey : isKey c d key = true) {x : PD} (hx : within x 0 (sizeL (othersL d key) - 1) = false) : ev T (k + 6) 71 [.d (makeD c d), .d (keyD key), .d x] = .exc ⟨"BadNumber", []⟩ := by
  have h := bot_count_ev (T := T) (k + 4) hm hkey
  have h3 := need_num_x (T := T) (k + 2) hx
  refine eq_callX (d := c_bottom_at) (σ := [some (.d (makeD c d)), some (.d (keyD key)), some (.d x)]) (tg rfl) (by decide) (by decide) rfl ?_
  simp only [c_bottom_at, startD]
  simp [need_make_ev _ hm, need_key_ev _ hm hkey, h, h3]
theorem refused2_ev (k : Nat) {c d : Int} (hm : isMake c d) {key : List Int} (hkey : isKey c d key = true) {x : PD} (hx : within x 0 (sizeL (othersL d key) - 1) = false) : ev T (k + 7) 72 [.d (makeD c d), .d (keyD key), .d x] = .ret (.d (.bool true)) := by
  refine eq_call (d := c_law_refused_2) (tg rfl) (by decide) (by decide) rfl ?_
  simp only [c_law_refused_2, startD]
  have h := bottom_at_x (T := T) k hm hkey hx
  have e1 : isSub "BadNumber" "BadNumber" = true := by decide +kernel
  have e2 : isinX ⟨"BadNumber", []⟩ [.own "KeyedError"] = some true := by decide +kernel
  have e3 : isinX ⟨"BadNumber", []⟩ [.own "BadKey"] = some false := by decide +kernel
  have e4 : ("BadNumber" : Str) ∈ EXN := by decide +kernel
  simp [h, e1, e2, e3, e4]
end
end KC
/-! KM10: levels and chains. -/
namespace KC
open PySem KB
open KA hiding rd esc op1 op2 rds newM bltV bltVs bindTg wipeD loopC loopC2 keyArgs evE evEs evXs evAnd evOr evT evTAnd evTOr evC evO evI loopF loopW setItem evS evSs startD evCall rd_d esc_d op1_d op2_d rds_nil newM_false newM_true evT_cmp SR R
/-! ### plain -/
def rngJ (a b : Int) : List Int := (List.range (b - a).toNat).map fun (i : Nat) => a + (i : Int)
theorem rngJ_eq (a b : Int) : rngD a b = (rngJ a b).map .int := by
  unfold rngD rngJ
  rw [List.map_map]
  rfl
@[simp] theorem rngJ_len (a b : Int) : (rngJ a b).length = (b - a).toNat := by simp [rngJ]
@[simp] theorem mem_rngJ {a b x : Int} : x ∈ rngJ a b ↔ a ≤ x ∧ x < b := by
  unfold rngJ
  simp
  constructor
  · rintro ⟨i, hi, rfl⟩; omega
  · intro h; exact ⟨(x - a).toNat, by omega, by omega⟩
theorem rng_ok2 {a b : Int} (h0 : -1000000 ≤ a) (h1 : a ≤ 1000000) (h2 : -1000000 ≤ b) (h3 : b ≤ 1000000) : rngOk a b = true := by
  unfold rngOk
  have e : (2 : Int) ^ 62 = 4611686018427387904 := by decide +kernel
  rw [e]
  have : (b - a).toNat ≤ SZ := by show _ ≤ 16777216; omega
  simp [this]
  omega
def intOf : PD → Option Int
  | .int i => some i
  | _ => none
theorem perm_intsP {ys : List PD} {l : List Int} (h : ys.Perm (l.map .int)) : ∃ zs : List Int, ys = zs.map .int ∧ zs.Perm l := by
  obtain ⟨zs, rfl, _⟩ := perm_ints h
  refine ⟨zs, rfl, ?_⟩
  have := h.filterMap intOf
  have e : ∀ l : List Int, (l.map PyData.int).filterMap intOf = l := fun l => by
    induction l with
    | nil => rfl
    | cons a r ih => rw [List.map_cons, List.filterMap_cons]; simp [intOf, ih]
  rwa [e, e] at this
/-- levels of a make: all of 1 .. m -/
def isLev (c m : Int) (lv : List Int) : Prop := (lv.length : Int) = c ∧ 1 ≤ m ∧ m ≤ c ∧ (∀ x ∈ lv, 1 ≤ x ∧ x ≤ m) ∧ ∀ x, 1 ≤ x → x ≤ m → x ∈ lv
theorem max_lev {c m : Int} {lv : List Int} (h : isLev c m lv) : bltD .max_ [keyD lv] = some (.int m) := by
  obtain ⟨h1, h2, h3, h4, h5⟩ := h
  cases lv with
  | nil => simp at h1; omega
  | cons n r =>
    have e : bltD .max_ [keyD (n :: r)] = some (.int (maxI n r)) := by
      show (match intsD ((n :: r).map .int) with
        | some (n :: ns) => some (PyData.int (maxI n ns))
        | _ => none) = _
      rw [intsD_mp]
    have h6 := maxI_spec n r
    have a := h6.2 m (h5 m h2 (by omega))
    have b := (h4 _ h6.1).2
    rw [e, show maxI n r = m by omega]
theorem ints_key {l : List Int} (h : l.length < 64) : intsL (keyD l) = some l := by
  show (intsD (l.map .int)).bind _ = _
  rw [intsD_mp]
  simp [h]
theorem ints_list {l : List Int} (h : l.length < 64) : intsL (.list (l.map .int)) = some l := by
  show (intsD (l.map .int)).bind _ = _
  rw [intsD_mp]
  simp [h]
/-- another cut in each chamber -/
def isBot (key bot : List Int) : Bool := (bot.zip key).all fun p => !decide (p.1 = p.2)
def rowL (key lv bot : List Int) (t : Int) : List Int := (key.zip (lv.zip bot)).map fun p => if p.2.1 ≤ t then p.2.2 else p.1
def chainL (key lv bot : List Int) (m : Int) : List (List Int) := (rngI (m + 1)).map (rowL key lv bot)
def chainLock (key bot : List Int) : List (List Int) := (key.zip bot).map fun p => sortI [p.1, p.2]
theorem zip3D_map {γ δ ε : Type} (F : γ → PD) (G : δ → PD) (H : ε → PD) : ∀ (l : List γ) (m : List δ) (n : List ε), zip3D (l.map F) (m.map G) (n.map H) = (l.zip (m.zip n)).map fun p => .tuple [F p.1, G p.2.1, H p.2.2]
  | [], _, _ => by simp [zip3D]
  | _ :: _, [], _ => by simp [zip3D]
  | _ :: _, _ :: _, [] => by simp [zip3D]
  | a :: r, b :: t, e :: u => by simp [zip3D, zip3D_map F G H r t u]
theorem zip3_tuple (a b c : List PD) : zip3P (.tuple a) (.tuple b) (.tuple c) = some (zip3D a b c) := rfl
theorem perm_two {α : Type} {a b : α} {ys : List α} (h : ys.Perm [a, b]) : ys = [a, b] ∨ ys = [b, a] := by
  have hl := h.length_eq
  match ys, hl with
  | [x, y], _ =>
    have hx : x ∈ [a, b] := h.subset (by simp)
    simp at hx
    rcases hx with rfl | rfl
    · have := h.cons_inv
      left
      simp at this
      rw [this]
    · have h2 : [x, y].Perm [x, a] := h.trans (List.Perm.swap x a [])
      have := h2.cons_inv
      right
      simp at this
      rw [this]
theorem add_list {a b : List PD} (h : a.length + b.length ≤ SZ) : binD .Add (.list a) (.list b) = some (.list (a ++ b)) := if_pos h
section
variable {T : Tab} [Le TG T]
theorem levels_ev (k : Nat) {c d : Int} (hm : isMake c d) : Ok (ev T (k + 3) 73 [.feed, .d (makeD c d)]) fun v => ∃ m lv, v = .d (keyD lv) ∧ isLev c m lv := by
  obtain ⟨m1, m2, m3, m4⟩ := hm
  refine ok_call (d := c_law_levels) (tg rfl) (by decide) (by decide) rfl ?_
  simp only [c_law_levels, startD]
  simp [draw_ev _ (show c < 18446744073709551616 by omega), show 0 < c by omega]
  intro i i0 i1
  simp [rng_ok2 (show (-1000000 : Int) ≤ 1 by decide) (show (1 : Int) ≤ 1000000 by decide) (show -1000000 ≤ 1 + i + 1 by omega) (show 1 + i + 1 ≤ 1000000 by omega), rngJ_eq 1 (1 + i + 1), rng_ok (show 0 ≤ c - (1 + i) by omega) (show c - (1 + i) ≤ 1000000 by omega), rngD_eq]
  refine loopC_each (F := PyData.int) (G := PyData.int) (P := fun x => 1 ≤ x ∧ x ≤ 1 + i) (l := rngI (c - (1 + i))) (fun y hy => ?_) (sz_of (by simp; omega)) fun ms hl hP => ?_
  · simp [draw_ev _ (show 1 + i < 18446744073709551616 by omega)]
    exact ⟨by omega, fun j j0 j1 => ⟨by omega, by omega⟩⟩
  · simp at hl
    rw [add_list (sz_of (by simp; omega))]
    rw [← List.map_append]
    simp only [B.opt_some, B.bind_ret, ok_ret, ok_bind, List.set_cons_succ, List.set_cons_zero, List.getElem?_cons_succ, List.getElem?_cons_zero, lend_d]
    refine (mixed_ev (T := T) k (.inl rfl) (by simp; omega)).mono fun v ⟨ys, e, hp⟩ => ?_
    subst e
    obtain ⟨zs, rfl, hz⟩ := perm_intsP hp
    simp
    refine ⟨1 + i, zs, rfl, ?_, by omega, by omega, fun x hx => ?_, fun x h1 h2 => ?_⟩
    · have := hz.length_eq
      simp at this
      omega
    · have := hz.subset hx
      simp at this
      rcases this with h | h
      · omega
      · exact hP x h
    · refine hz.symm.subset ?_
      simp
      left
      omega
theorem are_levels_ev (k : Nat) {c d m : Int} (hm : isMake c d) {lv : List Int} (h : isLev c m lv) : ev T (k + 4) 76 [.d (makeD c d), .d (keyD lv)] = .ret (.d (.bool true)) := by
  have hmax := max_lev h
  obtain ⟨m1, m2, m3, m4⟩ := hm
  obtain ⟨h1, h2, h3, h4, h5⟩ := h
  refine eq_call (d := c_are_levels) (tg rfl) (by decide) (by decide) rfl ?_
  simp only [c_are_levels, startD]
  have ha : areWithin (keyD lv) c 1 5 = true := by
    simp [areWithin, keyD, h1, within]
    intro x hx
    have := h4 x hx
    omega
  have hw := are_within_ev (T := T) k (keyD lv) c 1 5 (by omega)
  rw [ha] at hw
  have hs : seqI lv (rngJ 1 (m + 1)) = true := by
    simp [seqI]
    exact ⟨fun x hx => by have := h4 x hx; omega, fun x a b => h5 x a (by omega)⟩
  simp [hw, hmax, ints_key (show lv.length < 64 by omega), rng_ok2 (show (-1000000 : Int) ≤ 1 by decide) (show (1 : Int) ≤ 1000000 by decide) (show -1000000 ≤ m + 1 by omega) (show m + 1 ≤ 1000000 by omega), rngJ_eq, ints_list (l := rngJ 1 (m + 1)) (by simp; omega), hs]
theorem need_levels_ev (k : Nat) {c d m : Int} (hm : isMake c d) {key : List Int} (hkey : isKey c d key = true) {lv : List Int} (h : isLev c m lv) : ev T (k + 6) 77 [.d (makeD c d), .d (keyD key), .d (keyD lv)] = .ret (.d .none) := by
  refine eq_callN (d := c_need_levels) (σ := [some (.d (makeD c d)), some (.d (keyD key)), some (.d (keyD lv))]) (tg rfl) (by decide) (by decide) rfl ?_
  simp only [c_need_levels, startD]
  simp [need_make_ev _ hm, need_key_ev _ hm hkey, are_levels_ev (T := T) (k + 1) hm h]
theorem is_bottom_ev (k : Nat) {c d : Int} (hm : isMake c d) {key bot : List Int} (hb : isKey c d bot = true) : ev T (k + 5) 75 [.d (makeD c d), .d (keyD key), .d (keyD bot)] = .ret (.d (.bool (isBot key bot))) := by
  obtain ⟨m1, m2, m3, m4⟩ := hm
  obtain ⟨b1, b2⟩ := isKey_iff.mp hb
  refine eq_call (d := c_is_bottom) (tg rfl) (by decide) (by decide) rfl ?_
  simp only [c_is_bottom, startD]
  have hk := is_key_ev (T := T) k (d := d) (show c ≤ 1000 by omega) bot
  rw [hb] at hk
  simp [hk]
  simp only [keyD]
  simp [zipD_map]
  rw [chk_ok (sz_of (by simp; omega))]
  simp
  rw [loopC_all (G := fun p => .bool (!decide (p.1 = p.2))) (fun p hp => by simp [cmpD, eqD]; try rfl) (sz_of (by simp; omega))]
  simp [isBot]
theorem need_bottom_ev (k : Nat) {c d m : Int} (hm : isMake c d) {key lv bot : List Int} (hkey : isKey c d key = true) (h : isLev c m lv) (hb : isKey c d bot = true) (hbb : isBot key bot = true) : ev T (k + 7) 78 [.d (makeD c d), .d (keyD key), .d (keyD lv), .d (keyD bot)] = .ret (.d .none) := by
  refine eq_callN (d := c_need_bottom) (σ := [some (.d (makeD c d)), some (.d (keyD key)), some (.d (keyD lv)), some (.d (keyD bot))]) (tg rfl) (by decide) (by decide) rfl ?_
  simp only [c_need_bottom, startD]
  have hi := is_bottom_ev (T := T) (k + 1) hm (key := key) hb
  rw [hbb] at hi
  simp [need_levels_ev (T := T) k hm hkey h, hi]
theorem lock_of_chain_ev (k : Nat) {key bot : List Int} (hz : key.length ≤ 1000) : ev T (k + 1) 74 [.d (keyD key), .d (keyD bot)] = .ret (.d (lockD (chainLock key bot))) := by
  refine eq_call (d := c_lock_of_chain) (tg rfl) (by decide) (by decide) rfl ?_
  simp only [c_lock_of_chain, startD]
  have z2 : (2 : Nat) ≤ SZ := by decide
  simp only [keyD]
  simp [zipD_map]
  rw [chk_ok (sz_of (by simp; omega))]
  simp
  rw [loopC_all (G := fun p => cutsD (sortI [p.1, p.2])) (fun p hp => ?_) (sz_of (by simp; omega))]
  · simp [lockD, chainLock, List.map_map, Function.comp_def]
  · have hsrt : bltD .sorted_ [.list [.int p.1, .int p.2]] = some (.list ((sortI [p.1, p.2]).map .int)) := rfl
    simp [z2, hsrt, cutsD]
theorem law_chain_lock_ev (k : Nat) {key bot : List Int} (hz : key.length ≤ 1000) : ev T (k + 1) 82 [.d (keyD key), .d (keyD bot)] = .ret (.d (lockD (chainLock key bot))) := by
  refine eq_call (d := c_law_chain_lock) (tg rfl) (by decide) (by decide) rfl ?_
  simp only [c_law_chain_lock, startD]
  have z2 : (2 : Nat) ≤ SZ := by decide
  simp only [keyD]
  simp [zipD_map]
  rw [chk_ok (sz_of (by simp; omega))]
  simp
  rw [loopC_all (G := fun p => cutsD (sortI [p.1, p.2])) (fun p hp => ?_) (sz_of (by simp; omega))]
  · simp [lockD, chainLock, List.map_map, Function.comp_def]
  · have hsrt : bltD .sorted_ [.list [.int p.1, .int p.2]] = some (.list ((sortI [p.1, p.2]).map .int)) := rfl
    simp [z2, hsrt, cutsD]
theorem chain_of_ev (k : Nat) {c m : Int} {key lv bot : List Int} (hc : c ≤ 5) (h : isLev c m lv) (hz : key.length ≤ 1000) : ev T (k + 1) 80 [.d (keyD key), .d (keyD lv), .d (keyD bot)] = .ret (.d (lockD (chainL key lv bot m))) := by
  refine det [80] ?_
  refine ok_call (d := c_chain_of) (tg rfl) (by decide) (by decide) rfl ?_
  simp only [c_chain_of, startD]
  have hmax := max_lev h
  obtain ⟨h1, h2, h3, h4, h5⟩ := h
  have z0 : (0 : Nat) ≤ SZ := by decide
  simp [z0, hmax, rng_ok (show 0 ≤ m + 1 by omega) (show m + 1 ≤ 1000000 by omega), rngD_eq]
  refine loopF_ok (F := PyData.int) (l := rngI (m + 1)) (fun i σ => ∃ x4, σ = [some (.d (keyD key)), some (.d (keyD lv)), some (.d (keyD bot)), some (.own ((((rngI (m + 1)).map (rowL key lv bot)).take i).map keyD)), x4, none, none, none]) ⟨none, rfl⟩ ?_ ?_
  · rintro i hi σ ⟨x4, rfl⟩
    have e1 : ((rngI (m + 1)).map (rowL key lv bot)).take (i + 1) = ((rngI (m + 1)).map (rowL key lv bot)).take i ++ [rowL key lv bot (rngI (m + 1))[i]] := by
      rw [List.take_succ_eq_append_getElem (by simpa using hi)]
      simp
    rw [e1]
    have hlen : (((rngI (m + 1)).map (rowL key lv bot)).take i).length < SZ := by show _ < 16777216; simp at hi ⊢; omega
    generalize (rngI (m + 1))[i] = t
    generalize ((rngI (m + 1)).map (rowL key lv bot)).take i = rows at hlen
    simp only [keyD]
    simp [zip3_tuple, zip3D_map]
    rw [chk_ok (sz_of (by simp; omega))]
    simp
    rw [loopC_all (G := fun p => .int (if p.2.1 ≤ t then p.2.2 else p.1)) (fun p hp => by simp; split <;> simp) (sz_of (by simp; omega))]
    simp [meth_app _ _ (show (rows.map keyD).length < SZ by simpa using hlen)]
    simp [rowL, keyD]
  · rintro σ ⟨x4, rfl⟩
    have e : ((rngI (m + 1)).map (rowL key lv bot)).take (rngI (m + 1)).length = chainL key lv bot m := by
      rw [List.take_of_length_le (by simp)]
      rfl
    rw [e]
    simp
    rfl
theorem law_chain_ev (k : Nat) {c m : Int} {key lv bot : List Int} (hc : c ≤ 5) (h : isLev c m lv) (hz : key.length ≤ 1000) : ev T (k + 1) 83 [.d (keyD key), .d (keyD lv), .d (keyD bot)] = .ret (.d (lockD (chainL key lv bot m))) := by
  refine det [83] ?_
  refine ok_call (d := c_law_chain) (tg rfl) (by decide) (by decide) rfl ?_
  simp only [c_law_chain, startD]
  have hmax := max_lev h
  obtain ⟨h1, h2, h3, h4, h5⟩ := h
  have z0 : (0 : Nat) ≤ SZ := by decide
  simp [z0, hmax, rng_ok (show 0 ≤ m + 1 by omega) (show m + 1 ≤ 1000000 by omega), rngD_eq]
  refine loopF_ok (F := PyData.int) (l := rngI (m + 1)) (fun i σ => ∃ x4, σ = [some (.d (keyD key)), some (.d (keyD lv)), some (.d (keyD bot)), some (.own ((((rngI (m + 1)).map (rowL key lv bot)).take i).map keyD)), x4, none, none, none]) ⟨none, rfl⟩ ?_ ?_
  · rintro i hi σ ⟨x4, rfl⟩
    have e1 : ((rngI (m + 1)).map (rowL key lv bot)).take (i + 1) = ((rngI (m + 1)).map (rowL key lv bot)).take i ++ [rowL key lv bot (rngI (m + 1))[i]] := by
      rw [List.take_succ_eq_append_getElem (by simpa using hi)]
      simp
    rw [e1]
    have hlen : (((rngI (m + 1)).map (rowL key lv bot)).take i).length < SZ := by show _ < 16777216; simp at hi ⊢; omega
    generalize (rngI (m + 1))[i] = t
    generalize ((rngI (m + 1)).map (rowL key lv bot)).take i = rows at hlen
    simp only [keyD]
    simp [zip3_tuple, zip3D_map]
    rw [chk_ok (sz_of (by simp; omega))]
    simp
    rw [loopC_all (G := fun p => .int (if p.2.1 ≤ t then p.2.2 else p.1)) (fun p hp => by simp; split <;> simp) (sz_of (by simp; omega))]
    simp [meth_app _ _ (show (rows.map keyD).length < SZ by simpa using hlen)]
    simp [rowL, keyD]
  · rintro σ ⟨x4, rfl⟩
    have e : ((rngI (m + 1)).map (rowL key lv bot)).take (rngI (m + 1)).length = chainL key lv bot m := by
      rw [List.take_of_length_le (by simp)]
      rfl
    rw [e]
    simp
    rfl
theorem chain_ev (k : Nat) {c d m : Int} (hm : isMake c d) {key lv bot : List Int} (hkey : isKey c d key = true) (h : isLev c m lv) (hb : isKey c d bot = true) (hbb : isBot key bot = true) : ev T (k + 8) 81 [.d (makeD c d), .d (keyD key), .d (keyD lv), .d (keyD bot)] = .ret (.d (lockD (chainL key lv bot m))) := by
  refine eq_call (d := c_chain) (tg rfl) (by decide) (by decide) rfl ?_
  simp only [c_chain, startD]
  have hz : key.length ≤ 1000 := by
    have := (isKey_iff.mp hkey).1
    have := hm.2.1
    omega
  have := chain_of_ev (T := T) (k + 6) (bot := bot) hm.2.1 h hz
  simp [need_bottom_ev (T := T) k hm hkey h hb hbb, this]
theorem chain_lock_ev (k : Nat) {c d m : Int} (hm : isMake c d) {key lv bot : List Int} (hkey : isKey c d key = true) (h : isLev c m lv) (hb : isKey c d bot = true) (hbb : isBot key bot = true) : ev T (k + 8) 79 [.d (makeD c d), .d (keyD key), .d (keyD lv), .d (keyD bot)] = .ret (.d (lockD (chainLock key bot))) := by
  refine eq_call (d := c_chain_lock) (tg rfl) (by decide) (by decide) rfl ?_
  simp only [c_chain_lock, startD]
  have hz : key.length ≤ 1000 := by
    have := (isKey_iff.mp hkey).1
    have := hm.2.1
    omega
  have := lock_of_chain_ev (T := T) (k + 6) (bot := bot) hz
  simp [need_bottom_ev (T := T) k hm hkey h hb hbb, this]
theorem kw_81 (a b c d : PD) : keyArgs (parOf T 81) ["bottom", "levels", "key", "make"] [.d a, .d b, .d c, .d d] = some [.d d, .d c, .d b, .d a] := by
  rw [par_of (T := T) (f := 81) (d := c_chain) rfl]; rfl
theorem kw_79 (a b c d : PD) : keyArgs (parOf T 79) ["bottom", "levels", "key", "make"] [.d a, .d b, .d c, .d d] = some [.d d, .d c, .d b, .d a] := by
  rw [par_of (T := T) (f := 79) (d := c_chain_lock) rfl]; rfl
theorem plain_rows (n : Nat) {l : List (List Int)} (h : l.length ≤ 1000000) (h2 : ∀ x ∈ l, x.length ≤ 1000000) : plainN (n + 2) (lockD l) = true := by
  simp [plainN, lockD]
  exact ⟨h, fun x hx => plain_cuts n (h2 x hx)⟩
theorem chain_plain {c m : Int} {key lv bot : List Int} (hc : c ≤ 5) (h : isLev c m lv) (n : Nat) : plainN (n + 2) (lockD (chainL key lv bot m)) = true := by
  obtain ⟨h1, h2, h3, h4, h5⟩ := h
  refine plain_rows n (by simp [chainL]; omega) fun x hx => ?_
  unfold chainL at hx
  obtain ⟨t, _, rfl⟩ := List.mem_map.mp hx
  simp [rowL]
  omega
theorem chainLock_plain {key bot : List Int} (hz : key.length ≤ 1000) (n : Nat) : plainN (n + 2) (lockD (chainLock key bot)) = true := by
  refine plain_rows n (by simp [chainLock]; omega) fun x hx => ?_
  unfold chainLock at hx
  obtain ⟨p, _, rfl⟩ := List.mem_map.mp hx
  have := (sortI_perm [p.1, p.2]).length_eq
  simp at this
  omega
theorem chained_ev (k : Nat) {c d m : Int} (hm : isMake c d) {key lv bot : List Int} (hkey : isKey c d key = true) (h : isLev c m lv) (hb : isKey c d bot = true) (hbb : isBot key bot = true) : Ok (ev T (k + 9) 84 [.feed, .d (makeD c d), .d (keyD key), .d (keyD lv), .d (keyD bot)]) fun v => v = .d (.bool true) := by
  have hz : key.length ≤ 1000 := by
    have := (isKey_iff.mp hkey).1
    have := hm.2.1
    omega
  refine ok_call (d := c_law_chained) (tg rfl) (by decide) (by decide) rfl ?_
  simp only [c_law_chained, startD]
  have z0 : (0 : Nat) ≤ SZ := by decide
  have z1 : (1 : Nat) ≤ SZ := by decide
  have z2 : (2 : Nat) ≤ SZ := by decide
  have e1 := chain_ev (T := T) k hm hkey h hb hbb
  have e2 := chain_lock_ev (T := T) k hm hkey h hb hbb
  have e3 := law_chain_ev (T := T) (k + 7) (bot := bot) hm.2.1 h hz
  have e4 := law_chain_lock_ev (T := T) (k + 7) (bot := bot) hz
  have e5 := same_ev (T := T) 3 (.list [lockD (chainL key lv bot m), lockD (chainLock key bot)]) (k + 4) (by simp [plainN, chain_plain (key := key) (bot := bot) hm.2.1 h 0, chainLock_plain (bot := bot) hz 0])
  have w : (Str.ofString "lock" == Str.ofString "chain") = false := by decide +kernel
  simp [z0, z1, z2, e3, e4]
  refine (mixed_ev (T := T) (k + 6) (.inl rfl) (by simp)).mono fun v ⟨ys, e, hp⟩ => ?_
  subst e
  rcases perm_two hp with rfl | rfl
  all_goals
    simp [z2, chk_ok, KB.loopF, e1, e2, w, z1, add_list, e5, kw_81, kw_79]
end
end KC
/-! KM11: bottom keys and chains (k11). -/
namespace KC
open PySem KB
open KA hiding rd esc op1 op2 rds newM bltV bltVs bindTg wipeD loopC loopC2 keyArgs evE evEs evXs evAnd evOr evT evTAnd evTOr evC evO evI loopF loopW setItem evS evSs startD evCall rd_d esc_d op1_d op2_d rds_nil newM_false newM_true evT_cmp SR R
theorem loopF_okI {f : PD → SgB → B St} {l : List PD} {N : SgB → Prop} {R : VB → Prop} {X : Ex → SgB → Prop} (I : Nat → SgB → Prop) {σ : SgB} (h0 : I 0 σ) (st : ∀ i (h : i < l.length) σ, I i σ → OkS (f l[i] σ) (I (i + 1)) R X) (fin : ∀ σ, I l.length σ → N σ) : OkS (KB.loopF f l σ) N R X := by
  have := loopF_ok (F := fun x : PD => x) (f := f) (l := l) (N := N) (R := R) (X := X) I h0 st fin
  simpa using this
theorem opn_others {d : Int} : ∀ {bot key : List Int}, Opn bot (othersL d key) → bot.length = key.length ∧ (∀ x ∈ bot, 0 ≤ x ∧ x < d) ∧ isBot key bot = true
  | [], [], _ => ⟨rfl, by simp, rfl⟩
  | [], _ :: _, h => h.elim
  | _ :: _, [], h => h.elim
  | b :: bot, t :: key, h => by
    obtain ⟨h1, h2⟩ := h
    obtain ⟨a1, a2, a3⟩ := opn_others (bot := bot) (key := key) h2
    simp at h1
    refine ⟨by simp [a1], fun x hx => ?_, ?_⟩
    · rcases List.mem_cons.mp hx with e | e
      · rw [e]; exact h1.1
      · exact a2 x e
    · unfold isBot at a3 ⊢
      simp at a3 ⊢
      exact ⟨h1.2, a3⟩
/-- what the others of a key's cuts are -/
theorem others_lock {c d : Int} (hm : isMake c d) {key : List Int} (hkey : isKey c d key = true) : (othersL d key).length ≤ 5 ∧ (∀ x ∈ othersL d key, x.length ≤ 5 ∧ x ≠ []) ∧ 0 < sizeL (othersL d key) ∧ sizeL (othersL d key) ≤ 3125 ∧ key.length ≤ 5 := by
  obtain ⟨m1, m2, m3, m4⟩ := hm
  obtain ⟨k1, k2⟩ := isKey_iff.mp hkey
  have h1 : (othersL d key).length ≤ 5 := by simp [othersL]; omega
  have h2 : ∀ x ∈ othersL d key, x.length ≤ 5 ∧ x ≠ [] := fun x hx => by
    unfold othersL at hx
    obtain ⟨y, hy, rfl⟩ := List.mem_map.mp hx
    have hy2 := k2 y hy
    have := others_len hy2.1 hy2.2
    refine ⟨by omega, fun e => ?_⟩
    rw [e] at this
    simp at this
    omega
  have h3 : 0 < sizeL (othersL d key) := by
    have : ∀ l : List (List Int), (∀ x ∈ l, x ≠ []) → 0 < sizeL l := by
      intro l
      induction l with
      | nil => intro _; decide
      | cons a r ih =>
        intro hh
        rw [size_cons]
        have h1 := ih fun x hx => hh x (by simp [hx])
        have h2 : 0 < a.length := List.length_pos_iff.mpr (hh a (by simp))
        exact Int.mul_pos (by omega) h1
    exact this _ fun x hx => (h2 x hx).2
  have h4 : sizeL (othersL d key) ≤ 3125 := by
    have := prod_le (m := 5) (n := 5) (by decide) h1 fun x hx => (h2 x hx).1
    unfold sizeL
    omega
  exact ⟨h1, h2, h3, h4, by omega⟩
theorem bot_at {c d : Int} (hm : isMake c d) {key : List Int} (hkey : isKey c d key = true) {n : Nat} (hn : (n : Int) < sizeL (othersL d key)) : isKey c d (atR (othersL d key) n) = true ∧ isBot key (atR (othersL d key) n) = true ∧ (atR (othersL d key) n).length ≤ 5 ∧ (prodR (othersL d key))[n]? = some (atR (othersL d key) n) := by
  obtain ⟨o1, o2, o3, o4, o5⟩ := others_lock hm hkey
  have hp := prod_at (othersL d key) n (fun x hx => (o2 x hx).2) (by unfold sizeL at hn; omega)
  have ho := mem_prod.mp (List.mem_of_getElem? hp)
  obtain ⟨a1, a2, a3⟩ := opn_others ho
  exact ⟨isKey_iff.mpr ⟨by rw [a1]; exact (isKey_iff.mp hkey).1, a2⟩, a3, by omega, hp⟩
section
variable {T : Tab} [Le TG T]
theorem kw_71 (a b c : PD) : keyArgs (parOf T 71) ["number", "key", "make"] [.d a, .d b, .d c] = some [.d c, .d b, .d a] := by
  rw [par_of (T := T) (f := 71) (d := c_bottom_at) rfl]; rfl
theorem kw_85 (a b : PD) : keyArgs (parOf T 85) ["key", "make"] [.d a, .d b] = some [.d b, .d a] := by
  rw [par_of (T := T) (f := 85) (d := c_bottoms) rfl]; rfl
theorem pow30 : binD .Pow (.int 10) (.int 30) = some (.int (10 ^ 30)) := Eq.trans rfl rfl
theorem law_6_ev (k : Nat) {ns : List Int} (hn : ns.length < 1000) : Ok (ev T (k + 11) 87 [.d (.list (ns.map .int))]) fun v => v = .d (.bool true) := by
  refine ok_call (d := c_law_6) (tg rfl) (by decide) (by decide) rfl ?_
  simp only [c_law_6, startD]
  simp
  obtain ⟨n, hne, n0, n8⟩ : ∃ n : Int, (if (2 : Int) < if (5 : Int) < (ns.length : Int) then 5 else (ns.length : Int) then if (5 : Int) < (ns.length : Int) then 5 else (ns.length : Int) else 2) = n ∧ 0 ≤ n ∧ n ≤ 5 := ⟨_, rfl, by split <;> split <;> omega, by split <;> split <;> omega⟩
  rw [hne]
  simp [rng_ok n0 (show n ≤ 1000000 by omega), rngD_eq]
  refine loopF_ok (F := PyData.int) (l := rngI n) (fun i σ => ∃ x1 x2 x3 x4 x5 x6 x7 x8 x9 x10 x11 x12 x13, σ = [some (.d (.list (ns.map .int))), x1, x2, x3, x4, x5, x6, x7, x8, x9, x10, x11, x12, x13, none]) ⟨none, none, none, none, none, none, none, none, none, none, none, none, none, rfl⟩ ?_ ?_
  · rintro i hi σ ⟨x1, x2, x3, x4, x5, x6, x7, x8, x9, x10, x11, x12, x13, rfl⟩
    have hk := mem_rngI.mp (List.getElem_mem hi)
    generalize (rngI n)[i] = y at hk
    have z2 : (2 : Nat) ≤ SZ := by decide
    have z1 : (1 : Nat) ≤ SZ := by decide
    have z0 : (0 : Nat) ≤ SZ := by decide
    have z11 : (11 : Nat) ≤ SZ := by decide
    have hf := feed_eq (N := NG) (T := T) (f := 30) (k := k + 9) (ns := ns) (c := y) (tg rfl) (by decide) (by decide) hk.1 (by omega) hn
    simp [hf]
    refine (make_ev (T := T) (k + 7)).mono fun v ⟨c, d, e, hm⟩ => ?_
    subst e
    simp
    refine (key_ev (T := T) (k + 8) hm).mono fun v ⟨key, e, hkey⟩ => ?_
    subst e
    obtain ⟨o1, o2, o3, o4, o5⟩ := others_lock hm hkey
    have h1 := others_ev (T := T) (k + 9) hm (show key.length ≤ 1000 by omega)
    have h2 := size_ev (T := T) (k + 9) (show (othersL d key).length ≤ 1000 by omega) (fun x hx => by have := (o2 x hx).1; omega)
    have h3 := bottoms_ev (T := T) (k + 4) hm hkey
    have h4 := same_ev (T := T) 2 (.list [.int (sizeL (othersL d key)), .int (sizeL (othersL d key))]) (k + 7) (by simp [plainN])
    have h5 := every_ev (T := T) (k + 9) o1 (fun x hx => (o2 x hx).1)
    have hba := fun (n : Nat) hn => bottom_at_ev (T := T) (k + 4) hm hkey (n := n) hn
    have hlv := levels_ev (T := T) (k + 7) hm
    have hat := fun n => law_at_ev (T := T) (k + 9) o1 o2 n
    have hbt := fun (n : Nat) hn => bot_at hm hkey (n := n) hn
    have href := fun x hx => refused2_ev (T := T) (k + 3) hm hkey (x := x) hx
    have hch := fun m lv bot h hb hbb => chained_ev (T := T) (k + 1) (m := m) (lv := lv) (bot := bot) hm hkey h hb hbb
    simp [h1, h2, h3, h4, kw_85, z2]
    generalize hoe : othersL d key = oth at *
    generalize hme : sizeL oth = many at *
    have hodd : ∀ j : Int, 0 ≤ j → j < 9 → ∀ x ∈ [PyData.int (-1), .int (-many), .int many, .int (many + 1 + j), .int (10 ^ 30), .bool true, .bool false, .none, .str (Str.ofString "0"), .tuple [.int 0], .list [.int 0]], within x 0 (many - 1) = false := fun j j0 j1 x hx => by
      have e30 : (10 : Int) ^ 30 = 1000000000000000000000000000000 := by decide +kernel
      rw [e30] at hx
      simp at hx
      rcases hx with rfl | rfl | rfl | rfl | rfl | rfl | rfl | rfl | rfl | rfl | rfl <;> simp [within] <;> omega
    by_cases hq : many ≤ 64
    · have hmr : many.toNat ≤ 64 := by omega
      simp [hq, rng_ok (show 0 ≤ many by omega) (show many ≤ 1000000 by omega), rngD_eq, h5]
      refine hlv.mono fun v ⟨m, lv, e, hl⟩ => ?_
      subst e
      simp
      refine (mixed_ev (T := T) (k + 8) (.inl rfl) (by simp; omega)).mono fun v ⟨ys, e, hp⟩ => ?_
      subst e
      obtain ⟨zs, rfl, hz⟩ := perm_intsP hp
      have hzl := hz.length_eq
      have hzm : ∀ z ∈ zs, 0 ≤ z ∧ z < many := fun z h => by simpa using hz.subset h
      simp at hzl
      simp
      rw [chk_ok (sz_of (by simp; omega))]
      simp only [ok_ret]
      refine loopF_ok (F := PyData.int) (l := zs) (fun i σ => ∃ m lv x10 x12 x13, σ = [some (.d (.list (ns.map .int))), some (.d (.int y)), some .feed, some (.d (makeD c d)), some (.d (keyD key)), some (.d (lockD oth)), some (.d (.int many)), some (.d (.list ((rngI many).map .int))), some (.d (.list ((prodR oth).map keyD))), some (.d (keyD lv)), x10, x11, x12, x13, none] ∧ isLev c m lv) ⟨m, lv, x10, x12, x13, rfl, hl⟩ ?_ ?_
      · intro i hi σ hI
        have hj := hzm _ (List.getElem_mem hi)
        generalize zs[i] = j at hj
        obtain ⟨j, rfl, hj2⟩ := nat_of hj.1 hj.2
        have hb := hbt j hj2
        have hb2 := hba j hj2
        rcases hI with ⟨m, lv, x10, x12, x13, e, hl⟩
        rw [e]
        have hs := same_ev (T := T) 1 (keyD (atR oth j)) (k + 8) (plain_key 0 (by omega))
        simp [hq, sub_list_nat, hb.2.2.2, draw_ev]
        intro a a0 a1
        simp [kw_71, hb2, hs]
        refine (hch m lv _ hl hb.1 hb.2.1).mono fun v e => ?_
        subst e
        simp [draw_ev]
        intro b b0 b1
        by_cases hbz : b = 0
        · simp [hbz]
          refine hlv.mono fun v ⟨m2, lv2, e, hl2⟩ => ?_
          subst e
          simp
          exact ⟨m2, hl2⟩
        · simp [hbz]
          exact ⟨m, hl⟩
      · intro σ hI
        rcases hI with ⟨m, lv, x10, x12, x13, e, hl⟩
        rw [e]
        simp [negD, draw_ev, pow30, z1, z11]
        intro j j0 j1
        have ho' := hodd j j0 j1
        rw [show (10 : Int) ^ 30 = 1000000000000000000000000000000 by decide +kernel] at ho'
        rw [chk_ok (by show 11 ≤ SZ; decide)]
        simp only [ok_ret]
        refine loopF_okI (fun i σ => ∃ x11, σ = [some (.d (.list (ns.map .int))), some (.d (.int y)), some .feed, some (.d (makeD c d)), some (.d (keyD key)), some (.d (lockD oth)), some (.d (.int many)), some (.d (.list ((rngI many).map .int))), some (.d (.list ((prodR oth).map keyD))), some (.d (keyD lv)), x10, x11, x12, x13, none]) ⟨x11, rfl⟩ ?_ ?_
        · intro i hi σ hI
          have hx := ho' _ (List.getElem_mem hi)
          generalize (_ : List PD)[i] = w at hx ⊢
          rcases hI with ⟨x11, e⟩
          rw [e]
          simp [href w hx]
        · intro σ hI
          rcases hI with ⟨x11, e⟩
          rw [e]
          simp
    · have z22 : (22 : Nat) ≤ SZ := by decide
      simp [hq, z2, z0, rng_ok (show (0 : Int) ≤ 20 by decide) (show (20 : Int) ≤ 1000000 by decide), rngD_eq]
      refine loopC_each (F := PyData.int) (G := PyData.int) (P := fun x => 0 ≤ x ∧ x < many) (l := rngI 20) (fun y hy => ?_) (sz_of (by simp)) fun ms hl hP => ?_
      · simp [draw_ev _ (show many < 18446744073709551616 by omega)]
        exact ⟨by omega, fun a a0 a1 => ⟨a0, a1⟩⟩
      simp at hl
      rw [add_list (sz_of (by simp; omega))]
      have hnums : [PyData.int 0, .int (many - 1)] ++ ms.map .int = ([0, many - 1] ++ ms).map .int := by simp
      rw [hnums]
      have hnm : ∀ z ∈ [0, many - 1] ++ ms, 0 ≤ z ∧ z < many := fun z h => by
        simp at h
        rcases h with rfl | rfl | h
        · omega
        · omega
        · exact hP z h
      have hnl : ([0, many - 1] ++ ms).length ≤ 1000 := by simp; omega
      generalize [0, many - 1] ++ ms = nums at hnm hnl
      simp
      refine hlv.mono fun v ⟨m, lv, e, hl⟩ => ?_
      subst e
      simp
      refine (mixed_ev (T := T) (k + 8) (.inl rfl) (by simp; omega)).mono fun v ⟨ys, e, hp⟩ => ?_
      subst e
      obtain ⟨zs, rfl, hz⟩ := perm_intsP hp
      have hzl := hz.length_eq
      have hzm : ∀ z ∈ zs, 0 ≤ z ∧ z < many := fun z h => hnm z (hz.subset h)
      simp
      rw [chk_ok (sz_of (by simp; omega))]
      simp only [ok_ret]
      refine loopF_ok (F := PyData.int) (l := zs) (fun i σ => ∃ m lv x10 x12 x13, σ = [some (.d (.list (ns.map .int))), some (.d (.int y)), some .feed, some (.d (makeD c d)), some (.d (keyD key)), some (.d (lockD oth)), some (.d (.int many)), some (.d (.list (nums.map .int))), some (.d (.list [])), some (.d (keyD lv)), x10, x11, x12, x13, none] ∧ isLev c m lv) ⟨m, lv, x10, x12, x13, rfl, hl⟩ ?_ ?_
      · intro i hi σ hI
        have hj := hzm _ (List.getElem_mem hi)
        generalize zs[i] = j at hj
        obtain ⟨j, rfl, hj2⟩ := nat_of hj.1 hj.2
        have hb := hbt j hj2
        have hb2 := hba j hj2
        rcases hI with ⟨m, lv, x10, x12, x13, e, hl⟩
        rw [e]
        have hs := same_ev (T := T) 1 (keyD (atR oth j)) (k + 8) (plain_key 0 (by omega))
        simp [hq, hat, draw_ev]
        intro a a0 a1
        simp [kw_71, hb2, hs]
        refine (hch m lv _ hl hb.1 hb.2.1).mono fun v e => ?_
        subst e
        simp [draw_ev]
        intro b b0 b1
        by_cases hbz : b = 0
        · simp [hbz]
          refine hlv.mono fun v ⟨m2, lv2, e, hl2⟩ => ?_
          subst e
          simp
          exact ⟨m2, hl2⟩
        · simp [hbz]
          exact ⟨m, hl⟩
      · intro σ hI
        rcases hI with ⟨m, lv, x10, x12, x13, e, hl⟩
        rw [e]
        simp [negD, draw_ev, pow30, z1, z11]
        intro j j0 j1
        have ho' := hodd j j0 j1
        rw [show (10 : Int) ^ 30 = 1000000000000000000000000000000 by decide +kernel] at ho'
        rw [chk_ok (by show 11 ≤ SZ; decide)]
        simp only [ok_ret]
        refine loopF_okI (fun i σ => ∃ x11, σ = [some (.d (.list (ns.map .int))), some (.d (.int y)), some .feed, some (.d (makeD c d)), some (.d (keyD key)), some (.d (lockD oth)), some (.d (.int many)), some (.d (.list (nums.map .int))), some (.d (.list [])), some (.d (keyD lv)), x10, x11, x12, x13, none]) ⟨x11, rfl⟩ ?_ ?_
        · intro i hi σ hI
          have hx := ho' _ (List.getElem_mem hi)
          generalize (_ : List PD)[i] = w at hx ⊢
          rcases hI with ⟨x11, e⟩
          rw [e]
          simp [href w hx]
        · intro σ hI
          rcases hI with ⟨x11, e⟩
          rw [e]
          simp
  · rintro σ ⟨x1, x2, x3, x4, x5, x6, x7, x8, x9, x10, x11, x12, x13, rfl⟩
    simp
end
end KC
/-! KM12: branches and meetings (k12). -/
namespace KC
open PySem KB
open KA hiding rd esc op1 op2 rds newM bltV bltVs bindTg wipeD loopC loopC2 keyArgs evE evEs evXs evAnd evOr evT evTAnd evTOr evC evO evI loopF loopW setItem evS evSs startD evCall rd_d esc_d op1_d op2_d rds_nil newM_false newM_true evT_cmp SR R
/-! ### plain -/
/-- the product of what is left above a level -/
def brP (d t : Int) : List Int → Int
  | [] => 1
  | l :: r => (if t < l then d - 1 else 1) * brP d t r
theorem brP_fold (d t : Int) : ∀ (lv : List Int) (m : Int), lv.foldl (fun a l => if t < l then a * (d - 1) else a) m = m * brP d t lv
  | [], m => by simp [brP]
  | l :: r, m => by
    rw [List.foldl_cons, brP_fold d t r, brP]
    split
    · rw [Int.mul_assoc]
    · rw [Int.one_mul]
theorem brP_size {d t : Int} : ∀ (key lv : List Int), (∀ x ∈ key, 0 ≤ x ∧ x < d) → lv.length = key.length → sizeL ((((othersL d key).zip lv).filter fun p => decide (t < p.2)).map (·.1)) = brP d t lv
  | [], [], _, _ => rfl
  | [], _ :: _, _, h => by simp at h
  | _ :: _, [], _, h => by simp at h
  | x :: ks, l :: ls, hk, h => by
    have ih := brP_size (d := d) (t := t) ks ls (fun y hy => hk y (by simp [hy])) (by simpa using h)
    have hx := hk x (by simp)
    have e : othersL d (x :: ks) = ((rngI d).filter fun y => !decide (y = x)) :: othersL d ks := rfl
    rw [e, List.zip_cons_cons, brP]
    by_cases hl : t < l
    · rw [List.filter_cons_of_pos (by simpa using hl), List.map_cons, size_cons, ih, others_len hx.1 hx.2, if_pos hl]
    · rw [List.filter_cons_of_neg (by simpa using hl), ih, if_neg hl, Int.one_mul]
theorem sum_const {γ : Type} (p : γ → Bool) (n : Nat) : ∀ l : List γ, (l.map fun y => if p y = true then n else 0).sum = l.countP p * n
  | [] => by simp
  | a :: r => by
    rw [List.map_cons, List.sum_cons, sum_const p n r, List.countP_cons]
    split <;> simp_all [Nat.add_mul, Nat.add_comm]
theorem count_one {b : Int} : ∀ {l : List Int}, l.Nodup → b ∈ l → l.countP (fun y => decide (y = b)) = 1
  | a :: r, hn, hm => by
    obtain ⟨h1, h2⟩ := List.nodup_cons.mp hn
    rw [List.countP_cons]
    by_cases e : a = b
    · subst e
      have : r.countP (fun y => decide (y = a)) = 0 := List.countP_eq_zero.mpr fun y hy => by
        have : y ≠ a := fun q => h1 (q ▸ hy)
        simpa using this
      rw [this]; simp
    · have hm' : b ∈ r := (List.mem_cons.mp hm).elim (fun q => absurd q.symm e) id
      rw [count_one h2 hm']; simp [e]
theorem rowL_cons (x l b t : Int) (ks ls bs : List Int) : rowL (x :: ks) (l :: ls) (b :: bs) t = (if l ≤ t then b else x) :: rowL ks ls bs t := rfl
theorem isBot_cons (x b : Int) (ks bs : List Int) : isBot (x :: ks) (b :: bs) = (!decide (b = x) && isBot ks bs) := rfl
theorem br_count {d t : Int} : ∀ (key lv bot : List Int), (∀ x ∈ key, 0 ≤ x ∧ x < d) → (∀ x ∈ bot, 0 ≤ x ∧ x < d) → lv.length = key.length → bot.length = key.length → isBot key bot = true →
    (((prodR (othersL d key)).countP fun one => decide (rowL key lv one t = rowL key lv bot t) : Nat) : Int) = brP d t lv
  | [], [], [], _, _, _, _, _ => by simp [othersL, prodR, rowL, brP]
  | [], _ :: _, _, _, _, h, _, _ => by simp at h
  | [], [], _ :: _, _, _, _, h, _ => by simp at h
  | _ :: _, [], _, _, _, h, _, _ => by simp at h
  | _ :: _, _ :: _, [], _, _, _, h, _ => by simp at h
  | x :: ks, l :: ls, b :: bs, hk, hb, h1, h2, h3 => by
    rw [isBot_cons] at h3
    obtain ⟨h4, h5⟩ := Bool.and_eq_true_iff.mp h3
    have ih := br_count (d := d) (t := t) ks ls bs (fun y hy => hk y (by simp [hy])) (fun y hy => hb y (by simp [hy])) (by simpa using h1) (by simpa using h2) h5
    have hx := hk x (by simp)
    have hbx := hb b (by simp)
    have e : othersL d (x :: ks) = ((rngI d).filter fun y => !decide (y = x)) :: othersL d ks := rfl
    rw [e, prodR, List.countP_flatMap]
    have hs : ∀ y : Int, ((prodR (othersL d ks)).map (y :: ·)).countP (fun one => decide (rowL (x :: ks) (l :: ls) one t = rowL (x :: ks) (l :: ls) (b :: bs) t)) = if decide (l ≤ t → y = b) = true then (prodR (othersL d ks)).countP (fun one => decide (rowL ks ls one t = rowL ks ls bs t)) else 0 := fun y => by
      rw [List.countP_map]
      by_cases hl : l ≤ t
      · by_cases hy : y = b
        · simp [hl, hy, Function.comp_def, rowL_cons]
        · simp [hl, hy, Function.comp_def, rowL_cons]
      · simp [hl, Function.comp_def, rowL_cons]
    have hs2 : (List.countP (fun one => decide (rowL (x :: ks) (l :: ls) one t = rowL (x :: ks) (l :: ls) (b :: bs) t)) ∘ fun y => (prodR (othersL d ks)).map (y :: ·)) = fun y => if decide (l ≤ t → y = b) = true then (prodR (othersL d ks)).countP (fun one => decide (rowL ks ls one t = rowL ks ls bs t)) else 0 := funext hs
    rw [hs2, sum_const, brP]
    push_cast
    rw [ih]
    congr 1
    by_cases hl : l ≤ t
    · rw [if_neg (by omega)]
      have hm : b ∈ (rngI d).filter fun y => !decide (y = x) := by
        simp at h4 ⊢
        exact ⟨⟨hbx.1, hbx.2⟩, h4⟩
      have hn : ((rngI d).filter fun y => !decide (y = x)).Nodup := ((rngI_asc d).imp fun {a b} q e => by omega).filter _
      have := count_one hn hm
      simp only [hl, true_implies]
      rw [this]
      rfl
    · rw [if_pos (by omega), ← others_len hx.1 hx.2]
      congr 1
      simp [hl]
def maxOf : List Int → Int
  | [] => 0
  | n :: r => maxI n r
theorem max_list {l : List Int} (h : l ≠ []) : bltD .max_ [.list (l.map .int)] = some (.int (maxOf l)) := by
  cases l with
  | nil => exact absurd rfl h
  | cons n r =>
    show (match intsD ((n :: r).map .int) with
      | some (n :: ns) => some (PyData.int (maxI n ns))
      | _ => none) = _
    rw [intsD_mp]
    rfl
/-- the levels at which two chains have the same key -/
def meetL (key lv a b : List Int) (m : Int) : List Int := (rngI (m + 1)).filter fun t => decide (rowL key lv a t = rowL key lv b t)
theorem meet_comm (key lv a b : List Int) (m : Int) : meetL key lv a b m = meetL key lv b a m := by
  unfold meetL
  congr 1
  funext t
  rw [decide_eq_decide]
  exact eq_comm
theorem row0 {c m : Int} : ∀ {key lv : List Int} (bot : List Int), (∀ x ∈ lv, 1 ≤ x ∧ x ≤ m) → lv.length = key.length → bot.length = key.length → rowL key lv bot 0 = key
  | [], [], [], _, _, _ => rfl
  | [], _ :: _, _, _, h, _ => by simp at h
  | [], [], _ :: _, _, _, h => by simp at h
  | _ :: _, [], _, _, h, _ => by simp at h
  | _ :: _, _ :: _, [], _, _, h => by simp at h
  | x :: ks, l :: ls, b :: bs, h0, h1, h2 => by
    have := h0 l (by simp)
    rw [rowL_cons, row0 (c := c) (m := m) bs (fun y hy => h0 y (by simp [hy])) (by simpa using h1) (by simpa using h2), if_neg (by omega)]
theorem meet_ne {c m : Int} {key lv a b : List Int} (h : isLev c m lv) (hk : (key.length : Int) = c) (ha : a.length = key.length) (hb : b.length = key.length) : meetL key lv a b m ≠ [] := fun e => by
  obtain ⟨h1, h2, h3, h4, h5⟩ := h
  have : (0 : Int) ∈ meetL key lv a b m := by
    simp [meetL]
    refine ⟨by omega, ?_⟩
    rw [row0 (c := c) (m := m) a h4 (by omega) ha, row0 (c := c) (m := m) b h4 (by omega) hb]
  rw [e] at this
  simp at this
theorem chain_at {key lv bot : List Int} {m : Int} {t : Nat} (h : (t : Int) < m + 1) : subD (lockD (chainL key lv bot m)) (.int (t : Int)) = some (keyD (rowL key lv bot t)) := by
  unfold lockD chainL
  rw [sub_tup_nat]
  have hlt : t < (rngI (m + 1)).length := by simp; omega
  have e : (rngI (m + 1))[t]? = some (t : Int) := by
    unfold rngI
    rw [List.getElem?_map, List.getElem?_range (by omega)]
    rfl
  rw [List.getElem?_map, List.getElem?_map, e]
  rfl
theorem len_chain (key lv bot : List Int) (m : Int) : bltD .len [lockD (chainL key lv bot m)] = some (.int ((m + 1).toNat : Int)) := by
  unfold lockD chainL
  simp
/-- a bottom key -/
def okBot (c d : Int) (key bot : List Int) : Prop := isKey c d bot = true ∧ isBot key bot = true
theorem pick_ok {d : Int} : ∀ {key bot oth : List Int} {ds : List PD}, bot.length = key.length → oth.length = key.length → ds.length = (bot.zip oth).length → (∀ i (h : i < (bot.zip oth).length) (h' : i < ds.length), ∃ x : Int, ds[i] = .int x ∧ (x = (bot.zip oth)[i].1 ∨ x = (bot.zip oth)[i].2)) →
    (∀ x ∈ bot, 0 ≤ x ∧ x < d) → (∀ x ∈ oth, 0 ≤ x ∧ x < d) → isBot key bot = true → isBot key oth = true → ∃ xs : List Int, ds = xs.map .int ∧ xs.length = key.length ∧ (∀ x ∈ xs, 0 ≤ x ∧ x < d) ∧ isBot key xs = true
  | [], [], [], [], _, _, _, _, _, _, _, _ => ⟨[], rfl, rfl, by simp, rfl⟩
  | [], [], [], _ :: _, _, _, h, _, _, _, _, _ => by simp at h
  | [], _ :: _, _, _, h, _, _, _, _, _, _, _ => by simp at h
  | [], [], _ :: _, _, _, h, _, _, _, _, _, _ => by simp at h
  | _ :: _, [], _, _, h, _, _, _, _, _, _, _ => by simp at h
  | _ :: _, _ :: _, [], _, _, h, _, _, _, _, _, _ => by simp at h
  | _ :: _, _ :: _, _ :: _, [], _, _, h, _, _, _, _, _ => by simp at h
  | k :: ks, b :: bs, o :: os, e :: es, h1, h2, h3, h4, h5, h6, h7, h8 => by
    rw [isBot_cons] at h7 h8
    obtain ⟨a1, a2⟩ := Bool.and_eq_true_iff.mp h7
    obtain ⟨c1, c2⟩ := Bool.and_eq_true_iff.mp h8
    obtain ⟨xs, rfl, i1, i2, i3⟩ := pick_ok (d := d) (key := ks) (bot := bs) (oth := os) (ds := es) (by simpa using h1) (by simpa using h2) (by simpa using h3) (fun i h h' => by
      have := h4 (i + 1) (by simpa using h) (by simpa using h')
      simpa using this) (fun x hx => h5 x (by simp [hx])) (fun x hx => h6 x (by simp [hx])) a2 c2
    obtain ⟨x, e1, e2⟩ := h4 0 (by simp) (by simp)
    simp at e1 e2
    subst e1
    refine ⟨x :: xs, rfl, by simp [i1], fun y hy => ?_, ?_⟩
    · rcases List.mem_cons.mp hy with q | q
      · subst q
        rcases e2 with rfl | rfl
        · exact h5 _ (by simp)
        · exact h6 _ (by simp)
      · exact i2 y q
    · rw [isBot_cons, i3, Bool.and_true]
      rcases e2 with rfl | rfl
      · exact a1
      · exact c1
theorem isBot_snoc {b x : Int} : ∀ {key bot : List Int}, bot.length = key.length → isBot key bot = true → b ≠ x → isBot (key ++ [x]) (bot ++ [b]) = true
  | [], [], _, _, h => by simp [isBot, h]
  | [], _ :: _, h, _, _ => by simp at h
  | _ :: _, [], h, _, _ => by simp at h
  | k :: ks, c :: cs, h, h2, h3 => by
    rw [isBot_cons] at h2
    obtain ⟨a1, a2⟩ := Bool.and_eq_true_iff.mp h2
    rw [List.cons_append, List.cons_append, isBot_cons, a1, isBot_snoc (by simpa using h) a2 h3]
    rfl
section
variable {T : Tab} [Le TG T]
theorem size_list_ev (k : Nat) {lock : List (List Int)} (hl : lock.length ≤ 1000) (hs : ∀ c ∈ lock, c.length ≤ 1000) : ev T (k + 1) 21 [.d (.list (lock.map cutsD))] = .ret (.d (.int (sizeL lock))) := by
  refine eq_call (d := c_law_size) (tg rfl) (by decide) (by decide) rfl ?_
  simp only [c_law_size, startD]
  simp
  rw [chk_ok (sz_of (by simp; omega))]
  simp
  refine loop_bind (s := fun (m : Int) (j : Option VB) => [some (.d (.list (lock.map cutsD))), some (.d (.int m)), j]) (g := fun m c => m * (c.length : Int)) 1 none (fun m j c hc => ?_) fun j => ?_
  · have hb : -(2 ^ 64) < (c.length : Int) ∧ (c.length : Int) < 2 ^ 64 := by
      have e : (2 : Int) ^ 64 = 18446744073709551616 := by decide +kernel
      have := hs c hc
      rw [e]; omega
    exact ⟨some (.d (cutsD c)), by simp [cutsD, mul_r hb]⟩
  · simp [size_fold]
theorem bottom_ev (k : Nat) {c d : Int} (hm : isMake c d) {key : List Int} (hkey : isKey c d key = true) : Ok (ev T (k + 2) 92 [.feed, .d (makeD c d), .d (keyD key)]) fun v => ∃ bot, v = .d (keyD bot) ∧ okBot c d key bot := by
  obtain ⟨m1, m2, m3, m4⟩ := hm
  obtain ⟨k1, k2⟩ := isKey_iff.mp hkey
  refine ok_call (d := c_law_bottom) (tg rfl) (by decide) (by decide) rfl ?_
  simp only [c_law_bottom, startD]
  have z0 : (0 : Nat) ≤ SZ := by decide
  simp only [keyD]
  simp [z0]
  rw [chk_ok (sz_of (by simp; omega))]
  simp only [ok_ret]
  refine loopF_ok (F := PyData.int) (l := key) (fun i σ => ∃ gs x4 x5, σ = [some .feed, some (.d (makeD c d)), some (.d (.tuple (key.map .int))), some (.own (gs.map .int)), x4, x5] ∧ gs.length = (key.take i).length ∧ (∀ x ∈ gs, 0 ≤ x ∧ x < d) ∧ isBot (key.take i) gs = true) ⟨[], none, none, rfl, by simp, by simp, rfl⟩ ?_ ?_
  · intro i hi σ hI
    have hx := k2 _ (List.getElem_mem hi)
    have htk : key.take (i + 1) = key.take i ++ [key[i]] := List.take_succ_eq_append_getElem hi
    rw [htk]
    generalize key[i] = x at hx
    rcases hI with ⟨gs, x4, x5, e, h1, h2, h3⟩
    rw [e]
    have hlt : (gs.map PyData.int).length < SZ := by show _ < 16777216; simp at h1 ⊢; omega
    simp [draw_ev _ (show d - 1 < 18446744073709551616 by omega)]
    refine ⟨by omega, fun a a0 a1 => ?_⟩
    have hint : bltD .int_ [.bool (decide (x ≤ a))] = some (.int (if x ≤ a then 1 else 0)) := by
      show some (PyData.int (if decide (x ≤ a) = true then 1 else 0)) = _
      simp
    simp [hint, meth_app _ _ hlt]
    refine ⟨gs ++ [a + if x ≤ a then 1 else 0], by simp, by simp [h1], fun y hy => ?_, ?_⟩
    · rcases List.mem_append.mp hy with q | q
      · exact h2 y q
      · simp at q
        subst q
        split <;> omega
    · refine isBot_snoc h1 h3 ?_
      split <;> omega
  · intro σ hI
    rcases hI with ⟨gs, x4, x5, e, h1, h2, h3⟩
    rw [e]
    rw [List.take_length] at h1 h3
    simp
    exact ⟨gs, rfl, isKey_iff.mpr ⟨by omega, h2⟩, h3⟩
theorem botnear_ev (k : Nat) {c d : Int} (hm : isMake c d) {key bot : List Int} (hkey : isKey c d key = true) (hb : okBot c d key bot) : Ok (ev T (k + 3) 93 [.feed, .d (makeD c d), .d (keyD key), .d (keyD bot)]) fun v => ∃ bot, v = .d (keyD bot) ∧ okBot c d key bot := by
  obtain ⟨b1, b2⟩ := isKey_iff.mp hb.1
  obtain ⟨k1, k2⟩ := isKey_iff.mp hkey
  have hm2 := hm.2.1
  refine ok_call (d := c_law_bottom_near) (tg rfl) (by decide) (by decide) rfl ?_
  simp only [c_law_bottom_near, startD]
  have z4 : (4 : Nat) ≤ SZ := by decide
  simp
  refine (bottom_ev (T := T) k hm hkey).mono fun v ⟨oth, e, ho⟩ => ?_
  subst e
  obtain ⟨o1, o2⟩ := isKey_iff.mp ho.1
  simp [z4]
  refine (one_ev (T := T) k (.inl rfl) (by simp) (by simp)).mono fun v ⟨y, hy, e⟩ => ?_
  subst e
  have hy2 : ∃ w : Int, y = .int w ∧ 0 < w ∧ w ≤ 6 := by
    simp at hy
    rcases hy with rfl | rfl | rfl | rfl <;> exact ⟨_, rfl, by decide, by decide⟩
  obtain ⟨w, rfl, w0, w6⟩ := hy2
  simp only [keyD]
  simp [zipD_map]
  rw [chk_ok (sz_of (by simp; omega))]
  simp only [ok_ret]
  refine loopC_ok (P := fun p z => ∃ x : Int, z = .int x ∧ (x = p.1 ∨ x = p.2)) (fun p hp => ?_) (sz_of (by simp; omega)) fun ds hl hds => ?_
  · simp [draw_ev _ (show w < 18446744073709551616 by omega), w0]
    intro a a0 a1
    by_cases ha : a = 0 <;> simp [ha]
  · simp
    obtain ⟨xs, rfl, i1, i2, i3⟩ := pick_ok (d := d) (key := key) (by omega) (by omega) hl hds b2 o2 hb.2 ho.2
    exact ⟨xs, rfl, isKey_iff.mpr ⟨by omega, i2⟩, i3⟩
theorem branch_ev (k : Nat) {c d m : Int} (hm : isMake c d) {key lv bot : List Int} (hkey : isKey c d key = true) (h : isLev c m lv) (hb : okBot c d key bot) {t : Int} (h0 : 0 ≤ t) (h1 : t ≤ m) : ev T (k + 8) 94 [.d (makeD c d), .d (keyD key), .d (keyD lv), .d (keyD bot), .d (.int t)] = .ret (.d (.int (brP d t lv))) := by
  refine eq_call (d := c_branch) (tg rfl) (by decide) (by decide) rfl ?_
  simp only [c_branch, startD]
  have hmax := max_lev h
  have hnb := need_bottom_ev (T := T) k hm hkey h hb.1 hb.2
  have hnn := need_num_ev (T := T) (k + 4) (x := .int t) (lo := 0) (hi := m) (by simp [within]; omega)
  obtain ⟨h1', h2', h3', h4', h5'⟩ := h
  have hm2 := hm.2.1
  have hd : -(2 ^ 64) < d - 1 ∧ d - 1 < 2 ^ 64 := by
    have e : (2 : Int) ^ 64 = 18446744073709551616 := by decide +kernel
    have := hm.2.2
    rw [e]; omega
  simp [hnb, hmax, hnn]
  have e2 : itemsD (keyD lv) = some (lv.map .int) := rfl
  simp [e2]
  rw [chk_ok (sz_of (by simp; omega))]
  simp
  refine loop_bind (F := PyData.int) (l := lv) (s := fun (m : Int) (j : Option VB) => [some (.d (makeD c d)), some (.d (keyD key)), some (.d (keyD lv)), some (.d (keyD bot)), some (.d (.int t)), some (.d (.int m)), j]) (g := fun a l => if t < l then a * (d - 1) else a) 1 none (fun m j l hl => ⟨some (.d (.int l)), ?_⟩) fun j => ?_
  · by_cases q : t < l <;> simp [q, mul_r hd]
  · simp [brP_fold]
theorem meeting_ev (k : Nat) {c m : Int} {key lv a b : List Int} (hc : c ≤ 5) (h : isLev c m lv) (hk : (key.length : Int) = c) (ha : a.length = key.length) (hb : b.length = key.length) : ev T (k + 2) 88 [.d (keyD key), .d (keyD lv), .d (keyD a), .d (keyD b)] = .ret (.d (.int (maxOf (meetL key lv a b m)))) := by
  refine eq_call (d := c_meeting) (tg rfl) (by decide) (by decide) rfl ?_
  simp only [c_meeting, startD]
  have e1 := chain_of_ev (T := T) k (bot := a) hc h (show key.length ≤ 1000 by omega)
  have e2 := chain_of_ev (T := T) k (bot := b) hc h (show key.length ≤ 1000 by omega)
  have hne := meet_ne h hk ha hb
  obtain ⟨h1', h2', h3', h4', h5'⟩ := h
  have em : ((m + 1).toNat : Int) = m + 1 := by omega
  simp [e1, e2, len_chain, em, rng_ok (show 0 ≤ m + 1 by omega) (show m + 1 ≤ 1000000 by omega), rngD_eq]
  rw [loopC_eq (p := fun t => decide (rowL key lv a t = rowL key lv b t)) (G := .int) (fun t ht => ?_) (sz_of (by simp; omega))]
  · have := max_list hne
    unfold meetL at this ⊢
    simp [this]
  · obtain ⟨t0, t1⟩ := mem_rngI.mp ht
    obtain ⟨n, rfl, hn⟩ := nat_of t0 t1
    simp [chain_at hn, cmpD, eq_keys]
    split <;> simp_all
theorem law_meets_ev (k : Nat) {c m : Int} {key lv a b : List Int} (hc : c ≤ 5) (h : isLev c m lv) (hk : (key.length : Int) = c) (ha : a.length = key.length) (hb : b.length = key.length) : ev T (k + 2) 91 [.d (keyD key), .d (keyD lv), .d (keyD a), .d (keyD b)] = .ret (.d (.int (maxOf (meetL key lv a b m)))) := by
  refine eq_call (d := c_law_meets) (tg rfl) (by decide) (by decide) rfl ?_
  simp only [c_law_meets, startD]
  have e1 := law_chain_ev (T := T) k (bot := a) hc h (show key.length ≤ 1000 by omega)
  have e2 := law_chain_ev (T := T) k (bot := b) hc h (show key.length ≤ 1000 by omega)
  have hne := meet_ne h hk ha hb
  obtain ⟨h1', h2', h3', h4', h5'⟩ := h
  have em : ((m + 1).toNat : Int) = m + 1 := by omega
  simp [e1, e2, len_chain, em, rng_ok (show 0 ≤ m + 1 by omega) (show m + 1 ≤ 1000000 by omega), rngD_eq]
  rw [loopC_eq (p := fun t => decide (rowL key lv a t = rowL key lv b t)) (G := .int) (fun t ht => ?_) (sz_of (by simp; omega))]
  · have := max_list hne
    unfold meetL at this ⊢
    simp [this]
  · obtain ⟨t0, t1⟩ := mem_rngI.mp ht
    obtain ⟨n, rfl, hn⟩ := nat_of t0 t1
    simp [chain_at hn, cmpD, eq_keys]
    split <;> simp_all
theorem need_two_ev (k : Nat) {c d m : Int} (hm : isMake c d) {key lv a b : List Int} (hkey : isKey c d key = true) (h : isLev c m lv) (ha : okBot c d key a) (hb : okBot c d key b) : ev T (k + 8) 89 [.d (makeD c d), .d (keyD key), .d (keyD lv), .d (keyD a), .d (keyD b)] = .ret (.d .none) := by
  refine eq_callN (d := c_need_two) (σ := [some (.d (makeD c d)), some (.d (keyD key)), some (.d (keyD lv)), some (.d (keyD a)), some (.d (keyD b))]) (tg rfl) (by decide) (by decide) rfl ?_
  simp only [c_need_two, startD]
  have hnb := need_bottom_ev (T := T) k hm hkey h ha.1 ha.2
  have hi := is_bottom_ev (T := T) (k + 2) hm (key := key) hb.1
  rw [hb.2] at hi
  simp [hnb, hi]
theorem meets_ev (k : Nat) {c d m : Int} (hm : isMake c d) {key lv a b : List Int} (hkey : isKey c d key = true) (h : isLev c m lv) (ha : okBot c d key a) (hb : okBot c d key b) : ev T (k + 9) 90 [.d (makeD c d), .d (keyD key), .d (keyD lv), .d (keyD a), .d (keyD b)] = .ret (.d (.int (maxOf (meetL key lv a b m)))) := by
  refine eq_call (d := c_meets) (tg rfl) (by decide) (by decide) rfl ?_
  simp only [c_meets, startD]
  have hk := (isKey_iff.mp hkey).1
  have ka := (isKey_iff.mp ha.1).1
  have kb := (isKey_iff.mp hb.1).1
  have e := meeting_ev (T := T) (k + 6) hm.2.1 h hk (show a.length = key.length by omega) (show b.length = key.length by omega)
  simp [need_two_ev (T := T) k hm hkey h ha hb, e]
theorem branches_ev (k : Nat) {c d m : Int} (hm : isMake c d) {key lv bot : List Int} (hkey : isKey c d key = true) (h : isLev c m lv) (hb : okBot c d key bot) : ev T (k + 2) 95 [.d (makeD c d), .d (keyD key), .d (keyD lv), .d (keyD bot)] = .ret (.d (.list ((rngI (m + 1)).map fun t => .int (brP d t lv)))) := by
  obtain ⟨o1, o2, o3, o4, o5⟩ := others_lock hm hkey
  obtain ⟨k1, k2⟩ := isKey_iff.mp hkey
  obtain ⟨b1, b2⟩ := isKey_iff.mp hb.1
  refine eq_call (d := c_law_branches) (tg rfl) (by decide) (by decide) rfl ?_
  simp only [c_law_branches, startD]
  have e1 := others_ev (T := T) k hm (show key.length ≤ 1000 by omega)
  have e2 := law_chain_ev (T := T) k (bot := bot) hm.2.1 h (show key.length ≤ 1000 by omega)
  have e3 := size_ev (T := T) k (show (othersL d key).length ≤ 1000 by omega) (fun x hx => by have := (o2 x hx).1; omega)
  have e4 := every_ev (T := T) k o1 (fun x hx => (o2 x hx).1)
  have hch := fun b => law_chain_ev (T := T) k (bot := b) hm.2.1 h (show key.length ≤ 1000 by omega)
  have hh := h
  obtain ⟨h1', h2', h3', h4', h5'⟩ := h
  have em : ((m + 1).toNat : Int) = m + 1 := by omega
  have hm2 := hm.2.1
  by_cases hq : 100 < sizeL (othersL d key)
  · simp [e1, e2, e3, hq, len_chain, em, rng_ok (show 0 ≤ m + 1 by omega) (show m + 1 ≤ 1000000 by omega), rngD_eq]
    rw [loopC_all (F := PyData.int) (l := rngI (m + 1)) (G := fun t => .int (brP d t lv)) (fun t ht => ?_) (sz_of (by simp; omega))]
    · simp
    · have el : (lockD (othersL d key)) = .tuple ((othersL d key).map cutsD) := rfl
      have ek : keyD lv = .tuple (lv.map .int) := rfl
      simp [el, ek, zipD_map]
      rw [chk_ok (sz_of (by simp; omega))]
      simp
      rw [loopC_eq (p := fun p => decide (t < p.2)) (G := fun p => cutsD p.1) (fun p hp => by simp; split <;> simp) (sz_of (by simp; omega))]
      have hsz := size_list_ev (T := T) k (lock := (((othersL d key).zip lv).filter fun p => decide (t < p.2)).map (·.1)) (by have := List.length_filter_le (fun p : List Int × Int => decide (t < p.2)) ((othersL d key).zip lv); simp at this ⊢; omega) (fun x hx => by
        obtain ⟨p, hp, rfl⟩ := List.mem_map.mp hx
        have := (o2 _ (List.of_mem_zip (List.mem_filter.mp hp).1).1).1
        omega)
      rw [brP_size key lv k2 (by omega), List.map_map] at hsz
      simp
      have ef : (fun p : List Int × Int => cutsD p.1) = cutsD ∘ fun x => x.1 := rfl
      rw [ef]
      simp only [ev] at hsz
      rw [hsz]
      simp
  · simp [e1, e2, e3, e4, hq]
    rw [chk_ok (sz_of (by unfold sizeL at hq; simp; omega))]
    simp
    rw [loopC_all (F := keyD) (l := prodR (othersL d key)) (G := fun b => lockD (chainL key lv b m)) (fun b hb => by simp [hch]) (sz_of (by unfold sizeL at hq; simp; omega))]
    simp [len_chain, em, rng_ok (show 0 ≤ m + 1 by omega) (show m + 1 ≤ 1000000 by omega), rngD_eq]
    rw [loopC_all (F := PyData.int) (l := rngI (m + 1)) (G := fun t => .int (brP d t lv)) (fun t ht => ?_) (sz_of (by simp; omega))]
    · simp
    · obtain ⟨t0, t1⟩ := mem_rngI.mp ht
      obtain ⟨n, rfl, hn⟩ := nat_of t0 t1
      rw [chk_ok (sz_of (by unfold sizeL at hq; simp; omega))]
      simp
      rw [loopC_eq (p := fun b => decide (rowL key lv b n = rowL key lv bot n)) (G := fun _ => .int 1) (fun b hb => by simp [chain_at hn, cmpD, eq_keys]; split <;> simp_all) (sz_of (by unfold sizeL at hq; simp; omega))]
      have hcnt := br_count (d := d) (t := (n : Int)) key lv bot k2 b2 (by omega) (by omega) hb.2
      rw [List.countP_eq_length_filter] at hcnt
      simp
      exact hcnt
end
end KC
/-! KM13: branches and meetings, the law (k12). -/
namespace KC
open PySem KB
open KA hiding rd esc op1 op2 rds newM bltV bltVs bindTg wipeD loopC loopC2 keyArgs evE evEs evXs evAnd evOr evT evTAnd evTOr evC evO evI loopF loopW setItem evS evSs startD evCall rd_d esc_d op1_d op2_d rds_nil newM_false newM_true evT_cmp SR R
section
variable {T : Tab} [Le TG T]
theorem kw_94 (a b c d e : PD) : keyArgs (parOf T 94) ["number", "bottom", "levels", "key", "make"] [.d a, .d b, .d c, .d d, .d e] = some [.d e, .d d, .d c, .d b, .d a] := by
  rw [par_of (T := T) (f := 94) (d := c_branch) rfl]; rfl
theorem kw_90 (a b c d e : PD) : keyArgs (parOf T 90) ["other", "bottom", "levels", "key", "make"] [.d a, .d b, .d c, .d d, .d e] = some [.d e, .d d, .d c, .d b, .d a] := by
  rw [par_of (T := T) (f := 90) (d := c_meets) rfl]; rfl
theorem perm_keys {P : List Int → Prop} {ys : List PD} {l : List (List Int)} (h : ys.Perm (l.map keyD)) (hP : ∀ x ∈ l, P x) : ∃ zs : List (List Int), ys = zs.map keyD ∧ (∀ x ∈ zs, P x) ∧ zs.length = l.length := by
  obtain ⟨zs, e, hz⟩ := unmap (G := keyD) (P := P) (ds := ys) fun y hy => by
    obtain ⟨x, hx, e⟩ := List.mem_map.mp (h.subset hy)
    exact ⟨x, e.symm, hP x hx⟩
  refine ⟨zs, e, hz, ?_⟩
  have := h.length_eq
  rw [e] at this
  simpa using this
theorem due_at {d m : Int} {lv : List Int} {n : Nat} (h : (n : Int) < m + 1) : subD (.list ((rngI (m + 1)).map fun t => .int (brP d t lv))) (.int (n : Int)) = some (.int (brP d n lv)) := by
  rw [sub_list_nat]
  have e : (rngI (m + 1))[n]? = some (n : Int) := by
    unfold rngI
    rw [List.getElem?_map, List.getElem?_range (by omega)]
    rfl
  rw [List.getElem?_map, e]
  rfl
theorem right5_ev (k : Nat) {c d m : Int} (hm : isMake c d) {key lv bot : List Int} (hkey : isKey c d key = true) (h : isLev c m lv) (hb : okBot c d key bot) : Ok (ev T (k + 10) 96 [.feed, .d (makeD c d), .d (keyD key), .d (keyD lv), .d (keyD bot)]) fun v => v = .d (.bool true) := by
  have hm2 := hm.2.1
  have hk := (isKey_iff.mp hkey).1
  have kb := (isKey_iff.mp hb.1).1
  have hbr := branches_ev (T := T) (k + 7) hm hkey h hb
  have hbe := fun t h0 h1 => branch_ev (T := T) (k + 1) hm hkey h hb (t := t) h0 h1
  have hme := fun a b ha hb => meets_ev (T := T) k hm hkey h (a := a) (b := b) ha hb
  have hlm := fun b hb => law_meets_ev (T := T) (k + 7) hm.2.1 h hk (show bot.length = key.length by omega) (b := b) hb
  have hne := botnear_ev (T := T) (k + 6) hm hkey hb
  have hh := h
  obtain ⟨h1', h2', h3', h4', h5'⟩ := h
  have em : ((m + 1).toNat : Int) = m + 1 := by omega
  have z1 : (1 : Nat) ≤ SZ := by decide
  have z2 : (2 : Nat) ≤ SZ := by decide
  have s1 := fun i : Int => same_ev (T := T) 0 (.int i) (k + 8) rfl
  have s2 := fun i : Int => same_ev (T := T) 1 (.list [.int i, .int i]) (k + 7) (by simp [plainN])
  refine ok_call (d := c_law_right_5) (tg rfl) (by decide) (by decide) rfl ?_
  simp only [c_law_right_5, startD]
  simp [hbr, em, rng_ok (show 0 ≤ m + 1 by omega) (show m + 1 ≤ 1000000 by omega), rngD_eq]
  refine (mixed_ev (T := T) (k + 7) (.inl rfl) (by simp; omega)).mono fun v ⟨ys, e, hp⟩ => ?_
  subst e
  obtain ⟨zs, rfl, hz⟩ := perm_intsP hp
  have hzl := hz.length_eq
  have hzm : ∀ z ∈ zs, 0 ≤ z ∧ z < m + 1 := fun z h => by simpa using hz.subset h
  simp at hzl
  simp
  rw [chk_ok (sz_of (by simp; omega))]
  simp only [ok_ret]
  refine loopF_ok (F := PyData.int) (l := zs) (fun i σ => ∃ x6, σ = [some .feed, some (.d (makeD c d)), some (.d (keyD key)), some (.d (keyD lv)), some (.d (keyD bot)), some (.d (.list ((rngI (m + 1)).map fun t => .int (brP d t lv)))), x6, none, none, none, none, none]) ⟨none, rfl⟩ ?_ ?_
  · intro i hi σ hI
    have hj := hzm _ (List.getElem_mem hi)
    generalize zs[i] = j at hj
    obtain ⟨j, rfl, hj2⟩ := nat_of hj.1 hj.2
    rcases hI with ⟨x6, e⟩
    rw [e]
    have hb1 := hbe (j : Int) (by omega) (by omega)
    simp [hb1, due_at hj2, s1]
  · intro σ hI
    rcases hI with ⟨x6, e⟩
    rw [e]
    simp [em, draw_ev _ (show m + 1 < 18446744073709551616 by omega)]
    refine ⟨by omega, fun j j0 j1 => ?_⟩
    obtain ⟨j, rfl, hj2⟩ := nat_of j0 j1
    have hb1 := hbe (j : Int) (by omega) (by omega)
    simp [hb1, due_at hj2, s1, kw_94, z1, rng_ok (show (0 : Int) ≤ 5 by decide) (show (5 : Int) ≤ 1000000 by decide), rngD_eq]
    refine loopC_each (F := PyData.int) (G := keyD) (P := fun b => okBot c d key b) (l := rngI 5) (fun y hy => ?_) (sz_of (by simp)) fun ms hl hP => ?_
    · simp
      refine hne.mono fun v ⟨b, e, ho⟩ => ?_
      subst e
      simp
      exact ho
    rw [rngI_len] at hl
    rw [add_list (sz_of (by simp; omega))]
    have e6 : [keyD bot] ++ ms.map keyD = (bot :: ms).map keyD := rfl
    rw [e6]
    have hPP : ∀ x ∈ bot :: ms, okBot c d key x := fun x hx => by
      rcases List.mem_cons.mp hx with q | q
      · rw [q]; exact hb
      · exact hP x q
    simp only [B.opt_some, B.bind_ret, ok_ret, ok_bind, keep_d, okS_bindS, evS, List.set_cons_succ, List.set_cons_zero, List.getElem?_cons_succ, List.getElem?_cons_zero, lend_d]
    simp
    refine (mixed_ev (T := T) (k + 7) (xs := (bot :: ms).map keyD) (.inl rfl) (by simp; omega)).mono fun v ⟨ys, e, hp⟩ => ?_
    subst e
    obtain ⟨os, rfl, hos, hol⟩ := perm_keys hp hPP
    simp at hol
    simp
    rw [chk_ok (sz_of (by simp; omega))]
    simp only [ok_ret]
    refine loopF_ok (F := keyD) (l := os) (fun i σ => ∃ x8 x9 x10, σ = [some .feed, some (.d (makeD c d)), some (.d (keyD key)), some (.d (keyD lv)), some (.d (keyD bot)), some (.d (.list ((rngI (m + 1)).map fun t => .int (brP d t lv)))), some (.d (.int (j : Int))), some (.d (.list (keyD bot :: ms.map keyD))), x8, x9, x10, none]) ⟨none, none, none, rfl⟩ ?_ ?_
    · intro i hi σ hI
      have ho := hos _ (List.getElem_mem hi)
      generalize os[i] = o at ho
      rcases hI with ⟨x8, x9, x10, e⟩
      rw [e]
      have ko := (isKey_iff.mp ho.1).1
      have m1 := hme bot o hb ho
      have m2 := hme o bot ho hb
      rw [meet_comm] at m2
      have m3 := hlm o (by omega)
      simp [m1, m2, m3, z2, s2, s1, kw_90]
    · intro σ hI
      trivial
theorem law_7_ev (k : Nat) {ns : List Int} (hn : ns.length < 1000) : Ok (ev T (k + 11) 97 [.d (.list (ns.map .int))]) fun v => v = .d (.bool true) := by
  refine ok_call (d := c_law_7) (tg rfl) (by decide) (by decide) rfl ?_
  simp only [c_law_7, startD]
  simp
  obtain ⟨n, hne, n0, n8⟩ : ∃ n : Int, (if (2 : Int) < if (5 : Int) < (ns.length : Int) then 5 else (ns.length : Int) then if (5 : Int) < (ns.length : Int) then 5 else (ns.length : Int) else 2) = n ∧ 0 ≤ n ∧ n ≤ 5 := ⟨_, rfl, by split <;> split <;> omega, by split <;> split <;> omega⟩
  rw [hne]
  simp [rng_ok n0 (show n ≤ 1000000 by omega), rngD_eq]
  refine loopF_ok (F := PyData.int) (l := rngI n) (fun i σ => ∃ x1 x2 x3 x4 x5 x6, σ = [some (.d (.list (ns.map .int))), x1, x2, x3, x4, x5, x6]) ⟨none, none, none, none, none, none, rfl⟩ ?_ ?_
  · rintro i hi σ ⟨x1, x2, x3, x4, x5, x6, rfl⟩
    have hk := mem_rngI.mp (List.getElem_mem hi)
    generalize (rngI n)[i] = y at hk
    have hf := feed_eq (N := NG) (T := T) (f := 30) (k := k + 9) (ns := ns) (c := y) (tg rfl) (by decide) (by decide) hk.1 (by omega) hn
    simp [hf]
    refine (make_ev (T := T) (k + 7)).mono fun v ⟨c, d, e, hm⟩ => ?_
    subst e
    simp
    refine (key_ev (T := T) (k + 8) hm).mono fun v ⟨key, e, hkey⟩ => ?_
    subst e
    simp [rng_ok (show (0 : Int) ≤ 2 by decide) (show (2 : Int) ≤ 1000000 by decide), rngD_eq]
    refine loopF_ok (F := PyData.int) (l := rngI 2) (fun i σ => ∃ x5 x6, σ = [some (.d (.list (ns.map .int))), some (.d (.int y)), some .feed, some (.d (makeD c d)), some (.d (keyD key)), x5, x6]) ⟨x5, x6, rfl⟩ ?_ ?_
    · rintro j hj σ ⟨x5, x6, rfl⟩
      simp
      refine (levels_ev (T := T) (k + 7) hm).mono fun v ⟨m, lv, e, hl⟩ => ?_
      subst e
      simp
      refine (bottom_ev (T := T) (k + 8) hm hkey).mono fun v ⟨bot, e, hb⟩ => ?_
      subst e
      refine (right5_ev (T := T) k hm hkey hl hb).mono fun v e => ?_
      subst e
      simp
    · rintro σ ⟨x5, x6, rfl⟩
      simp
  · rintro σ ⟨x1, x2, x3, x4, x5, x6, rfl⟩
    simp
end
end KC
theorem PySem.Challenge.cw_keyedapart_k12_branches_and_meetings_holds : PySem.Challenge.rw_keyedapart_k12_branches_and_meetings.Holds := by
  exact KA.K12.holds_by 12 (by decide) ⟨rfl, by decide +kernel, by decide +kernel⟩ fun ns h => KC.law_7_ev (T := KA.TG) 1 h
