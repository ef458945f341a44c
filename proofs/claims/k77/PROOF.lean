import PyProof.Rows.All
import Wide.All
import OpenK.AllK
import Wide.FinOn
import HandS.ForMost
import HandS.ForExc
import HandS.Lambda
import KE.KTupSum
import KE.DataMinMax
import KE.GoesEnum
import HandS.Iter
import HandS.RaiseMore
import HandS.TupAny
import HandS.TupMul
import HandS.TupLe
import HandS.IsInst
import HandS.Wide
import HandS.Zip
import HandS.Style
import HandS.ExcIs
import HandS.ExcField
import KE.KExcSuper
import KE.KExcMake
import KE.KSuper
import HandS.ExcInit
import HandS.ExcOwn
import HandS.HeadHook4
import HandS.Dict
import PyProof.Seq
import KE.KDflt
import HandS.Defaults
import HandS.EndTab
import HandS.CallLocal
import PyProof.ExcBaseAll.ValueError
import HandS.HeadWalk
import HandS.Head2
import PySem.Challenge.RW_wholesteps_k77_whole_gaps_of_a_row

section
-- Mini1
set_option Elab.async false
set_option linter.all false
set_option maxRecDepth 100000
set_option maxHeartbeats 4000000
/-! Mini, part 1: pure values, an own syntax with slots, its meaning as a transformer of wishes -/
namespace Mi
open PySem PySem.Spec PyProof.Rows L2

/-- values without a heap; nls: a list that nobody else holds; nin: an instance that is being made -/
inductive PV where
  | non | bl (b : Bool) | int (i : Int) | str (x : Str)
  | tup (vs : List PV) | lst (vs : List PV) | dct (ks vs : List PV)
  | ins (c : Str) (fs : List Str) (vs : List PV)
  | exc (c : Str) (fs : List Str) (vs : List PV)
  | fn (f : Str)
  | clo (k : Nat) (caps : List PV)
  | obj (id : Nat)
  | scr (ns : List Int)
  | nls (vs : List PV)
  | nin (c : Str) (fs : List Str) (vs : List PV)
  deriving Inhabited

def PV.fz : PV → PV
  | .nls vs => .lst vs
  | v => v
@[simp] theorem fz_nls (vs : List PV) : (PV.nls vs).fz = .lst vs := rfl
@[simp] theorem fz_non : PV.non.fz = .non := rfl
@[simp] theorem fz_bl (b : Bool) : (PV.bl b).fz = .bl b := rfl
@[simp] theorem fz_int (b : Int) : (PV.int b).fz = .int b := rfl
@[simp] theorem fz_str (b : Str) : (PV.str b).fz = .str b := rfl
@[simp] theorem fz_tup (b : List PV) : (PV.tup b).fz = .tup b := rfl
@[simp] theorem fz_lst (b : List PV) : (PV.lst b).fz = .lst b := rfl
@[simp] theorem fz_dct (a b : List PV) : (PV.dct a b).fz = .dct a b := rfl
@[simp] theorem fz_ins (c : Str) (a : List Str) (b : List PV) : (PV.ins c a b).fz = .ins c a b := rfl
@[simp] theorem fz_exc (c : Str) (a : List Str) (b : List PV) : (PV.exc c a b).fz = .exc c a b := rfl
@[simp] theorem fz_fn (c : Str) : (PV.fn c).fz = .fn c := rfl
@[simp] theorem fz_clo (k : Nat) (b : List PV) : (PV.clo k b).fz = .clo k b := rfl
@[simp] theorem fz_obj (k : Nat) : (PV.obj k).fz = .obj k := rfl
@[simp] theorem fz_scr (k : List Int) : (PV.scr k).fz = .scr k := rfl
@[simp] theorem fz_nin (c : Str) (a : List Str) (b : List PV) : (PV.nin c a b).fz = .nin c a b := rfl
/-- a slot's own thing -/
def PV.own : PV → Bool
  | .nls _ => true
  | .nin _ _ _ => true
  | _ => false
@[simp] theorem fz_fz (v : PV) : v.fz.fz = v.fz := by cases v <;> rfl

/-- things that may change: the source of draws; a box (a list held by several) -/
inductive MO where
  | st (gs cs : List Int) (l t : Int)
  | bx (vs : List PV)
  | tb (q : Str)
abbrev Mu := List MO
abbrev Env := List (Option PV)
abbrev KE := PV → Mu → Prop
abbrev KN := Env → Mu → Prop
/-- what is wanted behind statements -/
structure EndP where
  nx : KN
  rt : KE
  bk : KN
  ct : KN
  xx : KE

inductive Op where | add | sub | mul | fdiv | mod | pow
  deriving DecidableEq
inductive Cp where | eq | ne | lt | le | gt | ge | inn | nin
  deriving DecidableEq
inductive Bi where | len | abs | max2 | min2 | maxl | minl | sum | all | any | tuple | list | int | str | repr | sorted
  deriving DecidableEq
/-- what isinstance is asked for -/
inductive Ty where
  | bi (n : String) | cl (c : Str)
  deriving DecidableEq
inductive Tg where
  | nm (i : Nat) | tp (is : List Nat)
  deriving DecidableEq

mutual
inductive E where
  | var (i : Nat) | pk (i : Nat)
  | cint (n : Int) | cbl (b : Bool) | cstr (x : Str) | cnon
  | cst (x : Str) | fnv (x : Str)
  | tup (es : Es) | lst (es : Es) | dct0
  | bin (o : Op) (a b : E) | neg (a : E)
  | not (a : E) | and (es : Es) | or (es : Es)
  | cmp (o : Cp) (a b : E) | ieq (ng : Bool) (a b : E) | nev | chain (o p : Cp) (a b c : E)
  | isn (a : E) | nisn (a : E) | isb (b : Bool) (a : E)
  | ite (c a b : E)
  | call (f : Str) (es : Es)
  | callk (f : Str) (es : Es) (ks : List Str) (kes : Es) (perm : List Nat)
  | mk (c : Str) (es : Es)
  | mkk (c : Str) (es : Es) (ks : List Str) (kes : Es) (perm : List Nat)
  | bi (b : Bi) (es : Es)
  | isin (a : E) (t : Ty)
  | attr (a : E) (f : Str)
  | ix (a i : E) | sl (a : E) (lo hi : Eo) | rev (a : E)
  | comp (own : List (Str × Nat)) (tg : Tg) (s : Sr) (c : Eo) (e : E)
  | callv (i : Nat) (es : Es) | lamv (k : Nat)
  | join (a b : E) | split (a b : E)
  | slS (a : E) (lo hi : Eo) (st : E) | caught (e : E) | refd (w : Str) (e : E) | rep (a : E)
  | sleft (i : Nat) | sturn (i : Nat) | spop (i : Nat) | sgreat (i : Nat)
inductive Es where
  | nil | cons (e : E) (es : Es)
inductive Eo where
  | no | yes (e : E)
inductive Sr where
  | ex (e : E) | rng1 (es : Es) | rng2 (es : Es) | zip (es : Es) | enum (es : Es) | cells (i : Nat)
end

mutual
inductive S where
  | asg (i : Nat) (e : E) | asgT (is : List Nat) (e : E) | par (is : List Nat) (es : Es)
  | setIx (i : Nat) (a e : E) | setA (i : Nat) (f : Str) (e : E)
  | aug (i : Nat) (o : Op) (e : E)
  | app (i : Nat) (e : E) | appPop (i j : Nat) (e : E) | boxApp (i : Nat) (e : E)
  | ex (e : E) | ret (e : E) | retv (i : Nat) | retN
  | ifs (c : E) (a b : Ss)
  | fors (tg : Tg) (s : Sr) (b : Ss)
  | whs (c : E) (b : Ss)
  | rai (c : Str) | rai1 (c : Str) (e : E)
  | pass | brk | cnt | nev
  | setL (i : Nat) (e : E) | setT (i : Nat) (e : E) | mkst (i : Nat) (e : E)
  | frz (is : List Nat)
inductive Ss where
  | nil | cons (s : S) (r : Ss)
end

/-! ### pure meanings -/
def truth : PV → Option Bool
  | .non => some false
  | .bl b => some b
  | .int i => some (i != 0)
  | .tup vs => some (!vs.isEmpty)
  | .lst vs => some (!vs.isEmpty)
  | _ => none


mutual
/-- plain data -/
def toPD : PV → Option PyData
  | .non => some .none
  | .bl b => some (.bool b)
  | .int i => some (.int i)
  | .str x => some (.str x)
  | .tup vs => (toPDs vs).map .tuple
  | .lst vs => (toPDs vs).map .list
  | _ => none
def toPDs : List PV → Option (List PyData)
  | [] => some []
  | v :: vs => match toPD v, toPDs vs with
    | some d, some ds => some (d :: ds)
    | _, _ => none
end
/-- == of plain data, with what is asked of it -/
def eqK (a b : PV) (K : Bool → Prop) : Prop := match toPD a, toPD b with
  | some d, some e => SeqAt.shaped d = true ∧ SeqAt.shaped e = true ∧ K (PyData.eqv d e)
  | _, _ => False

def binK (o : Op) (a b : PV) (K : PV → Prop) : Prop := match o, a, b with
  | .add, .int i, .int j => K (.int (i + j))
  | .add, .str x, .str y => x.length + y.length ≤ sizeLine ∧ K (.str (x ++ y))
  | .add, .tup xs, .tup ys => xs.length + ys.length ≤ sizeLine ∧ K (.tup (xs ++ ys))
  | .add, .lst xs, .lst ys => xs.length + ys.length ≤ sizeLine ∧ K (.nls (xs ++ ys))
  | .sub, .int i, .int j => K (.int (i - j))
  | .mul, .int i, .int j => IntMulOk i j ∧ K (.int (i * j))
  | .mul, .tup xs, .int k => (xs ≠ [] ∧ 1 ≤ k ∧ k ≤ 1000 ∧ xs.length ≤ 1000) ∧ K (.tup (List.replicate k.toNat xs).flatten)
  | .mul, .lst xs, .int k => -(2 ^ 63) ≤ k ∧ k < 2 ^ 63 ∧ xs.length * k.toNat ≤ sizeLine ∧ K (.nls (List.replicate k.toNat xs).flatten)
  | .fdiv, .int i, .int j => j ≠ 0 ∧ Builtin.divisionGoesByPylong i j = false ∧ K (.int (i.fdiv j))
  | .mod, .int i, .int j => j ≠ 0 ∧ K (.int (i.fmod j))
  | .pow, .int i, .int j => CPow i j ∧ K (.int (i ^ j.toNat))
  | _, _, _ => False

/-- values without parts -/
def flatP : PV → Bool
  | .non => true
  | .bl _ => true
  | .int _ => true
  | .str _ => true
  | _ => false
def eqP : PV → PV → Bool
  | .non, .non => true
  | .bl a, .bl b => a == b
  | .bl a, .int b => (if a = true then 1 else 0) == b
  | .int a, .bl b => a == if b = true then 1 else 0
  | .int a, .int b => a == b
  | .str a, .str b => a == b
  | _, _ => false
def cmpK (o : Cp) (a b : PV) (K : Bool → Prop) : Prop := match o with
  | .eq => eqK a b K
  | .ne => eqK a b fun r => K (!r)
  | .lt => match a, b with
    | .int i, .int j => K (decide (i < j))
    | _, _ => False
  | .le => match a, b with
    | .int i, .int j => K (decide (i ≤ j))
    | _, _ => False
  | .gt => match a, b with
    | .int i, .int j => K (decide (j < i))
    | _, _ => False
  | .ge => match a, b with
    | .int i, .int j => K (decide (j ≤ i))
    | _, _ => False
  | .inn => match a, b with
    | .str x, .str y => K (!(Builtin.Str.occurrences y x 0 y.length 1).isEmpty)
    | v, .tup vs => (flatP v = true ∧ vs.all flatP = true) ∧ K (vs.any fun y => eqP y v)
    | v, .lst vs => (flatP v = true ∧ vs.all flatP = true) ∧ K (vs.any fun y => eqP y v)
    | _, _ => False
  | .nin => match a, b with
    | .str x, .str y => K (!(!(Builtin.Str.occurrences y x 0 y.length 1).isEmpty))
    | v, .tup vs => (flatP v = true ∧ vs.all flatP = true) ∧ K (!(vs.any fun y => eqP y v))
    | v, .lst vs => (flatP v = true ∧ vs.all flatP = true) ∧ K (!(vs.any fun y => eqP y v))
    | _, _ => False

def itemsOf : PV → Option (List PV)
  | .tup vs => some vs
  | .lst vs => some vs
  | _ => none
/-- the source of draws, held in a slot -/
def stAt (ρ : Env) (μ : Mu) (i : Nat) : Option (Nat × List Int × List Int × Int × Int) := match ρ[i]? with
  | some (some (.obj k)) => (match μ[k]? with
    | some (.st gs cs l t) => some (k, gs, cs, l, t)
    | _ => none)
  | _ => none
/-- what is walked by a for -/
def walkOf : PV → Option (List PV)
  | .tup vs => some vs
  | .lst vs => some vs
  | .scr ns => some (ns.map PV.int)
  | _ => none
def intsOf : List PV → Option (List Int)
  | [] => some []
  | .int i :: r => (intsOf r).map (i :: ·)
  | _ => none
def blsOf : List PV → Option (List Bool)
  | [] => some []
  | .bl i :: r => (blsOf r).map (i :: ·)
  | _ => none
def isLst : PV → Bool
  | .lst _ => true
  | _ => false
def isMin (ns : List Int) (m : Int) : Prop := m ∈ ns ∧ ∀ y, y ∈ ns → m ≤ y
def isMax (ns : List Int) (m : Int) : Prop := m ∈ ns ∧ ∀ y, y ∈ ns → y ≤ m
def intText (i : Int) : Str := PySem.Str.ofString (toString i)

mutual
def reprPV : PV → Option Str
  | .non => some "None"
  | .bl b => some (if b then "True" else "False")
  | .int i => some (toString i)
  | .str x => some (reprText x)
  | .lst vs => (reprPVs vs).map fun l => "[" ++ l ++ "]"
  | .tup [v] => (reprPV v).map fun l => "(" ++ l ++ ",)"
  | .tup vs => (reprPVs vs).map fun l => "(" ++ l ++ ")"
  | _ => none
def reprPVs : List PV → Option Str
  | [] => some ""
  | [v] => reprPV v
  | v :: w :: r => match reprPV v, reprPVs (w :: r) with
    | some x, some y => some (x ++ ", " ++ y)
    | _, _ => none
end

def biK (b : Bi) (vs : List PV) (K : PV → Prop) : Prop := match b, vs with
  | .len, [.str x] => x.length ≤ sizeLine ∧ K (.int x.length)
  | .len, [.tup xs] => K (.int xs.length)
  | .len, [.lst xs] => K (.int xs.length)
  | .len, [.scr xs] => K (.int xs.length)
  | .abs, [.int i] => K (.int (if i < 0 then -i else i))
  | .max2, [.int i, .int j] => K (.int (if j > i then j else i))
  | .min2, [.int i, .int j] => K (.int (if j < i then j else i))
  | .maxl, [.lst vs] => (match intsOf vs with
    | some ns => 0 < ns.length ∧ ∀ m, isMax ns m → K (.int m)
    | none => False)
  | .minl, [.lst vs] => (match intsOf vs with
    | some ns => 0 < ns.length ∧ ∀ m, isMin ns m → K (.int m)
    | none => False)
  | .sum, [.lst vs] => (match intsOf vs with
    | some ns => K (.int ns.sum)
    | none => False)
  | .maxl, [.tup vs] => (match intsOf vs with
    | some ns => 0 < ns.length ∧ ∀ m, isMax ns m → K (.int m)
    | none => False)
  | .minl, [.tup vs] => (match intsOf vs with
    | some ns => 0 < ns.length ∧ ∀ m, isMin ns m → K (.int m)
    | none => False)
  | .sum, [.tup vs] => (match intsOf vs with
    | some ns => K (.int ns.sum)
    | none => False)
  | .all, [.lst vs] => (match blsOf vs with
    | some bs => K (.bl (bs.all id))
    | none => False)
  | .any, [.lst vs] => (match blsOf vs with
    | some bs => K (.bl (bs.any id))
    | none => False)
  | .tuple, [.lst vs] => K (.tup vs)
  | .tuple, [.tup vs] => K (.tup vs)
  | .list, [.lst vs] => K (.nls vs)
  | .list, [.tup vs] => K (.nls vs)
  | .int, [.int i] => K (.int i)
  | .str, [.int i] => i.natAbs.log2 < 1920 ∧ K (.str (toString i))
  | .repr, [.int i] => i.natAbs.log2 < 1920 ∧ K (.str (toString i))
  | _, _ => False

/-- a plain value's type -/
def tyOf : PV → Option String
  | .non => some "NoneType"
  | .bl _ => some "bool"
  | .int _ => some "int"
  | .str _ => some "str"
  | .tup _ => some "tuple"
  | .lst _ => some "list"
  | .dct _ _ => some "dict"
  | _ => none
def tyNames : List String := ["NoneType", "bool", "int", "str", "tuple", "list", "dict"]
def askNames : List String := ["bool", "int", "str", "tuple", "list", "dict", "ValueError"]
def subTy (t n : String) : Bool := t == n || (t == "bool" && n == "int")
/-- isinstance -/
def isinTy (T : String) (t : Ty) : Option Bool := match t with
  | .bi n => if n ∈ askNames then some (subTy T n) else none
  | .cl _ => some false
def bindTg : Tg → PV → Env → Option Env
  | .nm i, v, ρ => some (ρ.set i (some v))
  | .tp is, .tup vs, ρ => if is.length = vs.length then some ((is.zip vs).foldl (fun ρ p => ρ.set p.1 (some p.2)) ρ) else none
  | _, _, _ => none
def wipeE (ρ : Env) : List Nat → Env
  | [] => ρ
  | v :: vs => (wipeE ρ vs).set v none

/-- the program, as one calls it -/
structure Gam where
  call : Str → List PV → Mu → KE → KE → Prop
  make : Str → List PV → Mu → KE → KE → Prop
  meth : Str → Str → List PV → Mu → KE → KE → Prop
  lam : E → Env → Mu → KE → KE → Prop
  refd : Str → E → Env → Mu → KE → KE → Prop
  clo : Nat → List PV → Mu → KE → KE → Prop
  isf : Str → Bool
  mkd : Bool
  cst : Str → Option PV
  fld : Str → Str
  flds : Str → List Str
  xflds : Str → List Str
  sub : Str → Str → Option Bool
  clss : List Str

def isinF (Γ : Gam) (v : PV) (t : Ty) : Option Bool := match tyOf v with
  | some T => isinTy T t
  | none => (match v, t with
    | .ins d _ _, .bi n => if d ∈ Γ.clss ∧ n ∈ askNames then some false else none
    | .ins d _ _, .cl c => if d ∈ Γ.clss then Γ.sub d c else none
    | .exc d _ _, .cl c => if d ∈ Γ.clss then none else Γ.sub d c
    | .exc d _ _, .bi n => if n = "ValueError" ∧ (Γ.sub d "StepError").isSome then some true else none
    | _, _ => none)
/-- what a[lo:hi:k] takes -/
def stepV {α : Type} (xs : List α) (lo hi : Option Int) (k : Int) : List α :=
  (sliceRange (sliceBounds lo hi (some k) xs.length).1 (sliceBounds lo hi (some k) xs.length).2.1 (sliceBounds lo hi (some k) xs.length).2.2).filterMap (xs[·]?)

def compL (t : PV → Env → Option Env) (c : Env → Mu → (Bool → Mu → Prop) → Prop) (e : Env → Mu → KE → Prop) (ρ : Env) : List PV → List PV → Mu → (List PV → Mu → Prop) → Prop
  | [], acc, μ, K => K acc μ
  | x :: xs, acc, μ, K => match t x ρ with
    | none => False
    | some ρ1 => c ρ1 μ fun b μ1 => if b then e ρ1 μ1 fun v μ2 => acc.length < sizeLine ∧ compL t c e ρ xs (acc ++ [v.fz]) μ2 K else compL t c e ρ xs acc μ1 K

/-- lo, lo + 1, .. (n of them) -/
def rngL (lo : Int) : Nat → List PV
  | 0 => []
  | n + 1 => .int lo :: rngL (lo + 1) n
def enumL (i : Int) : List PV → List PV
  | [] => []
  | x :: xs => .tup [.int i, x] :: enumL (i + 1) xs
def rngK1 (vs : List PV) (K : List PV → Prop) : Prop := match vs with
  | [.int n] => (-(2 ^ 62) ≤ n ∧ n < 2 ^ 62) ∧ K (rngL 0 n.toNat)
  | _ => False
def rngK2 (vs : List PV) (K : List PV → Prop) : Prop := match vs with
  | [.int m, .int n] => (-(2 ^ 62) ≤ m ∧ m < 2 ^ 62 ∧ -(2 ^ 62) ≤ n ∧ n < 2 ^ 62) ∧ K (rngL m (n - m).toNat)
  | _ => False
def zipK (vs : List PV) (K : List PV → Prop) : Prop := match vs with
  | [.lst xs, .lst ys] => K (xs.zipWith (fun x y => PV.tup [x, y]) ys)
  | [.tup xs, .tup ys] => K (xs.zipWith (fun x y => PV.tup [x, y]) ys)
  | _ => False
def enumK (vs : List PV) (K : List PV → Prop) : Prop := match vs with
  | [.lst xs] => K (enumL 0 xs)
  | [.tup xs] => K (enumL 0 xs)
  | _ => False
/-- a bool that is asked for -/
def blK (v : PV) (K : Bool → Prop) : Prop := match v with
  | .bl b => K b
  | _ => False
/-- a value's truth -/
def trK (v : PV) (K : Bool → Prop) : Prop := match truth v.fz with
  | some b => K b
  | none => False
def isNon : PV → Bool
  | .non => true
  | _ => false
def noX : KE := fun _ _ => False

mutual
def evE (Γ : Gam) : E → Env → Mu → KE → KE → Prop
  | .var i, ρ, μ, K, _ => (match ρ[i]? with
    | some (some v) => v.own = false ∧ K v μ
    | _ => False)
  | .pk i, ρ, μ, K, _ => (match ρ[i]? with
    | some (some (.nin _ _ _)) => False
    | some (some v) => K v μ
    | _ => False)
  | .cint n, _, μ, K, _ => K (.int n) μ
  | .cbl b, _, μ, K, _ => K (.bl b) μ
  | .cstr x, _, μ, K, _ => K (.str x) μ
  | .cnon, _, μ, K, _ => K .non μ
  | .cst x, _, μ, K, _ => (match Γ.cst x with
    | some v => K v μ
    | none => False)
  | .fnv x, _, μ, K, _ => K (.fn x) μ
  | .tup es, ρ, μ, K, X => evEs Γ es ρ μ (fun vs μ1 => vs.length ≤ sizeLine ∧ K (.tup vs) μ1) X
  | .lst es, ρ, μ, K, X => evEs Γ es ρ μ (fun vs μ1 => vs.length ≤ sizeLine ∧ K (.nls vs) μ1) X
  | .dct0, _, μ, K, _ => K (.dct [] []) μ
  | .bin o a b, ρ, μ, K, X => evE Γ a ρ μ (fun va μ1 => evE Γ b ρ μ1 (fun vb μ2 => binK o va.fz vb.fz fun v => K v μ2) X) X
  | .neg a, ρ, μ, K, X => evE Γ a ρ μ (fun va μ1 => match va with
    | .int i => K (.int (-i)) μ1
    | _ => False) X
  | .not a, ρ, μ, K, X => evE Γ a ρ μ (fun v μ1 => blK v fun b => K (.bl (!b)) μ1) X
  | .and es, ρ, μ, K, X => evAnd Γ es ρ μ (fun b μ1 => K (.bl b) μ1) X
  | .or es, ρ, μ, K, X => evOr Γ es ρ μ (fun b μ1 => K (.bl b) μ1) X
  | .cmp o a b, ρ, μ, K, X => evE Γ a ρ μ (fun va μ1 => evE Γ b ρ μ1 (fun vb μ2 => cmpK o va.fz vb.fz fun r => K (.bl r) μ2) X) X
  | .ieq ng a b, ρ, μ, K, X => evE Γ a ρ μ (fun va μ1 => evE Γ b ρ μ1 (fun vb μ2 => match va with
    | .ins c _ _ => Γ.meth c "__eq__" [va, vb.fz] μ2 (fun r μ3 => ∃ k, r = .bl k ∧ K (.bl (k != ng)) μ3) X
    | _ => False) X) X
  | .nev, _, _, _, _ => False
  | .chain o p a b c, ρ, μ, K, X => evE Γ a ρ μ (fun va μ1 => evE Γ b ρ μ1 (fun vb μ2 => cmpK o va.fz vb.fz fun r => if r then evE Γ c ρ μ2 (fun vc μ3 => cmpK p vb.fz vc.fz fun r => K (.bl r) μ3) X else K (.bl false) μ2) X) X
  | .isn a, ρ, μ, K, X => evE Γ a ρ μ (fun va μ1 => K (.bl (isNon va)) μ1) X
  | .nisn a, ρ, μ, K, X => evE Γ a ρ μ (fun va μ1 => K (.bl (!isNon va)) μ1) X
  | .isb b a, ρ, μ, K, X => evE Γ a ρ μ (fun va μ1 => blK va fun c => K (.bl (decide (c = b))) μ1) X
  | .ite c a b, ρ, μ, K, X => evE Γ c ρ μ (fun v μ1 => trK v fun r => if r then evE Γ a ρ μ1 K X else evE Γ b ρ μ1 K X) X
  | .call f es, ρ, μ, K, X => evEs Γ es ρ μ (fun vs μ1 => Γ.call f vs μ1 K X) X
  | .callk f es ks kes perm, ρ, μ, K, X => evEs Γ es ρ μ (fun vs μ1 => evEs Γ kes ρ μ1 (fun ws μ2 => ws.length = ks.length ∧ Γ.call f (vs ++ perm.filterMap (ws[·]?)) μ2 K X) X) X
  | .mk c es, ρ, μ, K, X => Γ.mkd = true ∧ evEs Γ es ρ μ (fun vs μ1 => Γ.make c vs μ1 K X) X
  | .mkk c es ks kes perm, ρ, μ, K, X => Γ.mkd = true ∧ evEs Γ es ρ μ (fun vs μ1 => evEs Γ kes ρ μ1 (fun ws μ2 => ws.length = ks.length ∧ Γ.make c (vs ++ perm.filterMap (ws[·]?)) μ2 K X) X) X
  | .bi b es, ρ, μ, K, X => evEs Γ es ρ μ (fun vs μ1 => biK b vs fun v => K v μ1) X
  | .isin a t, ρ, μ, K, X => evE Γ a ρ μ (fun va μ1 => match isinF Γ va.fz t with
    | some r => K (.bl r) μ1
    | none => False) X
  | .attr a f, ρ, μ, K, X => evE Γ a ρ μ (fun va μ1 => match va with
    | .ins c fs vs => f ∈ Γ.flds c ∧ (match (fs.zip vs).lookup f with
      | some v => K v μ1
      | none => False)
    | .exc c fs vs => f ∈ Γ.xflds c ∧ (match (fs.zip vs).lookup f with
      | some v => K v μ1
      | none => False)
    | _ => False) X
  | .ix a i, ρ, μ, K, X => evE Γ a ρ μ (fun va μ1 => evE Γ i ρ μ1 (fun vi μ2 => match va.fz, vi with
    | .str x, .int i => (match atI x.cps.toList i with
      | some c => x.length ≤ sizeLine ∧ K (.str ⟨#[c]⟩) μ2
      | none => False)
    | v, .int i => (match (itemsOf v).bind fun l => atI l i with
      | some u => K u μ2
      | none => False)
    | _, _ => False) X) X
  | .sl a lo hi, ρ, μ, K, X => evE Γ a ρ μ (fun va μ1 => evO Γ lo ρ μ1 (fun l μ2 => evO Γ hi ρ μ2 (fun h μ3 => match va.fz with
    | .tup xs => K (.tup ((xs.drop (HT.sIx xs.length 0 l)).take (HT.sIx xs.length xs.length h - HT.sIx xs.length 0 l))) μ3
    | .lst xs => K (.nls ((xs.drop (HT.sIx xs.length 0 l)).take (HT.sIx xs.length xs.length h - HT.sIx xs.length 0 l))) μ3
    | .str x => x.length ≤ sizeLine ∧ K (.str (cutS x l h)) μ3
    | _ => False) X) X) X
  | .slS a lo hi st, ρ, μ, K, X => evE Γ a ρ μ (fun va μ1 => evO Γ lo ρ μ1 (fun l μ2 => evO Γ hi ρ μ2 (fun h μ3 => evE Γ st ρ μ3 (fun vs μ4 => match va.fz, vs with
    | .lst xs, .int k => k ≠ 0 ∧ K (.nls (stepV xs l h k)) μ4
    | _, _ => False) X) X) X) X
  | .caught e, ρ, μ, K, _ => Γ.lam e ρ μ (fun _ μ1 => K .non μ1) fun v μ1 => ∃ c fs vs, v = .exc c fs vs ∧ Γ.sub c "StepError" = some true ∧ K v μ1
  | .refd w e, ρ, μ, K, X => Γ.refd w e ρ μ K X
  | .rep a, ρ, μ, K, X => evE Γ a ρ μ (fun va μ1 => match toPD va.fz with
    | some d => d.showable = true ∧ d.depth ≤ 60 ∧ d.shown.length ≤ sizeLine ∧ K (.str d.shown) μ1
    | none => False) X
  | .rev a, ρ, μ, K, X => evE Γ a ρ μ (fun va μ1 => match va.fz with
    | .tup xs => K (.tup xs.reverse) μ1
    | .lst xs => K (.nls xs.reverse) μ1
    | _ => False) X
  | .comp own tg s c e, ρ, μ, K, X => evS Γ s ρ μ (fun xs μ1 => compL (bindTg tg) (fun ρ1 μ2 K2 => evC Γ c ρ1 μ2 K2) (fun ρ1 μ2 K2 => evE Γ e ρ1 μ2 K2 noX) (wipeE ρ (own.map (·.2))) xs [] μ1 fun vs μ2 => K (.nls vs) μ2) X
  | .callv i es, ρ, μ, K, X => (match ρ[i]? with
    | some (some (.fn f)) => Γ.isf f = true ∧ evEs Γ es ρ μ (fun vs μ1 => Γ.call f vs μ1 K X) X
    | some (some (.clo k [])) => evEs Γ es ρ μ (fun vs μ1 => Γ.clo k vs μ1 K X) X
    | _ => False)
  | .lamv k, _, μ, K, _ => K (.clo k []) μ
  | .join a b, ρ, μ, K, X => evE Γ a ρ μ (fun va μ1 => evE Γ b ρ μ1 (fun vb μ2 => False) X) X
  | .split a b, ρ, μ, K, X => evE Γ a ρ μ (fun va μ1 => evE Γ b ρ μ1 (fun vb μ2 => False) X) X
  | .sleft i, ρ, μ, K, _ => (match stAt ρ μ i with
    | some (_, _, _, l, _) => K (.int l) μ
    | none => False)
  | .sturn i, ρ, μ, K, _ => (match stAt ρ μ i with
    | some (_, _, _, _, t) => K (.int t) μ
    | none => False)
  | .spop i, ρ, μ, K, _ => (match stAt ρ μ i with
    | some (k, g :: gs, cs, l, t) => K (.int g) (μ.set k (.st gs cs l t))
    | _ => False)
  | .sgreat i, ρ, μ, K, _ => (match stAt ρ μ i with
    | some (_, gs, _, _, _) => cmpK .ne (.lst (gs.map PV.int)) (.lst []) fun r => K (.bl r) μ
    | none => False)
def evEs (Γ : Gam) : Es → Env → Mu → (List PV → Mu → Prop) → KE → Prop
  | .nil, _, μ, K, _ => K [] μ
  | .cons e es, ρ, μ, K, X => evE Γ e ρ μ (fun v μ1 => evEs Γ es ρ μ1 (fun vs μ2 => K (v.fz :: vs) μ2) X) X
def evR (Γ : Gam) : Es → Env → Mu → (List PV → Mu → Prop) → KE → Prop
  | .nil, _, μ, K, _ => K [] μ
  | .cons e es, ρ, μ, K, X => evE Γ e ρ μ (fun v μ1 => evR Γ es ρ μ1 (fun vs μ2 => K (v :: vs) μ2) X) X
def evO (Γ : Gam) : Eo → Env → Mu → (Option Int → Mu → Prop) → KE → Prop
  | .no, _, μ, K, _ => K none μ
  | .yes e, ρ, μ, K, X => evE Γ e ρ μ (fun v μ1 => match v with
    | .int i => K (some i) μ1
    | _ => False) X
def evC (Γ : Gam) : Eo → Env → Mu → (Bool → Mu → Prop) → Prop
  | .no, _, μ, K => K true μ
  | .yes e, ρ, μ, K => evE Γ e ρ μ (fun v μ1 => trK v fun b => K b μ1) noX
def evS (Γ : Gam) : Sr → Env → Mu → (List PV → Mu → Prop) → KE → Prop
  | .ex e, ρ, μ, K, X => evE Γ e ρ μ (fun v μ1 => match walkOf v.fz with
    | some xs => K xs μ1
    | none => False) X
  | .cells i, ρ, μ, K, _ => (match stAt ρ μ i with
    | some (_, _, cs, _, _) => K (cs.map PV.int) μ
    | none => False)
  | .rng1 es, ρ, μ, K, X => evEs Γ es ρ μ (fun vs μ1 => rngK1 vs fun xs => K xs μ1) X
  | .rng2 es, ρ, μ, K, X => evEs Γ es ρ μ (fun vs μ1 => rngK2 vs fun xs => K xs μ1) X
  | .zip es, ρ, μ, K, X => evEs Γ es ρ μ (fun vs μ1 => zipK vs fun xs => K xs μ1) X
  | .enum es, ρ, μ, K, X => evEs Γ es ρ μ (fun vs μ1 => enumK vs fun xs => K xs μ1) X
def evAnd (Γ : Gam) : Es → Env → Mu → (Bool → Mu → Prop) → KE → Prop
  | .nil, _, _, _, _ => False
  | .cons e .nil, ρ, μ, K, X => evE Γ e ρ μ (fun v μ1 => blK v fun b => K b μ1) X
  | .cons e (.cons d es), ρ, μ, K, X => evE Γ e ρ μ (fun v μ1 => blK v fun b => if b then evAnd Γ (.cons d es) ρ μ1 K X else K false μ1) X
def evOr (Γ : Gam) : Es → Env → Mu → (Bool → Mu → Prop) → KE → Prop
  | .nil, _, _, _, _ => False
  | .cons e .nil, ρ, μ, K, X => evE Γ e ρ μ (fun v μ1 => blK v fun b => K b μ1) X
  | .cons e (.cons d es), ρ, μ, K, X => evE Γ e ρ μ (fun v μ1 => blK v fun b => if b then K true μ1 else evOr Γ (.cons d es) ρ μ1 K X) X
end
/-- a test -/
def evT (Γ : Gam) (e : E) (ρ : Env) (μ : Mu) (K : Bool → Mu → Prop) (X : KE) : Prop := evE Γ e ρ μ (fun v μ1 => trK v fun b => K b μ1) X

/-! ### statements -/
def freeze (ρ : Env) : List Nat → Env
  | [] => ρ
  | i :: is => (match ρ[i]? with
    | some (some v) => freeze (ρ.set i (some v.fz)) is
    | _ => freeze ρ is)
def setAll (ρ : Env) : List Nat → List PV → Option Env
  | [], [] => some ρ
  | i :: is, v :: vs => setAll (ρ.set i (some v)) is vs
  | _, _ => none
def forL (t : PV → Env → Option Env) (b : Env → Mu → EndP → Prop) : List PV → Env → Mu → EndP → Prop
  | [], ρ, μ, A => A.nx ρ μ
  | x :: xs, ρ, μ, A => match t x ρ with
    | none => False
    | some ρ1 => b ρ1 μ { A with nx := fun ρ2 μ2 => forL t b xs ρ2 μ2 A, ct := fun ρ2 μ2 => forL t b xs ρ2 μ2 A, bk := A.nx }
def whL (c : Env → Mu → (Bool → Mu → Prop) → KE → Prop) (b : Env → Mu → EndP → Prop) : Nat → Env → Mu → EndP → Prop
  | 0, _, _, _ => False
  | n + 1, ρ, μ, A => c ρ μ (fun r μ1 => if r then b ρ μ1 { A with nx := fun ρ2 μ2 => whL c b n ρ2 μ2 A, ct := fun ρ2 μ2 => whL c b n ρ2 μ2 A, bk := A.nx } else A.nx ρ μ1) A.xx
def augf (o : Op) (i j : Int) : Int := match o with
  | .sub => i - j
  | _ => i + j
mutual
def exS (Γ : Gam) : S → Env → Mu → EndP → Prop
  | .asg i e, ρ, μ, A => evE Γ e ρ μ (fun v μ1 => A.nx (ρ.set i (some v)) μ1) A.xx
  | .asgT is e, ρ, μ, A => evE Γ e ρ μ (fun v μ1 => match v with
    | .tup vs => (match setAll ρ is vs with
      | some ρ1 => A.nx ρ1 μ1
      | none => False)
    | _ => False) A.xx
  | .par is es, ρ, μ, A => evR Γ es ρ μ (fun vs μ1 => match setAll ρ is vs with
      | some ρ1 => A.nx ρ1 μ1
      | none => False) A.xx
  | .setIx i a e, ρ, μ, A => evE Γ e ρ μ (fun v μ1 => match ρ[i]? with
    | some (some (.nls vs)) => evE Γ a ρ μ1 (fun k μ2 => match k with
      | .int k => (match ixN vs.length k with
        | some j => A.nx (ρ.set i (some (.nls (vs.set j v.fz)))) μ2
        | none => False)
      | _ => False) A.xx
    | _ => False) A.xx
  | .setA i f e, ρ, μ, A => evE Γ e ρ μ (fun v μ1 => match ρ[i]? with
    | some (some (.nin c fs vs)) => f ∉ fs ∧ f ∈ Γ.flds c ∧ fs.length < 100 ∧ A.nx (ρ.set i (some (.nin c (fs ++ [f]) (vs ++ [v.fz])))) μ1
    | _ => False) A.xx
  | .aug i o e, ρ, μ, A => (match ρ[i]? with
    | some (some (.int u)) => evE Γ e ρ μ (fun v μ1 => match v with
      | .int j => A.nx (ρ.set i (some (.int (augf o u j)))) μ1
      | _ => False) A.xx
    | _ => False)
  | .app i e, ρ, μ, A => (match ρ[i]? with
    | some (some (.nls vs)) => evE Γ e ρ μ (fun v μ1 => vs.length < sizeLine ∧ A.nx (ρ.set i (some (.nls (vs ++ [v.fz])))) μ1) A.xx
    | _ => False)
  | .appPop i j e, ρ, μ, A => (match ρ[i]?, ρ[j]? with
    | some (some (.nls vs)), some (some (.nls us)) => evE Γ e ρ μ (fun k μ1 => match k with
      | .int k => i ≠ j ∧ vs.length < sizeLine ∧ (0 ≤ k ∧ k < 2 ^ 63) ∧ (match us[k.toNat]? with
        | some u => A.nx ((ρ.set j (some (.nls (us.eraseIdx k.toNat)))).set i (some (.nls (vs ++ [u])))) μ1
        | none => False)
      | _ => False) A.xx
    | _, _ => False)
  | .boxApp i e, ρ, μ, A => evE Γ e ρ μ (fun v μ1 => match ρ[i]? with
    | some (some (.obj k)) => (match μ1[k]? with
      | some (.bx vs) => vs.length < sizeLine ∧ A.nx ρ (μ1.set k (.bx (vs ++ [v.fz])))
      | _ => False)
    | _ => False) A.xx
  | .ex e, ρ, μ, A => evE Γ e ρ μ (fun _ μ1 => A.nx ρ μ1) A.xx
  | .ret e, ρ, μ, A => evE Γ e ρ μ A.rt A.xx
  | .retv i, ρ, μ, A => (match ρ[i]? with
    | some (some (.nin _ _ _)) => False
    | some (some v) => A.rt v μ
    | _ => False)
  | .retN, _, μ, A => A.rt .non μ
  | .ifs c a b, ρ, μ, A => evT Γ c ρ μ (fun r μ1 => if r then exSs Γ a ρ μ1 A else exSs Γ b ρ μ1 A) A.xx
  | .fors tg s b, ρ, μ, A => evS Γ s ρ μ (fun xs μ1 => forL (bindTg tg) (fun ρ2 μ2 A2 => exSs Γ b ρ2 μ2 A2) xs ρ μ1 A) A.xx
  | .whs c b, ρ, μ, A => ∃ n, whL (evT Γ c) (fun ρ2 μ2 A2 => exSs Γ b ρ2 μ2 A2) n ρ μ A
  | .rai c, _, μ, A => A.xx (.exc c [] []) μ
  | .rai1 c e, ρ, μ, A => evE Γ e ρ μ (fun v μ1 => A.xx (.exc c [Γ.fld c] [v.fz]) μ1) A.xx
  | .pass, ρ, μ, A => A.nx ρ μ
  | .nev, _, _, _ => False
  | .setL i e, ρ, μ, A => evE Γ e ρ μ (fun v μ1 => match v, stAt ρ μ1 i with
    | .int l, some (k, gs, cs, _, t) => A.nx ρ (μ1.set k (.st gs cs l t))
    | _, _ => False) A.xx
  | .setT i e, ρ, μ, A => evE Γ e ρ μ (fun v μ1 => match v, stAt ρ μ1 i with
    | .int t, some (k, gs, cs, l, _) => A.nx ρ (μ1.set k (.st gs cs l t))
    | _, _ => False) A.xx
  | .mkst i e, ρ, μ, A => (match ρ[i]? with
    | some (some (.nls us)) => (match intsOf us with
      | some gs => evE Γ e ρ μ (fun v μ1 => match v with
        | .nls ws => (match intsOf ws with
          | some cs => A.rt (.obj μ1.length) (μ1 ++ [.st gs cs 0 0])
          | none => False)
        | _ => False) A.xx
      | none => False)
    | _ => False)
  | .brk, ρ, μ, A => A.bk ρ μ
  | .cnt, ρ, μ, A => A.ct ρ μ
  | .frz is, ρ, μ, A => A.nx (freeze ρ is) μ
def exSs (Γ : Gam) : Ss → Env → Mu → EndP → Prop
  | .nil, ρ, μ, A => A.nx ρ μ
  | .cons s r, ρ, μ, A => exS Γ s ρ μ { A with nx := fun ρ1 μ1 => exSs Γ r ρ1 μ1 A }
end
end Mi
end

section
-- Mini2
set_option Elab.async false
set_option linter.all false
set_option maxRecDepth 100000
set_option maxHeartbeats 4000000
/-! Mini, part 2: how pure values lie in the heap -/
namespace Mi
open PySem PySem.Spec PyProof.Rows L2

/-- the program's fixed part -/
structure En where
  K : PySem.W.Frag
  mg : Str → Option Value
  tb : List (Addr × Str)
  lam : Nat → Arguments → Expr → Scope → Prop := fun _ _ _ _ => False
/-- F: what never changes; m: the footprints of the things that change (the first address is the thing's own) -/
structure Wd where
  F : Hp
  m : List (List Addr)
  me : Option Addr := none

/-- an exception object of the class at C, its own dict at d -/
def ExH (C : Addr) (d : Option Addr) (a : Addr) : HO := .ext fun h => ∃ (oe : Obj) (vs : Array Value), h.get? a = some oe ∧ oe.cls = .ref C ∧ oe.dict = d ∧ oe.data = .fields vs

/-- a lambda that captures nothing: its function object at a, its code's at c' -/
def LamO (a c' : Addr) (q : Str) (params : Arguments) (body : Expr) (scope : Scope) : HO := .ext fun h => ∃ pm ctv, h.get? a = some (PySem.W.kla_obj "<lambda>" q params body scope [] pm c' ctv)
mutual
inductive Rep (P : En) (G : Wd) : PV → V → Prop
  | non : Rep P G .non .non
  | bl (b : Bool) : Rep P G (.bl b) (.bl b)
  | int (i : Int) : Rep P G (.int i) (.int i)
  | str (x : Str) : Rep P G (.str x) (.str x)
  | tup {a : Addr} {xs : List V} {vs : List PV} : SqT P.K G.F a xs → Reps P G vs xs → Rep P G (.tup vs) (.ref a)
  | lst {a : Addr} {xs : List V} {vs : List PV} : G.F a = some (.lst xs) → Reps P G vs xs → Rep P G (.lst vs) (.ref a)
  | scr {a : Addr} {ns : List Int} : SqL P.K G.F a (ns.map V.int) → Rep P G (.scr ns) (.ref a)
  | dct0 {a : Addr} : G.F a = some (.dK []) → Rep P G (.dct [] []) (.ref a)
  | ins {a C dx : Addr} {c : Str} {fs : List Str} {xs : List V} {vs : List PV} : P.mg c = some (.ref C) → G.F a = some (.ins C dx (fs.zip xs)) → fs.length = vs.length → Reps P G vs xs → Rep P G (.ins c fs vs) (.ref a)
  | exc0 {a C : Addr} {c : Str} : P.mg c = some (.ref C) → G.F a = some (ExH C none a) → Rep P G (.exc c [] []) (.ref a)
  | exc1 {a C d : Addr} {c : Str} {fs : List Str} {xs : List V} {vs : List PV} : P.mg c = some (.ref C) → G.F a = some (ExH C (some d) a) → G.F d = some (.xd (fs.zip xs)) → fs.length = vs.length → Reps P G vs xs → Rep P G (.exc c fs vs) (.ref a)
  | fn {f : Str} {a : Addr} : P.mg f = some (.ref a) → Rep P G (.fn f) (.ref a)
  | clo {k : Nat} {a c' : Addr} {q : Str} {params : Arguments} {body : Expr} {scope : Scope} : P.lam k params body scope → G.F a = some (LamO a c' q params body scope) → G.F c' = some (LamX.CodeO c' q) → Rep P G (.clo k []) (.ref a)
  | obj {k : Nat} {a : Addr} {r : List Addr} : G.m[k]? = some (a :: r) → Rep P G (.obj k) (.ref a)
inductive Reps (P : En) (G : Wd) : List PV → List V → Prop
  | nil : Reps P G [] []
  | cons {v : PV} {x : V} {vs : List PV} {xs : List V} : Rep P G v x → Reps P G vs xs → Reps P G (v :: vs) (x :: xs)
end

/-- how the world goes on -/
structure Ext (H : Hp) (G : Wd) (H' : Hp) (G' : Wd) : Prop where
  le : ∀ a o, G.F a = some o → G'.F a = some o
  nw : ∀ a o, G'.F a = some o → G.F a = some o ∨ H a = none
  fr : ∀ a o, H a = some o → a ∉ G.m.flatten → (∀ ps, o ≠ .tbl ps) → H' a = some o
  dm : ∀ a, H' a = none → H a = none
  mm : ∀ (k : Nat) a r, G.m[k]? = some (a :: r) → ∃ r', G'.m[k]? = some (a :: r')
  mf : ∀ a, a ∈ G'.m.flatten → a ∈ G.m.flatten ∨ H a = none
  me : G'.me = G.me

theorem Ext.refl (H : Hp) (G : Wd) : Ext H G H G := ⟨fun _ _ h => h, fun _ _ h => .inl h, fun _ _ h _ _ => h, fun _ h => h, fun _ _ r h => ⟨r, h⟩, fun _ h => .inl h, rfl⟩
theorem Ext.trans {H H1 H2 : Hp} {G G1 G2 : Wd} (a : Ext H G H1 G1) (b : Ext H1 G1 H2 G2) : Ext H G H2 G2 where
  le := fun c o h => b.le c o (a.le c o h)
  nw := fun c o h => by
    rcases b.nw c o h with h1 | h1
    · exact a.nw c o h1
    · exact .inr (a.dm c h1)
  fr := fun c o h n nt => by
    refine b.fr c o (a.fr c o h n nt) (fun z => ?_) nt
    rcases a.mf c z with z | z
    · exact n z
    · rw [h] at z; cases z
  dm := fun c h => a.dm c (b.dm c h)
  mm := fun k c r h => by
    obtain ⟨r1, h1⟩ := a.mm k c r h
    exact b.mm k c r1 h1
  mf := fun c h => by
    rcases b.mf c h with h1 | h1
    · exact a.mf c h1
    · exact .inr (a.dm c h1)
  me := b.me.trans a.me
theorem rd_le {F F' : Hp} (e : ∀ a o, F a = some o → F' a = some o) {a : Addr} {u : HO} (h : Rd F a u) : Rd F' a u := by
  rcases h with h | ⟨o, h⟩
  · exact .inl (e _ _ h)
  · exact .inr ⟨o, e _ _ h⟩
theorem sqL_le {K : PySem.W.Frag} {F F' : Hp} (e : ∀ a o, F a = some o → F' a = some o) {a : Addr} {xs : List V} (h : SqL K F a xs) : SqL K F' a xs := h.elim (fun h => .inl (rd_le e h)) .inr
theorem sqT_le {K : PySem.W.Frag} {F F' : Hp} (e : ∀ a o, F a = some o → F' a = some o) {a : Addr} {xs : List V} (h : SqT K F a xs) : SqT K F' a xs := h.elim (fun h => .inl (rd_le e h)) .inr

section
variable {P : En} {G G' : Wd}
mutual
theorem Rep.le (e : ∀ a o, G.F a = some o → G'.F a = some o) (m : ∀ (k : Nat) a r, G.m[k]? = some (a :: r) → ∃ r', G'.m[k]? = some (a :: r')) : ∀ {v : PV} {x : V}, Rep P G v x → Rep P G' v x
  | _, _, .non => .non
  | _, _, .bl b => .bl b
  | _, _, .int i => .int i
  | _, _, .str x => .str x
  | _, _, .tup h r => .tup (sqT_le e h) (Reps.le e m r)
  | _, _, .lst h r => .lst (e _ _ h) (Reps.le e m r)
  | _, _, .scr h => .scr (sqL_le e h)
  | _, _, .dct0 h => .dct0 (e _ _ h)
  | _, _, .ins h1 h2 h3 r => .ins h1 (e _ _ h2) h3 (Reps.le e m r)
  | _, _, .exc0 h1 h2 => .exc0 h1 (e _ _ h2)
  | _, _, .exc1 h1 h2 h3 h4 r => .exc1 h1 (e _ _ h2) (e _ _ h3) h4 (Reps.le e m r)
  | _, _, .fn h => .fn h
  | _, _, .clo h1 h2 h3 => .clo h1 (e _ _ h2) (e _ _ h3)
  | _, _, .obj h => let ⟨_, h'⟩ := m _ _ _ h; .obj h'
theorem Reps.le (e : ∀ a o, G.F a = some o → G'.F a = some o) (m : ∀ (k : Nat) a r, G.m[k]? = some (a :: r) → ∃ r', G'.m[k]? = some (a :: r')) : ∀ {vs : List PV} {xs : List V}, Reps P G vs xs → Reps P G' vs xs
  | _, _, .nil => .nil
  | _, _, .cons h r => .cons (Rep.le e m h) (Reps.le e m r)
end
theorem Rep.ext {H H' : Hp} (x : Ext H G H' G') {v : PV} {u : V} (r : Rep P G v u) : Rep P G' v u := r.le x.le x.mm
theorem Reps.ext {H H' : Hp} (x : Ext H G H' G') {v : List PV} {u : List V} (r : Reps P G v u) : Reps P G' v u := r.le x.le x.mm
theorem Reps.length : ∀ {vs : List PV} {xs : List V}, Reps P G vs xs → vs.length = xs.length
  | _, _, .nil => rfl
  | _, _, .cons _ r => by rw [List.length_cons, List.length_cons, r.length]
theorem Reps.get : ∀ {vs : List PV} {xs : List V} {i : Nat} {v : PV}, Reps P G vs xs → vs[i]? = some v → ∃ x, xs[i]? = some x ∧ Rep P G v x
  | _, _, _, _, .nil, h => by simp at h
  | _, _, 0, _, .cons r _, h => by
    simp at h
    subst h
    exact ⟨_, rfl, r⟩
  | _, _, i + 1, _, .cons _ t, h => by
    obtain ⟨x, h1, h2⟩ := t.get (i := i) (by simpa using h)
    exact ⟨x, by simpa using h1, h2⟩
theorem Reps.append : ∀ {vs ws : List PV} {xs ys : List V}, Reps P G vs xs → Reps P G ws ys → Reps P G (vs ++ ws) (xs ++ ys)
  | _, _, _, _, .nil, s => s
  | _, _, _, _, .cons r t, s => .cons r (t.append s)
theorem Reps.take : ∀ (n : Nat) {vs : List PV} {xs : List V}, Reps P G vs xs → Reps P G (vs.take n) (xs.take n)
  | 0, _, _, _ => .nil
  | _ + 1, _, _, .nil => .nil
  | n + 1, _, _, .cons r t => .cons r (t.take n)
theorem Reps.drop : ∀ (n : Nat) {vs : List PV} {xs : List V}, Reps P G vs xs → Reps P G (vs.drop n) (xs.drop n)
  | 0, _, _, r => r
  | _ + 1, _, _, .nil => .nil
  | n + 1, _, _, .cons _ t => t.drop n
theorem Reps.set {v : PV} {x : V} (r : Rep P G v x) : ∀ (i : Nat) {vs : List PV} {xs : List V}, Reps P G vs xs → Reps P G (vs.set i v) (xs.set i x)
  | _, _, _, .nil => .nil
  | 0, _, _, .cons _ t => .cons r t
  | i + 1, _, _, .cons q t => .cons q (t.set r i)
theorem Reps.eraseIdx : ∀ (i : Nat) {vs : List PV} {xs : List V}, Reps P G vs xs → Reps P G (vs.eraseIdx i) (xs.eraseIdx i)
  | _, _, _, .nil => .nil
  | 0, _, _, .cons _ t => t
  | i + 1, _, _, .cons q t => .cons q (t.eraseIdx i)
theorem Reps.reverse : ∀ {vs : List PV} {xs : List V}, Reps P G vs xs → Reps P G vs.reverse xs.reverse
  | _, _, .nil => .nil
  | _, _, .cons q t => by
    rw [List.reverse_cons, List.reverse_cons]
    exact t.reverse.append (.cons q .nil)
theorem Reps.rep {vs : List PV} {xs : List V} (r : Reps P G vs xs) : ∀ k : Nat, Reps P G (List.replicate k vs).flatten (List.replicate k xs).flatten
  | 0 => .nil
  | k + 1 => by
    rw [List.replicate_succ, List.replicate_succ, List.flatten_cons, List.flatten_cons]
    exact r.append (r.rep k)
theorem Reps.ints : ∀ {vs : List PV} {xs : List V} {ns : List Int}, Reps P G vs xs → intsOf vs = some ns → xs = ns.map V.int
  | _, _, _, .nil, h => by
    simp [intsOf] at h
    subst h
    rfl
  | _, _, _, .cons (v := v) r t, h => by
    cases r with
    | int i =>
      simp only [intsOf, Option.map_eq_some_iff] at h
      obtain ⟨ms, h1, rfl⟩ := h
      rw [t.ints h1]
      rfl
    | _ => simp [intsOf] at h
theorem Reps.bls : ∀ {vs : List PV} {xs : List V} {ns : List Bool}, Reps P G vs xs → blsOf vs = some ns → xs = ns.map V.bl
  | _, _, _, .nil, h => by
    simp [blsOf] at h
    subst h
    rfl
  | _, _, _, .cons (v := v) r t, h => by
    cases r with
    | bl i =>
      simp only [blsOf, Option.map_eq_some_iff] at h
      obtain ⟨ms, h1, rfl⟩ := h
      rw [t.bls h1]
      rfl
    | _ => simp [blsOf] at h
theorem Rep.nonls {vs : List PV} {x : V} : ¬ Rep P G (.nls vs) x := fun h => by cases h
theorem Rep.fz {v : PV} {x : V} (r : Rep P G v x) : Rep P G v.fz x := by
  cases v with
  | nls vs => exact absurd r Rep.nonls
  | _ => exact r
mutual
theorem Rep.pd {H : Hp} (sub : ∀ a o, G.F a = some o → H a = some o) : ∀ {v : PV} {x : V} {d : PyData}, Rep P G v x → toPD v = some d → Dp P.K H x d
  | _, _, _, .non, h => by simp [toPD] at h; subst h; exact .non
  | _, _, _, .bl b, h => by simp [toPD] at h; subst h; exact .bl b
  | _, _, _, .int i, h => by simp [toPD] at h; subst h; exact .int i
  | _, _, _, .str x, h => by simp [toPD] at h; subst h; exact .str x
  | _, _, _, .tup h1 r, h => by
    simp only [toPD, Option.map_eq_some_iff] at h
    obtain ⟨ds, h2, rfl⟩ := h
    exact .tup (sqT_le sub h1) (Reps.pd sub r h2)
  | _, _, _, .lst h1 r, h => by
    simp only [toPD, Option.map_eq_some_iff] at h
    obtain ⟨ds, h2, rfl⟩ := h
    exact .lst (.inl (.inl (sub _ _ h1))) (Reps.pd sub r h2)
  | _, _, _, .scr _, h => by simp [toPD] at h
  | _, _, _, .dct0 _, h => by simp [toPD] at h
  | _, _, _, .ins _ _ _ _, h => by simp [toPD] at h
  | _, _, _, .exc0 _ _, h => by simp [toPD] at h
  | _, _, _, .exc1 _ _ _ _ _, h => by simp [toPD] at h
  | _, _, _, .fn _, h => by simp [toPD] at h
  | _, _, _, .clo _ _ _, h => by simp [toPD] at h
  | _, _, _, .obj _, h => by simp [toPD] at h
theorem Reps.pd {H : Hp} (sub : ∀ a o, G.F a = some o → H a = some o) : ∀ {vs : List PV} {xs : List V} {ds : List PyData}, Reps P G vs xs → toPDs vs = some ds → DpAll P.K H xs ds
  | _, _, _, .nil, h => by simp [toPDs] at h; subst h; exact .nil
  | _, _, _, .cons (v := v) (vs := vs) r t, h => by
    simp only [toPDs] at h
    split at h
    · rename_i d e h1 h2
      cases h
      exact .cons (Rep.pd sub r h1) (Reps.pd sub t h2)
    · cases h
end
end

/-- a thing that changes, at its footprint -/
def MoOk (P : En) (G : Wd) (H : Hp) : MO → List Addr → Prop
  | .st gs cs l t, fp => ∃ (S g c : Addr), fp = [S, g] ∧
      H S = some (.dK [(Sum.inr "great", .ref g), (Sum.inr "cells", .ref c), (Sum.inr "left", .int l), (Sum.inr "turn", .int t)]) ∧
      H g = some (.lst (gs.map V.int)) ∧ G.F c = some (.lst (cs.map V.int)) ∧ S ≠ g
  | .bx vs, fp => ∃ (a : Addr) (xs : List V), fp = [a] ∧ H a = some (.lst xs) ∧ Reps P G vs xs
  | .tb q, fp => ∃ (a : Addr) (ps : Array Value), fp = [a] ∧ H a = some (.tbl ps) ∧ TriplesOk ps.toList ∧ ∀ (pos : Pos) (cv : Value), codeAmong pos ps.toList = some cv → ∃ c, cv = .ref c ∧ G.F c = some (LamX.CodeO c q)

/-- the world lies well -/
structure Wf (P : En) (G : Wd) (μ : Mu) (H : Hp) : Prop where
  sub : ∀ a o, G.F a = some o → H a = some o
  mF : ∀ a, a ∈ G.m.flatten → G.F a = none ∧ H a ≠ none
  len : G.m.length = μ.length
  ob : ∀ (k : Nat) mo fp, μ[k]? = some mo → G.m[k]? = some fp → MoOk P G H mo fp
  dj : ∀ (i j : Nat) fp fq, i ≠ j → G.m[i]? = some fp → G.m[j]? = some fq → ∀ a, a ∈ fp → a ∉ fq
  tb : ∀ (j : Nat) a q, P.tb[j]? = some (a, q) → G.m[j]? = some [a] ∧ μ[j]? = some (.tb q)

/-- the slots; He: the heap when the def was entered -/
structure Sl (P : En) (He : Hp) (G : Wd) (ρ : Env) (σ : L2.St) (H : Hp) : Prop where
  len : ρ.length = σ.length
  fz : ∀ (i : Nat) v, ρ[i]? = some (some v) → v.own = false → ∃ x, σ[i]? = some (some x) ∧ Rep P G v x
  ow : ∀ (i : Nat) vs, ρ[i]? = some (some (.nls vs)) → ∃ a xs, σ[i]? = some (some (.ref a)) ∧ H a = some (.lst xs) ∧ Reps P G vs xs ∧ G.F a = none ∧ a ∉ G.m.flatten ∧ He a = none
  oi : ∀ (i : Nat) c fs vs, ρ[i]? = some (some (.nin c fs vs)) → ∃ a C dx xs, σ[i]? = some (some (.ref a)) ∧ P.mg c = some (.ref C) ∧ H a = some (.ins C dx (fs.zip xs)) ∧ fs.length = vs.length ∧ Reps P G vs xs ∧ G.F a = none ∧ a ∉ G.m.flatten ∧ He a = none ∧ G.me = some a
  sep : ∀ (i j : Nat) v u a, i ≠ j → ρ[i]? = some (some v) → ρ[j]? = some (some u) → v.own = true → u.own = true → σ[i]? = some (some (.ref a)) → σ[j]? = some (some (.ref a)) → False

/-- a value that is handed on: frozen, or a list that nobody else holds, new since H0 -/
def RepR (P : En) (H0 : Hp) (G : Wd) (H : Hp) : PV → V → Prop
  | .nls vs, x => ∃ a xs, x = .ref a ∧ H a = some (.lst xs) ∧ Reps P G vs xs ∧ G.F a = none ∧ a ∉ G.m.flatten ∧ H0 a = none
  | v, x => Rep P G v x

section
variable {P : En} {H H' He H0 : Hp} {G G' : Wd} {μ μ' : Mu} {ρ : Env} {σ : L2.St}
theorem Wf.mem (w : Wf P G μ H) {a : Addr} {o : HO} (h : H a = some o) (hf : ∃ u, G.F a = some u) : a ∉ G.m.flatten := fun z => by
  obtain ⟨u, hu⟩ := hf
  rw [(w.mF a z).1] at hu
  cases hu
theorem Ext.noF {a : Addr} {o : HO} (x : Ext H G H' G') (h4 : G.F a = none) (h2 : H a = some o) : G'.F a = none := by
  cases e : G'.F a with
  | none => rfl
  | some o =>
    rcases x.nw a o e with z | z
    · rw [h4] at z; cases z
    · rw [h2] at z; cases z
theorem Ext.nom {a : Addr} {o : HO} (x : Ext H G H' G') (h5 : a ∉ G.m.flatten) (h2 : H a = some o) : a ∉ G'.m.flatten := fun z => by
  rcases x.mf a z with z | z
  · exact h5 z
  · rw [h2] at z; cases z
theorem Sl.ext (s : Sl P He G ρ σ H) (w : Wf P G μ H) (x : Ext H G H' G') : Sl P He G' ρ σ H' where
  len := s.len
  fz := fun i v h n => let ⟨u, h1, h2⟩ := s.fz i v h n; ⟨u, h1, h2.ext x⟩
  ow := fun i vs h => by
    obtain ⟨a, xs, h1, h2, h3, h4, h5, h6⟩ := s.ow i vs h
    exact ⟨a, xs, h1, x.fr a _ h2 h5 (fun _ z => nomatch z), h3.ext x, x.noF h4 h2, x.nom h5 h2, h6⟩
  oi := fun i c fs vs h => by
    obtain ⟨a, C, dx, xs, h1, h0, h2, h7, h3, h4, h5, h6, h8⟩ := s.oi i c fs vs h
    exact ⟨a, C, dx, xs, h1, h0, x.fr a _ h2 h5 (fun _ z => nomatch z), h7, h3.ext x, x.noF h4 h2, x.nom h5 h2, h6, x.me.trans h8⟩
  sep := s.sep
theorem RepR.ext (w : Wf P G μ H) (x : Ext H G H' G') {v : PV} {u : V} (r : RepR P H0 G H v u) : RepR P H0 G' H' v u := by
  cases v with
  | nls vs =>
    obtain ⟨a, xs, e, h2, h3, h4, h5, h6⟩ := r
    exact ⟨a, xs, e, x.fr a _ h2 h5 (fun _ z => nomatch z), h3.ext x, x.noF h4 h2, x.nom h5 h2, h6⟩
  | _ => exact Rep.ext x r
theorem RepR.of {v : PV} {u : V} (r : Rep P G v u) : RepR P H0 G H v u := by
  cases v with
  | nls vs => exact absurd r Rep.nonls
  | _ => exact r
theorem RepR.start {H1 : Hp} (d : ∀ a, H1 a = none → H0 a = none) {v : PV} {u : V} (r : RepR P H1 G H v u) : RepR P H0 G H v u := by
  cases v with
  | nls vs =>
    obtain ⟨a, xs, e, h2, h3, h4, h5, h6⟩ := r
    exact ⟨a, xs, e, h2, h3, h4, h5, d a h6⟩
  | _ => exact r

/-- the world with one thing more that never changes -/
def Wd.put (G : Wd) (a : Addr) (o : HO) : Wd := ⟨upd G.F a o, G.m, G.me⟩
/-- a thing is made and never changes from now on -/
theorem Ext.new {p : Addr} {o : HO} (w : Wf P G μ H) (hp : H p = none) : Ext H G (upd H p o) (G.put p o) where
  me := rfl
  le := fun a u h => by
    show upd G.F p o a = some u
    rw [upd_ne (ne_of_none (w.sub a u h) hp)]
    exact h
  nw := fun a u h => by
    by_cases e : a = p
    · rw [e]; exact .inr hp
    · have h' : upd G.F p o a = some u := h
      rw [upd_ne e] at h'
      exact .inl h'
  fr := fun a u h _ _ => by
    rw [upd_ne (ne_of_none h hp)]
    exact h
  dm := fun a h => by
    by_cases e : a = p
    · rw [e] at h; rw [upd_same] at h; cases h
    · rw [upd_ne e] at h; exact h
  mm := fun k a r h => ⟨r, h⟩
  mf := fun a h => .inl h
theorem MoOk.keep {mo : MO} {fp : List Addr} (x : Ext H G H' G') (k : ∀ a, a ∈ fp → H' a = H a) (h : MoOk P G H mo fp) : MoOk P G' H' mo fp := by
  cases mo with
  | st gs cs l t =>
    obtain ⟨S, g, c, rfl, h1, h2, h3, h4⟩ := h
    refine ⟨S, g, c, rfl, ?_, ?_, x.le _ _ h3, h4⟩
    · rw [k S (by simp)]; exact h1
    · rw [k g (by simp)]; exact h2
  | bx vs =>
    obtain ⟨a, xs, rfl, h1, h2⟩ := h
    exact ⟨a, xs, rfl, by rw [k a (by simp)]; exact h1, h2.ext x⟩
  | tb q =>
    obtain ⟨a, ps, rfl, h1, h2, h3⟩ := h
    exact ⟨a, ps, rfl, by rw [k a (by simp)]; exact h1, h2, fun pos cv hc => let ⟨c, e1, e2⟩ := h3 pos cv hc; ⟨c, e1, x.le _ _ e2⟩⟩
theorem mem_flat {m : List (List Addr)} {k : Nat} {fp : List Addr} {a : Addr} (h : m[k]? = some fp) (ha : a ∈ fp) : a ∈ m.flatten := List.mem_flatten.mpr ⟨fp, List.mem_of_getElem? h, ha⟩
theorem Wf.new {p : Addr} {o : HO} (w : Wf P G μ H) (hp : H p = none) : Wf P (G.put p o) μ (upd H p o) where
  sub := fun a u h => by
    have h' : upd G.F p o a = some u := h
    by_cases e : a = p
    · rw [e, upd_same] at h'
      rw [e, upd_same]
      exact h'
    · rw [upd_ne e] at h'
      rw [upd_ne e]
      exact w.sub a u h'
  mF := fun a h => by
    obtain ⟨h1, h2⟩ := w.mF a h
    have e : a ≠ p := fun e => by rw [e] at h2; exact h2 hp
    refine ⟨?_, ?_⟩
    · show upd G.F p o a = none
      rw [upd_ne e]; exact h1
    · rw [upd_ne e]; exact h2
  len := w.len
  ob := fun k mo fp h1 h2 => (w.ob k mo fp h1 h2).keep (Ext.new w hp) fun a ha => by
    have e : a ≠ p := fun e => (w.mF a (mem_flat h2 ha)).2 (by rw [e]; exact hp)
    rw [upd_ne e]
  dj := w.dj
  tb := w.tb
/-- a list is made -/
theorem Ext.newL {p : Addr} {o : HO} (w : Wf P G μ H) (hp : H p = none) : Ext H G (upd H p o) G where
  me := rfl
  le := fun _ _ h => h
  nw := fun _ _ h => .inl h
  fr := (Ext.new (o := o) w hp).fr
  dm := (Ext.new (o := o) w hp).dm
  mm := fun k a r h => ⟨r, h⟩
  mf := fun a h => .inl h
theorem Wf.newL {p : Addr} {o : HO} (w : Wf P G μ H) (hp : H p = none) : Wf P G μ (upd H p o) where
  sub := fun a u h => by
    rw [upd_ne (ne_of_none (w.sub a u h) hp)]
    exact w.sub a u h
  mF := fun a h => by
    obtain ⟨h1, h2⟩ := w.mF a h
    have e : a ≠ p := fun e => by rw [e] at h2; exact h2 hp
    exact ⟨h1, by rw [upd_ne e]; exact h2⟩
  len := w.len
  ob := fun k mo fp h1 h2 => (w.ob k mo fp h1 h2).keep (Ext.newL w hp) fun a ha => by
    have e : a ≠ p := fun e => (w.mF a (mem_flat h2 ha)).2 (by rw [e]; exact hp)
    rw [upd_ne e]
  dj := w.dj
  tb := w.tb
theorem Wf.nomem (w : Wf P G μ H) {p : Addr} (hp : H p = none) : p ∉ G.m.flatten := fun z => (w.mF p z).2 hp
theorem Wf.noF (w : Wf P G μ H) {p : Addr} (hp : H p = none) : G.F p = none := by
  cases e : G.F p with
  | none => rfl
  | some o => rw [w.sub p o e] at hp; cases hp
/-- a list that nobody else holds is let be from now on -/
theorem freezeAt {G0 : Wd} {vs : List PV} {a : Addr} {xs : List V} (w : Wf P G μ H) (e : Ext H0 G0 H G) (h2 : H a = some (.lst xs)) (h3 : Reps P G vs xs) (h4 : G.F a = none) (h5 : a ∉ G.m.flatten) (h6 : H0 a = none) :
    Ext H0 G0 H (G.put a (.lst xs)) ∧ Wf P (G.put a (.lst xs)) μ H ∧ Rep P (G.put a (.lst xs)) (.lst vs) (.ref a) ∧ (∀ b o, G.F b = some o → (G.put a (.lst xs)).F b = some o) := by
  have le : ∀ b o, G.F b = some o → (G.put a (.lst xs)).F b = some o := fun b o hb => by
    show upd G.F a (.lst xs) b = some o
    rw [upd_ne (fun z => by rw [z, h4] at hb; cases hb)]
    exact hb
  have mm : ∀ (k : Nat) b r, G.m[k]? = some (b :: r) → ∃ r', (G.put a (.lst xs)).m[k]? = some (b :: r') := fun k b r h => ⟨r, h⟩
  refine ⟨⟨fun b o hb => le b o (e.le b o hb), fun b o hb => ?_, e.fr, e.dm, e.mm, e.mf, e.me⟩, ⟨fun b o hb => ?_, fun b hb => ?_, w.len, fun k mo fp h1 h2' => ?_, w.dj, w.tb⟩, .lst upd_same (h3.le le mm), le⟩
  · by_cases z : b = a
    · rw [z]; exact .inr h6
    · have hb' : upd G.F a (.lst xs) b = some o := hb
      rw [upd_ne z] at hb'
      exact e.nw b o hb'
  · have hb' : upd G.F a (.lst xs) b = some o := hb
    by_cases z : b = a
    · rw [z, upd_same] at hb'
      rw [z, h2]
      exact hb'
    · rw [upd_ne z] at hb'
      exact w.sub b o hb'
  · obtain ⟨q1, q2⟩ := w.mF b hb
    have z : b ≠ a := fun z => h5 (by rw [← z]; exact hb)
    refine ⟨?_, q2⟩
    show upd G.F a (.lst xs) b = none
    rw [upd_ne z]
    exact q1
  · have q := w.ob k mo fp h1 h2'
    cases mo with
    | st gs cs l t =>
      obtain ⟨S, g, c, e1, e2, e3, e4, e5⟩ := q
      exact ⟨S, g, c, e1, e2, e3, le _ _ e4, e5⟩
    | bx us =>
      obtain ⟨b, ys, e1, e2, e3⟩ := q
      exact ⟨b, ys, e1, e2, e3.le le mm⟩
    | tb n =>
      obtain ⟨b, ps, e1, e2, e3, e4⟩ := q
      exact ⟨b, ps, e1, e2, e3, fun pos cv hc => let ⟨c, z1, z2⟩ := e4 pos cv hc; ⟨c, z1, le _ _ z2⟩⟩
theorem freezeL {G0 : Wd} {vs : List PV} {x : V} (w : Wf P G μ H) (e : Ext H0 G0 H G) (r : RepR P H0 G H (.nls vs) x) : ∃ G', Ext H0 G0 H G' ∧ Wf P G' μ H ∧ Rep P G' (.lst vs) x ∧ (∀ a o, G.F a = some o → G'.F a = some o) ∧ G'.m = G.m := by
  obtain ⟨a, xs, rfl, h2, h3, h4, h5, h6⟩ := r
  obtain ⟨q1, q2, q3, q4⟩ := freezeAt w e h2 h3 h4 h5 h6
  exact ⟨_, q1, q2, q3, q4, rfl⟩
end
end Mi
end

section
-- MiniN
set_option Elab.async false
set_option linter.all false
set_option maxRecDepth 100000
set_option maxHeartbeats 4000000
/-! Mini, part N: sum, min, max of a tuple of ints -/
namespace Mi
open PySem PySem.Spec PyProof.Rows L2
theorem foldl_min : ∀ (r : List Int) (n : Int), r.foldl min n ∈ n :: r ∧ ∀ y ∈ n :: r, r.foldl min n ≤ y
  | [], n => by simp
  | x :: r, n => by
    obtain ⟨h1, h2⟩ := foldl_min r (min n x)
    rw [List.foldl_cons]
    have h3 := h2 (min n x) (by simp)
    refine ⟨?_, fun y hy => ?_⟩
    · rcases List.mem_cons.mp h1 with h | h
      · rw [h]
        rcases Int.le_total n x with z | z
        · rw [Int.min_eq_left z]; simp
        · rw [Int.min_eq_right z]; simp
      · simp [h]
    · rcases List.mem_cons.mp hy with rfl | hy
      · exact Int.le_trans h3 (Int.min_le_left ..)
      · rcases List.mem_cons.mp hy with rfl | hy
        · exact Int.le_trans h3 (Int.min_le_right ..)
        · exact h2 y (by simp [hy])
theorem foldl_max : ∀ (r : List Int) (n : Int), r.foldl max n ∈ n :: r ∧ ∀ y ∈ n :: r, y ≤ r.foldl max n
  | [], n => by simp
  | x :: r, n => by
    obtain ⟨h1, h2⟩ := foldl_max r (max n x)
    rw [List.foldl_cons]
    have h3 := h2 (max n x) (by simp)
    refine ⟨?_, fun y hy => ?_⟩
    · rcases List.mem_cons.mp h1 with h | h
      · rw [h]
        rcases Int.le_total n x with z | z
        · rw [Int.max_eq_right z]; simp
        · rw [Int.max_eq_left z]; simp
      · simp [h]
    · rcases List.mem_cons.mp hy with rfl | hy
      · exact Int.le_trans (Int.le_max_left ..) h3
      · rcases List.mem_cons.mp hy with rfl | hy
        · exact Int.le_trans (Int.le_max_right ..) h3
        · exact h2 y (by simp [hy])
theorem alike_ints (ns : List Int) : PySem.W.AlikeAll (ns.map PyData.int) := by
  refine ⟨fun x hx y hy => ?_, fun x hx => ?_⟩
  · obtain ⟨i, _, rfl⟩ := List.mem_map.mp hx
    obtain ⟨j, _, rfl⟩ := List.mem_map.mp hy
    rfl
  · obtain ⟨i, _, rfl⟩ := List.mem_map.mp hx
    exact fun z => nomatch z
theorem depth_ints : ∀ ns : List Int, PyData.depthAll (ns.map PyData.int) ≤ 1
  | [] => by simp [PyData.depthAll]
  | n :: ns => by
    have := depth_ints ns
    simp [PyData.depthAll, PyData.depth]; omega
section
variable {X : Cx}
theorem cr_sumT (hc : X.calm = true) : CallR X (.builtin "sum") (fun vs H Q => ∃ (a : Addr) (ns : List Int), vs = [V.ref a] ∧ SqT X.K H a (ns.map V.int) ∧ Q (.int ns.sum) H) := by
  intro pins s σ H vs us Q I r h
  obtain ⟨a, ns, rfl, hs, q⟩ := h
  obtain ⟨its, rv, hl, _⟩ := I.tuple hs
  rw [Vals.ref1 r]
  obtain ⟨xs, e⟩ := rv.ints.allInts.items
  have hn : numsOf (intItems xs).toList = ns := by rw [← e]; exact rv.ints.numsOf
  rw [nums_intItems] at hn
  have hl' : s.heap.IsTuple a its.toArray := hl
  rw [e] at hl'
  refine PySem.W.ktm_sumG (I.ok.hd hc) hl' fun h' tk t' hk => ?_
  rw [preSum_eq, List.take_of_length_le (by simp), hn]
  exact ⟨.int _, H, I.kept hk, ⟨_, rfl⟩, q⟩
theorem cr_minT (hc : X.calm = true) (hu : X.A.units + 64 < cLine) : CallR X (.builtin "min") (fun vs H Q => ∃ (a : Addr) (ns : List Int), vs = [V.ref a] ∧ SqT X.K H a (ns.map V.int) ∧ 0 < ns.length ∧ ∀ m, m ∈ ns → (∀ y, y ∈ ns → m ≤ y) → Q (.int m) H) := by
  intro pins s σ H vs us Q I r h
  obtain ⟨a, ns, rfl, hs, h0, q⟩ := h
  obtain ⟨its, rv, hl, _⟩ := I.tuple hs
  rw [Vals.ref1 r]
  have hl' : s.heap.IsTuple a its.toArray := hl
  obtain ⟨n, ms, rfl⟩ : ∃ n ms, ns = n :: ms := by
    cases ns with
    | nil => simp at h0
    | cons n ms => exact ⟨n, ms, rfl⟩
  have hr := rv.ints.reads s.heap
  rw [List.map_cons] at hr
  refine PySem.W.min_tuple_data (I.ok.hd hc) hl' hr (alike_ints (n :: ms)) (by have := depth_ints (n :: ms); rw [List.map_cons] at this; omega) fun i v h' tk bs hi r hk => ?_
  rw [PySem.W.minD_ints] at r
  obtain ⟨g1, g2⟩ := foldl_min ms n
  cases r
  exact ⟨.int _, H, I.kept hk, ⟨_, rfl⟩, q _ g1 g2⟩
theorem cr_maxT (hc : X.calm = true) (hu : X.A.units + 64 < cLine) : CallR X (.builtin "max") (fun vs H Q => ∃ (a : Addr) (ns : List Int), vs = [V.ref a] ∧ SqT X.K H a (ns.map V.int) ∧ 0 < ns.length ∧ ∀ m, m ∈ ns → (∀ y, y ∈ ns → y ≤ m) → Q (.int m) H) := by
  intro pins s σ H vs us Q I r h
  obtain ⟨a, ns, rfl, hs, h0, q⟩ := h
  obtain ⟨its, rv, hl, _⟩ := I.tuple hs
  rw [Vals.ref1 r]
  have hl' : s.heap.IsTuple a its.toArray := hl
  obtain ⟨n, ms, rfl⟩ : ∃ n ms, ns = n :: ms := by
    cases ns with
    | nil => simp at h0
    | cons n ms => exact ⟨n, ms, rfl⟩
  have hr := rv.ints.reads s.heap
  rw [List.map_cons] at hr
  refine PySem.W.max_tuple_data (I.ok.hd hc) hl' hr (alike_ints (n :: ms)) (by have := depth_ints (n :: ms); rw [List.map_cons] at this; omega) fun i v h' tk bs hi r hk => ?_
  rw [PySem.W.maxD_ints] at r
  obtain ⟨g1, g2⟩ := foldl_max ms n
  cases r
  exact ⟨.int _, H, I.kept hk, ⟨_, rfl⟩, q _ g1 g2⟩
end
end Mi
end

section
-- MiniM
set_option Elab.async false
set_option linter.all false
set_option maxRecDepth 100000
set_option maxHeartbeats 4000000
/-! Mini, part M: enumerate of a tuple -/
namespace Mi
open PySem PySem.Spec PyProof.Rows L2
open Sem (wp)
theorem meets_enum1 {v : Value} {o : Obj} {H : Heap → Prop} (B : Begins v o H) :
    Meets (Builtin.«enumerate.__new__» ⟨[.type "enumerate", v], []⟩) (fun _ R s => H s.heap ∧
      R (.ok (.ret (.ref (s.heap.push o).objs.size))) { s with heap := (s.heap.push o).push { cls := .type "enumerate", data := .fields #[.none, .bool false, .ref s.heap.objs.size, rawInt 0, .none, .none] } }) :=
  .of_wp fun prog w A R s h => by
    obtain ⟨hp, g, d, tk, os⟩ := s; obtain ⟨h1, h⟩ := h
    have hsub := sub_enumerate
    have q1 : ∀ {A' : Around} {E : Value → Shared → Prop} {Q : Value → Shared → Prop}, Q (.ref hp.objs.size) ⟨hp.push o, g, d, tk, os⟩ → wpAny (model prog w) A' (pyIter v) Q E ⟨hp, g, d, tk, os⟩ :=
      fun q => B.iter prog w _ _ ⟨hp, g, d, tk, os⟩ _ h1 q
    wp_walk using q1
    refine wpAny_stack_any fun st => wpAny_pure ?_
    split
    · rename_i c _ _ _ _ _
      cases (c == Value.type "enumerate")
      · wp_walk using q1
        exact ⟨_, rfl, h⟩
      · wp_walk using q1
        exact ⟨_, rfl, h⟩
    · wp_walk using q1
      exact ⟨_, rfl, h⟩
theorem enum_starts {prog : Program} {w : World} {A : Around} {E : Value → Shared → Prop} {s : Shared} {v : Value} {o : Obj} {H : Heap → Prop} {Q : Value → Shared → Prop} (B : Begins v o H) (h1 : H s.heap)
    (h : ∀ h', IsEnum h' (s.heap.objs.size + 1) s.heap.objs.size 0 .none → h'.get? s.heap.objs.size = some o → h'.objs.size = s.heap.objs.size + 2 →
      (∀ b o, s.heap.get? b = some o → h'.get? b = some o) → Q (.ref (s.heap.objs.size + 1)) { s with heap := h' }) :
    wpAny (model prog w) A (call (.type "enumerate") [v]) Q E s := by
  refine callType_new F.called_enumerate (by decide) (F.typeCall_enumerate_1 _) (F.newCall_enumerate_1 _) (fun obj => F.args_object_init_2 obj _) F.entry_enumerate_new (meets_enum1 B) ⟨h1, ?_⟩
  have hz : (s.heap.push o).objs.size = s.heap.objs.size + 1 := Heap.size_push ..
  show _ ∧ _
  rw [hz]
  have he : IsEnum ((s.heap.push o).push { cls := .type "enumerate", data := .fields #[.none, .bool false, .ref s.heap.objs.size, rawInt 0, .none, .none] }) (s.heap.objs.size + 1) s.heap.objs.size 0 .none := by
    have := Heap.get?_push_size (s.heap.push o) (o := { cls := .type "enumerate", data := .fields #[.none, .bool false, .ref s.heap.objs.size, rawInt 0, .none, .none] }) rfl
    rw [hz] at this; exact this
  exact ⟨⟨_, he, rfl⟩, h _ he (Heap.get?_push_of_some _ (Heap.get?_push_size _ B.free)) (by rw [Heap.size_push, hz]) fun b o x => Heap.get?_push_of_some _ (Heap.get?_push_of_some _ x)⟩
/-- the tuple at a, each item in a new pair -/
def IteT (K : PySem.W.Frag) (a : Addr) : It :=
  ⟨fun i H => ∃ (xs : List V) (x : V), SqT K H a xs ∧ xs[i]? = some x, fun i H v H' => ∃ T x, v = .ref T ∧ H T = none ∧ H' = upd H T (.tup [.int (i : Nat), x]) ∧ ∀ xs, SqT K H a xs → xs[i]? = some x, fun i H => ∃ xs : List V, SqT K H a xs ∧ xs.length ≤ i⟩
theorem turn_enumT {P : Program} {w : World} {K : PySem.W.Frag} {elts : List Expr} {kk : Nat} {tpos : Pos} (a e it : Addr) :
    Turn P w K (.Tuple elts kk tpos) (IteT K a) [e, it] e (fun i h => (∃ old, IsEnum h e it ((i : Nat) : Int) old) ∧ h.IsTupleIter it a i ∧ e ≠ it) where
  mem := by simp
  obj := fun i h st b hb => by
    obtain ⟨⟨old, he⟩, ⟨o, ho, hc, hd⟩, _⟩ := st
    have e' : b = e ∨ b = it := by simpa using hb
    rcases e' with z | z
    · rw [z]; exact ⟨_, he, fun v q => nomatch q⟩
    · rw [z]; exact ⟨o, ho, fun v q => by rw [hd] at q; cases q⟩
  keep := fun i h h' st k => let ⟨⟨old, he⟩, hi, hne⟩ := st; ⟨⟨old, k e (by simp) _ he⟩, hi.at fun o q => k it (by simp) o q, hne⟩
  item := by
    intro X hP hw hK hc i pins s σ H E I hf st hg
    subst hP hw hK
    obtain ⟨⟨old, he⟩, hit, hne⟩ := st
    obtain ⟨xs, x, hq, hx⟩ := hg
    obtain ⟨its, rv, p, hz⟩ := I.tuple hq
    obtain ⟨u, hu, ru⟩ := rv.get hx
    have hel : e < s.heap.objs.size := Heap.lt_size he
    have hil : it < s.heap.objs.size := by obtain ⟨_, q, _⟩ := hit; exact Heap.lt_size q
    have pT : s.heap.IsTuple a its.toArray := p
    have nai : a ≠ it := fun z => by
      obtain ⟨o1, q1, c1, _⟩ := hit
      obtain ⟨o2, q2, c2, _⟩ := pT
      rw [z, q1] at q2
      cases q2
      rw [c1] at c2
      injection c2 with c2
      exact absurd c2 (by decide)
    have nae : e ≠ a := fun z => by
      obtain ⟨o2, q2, c2, _⟩ := pT
      rw [← z] at q2
      have he' : s.heap.get? e = _ := he
      rw [he'] at q2
      cases q2
      injection c2 with c2
      exact absurd c2 (by decide)
    have D := Draws.tuple (prog := X.prog) (w := X.w) (A := X.A.in1) (I.ok.hd hc) it a nai its.toArray
    have hlt : i < its.toArray.size := by
      have := (List.getElem?_eq_some_iff.mp hu).1
      simpa using this
    refine wpAny_pyNext_enum_itemD D he ⟨hit, pT⟩ hlt hne (by simp [hne, nae]) fun u' h' tk hu' ho hit' hT hsz hk => ?_
    have eu : u' = u := by
      have : its.toArray[i]? = some u := by simpa using hu
      rw [this] at hu'
      exact (Option.some.inj hu').symm
    subst eu
    refine ⟨_, rfl, wpAny_letOwnedTupleGo_enum (s := { s with heap := h', toks := tk + 1 }) ho fun h'' he' sb => ?_⟩
    have hT2 : h''.get? s.heap.objs.size = some { cls := .type "tuple", data := .seq #[.int i tk, u'] } := (sb.2 _ (Nat.ne_of_gt hel)).trans hT
    have new : ObjOk X.prog X.w (upd H s.heap.objs.size (.tup [.int (i : Nat), x])) h'' s.heap.objs.size (.tup [.int (i : Nat), x]) :=
      ⟨by show 2 ≤ sizeLine; decide, [.int i tk, u'], .cons ⟨_, rfl⟩ (.cons ru .nil), ⟨_, hT2, rfl, _, rfl⟩⟩
    have I1 : Inv X pins σ (upd H s.heap.objs.size (.tup [.int (i : Nat), x])) { s with heap := h'', toks := tk + 1 } :=
      I.turnedNew (ch := [e, it]) (fun b ob hb q => (sb.2 b (fun z => hb (by simp [z]))).trans (hk b ob (fun z => hb (by simp [z])) (fun z => hb (by simp [z])) q)) hf (Nat.le_refl _) new
    refine ⟨.ref s.heap.objs.size, _, I1, rfl, ⟨_, x, rfl, I.hok.fresh (Nat.le_refl _), rfl, fun ys hy => by rw [I.tuple_inj hy hq]; exact hx⟩, ⟨⟨u', ?_⟩, hit'.1.at fun o q => (sb.2 it (Ne.symm hne)).trans q, hne⟩, fun b hb => ?_⟩
    · have e1 : ((i + 1 : Nat) : Int) = (i : Int) + 1 := by omega
      rw [e1]; exact he'
    · have hb' : b < s.heap.objs.size := by
        have e' : b = e ∨ b = it := by simpa using hb
        rcases e' with z | z
        · rw [z]; exact hel
        · rw [z]; exact hil
      rw [upd_ne (Nat.ne_of_lt hb')]
      exact (hf b hb).1
  done := by
    intro X hP hw hK hc i pins s σ H E I hf st hg
    subst hP hw hK
    obtain ⟨⟨old, he⟩, hit, hne⟩ := st
    obtain ⟨xs, hq, hx⟩ := hg
    obtain ⟨its, rv, p, hz⟩ := I.tuple hq
    obtain ⟨f0, f1, f2, f3, f4, f5⟩ := hf it (by simp)
    have hl := rv.length
    have pT : s.heap.IsTuple a its.toArray := p
    have hT : s.TypeIs (.ref e) "enumerate" := ⟨_, he, rfl⟩
    unfold pyNext
    refine wpAny_bind (wpAny_attempt (wpAny_callSpecial?_slot (name := Str.ofString "__next__") hT F.slot_enumerate_next
      (wpAny_call_entry F.slot_enumerate_next hT F.entry_enumerate_next ?_ (F.args_enumerate_next_1 _))))
    show wpAny _ _ (field (.ref e) 2 >>= _) _ _ _
    refine wpAny_bind (wpAny_field he rfl (x := .ref it) rfl ?_)
    refine wpAny_bind (wpAny_nextOf_tuple_end (I.ok.hd hc) hit pT (by simp; omega) fun h' x he' hx' => ?_)
    obtain ⟨o, ho, hc⟩ := hx'
    refine wpAny_bind (wpAny_isInstance (T := "StopIteration") (b := true) ⟨o, ho, hc⟩ isSubtype_stop ?_)
    exact wpAny_pure ⟨rfl, I.turned (t' := s.toks) (fun b o hb q => he' b o hb q) f0 f1 f3 f4 f5⟩
  self := fun A i s Q E st h => let ⟨⟨_, he⟩, _⟩ := st; wpAny_pyIter_enum he h
def iEnumT (K : PySem.W.Frag) (ta : TA) : TI := fun σ H R => ta σ H fun vs H1 => ∃ a, vs = [.ref a] ∧ ((∃ xs, SqL K H1 a xs) ∧ R (Ite K a) H1 ∨ (∃ xs, SqT K H1 a xs) ∧ R (IteT K a) H1)
theorem pi_enumT {X : Cx} {e : Expr} {ta : TA} {p pos tpos : Pos} {elts : List Expr} {kk : Nat} (hg : Gl X "enumerate") (hm : X.mg "enumerate" = none) (ha : PA X [e] ta) (hs : starEach [e] X.env = [(false, eval e X.env)] := by rfl) :
    PI X (.Tuple elts kk tpos) (.Call (.Name "enumerate" p) [e] [] pos) (iEnumT X.K ta) := by
  refine ⟨fun pins s σ H R I h => ?_⟩
  refine Call_ (ld_blt I hg hm boot_enumerate (PyProof.Rows.callWith_type1 (thn (ha.run pos pins s σ H _ I h) fun us s1 ⟨vs, H1, I1, r1, q1⟩ => ?_) hs rfl))
  obtain ⟨a, ex, q⟩ := q1
  subst ex
  cases r1 with
  | cons r rr =>
    cases rr
    cases r
    have fpE : ∀ b, b ∈ [s1.heap.objs.size + 1, s1.heap.objs.size] → s1.heap.objs.size ≤ b := fun b hb => by
      have e' : b = s1.heap.objs.size + 1 ∨ b = s1.heap.objs.size := by simpa using hb
      rcases e' with z | z <;> rw [z]
      · exact Nat.le_succ _
      · exact Nat.le_refl _
    rcases q with ⟨⟨xs, hq⟩, q⟩ | ⟨⟨xs, hq⟩, q⟩
    · obtain ⟨its, rv, p', hz⟩ := I1.list hq
      refine call_enumerate_list p'.isList fun h' he hit hsz hk => wpAny_pyIter_enum he ?_
      have I2 : Inv X pins σ H1 { s1 with heap := h' } := I1.kept (t' := s1.toks) hk
      exact ⟨s1.heap.objs.size + 1, [s1.heap.objs.size + 1, s1.heap.objs.size], _, _, H1, rfl, I2, turn_enum a (s1.heap.objs.size + 1) s1.heap.objs.size, ⟨⟨.none, he⟩, hit, Nat.succ_ne_self _⟩, fun b hb => I1.fpOk (fpE b hb) (I1.hok.fresh (fpE b hb)), q⟩
    · obtain ⟨its, rv, p', hz⟩ := I1.tuple hq
      refine enum_starts (begins_tuple a its.toArray) (show s1.heap.IsTuple a its.toArray from p') fun h' he hit hsz hk => wpAny_pyIter_enum he ?_
      have I2 : Inv X pins σ H1 { s1 with heap := h' } := I1.kept (t' := s1.toks) hk
      exact ⟨s1.heap.objs.size + 1, [s1.heap.objs.size + 1, s1.heap.objs.size], _, _, H1, rfl, I2, turn_enumT a (s1.heap.objs.size + 1) s1.heap.objs.size, ⟨⟨.none, he⟩, ⟨_, hit, rfl, rfl⟩, Nat.succ_ne_self _⟩, fun b hb => I1.fpOk (fpE b hb) (I1.hok.fresh (fpE b hb)), q⟩
end Mi
end

section
-- Mini3
set_option Elab.async false
set_option linter.all false
set_option maxRecDepth 100000
set_option maxHeartbeats 4000000
/-! Mini, part 3: the meaning is kept: operators, comparisons, built-ins by values -/
namespace Mi
open PySem PySem.Spec PyProof.Rows L2

/-- an operand, thawed: frozen, or a list that lies at some place just now -/
inductive RepH (P : En) (G : Wd) (H : Hp) : PV → V → Prop
  | fz {v : PV} {x : V} : Rep P G v x → RepH P G H v x
  | ls {vs : List PV} {a : Addr} {xs : List V} : H a = some (.lst xs) → Reps P G vs xs → RepH P G H (.lst vs) (.ref a)
inductive RepHs (P : En) (G : Wd) (H : Hp) : List PV → List V → Prop
  | nil : RepHs P G H [] []
  | cons {v : PV} {x : V} {vs : List PV} {xs : List V} : RepH P G H v x → RepHs P G H vs xs → RepHs P G H (v :: vs) (x :: xs)

/-- the wish behind an operation on values: k, the pure wish, is enough for Q -/
def Then (P : En) (μ : Mu) (H : Hp) (G : Wd) (k : PV → Prop) (Q : VK) : Prop :=
  ∀ G' H' v x, Ext H G H' G' → Wf P G' μ H' → RepR P H G' H' v x → k v → Q x H'

section
variable {P : En} {G : Wd} {H : Hp} {μ : Mu} {k : PV → Prop} {Q : VK}
theorem RepH.lst {vs : List PV} {x : V} (w : Wf P G μ H) (r : RepH P G H (.lst vs) x) : ∃ a xs, x = .ref a ∧ H a = some (.lst xs) ∧ Reps P G vs xs := by
  cases r with
  | fz r =>
    cases r with
    | lst h r => exact ⟨_, _, rfl, w.sub _ _ h, r⟩
  | ls h r => exact ⟨_, _, rfl, h, r⟩
theorem RepH.tup {vs : List PV} {x : V} (w : Wf P G μ H) (r : RepH P G H (.tup vs) x) : ∃ a xs, x = .ref a ∧ SqT P.K H a xs ∧ Reps P G vs xs := by
  cases r with
  | fz r =>
    cases r with
    | tup h r => exact ⟨_, _, rfl, sqT_le w.sub h, r⟩
theorem RepH.scr {ns : List Int} {x : V} (w : Wf P G μ H) (r : RepH P G H (.scr ns) x) : ∃ a, x = .ref a ∧ SqL P.K H a (ns.map V.int) := by
  cases r with
  | fz r =>
    cases r with
    | scr h => exact ⟨_, rfl, sqL_le w.sub h⟩
theorem RepH.seq {v : PV} {vs : List PV} {x : V} (w : Wf P G μ H) (e : itemsOf v = some vs) (r : RepH P G H v x) : ∃ a xs, x = .ref a ∧ (SqL P.K H a xs ∨ SqT P.K H a xs) ∧ Reps P G vs xs := by
  cases v with
  | tup us =>
    cases e
    obtain ⟨a, xs, e, h, r⟩ := r.tup w
    exact ⟨a, xs, e, .inr h, r⟩
  | lst us =>
    cases e
    obtain ⟨a, xs, e, h, r⟩ := r.lst w
    exact ⟨a, xs, e, .inl (.inl (.inl h)), r⟩
  | _ => cases e
theorem RepH.int {i : Int} {x : V} (r : RepH P G H (.int i) x) : x = .int i := by
  cases r with
  | fz r => cases r; rfl
theorem RepH.bl {i : Bool} {x : V} (r : RepH P G H (.bl i) x) : x = .bl i := by
  cases r with
  | fz r => cases r; rfl
theorem RepH.str {i : Str} {x : V} (r : RepH P G H (.str i) x) : x = .str i := by
  cases r with
  | fz r => cases r; rfl
theorem RepH.pd {v : PV} {x : V} {d : PyData} (w : Wf P G μ H) (r : RepH P G H v x) (h : toPD v = some d) : Dp P.K H x d := by
  cases r with
  | fz r => exact r.pd w.sub h
  | ls h1 r =>
    simp only [toPD, Option.map_eq_some_iff] at h
    obtain ⟨ds, h2, rfl⟩ := h
    exact .lst (.inl (.inl h1)) (r.pd w.sub h2)

/-! ### what is made -/
theorem Then.same {v : PV} {x : V} (t : Then P μ H G k Q) (w : Wf P G μ H) (r : Rep P G v x) (h : k v) : Q x H := t G H v x (.refl H G) w (.of r) h
theorem Then.tup {vs : List PV} {xs : List V} {p : Addr} (t : Then P μ H G k Q) (w : Wf P G μ H) (r : Reps P G vs xs) (h : k (.tup vs)) (hp : H p = none) : Q (.ref p) (upd H p (.tup xs)) :=
  t (G.put p (.tup xs)) _ (.tup vs) (.ref p) (Ext.new w hp) (w.new hp) (.of (.tup (.inl (.inl upd_same)) (r.ext (Ext.new w hp)))) h
theorem Then.lst {vs : List PV} {xs : List V} {p : Addr} (t : Then P μ H G k Q) (w : Wf P G μ H) (r : Reps P G vs xs) (h : k (.nls vs)) (hp : H p = none) : Q (.ref p) (upd H p (.lst xs)) :=
  t G _ (.nls vs) (.ref p) (Ext.newL w hp) (w.newL hp) ⟨p, xs, rfl, upd_same, r.ext (Ext.newL (o := .lst xs) w hp), w.noF hp, w.nomem hp, hp⟩ h
/-- a tuple as it is -/
theorem Then.tupAt {vs : List PV} {a : Addr} (t : Then P μ H G k Q) (w : Wf P G μ H) (r : RepH P G H (.tup vs) (.ref a)) (h : k (.tup vs)) : Q (.ref a) H := by
  cases r with
  | fz r => exact t.same w r h
end

/-! ### binary operators -/
def Op.py : Op → Operator
  | .add => .Add | .sub => .Sub | .mul => .Mult | .fdiv => .FloorDiv | .mod => .Mod | .pow => .Pow
def rBin (P : En) (o : Op) : R2 := fun x y H Q => ∃ G μ va vb k, Wf P G μ H ∧ RepH P G H va x ∧ RepH P G H vb y ∧ binK o va vb k ∧ Then P μ H G k Q
section
variable {X : Cx}
theorem mod_any : OpR X (binaryOp .Mod) (rI (fun _ j => j ≠ 0) fun i j => .int (i.fmod j)) := op_modN
theorem fdiv_any : OpR X (binaryOp .FloorDiv) (rI (fun i j => j ≠ 0 ∧ Builtin.divisionGoesByPylong i j = false) fun i j => .int (i.fdiv j)) := opI fun _ _ _ _ _ _ _ c q => floordiv_int c.1 q (.inl c.2)
theorem mul_any : OpR X (binaryOp .Mult) (rI IntMulOk fun i j => .int (i * j)) := opI fun _ _ _ _ _ _ _ c q => mul_int q c
/-- a tuple taken once is the tuple itself -/
theorem tuple_mul_one (l : Addr) (its : Array Value) (n : Nat) (dd : Option Addr) (sl : Array (Option Value)) (u : Tok) :
    Meets (Builtin.«tuple.__mul__» ⟨[.ref l, .int 1 u], []⟩) (fun _ R s => s.heap.get? l = some { cls := .type "tuple", dict := dd, data := .seq its n, slots := sl } ∧ R (.ok (.ret (Value.ref l))) s) :=
  .of_wp fun prog w A R s h => by
    obtain ⟨hp, g, d, tk, os⟩ := s
    obtain ⟨hl, h⟩ := h
    have f1 := AutoSeq1.idx_int
    wp_walk using wpAny_loadPart' hl
    exact ⟨_, rfl, h⟩

/-- t * 1 -/
theorem rep_one {pins : List (Addr × Obj)} {s : Shared} {σ : L2.St} {H : Hp} {a : Addr} {xs : List V} {tk : Tok} {Q : VK} (I : Inv X pins σ H s) (h : SqT X.K H a xs) (q : Q (.ref a) H) :
    wpAny (model X.prog X.w) X.A (binaryOp .Mult (.ref a) (.int 1 tk)) (EP X pins σ Q) X.xe s := by
  obtain ⟨its, r, ⟨⟨c, dd, dt, sl⟩, ho, hc, n, hd⟩, hz⟩ := I.tuple h
  obtain rfl : c = .type "tuple" := hc
  obtain rfl : dt = .seq its.toArray n := hd
  have one := int_rmul_tuple 1 tk a its.toArray n dd sl
  exact wpAny_binaryOp_repeat_ref (T := "tuple") (U := "int") (by decide) ⟨_, ho, rfl⟩ (fun s' => typeIs_int s' 1 tk) noFill_tuple_mul F.fills_int_mul F.slot_int_rmul repeat_tuple F.slot_int_index.lookup
    (call_meets F.slot_int_rmul (typeIs_int s 1 tk) F.entry_int_rmul (F.args_int_rmul_2 _ _) one ⟨ho, rfl, ⟨_, ho, rfl⟩, call_meets F.slot_tuple_mul ⟨_, ho, rfl⟩ F.entry_tuple_mul (F.args_tuple_mul_2 _ _) (tuple_mul_one a its.toArray n dd sl tk) ⟨ho, ⟨.ref a, H, I, rfl, q⟩⟩⟩)
theorem op_bin {P : En} (hP : P.K = X.K) (o : Op) : OpR X (binaryOp o.py) (fun x y H Q => ∃ G μ va vb k, Wf P G μ H ∧ RepH P G H va x ∧ RepH P G H vb y ∧ binK o va vb k ∧ Then P μ H G k Q) := by
  intro pins s σ H x y v u Q I rx ry ⟨G, μ, va, vb, k, w, ra, rb, hk, t⟩
  unfold binK at hk
  split at hk
  · rename_i i j
    obtain rfl := ra.int
    obtain rfl := rb.int
    exact op_add pins s σ H _ _ v u Q I rx ry ⟨i, j, rfl, rfl, t.same w (.int _) hk⟩
  · rename_i i j
    obtain rfl := ra.str
    obtain rfl := rb.str
    exact op_add_str pins s σ H _ _ v u Q I rx ry ⟨i, j, rfl, rfl, hk.1, t.same w (.str _) hk.2⟩
  · rename_i vs us
    obtain ⟨a, xs, rfl, h1, r1⟩ := ra.tup w
    obtain ⟨b, ys, rfl, h2, r2⟩ := rb.tup w
    rw [hP] at h1 h2
    have e1 := r1.length
    have e2 := r2.length
    refine op_catA pins s σ H _ _ v u Q I rx ry ⟨a, b, xs, ys, rfl, rfl, h1, h2, by omega, fun z => ?_, fun _ z => ?_, fun _ _ p hp => t.tup w (r1.append r2) hk.2 hp⟩
    · have z1 : vs = [] := List.eq_nil_of_length_eq_zero (by rw [e1, z]; rfl)
      subst z1
      rw [List.nil_append] at hk
      exact t.tupAt w rb hk.2
    · have z1 : us = [] := List.eq_nil_of_length_eq_zero (by rw [e2, z]; rfl)
      subst z1
      rw [List.append_nil] at hk
      exact t.tupAt w ra hk.2
  · rename_i vs us
    obtain ⟨a, xs, rfl, h1, r1⟩ := ra.lst w
    obtain ⟨b, ys, rfl, h2, r2⟩ := rb.lst w
    have e1 := r1.length
    have e2 := r2.length
    exact op_cat pins s σ H _ _ v u Q I rx ry ⟨a, b, xs, ys, rfl, rfl, h1, h2, by omega, fun p hp => t.lst w (r1.append r2) hk.2 hp⟩
  · rename_i i j
    obtain rfl := ra.int
    obtain rfl := rb.int
    exact op_sub pins s σ H _ _ v u Q I rx ry ⟨i, j, rfl, rfl, t.same w (.int _) hk⟩
  · rename_i i j
    obtain rfl := ra.int
    obtain rfl := rb.int
    exact mul_any pins s σ H _ _ v u Q I rx ry ⟨i, j, rfl, rfl, hk.1, t.same w (.int _) hk.2⟩
  · rename_i vs n
    obtain ⟨a, xs, rfl, h1, r1⟩ := ra.tup w
    obtain rfl := rb.int
    rw [hP] at h1
    obtain ⟨⟨h0, h3, h4, h5⟩, hk⟩ := hk
    have e1 := r1.length
    by_cases one : n = 1
    · subst one
      obtain rfl : v = .ref a := rx
      obtain ⟨tk, rfl⟩ := ry
      have e : (List.replicate (1 : Int).toNat vs).flatten = vs := by simp
      rw [e] at hk
      exact rep_one I h1 (t.tupAt w ra hk)
    · refine op_repT pins s σ H _ _ v u Q I rx ry ⟨a, n, xs, rfl, rfl, h1, fun z => h0 (List.eq_nil_of_length_eq_zero (by rw [e1, z]; rfl)), by omega, h4, by omega, fun p hp => t.tup w (r1.rep _) hk hp⟩
  · rename_i vs n
    obtain ⟨a, xs, rfl, h1, r1⟩ := ra.lst w
    obtain rfl := rb.int
    have e1 := r1.length
    exact op_rep pins s σ H _ _ v u Q I rx ry ⟨a, n, xs, rfl, rfl, h1, hk.1, hk.2.1, by rw [← e1]; exact hk.2.2.1, fun p hp => t.lst w (r1.rep _) hk.2.2.2 hp⟩
  · rename_i i j
    obtain rfl := ra.int
    obtain rfl := rb.int
    exact fdiv_any pins s σ H _ _ v u Q I rx ry ⟨i, j, rfl, rfl, ⟨hk.1, hk.2.1⟩, t.same w (.int _) hk.2.2⟩
  · rename_i i j
    obtain rfl := ra.int
    obtain rfl := rb.int
    exact mod_any pins s σ H _ _ v u Q I rx ry ⟨i, j, rfl, rfl, hk.1, t.same w (.int _) hk.2⟩
  · rename_i i j
    obtain rfl := ra.int
    obtain rfl := rb.int
    exact op_pow pins s σ H _ _ v u Q I rx ry ⟨i, j, rfl, rfl, hk.1, t.same w (.int _) hk.2⟩
  · exact hk.elim

/-! ### comparisons -/
def Cp.py : Cp → CmpOp
  | .eq => .Eq | .ne => .NotEq | .lt => .Lt | .le => .LtE | .gt => .Gt | .ge => .GtE | .inn => .In | .nin => .NotIn
def toV : PV → V
  | .bl b => .bl b
  | .int i => .int i
  | .str x => .str x
  | _ => .non
theorem rep_flat {P : En} {G : Wd} {v : PV} {x : V} (r : RepH P G H v x) (h : flatP v = true) : x = toV v := by
  cases v with
  | non => (cases r with | fz r => cases r; rfl)
  | bl b => exact r.bl
  | int i => exact r.int
  | str z => exact r.str
  | _ => simp [flatP] at h
theorem reps_flat {P : En} {G : Wd} : ∀ {vs : List PV} {xs : List V}, Reps P G vs xs → vs.all flatP = true → xs = vs.map toV
  | _, _, .nil, _ => rfl
  | _, _, .cons r rs, h => by
    simp only [List.all_cons, Bool.and_eq_true] at h
    rw [reps_flat rs h.2, List.map_cons]
    congr 1
    revert r
    rename_i v x _ _
    intro r
    cases v <;> first | (cases r; rfl) | (simp [flatP] at h)
theorem flat_toV (v : PV) : flatV (toV v) = true := by cases v <;> rfl
theorem eq_toV {a b : PV} (ha : flatP a = true) (hb : flatP b = true) : eqV (toV a) (toV b) = eqP a b := by
  cases a <;> cases b <;> first | rfl | (simp [flatP] at ha; done) | (simp [flatP] at hb; done)
theorem in_flat {P : En} {G : Wd} {v : PV} {x : V} {vs : List PV} {xs : List V} (r : RepH P G H v x) (rs : Reps P G vs xs) (h : flatP v = true) (hs : vs.all flatP = true) : flatV x = true ∧ xs.all flatV = true ∧ inV x xs = vs.any fun y => eqP y v := by
  rw [rep_flat r h, reps_flat rs hs]
  refine ⟨flat_toV v, ?_, ?_⟩
  · rw [List.all_map, List.all_eq_true]
    intro y _
    exact flat_toV y
  · unfold inV
    rw [List.any_map]
    have h2 := List.all_eq_true.mp hs
    have key : ∀ l : List PV, (∀ y ∈ l, flatP y = true) → (l.any ((fun y => eqV y (toV v)) ∘ toV)) = l.any fun y => eqP y v := by
      intro l
      induction l with
      | nil => intro _; rfl
      | cons y l ih =>
        intro hl
        rw [List.any_cons, List.any_cons, ih fun z hz => hl z (List.mem_cons_of_mem _ hz)]
        congr 1
        exact eq_toV (hl y (by simp)) h
    exact key vs h2
theorem sqL_own {K : PySem.W.Frag} {H : Hp} {a : Addr} {xs : List V} (h : H a = some (.lst xs)) : SqL K H a xs := .inl (.inl h)
theorem op_cmpM {P : En} (hP : P.K = X.K) (hu : X.A.units + 64 < cLine) (o : Cp) : OpR X (compareOp o.py) (fun x y H Q => ∃ G μ va vb k, Wf P G μ H ∧ RepH P G H va x ∧ RepH P G H vb y ∧ cmpK o va vb k ∧ ∀ b, k b → Q (.bl b) H) := by
  intro pins s σ H x y v u Q I rx ry ⟨G, μ, va, vb, k, w, ra, rb, hk, t⟩
  unfold cmpK at hk
  split at hk
  · unfold eqK at hk
    split at hk
    · rename_i d e h1 h2
      have q1 := ra.pd w h1
      have q2 := rb.pd w h2
      rw [hP] at q1 q2
      exact op_eqD hu pins s σ H _ _ v u Q I rx ry ⟨d, e, q1, q2, hk.1, hk.2.1, t _ hk.2.2⟩
    · exact hk.elim
  · unfold eqK at hk
    split at hk
    · rename_i d e h1 h2
      have q1 := ra.pd w h1
      have q2 := rb.pd w h2
      rw [hP] at q1 q2
      exact op_neD hu pins s σ H _ _ v u Q I rx ry ⟨d, e, q1, q2, hk.1, hk.2.1, t _ hk.2.2⟩
    · exact hk.elim
  · split at hk
    · obtain rfl := ra.int
      obtain rfl := rb.int
      exact op_lt pins s σ H _ _ v u Q I rx ry ⟨_, _, rfl, rfl, t _ hk⟩
    · exact hk.elim
  · split at hk
    · obtain rfl := ra.int
      obtain rfl := rb.int
      exact op_le pins s σ H _ _ v u Q I rx ry ⟨_, _, rfl, rfl, t _ hk⟩
    · exact hk.elim
  · split at hk
    · obtain rfl := ra.int
      obtain rfl := rb.int
      exact op_gt pins s σ H _ _ v u Q I rx ry ⟨_, _, rfl, rfl, t _ hk⟩
    · exact hk.elim
  · split at hk
    · obtain rfl := ra.int
      obtain rfl := rb.int
      exact op_ge pins s σ H _ _ v u Q I rx ry ⟨_, _, rfl, rfl, t _ hk⟩
    · exact hk.elim
  · split at hk
    · obtain rfl := ra.str
      obtain rfl := rb.str
      exact op_in_str pins s σ H _ _ v u Q I rx ry ⟨_, _, rfl, rfl, t _ hk⟩
    · obtain ⟨a, xs, rfl, h1, r1⟩ := rb.tup w
      rw [hP] at h1
      obtain ⟨f1, f2, f3⟩ := in_flat ra r1 hk.1.1 hk.1.2
      exact op_in_seq pins s σ H _ _ v u Q I rx ry ⟨a, xs, rfl, .inr h1, f1, f2, t _ (by rw [if_neg (by decide), f3]; exact hk.2)⟩
    · obtain ⟨a, xs, rfl, h1, r1⟩ := rb.lst w
      obtain ⟨f1, f2, f3⟩ := in_flat ra r1 hk.1.1 hk.1.2
      exact op_in_seq pins s σ H _ _ v u Q I rx ry ⟨a, xs, rfl, .inl (sqL_own h1), f1, f2, t _ (by rw [if_neg (by decide), f3]; exact hk.2)⟩
    · exact hk.elim
  · split at hk
    · obtain rfl := ra.str
      obtain rfl := rb.str
      exact op_notin_str pins s σ H _ _ v u Q I rx ry ⟨_, _, rfl, rfl, t _ hk⟩
    · obtain ⟨a, xs, rfl, h1, r1⟩ := rb.tup w
      rw [hP] at h1
      obtain ⟨f1, f2, f3⟩ := in_flat ra r1 hk.1.1 hk.1.2
      exact op_notIn_seq pins s σ H _ _ v u Q I rx ry ⟨a, xs, rfl, .inr h1, f1, f2, t _ (by rw [if_pos rfl, f3]; exact hk.2)⟩
    · obtain ⟨a, xs, rfl, h1, r1⟩ := rb.lst w
      obtain ⟨f1, f2, f3⟩ := in_flat ra r1 hk.1.1 hk.1.2
      exact op_notIn_seq pins s σ H _ _ v u Q I rx ry ⟨a, xs, rfl, .inl (sqL_own h1), f1, f2, t _ (by rw [if_pos rfl, f3]; exact hk.2)⟩
    · exact hk.elim

/-! ### built-ins -/
def Bi.nm : Bi → Str
  | .len => "len" | .abs => "abs" | .max2 => "max" | .min2 => "min" | .maxl => "max" | .minl => "min" | .sum => "sum" | .all => "all" | .any => "any" | .tuple => "tuple" | .list => "list" | .int => "int" | .str => "str" | .repr => "repr" | .sorted => "sorted"
def Bi.val : Bi → Value
  | .len => .builtin "len" | .abs => .builtin "abs" | .max2 => .builtin "max" | .min2 => .builtin "min" | .maxl => .builtin "max" | .minl => .builtin "min" | .sum => .builtin "sum" | .all => .builtin "all" | .any => .builtin "any"
  | .tuple => .type "tuple" | .list => .type "list" | .int => .type "int" | .str => .type "str" | .repr => .builtin "repr" | .sorted => .builtin "sorted"
theorem RepHs.one {P : En} {G : Wd} {H : Hp} {v : PV} {xs : List V} (r : RepHs P G H [v] xs) : ∃ x, xs = [x] ∧ RepH P G H v x := by
  cases r with
  | cons r t => cases t; exact ⟨_, rfl, r⟩
theorem RepHs.two {P : En} {G : Wd} {H : Hp} {v u : PV} {xs : List V} (r : RepHs P G H [v, u] xs) : ∃ x y, xs = [x, y] ∧ RepH P G H v x ∧ RepH P G H u y := by
  cases r with
  | cons r t =>
    obtain ⟨y, rfl, ry⟩ := t.one
    exact ⟨_, _, rfl, r, ry⟩
theorem op_bi {P : En} (hP : P.K = X.K) (hc : X.calm = true) (hu : X.A.units + 64 < cLine) (b : Bi) : CallR X b.val (fun xs H Q => ∃ G μ vs k, Wf P G μ H ∧ RepHs P G H vs xs ∧ biK b vs k ∧ Then P μ H G k Q) := by
  intro pins s σ H xs us Q I rv ⟨G, μ, vs, k, w, ra, hk, t⟩
  unfold biK at hk
  split at hk
  · obtain ⟨x, rfl, r⟩ := ra.one
    obtain rfl := r.str
    exact call_len_str pins s σ H _ us Q I rv ⟨_, rfl, hk.1, t.same w (.int _) hk.2⟩
  · obtain ⟨x, rfl, r⟩ := ra.one
    obtain ⟨a, xs, rfl, h1, r1⟩ := r.tup w
    rw [hP] at h1
    have e := r1.length
    rw [e] at hk
    exact call_len_seq pins s σ H _ us Q I rv ⟨a, xs, rfl, .inr h1, t.same w (.int _) hk⟩
  · obtain ⟨x, rfl, r⟩ := ra.one
    obtain ⟨a, xs, rfl, h1, r1⟩ := r.lst w
    have e := r1.length
    rw [e] at hk
    exact call_len_seq pins s σ H _ us Q I rv ⟨a, xs, rfl, .inl (.inl (.inl h1)), t.same w (.int _) hk⟩
  · obtain ⟨x, rfl, r⟩ := ra.one
    obtain ⟨a, rfl, h1⟩ := r.scr w
    rw [hP] at h1
    exact call_len_seq pins s σ H _ us Q I rv ⟨a, _, rfl, .inl h1, t.same w (.int _) (by rw [List.length_map]; exact hk)⟩
  · obtain ⟨x, rfl, r⟩ := ra.one
    obtain rfl := r.int
    exact call_abs pins s σ H _ us Q I rv ⟨_, rfl, t.same w (.int _) hk⟩
  · obtain ⟨x, y, rfl, r, r2⟩ := ra.two
    obtain rfl := r.int
    obtain rfl := r2.int
    exact call_max2 hc pins s σ H _ us Q I rv ⟨_, _, rfl, t.same w (.int _) hk⟩
  · obtain ⟨x, y, rfl, r, r2⟩ := ra.two
    obtain rfl := r.int
    obtain rfl := r2.int
    exact call_min2 hc pins s σ H _ us Q I rv ⟨_, _, rfl, t.same w (.int _) hk⟩
  · split at hk
    · rename_i ns hn
      obtain ⟨x, rfl, r⟩ := ra.one
      obtain ⟨a, xs, rfl, h1, r1⟩ := r.lst w
      obtain rfl := r1.ints hn
      exact cr_max hc pins s σ H _ us Q I rv ⟨a, ns, rfl, .inl (.inl h1), hk.1, fun m h1 h2 => t.same w (.int _) (hk.2 m ⟨h1, h2⟩)⟩
    · exact hk.elim
  · split at hk
    · rename_i ns hn
      obtain ⟨x, rfl, r⟩ := ra.one
      obtain ⟨a, xs, rfl, h1, r1⟩ := r.lst w
      obtain rfl := r1.ints hn
      exact cr_min hc pins s σ H _ us Q I rv ⟨a, ns, rfl, .inl (.inl h1), hk.1, fun m h1 h2 => t.same w (.int _) (hk.2 m ⟨h1, h2⟩)⟩
    · exact hk.elim
  · split at hk
    · rename_i ns hn
      obtain ⟨x, rfl, r⟩ := ra.one
      obtain ⟨a, xs, rfl, h1, r1⟩ := r.lst w
      obtain rfl := r1.ints hn
      exact cr_sum hc pins s σ H _ us Q I rv ⟨a, ns, rfl, .inl (.inl h1), t.same w (.int _) hk⟩
    · exact hk.elim
  · split at hk
    · rename_i ns hn
      obtain ⟨x, rfl, r⟩ := ra.one
      obtain ⟨a, xs, rfl, h1, r1⟩ := r.tup w
      obtain rfl := r1.ints hn
      rw [hP] at h1
      exact cr_maxT hc hu pins s σ H _ us Q I rv ⟨a, ns, rfl, h1, hk.1, fun m h1 h2 => t.same w (.int _) (hk.2 m ⟨h1, h2⟩)⟩
    · exact hk.elim
  · split at hk
    · rename_i ns hn
      obtain ⟨x, rfl, r⟩ := ra.one
      obtain ⟨a, xs, rfl, h1, r1⟩ := r.tup w
      obtain rfl := r1.ints hn
      rw [hP] at h1
      exact cr_minT hc hu pins s σ H _ us Q I rv ⟨a, ns, rfl, h1, hk.1, fun m h1 h2 => t.same w (.int _) (hk.2 m ⟨h1, h2⟩)⟩
    · exact hk.elim
  · split at hk
    · rename_i ns hn
      obtain ⟨x, rfl, r⟩ := ra.one
      obtain ⟨a, xs, rfl, h1, r1⟩ := r.tup w
      obtain rfl := r1.ints hn
      rw [hP] at h1
      exact cr_sumT hc pins s σ H _ us Q I rv ⟨a, ns, rfl, h1, t.same w (.int _) hk⟩
    · exact hk.elim
  · split at hk
    · rename_i ns hn
      obtain ⟨x, rfl, r⟩ := ra.one
      obtain ⟨a, xs, rfl, h1, r1⟩ := r.lst w
      obtain rfl := r1.bls hn
      exact cr_all hc pins s σ H _ us Q I rv ⟨a, ns, rfl, .inl (.inl h1), t.same w (.bl _) hk⟩
    · exact hk.elim
  · split at hk
    · rename_i ns hn
      obtain ⟨x, rfl, r⟩ := ra.one
      obtain ⟨a, xs, rfl, h1, r1⟩ := r.lst w
      obtain rfl := r1.bls hn
      exact cr_any hc pins s σ H _ us Q I rv ⟨a, ns, rfl, .inl (.inl h1), t.same w (.bl _) hk⟩
    · exact hk.elim
  · obtain ⟨x, rfl, r⟩ := ra.one
    obtain ⟨a, xs, rfl, h1, r1⟩ := r.lst w
    exact call_tuple_of pins s σ H _ us Q I rv ⟨a, xs, rfl, .inl ⟨.inl (.inl h1), fun p hp => t.tup w r1 hk hp⟩⟩
  · obtain ⟨x, rfl, r⟩ := ra.one
    obtain ⟨a, xs, rfl, h1, r1⟩ := r.tup w
    rw [hP] at h1
    exact call_tuple_of pins s σ H _ us Q I rv ⟨a, xs, rfl, .inr ⟨h1, t.tupAt w r hk⟩⟩
  · obtain ⟨x, rfl, r⟩ := ra.one
    obtain ⟨a, xs, rfl, h1, r1⟩ := r.lst w
    exact call_list_of pins s σ H _ us Q I rv ⟨a, xs, rfl, .inl (.inl (.inl h1)), fun p hp => t.lst w r1 hk hp⟩
  · obtain ⟨x, rfl, r⟩ := ra.one
    obtain ⟨a, xs, rfl, h1, r1⟩ := r.tup w
    rw [hP] at h1
    exact call_list_of pins s σ H _ us Q I rv ⟨a, xs, rfl, .inr h1, fun p hp => t.lst w r1 hk hp⟩
  · obtain ⟨x, rfl, r⟩ := ra.one
    obtain rfl := r.int
    exact call_int1 pins s σ H _ us Q I rv (.inl ⟨_, rfl, t.same w (.int _) hk⟩)
  · obtain ⟨x, rfl, r⟩ := ra.one
    obtain rfl := r.int
    exact call_str_int pins s σ H _ us Q I rv ⟨_, rfl, hk.1, t.same w (.str _) hk.2⟩
  · obtain ⟨x, rfl, r⟩ := ra.one
    obtain rfl := r.int
    exact SkE.call_repr_int pins s σ H _ us Q I rv ⟨_, rfl, hk.1, t.same w (.str _) hk.2⟩
  · exact hk.elim
/-! ### places -/
theorem atI_map {α : Type} (f : Int) (xs : List α) (i : Int) : atI xs i = (ixN xs.length i).bind fun j => xs[j]? := rfl
theorem Reps.atI {P : En} {G : Wd} {vs : List PV} {xs : List V} {i : Int} {v : PV} (r : Reps P G vs xs) (h : L2.atI vs i = some v) : ∃ x, L2.atI xs i = some x ∧ Rep P G v x := by
  unfold L2.atI at h ⊢
  rw [← r.length]
  cases e : ixN vs.length i with
  | none => rw [e] at h; cases h
  | some j =>
    rw [e] at h
    exact r.get h
theorem ix_any {P : En} (hP : P.K = X.K) : IxR X (fun x y H Q => ∃ G μ va i k, Wf P G μ H ∧ RepH P G H va x ∧ y = .int i ∧ Then P μ H G k Q ∧ (match va with
    | .str z => (match L2.atI z.cps.toList i with
      | some c => z.length ≤ sizeLine ∧ k (.str ⟨#[c]⟩)
      | none => False)
    | v => (match (itemsOf v).bind fun l => L2.atI l i with
      | some u => k u
      | none => False))) := by
  intro value slice pins s σ H x y v u Q I rx ry ⟨G, μ, va, i, k, w, ra, ey, t, hk⟩ hs
  split at hk
  · rename_i z
    split at hk
    · rename_i c hc
      obtain rfl := ra.str
      exact ix_str value slice pins s σ H _ _ v u Q I rx ry ⟨z, i, c, rfl, ey, hk.1, hc, t.same w (.str _) hk.2⟩ hs
    · exact hk.elim
  · split at hk
    · rename_i u' hu
      obtain ⟨l, h1, h2⟩ := Option.bind_eq_some_iff.mp hu
      obtain ⟨a, xs, rfl, h3, r1⟩ := ra.seq w h1
      obtain ⟨z, h4, r2⟩ := r1.atI h2
      rw [hP] at h3
      rcases h3 with h3 | h3
      · exact ix_list value slice pins s σ H _ _ v u Q I rx ry ⟨a, xs, i, z, rfl, ey, h3, h4, t.same w r2 hk⟩ hs
      · exact ix_tup value slice pins s σ H _ _ v u Q I rx ry ⟨a, xs, i, z, rfl, ey, h3, h4, t.same w r2 hk⟩ hs
    · exact hk.elim
theorem Reps.cut {P : En} {G : Wd} {vs : List PV} {xs : List V} (r : Reps P G vs xs) (lo hi : Option Int) : Reps P G ((vs.drop (HT.sIx vs.length 0 lo)).take (HT.sIx vs.length vs.length hi - HT.sIx vs.length 0 lo)) (cutV xs lo hi) := by
  unfold cutV
  rw [r.length]
  exact (r.drop _).take _
theorem sl_any {P : En} (hP : P.K = X.K) : SlR X (fun x l h H Q => ∃ G μ va k, Wf P G μ H ∧ RepH P G H va x ∧ Then P μ H G k Q ∧ (match va with
    | .tup xs => k (.tup ((xs.drop (HT.sIx xs.length 0 l)).take (HT.sIx xs.length xs.length h - HT.sIx xs.length 0 l)))
    | .lst xs => k (.nls ((xs.drop (HT.sIx xs.length 0 l)).take (HT.sIx xs.length xs.length h - HT.sIx xs.length 0 l)))
    | .str x => x.length ≤ sizeLine ∧ k (.str (cutS x l h))
    | _ => False)) := by
  intro pins s σ H x v vl vu lo hi sl Q I rx hs pl pu ⟨G, μ, va, k, w, ra, t, hk⟩
  split at hk
  · rename_i vs
    obtain ⟨a, xs, rfl, h1, r1⟩ := ra.tup w
    rw [hP] at h1
    have e := r1.length
    refine sl_tupA pins s σ H _ v vl vu lo hi sl Q I rx hs pl pu ⟨a, xs, rfl, h1, fun z => ?_, fun _ p hp => t.tup w (r1.cut lo hi) hk hp⟩
    have q : (vs.drop (HT.sIx vs.length 0 lo)).take (HT.sIx vs.length vs.length hi - HT.sIx vs.length 0 lo) = vs := by
      rw [e, z.1, z.2, List.drop_zero, Nat.sub_zero, ← e, List.take_length]
    rw [q] at hk
    exact t.tupAt w ra hk
  · rename_i vs
    obtain ⟨a, xs, rfl, h1, r1⟩ := ra.lst w
    exact sl_list pins s σ H _ v vl vu lo hi sl Q I rx hs pl pu ⟨a, xs, rfl, .inl (.inl h1), fun p hp => t.lst w (r1.cut lo hi) hk hp⟩
  · obtain rfl := ra.str
    exact sl_str pins s σ H _ v vl vu lo hi sl Q I rx hs pl pu ⟨_, rfl, hk.1, t.same w (.str _) hk.2⟩
  · exact hk.elim
end
end Mi
end

section
-- Mini4
set_option Elab.async false
set_option linter.all false
set_option maxRecDepth 100000
set_option maxHeartbeats 4000000
/-! Mini, part 4: the judgements, expressions -/
namespace Mi
open PySem PySem.Spec PyProof.Rows L2

/-- an exception that flies: its class, its own dict -/
inductive RepX (P : En) (G : Wd) : PV → Value → Option Addr → Prop
  | mk0 {c : Str} {C : Addr} : P.mg c = some (.ref C) → RepX P G (.exc c [] []) (.ref C) none
  | mk1 {c : Str} {C d : Addr} {fs : List Str} {vs : List PV} {xs : List V} : P.mg c = some (.ref C) → G.F d = some (.xd (fs.zip xs)) → fs.length = vs.length → Reps P G vs xs → RepX P G (.exc c fs vs) (.ref C) (some d)
def ThenM (P : En) (H : Hp) (G : Wd) (k : KE) (Q : VK) : Prop := ∀ G' μ' H' v x, Ext H G H' G' → Wf P G' μ' H' → RepR P H G' H' v x → k v μ' → Q x H'
def ThenX (P : En) (H : Hp) (G : Wd) (kx : KE) (E : XK) : Prop := ∀ G' μ' H' v cls d, Ext H G H' G' → Wf P G' μ' H' → RepX P G' v cls d → kx v μ' → E cls d H'
/-- an operand that is let where it is: frozen, or a slot's own list -/
def RepO (P : En) (G : Wd) (ρ : Env) (σ : L2.St) (v : PV) (x : V) : Prop := Rep P G v x ∨ ∃ (i : Nat) (vs : List PV), v = .lst vs ∧ ρ[i]? = some (some (.nls vs)) ∧ σ[i]? = some (some x)
def RepOs (P : En) (G : Wd) (ρ : Env) (σ : L2.St) : List PV → List V → Prop
  | [], [] => True
  | v :: vs, x :: xs => RepO P G ρ σ v x ∧ RepOs P G ρ σ vs xs
  | _, _ => False
def ThenO (P : En) (H : Hp) (G : Wd) (ρ : Env) (σ : L2.St) (k : KE) (Q : VK) : Prop := ∀ G' μ' H' v x, Ext H G H' G' → Wf P G' μ' H' → RepO P G' ρ σ v.fz x → k v μ' → Q x H'
abbrev Wex := Value → Option Addr → L2.St → Hp → Prop
/-- an expression's reading: its value is handed on -/
def tE (P : En) (W : Wex) (w : Env → Mu → KE → KE → Prop) : TE := fun σ H Q => ∃ He G ρ μ k kx, Wf P G μ H ∧ Sl P He G ρ σ H ∧ w ρ μ k kx ∧ ThenM P H G k Q ∧ ThenX P H G kx fun c d H' => W c d σ H'
/-- an operand's reading -/
def tO (P : En) (W : Wex) (w : Env → Mu → KE → KE → Prop) : TE := fun σ H Q => ∃ He G ρ μ k kx, Wf P G μ H ∧ Sl P He G ρ σ H ∧ w ρ μ k kx ∧ ThenO P H G ρ σ k Q ∧ ThenX P H G kx fun c d H' => W c d σ H'
/-- a row of operands; a row of values handed on, all frozen -/
def tOs (P : En) (W : Wex) (w : Env → Mu → (List PV → Mu → Prop) → KE → Prop) : TA := fun σ H Q => ∃ He G ρ μ k kx, Wf P G μ H ∧ Sl P He G ρ σ H ∧ w ρ μ k kx ∧
  (∀ G' μ' H' vs xs, Ext H G H' G' → Wf P G' μ' H' → RepOs P G' ρ σ vs xs → k vs μ' → Q xs H') ∧ ThenX P H G kx fun c d H' => W c d σ H'
def tEs (P : En) (W : Wex) (w : Env → Mu → (List PV → Mu → Prop) → KE → Prop) : TA := fun σ H Q => ∃ He G ρ μ k kx, Wf P G μ H ∧ Sl P He G ρ σ H ∧ w ρ μ k kx ∧
  (∀ G' μ' H' vs xs, Ext H G H' G' → Wf P G' μ' H' → Reps P G' vs xs → k vs μ' → Q xs H') ∧ ThenX P H G kx fun c d H' => W c d σ H'

section
variable {P : En} {G G' : Wd} {H H' : Hp} {ρ : Env} {σ : L2.St} {μ : Mu}
theorem RepO.ext {v : PV} {x : V} (e : Ext H G H' G') (r : RepO P G ρ σ v x) : RepO P G' ρ σ v x := r.elim (fun r => .inl (r.ext e)) .inr
theorem RepOs.ext (e : Ext H G H' G') : ∀ {vs : List PV} {xs : List V}, RepOs P G ρ σ vs xs → RepOs P G' ρ σ vs xs
  | [], [], _ => trivial
  | _ :: _, _ :: _, h => ⟨h.1.ext e, h.2.ext e⟩
  | [], _ :: _, h => h.elim
  | _ :: _, [], h => h.elim
theorem RepO.toH {He : Hp} {v : PV} {x : V} (s : Sl P He G ρ σ H) (r : RepO P G ρ σ v x) : RepH P G H v x := by
  rcases r with r | ⟨i, vs, rfl, h1, h2⟩
  · exact .fz r
  · obtain ⟨a, xs, h3, h4, h5, _⟩ := s.ow i vs h1
    rw [h2] at h3
    have e : x = .ref a := Option.some.inj (Option.some.inj h3)
    subst e
    exact .ls h4 h5
theorem RepOs.toH {He : Hp} (s : Sl P He G ρ σ H) : ∀ {vs : List PV} {xs : List V}, RepOs P G ρ σ vs xs → RepHs P G H vs xs
  | [], [], _ => .nil
  | _ :: _, _ :: _, h => .cons (h.1.toH s) (h.2.toH s)
  | [], _ :: _, h => h.elim
  | _ :: _, [], h => h.elim
theorem RepOs.of : ∀ {vs : List PV} {xs : List V}, Reps P G vs xs → RepOs P G ρ σ vs xs
  | _, _, .nil => trivial
  | _, _, .cons r t => ⟨.inl r, .of t⟩
theorem ThenX.ext {kx : KE} {E : XK} (t : ThenX P H G kx E) (e : Ext H G H' G') : ThenX P H' G' kx E := fun _ _ _ _ _ _ e1 => t _ _ _ _ _ _ (e.trans e1)
theorem ThenX.no {E : XK} : ThenX P H G noX E := fun _ _ _ _ _ _ _ _ _ h => h.elim
theorem ThenM.then {k : KE} {Q : VK} (t : ThenM P H G k Q) (e : Ext H G H' G') {μ' : Mu} : Then P μ' H' G' (fun v => k v μ') Q := fun G1 H1 v x e1 w1 r h => t G1 μ' H1 v x (e.trans e1) w1 (r.start e.dm) h
end
theorem _root_.L2.PE.imp {X : Cx} {e : Expr} {t t' : TE} (h : PE X e t) (i : ∀ σ H Q, t' σ H Q → t σ H Q) : PE X e t' := ⟨fun pins s σ H Q I q => h.run pins s σ H Q I (i σ H Q q)⟩
theorem _root_.L2.PA.imp {X : Cx} {e : List Expr} {t t' : TA} (h : PA X e t) (i : ∀ σ H Q, t' σ H Q → t σ H Q) : PA X e t' := ⟨fun p pins s σ H Q I q => h.run p pins s σ H Q I (i σ H Q q)⟩
theorem _root_.L2.PT.imp {X : Cx} {e : Expr} {t t' : TT} (h : PT X e t) (i : ∀ σ H Q, t' σ H Q → t σ H Q) : PT X e t' := ⟨fun pins s σ H Q I q => h.run pins s σ H Q I (i σ H Q q)⟩
theorem _root_.L2.PW.imp {X : Cx} {e : Expr} {t t' : TT} (h : PW X e t) (i : ∀ σ H Q, t' σ H Q → t σ H Q) : PW X e t' := ⟨fun wh pins s σ H Q I q => h.run wh pins s σ H Q I (i σ H Q q)⟩

/-- where one stands -/
structure Cn (X : Cx) (P : En) (W : Wex) : Prop where
  hK : P.K = X.K
  hmg : P.mg = X.mg
  calm : X.calm = true
  nd : X.N.Nodup
  units : X.A.units + 64 < cLine
  takes : Takes X W

section
variable {X : Cx} {P : En} {W : Wex} {Γ : Gam} {a b c : Expr} {pos : Pos}
theorem okO {e : Expr} {w : Env → Mu → KE → KE → Prop} (h : PE X e (tE P W w)) : PE X e (tO P W w) := h.imp fun σ H Q ⟨He, G, ρ, μ, k, kx, w0, sl, hw, t, tx⟩ =>
  ⟨He, G, ρ, μ, k, kx, w0, sl, hw, fun G' μ' H' v x e w1 r hk => by
    cases v with
    | nls vs =>
      obtain ⟨G2, e2, w2, r2, _, _⟩ := freezeL w1 e r
      exact t G2 μ' H' (.nls vs) x e2 w2 (.inl r2) hk
    | _ => exact t G' μ' H' _ x e w1 (Or.inl (Rep.fz r)) hk, tx⟩
/-- a value that is not a list made just now -/
theorem okV {e : Expr} {w : Env → Mu → KE → KE → Prop} {σ : L2.St} {H : Hp} {Q : VK} (h : tE P W w σ H Q) : True := trivial

/-! ### names and constants -/
theorem o_var {i : Nat} {x : Str} (hN : X.N[i]? = some x) (hv : Vis X.env.scope x) (hd : (x == ("__debug__" : Str)) = false) (hcd : (x == ("__classdict__" : Str)) = false) : PE X (.Name x pos) (tE P W (evE Γ (.var i))) :=
  (pe_var hN hv hd hcd).imp fun σ H Q ⟨He, G, ρ, μ, k, kx, w0, sl, hw, t, tx⟩ => by
    simp only [evE] at hw
    split at hw
    · rename_i v hv
      obtain ⟨x, h1, h2⟩ := sl.fz i v hv hw.1
      exact ⟨x, h1, t G μ H v x (.refl H G) w0 (.of h2) hw.2⟩
    · exact hw.elim
theorem o_pk {i : Nat} {x : Str} (hN : X.N[i]? = some x) (hv : Vis X.env.scope x) (hd : (x == ("__debug__" : Str)) = false) (hcd : (x == ("__classdict__" : Str)) = false) : PE X (.Name x pos) (tO P W (evE Γ (.pk i))) :=
  (pe_var hN hv hd hcd).imp fun σ H Q ⟨He, G, ρ, μ, k, kx, w0, sl, hw, t, tx⟩ => by
    simp only [evE] at hw
    split at hw
    · exact hw.elim
    · rename_i v hn hv
      cases v with
      | nin c fs vs => exact (hn c fs vs rfl).elim
      | nls vs =>
        obtain ⟨a, xs, h1, _⟩ := sl.ow i vs hv
        exact ⟨.ref a, h1, t G μ H (.nls vs) _ (.refl H G) w0 (.inr ⟨i, vs, rfl, hv, h1⟩) hw⟩
      | _ =>
        obtain ⟨x, h1, h2⟩ := sl.fz i _ hv rfl
        exact ⟨x, h1, t G μ H _ x (.refl H G) w0 (Or.inl h2.fz) hw⟩
    · exact hw.elim
theorem o_con {e : Expr} {v : PV} {x : V} (h : PE X e (tC x)) (r : ∀ G, Rep P G v x) {E0 : E} (he : ∀ ρ μ k kx, evE Γ E0 ρ μ k kx → k v μ) : PE X e (tE P W (evE Γ E0)) :=
  h.imp fun σ H Q ⟨He, G, ρ, μ, k, kx, w0, sl, hw, t, tx⟩ => t G μ H v x (.refl H G) w0 (.of (r G)) (he _ _ _ _ hw)

/-! ### operators -/
theorem o_bin (n : Cn X P W) {o : Op} {ea eb : E} (ha : PE X a (tO P W (evE Γ ea))) (hb : PE X b (tO P W (evE Γ eb))) : PE X (.BinOp a o.py b pos) (tE P W (evE Γ (.bin o ea eb))) :=
  (pe_op (op_bin n.hK o) ha hb).imp fun σ H Q ⟨He, G, ρ, μ, k, kx, w0, sl, hw, t, tx⟩ => by
    simp only [evE] at hw
    exact ⟨He, G, ρ, μ, _, kx, w0, sl, hw, fun G1 μ1 H1 va x e1 w1 r1 h1 => ⟨He, G1, ρ, μ1, _, kx, w1, sl.ext w0 e1, h1, fun G2 μ2 H2 vb y e2 w2 r2 h2 =>
      ⟨G2, μ2, va.fz, vb.fz, _, w2, (r1.ext e2).toH ((sl.ext w0 e1).ext w1 e2), r2.toH ((sl.ext w0 e1).ext w1 e2), h2, t.then (e1.trans e2)⟩, tx.ext e1⟩, tx⟩
theorem o_neg {ea : E} (ha : PE X a (tO P W (evE Γ ea))) : PE X (.UnaryOp .USub a pos) (tE P W (evE Γ (.neg ea))) :=
  (pe_un un_neg ha).imp fun σ H Q ⟨He, G, ρ, μ, k, kx, w0, sl, hw, t, tx⟩ => by
    simp only [evE] at hw
    refine ⟨He, G, ρ, μ, _, kx, w0, sl, hw, fun G1 μ1 H1 va x e1 w1 r1 h1 => ?_, tx⟩
    dsimp only at h1
    split at h1
    · rename_i i
      obtain rfl := (r1.toH (sl.ext w0 e1)).int
      exact ⟨i, rfl, t G1 μ1 H1 (.int (-i)) _ e1 w1 (.of (.int _)) h1⟩
    · exact h1.elim
/-- a bool that is asked for -/
theorem blK_of {G : Wd} {H : Hp} {ρ : Env} {σ : L2.St} {v : PV} {x : V} {K : Bool → Prop} (r : RepO P G ρ σ v.fz x) (h : blK v K) : ∃ b, x = .bl b ∧ K b := by
  unfold blK at h
  split at h
  · rename_i b
    rcases r with r | ⟨_, _, z, _⟩
    · cases r; exact ⟨b, rfl, h⟩
    · cases z
  · exact h.elim
theorem o_not {ea : E} (ha : PE X a (tO P W (evE Γ ea))) : PE X (.UnaryOp .Not a pos) (tE P W (evE Γ (.not ea))) :=
  (pe_not ha).imp fun σ H Q ⟨He, G, ρ, μ, k, kx, w0, sl, hw, t, tx⟩ => by
    simp only [evE] at hw
    refine ⟨He, G, ρ, μ, _, kx, w0, sl, hw, fun G1 μ1 H1 va x e1 w1 r1 h1 => ?_, tx⟩
    obtain ⟨c, rfl, h2⟩ := blK_of (H := H1) r1 h1
    exact ⟨c, rfl, t G1 μ1 H1 (.bl (!c)) _ e1 w1 (.of (.bl _)) h2⟩
theorem o_cmp (n : Cn X P W) {o : Cp} {ea eb : E} (ha : PE X a (tO P W (evE Γ ea))) (hb : PE X b (tO P W (evE Γ eb))) (hm : behindInMarks o.py b = false) : PE X (.Compare a [o.py] [b] pos) (tE P W (evE Γ (.cmp o ea eb))) :=
  (pe_cmpR (op_cmpM n.hK n.units o) ha hb hm).imp fun σ H Q ⟨He, G, ρ, μ, k, kx, w0, sl, hw, t, tx⟩ =>
    ⟨He, G, ρ, μ, _, kx, w0, sl, by simpa only [evE] using hw, fun G1 μ1 H1 va x e1 w1 r1 h1 => ⟨He, G1, ρ, μ1, _, kx, w1, sl.ext w0 e1, h1, fun G2 μ2 H2 vb y e2 w2 r2 h2 =>
      ⟨G2, μ2, va.fz, vb.fz, _, w2, (r1.ext e2).toH ((sl.ext w0 e1).ext w1 e2), r2.toH ((sl.ext w0 e1).ext w1 e2), h2, fun b hb => t G2 μ2 H2 (.bl b) _ (e1.trans e2) w2 (.of (.bl _)) hb⟩, tx.ext e1⟩, tx⟩
theorem o_chain (n : Cn X P W) {o p : Cp} {ea eb ec : E} (ha : PE X a (tO P W (evE Γ ea))) (hb : PE X b (tO P W (evE Γ eb))) (hc : PE X c (tO P W (evE Γ ec)))
    (hl : lastMarks [o.py, p.py] [b, c] = false) : PE X (.Compare a [o.py, p.py] [b, c] pos) (tE P W (evE Γ (.chain o p ea eb ec))) :=
  (pe_chain (op_cmpM n.hK n.units o) (op_cmpM n.hK n.units p) ha hb hc hl).imp fun σ H Q ⟨He, G, ρ, μ, k, kx, w0, sl, hw, t, tx⟩ => by
    simp only [evE] at hw
    exact ⟨He, G, ρ, μ, _, kx, w0, sl, hw, fun G1 μ1 H1 va x e1 w1 r1 h1 => ⟨He, G1, ρ, μ1, _, kx, w1, sl.ext w0 e1, h1, fun G2 μ2 H2 vb y e2 w2 r2 h2 =>
      ⟨G2, μ2, va.fz, vb.fz, _, w2, (r1.ext e2).toH ((sl.ext w0 e1).ext w1 e2), r2.toH ((sl.ext w0 e1).ext w1 e2), h2, fun b hb => ⟨b, rfl, by
        cases b with
        | false => exact t G2 μ2 H2 (.bl false) _ (e1.trans e2) w2 (.of (.bl _)) hb
        | true =>
          exact ⟨He, G2, ρ, μ2, _, kx, w2, (sl.ext w0 e1).ext w1 e2, hb, fun G3 μ3 H3 vc z e3 w3 r3 h3 =>
            ⟨G3, μ3, vb.fz, vc.fz, _, w3, (r2.ext e3).toH (((sl.ext w0 e1).ext w1 e2).ext w2 e3), r3.toH (((sl.ext w0 e1).ext w1 e2).ext w2 e3), h3, fun b hb => t G3 μ3 H3 (.bl b) _ ((e1.trans e2).trans e3) w3 (.of (.bl _)) hb⟩, tx.ext (e1.trans e2)⟩⟩⟩, tx.ext e1⟩, tx⟩
theorem isN_of {He : Hp} {G G1 : Wd} {ρ : Env} {σ : L2.St} {H : Hp} {va : PV} {x : V} (sl : Sl P He G ρ σ H) (r1 : RepO P G1 ρ σ va.fz x) : decide (x = .non) = isNon va := by
  rcases r1 with r1 | ⟨i, vs, z, h2, h3⟩
  · cases va <;> cases r1 <;> rfl
  · obtain ⟨a, xs, h4, _⟩ := sl.ow i vs h2
    rw [h3] at h4
    obtain rfl := Option.some.inj (Option.some.inj h4)
    cases va <;> first | rfl | cases z
theorem o_isn {ea : E} (ha : PE X a (tO P W (evE Γ ea))) {j pos'} : PE X (.Compare a [.Is] [.Constant .none j pos'] pos) (tE P W (evE Γ (.isn ea))) :=
  (pe_cmp (pc_isN ha)).imp fun σ H Q ⟨He, G, ρ, μ, k, kx, w0, sl, hw, t, tx⟩ => by
    simp only [evE] at hw
    refine ⟨He, G, ρ, μ, _, kx, w0, sl, hw, fun G1 μ1 H1 va x e1 w1 r1 h1 => ?_, tx⟩
    refine t G1 μ1 H1 (.bl (decide (x = .non))) _ e1 w1 (.of (.bl _)) ?_
    rw [isN_of sl r1]
    exact h1
theorem o_nisn {ea : E} (ha : PE X a (tO P W (evE Γ ea))) {j pos'} : PE X (.Compare a [.IsNot] [.Constant .none j pos'] pos) (tE P W (evE Γ (.nisn ea))) :=
  (pe_cmp (pc_notN ha)).imp fun σ H Q ⟨He, G, ρ, μ, k, kx, w0, sl, hw, t, tx⟩ => by
    simp only [evE] at hw
    refine ⟨He, G, ρ, μ, _, kx, w0, sl, hw, fun G1 μ1 H1 va x e1 w1 r1 h1 => ?_, tx⟩
    refine t G1 μ1 H1 (.bl (!decide (x = .non))) _ e1 w1 (.of (.bl _)) ?_
    rw [isN_of sl r1]
    exact h1
theorem o_isb {ea : E} {k : Bool} (ha : PE X a (tO P W (evE Γ ea))) {j pos'} : PE X (.Compare a [.Is] [.Constant (.bool k) j pos'] pos) (tE P W (evE Γ (.isb k ea))) :=
  (pe_cmpR op_is_bl ha pe_bl (nomark _)).imp fun σ H Q ⟨He, G, ρ, μ, k', kx, w0, sl, hw, t, tx⟩ => by
    simp only [evE] at hw
    refine ⟨He, G, ρ, μ, _, kx, w0, sl, hw, fun G1 μ1 H1 va x e1 w1 r1 h1 => ?_, tx⟩
    obtain ⟨c, rfl, h2⟩ := blK_of (H := H1) r1 h1
    exact ⟨c, k, rfl, rfl, t G1 μ1 H1 (.bl (decide (c = k))) _ e1 w1 (.of (.bl _)) h2⟩
/-! ### rows -/
theorem os_nil : PA X [] (tOs P W (evEs Γ .nil)) := pa_nil.imp fun σ H Q ⟨He, G, ρ, μ, k, kx, w0, sl, hw, t, tx⟩ => t G μ H [] [] (.refl H G) w0 trivial hw
theorem es_nil : PA X [] (tEs P W (evEs Γ .nil)) := pa_nil.imp fun σ H Q ⟨He, G, ρ, μ, k, kx, w0, sl, hw, t, tx⟩ => t G μ H [] [] (.refl H G) w0 .nil hw
theorem os_cons {as : List Expr} {ea : E} {es : Es} (ha : PE X a (tO P W (evE Γ ea))) (hr : PA X as (tOs P W (evEs Γ es))) (hs : starEach (a :: as) X.env = (false, eval a X.env) :: starEach as X.env) : PA X (a :: as) (tOs P W (evEs Γ (.cons ea es))) :=
  (pa_cons ha hr hs).imp fun σ H Q ⟨He, G, ρ, μ, k, kx, w0, sl, hw, t, tx⟩ => by
    simp only [evEs] at hw
    exact ⟨He, G, ρ, μ, _, kx, w0, sl, hw, fun G1 μ1 H1 va x e1 w1 r1 h1 => ⟨He, G1, ρ, μ1, _, kx, w1, sl.ext w0 e1, h1, fun G2 μ2 H2 vs xs e2 w2 r2 h2 =>
      t G2 μ2 H2 (va.fz :: vs) _ (e1.trans e2) w2 ⟨r1.ext e2, r2⟩ h2, tx.ext e1⟩, tx⟩
theorem es_cons {as : List Expr} {ea : E} {es : Es} (ha : PE X a (tE P W (evE Γ ea))) (hr : PA X as (tEs P W (evEs Γ es))) (hs : starEach (a :: as) X.env = (false, eval a X.env) :: starEach as X.env) : PA X (a :: as) (tEs P W (evEs Γ (.cons ea es))) :=
  (pa_cons ha hr hs).imp fun σ H Q ⟨He, G, ρ, μ, k, kx, w0, sl, hw, t, tx⟩ => by
    simp only [evEs] at hw
    refine ⟨He, G, ρ, μ, _, kx, w0, sl, hw, fun G1 μ1 H1 va x e1 w1 r1 h1 => ?_, tx⟩
    have go : ∀ G1, Ext H G H1 G1 → Wf P G1 μ1 H1 → Rep P G1 va.fz x → tEs P W (evEs Γ es) σ H1 fun xs H2 => Q (x :: xs) H2 := fun G1 e1 w1 r1 =>
      ⟨He, G1, ρ, μ1, _, kx, w1, sl.ext w0 e1, h1, fun G2 μ2 H2 vs xs e2 w2 r2 h2 => t G2 μ2 H2 (va.fz :: vs) _ (e1.trans e2) w2 (.cons (r1.ext e2) r2) h2, tx.ext e1⟩
    cases va with
    | nls vs =>
      obtain ⟨G2, e2, w2, r2, _, _⟩ := freezeL w1 e1 r1
      exact go G2 e2 w2 r2
    | _ => exact go G1 e1 w1 r1
theorem o_tup {as : List Expr} {es : Es} {k0 : Nat} (h : PA X as (tEs P W (evEs Γ es))) : PE X (.Tuple as k0 pos) (tE P W (evE Γ (.tup es))) :=
  (pe_tup h).imp fun σ H Q ⟨He, G, ρ, μ, k, kx, w0, sl, hw, t, tx⟩ => by
    simp only [evE] at hw
    exact ⟨He, G, ρ, μ, _, kx, w0, sl, hw, fun G1 μ1 H1 vs xs e1 w1 r1 h1 => ⟨by rw [← r1.length]; exact h1.1, fun p hp => (t.then e1).tup w1 r1 h1.2 hp⟩, tx⟩
theorem o_lst {as : List Expr} {es : Es} (h : PA X as (tEs P W (evEs Γ es))) : PE X (.List as pos) (tE P W (evE Γ (.lst es))) :=
  (pe_lst h).imp fun σ H Q ⟨He, G, ρ, μ, k, kx, w0, sl, hw, t, tx⟩ => by
    simp only [evE] at hw
    exact ⟨He, G, ρ, μ, _, kx, w0, sl, hw, fun G1 μ1 H1 vs xs e1 w1 r1 h1 => ⟨by rw [← r1.length]; exact h1.1, fun p hp => (t.then e1).lst w1 r1 h1.2 hp⟩, tx⟩

/-! ### tests -/
/-- a test's reading: the truth of the value -/
def tV (P : En) (W : Wex) (w : Env → Mu → KE → KE → Prop) : TT := fun σ H Q => ∃ He G ρ μ k kx, Wf P G μ H ∧ Sl P He G ρ σ H ∧ w ρ μ k kx ∧
  (∀ G' μ' H' v x, Ext H G H' G' → Wf P G' μ' H' → RepO P G' ρ σ v.fz x → k v μ' → ∃ b, truth v.fz = some b ∧ Q b H') ∧ ThenX P H G kx fun c d H' => W c d σ H'
theorem truV_of {G : Wd} {H : Hp} {μ : Mu} {v : PV} {x : V} {b : Bool} (hK : P.K = X.K) (w : Wf P G μ H) (r : RepH P G H v x) (h : truth v = some b) : TruV X.K x H b := by
  cases v with
  | non =>
    cases r with
    | fz r => cases r; cases h; rfl
  | bl c =>
    obtain rfl := r.bl
    cases h; rfl
  | int i =>
    obtain rfl := r.int
    cases h; rfl
  | tup vs =>
    obtain ⟨a, xs, rfl, h1, r1⟩ := r.tup w
    rw [hK] at h1
    cases h
    refine .inr (.inl ⟨xs, h1, ?_⟩)
    cases r1 <;> rfl
  | lst vs =>
    obtain ⟨a, xs, rfl, h1, r1⟩ := r.lst w
    cases h
    refine .inl ⟨xs, .inl (.inl h1), ?_⟩
    cases r1 <;> rfl
  | _ => cases h
theorem v_gen (n : Cn X P W) {w : Env → Mu → KE → KE → Prop} (ha : PE X a (tO P W w)) (he : ∀ whole, isTrue a X.env whole = (do let v ← whole; standAt a.pos; holding [v] (truthy v))) : PT X a (tV P W w) :=
  (pt_truth ha he).imp fun σ H Q ⟨He, G, ρ, μ, k, kx, w0, sl, hw, t, tx⟩ =>
    ⟨He, G, ρ, μ, k, kx, w0, sl, hw, fun G1 μ1 H1 v x e1 w1 r1 h1 => by
      obtain ⟨b, h2, h3⟩ := t G1 μ1 H1 v x e1 w1 r1 h1
      exact ⟨b, truV_of n.hK w1 (r1.toH (sl.ext w0 e1)) h2, h3⟩, tx⟩
/-- from a reading of a comparison or the like as a value: its value is a bool -/
theorem v_not {ea : E} (ha : PT X a (tV P W (evE Γ ea))) : PT X (.UnaryOp .Not a pos) (tV P W (evE Γ (.not ea))) :=
  (pt_not ha).imp fun σ H Q ⟨He, G, ρ, μ, k, kx, w0, sl, hw, t, tx⟩ => by
    simp only [evE] at hw
    refine ⟨He, G, ρ, μ, _, kx, w0, sl, hw, fun G1 μ1 H1 va x e1 w1 r1 h1 => ?_, tx⟩
    obtain ⟨c, rfl, h2⟩ := blK_of (H := H1) r1 h1
    have h3 : va.fz = .bl c := by
      unfold blK at h1
      split at h1
      · rcases r1 with r1 | ⟨_, _, z, _⟩
        · cases r1; rfl
        · cases z
      · exact h1.elim
    obtain ⟨b, h4, h5⟩ := t G1 μ1 H1 (.bl (!c)) (.bl (!c)) e1 w1 (.inl (.bl _)) h2
    refine ⟨c, by rw [h3]; rfl, ?_⟩
    cases h4
    exact h5
theorem v_cmp (n : Cn X P W) {o : Cp} {ea eb : E} (ha : PE X a (tO P W (evE Γ ea))) (hb : PE X b (tO P W (evE Γ eb))) (hm : behindInMarks o.py b = false) : PT X (.Compare a [o.py] [b] pos) (tV P W (evE Γ (.cmp o ea eb))) :=
  (pt_cmpR (op_cmpM n.hK n.units o) ha hb hm).imp fun σ H Q ⟨He, G, ρ, μ, k, kx, w0, sl, hw, t, tx⟩ =>
    ⟨He, G, ρ, μ, _, kx, w0, sl, by simpa only [evE] using hw, fun G1 μ1 H1 va x e1 w1 r1 h1 => ⟨He, G1, ρ, μ1, _, kx, w1, sl.ext w0 e1, h1, fun G2 μ2 H2 vb y e2 w2 r2 h2 =>
      ⟨G2, μ2, va.fz, vb.fz, _, w2, (r1.ext e2).toH ((sl.ext w0 e1).ext w1 e2), r2.toH ((sl.ext w0 e1).ext w1 e2), h2, fun b hb => by
        obtain ⟨b', h4, h5⟩ := t G2 μ2 H2 (.bl b) (.bl b) (e1.trans e2) w2 (.inl (.bl _)) hb
        cases h4
        exact ⟨_, rfl, h5⟩⟩, tx.ext e1⟩, tx⟩
theorem v_chain (n : Cn X P W) {o p : Cp} {ea eb ec : E} (ha : PE X a (tO P W (evE Γ ea))) (hb : PE X b (tO P W (evE Γ eb))) (hc : PE X c (tO P W (evE Γ ec)))
    (hl : lastMarks [o.py, p.py] [b, c] = false) : PT X (.Compare a [o.py, p.py] [b, c] pos) (tV P W (evE Γ (.chain o p ea eb ec))) :=
  (pt_chain (op_cmpM n.hK n.units o) (op_cmpM n.hK n.units p) ha hb hc hl).imp fun σ H Q ⟨He, G, ρ, μ, k, kx, w0, sl, hw, t, tx⟩ => by
    simp only [evE] at hw
    have fin : ∀ {G' μ' H'} {b : Bool}, Ext H G H' G' → Wf P G' μ' H' → k (.bl b) μ' → ∃ c, V.bl b = V.bl c ∧ Q c H' := fun {G' μ' H' b} e w h => by
      obtain ⟨b', h4, h5⟩ := t G' μ' H' (.bl b) (.bl b) e w (.inl (.bl _)) h
      cases h4
      exact ⟨_, rfl, h5⟩
    exact ⟨He, G, ρ, μ, _, kx, w0, sl, hw, fun G1 μ1 H1 va x e1 w1 r1 h1 => ⟨He, G1, ρ, μ1, _, kx, w1, sl.ext w0 e1, h1, fun G2 μ2 H2 vb y e2 w2 r2 h2 =>
      ⟨G2, μ2, va.fz, vb.fz, _, w2, (r1.ext e2).toH ((sl.ext w0 e1).ext w1 e2), r2.toH ((sl.ext w0 e1).ext w1 e2), h2, fun b hb => ⟨b, rfl, by
        cases b with
        | false => exact fin (e1.trans e2) w2 hb
        | true =>
          exact ⟨He, G2, ρ, μ2, _, kx, w2, (sl.ext w0 e1).ext w1 e2, hb, fun G3 μ3 H3 vc z e3 w3 r3 h3 =>
            ⟨G3, μ3, vb.fz, vc.fz, _, w3, (r2.ext e3).toH (((sl.ext w0 e1).ext w1 e2).ext w2 e3), r3.toH (((sl.ext w0 e1).ext w1 e2).ext w2 e3), h3, fun b hb => fin ((e1.trans e2).trans e3) w3 hb⟩, tx.ext (e1.trans e2)⟩⟩⟩, tx.ext e1⟩, tx⟩
theorem fin_bl {G : Wd} {H : Hp} {ρ : Env} {σ : L2.St} {k : KE} {Q : Bool → Hp → Prop} (t : ∀ G' μ' H' v x, Ext H G H' G' → Wf P G' μ' H' → RepO P G' ρ σ v.fz x → k v μ' → ∃ b, truth v.fz = some b ∧ Q b H')
    {G' : Wd} {μ' : Mu} {H' : Hp} {b : Bool} (e : Ext H G H' G') (w : Wf P G' μ' H') (h : k (.bl b) μ') : Q b H' := by
  obtain ⟨b', h4, h5⟩ := t G' μ' H' (.bl b) (.bl b) e w (.inl (.bl _)) h
  cases h4
  exact h5
theorem v_isn {ea : E} (ha : PE X a (tO P W (evE Γ ea))) {j pos'} : PT X (.Compare a [.Is] [.Constant .none j pos'] pos) (tV P W (evE Γ (.isn ea))) :=
  (pt_cmp (pc_isN ha)).imp fun σ H Q ⟨He, G, ρ, μ, k, kx, w0, sl, hw, t, tx⟩ => by
    simp only [evE] at hw
    refine ⟨He, G, ρ, μ, _, kx, w0, sl, hw, fun G1 μ1 H1 va x e1 w1 r1 h1 => ⟨_, rfl, fin_bl t e1 w1 ?_⟩, tx⟩
    rw [isN_of sl r1]
    exact h1
theorem v_nisn {ea : E} (ha : PE X a (tO P W (evE Γ ea))) {j pos'} : PT X (.Compare a [.IsNot] [.Constant .none j pos'] pos) (tV P W (evE Γ (.nisn ea))) :=
  (pt_cmp (pc_notN ha)).imp fun σ H Q ⟨He, G, ρ, μ, k, kx, w0, sl, hw, t, tx⟩ => by
    simp only [evE] at hw
    refine ⟨He, G, ρ, μ, _, kx, w0, sl, hw, fun G1 μ1 H1 va x e1 w1 r1 h1 => ⟨_, rfl, fin_bl t e1 w1 ?_⟩, tx⟩
    rw [isN_of sl r1]
    exact h1
theorem v_isb {ea : E} {k : Bool} (ha : PE X a (tO P W (evE Γ ea))) {j pos'} : PT X (.Compare a [.Is] [.Constant (.bool k) j pos'] pos) (tV P W (evE Γ (.isb k ea))) :=
  (pt_cmpR op_is_bl ha pe_bl (nomark _)).imp fun σ H Q ⟨He, G, ρ, μ, k', kx, w0, sl, hw, t, tx⟩ => by
    simp only [evE] at hw
    refine ⟨He, G, ρ, μ, _, kx, w0, sl, hw, fun G1 μ1 H1 va x e1 w1 r1 h1 => ?_, tx⟩
    obtain ⟨c, rfl, h2⟩ := blK_of (H := H1) r1 h1
    exact ⟨c, k, rfl, rfl, _, rfl, fin_bl t e1 w1 h2⟩

/-! ### and, or -/
def wAnd (Γ : Gam) (es : Es) : Env → Mu → KE → KE → Prop := fun ρ μ k kx => evAnd Γ es ρ μ (fun b μ1 => k (.bl b) μ1) kx
def wOr (Γ : Gam) (es : Es) : Env → Mu → KE → KE → Prop := fun ρ μ k kx => evOr Γ es ρ μ (fun b μ1 => k (.bl b) μ1) kx
theorem o_and1 {ea : E} (ha : PE X a (tO P W (evE Γ ea))) : PE X (.BoolOp .And [a] pos) (tE P W (wAnd Γ (.cons ea .nil))) :=
  (pe_one ha).imp fun σ H Q ⟨He, G, ρ, μ, k, kx, w0, sl, hw, t, tx⟩ => by
    unfold wAnd at hw
    simp only [evAnd] at hw
    refine ⟨He, G, ρ, μ, _, kx, w0, sl, hw, fun G1 μ1 H1 va x e1 w1 r1 h1 => ?_, tx⟩
    obtain ⟨c, rfl, h2⟩ := blK_of (H := H1) r1 h1
    exact t G1 μ1 H1 (.bl c) _ e1 w1 (.of (.bl _)) h2
theorem o_or1 {ea : E} (ha : PE X a (tO P W (evE Γ ea))) : PE X (.BoolOp .Or [a] pos) (tE P W (wOr Γ (.cons ea .nil))) :=
  (pe_one ha).imp fun σ H Q ⟨He, G, ρ, μ, k, kx, w0, sl, hw, t, tx⟩ => by
    unfold wOr at hw
    simp only [evOr] at hw
    refine ⟨He, G, ρ, μ, _, kx, w0, sl, hw, fun G1 μ1 H1 va x e1 w1 r1 h1 => ?_, tx⟩
    obtain ⟨c, rfl, h2⟩ := blK_of (H := H1) r1 h1
    exact t G1 μ1 H1 (.bl c) _ e1 w1 (.of (.bl _)) h2
theorem o_andc {rest : List Expr} {ea eb : E} {es : Es} (ha : PE X a (tO P W (evE Γ ea))) (hb : PE X (.BoolOp .And (b :: rest) pos) (tE P W (wAnd Γ (.cons eb es)))) : PE X (.BoolOp .And (a :: b :: rest) pos) (tE P W (wAnd Γ (.cons ea (.cons eb es)))) :=
  (pe_and ha hb).imp fun σ H Q ⟨He, G, ρ, μ, k, kx, w0, sl, hw, t, tx⟩ => by
    unfold wAnd at hw
    simp only [evAnd] at hw
    refine ⟨He, G, ρ, μ, _, kx, w0, sl, hw, fun G1 μ1 H1 va x e1 w1 r1 h1 => ?_, tx⟩
    obtain ⟨c, rfl, h2⟩ := blK_of (H := H1) r1 h1
    refine ⟨c, rfl, ?_⟩
    cases c with
    | false => exact t G1 μ1 H1 (.bl false) _ e1 w1 (.of (.bl _)) h2
    | true => exact ⟨He, G1, ρ, μ1, k, kx, w1, sl.ext w0 e1, h2, fun G2 μ2 H2 v y e2 w2 r2 h3 => t G2 μ2 H2 v y (e1.trans e2) w2 (r2.start e1.dm) h3, tx.ext e1⟩
theorem o_orc {rest : List Expr} {ea eb : E} {es : Es} (ha : PE X a (tO P W (evE Γ ea))) (hb : PE X (.BoolOp .Or (b :: rest) pos) (tE P W (wOr Γ (.cons eb es)))) : PE X (.BoolOp .Or (a :: b :: rest) pos) (tE P W (wOr Γ (.cons ea (.cons eb es)))) :=
  (pe_or ha hb).imp fun σ H Q ⟨He, G, ρ, μ, k, kx, w0, sl, hw, t, tx⟩ => by
    unfold wOr at hw
    simp only [evOr] at hw
    refine ⟨He, G, ρ, μ, _, kx, w0, sl, hw, fun G1 μ1 H1 va x e1 w1 r1 h1 => ?_, tx⟩
    obtain ⟨c, rfl, h2⟩ := blK_of (H := H1) r1 h1
    refine ⟨c, rfl, ?_⟩
    cases c with
    | true => exact t G1 μ1 H1 (.bl true) _ e1 w1 (.of (.bl _)) h2
    | false => exact ⟨He, G1, ρ, μ1, k, kx, w1, sl.ext w0 e1, h2, fun G2 μ2 H2 v y e2 w2 r2 h3 => t G2 μ2 H2 v y (e1.trans e2) w2 (r2.start e1.dm) h3, tx.ext e1⟩
/-- a bool's truth -/
theorem bl_truth {G : Wd} {ρ : Env} {σ : L2.St} {v : PV} {x : V} {K : Bool → Prop} (r : RepO P G ρ σ v.fz x) (h : blK v K) : ∃ b, truth v.fz = some b ∧ K b := by
  unfold blK at h
  split at h
  · exact ⟨_, rfl, h⟩
  · exact h.elim
theorem v_and1 {ea : E} (ha : PT X a (tV P W (evE Γ ea))) : PW X (.BoolOp .And [a] pos) (tV P W (wAnd Γ (.cons ea .nil))) :=
  (pw_and1 ha).imp fun σ H Q ⟨He, G, ρ, μ, k, kx, w0, sl, hw, t, tx⟩ => by
    unfold wAnd at hw
    simp only [evAnd] at hw
    refine ⟨He, G, ρ, μ, _, kx, w0, sl, hw, fun G1 μ1 H1 va x e1 w1 r1 h1 => ?_, tx⟩
    obtain ⟨c, h3, h2⟩ := bl_truth r1 h1
    exact ⟨c, h3, fin_bl t e1 w1 h2⟩
theorem v_or1 {ea : E} (ha : PT X a (tV P W (evE Γ ea))) : PW X (.BoolOp .Or [a] pos) (tV P W (wOr Γ (.cons ea .nil))) :=
  (pw_or1 ha).imp fun σ H Q ⟨He, G, ρ, μ, k, kx, w0, sl, hw, t, tx⟩ => by
    unfold wOr at hw
    simp only [evOr] at hw
    refine ⟨He, G, ρ, μ, _, kx, w0, sl, hw, fun G1 μ1 H1 va x e1 w1 r1 h1 => ?_, tx⟩
    obtain ⟨c, h3, h2⟩ := bl_truth r1 h1
    exact ⟨c, h3, fin_bl t e1 w1 h2⟩
theorem v_andc {rest : List Expr} {ea eb : E} {es : Es} (ha : PT X a (tV P W (evE Γ ea))) (hb : PW X (.BoolOp .And (b :: rest) pos) (tV P W (wAnd Γ (.cons eb es)))) : PW X (.BoolOp .And (a :: b :: rest) pos) (tV P W (wAnd Γ (.cons ea (.cons eb es)))) :=
  (pw_and ha hb).imp fun σ H Q ⟨He, G, ρ, μ, k, kx, w0, sl, hw, t, tx⟩ => by
    unfold wAnd at hw
    simp only [evAnd] at hw
    refine ⟨He, G, ρ, μ, _, kx, w0, sl, hw, fun G1 μ1 H1 va x e1 w1 r1 h1 => ?_, tx⟩
    obtain ⟨c, h3, h2⟩ := bl_truth r1 h1
    refine ⟨c, h3, ?_⟩
    cases c with
    | false => exact fin_bl t e1 w1 h2
    | true => exact ⟨He, G1, ρ, μ1, k, kx, w1, sl.ext w0 e1, h2, fun G2 μ2 H2 v y e2 w2 r2 h4 => t G2 μ2 H2 v y (e1.trans e2) w2 r2 h4, tx.ext e1⟩
theorem v_orc {rest : List Expr} {ea eb : E} {es : Es} (ha : PT X a (tV P W (evE Γ ea))) (hb : PW X (.BoolOp .Or (b :: rest) pos) (tV P W (wOr Γ (.cons eb es)))) : PW X (.BoolOp .Or (a :: b :: rest) pos) (tV P W (wOr Γ (.cons ea (.cons eb es)))) :=
  (pw_or ha hb).imp fun σ H Q ⟨He, G, ρ, μ, k, kx, w0, sl, hw, t, tx⟩ => by
    unfold wOr at hw
    simp only [evOr] at hw
    refine ⟨He, G, ρ, μ, _, kx, w0, sl, hw, fun G1 μ1 H1 va x e1 w1 r1 h1 => ?_, tx⟩
    obtain ⟨c, h3, h2⟩ := bl_truth r1 h1
    refine ⟨c, h3, ?_⟩
    cases c with
    | true => exact fin_bl t e1 w1 h2
    | false => exact ⟨He, G1, ρ, μ1, k, kx, w1, sl.ext w0 e1, h2, fun G2 μ2 H2 v y e2 w2 r2 h4 => t G2 μ2 H2 v y (e1.trans e2) w2 r2 h4, tx.ext e1⟩
theorem o_ite {ec ea eb : E} (hc : PT X c (tV P W (evE Γ ec))) (ha : PE X a (tE P W (evE Γ ea))) (hb : PE X b (tE P W (evE Γ eb))) : PE X (.IfExp c a b pos) (tE P W (evE Γ (.ite ec ea eb))) :=
  (pe_ifExp hc ha hb).imp fun σ H Q ⟨He, G, ρ, μ, k, kx, w0, sl, hw, t, tx⟩ => by
    simp only [evE] at hw
    refine ⟨He, G, ρ, μ, _, kx, w0, sl, hw, fun G1 μ1 H1 va x e1 w1 r1 h1 => ?_, tx⟩
    unfold trK at h1
    split at h1
    · rename_i r hr
      refine ⟨r, hr, ?_⟩
      have go : ∀ {e : E}, evE Γ e ρ μ1 k kx → tE P W (evE Γ e) σ H1 Q := fun h => ⟨He, G1, ρ, μ1, k, kx, w1, sl.ext w0 e1, h, fun G2 μ2 H2 v y e2 w2 r2 h4 => t G2 μ2 H2 v y (e1.trans e2) w2 (r2.start e1.dm) h4, tx.ext e1⟩
      cases r with
      | true => exact go h1
      | false => exact go h1
    · exact h1.elim

/-! ### built-ins, places, slices -/
theorem o_bi (n : Cn X P W) {as : List Expr} {f : Bi} {es : Es} {p : Pos} (hg : Gl X f.nm) (hm : X.mg f.nm = none) (hb : f ≠ .sorted) (ha : PA X (a :: as) (tOs P W (evEs Γ es)))
    (he : starEach (a :: as) X.env = (false, eval a X.env) :: starEach as X.env) (hpl : (backTo pos (starEach as X.env)).any (·.1) = false) : PE X (.Call (.Name f.nm p) (a :: as) [] pos) (tE P W (evE Γ (.bi f es))) := by
  have key : PE X (.Call (.Name f.nm p) (a :: as) [] pos) (tCB (fun xs H Q => ∃ G μ vs k, Wf P G μ H ∧ RepHs P G H vs xs ∧ biK f vs k ∧ Then P μ H G k Q) (tOs P W (evEs Γ es))) := by
    have q := op_bi (X := X) n.hK n.calm n.units f
    cases f with
    | repr => exact pe_callB (id := "repr") q hg hm (by decide +kernel) ha (by decide) (by decide) he hpl
    | sorted => exact absurd rfl hb
    | len => exact pe_callB (id := "len") q hg hm (by decide +kernel) ha (by decide) (by decide) he hpl
    | abs => exact pe_callB (id := "abs") q hg hm (by decide +kernel) ha (by decide) (by decide) he hpl
    | max2 => exact pe_callB (id := "max") q hg hm (by decide +kernel) ha (by decide) (by decide) he hpl
    | min2 => exact pe_callB (id := "min") q hg hm (by decide +kernel) ha (by decide) (by decide) he hpl
    | maxl => exact pe_callB (id := "max") q hg hm (by decide +kernel) ha (by decide) (by decide) he hpl
    | minl => exact pe_callB (id := "min") q hg hm (by decide +kernel) ha (by decide) (by decide) he hpl
    | sum => exact pe_callB (id := "sum") q hg hm (by decide +kernel) ha (by decide) (by decide) he hpl
    | all => exact pe_callB (id := "all") q hg hm (by decide +kernel) ha (by decide) (by decide) he hpl
    | any => exact pe_callB (id := "any") q hg hm (by decide +kernel) ha (by decide) (by decide) he hpl
    | tuple => exact pe_callTy (T := "tuple") q hg hm (by decide +kernel) ha (by decide) (by decide) he hpl
    | list => exact pe_callTy (T := "list") q hg hm (by decide +kernel) ha (by decide) (by decide) he hpl
    | int => exact pe_callTy (T := "int") q hg hm (by decide +kernel) ha (by decide) (by decide) he hpl
    | str => exact pe_callTy (T := "str") q hg hm (by decide +kernel) ha (by decide) (by decide) he hpl
  refine key.imp fun σ H Q ⟨He, G, ρ, μ, k, kx, w0, sl, hw, t, tx⟩ => ?_
  simp only [evE] at hw
  exact ⟨He, G, ρ, μ, _, kx, w0, sl, hw, fun G1 μ1 H1 vs xs e1 w1 r1 h1 => ⟨G1, μ1, vs, _, w1, r1.toH (sl.ext w0 e1), h1, t.then e1⟩, tx⟩
mutual
theorem dict_no : ∀ (v : PV) (d : PyData), toPD v = some d → d.hasDict = false
  | .non, d, h => by simp [toPD] at h; subst h; rfl
  | .bl _, d, h => by simp [toPD] at h; subst h; rfl
  | .int _, d, h => by simp [toPD] at h; subst h; rfl
  | .str _, d, h => by simp [toPD] at h; subst h; rfl
  | .tup vs, d, h => by
    simp only [toPD, Option.map_eq_some_iff] at h
    obtain ⟨ds, h1, rfl⟩ := h
    simp only [PyData.hasDict]
    exact dict_nos vs ds h1
  | .lst vs, d, h => by
    simp only [toPD, Option.map_eq_some_iff] at h
    obtain ⟨ds, h1, rfl⟩ := h
    simp only [PyData.hasDict]
    exact dict_nos vs ds h1
  | .dct _ _, d, h => by simp [toPD] at h
  | .ins _ _ _, d, h => by simp [toPD] at h
  | .exc _ _ _, d, h => by simp [toPD] at h
  | .fn _, d, h => by simp [toPD] at h
  | .clo _ _, d, h => by simp [toPD] at h
  | .obj _, d, h => by simp [toPD] at h
  | .scr _, d, h => by simp [toPD] at h
  | .nls _, d, h => by simp [toPD] at h
  | .nin _ _ _, d, h => by simp [toPD] at h
theorem dict_nos : ∀ (vs : List PV) (ds : List PyData), toPDs vs = some ds → PyData.hasDictAll ds = false
  | [], ds, h => by simp [toPDs] at h; subst h; rfl
  | v :: vs, ds, h => by
    simp only [toPDs] at h
    cases h1 : toPD v with
    | none => rw [h1] at h; cases h
    | some d =>
      cases h2 : toPDs vs with
      | none => rw [h1, h2] at h; cases h
      | some ds' =>
        rw [h1, h2] at h
        cases h
        simp only [PyData.hasDictAll, dict_no v d h1, dict_nos vs ds' h2, Bool.or_false]
end
theorem cr_repr (hg : X.A.guards = some []) (hu : X.A.units + 64 < cLine) : CallR X (.builtin "repr") (fun xs H Q => ∃ v d, xs = [v] ∧ Dp X.K H v d ∧ d.showable = true ∧ d.hasDict = false ∧ d.depth ≤ 60 ∧ d.shown.length ≤ sizeLine ∧ Q (.str d.shown) H) := by
  intro pins s σ H xs us Q I r ⟨v, d, ex, hd, hs, hn, hp, hz, q⟩
  subst ex
  obtain ⟨u, rfl, ru⟩ := vals1 r
  obtain ⟨as, rd⟩ := hd.reads I d v u ru
  cases rd with
  | none => exact PySem.P.repr_of_none ⟨.str _, H, I.tok _, ⟨_, rfl⟩, q⟩
  | bool b => exact PySem.P.repr_of_bool ⟨.str _, H, I.tok _, ⟨_, rfl⟩, q⟩
  | int i t => exact PySem.P.repr_of_int (of_decide_eq_true hs) ⟨.str _, H, I.tok _, ⟨_, rfl⟩, q⟩
  | str x t => exact PySem.P.repr_of_str ⟨.str _, H, I.tok _, ⟨_, rfl⟩, q⟩ hz
  | list h1 h2 h3 h4 => exact repr_of_reads' (.list h1 h2 h3 h4) hs (fun z => by rw [hn] at z; cases z) hg (by omega) (fun _ _ h => h) (fun h' u tk hk => ⟨.str _, H, I.kept (t' := tk) hk, ⟨_, rfl⟩, q⟩) hz
  | tuple h1 h2 h3 h4 => exact repr_of_reads' (.tuple h1 h2 h3 h4) hs (fun z => by rw [hn] at z; cases z) hg (by omega) (fun _ _ h => h) (fun h' u tk hk => ⟨.str _, H, I.kept (t' := tk) hk, ⟨_, rfl⟩, q⟩) hz
  | dict => cases hn
theorem o_rep (n : Cn X P W) (hgd : X.A.guards = some []) {a : Expr} {ea : E} {p : Pos} (hg : Gl X "repr") (hm : X.mg "repr" = none) (ha : PA X [a] (tOs P W (evEs Γ (.cons ea .nil))))
    (he : starEach [a] X.env = (false, eval a X.env) :: starEach [] X.env) : PE X (.Call (.Name "repr" p) [a] [] pos) (tE P W (evE Γ (.rep ea))) := by
  refine (pe_callB (id := "repr") (cr_repr hgd n.units) hg hm (by decide +kernel) ha (by decide) (by decide) he (by rfl)).imp fun σ H Q ⟨He, G, ρ, μ, k, kx, w0, sl, hw, t, tx⟩ => ?_
  simp only [evE] at hw
  refine ⟨He, G, ρ, μ, fun vs μ1 => (match vs with
    | [v] => (match toPD v with
      | some d => d.showable = true ∧ d.depth ≤ 60 ∧ d.shown.length ≤ sizeLine ∧ k (.str d.shown) μ1
      | none => False)
    | _ => False), kx, w0, sl, (by simp only [evEs]; exact hw), fun G1 μ1 H1 vs xs e1 w1 r1 h1 => ?_, tx⟩
  dsimp only at h1
  split at h1
  · rename_i v
    split at h1
    · rename_i d hd
      obtain ⟨x, rfl, r⟩ := (r1.toH (sl.ext w0 e1)).one
      have dp := r.pd w1 hd
      rw [n.hK] at dp
      exact ⟨x, d, rfl, dp, h1.1, dict_no _ _ hd, h1.2.1, h1.2.2.1, t G1 μ1 H1 (.str d.shown) _ e1 w1 (.of (.str _)) h1.2.2.2⟩
    · exact h1.elim
  · exact h1.elim
theorem o_ix (n : Cn X P W) {ea ei : E} (ha : PE X a (tO P W (evE Γ ea))) (hb : PE X b (tO P W (evE Γ ei))) (hs : PlainIx b) : PE X (.Subscript a b pos) (tE P W (evE Γ (.ix ea ei))) :=
  (pe_ix (ix_any n.hK) ha hb hs).imp fun σ H Q ⟨He, G, ρ, μ, k, kx, w0, sl, hw, t, tx⟩ => by
    simp only [evE] at hw
    refine ⟨He, G, ρ, μ, _, kx, w0, sl, hw, fun G1 μ1 H1 va x e1 w1 r1 h1 => ⟨He, G1, ρ, μ1, _, kx, w1, sl.ext w0 e1, h1, fun G2 μ2 H2 vi y e2 w2 r2 h2 => ?_, tx.ext e1⟩, tx⟩
    have s2 := (sl.ext w0 e1).ext w1 e2
    have t2 : Then P μ2 H2 G2 (fun v => k v μ2) Q := t.then (e1.trans e2)
    dsimp only at h2
    split at h2
    · rename_i z i hz
      have e := (r2.toH s2).int
      exact ⟨G2, μ2, va.fz, i, _, w2, (r1.ext e2).toH s2, e, t2, by rw [hz]; exact h2⟩
    · rename_i i hn
      have e := (r2.toH s2).int
      refine ⟨G2, μ2, va.fz, i, _, w2, (r1.ext e2).toH s2, e, t2, ?_⟩
      split
      · rename_i z hz
        exact (hn z hz).elim
      · exact h2
    · exact h2.elim
def tOo (P : En) (W : Wex) (w : Env → Mu → (Option Int → Mu → Prop) → KE → Prop) : TO := fun σ H Q => ∃ He G ρ μ k kx, Wf P G μ H ∧ Sl P He G ρ σ H ∧ w ρ μ k kx ∧ (∀ G' μ' H' o, Ext H G H' G' → Wf P G' μ' H' → k o μ' → Q o H') ∧ ThenX P H G kx fun c d H' => W c d σ H'
theorem oo_no : PO X none (tOo P W (evO Γ .no)) := ⟨fun pins s σ H Q I ⟨He, G, ρ, μ, k, kx, w0, sl, hw, t, tx⟩ => (po_none (X := X)).run pins s σ H Q I (t G μ H none (.refl H G) w0 hw)⟩
theorem oo_yes {ea : E} (ha : PE X a (tO P W (evE Γ ea))) : PO X (some a) (tOo P W (evO Γ (.yes ea))) := ⟨fun pins s σ H Q I ⟨He, G, ρ, μ, k, kx, w0, sl, hw, t, tx⟩ => (po_some ha).run pins s σ H Q I (by
  simp only [evO] at hw
  refine ⟨He, G, ρ, μ, _, kx, w0, sl, hw, fun G1 μ1 H1 va x e1 w1 r1 h1 => ?_, tx⟩
  dsimp only at h1
  split at h1
  · rename_i i
    obtain rfl := (r1.toH (sl.ext w0 e1)).int
    exact ⟨i, rfl, t G1 μ1 H1 (some i) e1 w1 h1⟩
  · exact h1.elim)⟩
theorem o_sl (n : Cn X P W) {lo hi : Option Expr} {ea : E} {el eh : Eo} {p2 : Pos} (ha : PE X a (tO P W (evE Γ ea))) (hl : PO X lo (tOo P W (evO Γ el))) (hh : PO X hi (tOo P W (evO Γ eh))) : PE X (.Subscript a (.Slice lo hi none p2) pos) (tE P W (evE Γ (.sl ea el eh))) :=
  (pe_slice (sl_any n.hK) ha hl hh).imp fun σ H Q ⟨He, G, ρ, μ, k, kx, w0, sl, hw, t, tx⟩ => by
    simp only [evE] at hw
    refine ⟨He, G, ρ, μ, _, kx, w0, sl, hw, fun G1 μ1 H1 va x e1 w1 r1 h1 => ⟨He, G1, ρ, μ1, _, kx, w1, sl.ext w0 e1, h1, fun G2 μ2 H2 l e2 w2 h2 => ⟨He, G2, ρ, μ2, _, kx, w2, (sl.ext w0 e1).ext w1 e2, h2, fun G3 μ3 H3 h e3 w3 h3 => ?_, tx.ext (e1.trans e2)⟩, tx.ext e1⟩, tx⟩
    exact ⟨G3, μ3, va.fz, (fun v => k v μ3), w3, ((r1.ext e2).ext e3).toH (((sl.ext w0 e1).ext w1 e2).ext w2 e3), t.then ((e1.trans e2).trans e3), h3⟩
end
end Mi
end

section
-- Mini5
set_option Elab.async false
set_option linter.all false
set_option maxRecDepth 100000
set_option maxHeartbeats 4000000
/-! Mini, part 5: sources, targets, comprehensions -/
namespace Mi
open PySem PySem.Spec PyProof.Rows L2

structure Le (G G' : Wd) : Prop where
  le : ∀ a o, G.F a = some o → G'.F a = some o
  mm : ∀ (k : Nat) a r, G.m[k]? = some (a :: r) → ∃ r', G'.m[k]? = some (a :: r')
theorem Le.refl (G : Wd) : Le G G := ⟨fun _ _ h => h, fun _ _ r h => ⟨r, h⟩⟩
theorem Le.trans {G G1 G2 : Wd} (a : Le G G1) (b : Le G1 G2) : Le G G2 := ⟨fun c o h => b.le c o (a.le c o h), fun k c r h => let ⟨r1, h1⟩ := a.mm k c r h; b.mm k c r1 h1⟩
theorem Ext.toLe {H H' : Hp} {G G' : Wd} (x : Ext H G H' G') : Le G G' := ⟨x.le, x.mm⟩
theorem Rep.le' {P : En} {G G' : Wd} {v : PV} {x : V} (r : Rep P G v x) (l : Le G G') : Rep P G' v x := r.le l.le l.mm
theorem Reps.le' {P : En} {G G' : Wd} {v : List PV} {x : List V} (r : Reps P G v x) (l : Le G G') : Reps P G' v x := r.le l.le l.mm
/-- what is left of the world for a source: true: only what never changes; false: nothing was done to the slots -/
def OkB (f : Bool) (H0 : Hp) (G0 G1 : Wd) (H1 : Hp) : Prop := match f with
  | true => Le G0 G1
  | false => Ext H0 G0 H1 G1
theorem OkB.of {f : Bool} {H0 H1 : Hp} {G0 G1 : Wd} (e : Ext H0 G0 H1 G1) : OkB f H0 G0 G1 H1 := match f with
  | true => e.toLe
  | false => e
theorem OkB.le {f : Bool} {H0 H1 : Hp} {G0 G1 : Wd} (e : OkB f H0 G0 G1 H1) : Le G0 G1 := match f, e with
  | true, e => e
  | false, e => e.toLe
theorem OkB.ext {f : Bool} {H0 H1 H2 : Hp} {G0 G1 G2 : Wd} (e : OkB f H0 G0 G1 H1) (x : Ext H1 G1 H2 G2) : OkB f H0 G0 G2 H2 := match f, e with
  | true, e => e.trans x.toLe
  | false, e => e.trans x
/-- a walker J goes through xs -/
def Wk (P : En) (Ok : Wd → Hp → Prop) (J : It) (xs : List PV) : Prop := ∀ G μ H, Ok G H → Wf P G μ H →
  (∀ i x, xs[i]? = some x → J.go i H ∧ ∀ y H', J.yld i H y H' → ∃ G', Ext H G H' G' ∧ Wf P G' μ H' ∧ Rep P G' x y) ∧ ∀ i, xs.length ≤ i → J.stop i H
/-- a row of operands: frozen (true), or slots' own among them -/
def RepB (f : Bool) (P : En) (G : Wd) (ρ : Env) (σ : L2.St) (vs : List PV) (xs : List V) : Prop := match f with
  | true => Reps P G vs xs
  | false => RepOs P G ρ σ vs xs
def tAs (f : Bool) (P : En) (W : Wex) (w : Env → Mu → (List PV → Mu → Prop) → KE → Prop) : TA := fun σ H Q => ∃ He G ρ μ k kx, Wf P G μ H ∧ Sl P He G ρ σ H ∧ w ρ μ k kx ∧
  (∀ G' μ' H' vs xs, Ext H G H' G' → Wf P G' μ' H' → RepB f P G' ρ σ vs xs → k vs μ' → Q xs H') ∧ ThenX P H G kx fun c d H' => W c d σ H'
/-- a source's reading -/
def tI (f : Bool) (P : En) (W : Wex) (w : Env → Mu → (List PV → Mu → Prop) → KE → Prop) : TI := fun σ H R => ∃ He G ρ μ k kx, Wf P G μ H ∧ Sl P He G ρ σ H ∧ w ρ μ k kx ∧
  (∀ G' μ' H' xs J, Ext H G H' G' → Wf P G' μ' H' → Wk P (OkB f H' G') J xs → k xs μ' → R J H') ∧ ThenX P H G kx fun c d H' => W c d σ H'
theorem RepB.toH {f : Bool} {P : En} {He H : Hp} {G : Wd} {ρ : Env} {σ : L2.St} (s : Sl P He G ρ σ H) {vs : List PV} {xs : List V} (r : RepB f P G ρ σ vs xs) : RepHs P G H vs xs := by
  cases f with
  | true =>
    have r : Reps P G vs xs := r
    exact RepOs.toH (ρ := ρ) (σ := σ) s (RepOs.of r)
  | false => exact RepOs.toH s r
theorem _root_.L2.PI.imp {X : Cx} {tg e : Expr} {t t' : TI} (h : PI X tg e t) (i : ∀ σ H Q, t' σ H Q → t σ H Q) : PI X tg e t' := ⟨fun pins s σ H Q I q => h.run pins s σ H Q I (i σ H Q q)⟩

/-- a sequence at a, as it lies now and later -/
def SeqOk (f : Bool) (P : En) (H : Hp) (G : Wd) (vs : List PV) (S : Hp → List V → Prop) : Prop :=
  ∀ G' H' μ', OkB f H G G' H' → Wf P G' μ' H' → ∃ xs, S H' xs ∧ Reps P G' vs xs
theorem seqOk_tup {f : Bool} {P : En} {H : Hp} {G : Wd} {vs : List PV} {a : Addr} {xs : List V} (h : SqT P.K G.F a xs) (r : Reps P G vs xs) : SeqOk f P H G vs fun H' ys => SqT P.K H' a ys :=
  fun G' H' μ' o w => ⟨xs, sqT_le w.sub (sqT_le o.le.le h), r.le' o.le⟩
theorem seqOk_lst {f : Bool} {P : En} {He H : Hp} {G : Wd} {μ : Mu} {ρ : Env} {σ : L2.St} {vs : List PV} {x : V} (w : Wf P G μ H) (s : Sl P He G ρ σ H) (r : RepB f P G ρ σ [.lst vs] [x]) : ∃ a xs, x = .ref a ∧ SqL P.K H a xs ∧ SeqOk f P H G vs fun H' ys => SqL P.K H' a ys := by
  have froz : ∀ {f}, Rep P G (.lst vs) x → ∃ a xs, x = .ref a ∧ SqL P.K H a xs ∧ SeqOk f P H G vs fun H' ys => SqL P.K H' a ys := fun {f} r => by
    cases r with
    | lst h rr =>
      refine ⟨_, _, rfl, .inl (.inl (w.sub _ _ h)), fun G' H' μ' o w' => ⟨_, .inl (.inl (w'.sub _ _ ((OkB.le o).le _ _ h))), Reps.le' rr (OkB.le o)⟩⟩
  cases f with
  | true =>
    cases (show Reps P G [.lst vs] [x] from r) with
    | cons r _ => exact froz r
  | false =>
    rcases (show RepO P G ρ σ (.lst vs) x ∧ _ from r).1 with r | ⟨i, us, e, h1, h2⟩
    · exact froz r
    · cases e
      obtain ⟨a, xs, h3, h4, h5, h6, h7, h8⟩ := s.ow i _ h1
      rw [h2] at h3
      obtain rfl := Option.some.inj (Option.some.inj h3)
      exact ⟨a, xs, rfl, .inl (.inl h4), fun G' H' μ' o w' => ⟨xs, .inl (.inl (o.fr _ _ h4 h7 (fun _ z => nomatch z))), h5.ext o⟩⟩
theorem wk_seq {f : Bool} {P : En} {H : Hp} {G : Wd} {vs : List PV} {J : It} {S : Hp → List V → Prop} (q : SeqOk f P H G vs S) (go : ∀ {i H xs x}, S H xs → xs[i]? = some x → J.go i H) (yl : ∀ {i H y H'}, J.yld i H y H' → H' = H ∧ ∀ xs, S H xs → xs[i]? = some y) (st : ∀ {i H xs}, S H xs → xs.length ≤ i → J.stop i H) : Wk P (OkB f H G) J vs :=
  fun G' μ' H' o w' => by
    obtain ⟨xs, h1, h2⟩ := q G' H' μ' o w'
    refine ⟨fun i x hx => ?_, fun i hi => st h1 (by rw [← h2.length]; exact hi)⟩
    obtain ⟨y, h3, h4⟩ := h2.get hx
    refine ⟨go h1 h3, fun z H'' hy => ?_⟩
    obtain ⟨rfl, h5⟩ := yl hy
    have e := h5 xs h1
    rw [h3] at e
    obtain rfl := Option.some.inj e
    exact ⟨G', .refl _ _, w', h4⟩

section
variable {X : Cx} {P : En} {W : Wex} {Γ : Gam} {f : Bool}
/-- a sequence that is walked: a list, a tuple -/
def iSeq (K : PySem.W.Frag) (tl : TE) : TI := fun σ H R => tl σ H fun x H1 => ∃ a, x = .ref a ∧ (((∃ xs, SqL K H1 a xs) ∧ R (Itl K a) H1) ∨ ((∃ xs, SqT K H1 a xs) ∧ R (Itt K a) H1))
theorem pi_seq {tg l : Expr} {tl : TE} (hl : PE X l tl) : PI X tg l (iSeq X.K tl) := by
  refine ⟨fun pins s σ H R I h => thn (hl.run pins s σ H _ I h) ?_⟩
  rintro v s1 ⟨x, H1, I1, r1, a, rfl, q⟩
  obtain rfl : v = .ref a := r1
  have fresh : ∀ b ∈ [s1.heap.objs.size], FpOk X pins H1 b := fun b hb => by
    obtain rfl : b = s1.heap.objs.size := by simpa using hb
    exact I1.fpOk (Nat.le_refl _) (I1.hok.fresh (Nat.le_refl _))
  rcases q with ⟨⟨xs, hq⟩, q⟩ | ⟨⟨xs, hq⟩, q⟩
  · obtain ⟨its, rv, p, _⟩ := I1.list hq
    exact wpAny_pyIter_list p.isList ⟨_, [s1.heap.objs.size], _, _, H1, rfl, I1.kept (t' := s1.toks) fun _ _ e => Heap.get?_push_of_some _ e, turn_list a _, ⟨_, Heap.get?_push_size _ rfl, rfl, rfl⟩, fresh, q⟩
  · obtain ⟨its, rv, p, _⟩ := I1.tuple hq
    exact wpAny_pyIter_tuple p ⟨_, [s1.heap.objs.size], _, _, H1, rfl, I1.kept (t' := s1.toks) fun _ _ e => Heap.get?_push_of_some _ e, turn_tuple a _, ⟨_, Heap.get?_push_size _ rfl, rfl, rfl⟩, fresh, q⟩
/-- one operand as a row -/
def tB1 (f : Bool) (P : En) (W : Wex) (w : Env → Mu → KE → KE → Prop) : TE := fun σ H Q => ∃ He G ρ μ k kx, Wf P G μ H ∧ Sl P He G ρ σ H ∧ w ρ μ k kx ∧
  (∀ G' μ' H' v x, Ext H G H' G' → Wf P G' μ' H' → RepB f P G' ρ σ [v.fz] [x] → k v μ' → Q x H') ∧ ThenX P H G kx fun c d H' => W c d σ H'
theorem b1_of {e : Expr} {w : Env → Mu → KE → KE → Prop} (h : PE X e (match f with | true => tE P W w | false => tO P W w)) : PE X e (tB1 f P W w) := by
  cases f with
  | true =>
    refine PE.imp (t := tE P W w) h fun σ H Q ⟨He, G, ρ, μ, k, kx, w0, sl, hw, t, tx⟩ => ⟨He, G, ρ, μ, k, kx, w0, sl, hw, fun G' μ' H' v x e w1 r hk => ?_, tx⟩
    cases v with
    | nls vs =>
      obtain ⟨G2, e2, w2, r2, _, _⟩ := freezeL w1 e r
      exact t G2 μ' H' (.nls vs) x e2 w2 (show Reps P G2 [.lst vs] [x] from .cons r2 .nil) hk
    | _ => exact t G' μ' H' _ x e w1 (show Reps P G' [_] [x] from .cons (Rep.fz r) .nil) hk
  | false => exact PE.imp (t := tO P W w) h fun σ H Q ⟨He, G, ρ, μ, k, kx, w0, sl, hw, t, tx⟩ => ⟨He, G, ρ, μ, k, kx, w0, sl, hw, fun G' μ' H' v x e w1 r hk => t G' μ' H' v x e w1 (show RepOs P G' ρ σ [v.fz] [x] from ⟨r, trivial⟩) hk, tx⟩
theorem reps_ints {G : Wd} : ∀ ns : List Int, Reps P G (ns.map PV.int) (ns.map V.int)
  | [] => .nil
  | n :: ns => .cons (.int n) (reps_ints ns)
theorem i_ex (n : Cn X P W) {tg a : Expr} {ea : E} (ha : PE X a (tB1 f P W (evE Γ ea))) : PI X tg a (tI f P W (evS Γ (.ex ea))) :=
  (pi_seq (tg := tg) ha).imp fun σ H R ⟨He, G, ρ, μ, k, kx, w0, sl, hw, t, tx⟩ => by
    simp only [evS] at hw
    refine ⟨He, G, ρ, μ, _, kx, w0, sl, hw, fun G1 μ1 H1 v x e1 w1 r1 h1 => ?_, tx⟩
    rw [← n.hK]
    cases hv : v.fz with
    | tup vs =>
      rw [hv] at h1 r1
      have r2 : RepH P G1 H1 (.tup vs) x := by
        cases RepB.toH (sl.ext w0 e1) r1 with
        | cons r _ => exact r
      obtain ⟨a, xs, rfl, h2, h3⟩ := r2.tup w1
      cases r2 with
      | fz r2 =>
        cases r2 with
        | tup h4 h5 =>
          exact ⟨a, rfl, .inr ⟨⟨_, h2⟩, t G1 μ1 H1 vs _ e1 w1 (wk_seq (seqOk_tup h4 h5) (fun h h' => ⟨_, _, h, h'⟩) (fun h => h) fun h h' => ⟨_, h, h'⟩) h1⟩⟩
    | lst vs =>
      rw [hv] at h1 r1
      obtain ⟨a, xs, rfl, h2, h3⟩ := seqOk_lst w1 (sl.ext w0 e1) r1
      exact ⟨a, rfl, .inl ⟨⟨_, h2⟩, t G1 μ1 H1 vs _ e1 w1 (wk_seq h3 (fun h h' => ⟨_, _, h, h'⟩) (fun h => h) fun h h' => ⟨_, h, h'⟩) h1⟩⟩
    | scr ns =>
      rw [hv] at h1 r1
      have r2 : RepH P G1 H1 (.scr ns) x := by
        cases RepB.toH (sl.ext w0 e1) r1 with
        | cons r _ => exact r
      cases r2 with
      | fz r2 =>
        cases r2 with
        | scr h4 =>
          refine ⟨_, rfl, .inl ⟨⟨_, sqL_le w1.sub h4⟩, t G1 μ1 H1 _ _ e1 w1 (wk_seq (S := fun H' ys => SqL P.K H' _ ys) (fun G' H' μ' o w' => ⟨ns.map V.int, sqL_le w'.sub (sqL_le o.le.le h4), reps_ints ns⟩) (fun h h' => ⟨_, _, h, h'⟩) (fun h => h) fun h h' => ⟨_, h, h'⟩) h1⟩⟩
    | _ => rw [hv] at h1; exact h1.elim
theorem rngL_get : ∀ {n i : Nat} {lo : Int} {x : PV}, (rngL lo n)[i]? = some x → i < n ∧ x = .int (lo + i)
  | 0, _, _, _, h => by simp [rngL] at h
  | n + 1, 0, lo, x, h => by
    simp [rngL] at h
    exact ⟨Nat.succ_pos _, by rw [← h]; simp⟩
  | n + 1, i + 1, lo, x, h => by
    simp only [rngL, List.getElem?_cons_succ] at h
    obtain ⟨h1, h2⟩ := rngL_get h
    exact ⟨Nat.succ_lt_succ h1, by rw [h2]; congr 1; omega⟩
theorem rngL_len : ∀ {n : Nat} {lo : Int}, (rngL lo n).length = n
  | 0, _ => rfl
  | n + 1, lo => by rw [rngL, List.length_cons, rngL_len]
theorem wk_rng {Ok : Wd → Hp → Prop} {lo : Int} {n : Nat} : Wk P Ok (Itr lo n) (rngL lo n) := fun G μ H o w =>
  ⟨fun i x hx => by
    obtain ⟨h1, rfl⟩ := rngL_get hx
    exact ⟨h1, fun y H' ⟨e1, e2⟩ => by subst e1 e2; exact ⟨G, .refl _ _, w, .int _⟩⟩, fun i hi => by rw [rngL_len] at hi; exact hi⟩
theorem RepHs.nil' {G : Wd} {H : Hp} {xs : List V} (r : RepHs P G H [] xs) : xs = [] := by cases r; rfl
theorem i_rng1 {tg a : Expr} {es : Es} {p pos : Pos} (hg : Gl X "range") (hm : X.mg "range" = none) (ha : PA X [a] (tOs P W (evEs Γ es))) (hs : starEach [a] X.env = [(false, eval a X.env)]) : PI X tg (.Call (.Name "range" p) [a] [] pos) (tI f P W (evS Γ (.rng1 es))) :=
  (pi_range1 (tg := tg) hg hm ha hs).imp fun σ H R ⟨He, G, ρ, μ, k, kx, w0, sl, hw, t, tx⟩ => by
    simp only [evS] at hw
    refine ⟨He, G, ρ, μ, _, kx, w0, sl, hw, fun G1 μ1 H1 vs xs e1 w1 r1 h1 => ?_, tx⟩
    unfold rngK1 at h1
    split at h1
    · obtain ⟨x, rfl, r⟩ := (RepOs.toH (sl.ext w0 e1) r1).one
      obtain rfl := r.int
      exact ⟨_, rfl, h1.1.1, h1.1.2, t G1 μ1 H1 _ _ e1 w1 wk_rng h1.2⟩
    · exact h1.elim
theorem i_rng2 {tg a b : Expr} {es : Es} {p pos : Pos} (hg : Gl X "range") (hm : X.mg "range" = none) (ha : PA X [a, b] (tOs P W (evEs Γ es))) (hs : starEach [a, b] X.env = [(false, eval a X.env), (false, eval b X.env)]) (hs2 : starEach [b] X.env = [(false, eval b X.env)]) : PI X tg (.Call (.Name "range" p) [a, b] [] pos) (tI f P W (evS Γ (.rng2 es))) :=
  (pi_range2 (tg := tg) hg hm ha hs hs2).imp fun σ H R ⟨He, G, ρ, μ, k, kx, w0, sl, hw, t, tx⟩ => by
    simp only [evS] at hw
    refine ⟨He, G, ρ, μ, _, kx, w0, sl, hw, fun G1 μ1 H1 vs xs e1 w1 r1 h1 => ?_, tx⟩
    unfold rngK2 at h1
    split at h1
    · obtain ⟨x, y, rfl, r, r'⟩ := (RepOs.toH (sl.ext w0 e1) r1).two
      obtain rfl := r.int
      obtain rfl := r'.int
      exact ⟨_, _, rfl, h1.1, t G1 μ1 H1 _ _ e1 w1 wk_rng h1.2⟩
    · exact h1.elim
theorem new_tup {G : Wd} {μ : Mu} {H : Hp} {T : Addr} {vs : List PV} {xs : List V} (w : Wf P G μ H) (h : H T = none) (r : Reps P G vs xs) : ∃ G', Ext H G (upd H T (.tup xs)) G' ∧ Wf P G' μ (upd H T (.tup xs)) ∧ Rep P G' (.tup vs) (.ref T) :=
  ⟨G.put T (.tup xs), Ext.new w h, w.new h, .tup (.inl (.inl upd_same)) (r.ext (Ext.new w h))⟩
theorem wk_zip {H : Hp} {G : Wd} {vs us : List PV} {J : It} {S S' : Hp → List V → Prop} (q : SeqOk f P H G vs S) (q' : SeqOk f P H G us S') (go : ∀ {i H xs ys x y}, S H xs → S' H ys → xs[i]? = some x → ys[i]? = some y → J.go i H)
    (yl : ∀ {i H z H'}, J.yld i H z H' → ∃ T x y, z = .ref T ∧ H T = none ∧ H' = upd H T (.tup [x, y]) ∧ (∀ xs, S H xs → xs[i]? = some x) ∧ ∀ ys, S' H ys → ys[i]? = some y)
    (st : ∀ {i H xs ys}, S H xs → S' H ys → (xs.length ≤ i ∨ ys.length ≤ i) → J.stop i H) : Wk P (OkB f H G) J (vs.zipWith (fun x y => PV.tup [x, y]) us) :=
  fun G' μ' H' o w' => by
    obtain ⟨xs, h1, h2⟩ := q G' H' μ' o w'
    obtain ⟨ys, h1', h2'⟩ := q' G' H' μ' o w'
    refine ⟨fun i x hx => ?_, fun i hi => st h1 h1' ?_⟩
    · rw [List.getElem?_zipWith] at hx
      split at hx
      · rename_i v u hv hu
        cases hx
        obtain ⟨x, h3, h4⟩ := h2.get hv
        obtain ⟨y, h3', h4'⟩ := h2'.get hu
        refine ⟨go h1 h1' h3 h3', fun z H'' hz => ?_⟩
        obtain ⟨T, x1, y1, rfl, hT, rfl, h5, h6⟩ := yl hz
        have e := h5 xs h1
        have e' := h6 ys h1'
        rw [h3] at e
        rw [h3'] at e'
        obtain rfl := Option.some.inj e
        obtain rfl := Option.some.inj e'
        exact new_tup w' hT (.cons h4 (.cons h4' .nil))
      · cases hx
    · rw [List.length_zipWith, h2.length, h2'.length] at hi
      omega
theorem RepB.two {G : Wd} {ρ : Env} {σ : L2.St} {v u : PV} {xs : List V} (r : RepB f P G ρ σ [v, u] xs) : ∃ x y, xs = [x, y] ∧ RepB f P G ρ σ [v] [x] ∧ RepB f P G ρ σ [u] [y] := by
  cases f with
  | true =>
    cases (show Reps P G [v, u] xs from r) with
    | cons q s =>
      cases s with
      | cons q' s =>
        cases s
        exact ⟨_, _, rfl, show Reps _ _ _ _ from .cons q .nil, show Reps _ _ _ _ from .cons q' .nil⟩
  | false =>
    have r : RepOs P G ρ σ [v, u] xs := r
    cases xs with
    | nil => exact r.elim
    | cons x s =>
      cases s with
      | nil => exact r.2.elim
      | cons y s =>
        cases s with
        | cons _ _ => exact r.2.2.elim
        | nil => exact ⟨x, y, rfl, show RepOs _ _ _ _ _ _ from ⟨r.1, trivial⟩, show RepOs _ _ _ _ _ _ from ⟨r.2.1, trivial⟩⟩
theorem seqOk_tupB {He H : Hp} {G : Wd} {μ : Mu} {ρ : Env} {σ : L2.St} {vs : List PV} {x : V} (w : Wf P G μ H) (r : RepB f P G ρ σ [.tup vs] [x]) : ∃ a xs, x = .ref a ∧ SqT P.K H a xs ∧ SeqOk f P H G vs fun H' ys => SqT P.K H' a ys := by
  have froz : Rep P G (.tup vs) x := by
    cases f with
    | true =>
      cases (show Reps P G [.tup vs] [x] from r) with
      | cons r _ => exact r
    | false =>
      rcases (show RepO P G ρ σ (.tup vs) x ∧ _ from r).1 with r | ⟨i, us, e, _⟩
      · exact r
      · cases e
  cases froz with
  | tup h q => exact ⟨_, _, rfl, sqT_le w.sub h, seqOk_tup h q⟩
theorem i_zip (n : Cn X P W) {a b : Expr} {es : Es} {p pos tpos : Pos} {elts : List Expr} {kk : Nat} (hg : Gl X "zip") (hm : X.mg "zip" = none) (ha : PA X [a, b] (tAs f P W (evEs Γ es)))
    (hs : starEach [a, b] X.env = (false, eval a X.env) :: starEach [b] X.env) (hpl : (backTo pos (starEach [b] X.env)).any (·.1) = false) : PI X (.Tuple elts kk tpos) (.Call (.Name "zip" p) [a, b] [] pos) (tI f P W (evS Γ (.zip es))) :=
  (RZ.pi_zipA hg hm ha hs hpl).imp fun σ H R ⟨He, G, ρ, μ, k, kx, w0, sl, hw, t, tx⟩ => by
    simp only [evS] at hw
    refine ⟨He, G, ρ, μ, _, kx, w0, sl, hw, fun G1 μ1 H1 vs xs e1 w1 r1 h1 => ?_, tx⟩
    rw [← n.hK]
    unfold zipK at h1
    split at h1
    · obtain ⟨x, y, rfl, r, r'⟩ := r1.two
      obtain ⟨a, xs, rfl, h2, h3⟩ := seqOk_lst w1 (sl.ext w0 e1) r
      obtain ⟨b, ys, rfl, h2', h3'⟩ := seqOk_lst w1 (sl.ext w0 e1) r'
      exact ⟨a, b, xs, ys, rfl, .inl ⟨h2, h2', t G1 μ1 H1 _ _ e1 w1 (wk_zip h3 h3' (fun a b c d => ⟨_, _, _, _, a, b, c, d⟩) (fun h => h) fun a b c => ⟨_, _, a, b, c⟩) h1⟩⟩
    · obtain ⟨x, y, rfl, r, r'⟩ := r1.two
      obtain ⟨a, xs, rfl, h2, h3⟩ := seqOk_tupB (He := He) w1 r
      obtain ⟨b, ys, rfl, h2', h3'⟩ := seqOk_tupB (He := He) w1 r'
      exact ⟨a, b, xs, ys, rfl, .inr ⟨h2, h2', t G1 μ1 H1 _ _ e1 w1 (wk_zip h3 h3' (fun a b c d => ⟨_, _, _, _, a, b, c, d⟩) (fun h => h) fun a b c => ⟨_, _, a, b, c⟩) h1⟩⟩
    · exact h1.elim
theorem enumL_get : ∀ {vs : List PV} {i : Nat} {lo : Int} {x : PV}, (enumL lo vs)[i]? = some x → ∃ v, vs[i]? = some v ∧ x = .tup [.int (lo + i), v]
  | [], _, _, _, h => by simp [enumL] at h
  | v :: vs, 0, lo, x, h => by
    simp [enumL] at h
    exact ⟨v, rfl, by rw [← h]; simp⟩
  | v :: vs, i + 1, lo, x, h => by
    simp only [enumL, List.getElem?_cons_succ] at h
    obtain ⟨u, h1, h2⟩ := enumL_get h
    exact ⟨u, by simpa using h1, by rw [h2]; congr 3; omega⟩
theorem enumL_len : ∀ {vs : List PV} {lo : Int}, (enumL lo vs).length = vs.length
  | [], _ => rfl
  | v :: vs, lo => by rw [enumL, List.length_cons, enumL_len, List.length_cons]
theorem RepB.one {G : Wd} {ρ : Env} {σ : L2.St} {v : PV} {xs : List V} (r : RepB f P G ρ σ [v] xs) : ∃ x, xs = [x] ∧ RepB f P G ρ σ [v] [x] := by
  cases f with
  | true =>
    cases (show Reps P G [v] xs from r) with
    | cons q s =>
      cases s
      exact ⟨_, rfl, show Reps _ _ _ _ from .cons q .nil⟩
  | false =>
    have r' : RepOs P G ρ σ [v] xs := r
    cases xs with
    | nil => exact r'.elim
    | cons x s =>
      cases s with
      | nil => exact ⟨x, rfl, r⟩
      | cons y s => exact r'.2.elim
theorem i_enum (n : Cn X P W) {a : Expr} {es : Es} {p pos tpos : Pos} {elts : List Expr} {kk : Nat} (hg : Gl X "enumerate") (hm : X.mg "enumerate" = none) (ha : PA X [a] (tAs f P W (evEs Γ es)))
    (hs : starEach [a] X.env = [(false, eval a X.env)]) : PI X (.Tuple elts kk tpos) (.Call (.Name "enumerate" p) [a] [] pos) (tI f P W (evS Γ (.enum es))) :=
  (pi_enumT hg hm ha hs).imp fun σ H R ⟨He, G, ρ, μ, k, kx, w0, sl, hw, t, tx⟩ => by
    simp only [evS] at hw
    refine ⟨He, G, ρ, μ, _, kx, w0, sl, hw, fun G1 μ1 H1 vs xs e1 w1 r1 h1 => ?_, tx⟩
    rw [← n.hK]
    unfold enumK at h1
    split at h1
    · obtain ⟨x, rfl, r⟩ := r1.one
      obtain ⟨a, xs, rfl, h2, h3⟩ := seqOk_lst w1 (sl.ext w0 e1) r
      refine ⟨a, rfl, .inl ⟨⟨xs, h2⟩, t G1 μ1 H1 _ _ e1 w1 (fun G' μ' H' o w' => ?_) h1⟩⟩
      obtain ⟨ys, h4, h5⟩ := h3 G' H' μ' o w'
      refine ⟨fun i x hx => ?_, fun i hi => ⟨ys, h4, by rw [← h5.length]; rw [enumL_len] at hi; exact hi⟩⟩
      obtain ⟨v, hv, rfl⟩ := enumL_get hx
      obtain ⟨y, h6, h7⟩ := h5.get hv
      refine ⟨⟨ys, y, h4, h6⟩, fun z H'' ⟨T, x1, e1, hT, e2, h8⟩ => ?_⟩
      subst e1 e2
      have e := h8 ys h4
      rw [h6] at e
      obtain rfl := Option.some.inj e
      rw [Int.zero_add]
      exact new_tup w' hT (.cons (.int _) (.cons h7 .nil))
    · obtain ⟨x, rfl, r⟩ := r1.one
      obtain ⟨a, xs, rfl, h2, h3⟩ := seqOk_tupB (He := He) w1 r
      refine ⟨a, rfl, .inr ⟨⟨xs, h2⟩, t G1 μ1 H1 _ _ e1 w1 (fun G' μ' H' o w' => ?_) h1⟩⟩
      obtain ⟨ys, h4, h5⟩ := h3 G' H' μ' o w'
      refine ⟨fun i x hx => ?_, fun i hi => ⟨ys, h4, by rw [← h5.length]; rw [enumL_len] at hi; exact hi⟩⟩
      obtain ⟨v, hv, rfl⟩ := enumL_get hx
      obtain ⟨y, h6, h7⟩ := h5.get hv
      refine ⟨⟨ys, y, h4, h6⟩, fun z H'' ⟨T, x1, e1, hT, e2, h8⟩ => ?_⟩
      subst e1 e2
      have e := h8 ys h4
      rw [h6] at e
      obtain rfl := Option.some.inj e
      rw [Int.zero_add]
      exact new_tup w' hT (.cons (.int _) (.cons h7 .nil))
    · exact h1.elim
end
end Mi
end

section
-- Mini6
set_option Elab.async false
set_option linter.all false
set_option maxRecDepth 100000
set_option maxHeartbeats 4000000
/-! Mini, part 6: slots, targets, comprehensions -/
namespace Mi
open PySem PySem.Spec PyProof.Rows L2

section
variable {P : En} {G G' : Wd} {H H' He H0 : Hp} {ρ : Env} {σ : L2.St} {μ : Mu}
theorem Rep.noOwn {v : PV} {x : V} (r : Rep P G v x) : v.own = false := by cases r <;> rfl
theorem get_set {α : Type} {l : List α} {i j : Nat} {v w : α} (h : (l.set i v)[j]? = some w) : (i = j ∧ w = v ∧ i < l.length) ∨ (i ≠ j ∧ l[j]? = some w) := by
  by_cases e : i = j
  · subst e
    by_cases hl : i < l.length
    · rw [List.getElem?_set_self hl] at h
      cases h
      exact .inl ⟨rfl, rfl, hl⟩
    · rw [List.getElem?_eq_none (by simpa using hl)] at h
      cases h
  · rw [List.getElem?_set_ne e] at h
    exact .inr ⟨e, h⟩
/-- a frozen value is put at a slot -/
theorem Sl.setF (s : Sl P He G ρ σ H) {v : PV} {x : V} (r : Rep P G v x) (i : Nat) : Sl P He G (ρ.set i (some v)) (σ.set i (some x)) H where
  len := by simp [s.len]
  fz := fun j u h n => by
    rcases get_set h with ⟨rfl, e, hl⟩ | ⟨ne, h⟩
    · cases e
      exact ⟨x, by rw [List.getElem?_set_self (by rw [← s.len]; exact hl)], r⟩
    · rw [List.getElem?_set_ne ne]
      exact s.fz j u h n
  ow := fun j vs h => by
    rcases get_set h with ⟨rfl, e, hl⟩ | ⟨ne, h⟩
    · cases e
      exact absurd r Rep.nonls
    · rw [List.getElem?_set_ne ne]
      exact s.ow j vs h
  oi := fun j c fs vs h => by
    rcases get_set h with ⟨rfl, e, hl⟩ | ⟨ne, h⟩
    · cases e
      cases r
    · rw [List.getElem?_set_ne ne]
      exact s.oi j c fs vs h
  sep := fun j l w u a ne h1 h2 o1 o2 h3 h4 => by
    rcases get_set h1 with ⟨rfl, e, hl⟩ | ⟨n1, h1⟩
    · cases e
      rw [r.noOwn] at o1; cases o1
    rcases get_set h2 with ⟨rfl, e, hl⟩ | ⟨n2, h2⟩
    · cases e
      rw [r.noOwn] at o2; cases o2
    rw [List.getElem?_set_ne n1] at h3
    rw [List.getElem?_set_ne n2] at h4
    exact s.sep j l w u a ne h1 h2 o1 o2 h3 h4
/-- a slot is forgotten -/
theorem Sl.setN (s : Sl P He G ρ σ H) (i : Nat) : Sl P He G (ρ.set i none) (σ.set i none) H where
  len := by simp [s.len]
  fz := fun j u h n => by
    rcases get_set h with ⟨rfl, e, hl⟩ | ⟨ne, h⟩
    · cases e
    · rw [List.getElem?_set_ne ne]
      exact s.fz j u h n
  ow := fun j vs h => by
    rcases get_set h with ⟨rfl, e, hl⟩ | ⟨ne, h⟩
    · cases e
    · rw [List.getElem?_set_ne ne]
      exact s.ow j vs h
  oi := fun j c fs vs h => by
    rcases get_set h with ⟨rfl, e, hl⟩ | ⟨ne, h⟩
    · cases e
    · rw [List.getElem?_set_ne ne]
      exact s.oi j c fs vs h
  sep := fun j l w u a ne h1 h2 o1 o2 h3 h4 => by
    rcases get_set h1 with ⟨rfl, e, hl⟩ | ⟨n1, h1⟩
    · cases e
    rcases get_set h2 with ⟨rfl, e, hl⟩ | ⟨n2, h2⟩
    · cases e
    rw [List.getElem?_set_ne n1] at h3
    rw [List.getElem?_set_ne n2] at h4
    exact s.sep j l w u a ne h1 h2 o1 o2 h3 h4
theorem Sl.wipe (s : Sl P He G ρ σ H) : ∀ vs : List Nat, Sl P He G (wipeE ρ vs) (L2.wipe σ vs) H
  | [] => s
  | v :: vs => (s.wipe vs).setN v
/-- where a slot's own thing lies -/
theorem Sl.at (s : Sl P He G ρ σ H) {i : Nat} {v : PV} (h : ρ[i]? = some (some v)) (o : v.own = true) : ∃ a u, σ[i]? = some (some (.ref a)) ∧ H a = some u ∧ G.F a = none ∧ a ∉ G.m.flatten ∧ He a = none := by
  cases v with
  | nls vs =>
    obtain ⟨a, xs, h1, h2, h3, h4, h5, h6⟩ := s.ow i vs h
    exact ⟨a, _, h1, h2, h4, h5, h6⟩
  | nin c fs vs =>
    obtain ⟨a, C, dx, xs, h1, h0, h2, h7, h3, h4, h5, h6, _⟩ := s.oi i c fs vs h
    exact ⟨a, _, h1, h2, h4, h5, h6⟩
  | _ => cases o
/-- the slots' own things lay already -/
def OldS (ρ : Env) (σ : L2.St) (H0 : Hp) : Prop := ∀ (j : Nat) (w : PV) (b : Addr), ρ[j]? = some (some w) → w.own = true → σ[j]? = some (some (V.ref b)) → H0 b ≠ none
theorem Sl.old (s : Sl P He G ρ σ H) : OldS ρ σ H := fun j w b h1 o h2 e => by
  obtain ⟨c, u, q1, q2, _⟩ := s.at h1 o
  rw [h2] at q1
  cases q1
  rw [e] at q2
  cases q2
theorem OldS.mono {H1 : Hp} (o : OldS ρ σ H0) (dm : ∀ a, H1 a = none → H0 a = none) : OldS ρ σ H1 := fun j w b h1 o1 h2 e => o j w b h1 o1 h2 (dm b e)
/-- a value that was handed on is put at a slot -/
theorem Sl.setR (s : Sl P He G ρ σ H) (od : OldS ρ σ H0) (dm : ∀ a, H0 a = none → He a = none) {v : PV} {x : V} (r : RepR P H0 G H v x) (i : Nat) : Sl P He G (ρ.set i (some v)) (σ.set i (some x)) H := by
  cases v with
  | nls vs =>
    obtain ⟨a, xs, rfl, h2, h3, h4, h5, h6⟩ := r
    refine ⟨by simp [s.len], fun j u h n => ?_, fun j us h => ?_, fun j c fs us h => ?_, fun j l w u b ne h1 h2' o1 o2 h3' h4' => ?_⟩
    · rcases get_set h with ⟨rfl, e, hl⟩ | ⟨ne, h⟩
      · cases e; cases n
      · rw [List.getElem?_set_ne ne]
        exact s.fz j u h n
    · rcases get_set h with ⟨rfl, e, hl⟩ | ⟨ne, h⟩
      · cases e
        exact ⟨a, xs, by rw [List.getElem?_set_self (by rw [← s.len]; exact hl)], h2, h3, h4, h5, dm a h6⟩
      · rw [List.getElem?_set_ne ne]
        exact s.ow j us h
    · rcases get_set h with ⟨rfl, e, hl⟩ | ⟨ne, h⟩
      · cases e
      · rw [List.getElem?_set_ne ne]
        exact s.oi j c fs us h
    · have old : ∀ {j : Nat} {w : PV} {b : Addr}, ρ[j]? = some (some w) → w.own = true → σ[j]? = some (some (V.ref b)) → b ≠ a := fun {j w b} h1 o h2 e => od j w b h1 o h2 (by rw [e]; exact h6)
      rcases get_set h1 with ⟨rfl, e, hl⟩ | ⟨n1, h1⟩
      · rcases get_set h2' with ⟨rfl, e, hl⟩ | ⟨n2, h2'⟩
        · exact ne rfl
        · rw [List.getElem?_set_self (by rw [← s.len]; exact hl)] at h3'
          rw [List.getElem?_set_ne n2] at h4'
          cases h3'
          exact old h2' o2 h4' rfl
      · rw [List.getElem?_set_ne n1] at h3'
        rcases get_set h2' with ⟨rfl, e, hl⟩ | ⟨n2, h2'⟩
        · rw [List.getElem?_set_self (by rw [← s.len]; exact hl)] at h4'
          cases h4'
          exact old h1 o1 h3' rfl
        · rw [List.getElem?_set_ne n2] at h4'
          exact s.sep j l w u b ne h1 h2' o1 o2 h3' h4'
  | _ => exact s.setF (show Rep P G _ x from r) i
theorem wipeE_len : ∀ vs : List Nat, (wipeE ρ vs).length = ρ.length
  | [] => rfl
  | v :: vs => by rw [wipeE, List.length_set, wipeE_len vs]
theorem wipe_set {x : Option V} {i : Nat} : ∀ {vs : List Nat}, i ∈ vs → L2.wipe (σ.set i x) vs = L2.wipe σ vs
  | [], h => by cases h
  | v :: vs, h => by
    unfold L2.wipe
    by_cases e : i ∈ vs
    · rw [wipe_set e]
    · have ev : v = i := by
        rcases List.mem_cons.mp h with h | h
        · exact h.symm
        · exact absurd h e
      subst ev
      have aux : ∀ {us : List Nat}, v ∉ us → L2.wipe (σ.set v x) us = (L2.wipe σ us).set v x := fun {us} => by
        induction us with
        | nil => intro _; rfl
        | cons u us ih =>
          intro hn
          unfold L2.wipe
          rw [ih (fun z => hn (List.mem_cons_of_mem _ z)), List.set_comm _ _ (fun z => hn (by rw [z]; exact List.mem_cons_self))]
      rw [aux e, List.set_set]
theorem wipe_wipe : ∀ {us vs : List Nat}, (∀ i ∈ us, i ∈ vs) → L2.wipe (L2.wipe σ us) vs = L2.wipe σ vs
  | [], _, _ => rfl
  | u :: us, vs, h => by
    show L2.wipe ((L2.wipe σ us).set u none) vs = _
    rw [wipe_set (h u List.mem_cons_self), wipe_wipe fun i hi => h i (List.mem_cons_of_mem _ hi)]
end

/-! ### targets -/
def Tg.ixs : Tg → List Nat
  | .nm i => [i]
  | .tp is => is
def gNames : List Nat → TGs
  | [] => gNil
  | i :: is => gCons (gName i) (gNames is)
def gTg (K : PySem.W.Frag) : Tg → TG
  | .nm i => gName i
  | .tp is => gTup K is.length (gNames is)
section
variable {P : En} {G G' : Wd} {H H' He H0 : Hp} {σ : L2.St} {μ : Mu}
theorem gNames_go {Q : L2.St → Hp → Prop} : ∀ {is : List Nat} {vs : List PV} {xs : List V} {ρ : Env} {σ : L2.St}, is.length = vs.length → Sl P He G ρ σ H → Reps P G vs xs →
    (∀ σ1, Sl P He G ((is.zip vs).foldl (fun ρ p => ρ.set p.1 (some p.2)) ρ) σ1 H → (∀ us : List Nat, (∀ i ∈ is, i ∈ us) → L2.wipe σ1 us = L2.wipe σ us) → Q σ1 H) → gNames is xs σ H Q
  | [], [], _, ρ, σ, _, s, .nil, q => ⟨rfl, q σ s fun _ _ => rfl⟩
  | i :: is, v :: vs, _, ρ, σ, h, s, .cons (x := x) (xs := xs) r t, q => ⟨x, xs, rfl, gNames_go (is := is) (by simpa using h) (s.setF r i) t fun σ1 s1 w1 => q σ1 s1 fun us hu => by
      rw [w1 us fun j hj => hu j (List.mem_cons_of_mem _ hj), wipe_set (hu i List.mem_cons_self)]⟩
  | [], _ :: _, _, _, _, h, _, _, _ => by simp at h
  | _ :: _, [], _, _, _, h, _, _, _ => by simp at h
theorem gTg_go {tg : Tg} {Q : L2.St → Hp → Prop} {v : PV} {x : V} {ρ ρ1 : Env} {K : PySem.W.Frag} (hK : P.K = K) (w : Wf P G μ H) (s : Sl P He G ρ σ H) (r : Rep P G v x) (h : bindTg tg v ρ = some ρ1)
    (q : ∀ σ1, Sl P He G ρ1 σ1 H → (∀ us : List Nat, (∀ i ∈ tg.ixs, i ∈ us) → L2.wipe σ1 us = L2.wipe σ us) → Q σ1 H) : gTg K tg x σ H Q := by
  cases tg with
  | nm i =>
    simp only [bindTg, Option.some.injEq] at h
    subst h
    exact q _ (s.setF r i) fun us hu => wipe_set (hu i (by simp [Tg.ixs]))
  | tp is =>
    cases r with
    | tup h1 h2 =>
      simp only [bindTg] at h
      split at h
      · rename_i hl
        cases h
        subst hK
        exact ⟨_, _, rfl, sqT_le w.sub h1, by rw [hl, h2.length], gNames_go hl s h2 q⟩
      · cases h
    | _ => simp [bindTg] at h
end

/-! ### comprehensions -/
/-- a clause's test -/
def tCt (P : En) (w : Env → Mu → (Bool → Mu → Prop) → Prop) : TT := fun σ H Q => ∃ He G ρ μ k, Wf P G μ H ∧ Sl P He G ρ σ H ∧ w ρ μ k ∧ ∀ G' μ' H' b, Ext H G H' G' → Wf P G' μ' H' → k b μ' → Q b H'
abbrev noW : Wex := fun _ _ _ _ => False
section
variable {X : Cx} {P : En} {W : Wex} {Γ : Gam}
theorem _root_.L2.PTs.imp {X : Cx} {e : List Expr} {t t' : TT} (h : PTs X e t) (i : ∀ σ H Q, t' σ H Q → t σ H Q) : PTs X e t' := ⟨fun pins s σ H Q I q => h.run pins s σ H Q I (i σ H Q q)⟩
theorem ct_no : PTs X [] (tCt P (evC Γ .no)) := pts_nil.imp fun σ H Q ⟨He, G, ρ, μ, k, w0, sl, hw, t⟩ => by
  simp only [evC] at hw
  exact t G μ H true (.refl H G) w0 hw
theorem ct_yes {c : Expr} {ec : E} (h : PT X c (tV P noW (evE Γ ec))) : PTs X [c] (tCt P (evC Γ (.yes ec))) := (pts_one h).imp fun σ H Q ⟨He, G, ρ, μ, k, w0, sl, hw, t⟩ => by
  simp only [evC] at hw
  refine ⟨He, G, ρ, μ, _, noX, w0, sl, hw, fun G1 μ1 H1 v x e1 w1 r1 h1 => ?_, .no⟩
  unfold trK at h1
  split at h1
  · rename_i b hb
    exact ⟨b, hb, t G1 μ1 H1 b e1 w1 h1⟩
  · exact h1.elim
theorem MoOk.keep' {H H' : Hp} {G : Wd} {mo : MO} {fp : List Addr} (h : MoOk P G H mo fp) (k : ∀ a, a ∈ fp → H' a = H a) : MoOk P G H' mo fp := by
  cases mo with
  | st gs cs l t =>
    obtain ⟨S, g, c, rfl, h1, h2, h3, h4⟩ := h
    refine ⟨S, g, c, rfl, ?_, ?_, h3, h4⟩
    · rw [k S (by simp)]; exact h1
    · rw [k g (by simp)]; exact h2
  | bx vs =>
    obtain ⟨a, xs, rfl, h1, h2⟩ := h
    exact ⟨a, xs, rfl, by rw [k a (by simp)]; exact h1, h2⟩
  | tb q =>
    obtain ⟨a, ps, rfl, h1, h2⟩ := h
    exact ⟨a, ps, rfl, by rw [k a (by simp)]; exact h1, h2⟩
/-- a list of the frame's own is written -/
theorem Ext.own {H0 H : Hp} {G0 G : Wd} {D : Addr} {o : HO} (e : Ext H0 G0 H G) (n : H0 D = none) : Ext H0 G0 (upd H D o) G where
  me := e.me
  le := e.le
  nw := e.nw
  fr := fun a u h hn nt => by
    have ne : a ≠ D := fun z => by rw [z, n] at h; cases h
    rw [upd_ne ne]
    exact e.fr a u h hn nt
  dm := fun a h => by
    by_cases z : a = D
    · rw [z]; exact n
    · rw [upd_ne z] at h
      exact e.dm a h
  mm := e.mm
  mf := e.mf
theorem Wf.own {H : Hp} {G : Wd} {μ : Mu} {D : Addr} {o : HO} (w : Wf P G μ H) (h4 : G.F D = none) (h5 : D ∉ G.m.flatten) : Wf P G μ (upd H D o) where
  sub := fun a u h => by
    have ne : a ≠ D := fun z => by rw [z, h4] at h; cases h
    rw [upd_ne ne]
    exact w.sub a u h
  mF := fun a h => by
    have ne : a ≠ D := fun z => h5 (by rw [← z]; exact h)
    rw [upd_ne ne]
    exact w.mF a h
  len := w.len
  ob := fun k mo fp h1 h2 => MoOk.keep' (w.ob k mo fp h1 h2) fun a ha => by
    have ne : a ≠ D := fun z => h5 (by rw [← z]; exact mem_flat h2 ha)
    rw [upd_ne ne]
  dj := w.dj
  tb := w.tb
theorem lc_of {own : List (Str × Nat)} {tg : Tg} {es : Sr} {ec : Eo} {ee : E} (hK : P.K = X.K) (htg : ∀ i ∈ tg.ixs, i ∈ own.map (·.2)) {σ : L2.St} {H : Hp} {Q : VK} (h : tE P W (evE Γ (.comp own tg es ec ee)) σ H Q) :
    tLc (tI false P W (evS Γ es)) (gTg X.K tg) (tCt P (evC Γ ec)) (tE P noW (evE Γ ee)) (own.map (·.2)) σ H Q := by
  obtain ⟨He, G, ρ, μ, k, kx, w0, sl, hw, t, tx⟩ := h
  simp only [evE] at hw
  generalize hvs : own.map (·.2) = vs at *
  refine ⟨He, G, ρ, μ, _, kx, w0, sl, hw, fun G1 μ1 H1 xs J e1 w1 wk h1 D hD => ?_, tx⟩
  let c : Env → Mu → (Bool → Mu → Prop) → Prop := fun ρ1 μ2 K2 => evC Γ ec ρ1 μ2 K2
  let el : Env → Mu → KE → Prop := fun ρ1 μ2 K2 => evE Γ ee ρ1 μ2 K2 noX
  let St : Nat → Hp → Prop := fun i H' => ∃ G' μ' acc ys, Ext H1 G1 H' G' ∧ Wf P G' μ' H' ∧ H' D = some (.lst ys) ∧ Reps P G' acc ys ∧ G'.F D = none ∧ D ∉ G'.m.flatten ∧ compL (bindTg tg) c el (wipeE ρ vs) (xs.drop i) acc μ' fun vs μ2 => k (.nls vs) μ2
  refine ⟨fun i m H' => m = xs.length - i ∧ i ≤ xs.length ∧ St i H', ⟨xs.length, by simp, Nat.zero_le _, G1, μ1, [], [], Ext.newL w1 hD, w1.newL hD, upd_same, .nil, w1.noF hD, w1.nomem hD, h1⟩, ?_⟩
  rintro i m H' ⟨rfl, hi, G', μ', acc, ys, e2, w2, hL, rp, nF, nm, hc⟩
  have s2 : Sl P He G' (wipeE ρ vs) (L2.wipe σ vs) H' := ((sl.ext w0 e1).ext w1 e2).wipe vs
  obtain ⟨go, st⟩ := wk G' μ' H' e2 w2
  by_cases hlt : i < xs.length
  · have hx : xs[i]? = some xs[i] := List.getElem?_eq_getElem hlt
    obtain ⟨g1, g2⟩ := go i _ hx
    refine .inr ⟨g1, fun H'' => St (i + 1) H'', fun H'' p => ⟨_, by omega, rfl, hlt, p⟩, fun y H3 hy => ?_⟩
    obtain ⟨G3, e3, w3, r3⟩ := g2 y H3 hy
    rw [List.drop_eq_getElem_cons hlt] at hc
    simp only [compL] at hc
    split at hc
    · exact hc.elim
    · rename_i ρ1 hb
      refine gTg_go hK w3 (s2.ext w2 e3) r3 hb fun σ2 s3 hwp => ⟨by rw [hwp vs htg, wipe_wipe fun i hi => hi], He, G3, ρ1, μ', _, w3, s3, hc, fun G4 μ4 H4 b e4 w4 hb => ?_⟩
      have e34 := e3.trans e4
      have hL4 : H4 D = some (.lst ys) := e34.fr D _ hL nm (fun _ z => nomatch z)
      have nF4 : G4.F D = none := e34.noF nF hL
      have nm4 : D ∉ G4.m.flatten := e34.nom nm hL
      cases b with
      | false =>
        rw [if_neg Bool.false_ne_true] at hb
        exact show St (i + 1) H4 from ⟨G4, μ4, acc, ys, e2.trans e34, w4, hL4, rp.ext e34, nF4, nm4, hb⟩
      | true =>
        rw [if_pos rfl] at hb
        show tE P noW (evE Γ ee) σ2 H4 _
        refine ⟨He, G4, ρ1, μ4, _, noX, w4, s3.ext w3 e4, hb, fun G5 μ5 H5 v z e5 w5 r5 h5 => ?_, .no⟩
        have e35 := e34.trans e5
        have hL5 : H5 D = some (.lst ys) := e35.fr D _ hL nm (fun _ z => nomatch z)
        have fin : ∀ {G6 : Wd}, Ext H4 G4 H5 G6 → Wf P G6 μ5 H5 → Rep P G6 v.fz z → St (i + 1) (upd H5 D (.lst (ys ++ [z]))) := fun {G6} e6 w6 r6 => by
          have e36 := e34.trans e6
          have nF6 : G6.F D = none := e36.noF nF hL
          have nm6 : D ∉ G6.m.flatten := e36.nom nm hL
          have mm : ∀ {G : Wd}, Le G G := fun {G} => .refl G
          exact ⟨G6, μ5, acc ++ [v.fz], ys ++ [z], (e2.trans e36).own hD, w6.own nF6 nm6, upd_same, (rp.ext e36).append (.cons r6 .nil), nF6, nm6, h5.2⟩
        refine ⟨ys, hL5, by rw [← rp.length]; exact h5.1, ?_⟩
        cases v with
        | nls us =>
          obtain ⟨G6, e6, w6, r6, _, _⟩ := freezeL w5 e5 r5
          exact fin e6 w6 r6
        | _ => exact fin e5 w5 (Rep.fz r5)
  · have e : i = xs.length := by omega
    subst e
    rw [List.drop_length] at hc
    exact .inl ⟨st _ (Nat.le_refl _), t G' μ' H' (.nls acc) (.ref D) (e1.trans e2) w2 ⟨D, ys, rfl, hL, rp, nF, nm, e1.dm D hD⟩ hc⟩
end
end Mi
end

section
-- Mini7
set_option Elab.async false
set_option linter.all false
set_option maxRecDepth 100000
set_option maxHeartbeats 4000000
/-! Mini, part 7: statements -/
namespace Mi
open PySem PySem.Spec PyProof.Rows L2

abbrev wE (E : XK) : Wex := fun c d _ H => E c d H
structure EndsOk (P : En) (E : XK) (He : Hp) (Ge G : Wd) (A : EndP) (D : Ends) : Prop where
  nx : ∀ G' μ' H' ρ' σ', Ext He Ge H' G' → Le G G' → Wf P G' μ' H' → Sl P He G' ρ' σ' H' → A.nx ρ' μ' → D.nx σ' H'
  rt : ∀ G' μ' H' v x, Ext He Ge H' G' → Wf P G' μ' H' → RepR P He G' H' v x → A.rt v μ' → D.rt x H'
  bk : ∀ G' μ' H' ρ' σ', Ext He Ge H' G' → Le G G' → Wf P G' μ' H' → Sl P He G' ρ' σ' H' → A.bk ρ' μ' → D.bk σ' H'
  ct : ∀ G' μ' H' ρ' σ', Ext He Ge H' G' → Le G G' → Wf P G' μ' H' → Sl P He G' ρ' σ' H' → A.ct ρ' μ' → D.ct σ' H'
  xx : ThenX P He Ge A.xx E
theorem EndsOk.le {P : En} {E : XK} {He : Hp} {Ge G G1 : Wd} {A : EndP} {D : Ends} (o : EndsOk P E He Ge G A D) (l : Le G G1) : EndsOk P E He Ge G1 A D :=
  ⟨fun G' μ' H' ρ' σ' e l' => o.nx G' μ' H' ρ' σ' e (l.trans l'), o.rt, fun G' μ' H' ρ' σ' e l' => o.bk G' μ' H' ρ' σ' e (l.trans l'), fun G' μ' H' ρ' σ' e l' => o.ct G' μ' H' ρ' σ' e (l.trans l'), o.xx⟩
/-- a statement's reading -/
def tS (P : En) (E : XK) (w : Env → Mu → EndP → Prop) : TS := fun D σ H => ∃ He Ge G ρ μ A, Ext He Ge H G ∧ Wf P G μ H ∧ Sl P He G ρ σ H ∧ w ρ μ A ∧ EndsOk P E He Ge G A D
theorem _root_.L2.PS.imp {X : Cx} {s : Stmt} {t t' : TS} (h : PS X s t) (i : ∀ D σ H, t' D σ H → t D σ H) : PS X s t' := ⟨fun pins s σ H D I q => h.run pins s σ H D I (i D σ H q)⟩
theorem _root_.L2.PSs.imp {X : Cx} {s : List Stmt} {t t' : TS} (h : PSs X s t) (i : ∀ D σ H, t' D σ H → t D σ H) : PSs X s t' := ⟨fun pins s σ H D I q => h.run pins s σ H D I (i D σ H q)⟩

section
variable {X : Cx} {P : En} {E : XK} {Γ : Gam} {pos : Pos}
theorem s_nil : PSs X [] (tS P E (exSs Γ .nil)) := pss_nil.imp fun D σ H ⟨He, Ge, G, ρ, μ, A, e, w, sl, h, o⟩ => by
  simp only [exSs] at h
  exact o.nx G μ H ρ σ e (.refl G) w sl h
theorem s_cons {st : Stmt} {rest : List Stmt} {s : S} {r : Ss} (h1 : PS X st (tS P E (exS Γ s))) (h2 : PSs X rest (tS P E (exSs Γ r))) : PSs X (st :: rest) (tS P E (exSs Γ (.cons s r))) :=
  (pss_cons h1 h2).imp fun D σ H ⟨He, Ge, G, ρ, μ, A, e, w, sl, h, o⟩ => by
    simp only [exSs] at h
    exact ⟨He, Ge, G, ρ, μ, _, e, w, sl, h, ⟨fun G' μ' H' ρ' σ' e' l w' s' h' => ⟨He, Ge, G', ρ', μ', A, e', w', s', h', o.le l⟩, o.rt, o.bk, o.ct, o.xx⟩⟩
/-- a slot's own list is let be -/
theorem Sl.frz1 {He H : Hp} {Ge G : Wd} {ρ : Env} {σ : L2.St} {μ : Mu} {i : Nat} {v : PV} (e : Ext He Ge H G) (w : Wf P G μ H) (s : Sl P He G ρ σ H) (h : ρ[i]? = some (some v)) : ∃ G', Ext He Ge H G' ∧ Le G G' ∧ Wf P G' μ H ∧ Sl P He G' (ρ.set i (some v.fz)) σ H := by
  have self : v.fz = v → ∃ G', Ext He Ge H G' ∧ Le G G' ∧ Wf P G' μ H ∧ Sl P He G' (ρ.set i (some v.fz)) σ H := fun ev => by
    refine ⟨G, e, .refl G, w, ?_⟩
    have e1 : ρ.set i (some v) = ρ := by
      refine List.ext_getElem? fun j => ?_
      by_cases z : i = j
      · subst z
        obtain ⟨hl, _⟩ := List.getElem?_eq_some_iff.mp h
        rw [List.getElem?_set_self hl, h]
      · rw [List.getElem?_set_ne z]
    rw [ev, e1]
    exact s
  cases v with
  | nls vs =>
    obtain ⟨a, xs, h1, h2, h3, h4, h5, h6⟩ := s.ow i vs h
    obtain ⟨e', w', r', le⟩ := freezeAt w e h2 h3 h4 h5 h6
    have L : Le G (G.put a (.lst xs)) := ⟨le, fun k a r h => ⟨r, h⟩⟩
    have off : ∀ {b : Addr}, b ≠ a → G.F b = none → (G.put a (.lst xs)).F b = none := fun ne hb => (show upd G.F a (.lst xs) _ = none by rw [upd_ne ne]; exact hb)
    have hil : i < ρ.length := (List.getElem?_eq_some_iff.mp h).1
    have apart : ∀ {j : Nat} {u : PV} {b : Addr}, i ≠ j → ρ[j]? = some (some u) → u.own = true → σ[j]? = some (some (.ref b)) → b ≠ a := fun ne h' o' hb z => s.sep i _ _ _ a ne h h' rfl o' h1 (by rw [← z]; exact hb)
    refine ⟨_, e', L, w', ⟨by simp [s.len], fun j u h' n => ?_, fun j us h' => ?_, fun j c fs us h' => ?_, fun j l v u b ne h1' h2' o1 o2 h3' h4' => ?_⟩⟩
    · rcases get_set h' with ⟨rfl, z, _⟩ | ⟨ne, h'⟩
      · cases z
        exact ⟨.ref a, h1, r'⟩
      · obtain ⟨x, q1, q2⟩ := s.fz j u h' n
        exact ⟨x, q1, q2.le' L⟩
    · rcases get_set h' with ⟨rfl, z, _⟩ | ⟨ne, h'⟩
      · cases z
      · obtain ⟨b, ys, q1, q2, q3, q4, q5, q6⟩ := s.ow j us h'
        exact ⟨b, ys, q1, q2, q3.le' L, off (apart ne h' rfl q1) q4, q5, q6⟩
    · rcases get_set h' with ⟨rfl, z, _⟩ | ⟨ne, h'⟩
      · cases z
      · obtain ⟨b, C, dx, ys, q1, q0, q2, q7, q3, q4, q5, q6⟩ := s.oi j c fs us h'
        exact ⟨b, C, dx, ys, q1, q0, q2, q7, q3.le' L, off (apart ne h' rfl q1) q4, q5, q6⟩
    · rcases get_set h1' with ⟨rfl, z, _⟩ | ⟨n1, h1'⟩
      · cases z; cases o1
      rcases get_set h2' with ⟨rfl, z, _⟩ | ⟨n2, h2'⟩
      · cases z; cases o2
      exact s.sep j l v u b ne h1' h2' o1 o2 h3' h4'
  | _ => exact self rfl
theorem frz_all {He H : Hp} {Ge : Wd} {σ : L2.St} {μ : Mu} : ∀ {is : List Nat} {G : Wd} {ρ : Env}, Ext He Ge H G → Wf P G μ H → Sl P He G ρ σ H → ∃ G', Ext He Ge H G' ∧ Le G G' ∧ Wf P G' μ H ∧ Sl P He G' (freeze ρ is) σ H
  | [], G, ρ, e, w, s => ⟨G, e, .refl G, w, s⟩
  | i :: is, G, ρ, e, w, s => by
    unfold freeze
    split
    · rename_i v hv
      obtain ⟨G1, e1, l1, w1, s1⟩ := Sl.frz1 e w s hv
      obtain ⟨G2, e2, l2, w2, s2⟩ := frz_all (is := is) e1 w1 s1
      exact ⟨G2, e2, l1.trans l2, w2, s2⟩
    · exact frz_all e w s
theorem s_frz {sts : List Stmt} {is : List Nat} {r : Ss} (h : PSs X sts (tS P E (exSs Γ r))) : PSs X sts (tS P E (exSs Γ (.cons (.frz is) r))) :=
  h.imp fun D σ H ⟨He, Ge, G, ρ, μ, A, e, w, sl, h, o⟩ => by
    simp only [exSs, exS] at h
    obtain ⟨G1, e1, l1, w1, s1⟩ := frz_all (is := is) e w sl
    exact ⟨He, Ge, G1, _, μ, A, e1, w1, s1, h, o.le l1⟩

/-! ### name = e -/
theorem asg_core {i : Nat} {ea : Mi.E} {te : TE} (ht : ∀ σ H Q, tE P (wE E) (evE Γ ea) σ H Q → te σ H Q) : ∀ D σ H, tS P E (exS Γ (.asg i ea)) D σ H → tAsg te (gName i) D σ H :=
  fun D σ H ⟨He, Ge, G, ρ, μ, A, e, w, sl, h, o⟩ => by
    simp only [exS] at h
    exact ht _ _ _ ⟨He, G, ρ, μ, _, A.xx, w, sl, h, fun G' μ' H' v x e1 w1 r1 h1 => o.nx G' μ' H' _ _ (e.trans e1) e1.toLe w1 ((sl.ext w e1).setR sl.old e.dm r1 i) h1, o.xx.ext e⟩
theorem s_asg {i : Nat} {x : Str} {e : Expr} {ea : Mi.E} {p' : Pos} (hN : X.N.Nodup) (hi : X.N[i]? = some x) (hx : Loc X.env.scope x) (he : PE X e (tE P (wE E) (evE Γ ea))) (hs : swapsWith e (some (.Name x p')) pos.line X.env = pure false) (hf : X.fn x = true ∨ X.env.scope.names.lookup x = some .local) :
    PS X (.Assign [.Name x p'] e pos) (tS P E (exS Γ (.asg i ea))) := (ps_set hN hi hx he hs hf).imp (asg_core fun _ _ _ h => h)
/-- rows at slots -/
def setAllS (σ : L2.St) : List Nat → List V → L2.St
  | i :: is, x :: xs => setAllS (σ.set i (some x)) is xs
  | _, _ => σ
theorem gNames_all {Q : L2.St → Hp → Prop} {H : Hp} : ∀ {is : List Nat} {xs : List V} {σ : L2.St}, is.length = xs.length → Q (setAllS σ is xs) H → gNames is xs σ H Q
  | [], [], σ, _, q => ⟨rfl, q⟩
  | i :: is, x :: xs, σ, h, q => ⟨x, xs, rfl, gNames_all (is := is) (by simpa using h) q⟩
  | [], _ :: _, _, h, _ => by simp at h
  | _ :: _, [], _, h, _ => by simp at h
theorem set_reps {He H : Hp} {G : Wd} : ∀ {is : List Nat} {vs : List PV} {xs : List V} {ρ ρ1 : Env} {σ : L2.St}, Sl P He G ρ σ H → Reps P G vs xs → setAll ρ is vs = some ρ1 → is.length = xs.length ∧ Sl P He G ρ1 (setAllS σ is xs) H
  | [], [], _, ρ, ρ1, σ, s, .nil, h => by simp [setAll] at h; subst h; exact ⟨rfl, s⟩
  | i :: is, v :: vs, _, ρ, ρ1, σ, s, .cons r t, h => by
    simp only [setAll] at h
    obtain ⟨h1, h2⟩ := set_reps (s.setF r i) t h
    exact ⟨by simp [h1], h2⟩
  | [], _ :: _, _, _, _, _, _, _, h => by simp [setAll] at h
  | _ :: _, [], _, _, _, _, _, _, h => by simp [setAll] at h
/-- (a, b, ..) = e -/
theorem s_asgT {is : List Nat} {es : List Expr} {k : Nat} {p2 : Pos} {e : Expr} {ea : Mi.E} (n : Cn X P (wE E)) (hg : PG X (.Tuple es k p2) (gTup X.K is.length (gNames is))) (he : PE X e (tE P (wE E) (evE Γ ea)))
    (hs : swapsWithSole [.Tuple es k p2] e pos.line X.env = pure false) (hw : swappedStores [.Tuple es k p2] e X.env = pure none) : PS X (.Assign [.Tuple es k p2] e pos) (tS P E (exS Γ (.asgT is ea))) :=
  (ps_asg he hg hs hw rfl).imp fun D σ H ⟨He, Ge, G, ρ, μ, A, e, w, sl, h, o⟩ => by
    simp only [exS] at h
    refine ⟨He, G, ρ, μ, _, A.xx, w, sl, h, fun G' μ' H' v x e1 w1 r1 h1 => ?_, o.xx.ext e⟩
    dsimp only at h1
    split at h1
    · rename_i vs
      split at h1
      · rename_i ρ1 hb
        cases (show Rep P G' (.tup vs) x from r1) with
        | tup q1 q2 =>
          obtain ⟨q3, q4⟩ := set_reps (sl.ext w e1) q2 hb
          exact ⟨_, _, rfl, by rw [← n.hK]; exact sqT_le w1.sub q1, q3.symm, gNames_all q3 (o.nx G' μ' H' _ _ (e.trans e1) e1.toLe w1 q4 h1)⟩
      · exact h1.elim
    · exact h1.elim
/-! ### rows that are handed on -/
def RowR (P : En) (G : Wd) (H : Hp) : Hp → List PV → List V → Prop
  | H0, v :: vs, x :: xs => ∃ H1, (∀ a, H1 a = none → H0 a = none) ∧ RepR P H0 G H v x ∧ (∀ a, x = .ref a → v.own = true → H1 a ≠ none) ∧ RowR P G H H1 vs xs
  | _, [], [] => True
  | _, _, _ => False
theorem RowR.ext {H H' : Hp} {G G' : Wd} {μ : Mu} (w : Wf P G μ H) (e : Ext H G H' G') : ∀ {H0 : Hp} {vs : List PV} {xs : List V}, RowR P G H H0 vs xs → RowR P G' H' H0 vs xs
  | H0, v :: vs, x :: xs, ⟨H1, d, r, q, t⟩ => ⟨H1, d, r.ext w e, q, RowR.ext w e t⟩
  | _, [], [], _ => trivial
theorem RowR.len {H : Hp} {G : Wd} : ∀ {H0 : Hp} {vs : List PV} {xs : List V}, RowR P G H H0 vs xs → vs.length = xs.length
  | H0, v :: vs, x :: xs, ⟨H1, d, r, q, t⟩ => by rw [List.length_cons, List.length_cons, t.len]
  | _, [], [], _ => rfl
theorem set_row {He H : Hp} {G : Wd} : ∀ {H0 : Hp} {is : List Nat} {vs : List PV} {xs : List V} {ρ ρ1 : Env} {σ : L2.St}, Sl P He G ρ σ H → OldS ρ σ H0 → (∀ a, H0 a = none → He a = none) → RowR P G H H0 vs xs → setAll ρ is vs = some ρ1 → is.length = xs.length ∧ Sl P He G ρ1 (setAllS σ is xs) H
  | H0, [], [], [], ρ, ρ1, σ, s, od, dm, _, h => by simp [setAll] at h; subst h; exact ⟨rfl, s⟩
  | H0, i :: is, v :: vs, x :: xs, ρ, ρ1, σ, s, od, dm, ⟨H1, d, r, q, t⟩, h => by
    simp only [setAll] at h
    have od' : OldS (ρ.set i (some v)) (σ.set i (some x)) H1 := fun j w b h1 o1 h2 => by
      rcases get_set h1 with ⟨rfl, z, hl⟩ | ⟨ne, h1⟩
      · cases z
        rw [List.getElem?_set_self (by rw [← s.len]; exact hl)] at h2
        cases h2
        exact q b rfl o1
      · rw [List.getElem?_set_ne ne] at h2
        exact (od.mono d) j w b h1 o1 h2
    obtain ⟨h1, h2⟩ := set_row (s.setR od dm r i) od' (fun a ha => dm a (d a ha)) t h
    exact ⟨by simp [h1], h2⟩
  | _, [], _ :: _, _, _, _, _, _, _, _, _, h => by simp [setAll] at h
  | _, _ :: _, [], _, _, _, _, _, _, _, _, h => by simp [setAll] at h
def tR (P : En) (W : Wex) (w : Env → Mu → (List PV → Mu → Prop) → KE → Prop) : TA := fun σ H Q => ∃ He G ρ μ k kx, Wf P G μ H ∧ Sl P He G ρ σ H ∧ w ρ μ k kx ∧
  (∀ G' μ' H' vs xs, Ext H G H' G' → Wf P G' μ' H' → RowR P G' H' H vs xs → k vs μ' → Q xs H') ∧ ThenX P H G kx fun c d H' => W c d σ H'
theorem r_nil {W : Wex} : PA X [] (tR P W (evR Γ .nil)) := pa_nil.imp fun σ H Q ⟨He, G, ρ, μ, k, kx, w0, sl, hw, t, tx⟩ => by
  simp only [evR] at hw
  exact t G μ H [] [] (.refl H G) w0 trivial hw
theorem r_cons {W : Wex} {a : Expr} {as : List Expr} {ea : Mi.E} {es : Es} (ha : PE X a (tE P W (evE Γ ea))) (hr : PA X as (tR P W (evR Γ es))) (hs : starEach (a :: as) X.env = (false, eval a X.env) :: starEach as X.env) : PA X (a :: as) (tR P W (evR Γ (.cons ea es))) :=
  (pa_cons ha hr hs).imp fun σ H Q ⟨He, G, ρ, μ, k, kx, w0, sl, hw, t, tx⟩ => by
    simp only [evR] at hw
    refine ⟨He, G, ρ, μ, _, kx, w0, sl, hw, fun G1 μ1 H1 va x e1 w1 r1 h1 => ⟨He, G1, ρ, μ1, _, kx, w1, sl.ext w0 e1, h1, fun G2 μ2 H2 vs xs e2 w2 r2 h2 =>
      t G2 μ2 H2 (va :: vs) _ (e1.trans e2) w2 ⟨H1, e1.dm, r1.ext w1 e2, fun a hx ho => ?_, r2⟩ h2, tx.ext e1⟩, tx⟩
    cases va with
    | nls us =>
      obtain ⟨b, ys, q1, q2, _⟩ := r1
      rw [hx] at q1
      cases q1
      rw [q2]
      exact fun z => nomatch z
    | nin _ _ _ => cases r1
    | _ => cases ho
theorem par_core {is : List Nat} {es : Es} (m : Nat) (hm : is.length = m) {ta : TA} (ht : ∀ σ H Q, tR P (wE E) (evR Γ es) σ H Q → ta σ H Q) {u : Ends → L2.St → Hp → List V → Hp → Prop}
    (hu : ∀ {D σ H xs H' G' μ' He Ge ρ1}, is.length = xs.length → Ext He Ge H' G' → Wf P G' μ' H' → Sl P He G' ρ1 (setAllS σ is xs) H' → (∀ G2 H2, Ext He Ge H2 G2 → Le G' G2 → Wf P G2 μ' H2 → Sl P He G2 ρ1 (setAllS σ is xs) H2 → D.nx (setAllS σ is xs) H2) → u D σ H xs H') :
    ∀ D σ H, tS P E (exS Γ (.par is es)) D σ H → ta σ H fun xs H' => u D σ H xs H' :=
  fun D σ H ⟨He, Ge, G, ρ, μ, A, e, w, sl, h, o⟩ => by
    simp only [exS] at h
    refine ht _ _ _ ⟨He, G, ρ, μ, _, A.xx, w, sl, h, fun G' μ' H' vs xs e1 w1 r1 h1 => ?_, o.xx.ext e⟩
    split at h1
    · rename_i ρ1 hb
      obtain ⟨q1, q2⟩ := set_row (sl.ext w e1) sl.old e.dm r1 hb
      exact hu (He := He) (Ge := Ge) q1 (e.trans e1) w1 q2 fun G2 H2 e2 l2 w2 s2 => o.nx G2 μ' H2 _ _ e2 (e1.toLe.trans l2) w2 s2 h1
    · exact h1.elim
/-- a tuple that is built and taken apart -/
theorem s_parT {is : List Nat} {es : List Expr} {k k2 : Nat} {p2 p3 : Pos} {as : List Expr} {ea : Es} (n : Cn X P (wE E)) (hg : PG X (.Tuple es k p2) (gTup X.K is.length (gNames is))) (he : PA X as (tR P (wE E) (evR Γ ea)))
    (hz : is.length ≤ sizeLine) (hs : swapsWithSole [.Tuple es k p2] (.Tuple as k2 p3) pos.line X.env = pure false) (hw : swappedStores [.Tuple es k p2] (.Tuple as k2 p3) X.env = pure none) : PS X (.Assign [.Tuple es k p2] (.Tuple as k2 p3) pos) (tS P E (exS Γ (.par is ea))) :=
  (ps_asg (pe_tup he) hg hs hw rfl).imp (par_core is.length rfl (fun _ _ _ h => h) fun {D σ H xs H' G' μ' He Ge ρ1} hl e w s nx => by
    refine ⟨by rw [← hl]; exact hz, fun p hp => ⟨p, xs, rfl, .inl (.inl upd_same), hl.symm, gNames_all hl (nx G' _ (e.trans (Ext.newL w hp)) (.refl G') (w.newL hp) (s.ext w (Ext.newL w hp)))⟩⟩)
theorem s_par2 {i j : Nat} {x y : Str} {a b : Expr} {px py pt : Pos} {kt k2 pt2} {ea : Es} (n : Cn X P (wE E)) (hN : X.N.Nodup) (hi : X.N[i]? = some x) (hj : X.N[j]? = some y) (hij : i ≠ j)
    (hx : X.env.scope.names.lookup x = some .local) (hy : X.env.scope.names.lookup y = some .local) (ha : PA X [a, b] (tR P (wE E) (evR Γ ea)))
    (hw : swappedStores [.Tuple [.Name x px, .Name y py] kt pt] (.Tuple [a, b] k2 pt2) X.env = pure (some [x, y])) (hs : swapsWithSole [.Tuple [.Name x px, .Name y py] kt pt] (.Tuple [a, b] k2 pt2) pos.line X.env = pure false) :
    PS X (.Assign [.Tuple [.Name x px, .Name y py] kt pt] (.Tuple [a, b] k2 pt2) pos) (tS P E (exS Γ (.par [i, j] ea))) :=
  (ps_par n.calm hN hi hj hij hx hy ha hw hs).imp (par_core 2 rfl (fun _ _ _ h => h) fun {D σ H xs H' G' μ' He Ge ρ1} hl e w s nx => by
    match xs, hl with
    | [v, u], _ => exact ⟨v, u, rfl, nx G' H' e (.refl G') w s⟩)
theorem s_par3 {i j l : Nat} {x y z : Str} {a b c : Expr} {px py pz pt : Pos} {kt k2 pt2} {ea : Es} (n : Cn X P (wE E)) (hN : X.N.Nodup) (hi : X.N[i]? = some x) (hj : X.N[j]? = some y) (hl : X.N[l]? = some z) (hij : i ≠ j) (hil : i ≠ l) (hjl : j ≠ l)
    (hx : X.env.scope.names.lookup x = some .local) (hy : X.env.scope.names.lookup y = some .local) (hz : X.env.scope.names.lookup z = some .local) (ha : PA X [a, b, c] (tR P (wE E) (evR Γ ea)))
    (hw : swappedStores [.Tuple [.Name x px, .Name y py, .Name z pz] kt pt] (.Tuple [a, b, c] k2 pt2) X.env = pure (some [x, y, z])) (hs : swapsWithSole [.Tuple [.Name x px, .Name y py, .Name z pz] kt pt] (.Tuple [a, b, c] k2 pt2) pos.line X.env = pure false) :
    PS X (.Assign [.Tuple [.Name x px, .Name y py, .Name z pz] kt pt] (.Tuple [a, b, c] k2 pt2) pos) (tS P E (exS Γ (.par [i, j, l] ea))) :=
  (ps_par3 n.calm hN hi hj hl hij hil hjl hx hy hz ha hw hs).imp (par_core 3 rfl (fun _ _ _ h => h) fun {D σ H xs H' G' μ' He Ge ρ1} hl e w s nx => by
    match xs, hl with
    | [v, u, t], _ => exact ⟨v, u, t, rfl, nx G' H' e (.refl G') w s⟩)

/-! ### small statements -/
theorem s_ex {e : Expr} {ea : Mi.E} (he : PE X e (tE P (wE E) (evE Γ ea))) (hs : swapsWith e none pos.line X.env = pure false) : PS X (.Expr e pos) (tS P E (exS Γ (.ex ea))) :=
  (ps_expr he hs).imp fun D σ H ⟨He, Ge, G, ρ, μ, A, e, w, sl, h, o⟩ => by
    simp only [exS] at h
    exact ⟨He, G, ρ, μ, _, A.xx, w, sl, h, fun G' μ' H' v x e1 w1 r1 h1 => o.nx G' μ' H' ρ σ (e.trans e1) e1.toLe w1 (sl.ext w e1) h1, o.xx.ext e⟩
theorem s_ret {e : Expr} {ea : Mi.E} (he : PE X e (tE P (wE E) (evE Γ ea))) : PS X (.Return (some e) pos) (tS P E (exS Γ (.ret ea))) :=
  (ps_ret he).imp fun D σ H ⟨He, Ge, G, ρ, μ, A, e, w, sl, h, o⟩ => by
    simp only [exS] at h
    exact ⟨He, G, ρ, μ, _, A.xx, w, sl, h, fun G' μ' H' v x e1 w1 r1 h1 => o.rt G' μ' H' v x (e.trans e1) w1 (r1.start e.dm) h1, o.xx.ext e⟩
theorem s_retv {i : Nat} {x : Str} {p : Pos} (hN : X.N[i]? = some x) (hv : Vis X.env.scope x) (hd : (x == ("__debug__" : Str)) = false) (hcd : (x == ("__classdict__" : Str)) = false) : PS X (.Return (some (.Name x p)) pos) (tS P E (exS Γ (.retv i))) :=
  (ps_ret (pe_var hN hv hd hcd)).imp fun D σ H ⟨He, Ge, G, ρ, μ, A, e, w, sl, h, o⟩ => by
    simp only [exS] at h
    split at h
    · exact h.elim
    · rename_i v hn hv
      cases v with
      | nls vs =>
        obtain ⟨a, xs, h1, h2, h3, h4, h5, h6⟩ := sl.ow i vs hv
        exact ⟨.ref a, h1, o.rt G μ H (.nls vs) _ e w ⟨a, xs, rfl, h2, h3, h4, h5, h6⟩ h⟩
      | nin c fs vs => exact (hn c fs vs rfl).elim
      | _ =>
        obtain ⟨x, h1, h2⟩ := sl.fz i _ hv rfl
        exact ⟨x, h1, o.rt G μ H _ x e w (.of h2) h⟩
    · exact h.elim
theorem s_retN : PS X (.Return none pos) (tS P E (exS Γ .retN)) := ps_retN.imp fun D σ H ⟨He, Ge, G, ρ, μ, A, e, w, sl, h, o⟩ => by
  simp only [exS] at h
  exact o.rt G μ H .non .non e w (.of .non) h
theorem s_pass : PS X (.Pass pos) (tS P E (exS Γ .pass)) := ps_pass.imp fun D σ H ⟨He, Ge, G, ρ, μ, A, e, w, sl, h, o⟩ => by
  simp only [exS] at h
  exact o.nx G μ H ρ σ e (.refl G) w sl h
theorem s_brk : PS X (.Break pos) (tS P E (exS Γ .brk)) := ps_break.imp fun D σ H ⟨He, Ge, G, ρ, μ, A, e, w, sl, h, o⟩ => by
  simp only [exS] at h
  exact o.bk G μ H ρ σ e (.refl G) w sl h
theorem s_cnt : PS X (.Continue pos) (tS P E (exS Γ .cnt)) := ps_continue.imp fun D σ H ⟨He, Ge, G, ρ, μ, A, e, w, sl, h, o⟩ => by
  simp only [exS] at h
  exact o.ct G μ H ρ σ e (.refl G) w sl h
/-- a test in the midst of a statement -/
theorem test_in {ec : Mi.E} {He H : Hp} {Ge G : Wd} {ρ : Env} {σ : L2.St} {μ : Mu} {Q : Bool → Hp → Prop} {k : Bool → Mu → Prop} {kx : KE} (e : Ext He Ge H G) (w : Wf P G μ H) (sl : Sl P He G ρ σ H) (h : evT Γ ec ρ μ k kx) (x : ThenX P He Ge kx E)
    (q : ∀ G' μ' H' b, Ext H G H' G' → Wf P G' μ' H' → Sl P He G' ρ σ H' → k b μ' → Q b H') : tV P (wE E) (evE Γ ec) σ H Q := by
  unfold evT at h
  refine ⟨He, G, ρ, μ, _, kx, w, sl, h, fun G1 μ1 H1 v x e1 w1 r1 h1 => ?_, x.ext e⟩
  unfold trK at h1
  split at h1
  · rename_i b hb
    exact ⟨b, hb, q G1 μ1 H1 b e1 w1 (sl.ext w e1) h1⟩
  · exact h1.elim
theorem s_ifs {c : Expr} {a b : List Stmt} {ec : Mi.E} {sa sb : Ss} (hc : PT X c (tV P (wE E) (evE Γ ec))) (ha : PSs X a (tS P E (exSs Γ sa))) (hb : PSs X b (tS P E (exSs Γ sb))) : PS X (.If c a b pos) (tS P E (exS Γ (.ifs ec sa sb))) :=
  (ps_if hc ha hb).imp fun D σ H ⟨He, Ge, G, ρ, μ, A, e, w, sl, h, o⟩ => by
    simp only [exS] at h
    refine test_in e w sl h o.xx fun G1 μ1 H1 b e1 w1 s1 h1 => ?_
    cases b with
    | true => exact ⟨He, Ge, G1, ρ, μ1, A, e.trans e1, w1, s1, h1, o.le e1.toLe⟩
    | false => exact ⟨He, Ge, G1, ρ, μ1, A, e.trans e1, w1, s1, h1, o.le e1.toLe⟩
theorem s_whs {c : Expr} {a : List Stmt} {ec : Mi.E} {sa : Ss} (hp : PassesOwn (model X.prog X.w) X.A X.env X.xe) (hc : PT X c (tV P (wE E) (evE Γ ec))) (ha : PSs X a (tS P E (exSs Γ sa))) : PS X (.While c a [] pos) (tS P E (exS Γ (.whs ec sa))) :=
  (ps_while hp hc ha).imp fun D σ H ⟨He, Ge, G, ρ, μ, A, e, w, sl, h, o⟩ => by
    simp only [exS] at h
    obtain ⟨n, h⟩ := h
    let W : Nat → L2.St → Hp → Prop := fun m σ H => ∃ G1 ρ1 μ1, Ext He Ge H G1 ∧ Le G G1 ∧ Wf P G1 μ1 H ∧ Sl P He G1 ρ1 σ H ∧ whL (evT Γ ec) (fun ρ2 μ2 A2 => exSs Γ sa ρ2 μ2 A2) m ρ1 μ1 A
    refine ⟨W, ⟨n, G, ρ, μ, e, .refl G, w, sl, h⟩, ?_⟩
    rintro m σ H ⟨G1, ρ1, μ1, e1, l1, w1, s1, h1⟩
    cases m with
    | zero => exact h1.elim
    | succ m =>
      simp only [whL] at h1
      refine test_in e1 w1 s1 h1 o.xx fun G2 μ2 H2 b e2 w2 s2 h2 => ?_
      cases b with
      | false => exact o.nx G2 μ2 H2 ρ1 σ (e1.trans e2) (l1.trans e2.toLe) w2 s2 h2
      | true =>
        refine ⟨W m, fun σ' H' q => ⟨m, Nat.lt_succ_self m, q⟩, ⟨He, Ge, G2, ρ1, μ2, _, e1.trans e2, w2, s2, h2, ?_⟩⟩
        have l2 := l1.trans e2.toLe
        exact ⟨fun G' μ' H' ρ' σ' e' l' w' s' h' => ⟨G', ρ', μ', e', l2.trans l', w', s', h'⟩, o.rt, fun G' μ' H' ρ' σ' e' l' w' s' h' => o.nx G' μ' H' ρ' σ' e' (l2.trans l') w' s' h', fun G' μ' H' ρ' σ' e' l' w' s' h' => ⟨G', ρ', μ', e', l2.trans l', w', s', h'⟩, o.xx⟩
theorem s_fors {tg it : Expr} {a : List Stmt} {t : Tg} {es : Sr} {sa : Ss} (n : Cn X P (wE E)) (hp : PassesOwn (model X.prog X.w) X.A X.env X.xe) (hi : PI X tg it (tI true P (wE E) (evS Γ es))) (hg : PG X tg (gTg X.K t)) (ha : PSs X a (tS P E (exSs Γ sa)))
    (hs : ∀ x, foldedSetIterable it X.env x = pure x) : PS X (.For tg it a [] pos) (tS P E (exS Γ (.fors t es sa))) :=
  (ps_for hp n.calm hi hg ha hs).imp fun D σ H ⟨He, Ge, G, ρ, μ, A, e, w, sl, h, o⟩ => by
    simp only [exS] at h
    refine ⟨He, G, ρ, μ, _, A.xx, w, sl, h, fun G1 μ1 H1 xs J e1 w1 wk h1 => ?_, o.xx.ext e⟩
    let W : Nat → Nat → L2.St → Hp → Prop := fun i m σ H => m = xs.length - i ∧ i ≤ xs.length ∧ ∃ G2 ρ2 μ2, Ext He Ge H G2 ∧ Le G1 G2 ∧ Wf P G2 μ2 H ∧ Sl P He G2 ρ2 σ H ∧ forL (bindTg t) (fun ρ2 μ2 A2 => exSs Γ sa ρ2 μ2 A2) (xs.drop i) ρ2 μ2 A
    refine ⟨W, ⟨xs.length, by simp, Nat.zero_le _, G1, ρ, μ1, e.trans e1, .refl G1, w1, sl.ext w e1, h1⟩, ?_⟩
    rintro i m σ H ⟨rfl, hi, G2, ρ2, μ2, e2, l2, w2, s2, h2⟩
    obtain ⟨go, st⟩ := wk G2 μ2 H l2 w2
    by_cases hlt : i < xs.length
    · obtain ⟨g1, g2⟩ := go i _ (List.getElem?_eq_getElem hlt)
      rw [List.drop_eq_getElem_cons hlt] at h2
      simp only [forL] at h2
      refine .inr ⟨g1, fun σ' H' => W (i + 1) (xs.length - (i + 1)) σ' H', fun σ' H' q => ⟨_, by omega, q⟩, fun y H3 hy => ?_⟩
      obtain ⟨G3, e3, w3, r3⟩ := g2 y H3 hy
      split at h2
      · exact h2.elim
      · rename_i ρ3 hb
        have l3 := l2.trans e3.toLe
        have again : ∀ {G' : Wd} {μ' : Mu} {H' : Hp} {ρ' : Env} {σ' : L2.St}, Ext He Ge H' G' → Le G3 G' → Wf P G' μ' H' → Sl P He G' ρ' σ' H' → forL (bindTg t) (fun ρ2 μ2 A2 => exSs Γ sa ρ2 μ2 A2) (xs.drop (i + 1)) ρ' μ' A → W (i + 1) (xs.length - (i + 1)) σ' H' :=
          fun {G' μ' H' ρ' σ'} e' l' w' s' h' => ⟨rfl, hlt, G', ρ', μ', e', l3.trans l', w', s', h'⟩
        refine gTg_go n.hK w3 (s2.ext w2 e3) r3 hb fun σ3 s3 _ => ⟨He, Ge, G3, ρ3, μ2, _, e2.trans e3, w3, s3, h2, ?_⟩
        exact ⟨fun G' μ' H' ρ' σ' e' l' w' s' h' => again e' l' w' s' h', o.rt, fun G' μ' H' ρ' σ' e' l' w' s' h' => o.nx G' μ' H' ρ' σ' e' (e1.toLe.trans (l3.trans l')) w' s' h', fun G' μ' H' ρ' σ' e' l' w' s' h' => again e' l' w' s' h', o.xx⟩
    · have ei : i = xs.length := by omega
      subst ei
      rw [List.drop_length] at h2
      exact .inl ⟨st _ (Nat.le_refl _), o.nx G2 μ2 H ρ2 σ e2 (e1.toLe.trans l2) w2 s2 h2⟩
theorem s_rai {c : Str} {e : Expr} {C : Addr} (n : Cn X P (wE E)) (hm : P.mg c = some (.ref C)) (he : PMk X e (fun _ H Q => Q (.ref C) none H)) : PS X (.Raise (some e) none pos) (tS P E (exS Γ (.rai c))) :=
  (ps_raise n.calm n.takes he).imp fun D σ H ⟨He, Ge, G, ρ, μ, A, e, w, sl, h, o⟩ => by
    simp only [exS] at h
    exact o.xx G μ H (.exc c [] []) (.ref C) none e w (.mk0 hm) h
theorem s_rai1 {c : Str} {e : Expr} {ea : Mi.E} {C : Addr} (n : Cn X P (wE E)) (hm : P.mg c = some (.ref C)) (he : PMk X e (fun σ H Q => tB1 true P (wE E) (evE Γ ea) σ H fun v H1 => ∀ d, H1 d = none → Q (.ref C) (some d) (upd H1 d (.xd [(Γ.fld c, v)])))) :
    PS X (.Raise (some e) none pos) (tS P E (exS Γ (.rai1 c ea))) :=
  (ps_raise n.calm n.takes he).imp fun D σ H ⟨He, Ge, G, ρ, μ, A, e, w, sl, h, o⟩ => by
    simp only [exS] at h
    refine ⟨He, G, ρ, μ, _, A.xx, w, sl, h, fun G' μ' H' v x e1 w1 r1 h1 d hd => ?_, o.xx.ext e⟩
    have r2 : Rep P G' v.fz x := by
      have r1 : Reps P G' [v.fz] [x] := r1
      cases r1 with
      | cons r _ => exact r
    have e2 := Ext.new (o := HO.xd [(Γ.fld c, x)]) w1 hd
    refine o.xx (G'.put d (.xd [(Γ.fld c, x)])) μ' _ (.exc c [Γ.fld c] [v.fz]) (.ref C) (some d) ((e.trans e1).trans e2) (w1.new hd) (.mk1 (xs := [x]) hm (by show upd _ _ _ _ = _; rw [upd_same]; rfl) rfl (.cons (r2.ext e2) .nil)) h1
end
end Mi
end

section
-- Mini8
set_option Elab.async false
set_option linter.all false
set_option maxRecDepth 100000
set_option maxHeartbeats 4000000
/-! Mini, part 8: a slot's own list, an instance that is being made -/
namespace Mi
open PySem PySem.Spec PyProof.Rows L2

def OwnAs (P : En) (G : Wd) (a : Addr) : PV → HO → Prop
  | .nls vs, o => ∃ ys, o = .lst ys ∧ Reps P G vs ys
  | .nin c fs vs, o => ∃ C dx ys, P.mg c = some (.ref C) ∧ o = .ins C dx (fs.zip ys) ∧ fs.length = vs.length ∧ Reps P G vs ys ∧ G.me = some a
  | _, _ => False
section
variable {P : En} {G G' Ge : Wd} {H H' He H0 : Hp} {ρ : Env} {σ : L2.St} {μ : Mu}
/-- a slot's own thing is written -/
theorem Sl.upd {i : Nat} {v v1 : PV} {a : Addr} {o : HO} (e : Ext He Ge H G) (w : Wf P G μ H) (s : Sl P He G ρ σ H) (h : ρ[i]? = some (some v)) (ho : v.own = true) (ha : σ[i]? = some (some (.ref a))) (hn : OwnAs P G a v1 o) :
    Ext He Ge (L2.upd H a o) G ∧ Wf P G μ (L2.upd H a o) ∧ Sl P He G (ρ.set i (some v1)) σ (L2.upd H a o) := by
  obtain ⟨b, u, q1, q2, q3, q4, q5⟩ := s.at h ho
  rw [ha] at q1
  cases q1
  have apart : ∀ {j : Nat} {u : PV} {b : Addr}, i ≠ j → ρ[j]? = some (some u) → u.own = true → σ[j]? = some (some (.ref b)) → b ≠ a := fun ne h' o' hb z => s.sep i _ _ _ a ne h h' ho o' ha (by rw [← z]; exact hb)
  have o1 : v1.own = true := by cases v1 <;> first | rfl | exact hn.elim
  refine ⟨e.own q5, w.own q3 q4, ⟨by simp [s.len], fun j u h' n => ?_, fun j us h' => ?_, fun j c fs us h' => ?_, fun j l x y b ne h1' h2' p1 p2 h3' h4' => ?_⟩⟩
  · rcases get_set h' with ⟨rfl, z, _⟩ | ⟨ne, h'⟩
    · cases z
      rw [n] at o1; cases o1
    · exact s.fz j u h' n
  · rcases get_set h' with ⟨rfl, z, _⟩ | ⟨ne, h'⟩
    · cases z
      obtain ⟨ys, rfl, r⟩ := hn
      exact ⟨a, ys, ha, upd_same, r, q3, q4, q5⟩
    · obtain ⟨b, ys, z1, z2, z3, z4, z5, z6⟩ := s.ow j us h'
      exact ⟨b, ys, z1, by rw [upd_ne (apart ne h' rfl z1)]; exact z2, z3, z4, z5, z6⟩
  · rcases get_set h' with ⟨rfl, z, _⟩ | ⟨ne, h'⟩
    · cases z
      obtain ⟨C, dx, ys, hm, rfl, hl, r, hme⟩ := hn
      exact ⟨a, C, dx, ys, ha, hm, upd_same, hl, r, q3, q4, q5, hme⟩
    · obtain ⟨b, C, dx, ys, z1, z0, z2, z7, z3, z4, z5, z6⟩ := s.oi j c fs us h'
      exact ⟨b, C, dx, ys, z1, z0, by rw [upd_ne (apart ne h' rfl z1)]; exact z2, z7, z3, z4, z5, z6⟩
  · have f : ∀ {j : Nat} {x : PV}, (ρ.set i (some v1))[j]? = some (some x) → x.own = true → ∃ y, ρ[j]? = some (some y) ∧ y.own = true := fun {j x} hj ox => by
      rcases get_set hj with ⟨rfl, z, _⟩ | ⟨_, hj⟩
      · exact ⟨v, h, ho⟩
      · exact ⟨x, hj, ox⟩
    obtain ⟨x', g1, g2⟩ := f h1' p1
    obtain ⟨y', g3, g4⟩ := f h2' p2
    exact s.sep j l x' y' b ne g1 g3 g2 g4 h3' h4'
end
section
variable {X : Cx} {P : En} {E : XK} {Γ : Gam} {pos : Pos}
theorem b1T {v : PV} {x : V} {G : Wd} {ρ : Env} {σ : L2.St} (r : RepB true P G ρ σ [v] [x]) : Rep P G v x := by
  cases (show Reps P G [v] [x] from r) with
  | cons q _ => exact q
/-- name[a] = e -/
theorem s_setIx {i : Nat} {x : Str} {a e : Expr} {ea ee : Mi.E} {px p2 : Pos} (n : Cn X P (wE E)) (hi : X.N[i]? = some x) (hv : Vis X.env.scope x) (hd : (x == ("__debug__" : Str)) = false) (hcd : (x == ("__classdict__" : Str)) = false)
    (ha : PE X a (tO P (wE E) (evE Γ ea))) (he : PE X e (tB1 true P (wE E) (evE Γ ee))) (hs : swapsWithSole [.Subscript (.Name x px) a p2] e pos.line X.env = pure false) (hw : swappedStores [.Subscript (.Name x px) a p2] e X.env = pure none)
    (hsub : ∀ v, assign (.Subscript (.Name x px) a p2) X.env v = (do
      let ov ← holding [v] (eval (.Name x px) X.env)
      let iv ← holding [v, ov] (eval a X.env)
      standAt p2
      holding [v, ov, iv] (setItem ov iv v)
      release [v, ov, iv] [])) : PS X (.Assign [.Subscript (.Name x px) a p2] e pos) (tS P E (exS Γ (.setIx i ea ee))) :=
  (ps_asg he (pg_sub (pe_var hi hv hd hcd) ha set_list hsub) hs hw rfl).imp fun D σ H ⟨He, Ge, G, ρ, μ, A, e, w, sl, h, o⟩ => by
    simp only [exS] at h
    refine ⟨He, G, ρ, μ, _, A.xx, w, sl, h, fun G1 μ1 H1 v y e1 w1 r1 h1 => ?_, o.xx.ext e⟩
    have s1 := sl.ext w e1
    split at h1
    · rename_i vs hρ
      obtain ⟨p, ys, z1, z2, z3, z4, z5, z6⟩ := s1.ow i vs hρ
      refine ⟨.ref p, z1, ⟨He, G1, ρ, μ1, _, A.xx, w1, s1, h1, fun G2 μ2 H2 vk yk e2 w2 r2 h2 => ?_, (o.xx.ext e).ext e1⟩⟩
      have s2 := s1.ext w1 e2
      have e02 := e.trans (e1.trans e2)
      dsimp only at h2
      split at h2
      · rename_i k
        split at h2
        · rename_i j hj
          obtain rfl := (r2.toH s2).int
          have hp2 : H2 p = some (.lst ys) := e2.fr p _ z2 z5 (fun _ z => nomatch z)
          obtain ⟨q1, q2, q3⟩ := Sl.upd (v1 := .nls (vs.set j v.fz)) (o := .lst (ys.set j y)) e02 w2 s2 hρ rfl z1 ⟨_, rfl, (z3.ext e2).set ((b1T r1).ext e2) j⟩
          exact ⟨p, ys, k, j, rfl, rfl, hp2, by rw [← z3.length]; exact hj, o.nx G2 μ2 _ _ σ q1 (e1.toLe.trans e2.toLe) q2 q3 h2⟩
        · exact h2.elim
      · exact h2.elim
    · exact h1.elim
/-- name.append(e) -/
theorem s_app {i : Nat} {x : Str} {e : Expr} {ee : Mi.E} {px pa pc : Pos} (n : Cn X P (wE E)) (hi : X.N[i]? = some x) (hv : Vis X.env.scope x) (hd : (x == ("__debug__" : Str)) = false) (hcd : (x == ("__classdict__" : Str)) = false)
    (he : PE X e (tB1 true P (wE E) (evE Γ ee))) (hst : starEach [e] X.env = [(false, eval e X.env)]) (hl : (pa.endLine == pc.line) = true) : PS X (.Expr (.Call (.Attribute (.Name x px) "append" pa) [e] [] pc) pos) (tS P E (exS Γ (.app i ee))) :=
  (ps_expr (pe_bm PySem.F.plainAttrs_list PySem.F.slot_list_append PySem.F.type_list_append mt_append (pe_var hi hv hd hcd) (pa_cons he pa_nil hst) rfl (by rw [hst]; rfl) hl hst rfl) rfl).imp fun D σ H ⟨He, Ge, G, ρ, μ, A, e, w, sl, h, o⟩ => by
    simp only [exS] at h
    split at h
    · rename_i vs hρ
      obtain ⟨p, ys, z1, z2, z3, z4, z5, z6⟩ := sl.ow i vs hρ
      refine ⟨.ref p, z1, .inl ⟨rfl, ys, .inl (.inl z2)⟩, ⟨He, G, ρ, μ, _, A.xx, w, sl, h, fun G1 μ1 H1 v y e1 w1 r1 h1 => ?_, o.xx.ext e⟩⟩
      have s1 := sl.ext w e1
      have hp : H1 p = some (.lst ys) := e1.fr p _ z2 z5 (fun _ z => nomatch z)
      obtain ⟨q1, q2, q3⟩ := Sl.upd (v1 := .nls (vs ++ [v.fz])) (o := .lst (ys ++ [y])) (e.trans e1) w1 s1 hρ rfl z1 ⟨_, rfl, (z3.ext e1).append (.cons (b1T r1) .nil)⟩
      exact ⟨p, ys, y, rfl, rfl, hp, by rw [← z3.length]; exact h1.1, o.nx G1 μ1 _ _ σ q1 e1.toLe q2 q3 h1.2⟩
    · exact h.elim
/-- name.append(other.pop(e)) -/
theorem s_appPop {i j : Nat} {x x' : Str} {e : Expr} {ee : Mi.E} {px pa pc px' pa' pc' : Pos} (n : Cn X P (wE E)) (hi : X.N[i]? = some x) (hv : Vis X.env.scope x) (hd : (x == ("__debug__" : Str)) = false) (hcd : (x == ("__classdict__" : Str)) = false)
    (hi' : X.N[j]? = some x') (hv' : Vis X.env.scope x') (hd' : (x' == ("__debug__" : Str)) = false) (hcd' : (x' == ("__classdict__" : Str)) = false)
    (he : PE X e (tO P (wE E) (evE Γ ee))) (hst : starEach [e] X.env = [(false, eval e X.env)]) (hl : (pa.endLine == pc.line) = true) (hl' : (pa'.endLine == pc'.line) = true) :
    PS X (.Expr (.Call (.Attribute (.Name x px) "append" pa) [.Call (.Attribute (.Name x' px') "pop" pa') [e] [] pc'] [] pc) pos) (tS P E (exS Γ (.appPop i j ee))) :=
  (ps_expr (pe_bm PySem.F.plainAttrs_list PySem.F.slot_list_append PySem.F.type_list_append mt_append (pe_var hi hv hd hcd) (pa_cons (pe_bm PySem.F.plainAttrs_list PySem.F.slot_list_pop PySem.F.type_list_pop mt_popAt (pe_var hi' hv' hd' hcd') (pa_cons he pa_nil hst) rfl (by rw [hst]; rfl) hl' hst rfl) pa_nil rfl) rfl rfl hl rfl rfl) rfl).imp fun D σ H ⟨He, Ge, G, ρ, μ, A, e, w, sl, h, o⟩ => by
    simp only [exS] at h
    split at h
    · rename_i vs us hρ hρ'
      obtain ⟨p, ys, z1, z2, z3, z4, z5, z6⟩ := sl.ow i vs hρ
      obtain ⟨p', ys', z1', z2', z3', z4', z5', z6'⟩ := sl.ow j us hρ'
      refine ⟨.ref p, z1, .inl ⟨rfl, ys, .inl (.inl z2)⟩, .ref p', z1', .inl ⟨rfl, ys', .inl (.inl z2')⟩, ⟨He, G, ρ, μ, _, A.xx, w, sl, h, fun G1 μ1 H1 v y e1 w1 r1 h1 => ?_, o.xx.ext e⟩⟩
      have s1 := sl.ext w e1
      have hp : H1 p = some (.lst ys) := e1.fr p _ z2 z5 (fun _ z => nomatch z)
      have hp' : H1 p' = some (.lst ys') := e1.fr p' _ z2' z5' (fun _ z => nomatch z)
      dsimp only at h1
      split at h1
      · rename_i k
        obtain ⟨hij, hlen, hk, h1⟩ := h1
        split at h1
        · rename_i u hu
          obtain rfl := (r1.toH s1).int
          obtain ⟨y', hy', ry'⟩ := (z3'.ext e1).get hu
          have hkl : k.toNat < ys'.length := (List.getElem?_eq_some_iff.mp hy').1
          have hix : seqIndex? k ys'.length = some k.toNat := by
            have nk : ¬ k < 0 := by omega
            unfold seqIndex?
            simp only [if_neg nk]
            rw [if_pos (by simp only [Bool.and_eq_true, decide_eq_true_eq]; omega)]
          obtain ⟨q1, q2, q3⟩ := Sl.upd (v1 := .nls (us.eraseIdx k.toNat)) (o := .lst (ys'.eraseIdx k.toNat)) (e.trans e1) w1 s1 hρ' rfl z1' ⟨_, rfl, (z3'.ext e1).eraseIdx k.toNat⟩
          have ne : p ≠ p' := fun z => sl.sep i j _ _ p hij hρ hρ' rfl rfl z1 (by rw [z]; exact z1')
          obtain ⟨q4, q5, q6⟩ := Sl.upd (i := i) (v := .nls vs) (v1 := .nls (vs ++ [u])) (a := p) (o := .lst (ys ++ [y'])) q1 q2 q3 (by rw [List.getElem?_set_ne (Ne.symm hij)]; exact hρ) rfl z1 ⟨_, rfl, (z3.ext e1).append (.cons ry' .nil)⟩
          exact ⟨p', ys', k, k.toNat, y', rfl, rfl, hp', by omega, hk.2, hix, hy', p, ys, y', rfl, rfl, by rw [upd_ne ne]; exact hp, by rw [← z3.length]; exact hlen, o.nx G1 μ1 _ _ σ q4 e1.toLe q5 q6 h1⟩
        · exact h1.elim
      · exact h1.elim
    · exact h.elim
theorem s_aug {i : Nat} {x : Str} {e : Expr} {o : Op} {ee : Mi.E} {px : Pos} (n : Cn X P (wE E)) (hN : X.N.Nodup) (hi : X.N[i]? = some x) (hx : Loc X.env.scope x) (hf : X.fn x = true ∨ X.env.scope.names.lookup x = some .local)
    (he : PE X e (tO P (wE E) (evE Γ ee))) (ho : o = .add ∨ o = .sub) : PS X (.AugAssign (.Name x px) o.py e pos) (tS P E (exS Γ (.aug i o ee))) := by
  have hp : PIp X o.py (ipI (augf o)) := by
    rcases ho with rfl | rfl
    · exact ip_add
    · exact ip_sub
  exact (ps_aug hN hi hx he hp hf).imp fun D σ H ⟨He, Ge, G, ρ, μ, A, e, w, sl, h, o⟩ => by
      simp only [exS] at h
      split at h
      · rename_i u hρ
        obtain ⟨y, h1, h2⟩ := sl.fz i _ hρ rfl
        obtain rfl : y = .int u := by cases h2; rfl
        refine ⟨.int u, h1, ⟨He, G, ρ, μ, _, A.xx, w, sl, h, fun G1 μ1 H1 v z e1 w1 r1 h3 => ?_, o.xx.ext e⟩⟩
        dsimp only at h3
        split at h3
        · rename_i j
          obtain rfl := (r1.toH (sl.ext w e1)).int
          exact ⟨u, j, rfl, rfl, o.nx G1 μ1 H1 _ _ (e.trans e1) e1.toLe w1 ((sl.ext w e1).setF (.int _) i) h3⟩
        · exact h3.elim
      · exact h.elim
theorem putF_new {f : Str} {y : V} : ∀ {fs : List (Str × V)}, f ∉ fs.map (·.1) → putF f y fs = fs ++ [(f, y)]
  | [], _ => rfl
  | (g, x) :: r, h => by
    have hg : ¬ g = f := fun e => h (by simp [e])
    unfold putF
    rw [if_neg hg, putF_new fun z => h (by simp at z ⊢; exact .inr z)]
    rfl
theorem zip_keys {α β : Type} : ∀ {fs : List α} {ys : List β}, fs.length = ys.length → (fs.zip ys).map (·.1) = fs
  | [], [], _ => rfl
  | f :: fs, y :: ys, h => by simp [zip_keys (fs := fs) (ys := ys) (by simpa using h)]
  | [], _ :: _, h => by simp at h
  | _ :: _, [], h => by simp at h
/-- self.f = e -/
theorem s_setA {i : Nat} {x f : Str} {e : Expr} {ee : Mi.E} {px p2 : Pos} (n : Cn X P (wE E)) (hi : X.N[i]? = some x) (hv : Vis X.env.scope x) (hd : (x == ("__debug__" : Str)) = false) (hcd : (x == ("__classdict__" : Str)) = false)
    (hf : ∀ c C, P.mg c = some (.ref C) → f ∈ Γ.flds c → Cls X.K C ∧ NoAttr X.K C f)
    (he : PE X e (tB1 true P (wE E) (evE Γ ee))) (hs : swapsWith e (some (.Attribute (.Name x px) f p2)) pos.line X.env = pure false) : PS X (.Assign [.Attribute (.Name x px) f p2] e pos) (tS P E (exS Γ (.setA i f ee))) :=
  (ps_fld (pe_var hi hv hd hcd) he hs).imp fun D σ H ⟨He, Ge, G, ρ, μ, A, e, w, sl, h, o⟩ => by
    simp only [exS] at h
    refine ⟨He, G, ρ, μ, _, A.xx, w, sl, h, fun G1 μ1 H1 v y e1 w1 r1 h1 => ?_, o.xx.ext e⟩
    have s1 := sl.ext w e1
    split at h1
    · rename_i c fs vs hρ
      obtain ⟨hnf, hin, hlen, h1⟩ := h1
      obtain ⟨p, C, dx, ys, z1, z0, z2, z7, z3, z4, z5, z6⟩ := s1.oi i c fs vs hρ
      obtain ⟨k1, k2⟩ := hf c C z0 hin
      have hl : fs.length = ys.length := z7.trans z3.length
      have hput : putF f y (fs.zip ys) = (fs ++ [f]).zip (ys ++ [y]) := by
        rw [putF_new (by rw [zip_keys hl]; exact hnf), List.zip_append hl]
        rfl
      obtain ⟨q1, q2, q3⟩ := Sl.upd (v1 := .nin c (fs ++ [f]) (vs ++ [v.fz])) (o := .ins C dx ((fs ++ [f]).zip (ys ++ [y]))) (e.trans e1) w1 s1 hρ rfl z1 ⟨C, dx, _, z0, rfl, by simp [z7], z3.append (.cons (b1T r1) .nil), z6.2⟩
      refine ⟨.ref p, z1, p, C, dx, _, rfl, z2, k1, k2, ?_, ?_⟩
      · rw [List.length_zip, ← hl]
        omega
      · rw [hput]
        exact o.nx G1 μ1 _ _ σ q1 e1.toLe q2 q3 h1
    · exact h1.elim
end
end Mi
end

section
-- MiniX
set_option Elab.async false
set_option linter.all false
set_option maxRecDepth 100000
set_option maxHeartbeats 4000000
/-! Mini, part X: exceptions held as values: isinstance, their attributes -/
namespace Mi
open PySem PySem.Spec PySem.Calls PyProof.Rows L2
section
variable {prog : Program} {w : World} {A : Around} {E : Value → Shared → Prop} {s : Shared} {K : PySem.W.Frag} {x D : Addr} {ox : Obj} {od : Option Obj}
theorem fo_data {name : Str} {a g : Value} (hc : (PySem.W.clsIn K D).isSome = true) (ha : PySem.W.findIn K (.ref D) name = some (some a)) (hg : PySem.W.specialIn K a "__get__" = some (some g)) (ht : PySem.W.takesIn K a = some true) : PySem.W.findObj K D od name = some (.bind g a) := by
  obtain ⟨cd, hc⟩ := Option.isSome_iff_exists.mp hc
  unfold PySem.W.findObj
  rw [hc, Option.bind_some, ha, Option.bind_some]
  simp [hg, ht]
open PySem.W in
theorem class_of_exc {Q : Option Value → Shared → Prop} (C : ExcC K D) (X : K.In s.heap) (I : InstAt s.heap x ox D od) (h : Q (some (.ref D)) { s with toks := s.toks + 1 }) : wpAny (model prog w) A (getAttr? (.ref x) "__class__") Q E s := by
  have hf : findObj K D od "__class__" = some (.bind (.builtin "getset_descriptor.__get__") (.builtin "object.__class__")) := fo_data (by obtain ⟨cd, hc, _⟩ := any_some C.hd; rw [hc]; rfl) C.ha C.hn C.ht
  obtain ⟨hp, g, d, t, os⟩ := s
  have L0 := I.type (M := model prog w)
  have L1 := looks_findIn (M := model prog w) X C.hg
  have L2 := looks_findIn (M := model prog w) X C.hk
  have L3 := looks_find (M := model prog w) X I hf
  have sub : Looks (model prog w) hp (isInstance (.ref x) (.type "BaseException")) true := L0.andThen (looks_subIn X C.hs)
  have hx0 : (false && onTheHeap (Value.builtin "BaseException.__getattribute__")) = false := rfl
  have hx2 : (Value.builtin "BaseException.__getattribute__" == Value.builtin "object.__getattribute__") = false := by decide +kernel
  have hx1 : (onTheHeap (Value.ref D) && Value.builtin "BaseException.__getattribute__" == Value.builtin "object.__getattribute__") = false := by rw [hx2]; rfl
  unfold getAttr? getAttrBy? getAttrBy
  refine wpAny_bind (wpAny_mkText (wpAny_bind (wpAny_attempt (wpAny_holding (wpAny_bind (L0.at (wpAny_bind (L1.at ?_))))))))
  show wpAny _ _ (if (onTheHeap (Value.ref D) && Value.builtin "BaseException.__getattribute__" == Value.builtin "object.__getattribute__") = true then _ else _) _ _ _
  rw [hx1, if_neg Bool.false_ne_true]
  unfold getAttrByItsOwn hookBefore
  refine wpAny_bind ?_
  rw [if_pos (show onTheHeap (Value.ref D) = true from rfl)]
  refine L2.at ?_
  refine wpAny_bind (wpAny_attempt (wpAny_holding ?_))
  unfold callGetattribute
  rw [hx0, if_neg Bool.false_ne_true]
  unfold boundAndCalled
  rw [PySem.F.excAttr_ValueError.ga.bind (.ref x)]
  refine wpAny_bind (wpAny_pure ?_)
  show wpAny _ _ (call (.builtin "BaseException.__getattribute__") [.ref x, .str "__class__" t]) _ _ _
  refine wpAny_call (codeAny_call_builtin PySem.F.excAttr_ValueError.ga.plain PySem.F.entry_bexc_ga ?_)
  refine @check_slot (model prog w) _ _ ⟨hp, g, d, t + 1, os⟩ "BaseException.__getattribute__" "BaseException" "__getattribute__" (.ref x) [.str "__class__" t] [] _ (by decide +kernel) (by decide +kernel) sub (PySem.F.args_bexc_ga (.ref x) (.str "__class__" t)) ?_
  unfold Builtin.«object.__getattribute__»
  refine wpAny_bind (wpAny_of_eq (a := ((Value.ref x : Value), [Value.str "__class__" t])) (by first | rfl | (simp only [slotArgs]; rfl)) ?_)
  refine wpAny_bind (wpAny_pure (wpAny_bind (L0.at (wpAny_bind (L3.at ?_)))))
  show wpAny _ _ (holding [Value.builtin "object.__class__"] (call (.builtin "getset_descriptor.__get__") [.builtin "object.__class__", .ref x, .ref D]) >>= ret) _ _ _
  refine wpAny_bind (wpAny_holding (wpAny_call (class_get (s := ⟨hp, g, d, t + 1, os⟩) (ox := ox) (od := od) X I C.hm ?_)))
  refine wpAny_pure ?_
  show wpAny _ _ (handedOut (.ref D)) _ _ _
  rw [handedOut_of (v := .ref D) rfl]
  first
    | exact wpAny_pure (wpAny_pure h)
    | exact wpAny_pure h
    | exact wpAny_pure (wpAny_bind (wpAny_pure (wpAny_pure h)))
open PySem.W in
theorem kitx_of (C : ExcC K D) : KitX K (.ref x) (.ref D) (fun h => InstAt h x ox D od) where
  ty := fun _ _ _ I => I.type
  it := fun _ _ X _ => by
    obtain ⟨cdD, hcD, _⟩ := any_some C.hd
    unfold clsIn at hcD
    split at hcD
    · rename_i c' d' cd' sl' ho
      intro A' Q' E' s' k q
      unfold isType loadHead
      exact wpAny_bind (wpAny_loadPart (k _ _ (X _ _ ho)) (wpAny_pure q))
    · cases hcD
  ne := fun h tp dd its n sl X htp => by
    obtain ⟨cdD, hcD, _⟩ := any_some C.hd
    refine Bool.eq_false_iff.mpr fun q => ?_
    have e : D = tp := Value.ref.inj (beq_iff_eq.mp q)
    subst e
    unfold clsIn at hcD
    split at hcD
    · rename_i c' d' cd' sl' ho
      have z := (X _ _ ho).symm.trans htp
      cases z
    · cases hcD
  ca := fun X I k => class_of_exc C X I k
end
/-- what isinstance and attributes ask of an exception's class -/
def excB (K : PySem.W.Frag) (D : Addr) : Bool :=
  decide (PySem.W.findIn K (.ref D) "__getattribute__" = some (some (.builtin "BaseException.__getattribute__"))) && (decide (PySem.W.findIn K (.ref D) "__getattr__" = some none) && (decide (PySem.W.subIn K (.ref D) (.type "BaseException") = some true) && (PySem.W.hasDictIn K D &&
  (decide (PySem.W.findIn K (.ref D) "__class__" = some (some (.builtin "object.__class__"))) && (decide (PySem.W.specialIn K (.builtin "object.__class__") "__get__" = some (some (.builtin "getset_descriptor.__get__"))) && (decide (PySem.W.takesIn K (.builtin "object.__class__") = some true) &&
  decide (PySem.W.mroIn K D (.type "object") = some true)))))))
theorem excB_ok {K : PySem.W.Frag} {D : Addr} (h : excB K D = true) : ExcC K D := by
  unfold excB at h
  simp only [Bool.and_eq_true, decide_eq_true_eq] at h
  obtain ⟨h1, h2, h3, h4, h5, h6, h7, h8⟩ := h
  exact ⟨h1, h2, h3, h4, h5, h6, h7, h8⟩
section
variable {X : Cx} {pins : List (Addr × Obj)} {σ : L2.St} {H : Hp} {s : Shared}
/-- an exception object, and its own dict if it has one -/
def ExAt (H : Hp) (a D : Addr) : Prop := ∃ d, H a = some (ExH D d a) ∧ ∀ dd, d = some dd → ∃ fs, H dd = some (.xd fs)
theorem exAt_inst {a D : Addr} (I : Inv X pins σ H s) (h : ExAt H a D) : ∃ ox od, PySem.W.InstAt s.heap a ox D od := by
  obtain ⟨d, h1, h2⟩ := h
  have o1 : ObjOk X.prog X.w H s.heap a (ExH D d a) := I.hok a _ h1
  obtain ⟨oe, vs, e1, e2, e3, e4⟩ := o1.1
  cases d with
  | none =>
    refine ⟨oe, none, e1, e2, by unfold PySem.W.notCls; rw [e4], ?_⟩
    rw [e3]; trivial
  | some dd =>
    obtain ⟨fs, h3⟩ := h2 dd rfl
    have o2 : ObjOk X.prog X.w H s.heap dd (.xd fs) := I.hok dd _ h3
    obtain ⟨mA, hns, hr⟩ := o2
    obtain ⟨od, ho, hl⟩ := lookIn_ns hns
    refine ⟨oe, some od, e1, e2, by unfold PySem.W.notCls; rw [e4], ?_⟩
    rw [e3]; exact ho
/-- isinstance of anything -/
def rIsM (K : PySem.W.Frag) : List V → Hp → VK → Prop := fun xs H Q => ∃ (x c : V) (C : Value) (b : Bool), xs = [x, c] ∧ ClsV c C ∧ ((∃ T, TyX K H x T ∧ PySem.W.kitOne K T C = some b) ∨ (∃ a D, x = .ref a ∧ ExAt H a D ∧ ExcC K D ∧ PySem.W.kitOne K (.ref D) C = some b)) ∧ Q (.bl b) H
theorem call_isM : CallR X (.builtin "isinstance") (rIsM X.K) := by
  intro pins s σ H xs us Q I r h
  obtain ⟨x, c, C, b, rfl, k, z, q⟩ := h
  rcases z with ⟨T, ty, e⟩ | ⟨a, D, rfl, ea, ec, e⟩
  · exact call_isi pins s σ H _ us Q I r ⟨x, c, T, C, b, rfl, k, ty, e, q⟩
  · obtain ⟨u1, u2, rfl, r1, r2⟩ := vals2 r
    have e2 := k.eq r2
    subst e2
    cases (show u1 = Value.ref a from r1)
    obtain ⟨ox, od, J⟩ := exAt_inst I ea
    exact PySem.W.kia_one (kitx_of ec) I.kIn J e (fun z => nomatch z) fun tk => ⟨.bl b, H, I.tok tk, rfl, q⟩
/-- e.f of an instance or an exception -/
def tAttrM (K : PySem.W.Frag) (te : TE) (n : Str) : TE := fun σ H Q => te σ H fun x H1 =>
  (∃ a C dx fs v, x = .ref a ∧ H1 a = some (.ins C dx fs) ∧ Cls K C ∧ NoAttr K C n ∧ fs.lookup n = some v ∧ Q v H1) ∨
  (∃ a C d fs v, x = .ref a ∧ H1 a = some (ExH C (some d) a) ∧ ExcC K C ∧ PySem.W.findIn K (.ref C) n = some none ∧ H1 d = some (.xd fs) ∧ fs.lookup n = some v ∧ Q v H1)
theorem pe_attrM {e : Expr} {te : TE} {pos : Pos} {n : Str} (he : PE X e te) (hb : attributeBase e n X.env (eval e X.env) = eval e X.env) : PE X (.Attribute e n pos) (tAttrM X.K te n) := by
  refine ⟨fun pins s σ H Q I h => ?_⟩
  refine attr_of hb (thn (he.run pins s σ H _ I h) fun u s1 ⟨x, H1, I1, rx, hq⟩ => ?_)
  rcases hq with ⟨a, C, dx, fs, v, ex, ea, c, hn, l, q⟩ | ⟨a, C, d, fs, v, ex, ea, c, hn, ed, l, q⟩
  · subst ex
    obtain rfl : u = Value.ref a := rx
    exact getattr_ok I1 ea c hn l fun u' s2 I2 ru => ⟨v, H1, I2, ru, q⟩
  · subst ex
    obtain rfl : u = Value.ref a := rx
    have o1 : ObjOk X.prog X.w H1 s1.heap a (ExH C (some d) a) := I1.hok a _ ea
    obtain ⟨oe, vs, e1, e2, e3, e4⟩ := o1.1
    have o2 : ObjOk X.prog X.w H1 s1.heap d (.xd fs) := I1.hok d _ ed
    obtain ⟨mA, hns, hr⟩ := o2
    obtain ⟨od, ho, hl⟩ := lookIn_ns hns
    obtain ⟨u, hu, ru⟩ := RelO.some_of (v := v) (o := mA n) (by rw [← l]; exact hr n)
    have J : PySem.W.InstAt s1.heap a oe C (some od) := ⟨e1, e2, by unfold PySem.W.notCls; rw [e4], by rw [e3]; exact ho⟩
    exact HandSPX.exc_get I1.kIn J c.hg c.hk c.hs (PySem.W.findObj_own c.hd hn rfl (by rw [hl, hu])) (handed_of ru) ⟨v, H1, I1.tok _, ru, q⟩
end
end Mi
end

section
-- MiniC
set_option Elab.async false
set_option linter.all false
set_option maxRecDepth 100000
set_option maxHeartbeats 4000000
/-! Mini, part C: a caught error that is kept -/
namespace Mi
open PySem PySem.Spec PyProof.Rows L2
section
variable {X : Cx} {pins : List (Addr × Obj)} {σ : L2.St} {H : Hp} {s : Shared}
/-- the caught error's object is known from now on -/
theorem inv_track {a : Addr} {oe : Obj} {vs : Array Value} {C : Addr} {d : Option Addr} (I : Inv X ((a, oe) :: pins) σ H s) (hc : oe.cls = .ref C) (hdd : oe.dict = d) (hd : oe.data = .fields vs) (h0 : X.s_0.heap.get? a = none) (hp : ∀ p ∈ X.pn ++ pins, p.1 ≠ a) :
    Inv X pins σ (upd H a (ExH C d a)) s := by
  obtain ⟨ga, na, nL, nF, _⟩ := I.pin (a, oe) (List.mem_append_right _ List.mem_cons_self)
  have sm : ∀ {b u}, H b = some u → b ≠ a := fun {b u} e => ne_of_none e na
  have un := I.base
  refine ⟨I.ok, I.os, I.bare, ⟨un.keep, un.slot, fun b o e n hx => ?_, un.there, fun b xs e => ?_, fun b o u e => ?_, fun b ps e => ?_⟩, I.loc, I.cell, ?_, fun y c e => ?_, fun p hq => ?_, fun b u e => ?_, I.len⟩
  · have ne : b ≠ a := fun z => by rw [z, h0] at e; cases e
    rw [upd_ne ne]
    exact un.free b o e n hx
  · have q := un.tups b xs e
    rw [upd_ne (sm q)]
    exact q
  · have q := un.frzs b o u e
    rw [upd_ne (sm q)]
    exact q
  · obtain ⟨more, q⟩ := un.tbls b ps e
    exact ⟨more, by rw [upd_ne (sm q)]; exact q⟩
  · rw [upd_ne (Ne.symm nL)]
    exact I.free
  · have ne : c ≠ a := fun z => by
      obtain ⟨v, o, ho, hcell⟩ := I.cell y c e
      rw [z, ga] at ho
      cases ho
      rw [hd] at hcell
      cases hcell
    rw [upd_ne ne]
    exact I.freeC y c e
  · obtain ⟨q1, q2, q3, q4, q5⟩ := I.pin p (by
      rcases List.mem_append.mp hq with z | z
      · exact List.mem_append_left _ z
      · exact List.mem_append_right _ (List.mem_cons_of_mem _ z))
    exact ⟨q1, by rw [upd_ne (hp p hq)]; exact q2, q3, q4, q5⟩
  · by_cases hb : b = a
    · rw [hb, upd_same] at e
      cases e
      rw [hb]
      exact ⟨⟨oe, vs, ga, hc, hdd, hd⟩, ⟨oe, ga⟩, fun h1 h2 ⟨o, ws, z1, z2⟩ st => ⟨o, ws, st _ z1, z2⟩⟩
    · rw [upd_ne hb] at e
      exact (I.hok b u e).stay (fun _ _ _ q => q) (fun c q => by rw [upd_ne (sm q)]; exact q) fun c xs q => by rw [upd_ne (sm q)]; exact q
/-- what is wished of an error: it is caught, kept at slot i, the clause's name at slot j goes -/
def wKeep (K : PySem.W.Frag) (cS : Value) (n i j : Nat) (D : Ends) : WX := fun cls d σ H =>
  PySem.W.exmOne K cls cS = some true ∧ ∃ C, cls = .ref C ∧ (σ.length = n → ∀ a, H a = none → D.nx (((σ.set j (some (.ref a))).set i (some (.ref a))).set j none) (upd H a (ExH C d a)))
/-- try: body / except x as n: m = n -/
theorem ps_try_keep {x n m : Str} {cS : Value} {i j : Nat} {body : List Stmt} {np q1 q2 q3 pos pos' : Pos} {tb : WX → TS} (hs : X.stack = X.env :: X.outer) (hf : X.env.frame = some X.env.locals) (hex : X.ex = []) (hN : X.N.Nodup) (hj : X.N[j]? = some n) (hln : X.env.kindOf n = some .local)
    (hi : X.N[i]? = some m) (hlm : X.env.scope.names.lookup m = some .local) (hc : Names X x cS) (hd1 : (n == ("__debug__" : Str)) = false) (hd2 : (n == ("__classdict__" : Str)) = false)
    (hb : ∀ (W : WX) (pn : List (Addr × Obj)) (xe : Value → Shared → Prop), Takes (X.tr pn xe) W → PassesOwn (model X.prog X.w) X.A X.env xe → PSs (X.tr pn xe) body (tb W)) :
    PS X (.Try body [.ExceptHandler (some (.Name x np)) (some n) [.Assign [.Name m q1] (.Name n q2) q3] pos'] [] [] pos) (fun D σ H => tb (wKeep X.K cS X.N.length i j D) D σ H) := by
  refine ⟨fun pins s σ H D I hwish => ?_⟩
  have okX := I.ok
  have frX : X.A.frames = some (X.env :: X.outer) := by rw [okX.frames, hs]
  have locN : L2.Loc X.env.scope n := .inl hln
  refine wpAny_Try_except (wpAny_mono ((hb (wKeep X.K cS X.N.length i j D) (X.pn ++ pins) (fun e s₁ => wpAny (model X.prog X.w) X.A (noteFrame e X.env) (fun _ s₂ => wpAny (model X.prog X.w) X.A (setFlight e none) (fun _ s₃ =>
    wpAny (model X.prog X.w) X.A (handleBy e X.env [.ExceptHandler (some (.Name x np)) (some n) [.Assign [.Name m q1] (.Name n q2) q3] pos']) (SP X pins D) X.xe s₃) X.xe s₂) X.xe s₁) (fun u s' xx => ?_) PassesOwn.looking).run [] s σ H D (I.toTry _) hwish) (fun f s1 hsp => ?_) fun e s1 he => he)
  · obtain ⟨a, B, sI, pins', σ', H', cls, d, rfl, J0, nb, up, sky, na, os, ag, hex1, C, hcls, wish⟩ := xx
    have J : Inv X pins σ' H' sI := J0.ofTry okX
    have skyX : Sky B (X.env :: X.outer) a (Zc cls d) X.env.locals s'.heap := by rw [← hs]; exact sky
    show wpAny (model X.prog X.w) X.A (noteFrame (.ref a) X.env) _ _ _
    refine Sky.land Zc.steady frX hf skyX fun h3 fl3 up3 => ?_
    have J3 : Inv X pins σ' H' { s' with heap := h3 } := J.landed nb fl3.1 (up.trans up3) os ag
    obtain ⟨oe3, vs3, he3, hz3, hd3⟩ := fl3.there
    have apartFr : ∀ {h : Heap} {o : Obj} {vs : Array Value}, h.FunFrames B (X.env :: X.outer) → h.get? a = some o → o.data = .fields vs → a ∉ frs (X.env :: X.outer) := fun {h o vs} ff e dd hm => by
      obtain ⟨_, o', e', hnf⟩ := ff.mem hm
      rw [e] at e'
      cases e'
      exact hnf _ dd
    have nfr := apartFr fl3.2.2.1 he3 hd3
    have nL : a ≠ X.env.locals := fun z => nfr (List.mem_filterMap.mpr ⟨X.env, List.mem_cons_self, by rw [hf, z]⟩)
    have nF : a ∉ X.fs := fun hm => by
      obtain ⟨e, he, q⟩ := List.mem_filterMap.mp hm
      exact nfr (List.mem_filterMap.mpr ⟨e, List.mem_cons_of_mem _ he, q⟩)
    have Ba : B.get? a = none := fl3.2.1
    have sIa : sI.heap.get? a = none := by
      cases e : sI.heap.get? a with
      | none => rfl
      | some o =>
        have z := nb a o e (by rw [hs]; exact nfr)
        rw [Ba] at z
        cases z
    have s0a : X.s_0.heap.get? a = none := by
      cases e : X.s_0.heap.get? a with
      | none => rfl
      | some o =>
        obtain ⟨o', z⟩ := J.base.there a o e (by rw [hex]; simp)
        rw [sIa] at z
        cases z
    have pina : ∀ p ∈ X.pn ++ pins, p.1 ≠ a := fun p hp z => by
      have q := (J.pin p hp).1
      rw [z, sIa] at q
      cases q
    have S3 := J3.suite he3 hd3 na nL nF
    refine wpAny_handleBy_cons (codeAny_handlers_test ?_) (by intro q; cases q)
    have LT : PySem.W.Looks (model X.prog X.w) h3 (typeOf (.ref a)) cls := fun A Q E s k q => wpAny_typeOf_ref (k _ _ he3) (by rw [hz3.1]; exact q)
    have LM := PySem.W.exm_one (M := model X.prog X.w) (J3.kIn) LT hex1
    have seen : ∀ {Q : Value → Shared → Prop} {E : Value → Shared → Prop}, Q cS { s' with heap := h3 } → wpAny (model X.prog X.w) (X.A.mark (some (.ref a))) (eval (.Name x np) X.env) Q E { s' with heap := h3 } := fun {Q E} q => by
      obtain ⟨hg, hdbg, hm | ⟨hm, hv, hnn⟩⟩ := hc
      · exact ld_glob (X := X.suite a ((a, oe3) :: (X.pn ++ pins))) S3 hg hm q hdbg
      · exact ld_blt (X := X.suite a ((a, oe3) :: (X.pn ++ pins))) S3 hg hm hv q hnn hdbg
    refine seen (LM.here (codeAny_handlers_suite_as ?_))
    refine HandSPX.lands_againZ fl3 fun h4 fl4 up4 => ?_
    have J4 : Inv X pins σ' H' { s' with heap := h4 } := J.landed nb fl4.1 ((up.trans up3).trans up4) os ag
    obtain ⟨oe4, vs4, he4, hz4, hd4⟩ := fl4.there
    have S4 := J4.suite he4 hd4 na nL nF
    refine store_ok (X := X.suite a ((a, oe4) :: (X.pn ++ pins))) (v := .ref a) S4 hN hj locN rfl (fun s5 S5 => ?_) (.inr hln)
    have jl : j < σ'.length := by rw [J.len]; exact (List.getElem?_eq_some_iff.mp hj).1
    have st : PSs (X.suite a ((a, oe4) :: (X.pn ++ pins))) [.Assign [.Name m q1] (.Name n q2) q3] (tAsg (tVar j) (gName i)) := pss_one (ps_set (X := X.suite a ((a, oe4) :: (X.pn ++ pins))) hN hi (.inl hlm) (pe_var hj (.inl hln) hd1 hd2) rfl (.inr hlm))
    refine wpAny_mono (st.run [] s5 _ H' ⟨fun σ6 H6 => σ6 = (σ'.set j (some (.ref a))).set i (some (.ref a)) ∧ H6 = H', fun _ _ => False, fun _ _ => False, fun _ _ => False⟩ S5 ⟨.ref a, by rw [List.getElem?_set_self jl], rfl, rfl⟩) (fun f s6 hsp => ?_) fun _ _ z => z.elim
    have done : ∀ {σ6 : L2.St} {H6 : Hp} {Q : Shared → Prop}, Inv (X.suite a ((a, oe4) :: (X.pn ++ pins))) [] σ6 H6 s6 → (∀ s7, Inv X ((a, oe4) :: pins) (σ6.set j none) H6 s7 → Q s7) →
        wpAny (model X.prog X.w) X.A (do bindName X.env n .none; unbindBehindTheSuite X.env n pos') (fun _ s7 => Q s7) X.xe s6 := fun {σ6 H6 Q} S6 hq => by
      have S7 : Inv X ((a, oe4) :: pins) σ6 H6 s6 := (S6.unsuite okX).pins_of fun p hp => by
        have inS : p ∈ (a, oe4) :: (X.pn ++ pins) := by
          rcases List.mem_cons.mp hp with z | z
          · rw [z]; exact List.mem_cons_self
          · exact List.mem_cons_of_mem _ (List.mem_append_right _ z)
        exact S6.pin p (List.mem_append_left _ inS)
      exact gone_ok S7 hN hj hln hq
    cases f with
    | next =>
      obtain ⟨σ6, H6, S6, e6, e6'⟩ := hsp
      subst e6 e6'
      refine done S6 fun s7 J7 => ?_
      exact ⟨_, _, inv_track J7 (by rw [hz4.1]; exact hcls) hz4.2 hd4 s0a pina, wish J.len a na⟩
    | brk =>
      obtain ⟨σ6, H6, S6, z⟩ := hsp
      exact z.elim
    | cont =>
      obtain ⟨σ6, H6, S6, z⟩ := hsp
      exact z.elim
    | ret u =>
      obtain ⟨v6, σ6, H6, S6, r6, z⟩ := hsp
      exact z.elim
  · cases f with
    | next =>
      obtain ⟨σ', H', J', q⟩ := hsp
      exact wpAny_execs_nil ⟨σ', H', J'.ofTry okX, q⟩
    | brk =>
      obtain ⟨σ', H', J', q⟩ := hsp
      exact ⟨σ', H', J'.ofTry okX, q⟩
    | cont =>
      obtain ⟨σ', H', J', q⟩ := hsp
      exact ⟨σ', H', J'.ofTry okX, q⟩
    | ret u =>
      obtain ⟨v, σ', H', J', r, q⟩ := hsp
      exact ⟨v, σ', H', J'.ofTry okX, r, q⟩
/-- what _law_caught makes of the lambda it gets -/
def TCaught (K : PySem.W.Frag) (cS : Value) : (XK → Hp → VK → Prop) → Hp → VK → Prop := fun tl H Q => ∃ Ech : XK, (∀ cls d H', Ech cls d H' → PySem.W.exmOne K cls cS = some true ∧ ∃ C, cls = .ref C ∧ ∀ a, H' a = none → Q (.ref a) (upd H' a (ExH C d a))) ∧ tl Ech H fun _ H' => Q .non H'
theorem caught_gives {q : Str} {sg : Scope} {g S : Addr} {cdg : Value} {j : Nat} {p1 p2 p3 p4 p5 p6 p7 p8 p9 p10 p11 p12 p13 p14 : Pos} (hge : sg.names.lookup ("StepError" : Str) = some NameKind.globalImplicit) (hme : X.mg "StepError" = some (.ref S))
    (h1 : sg.names.lookup ("caught" : Str) = some NameKind.local) (h2 : sg.names.lookup ("error" : Str) = some NameKind.local) :
    LamX.GivesTo X ["work", "caught", "error"] "_law_caught" sg g cdg [.Assign [.Name "caught" p1] (.Constant .none j p2) p3, .Try [.Expr (.Call (.Name "work" p4) [] [] p5) p6] [.ExceptHandler (some (.Name "StepError" p7)) (some "error") [.Assign [.Name "caught" p8] (.Name "error" p9) p10] p11] [] [] p12, .Return (some (.Name "caught" p13)) p14] "work" q (TCaught X.K (.ref S)) := by
  intro f c' s H Q tl act hco ⟨Ech, hE, h⟩
  have nd : (["work", "caught", "error"] : List Str).Nodup := by decide
  have hgl : Gl (cxOf C8.CX0 X.prog X.w X.K X.mg X.base ["work", "caught", "error"] "_law_caught" sg g cdg X.A X.stack s H C8.E0).nox "StepError" := hge
  refine ⟨_, pss_cons (ps_set (i := 1) nd rfl (.inl h1) pe_non rfl (.inr h1)) (pss_cons (ps_try_keep (X := (cxOf C8.CX0 X.prog X.w X.K X.mg X.base ["work", "caught", "error"] "_law_caught" sg g cdg X.A X.stack s H C8.E0).nox) (cS := .ref S) (i := 1) (j := 2)
    (tb := fun W D σ H => ∃ (Ech : XK) (Kn : Hp → Prop), (∀ cls d σ' H', Ech cls d H' → W cls d σ' H') ∧ σ[0]? = some (some (.ref f)) ∧ H c' = some (LamX.CodeO c' q) ∧ (∀ H', Kn H' → D.nx σ H') ∧ tl Ech H (fun _ H' => Kn H'))
    rfl rfl rfl nd rfl h2 rfl h1 ⟨hgl, by decide, .inl hme⟩ (by decide) (by decide) (fun W pn xe tk _ => ⟨fun pins s' σ H' D I ⟨Ech, Kn, hW, e1, e2, e4, e3⟩ => ?_⟩)) (pss_one (ps_ret (pe_var (i := 1) rfl (.inl h1) (by decide) (by decide))))), ?_⟩
  · refine wpAny_execs_cons (wpAny_Expr_any (thn ((act W pn xe Ech p4 p5 tk hW).run pins s' σ H' (fun _ H1 => Kn H1) I ⟨e1, e2, e3⟩) fun v s1 ⟨x, H1, I1, r1, q1⟩ => ?_) I.quiet rfl)
    exact wpAny_execs_nil ⟨σ, H1, I1, e4 H1 q1⟩
  · refine ⟨Ech, fun H' => Q .non H', fun cls d σ' H' he => ?_, rfl, hco, fun H' hq => ⟨.non, rfl, hq⟩, h⟩
    obtain ⟨k1, C, k2, k3⟩ := hE cls d H' he
    refine ⟨k1, C, k2, fun hl a na => ⟨.ref a, ?_, k3 a na⟩⟩
    have hl' : σ'.length = 3 := hl
    match σ', hl' with
    | [x, y, z], _ => rfl
/-- a table as it stands: its codes bear the name q -/
def TabAt (H : Hp) (Pa : Addr) (q : Str) (ps : Array Value) : Prop := H Pa = some (.tbl ps) ∧ TriplesOk ps.toList ∧ ∀ (pos : Pos) (cv : Value), codeAmong pos ps.toList = some cv → ∃ c, cv = .ref c ∧ H c = some (LamX.CodeO c q)
/-- behind the making of a lambda: as it was, or with one code more -/
def TabStep (H : Hp) (Pa : Addr) (q : Str) (ps : Array Value) (H1 : Hp) : Prop :=
  H1 = H ∨ ∃ c' ps', H c' = none ∧ TriplesOk ps'.toList ∧ (∀ (pos : Pos) (cv : Value), codeAmong pos ps'.toList = some cv → codeAmong pos ps.toList = some cv ∨ cv = .ref c') ∧ H1 = upd (upd H Pa (.tbl ps')) c' (LamX.CodeO c' q)
theorem lam_make3 {c Pa : Addr} {ps : Array Value} {params : Arguments} {body : Expr} {scope : Scope} {pos : Pos} {E : Value → Shared → Prop} {Q : Value → Shared → Prop} (I : Inv X pins σ H s) (TB : LamX.TabB X.base X.mg c Pa) (hcode : X.env.code = .ref c)
    (hT : TabAt H Pa (X.env.qual ++ "<lambda>") ps) (hdef : defaultsOf params X.env = ([], [])) (hfree : ∀ y ∈ scope.names, y.2 = .free → ∃ c, X.env.cells.lookup y.1 = some c)
    (h : ∀ (f c' : Addr) (pm ctv : Value) (H1 : Hp) (s' : Shared), Inv X pins σ H1 s' → TabStep H Pa (X.env.qual ++ "<lambda>") ps H1 →
      s'.heap.get? f = some (PySem.W.kla_obj "<lambda>" (X.env.qual ++ "<lambda>") params body scope (cloFrom X.env.cells scope.names []) pm c' ctv) → H1 f = none → f ∉ frs X.stack → H1 c' = some (LamX.CodeO c' (X.env.qual ++ "<lambda>")) → Q (.ref f) s') :
    wpAny (model X.prog X.w) X.A (eval (.Lambda params body scope pos) X.env) Q E s := by
  obtain ⟨hP, ht, ha⟩ := hT
  refine PySem.W.kla_eval hdef ?_
  have bltP : s.heap.BuiltinsAt X.mg Pa := TB.bm.keeps I.bk
  have tabP : s.heap.get? Pa = some { cls := .none, data := .fields ps } := I.hok Pa _ hP
  have outF : ∀ f, s.heap.objs.size ≤ f → f ∉ frs X.stack := fun f hf z => by
    rcases List.mem_cons.mp (I.stkSub _ z) with e | e
    · have h1 := I.lt
      rw [← e] at h1
      exact absurd (Nat.lt_of_lt_of_le h1 hf) (Nat.lt_irrefl _)
    · exact I.nofs hf e
  cases hc : codeAmong pos ps.toList with
  | some cv =>
    obtain ⟨c', rfl, hco⟩ := ha pos cv hc
    refine PySem.W.kla_makeFunctionHit (mg := X.mg) (c := c) (P := Pa) (ps := ps) (closure_ok hfree) I.ok.glob (I.mod.glob.keeps I.bk) hcode (TB.code.keeps I.bk) tabP ht hc bltP fun ctv h' tk hx hsz => ?_
    exact h h'.objs.size c' ((X.mg "__name__").getD .none) ctv H _ (I.kept fun b o e => Heap.get?_push_of_some _ (hx b o e)) (.inl rfl) (Heap.get?_push_size _ rfl) (I.hok.fresh hsz) (outF _ hsz) hco
  | none =>
    refine PySem.W.kla_makeFunction (mg := X.mg) (c := c) (P := Pa) (ps := ps) (closure_ok hfree) I.ok.glob (I.mod.glob.keeps I.bk) hcode (TB.code.keeps I.bk) tabP ht hc TB.gP bltP fun c' ctv h' tk hx hge hlt hrec htb => ?_
    obtain ⟨c2, oc, vs, t, e2, hoc, hd, hv⟩ := hrec
    cases e2
    have grown : s.heap.objs.size ≤ h'.objs.size := Nat.le_trans hge (Nat.le_of_lt hlt)
    have newC : H c' = none := I.hok.fresh hge
    have eL : (ps ++ #[rawInt pos.line, rawInt pos.col, .ref c']).toList = ps.toList ++ [rawInt pos.line, rawInt pos.col, .ref c'] := by simp
    refine h h'.objs.size c' ((X.mg "__name__").getD .none) ctv _ _ (LamX.inv_table (t' := tk) (more := #[rawInt pos.line, rawInt pos.col, .ref c']) (h' := h'.push (PySem.W.kla_obj "<lambda>" (X.env.qual ++ "<lambda>") params body scope (cloFrom X.env.cells scope.names []) ((X.mg "__name__").getD .none) c' ctv)) I hP
      (fun b o hb e => Heap.get?_push_of_some _ (hx b o hb e)) (Heap.get?_push_of_some _ htb) hge ⟨oc, vs, t, Heap.get?_push_of_some _ hoc, hd, hv⟩) (.inr ⟨c', _, newC, by rw [eL]; exact PySem.TriplesOk_snoc _ _ _ _ ht, fun p' cv hcv => ?_, rfl⟩) (Heap.get?_push_size _ rfl) ?_ (outF _ grown) upd_same
    · rw [eL] at hcv
      exact LamX.among_app _ ht hcv
    · rw [upd_ne (Nat.ne_of_gt hlt), upd_ne (Nat.ne_of_gt (Nat.lt_of_lt_of_le (Heap.lt_size tabP) grown))]
      exact I.hok.fresh grown
/-- the reading of x(lambda: body) -/
def tLam3 (Pa : Addr) (q : Str) (TT : (XK → Hp → VK → Prop) → Hp → VK → Prop) (t : XK → TE) : TE := fun σ H Q => ∃ ps, TabAt H Pa q ps ∧ ∀ H1, TabStep H Pa q ps H1 → TT (fun E H' Q' => t E σ H' Q') H1 Q
end
/-- the text of _law_caught -/
def isCaught : List Stmt → Bool
  | [.Assign [.Name a _] (.Constant .none _ _) _, .Try [.Expr (.Call (.Name b _) [] [] _) _] [.ExceptHandler (some (.Name c _)) (some d) [.Assign [.Name e _] (.Name f _) _] _] [] [] _, .Return (some (.Name g _)) _] =>
    decide (a = "caught") && decide (b = "work") && decide (c = "StepError") && decide (d = "error") && decide (e = "caught") && decide (f = "error") && decide (g = "caught")
  | _ => false
/-- _law_caught as it stands -/
structure CaughtD (K : PySem.W.Frag) (mg : Str → Option Value) : Prop where
  ex : ∃ (g : Addr) (pg : Arguments) (bg : List Stmt) (sg : Scope) (dV kV doc pm cdv ct oc : Value) (an od : Option Addr) (osl : Array (Option Value)), mg "_law_caught" = some (.ref g) ∧ PySem.W.keepIn K (.ref g) = true ∧
    K.lookup g = some ⟨oc, od, .func (PySem.W.fnOf "_law_caught" "_law_caught" pg bg sg dV kV doc pm an cdv ct), osl⟩ ∧ PySem.W.codeIn K cdv "_law_caught" = true ∧ L2.Binds K (PySem.W.fnOf "_law_caught" "_law_caught" pg bg sg dV kV doc pm an cdv ct) ["work"] [] ∧
    FnScope ["work", "caught", "error"] ["work"] sg ∧ sg.names.lookup ("StepError" : Str) = some NameKind.globalImplicit ∧ sg.names.lookup ("caught" : Str) = some NameKind.local ∧ sg.names.lookup ("error" : Str) = some NameKind.local ∧ sg.names.lookup ("work" : Str) = some NameKind.local ∧ isCaught bg = true
  step : ∃ S, mg "StepError" = some (.ref S)
def isRefused : List Stmt → Bool
  | [.Return (some (.Compare (.Call (.Name a _) [.Call (.Name b _) [.Name c _] [] _] [] _) [.Eq] [.Name d _] _)) _] => decide (a = "_law_re_kind") && (decide (b = "_law_caught") && (decide (c = "work") && decide (d = "word")))
  | _ => false
/-- _law_re_refused as it stands -/
structure RefD (K : PySem.W.Frag) (mg : Str → Option Value) : Prop where
  ex : ∃ (g : Addr) (pg : Arguments) (bg : List Stmt) (sg : Scope) (dV kV doc pm cdv ct oc : Value) (an od : Option Addr) (osl : Array (Option Value)), mg "_law_re_refused" = some (.ref g) ∧ PySem.W.keepIn K (.ref g) = true ∧
    K.lookup g = some ⟨oc, od, .func (PySem.W.fnOf "_law_re_refused" "_law_re_refused" pg bg sg dV kV doc pm an cdv ct), osl⟩ ∧ PySem.W.codeIn K cdv "_law_re_refused" = true ∧ L2.Binds K (PySem.W.fnOf "_law_re_refused" "_law_re_refused" pg bg sg dV kV doc pm an cdv ct) ["word", "work"] [] ∧
    FnScope ["word", "work"] ["word", "work"] sg ∧ sg.names.lookup ("_law_re_kind" : Str) = some NameKind.globalImplicit ∧ sg.names.lookup ("_law_caught" : Str) = some NameKind.globalImplicit ∧ sg.names.lookup ("word" : Str) = some NameKind.local ∧ sg.names.lookup ("work" : Str) = some NameKind.local ∧ isRefused bg = true
end Mi
end

section
-- MiniJ
set_option Elab.async false
set_option linter.all false
set_option maxRecDepth 100000
set_option maxHeartbeats 4000000
/-! Mini, part J: an own error over ValueError whose __init__ says super().__init__(text) and keeps one field -/
namespace Mi
open PySem PySem.W PySem.Calls PyProof.Rows
/-- the text of such an __init__ -/
def isInit (f : Str) : List Stmt → Bool
  | [.Expr (.Call (.Attribute (.Call (.Name a _) [] [] _) b _) [.Constant (.str _) _ _] [] _) _, .Assign [.Attribute (.Name c _) d _] (.Name _ _) _] => decide (a = "super") && (decide (b = "__init__") && (decide (c = "self") && decide (d = f)))
  | _ => false
section
variable {prog : Program} {w : World} {A : Around} {s : Shared} {K : Frag}
theorem call_mw {u e C t0 : Addr} {rest : List Value} {nm q : Str} {N : Addr} {bs bm : List Value} {hdct : Bool} {sn : List Str} {sub : List Value} {ab : Bool} {col : Option Bool} {dd : Option Addr} {k0 k1 k2 k3 k5 : Option Value} {Q : Value → Shared → Prop} {E : Value → Shared → Prop}
    (hu : s.heap.get? u = some (kxs_mw "ValueError.__init__" e)) (he : s.heap.get? e = some (HandSPX.excO C t0)) (hC : s.heap.get? C = some (excClassObj nm q C N bs bm hdct sn sub ab col dd k0 k1 k2 k3 k5 "ValueError.__new__")) (hz : rest.length ≤ sizeLine)
    (fin : ∀ h', (∀ b o, b ≠ e → s.heap.get? b = some o → h'.get? b = some o) → h'.get? e = some (HandSPX.excO C s.heap.objs.size) → Q .none { s with heap := h' }) :
    wpAny (model prog w) A (call (.ref u) rest) Q E s := by
  obtain ⟨hh, g, d, tk, os⟩ := s
  refine wpAny_call (codeAny_of_tree ?_)
  show wpAny _ A.in1 (callAny (.ref u) ⟨rest, []⟩) _ _ _
  simp only [callAny]
  refine wpAny_bind (wpAny_load hu ?_)
  simp only [kxs_mw, show (Value.type "method-wrapper" == Value.type "method" || Value.type "method-wrapper" == Value.type "builtin_function_or_method" || Value.type "method-wrapper" == Value.type "method-wrapper") = true by decide, if_true]
  refine KFB.if_so (by decide) ?_
  refine wpAny_bind (check_bound_init F.excBase_ValueError.toExcCallFacts hC he rfl ?_)
  refine wpAny_bind (wpAny_pure (wpAny_pure ?_))
  refine ⟨plainId_quiet F.excBase_ValueError.init.plain _, codeAny_builtin F.excBase_ValueError.initEntry ?_⟩
  exact exc_init_tree (cls := .ref C) (t0 := t0) (dv := none) (c2 := .none) (c3 := .none) (b4 := .bool false) he hz fun h' k e' _ => fin h' k e'
theorem te_init {R : Result → Shared → Prop} {C fI cc cda e t0 : Addr} {fd : FuncData} {a1 a2 : PySem.Arg} {f txt : Str} {v : Value} {mg mb : Str → Option Value} {oc ccl cl : Value} {od cdd cld : Option Addr} {osl ccs csl : Array (Option Value)} {vs : Array Value} {file : Str} {tf : Tok} {j : Nat} {p0 p1 p2 p3 p4 p5 p6 p7 p8 p9 : Pos} {cdC : ClassData}
    (X : K.In s.heap) (hroom : A.depth < recursionLimit) (hlim : s.heap.NoLimit) (hg : s.heap.Ns mainGlobals mg) (hb : s.heap.Ns builtinsNs mb) (hbb : ∀ x : Str, x ≠ "__name__" → mb x = bootBuiltins x)
    (hf : K.lookup fI = some ⟨oc, od, .func fd, osl⟩) (hbody : fd.body = .stmts [.Expr (.Call (.Attribute (.Call (.Name "super" p0) [] [] p1) "__init__" p2) [.Constant (.str txt) j p3] [] p4) p5, .Assign [.Attribute (.Name "self" p6) f p7] (.Name a2.arg p8) p9])
    (hpos : (p2.endLine == p4.line) = true) (hcl : fd.closure = [(("__class__" : Str), cc)]) (hpar : fd.params = ⟨[], [a1, a2], none, [], [], none, []⟩) (ha1 : a1.arg = "self") (ha2 : a2.arg ≠ "self") (hdb : (a2.arg == ("__debug__" : Str)) = false) (hdef : fd.defaults = .none) (hgl : fd.globals = mainGlobals) (hbl : fd.builtins = builtinsNs)
    (hcode : fd.code = .ref cda) (hcr : codeIn K fd.code fd.qualname = true) (hk : fd.scope.kind = .function) (hco : fd.scope.isCoroutine = false) (hgen : fd.scope.isGenerator = false) (hnc : ∀ x ∈ fd.scope.names, x.2 ≠ .cell)
    (l1 : fd.scope.names.lookup ("super" : Str) = some .globalImplicit) (l2 : fd.scope.names.lookup ("__class__" : Str) = some .free) (l3 : fd.scope.names.lookup ("self" : Str) = some .local) (l4 : fd.scope.names.lookup a2.arg = some .local)
    (hcoded : K.lookup cda = some ⟨ccl, cdd, .fields vs, ccs⟩) (hvs : vs[2]? = some (.str file tf)) (hfile : ((prog.main.file : Str) == file) = true) (htop : (prog.main.scope.names.lookup ("super" : Str)).isSome = false)
    (hcell : K.lookup cc = some ⟨cl, cld, .cell (some (.ref C)), csl⟩) (hsup : mg "super" = none)
    (hC : L2.OexC K C) (hclsC : clsIn K C = some cdC) (hself : mroIn K C (.ref C) = some true) (hany : nsIn K cStatics "thirdparty.any" = some none) (hsi : ks_superIn K C C "__init__" = some (some (Value.builtin "ValueError.__init__"))) (hB : subIn K (.ref C) (.type "ValueError") = some true)
    (hno : findIn K (.ref C) f = some none) (hfr : ∀ o, K.lookup e ≠ some o) (he0 : s.heap.get? e = some (HandSPX.excO C t0))
    (hR : ∀ h' tk dx t1, (∀ b o, b ≠ e → s.heap.get? b = some o → h'.get? b = some o) → s.heap.objs.size ≤ dx → dx ≠ e → h'.get? e = some { cls := .ref C, dict := some dx, data := .fields #[.ref t1, .none, .none, .none, .bool false, .none] } →
      h'.Ns1 dx (fun y => if y = f then some v else none) → R (.ok (.ret .none)) { s with heap := h', toks := tk }) :
    codeAny (model prog w) A (.call (.ref fI) ⟨[.ref e, v], []⟩) R s := by
  have hbind : bindArgs fd ⟨[.ref e, v], []⟩ = pure [(("self" : Str), .ref e), (a2.arg, v)] := by
    have ne : ¬ (a2.arg = ("self" : Str)) := ha2
    have e3 : notAStandIn Value.none = pure () := rfl
    unfold bindArgs
    rw [hpar, hdef]
    have n1 : (a2.arg == ("self" : Str)) = false := by simpa using ne
    have n2 : ((("self" : Str)) == a2.arg) = false := by simpa using Ne.symm ne
    simp [seqItems?, e3, ha1, n1, n2, List.lookup_cons]
  obtain ⟨cl0, cd0, cv0, cs0⟩ : True ∧ True ∧ True ∧ True := ⟨trivial, trivial, trivial, trivial⟩
  refine ks_codeAny_call_defAt (binds := [(("self" : Str), .ref e), (a2.arg, v)]) hroom (X _ _ hf) rfl hlim (codeRec_of X hcr) hbody (.of_eq hbind) hnc (fun x hx => ?_) (fun h₀ hns hkeep => ?_) hco hgen hk
  · simp only [List.mem_cons, List.not_mem_nil, or_false] at hx
    rcases hx with rfl | rfl
    · exact l3
    · exact l4
  · have X₀ : K.In h₀ := fun a o q => hkeep _ _ (X a o q)
    have eR : ∀ x, (List.reverse [(("self" : Str), Value.ref e), (a2.arg, v)]).lookup x = if x = a2.arg then some v else if x = ("self" : Str) then some (.ref e) else none := by
      intro x
      simp only [List.reverse_cons, List.reverse_nil, List.nil_append, List.singleton_append, List.cons_append]
      by_cases q : x = a2.arg
      · subst q; simp [List.lookup]
      · have q' : (x == a2.arg) = false := by simpa using q
        by_cases r : x = ("self" : Str)
        · subst r; simp [List.lookup, q', q]
        · have r' : (x == ("self" : Str)) = false := by simpa using r
          simp [List.lookup, q', r', q, r]
    obtain ⟨hp, g, d, t, os⟩ := s
    dsimp only at *
    obtain ⟨oD, hD1, hD2⟩ : ∃ oD, h₀.get? C = some oD ∧ oD.data = .cls cdC := by
      unfold clsIn at hclsC
      split at hclsC
      · rename_i c d cd' sl ho
        cases hclsC
        exact ⟨_, X₀ _ _ ho, rfl⟩
      · cases hclsC
    have hns0 := hns
    have hi : interactive (callEnv fd hp.objs.size fI) = false := by
      simp [interactive, callEnv, newEnv, hk]
    have he : ∃ pl : Sem Bool, eval (.Call (.Attribute (.Call (.Name "super" p0) [] [] p1) "__init__" p2) [.Constant (.str txt) j p3] [] p4) (callEnv fd hp.objs.size fI) = (do
        let ov ← attributeBase (.Call (.Name "super" p0) [] [] p1) "__init__" (callEnv fd hp.objs.size fI) (eval (.Call (.Name "super" p0) [] [] p1) (callEnv fd hp.objs.size fI))
        standAt p2.atName
        let (fn, first) ← holding [ov] (getMethod ov "__init__" pl)
        callWith p4 fn first (backTo p4 (starEach [.Constant (.str txt) j p3] (callEnv fd hp.objs.size fI))) []) := by
      refine ⟨(do return (← importBound (.Call (.Name "super" p0) [] [] p1) (callEnv fd hp.objs.size fI)).getD true), ?_⟩
      rw [arm_eval_Call]
      have hpo : methodCallPos true (.Call (.Name "super" p0) [] [] p1) (callEnv fd hp.objs.size fI) p2 p4 = pure p4 := by unfold methodCallPos; simp [hpos]
      unfold methodCall
      rw [show methodCallForm (([Expr.Constant (Const.str txt) j p3] : List Expr).length + ([] : List Keyword).length) (backTo p4 (starEach [.Constant (.str txt) j p3] (callEnv fd hp.objs.size fI))) (backToKw p4 (keywordEach [] (callEnv fd hp.objs.size fI))) = true from rfl, hpo]
      rfl
    obtain ⟨pl, he⟩ := he
    refine ks_wpAt_execs_cons (ks_wpAt_Expr_any (ks_wpAt_MethodCall (pl := pl) ?_ he) hi)
    refine ks_wpAt_super_base (fd := fd) (cc := cda) (f := fI) (ar := a1) l1 l2 (by decide +kernel) rfl (X₀ _ _ hf) rfl (by rw [hpar]; rfl) hcode (X₀ _ _ hcoded) rfl hvs hfile htop ?_
    refine ks_loadName_global hk l1 (loadGlobal_builtin (mg := mg) (mb := mb) (v := .type "super") ?g1 hsup ?g2 ?g3 ⟨rfl, ?_⟩)
    case g1 => show h₀.Ns fd.globals mg; rw [hgl]; exact hg.keeps hkeep
    case g2 => show h₀.Ns fd.builtins mb; rw [hbl]; exact hb.keeps hkeep
    case g3 => rw [hbb _ (by decide)]; kernel_rfl
    refine wpAny_loadName_free (c := cc) (v := .ref C) hk l2 ?c1 ?c2 ?_
    case c1 => show List.lookup _ fd.closure = _; rw [hcl]; rfl
    case c2 => exact ⟨_, X₀ _ _ hcell, rfl⟩
    refine wpAny_loadName_local (v := .ref e) hk (by rw [ha1]; exact l3) hns ?c3 ?_
    case c3 => rw [eR, ha1, if_neg (Ne.symm ha2), if_pos rfl]
    refine ks_wpAny_isType_cls hD1 hD2 ⟨rfl, ?_⟩
    obtain ⟨nm, q, N, bs, bm, sn, sub, ab, col, dd, k0, k1, k2, k3, k5, hCo, hbm⟩ := hC.cls
    refine ks_wpAny_call_super hD1 hD2 (hkeep _ _ he0) rfl (fun c q => by cases q) (looks_mroIn X₀ hself) (fun h1 e1 k1' => ?_)
    have X1 : K.In h1 := fun a o q => k1' _ _ (X₀ a o q)
    have I1 : InstAt h1 e (HandSPX.excO C t0) C none := ⟨k1' _ _ (hkeep _ _ he0), rfl, rfl, trivial⟩
    refine kxs_getMethod kxs_ValueError (K := K) (l₀ := cdC.mro) e1 (looks_opaque X1 hany) (fun A Q E s k q => wpAny_bind ((looks_clsIn X1 hclsC) A _ E s k (wpAny_pure q))) rfl X1 (by unfold ks_superIn at hsi; rw [hclsC] at hsi; exact hsi) (I1.type.andThen (looks_subIn X1 hB)) (ks_ne X1 I1 hclsC) (by decide) ?_
    have hu : (h1.push (kxs_mw "ValueError.__init__" e)).get? h1.objs.size = some (kxs_mw "ValueError.__init__" e) := by heap_get
    have k2' : ∀ b o, h1.get? b = some o → (h1.push (kxs_mw "ValueError.__init__" e)).get? b = some o := fun b o q => Heap.get?_push_of_some _ q
    refine kxs_callWith (i := "ValueError.__init__") (x := e) rfl ?_
    refine evalArgs_plain ?_
    refine spliced_more (rest := []) (wpAny_Constant_str ?_)
    refine spliced_none ⟨hu, ?_⟩
    have hz : ([] ++ [Value.str txt (t + 2 + 1)]).length ≤ sizeLine := by rw [sizeLine_eq]; show 1 ≤ _; omega
    have I2 := k2' _ _ (k1' _ _ (hkeep _ _ he0))
    have X2 : K.In (h1.push (kxs_mw "ValueError.__init__" e)) := fun a o q => k2' _ _ (X1 a o q)
    refine call_mw hu I2 (X2 _ _ hCo) hz fun h3 k3' e3 => ?_
    have ne0 : ∀ {b : Addr} {o : Obj}, hp.get? b = some o → b ≠ hp.objs.size := fun {b o} q => Nat.ne_of_lt (Heap.lt_size q)
    have kL : ∀ b o, b ≠ e → hp.get? b = some o → h3.get? b = some o := fun b o nb q => k3' b o nb (k2' _ _ (k1' _ _ (hkeep _ _ q)))
    have X3 : K.In h3 := fun a o q => by
      by_cases ae : a = e
      · subst ae; exact absurd q (hfr o)
      · exact kL a o ae (X a o q)
    have hns3 : h3.Ns hp.objs.size (fun x => (List.reverse [(("self" : Str), Value.ref e), (a2.arg, v)]).lookup x) :=
      hns.at fun o q => k3' _ _ (Ne.symm (ne0 he0)) (k2' _ _ (k1' _ _ q))
    refine ks_wpAt_execs_cons (ks_wpAt_Assign_Attr (wpAt_of_wpAny (ldc (v := v) hk l4 hns3 ?c4 (ldc (v := .ref e) hk l3 hns3 ?c5 ?_) hdb)))
    case c4 => rw [eR, if_pos rfl]
    case c5 => rw [eR, if_neg (Ne.symm ha2), if_pos rfl]
    refine set_plain X3 (ox := HandSPX.excO C (h1.push (kxs_mw "ValueError.__init__" e)).objs.size) (od := none) ⟨e3, rfl, rfl, trivial⟩ hC.sa ?_
    have hcl : clsIn K C = some { name := nm, bases := bs, mro := .ref C :: bm, ns := N, qualname := q, hasDict := true, slotNames := sn, subclasses := sub, abstract := ab, collection := col, hasDel := false } := by unfold clsIn; rw [hCo] <;> rfl
    refine HandSPX.exc_osa X3 e3 hcl (show HandSPX.refsVE (.ref C :: bm) = true from hbm) rfl hno (fun h' tk' dx k dn dne hx hn => ?_)
    have fin := hR h' tk' dx _ (fun b o nb q => k b o nb (kL b o nb q)) ?_ dne hx hn
    · exact wpAt_of_wpAny (by rw [execs_nil]; exact wpAny_pure fin)
    · obtain ⟨o, _, _, q, _⟩ := hns3
      exact Nat.le_trans (Nat.le_of_lt (Heap.lt_size q)) dn
end
/-- what the written part says of a class with such an __init__ -/
structure InitD (P : Program) (K : Frag) (C : Addr) (f : Str) : Prop where
  oex : L2.OexC K C
  no : findIn K (.ref C) f = some none
  hself : mroIn K C (.ref C) = some true
  hany : nsIn K cStatics "thirdparty.any" = some none
  hsi : ks_superIn K C C "__init__" = some (some (Value.builtin "ValueError.__init__"))
  hB : subIn K (.ref C) (.type "ValueError") = some true
  hclsC : ∃ cd, clsIn K C = some cd
  htop : (P.main.scope.names.lookup ("super" : Str)).isSome = false
  fn : ∃ fI, findIn K (.ref C) "__init__" = some (some (.ref fI)) ∧ typeIn K (.ref fI) = some (.type "function") ∧
    ∃ (fd : FuncData) (oc : Value) (od : Option Addr) (osl : Array (Option Value)) (a1 a2 : PySem.Arg) (cc cda : Addr) (txt : Str) (j : Nat) (p0 p1 p2 p3 p4 p5 p6 p7 p8 p9 : Pos),
      K.lookup fI = some ⟨oc, od, .func fd, osl⟩ ∧ fd.body = .stmts [.Expr (.Call (.Attribute (.Call (.Name "super" p0) [] [] p1) "__init__" p2) [.Constant (.str txt) j p3] [] p4) p5, .Assign [.Attribute (.Name "self" p6) f p7] (.Name a2.arg p8) p9] ∧
      (p2.endLine == p4.line) = true ∧ fd.closure = [(("__class__" : Str), cc)] ∧ fd.params = ⟨[], [a1, a2], none, [], [], none, []⟩ ∧ a1.arg = "self" ∧ a2.arg ≠ "self" ∧ (a2.arg == ("__debug__" : Str)) = false ∧ fd.defaults = .none ∧ fd.globals = mainGlobals ∧ fd.builtins = builtinsNs ∧
      fd.code = .ref cda ∧ codeIn K fd.code fd.qualname = true ∧ fd.scope.kind = .function ∧ fd.scope.isCoroutine = false ∧ fd.scope.isGenerator = false ∧ (∀ x ∈ fd.scope.names, x.2 ≠ .cell) ∧
      fd.scope.names.lookup ("super" : Str) = some .globalImplicit ∧ fd.scope.names.lookup ("__class__" : Str) = some .free ∧ fd.scope.names.lookup ("self" : Str) = some .local ∧ fd.scope.names.lookup a2.arg = some .local ∧
      (∃ ccl cdd vs ccs file tf, K.lookup cda = some ⟨ccl, cdd, .fields vs, ccs⟩ ∧ vs[2]? = some (.str file tf) ∧ ((P.main.file : Str) == file) = true) ∧ (∃ cl cld csl, K.lookup cc = some ⟨cl, cld, .cell (some (.ref C)), csl⟩)
open L2 in
theorem te_un {P : Program} {w : World} {H : Hp} {hp h' : Heap} {fs : List Addr} {a C dx : Addr} {f : Str} {y : V} {u : Value} {t1 : Addr} (hok : HOk P w H hp) (e : H a = some (exo a C none)) (ry : RelV y u)
    (k : ∀ b o, b ≠ a → hp.get? b = some o → h'.get? b = some o) (dn : hp.objs.size ≤ dx) (dne : dx ≠ a) (hx : h'.get? a = some { cls := .ref C, dict := some dx, data := .fields #[.ref t1, .none, .none, .none, .bool false, .none] })
    (hn : h'.Ns1 dx (fun y => if y = f then some u else none)) :
    H dx = none ∧ Un fs [] H (upd (upd H dx (exd dx [(f, y)])) a (exo a C (some dx))) hp h' ∧ HOk P w (upd (upd H dx (exd dx [(f, y)])) a (exo a C (some dx))) h' := by
  have hnd : H dx = none := hok.fresh dn
  have nd : ∀ {b : Addr} {o : Obj}, hp.get? b = some o → b ≠ dx := fun {b o} q => Nat.ne_of_lt (Nat.lt_of_lt_of_le (Heap.lt_size q) dn)
  have na : ∀ {b : Addr}, H b = none → b ≠ a := fun {b} n z => by
    rw [z, e] at n
    cases n
  refine ⟨hnd, {
    keep := fun b o q n _ _ => k b o (na n) q
    slot := fun b o q n _ _ => ⟨o.slots, k b o (na n) q⟩
    free := fun b o q n _ => by rw [upd_ne (na n), upd_ne (nd q)]; exact n
    there := fun b o q _ => by
      by_cases hb : b = a
      · exact ⟨_, by rw [hb]; exact hx⟩
      · exact ⟨o, k b o hb q⟩
    tups := fun b xs q => by rw [upd_ne (at_ne e q exo_tup), upd_ne (ne_of_none q hnd)]; exact q
    frzs := fun b o v q => by rw [upd_ne (at_ne e q exo_frz), upd_ne (ne_of_none q hnd)]; exact q
    tbls := fun b ps q => ⟨#[], by rw [upd_ne (at_ne e q exo_tbl), upd_ne (ne_of_none q hnd), q]; simp⟩ }, fun b o q => ?_⟩
  by_cases hb : b = a
  · subst hb
    rw [upd_same] at q
    cases q
    exact exo_ok hx
  · rw [upd_ne hb] at q
    by_cases hd : b = dx
    · subst hd
      rw [upd_same] at q
      cases q
      exact exd_ok hn (relO_put (fs := []) ry fun g => True.intro)
    · rw [upd_ne hd] at q
      exact (hok b o q).stay (fun c v hc z => k c v (by
          rcases hc with hc | hc
          · rw [hc]
            exact hb
          · exact at_ne e hc exo_own) z)
        (fun c hc => by rw [upd_ne (at_ne e hc exo_own), upd_ne (ne_of_none hc hnd)]; exact hc) (fun c xs hc => by rw [upd_ne (at_ne e hc exo_tup), upd_ne (ne_of_none hc hnd)]; exact hc)
open L2 in
theorem pmk_te {X : Cx} {x f : Str} {C : Addr} {e : Expr} {te : TE} {p pos : Pos} (J : InitD X.prog X.K C f) (hr : Room 0 X.A) (hg : Gl X x) (hm : X.mg x = some (.ref C)) (hsup : X.mg "super" = none) (kC : PySem.W.keepIn X.K (.ref C) = true) (ha : PA X [e] (tCons te tNil))
    (hdb : (x == ("__debug__" : Str)) = false := by decide) (he : starEach [e] X.env = (false, eval e X.env) :: starEach [] X.env := by rfl) (hpl : (backTo pos (starEach [] X.env)).any (·.1) = false := by rfl) :
    PMk X (.Call (.Name x p) [e] [] pos) (fun σ H Q => te σ H fun v H1 => ∀ d, H1 d = none → Q (.ref C) (some d) (upd H1 d (.xd [(f, v)]))) := by
  intro pins s σ H Q I h
  have T := J.oex
  obtain ⟨nm, q, N, bs, bm, sn, sub, ab, col, dd, k0, k1, k2, k3, k5, hC, hbm⟩ := T.cls
  obtain ⟨fI, iC, tI, fd, oc, od, osl, a1, a2, cc, cda, txt, j, p0, p1, p2, p3, p4, p5, p6, p7, p8, p9, d1, d2, d3, d4, d5, d6, d7, d8, d9, d10, d11, d12, d13, d14, d15, d16, d17, d18, d19, d20, d21, ⟨ccl, cdd, vs, ccs, file, tf, d22, d23, d24⟩, ⟨cl, cld, csl, d25⟩⟩ := J.fn
  obtain ⟨cdC, hcd⟩ := J.hclsC
  refine wpAny_Call_Name_kw (ld_glob I hg hm ?_ hdb)
  refine PySem.W.callWith_K (h₀ := X.base) I.ok.mod.kin kC (thn (ha.run pos pins s σ H (fun us H1 => match us with | [v] => ∀ d, H1 d = none → Q (.ref C) (some d) (upd H1 d (.xd [(f, v)])) | _ => False) I h) fun us s1 ⟨ws, H1, I1, r1, q1⟩ => ⟨I1.kIn, ?_⟩) he hpl
  show wpAny _ _ (call (.ref C) us) _ _ _
  have hsh : ∃ v u, ws = [v] ∧ us = [u] ∧ RelV v u ∧ ∀ d, H1 d = none → Q (.ref C) (some d) (upd H1 d (.xd [(f, v)])) := by
    cases r1 with
    | nil => exact q1.elim
    | cons ru r2 =>
      cases r2 with
      | nil => exact ⟨_, _, rfl, rfl, ru, q1⟩
      | cons _ _ => exact q1.elim
  obtain ⟨v, u, rfl, rfl, ru, q1⟩ := hsh
  obtain ⟨hp, g, dr, tk, os⟩ := s1
  have hsz : hp.objs.size ≤ hp.objs.size + 1 := Nat.le_succ _
  have hn : H1 (hp.objs.size + 1) = none := I1.hok.fresh hsz
  have kk : ∀ b o, hp.get? b = some o → ((hp.push (PySem.W.kdv_tup [u])).push (PySem.HandSPX.excO C hp.objs.size)).get? b = some o := fun b o e => Heap.get?_push_of_some _ (Heap.get?_push_of_some _ e)
  have hget : ((hp.push (PySem.W.kdv_tup [u])).push (PySem.HandSPX.excO C hp.objs.size)).get? (hp.objs.size + 1) = some (PySem.HandSPX.excO C hp.objs.size) := by heap_get
  have hus : ([u] : List Value).length ≤ sizeLine := by rw [sizeLine_eq, List.length_singleton]; decide
  obtain ⟨mb, hb1, hb2⟩ := I.ok.mod.blt
  have hfr : ∀ o, X.K.lookup (hp.objs.size + 1) ≠ some o := fun o z => absurd (Heap.lt_size (I1.kIn _ _ z)) (Nat.not_lt.mpr hsz)
  have I2 : Inv X pins σ (upd H1 (hp.objs.size + 1) (exo (hp.objs.size + 1) C none)) ⟨(hp.push (PySem.W.kdv_tup [u])).push (PySem.HandSPX.excO C hp.objs.size), g, dr, tk, os⟩ :=
    I1.laid (t' := tk) (a := hp.objs.size + 1) (o := exo (hp.objs.size + 1) C none) (h' := (hp.push (PySem.W.kdv_tup [u])).push (PySem.HandSPX.excO C hp.objs.size)) kk hsz (exo_ok hget)
  refine wpAny_call (PySem.HandSPX.call_own F.excBase_ValueError (fun Y => PySem.HandSPX.refsVE_contains Y bm hbm) (I1.kIn _ _ hC) (PySem.W.looks_findIn I1.kIn iC) (fun self => PySem.W.bind_fn I1.kIn self tI) hus ?_)
  refine te_init (K := X.K) (C := C) (fI := fI) (e := hp.objs.size + 1) (t0 := hp.objs.size) (mg := X.mg) (mb := mb) (cdC := cdC) (f := f) (v := u) I2.kIn (by have := hr.dp; rw [make_depth]; omega) I2.nolimit (I.ok.mod.glob.keeps I2.bk) (hb1.keeps I2.bk) hb2 d1 d2 d3 d4 d5 d6 d7 d8 d9 d10 d11 d12 d13 d14 d15 d16 d17 d18 d19 d20 d21 d22 d23 d24 J.htop d25 hsup J.oex hcd J.hself J.hany J.hsi J.hB J.no hfr hget ?_
  intro h' tk' dx t1 k dn dne hx hn'
  obtain ⟨e1, e2, e3⟩ := te_un (w := X.w) (fs := frs X.stack) (f := f) (y := v) (u := u) I2.hok upd_same ru k dn dne hx hn'
  have ed : (upd (upd (upd H1 (hp.objs.size + 1) (exo (hp.objs.size + 1) C none)) dx (exd dx [(f, v)])) (hp.objs.size + 1) (exo (hp.objs.size + 1) C (some dx))) dx = some (exd dx [(f, v)]) := by rw [upd_ne dne, upd_same]
  have hd1 : H1 dx = none := by rw [upd_ne dne] at e1; exact e1
  have hq := q1 dx hd1
  refine ⟨rfl, mk_end (H2 := upd (upd (upd H1 (hp.objs.size + 1) (exo (hp.objs.size + 1) C none)) dx (exd dx [(f, v)])) (hp.objs.size + 1) (exo (hp.objs.size + 1) C (some dx))) (d := dx) (fs := [(f, v)]) (raises_own T.exC T.tyC) I1 hsz kk e2 e3 rfl I2.bare upd_same ed hd1 ?_⟩
  have eH : upd (del (upd (upd (upd H1 (hp.objs.size + 1) (exo (hp.objs.size + 1) C none)) dx (exd dx [(f, v)])) (hp.objs.size + 1) (exo (hp.objs.size + 1) C (some dx))) (hp.objs.size + 1)) dx (.xd [(f, v)]) = upd H1 dx (.xd [(f, v)]) := by
    funext b
    by_cases hb : b = dx
    · rw [hb, upd_same, upd_same]
    · rw [upd_ne hb, upd_ne hb]
      by_cases ha : b = hp.objs.size + 1
      · rw [ha, del_same, hn]
      · rw [del_ne ha, upd_ne ha, upd_ne hb, upd_ne ha]
  rw [eH]
  exact hq
end Mi
end

section
-- MiniL
set_option Elab.async false
set_option linter.all false
set_option maxRecDepth 100000
set_option maxHeartbeats 4000000
/-! Mini, part L: what is computed of a class with such an __init__ -/
namespace Mi
open PySem PySem.W PySem.Calls PyProof.Rows
def oexB (K : Frag) (C : Addr) : Bool := (match K.lookup C with
  | some ⟨.type "type", _, .cls cd, sl⟩ => (match cd.mro, sl.toList with
    | .ref C' :: bm, [_, _, _, _, some (.builtin n), _] => C' == C && (n == "ValueError.__new__" && (!cd.hasDel && (cd.hasDict && HandSPX.refsVE bm)))
    | _, _ => false)
  | _ => false) && (decide (findIn K (.ref C) "__setattr__" = some (some (.builtin "object.__setattr__"))) && (decide (subIn K (.ref C) (.type "BaseException") = some true) && (decide (typeIn K (.ref C) = some (.type "type")) && keepIn K (.ref C))))
theorem oexB_ok {K : Frag} {C : Addr} (h : oexB K C = true) : L2.OexC K C := by
  unfold oexB at h
  simp only [Bool.and_eq_true, decide_eq_true_eq] at h
  obtain ⟨q, h2, h3, h4, h5⟩ := h
  refine ⟨?_, h2, h3, h4, h5⟩
  split at q
  · rename_i dd cd sl ho
    split at q
    · rename_i C' bm k0 k1 k2 k3 n k5 hm hs
      simp only [Bool.and_eq_true, beq_iff_eq, Bool.not_eq_true'] at q
      obtain ⟨rfl, rfl, hdel, hh, ht⟩ := q
      obtain ⟨nm, bs, mro, ns, qn, hd, sn, sub, ab, col, del⟩ := cd
      dsimp only at hm hdel hh
      subst hm hdel hh
      have hsl : sl = #[k0, k1, k2, k3, some (.builtin "ValueError.__new__"), k5] := by
        obtain ⟨l⟩ := sl
        simp only at hs
        rw [hs]
      subst hsl
      exact ⟨nm, qn, ns, bs, bm, sn, sub, ab, col, dd, k0, k1, k2, k3, k5, ho, ht⟩
    · cases q
  · cases q
def bodyB (f a2 : Str) : FuncBody → Bool
  | .stmts [.Expr (.Call (.Attribute (.Call (.Name s _) [] [] _) i p2) [.Constant (.str _) _ _] [] p4) _, .Assign [.Attribute (.Name se _) g _] (.Name x _) _] => decide (s = "super") && (decide (i = "__init__") && (decide (se = "self") && (decide (g = f) && (decide (x = a2) && (p2.endLine == p4.line)))))
  | _ => false
theorem bodyB_ok {f a2 : Str} {b : FuncBody} (h : bodyB f a2 b = true) : ∃ (txt : Str) (j : Nat) (p0 p1 p2 p3 p4 p5 p6 p7 p8 p9 : Pos), b = .stmts [.Expr (.Call (.Attribute (.Call (.Name "super" p0) [] [] p1) "__init__" p2) [.Constant (.str txt) j p3] [] p4) p5, .Assign [.Attribute (.Name "self" p6) f p7] (.Name a2 p8) p9] ∧ (p2.endLine == p4.line) = true := by
  unfold bodyB at h
  split at h
  · simp only [Bool.and_eq_true, decide_eq_true_eq] at h
    obtain ⟨rfl, rfl, rfl, rfl, rfl, h6⟩ := h
    exact ⟨_, _, _, _, _, _, _, _, _, _, _, _, rfl, h6⟩
  · cases h
def twoB : Arguments → Option (PySem.Arg × PySem.Arg)
  | ⟨[], [a1, a2], none, [], [], none, []⟩ => some (a1, a2)
  | _ => none
theorem twoB_ok {p : Arguments} {a1 a2 : PySem.Arg} (h : twoB p = some (a1, a2)) : p = ⟨[], [a1, a2], none, [], [], none, []⟩ := by
  unfold twoB at h
  split at h <;> cases h
  rfl
def cloB (K : Frag) (C : Addr) : List (Str × Addr) → Bool
  | [(x, cc)] => decide (x = "__class__") && (match K.lookup cc with
    | some ⟨_, _, .cell (some (.ref D)), _⟩ => D == C
    | _ => false)
  | _ => false
theorem cloB_ok {K : Frag} {C : Addr} {l : List (Str × Addr)} (h : cloB K C l = true) : ∃ cc, l = [(("__class__" : Str), cc)] ∧ ∃ cl cld csl, K.lookup cc = some ⟨cl, cld, .cell (some (.ref C)), csl⟩ := by
  unfold cloB at h
  split at h
  · simp only [Bool.and_eq_true, decide_eq_true_eq] at h
    obtain ⟨rfl, h2⟩ := h
    split at h2
    · rename_i e
      obtain rfl := beq_iff_eq.mp h2
      exact ⟨_, rfl, _, _, _, e⟩
    · cases h2
  · cases h
def codB (file : Str) (K : Frag) (v : Value) : Bool := match v with
  | .ref cda => (match K.lookup cda with
    | some ⟨_, _, .fields vs, _⟩ => (match (vs[2]? : Option Value) with
      | some (Value.str fl _) => decide (fl = file)
      | _ => false)
    | _ => false)
  | _ => false
theorem codB_ok {file : Str} {K : Frag} {v : Value} (h : codB file K v = true) : ∃ cda, v = .ref cda ∧ ∃ ccl cdd vs ccs tf, K.lookup cda = some ⟨ccl, cdd, .fields vs, ccs⟩ ∧ vs[2]? = some (.str file tf) := by
  unfold codB at h
  split at h
  · split at h
    · rename_i e
      split at h
      · rename_i e2
        obtain rfl := of_decide_eq_true h
        exact ⟨_, rfl, _, _, _, _, _, e, e2⟩
      · cases h
    · cases h
  · cases h
def isFnK (k : ScopeKind) : Bool := match k with
  | .function => true
  | _ => false
def isNonV (v : Value) : Bool := match v with
  | .none => true
  | _ => false
def fdB (file : Str) (K : Frag) (C : Addr) (f : Str) (fd : FuncData) : Bool := match twoB fd.params with
  | some (a1, a2) => bodyB f a2.arg fd.body && (cloB K C fd.closure && (codB file K fd.code && (decide (a1.arg = "self") && (decide (a2.arg ≠ "self") && (!(a2.arg == ("__debug__" : Str)) && (isNonV fd.defaults && (decide (fd.globals = mainGlobals) && (decide (fd.builtins = builtinsNs) &&
    (codeIn K fd.code fd.qualname && (isFnK fd.scope.kind && (!fd.scope.isCoroutine && (!fd.scope.isGenerator && ((fd.scope.names.all fun x => decide (x.2 ≠ .cell)) && (decide (fd.scope.names.lookup ("super" : Str) = some .globalImplicit) && (decide (fd.scope.names.lookup ("__class__" : Str) = some .free) &&
    (decide (fd.scope.names.lookup ("self" : Str) = some .local) && decide (fd.scope.names.lookup a2.arg = some .local)))))))))))))))))
  | none => false
def initB (file : Str) (K : Frag) (C : Addr) (f : Str) : Bool :=
  oexB K C && (decide (findIn K (.ref C) f = some none) && (decide (mroIn K C (.ref C) = some true) && (decide (nsIn K cStatics "thirdparty.any" = some none) && (decide (ks_superIn K C C "__init__" = some (some (Value.builtin "ValueError.__init__"))) && (decide (subIn K (.ref C) (.type "ValueError") = some true) && ((clsIn K C).isSome &&
  (match findIn K (.ref C) "__init__" with
  | some (some (.ref fI)) => decide (typeIn K (.ref fI) = some (.type "function")) && (match K.lookup fI with
    | some ⟨_, _, .func fd, _⟩ => fdB file K C f fd
    | _ => false)
  | _ => false)))))))
theorem initB_ok {P : Program} {file : Str} {K : Frag} {C : Addr} {f : Str} (hf : ((P.main.file : Str) == file) = true) (ht : (P.main.scope.names.lookup ("super" : Str)).isSome = false) (h : initB file K C f = true) : InitD P K C f := by
  unfold initB at h
  simp only [Bool.and_eq_true, decide_eq_true_eq] at h
  obtain ⟨h1, h2, h3, h4, h5, h6, h7, h8⟩ := h
  refine ⟨oexB_ok h1, h2, h3, h4, h5, h6, Option.isSome_iff_exists.mp h7, ht, ?_⟩
  split at h8
  · rename_i fI e1
    simp only [Bool.and_eq_true, decide_eq_true_eq] at h8
    obtain ⟨h8, h9⟩ := h8
    split at h9
    · rename_i fd _ e2
      unfold fdB at h9
      split at h9
      · rename_i a1 a2 e3
        simp only [Bool.and_eq_true, decide_eq_true_eq, Bool.not_eq_true', List.all_eq_true] at h9
        obtain ⟨k1, k2, k3, k4, k5, k6, k7, k8, k9, k10, k11, k12, k13, k14, k15, k16, k17, k18⟩ := h9
        obtain ⟨txt, j, p0, p1, p2, p3, p4, p5, p6, p7, p8, p9, eb, ep⟩ := bodyB_ok k1
        obtain ⟨cc, ec, cl, cld, csl, ecc⟩ := cloB_ok k2
        obtain ⟨cda, ed, ccl, cdd, vs, ccs, tf, eco, evs⟩ := codB_ok k3
        have kk : fd.scope.kind = .function := by
          unfold isFnK at k11
          split at k11
          · assumption
          · cases k11
        have kd : fd.defaults = .none := by
          unfold isNonV at k7
          split at k7
          · assumption
          · cases k7
        exact ⟨fI, e1, h8, fd, _, _, _, a1, a2, cc, cda, txt, j, p0, p1, p2, p3, p4, p5, p6, p7, p8, p9, e2, eb, ep, ec, twoB_ok e3, k4, k5, k6, kd, k8, k9, ed, k10, kk, k12, k13, k14, k15, k16, k17, k18, ⟨ccl, cdd, vs, ccs, file, tf, eco, evs, hf⟩, ⟨cl, cld, csl, ecc⟩⟩
      · cases h9
    · cases h9
  · cases h8
end Mi
end

section
-- Mini9
set_option Elab.async false
set_option linter.all false
set_option maxRecDepth 100000
set_option maxHeartbeats 4000000
/-! Mini, part 9: the program's table; matching own syntax with the program's, expressions -/
namespace Mi
open PySem PySem.Spec PyProof.Rows L2

structure Fun where
  ps : List Str
  n : Nat
  body : Ss
def fnSem (Γ : Gam) (F : Fun) (vs : List PV) (μ : Mu) (k kx : KE) : Prop :=
  vs.length = F.ps.length ∧ exSs Γ F.body (vs.map some ++ List.replicate (F.n - vs.length) none) μ ⟨fun _ μ => k .non μ, k, fun _ _ => False, fun _ _ => False, kx⟩
def inSem (Γ : Gam) (F : Fun) (c : Str) (vs : List PV) (μ : Mu) (k kx : KE) : Prop :=
  vs.length + 1 = F.ps.length ∧ exSs Γ F.body (some (.nin c [] []) :: vs.map some ++ List.replicate (F.n - (vs.length + 1)) none) μ
    ⟨fun (ρ : Env) μ => (match (ρ[0]? : Option (Option PV)) with
      | some (some (.nin c fs vs)) => k (.ins c fs vs) μ
      | _ => False), fun _ _ => False, fun _ _ => False, fun _ _ => False, kx⟩
structure Tab where
  prim : Str → Option (List Str × (Gam → List PV → Mu → KE → KE → Prop))
  fn : List (Str × Fun)
  ini : List (Str × Fun)
  met : List ((Str × Str) × Fun)
  free : List Str
  cints : List (Str × Int)
  exc : List Str
  fld : List (Str × Str)
  flds : List (Str × List Str)
  xflds : List (Str × List Str)
  lams : List (List Str × E) := []
  lfit : Nat → Arguments → Expr → Scope → Bool := fun _ _ _ _ => false
  tgt : List Str
  subs : List ((Str × Str) × Bool)
  clss : List Str
  cau : Bool := false
  rfd : Bool := false
  gl : List Str := []
def Tab.ar (T : Tab) (f : Str) : Option (List Str) := match T.prim f with
  | some p => some p.1
  | none => (T.fn.lookup f).map (·.ps)
def Tab.mk0 (T : Tab) : Gam := ⟨fun _ _ _ _ _ => False, fun _ _ _ _ _ => False, fun _ _ _ _ _ _ => False, fun _ _ _ _ _ => False, fun _ _ _ _ _ _ => False, fun _ _ _ _ _ => False, fun f => (T.ar f).isSome, false, fun x => (T.cints.lookup x).map PV.int, fun x => (T.fld.lookup x).getD x, fun x => (T.flds.lookup x).getD [], fun x => (T.xflds.lookup x).getD [], fun c d => T.subs.lookup (c, d), T.clss⟩
def Tab.mkS (T : Tab) (g : Gam) : Str → List PV → Mu → KE → KE → Prop := fun c vs μ k kx => (match T.ini.lookup c with
      | some F => inSem g F c vs μ k kx
      | none => False)
def Tab.mk1 (T : Tab) (d : Nat) (g : Gam) (lam : E → Env → Mu → KE → KE → Prop) (refd : Str → E → Env → Mu → KE → KE → Prop := fun _ _ _ _ _ _ => False) (mk : Str → List PV → Mu → KE → KE → Prop := fun _ _ _ _ _ => False) (mkd : Bool := false) : Gam := { T.mk0 with
    call := fun f vs μ k kx => (match T.prim f with
      | some p => 3 ≤ d ∧ p.2 g vs μ k kx
      | none => (match T.fn.lookup f with
        | some F => fnSem g F vs μ k kx
        | none => False))
    make := mk
    mkd := mkd
    meth := fun c m vs μ k kx => (match T.met.lookup (c, m) with
      | some F => fnSem g F vs μ k kx
      | none => False)
    lam := lam
    refd := refd
    clo := fun j vs μ k kx => (match T.lams[j]? with
      | some p => vs.length = p.1.length ∧ evE g p.2 (vs.map some) μ k kx
      | none => False) }
/-- what _law_re_refused(w, lambda: e) comes to -/
def refS (T : Tab) (g g0 : Gam) (w : Str) (e : E) (ρ : Env) (μ : Mu) (k kx : KE) : Prop :=
  evE g0 e ρ μ (fun _ μ1 => g.call "_law_re_kind" [.non] μ1 (fun r μ2 => cmpK .eq r.fz (.str w) fun b => k (.bl b) μ2) noX) fun v μ1 => ∃ c fs vs, v = .exc c fs vs ∧ T.subs.lookup (c, ("StepError" : Str)) = some true ∧ g.call "_law_re_kind" [v] μ1 (fun r μ2 => cmpK .eq r.fz (.str w) fun b => k (.bl b) μ2) noX
def gam (T : Tab) : Nat → Gam
  | 0 => T.mk0
  | 1 => T.mk1 0 T.mk0 fun _ _ _ _ _ => False
  | 2 => T.mk1 1 (gam T 1) (fun e ρ μ k kx => evE (gam T 0) e ρ μ k kx) (mk := T.mkS (gam T 0)) (mkd := true)
  | d + 3 => T.mk1 (d + 2) (gam T (d + 2)) (fun e ρ μ k kx => evE (gam T (d + 1)) e ρ μ k kx) (fun w e ρ μ k kx => refS T (gam T (d + 2)) (gam T d) w e ρ μ k kx) (T.mkS (gam T (d + 1))) true
theorem gam_call (T : Tab) : ∀ d, (gam T (d + 1)).call = (T.mk1 d (gam T d) fun _ _ _ _ _ => False).call
  | 0 => rfl
  | 1 => rfl
  | _ + 2 => rfl
theorem gam_make (T : Tab) : ∀ d, (gam T (d + 2)).make = T.mkS (gam T d)
  | 0 => rfl
  | _ + 1 => rfl
theorem gam_mkd (T : Tab) : ∀ d, (gam T (d + 2)).mkd = true
  | 0 => rfl
  | _ + 1 => rfl
theorem gam_meth (T : Tab) : ∀ d, (gam T (d + 1)).meth = (T.mk1 d (gam T d) fun _ _ _ _ _ => False).meth
  | 0 => rfl
  | 1 => rfl
  | _ + 2 => rfl
theorem gam_cst (T : Tab) : ∀ d, (gam T d).cst = fun x => (T.cints.lookup x).map PV.int
  | 0 => rfl
  | 1 => rfl
  | 2 => rfl
  | _ + 3 => rfl
theorem gam_fld (T : Tab) : ∀ d, (gam T d).fld = fun x => (T.fld.lookup x).getD x
  | 0 => rfl
  | 1 => rfl
  | 2 => rfl
  | _ + 3 => rfl
theorem gam_flds (T : Tab) : ∀ d, (gam T d).flds = fun x => (T.flds.lookup x).getD []
  | 0 => rfl
  | 1 => rfl
  | 2 => rfl
  | _ + 3 => rfl
theorem gam_xflds (T : Tab) : ∀ d, (gam T d).xflds = fun x => (T.xflds.lookup x).getD []
  | 0 => rfl
  | 1 => rfl
  | 2 => rfl
  | _ + 3 => rfl
theorem gam_sub (T : Tab) : ∀ d, (gam T d).sub = fun c e => T.subs.lookup (c, e)
  | 0 => rfl
  | 1 => rfl
  | 2 => rfl
  | _ + 3 => rfl
theorem gam_clss (T : Tab) : ∀ d, (gam T d).clss = T.clss
  | 0 => rfl
  | 1 => rfl
  | 2 => rfl
  | _ + 3 => rfl
/-- a def's promise -/
def spF (P : En) (n : Nat) (c : List PV → Mu → KE → KE → Prop) : Sp := fun vs H Q E => ∃ G μ pvs k kx, vs.length = n ∧ Wf P G μ H ∧ Reps P G pvs vs ∧ c pvs μ k kx ∧ ThenM P H G k Q ∧ ThenX P H G kx E
/-- an __init__'s: its self is new -/
def spI (P : En) (n : Nat) (c : List PV → Mu → KE → KE → Prop) (Cn : Str) : Sp := fun vs H Q E => ∃ H0 G μ pvs k kx x dx C xs, vs = .ref x :: xs ∧ vs.length = n ∧ P.mg Cn = some (.ref C) ∧ Wf P G μ H0 ∧ H0 x = none ∧ H0 dx = none ∧ dx ≠ x ∧
  H = upd (upd H0 dx (.own x)) x (.ins C dx []) ∧ Reps P G pvs xs ∧ c pvs μ k kx ∧ (∀ G' μ' H' v, Ext H0 G H' G' → Wf P G' μ' H' → Rep P G' v (.ref x) → k v μ' → Q .non H') ∧ ThenX P H0 G kx E

/-- what isinstance asks of an own class -/
structure ClsM (K : PySem.W.Frag) (C : Addr) : Prop where
  cl : Cls K C
  ha : PySem.W.findIn K (.ref C) "__class__" = some (some (.builtin "object.__class__"))
  hn : PySem.W.specialIn K (.builtin "object.__class__") "__get__" = some (some (.builtin "getset_descriptor.__get__"))
  ht : PySem.W.takesIn K (.builtin "object.__class__") = some true
  hm : PySem.W.mroIn K C (.type "object") = some true
/-- what of the text all defs know -/
structure Txt (T : Tab) (K : PySem.W.Frag) (mg : Str → Option Value) : Prop where
  free : ∀ x ∈ T.free, mg x = none
  int : ∀ x i, T.cints.lookup x = some i → ∃ t, mg x = some (.int i t)
  exc : ∀ c ∈ T.exc, ∃ C, mg c = some (.ref C) ∧ PySem.W.excIn K C He.veBase "ValueError.__new__" = true ∧ PySem.W.keepIn K (.ref C) = true ∧ PySem.W.subIn K (.ref C) (.type "BaseException") = some true ∧ PySem.W.typeIn K (.ref C) = some (.type "type")
  flds : ∀ c f C, f ∈ (T.flds.lookup c).getD [] → mg c = some (.ref C) → Cls K C ∧ NoAttr K C f
  xflds : ∀ c f C, f ∈ (T.xflds.lookup c).getD [] → mg c = some (.ref C) → ExcC K C ∧ PySem.W.findIn K (.ref C) f = some none
  clss : ∀ c ∈ T.clss, ∀ C, mg c = some (.ref C) → ClsM K C ∧ ∀ n ∈ askNames, PySem.W.kitOne K (.ref C) (.type n) = some false
  tgt : ∀ c ∈ T.tgt, ∃ C, mg c = some (.ref C) ∧ PySem.W.keepIn K (.ref C) = true ∧ ∀ t ∈ tyNames, PySem.W.kitOne K (.type t) (.ref C) = some false
  subs : ∀ c e b, T.subs.lookup (c, e) = some b → ∀ C D, mg c = some (.ref C) → mg e = some (.ref D) → PySem.W.kitOne K (.ref C) (.ref D) = some b ∧ (c ∈ T.clss ∨ ExcC K C)
  stp : ∀ c b, T.subs.lookup (c, ("StepError" : Str)) = some b → ∀ C S, mg c = some (.ref C) → mg "StepError" = some (.ref S) → ExcC K C ∧ PySem.W.exmOne K (.ref C) (.ref S) = some b ∧ PySem.W.kitOne K (.ref C) (.type "ValueError") = some true
  cau : T.cau = true → CaughtD K mg
  rfd : T.rfd = true → RefD K mg
/-- the def at hand makes lambdas: its table -/
def LamAt (P : En) (X : Cx) : Prop := ∃ (j : Nat) (c Pa : Addr), P.tb[j]? = some (Pa, X.env.qual ++ "<lambda>") ∧ LamX.TabB X.base X.mg c Pa ∧ X.env.code = .ref c
/-- how keywords come to parameters -/
def kwOk (ps ks : List Str) (perm : List Nat) : Bool := decide ks.Nodup && (decide ps.Nodup && (perm.all (fun j => decide (j < ks.length)) && (decide (ps = perm.filterMap (ks[·]?)) && ks.all fun k => decide (k ∈ ps))))
def KwB (fd : FuncData) (ps : List Str) : Prop := ∀ (ks : List Str) (perm : List Nat), kwOk ps ks perm = true → ∀ (s : Shared) (ws : List Value), ws.length = ks.length → BindsTo s fd ⟨[], ks.zip ws⟩ (ps.zip (perm.filterMap (ws[·]?)))
/-- the classes whose __init__ keeps one field -/
def IniT (T : Tab) (Pr : Program) (K : PySem.W.Frag) (mg : Str → Option Value) : Prop := ∀ c f, T.fld.lookup c = some f → ∃ C, mg c = some (.ref C) ∧ InitD Pr K C f ∧ PySem.W.keepIn K (.ref C) = true ∧ mg "super" = none
/-- where one stands -/
structure Sit (T : Tab) (d : Nat) (P : En) (X : Cx) (E : XK) (N : List Str) (sc : Scope) (fb : Str → Bool) : Prop where
  cn : Cn X P (wE E)
  hN : X.N = N
  hs : X.env.scope = sc
  hf : ∀ x, fb x = true → X.fn x = true
  room : Room d X.A
  tx : Txt T X.K X.mg
  fns : ∀ d', d' ≤ d → ∀ f ps, T.ar f = some ps → ∃ a fd, X.mg f = some (.ref a) ∧ PySem.W.keepIn X.K (.ref a) = true ∧ Binds X.K fd ps [] ∧ KwB fd ps ∧ FnOk X.prog X.w X.K X.mg X.base (L2.CX X.prog X.w) d' a fd ps (spF P ps.length ((gam T d').call f))
  lm : fb "<lambda>" = true → LamAt P X
  gd : fb "<repr>" = true → X.A.guards = some []
  ini : IniT T X.prog X.K X.mg
  mks : ∀ e, e + 2 ≤ d → ∀ c F, T.ini.lookup c = some F → ∃ C a fd, X.mg c = some (.ref C) ∧ Mk X.K C a ∧ Binds X.K fd F.ps [] ∧ FnOk X.prog X.w X.K X.mg X.base (L2.CX X.prog X.w) (e + 1) a fd F.ps (spI P F.ps.length (inSem (gam T e) F c) c)

/-! ### views -/
def asBin : Expr → Option (Expr × Operator × Expr)
  | .BinOp a o b _ => some (a, o, b)
  | _ => none
def asUn : Expr → Option (UnaryOp × Expr)
  | .UnaryOp o a _ => some (o, a)
  | _ => none
def asCmp : Expr → Option (Expr × List CmpOp × List Expr)
  | .Compare a os bs _ => some (a, os, bs)
  | _ => none
def asCall : Expr → Option (Str × List Expr)
  | .Call (.Name f _) as [] _ => some (f, as)
  | _ => none
def asName : Expr → Option Str
  | .Name x _ => some x
  | _ => none
def asBool : Expr → Option (BoolOp × List Expr)
  | .BoolOp o vs _ => some (o, vs)
  | _ => none
def asIf : Expr → Option (Expr × Expr × Expr)
  | .IfExp c a b _ => some (c, a, b)
  | _ => none
def asSub : Expr → Option (Expr × Expr)
  | .Subscript a b _ => some (a, b)
  | _ => none
def asSlice : Expr → Option (Option Expr × Option Expr)
  | .Slice a b none _ => some (a, b)
  | _ => none
def asTup : Expr → Option (List Expr)
  | .Tuple es _ _ => some es
  | _ => none
def asLst : Expr → Option (List Expr)
  | .List es _ => some es
  | _ => none
def asAttr : Expr → Option (Expr × Str)
  | .Attribute a f _ => some (a, f)
  | _ => none
def asLC : Expr → Option (Expr × Expr × Expr × List Expr × Scope)
  | .ListComp e [⟨tg, it, ifs, 0⟩] sc _ => some (e, tg, it, ifs, sc)
  | _ => none
def asConst : Expr → Option Const
  | .Constant c _ _ => some c
  | _ => none
theorem asBin_ok {x a b o} (h : asBin x = some (a, o, b)) : ∃ p, x = .BinOp a o b p := by unfold asBin at h; split at h <;> cases h; exact ⟨_, rfl⟩
theorem asUn_ok {x a o} (h : asUn x = some (o, a)) : ∃ p, x = .UnaryOp o a p := by unfold asUn at h; split at h <;> cases h; exact ⟨_, rfl⟩
theorem asCmp_ok {x a o b} (h : asCmp x = some (a, o, b)) : ∃ p, x = .Compare a o b p := by unfold asCmp at h; split at h <;> cases h; exact ⟨_, rfl⟩
theorem asCall_ok {x f as} (h : asCall x = some (f, as)) : ∃ p q, x = .Call (.Name f p) as [] q := by unfold asCall at h; split at h <;> cases h; exact ⟨_, _, rfl⟩
theorem asName_ok {x f} (h : asName x = some f) : ∃ p, x = .Name f p := by unfold asName at h; split at h <;> cases h; exact ⟨_, rfl⟩
theorem asBool_ok {x o b} (h : asBool x = some (o, b)) : ∃ p, x = .BoolOp o b p := by unfold asBool at h; split at h <;> cases h; exact ⟨_, rfl⟩
theorem asIf_ok {x a b c} (h : asIf x = some (a, b, c)) : ∃ p, x = .IfExp a b c p := by unfold asIf at h; split at h <;> cases h; exact ⟨_, rfl⟩
theorem asSub_ok {x a b} (h : asSub x = some (a, b)) : ∃ p, x = .Subscript a b p := by unfold asSub at h; split at h <;> cases h; exact ⟨_, rfl⟩
theorem asSlice_ok {x a b} (h : asSlice x = some (a, b)) : ∃ p, x = .Slice a b none p := by unfold asSlice at h; split at h <;> cases h; exact ⟨_, rfl⟩
theorem asTup_ok {x a} (h : asTup x = some a) : ∃ k p, x = .Tuple a k p := by unfold asTup at h; split at h <;> cases h; exact ⟨_, _, rfl⟩
theorem asLst_ok {x a} (h : asLst x = some a) : ∃ p, x = .List a p := by unfold asLst at h; split at h <;> cases h; exact ⟨_, rfl⟩
theorem asAttr_ok {x a b} (h : asAttr x = some (a, b)) : ∃ p, x = .Attribute a b p := by unfold asAttr at h; split at h <;> cases h; exact ⟨_, rfl⟩
theorem asConst_ok {x a} (h : asConst x = some a) : ∃ j p, x = .Constant a j p := by unfold asConst at h; split at h <;> cases h; exact ⟨_, _, rfl⟩
theorem asLC_ok {x e tg it ifs sc} (h : asLC x = some (e, tg, it, ifs, sc)) : ∃ p, x = .ListComp e [⟨tg, it, ifs, 0⟩] sc p := by unfold asLC at h; split at h <;> cases h; exact ⟨_, rfl⟩
def opOf : Operator → Option Op
  | .Add => some .add | .Sub => some .sub | .Mult => some .mul | .FloorDiv => some .fdiv | .Mod => some .mod | .Pow => some .pow
  | _ => none
theorem opOf_ok {o p} (h : opOf o = some p) : o = p.py := by cases o <;> cases h <;> rfl
def cpOf : CmpOp → Option Cp
  | .Eq => some .eq | .NotEq => some .ne | .Lt => some .lt | .LtE => some .le | .Gt => some .gt | .GtE => some .ge | .In => some .inn | .NotIn => some .nin
  | _ => none
theorem cpOf_ok {o p} (h : cpOf o = some p) : o = p.py := by cases o <;> cases h <;> rfl
/-- heads that are tested by their value -/
def plainT : Expr → Bool
  | .Name _ _ => true
  | .Call _ _ _ _ => true
  | .Subscript _ _ _ => true
  | .BinOp _ _ _ _ => true
  | .Attribute _ _ _ => true
  | .Constant _ _ _ => true
  | _ => false
theorem plainT_ok {x : Expr} (h : plainT x = true) (env : PySem.Env) (whole : Sem Value) : isTrue x env whole = (do let v ← whole; standAt x.pos; holding [v] (truthy v)) := by
  cases x <;> first | rfl | cases h
def notStar : Expr → Bool
  | .Starred _ _ => false
  | _ => true
theorem star_cons {x : Expr} {xs : List Expr} (h : notStar x = true) (env : PySem.Env) : starEach (x :: xs) env = (false, eval x env) :: starEach xs env := by
  cases x <;> first | rfl | cases h
theorem star_none {pos : Pos} : ∀ {xs : List Expr} (h : xs.all notStar = true) (env : PySem.Env), (backTo pos (starEach xs env)).any (·.1) = false
  | [], _, _ => rfl
  | x :: xs, h, env => by
    simp only [List.all_cons, Bool.and_eq_true] at h
    rw [star_cons h.1]
    show (false || (backTo pos (starEach xs env)).any (·.1)) = false
    rw [star_none h.2] <;> rfl
def notSlice : Expr → Bool
  | .Slice _ _ _ _ => false
  | _ => true
theorem plainIx_of {x : Expr} (h : notSlice x = true) : PlainIx x := fun o i => by cases x <;> first | rfl | cases h
def notSet : Expr → Bool
  | .Set _ _ _ => false
  | _ => true
theorem folded_of {x : Expr} (h : notSet x = true) (env : PySem.Env) : ∀ v, foldedSetIterable x env v = pure v := fun v => by cases x <;> first | rfl | cases h
theorem nobeh_of {o : CmpOp} {x : Expr} (h : notSet x = true) : behindInMarks o x = false := by cases x <;> first | rfl | cases h
def notComp : Expr → Bool
  | .ListComp _ _ _ _ => false
  | .SetComp _ _ _ _ => false
  | .DictComp _ _ _ _ _ => false
  | _ => true
theorem nosw_of {x : Expr} (h : notComp x = true) (t : Option Expr) (l : Nat) (env : PySem.Env) : swapsWith x t l env = pure false := by cases x <;> first | rfl | cases h
def visB (sc : Scope) (x : Str) : Bool := match sc.names.lookup x with
  | some .local => true
  | some .cell => true
  | some .free => true
  | _ => false
theorem visB_ok {sc : Scope} {x : Str} (h : visB sc x = true) : Vis sc x := by
  unfold visB at h
  split at h
  · rename_i e; exact .inl e
  · rename_i e; exact .inr (.inl e)
  · rename_i e; exact .inr (.inr e)
  · cases h
def locB (sc : Scope) (fb : Str → Bool) (x : Str) : Bool := match sc.names.lookup x with
  | some .local => true
  | some .cell => fb x
  | _ => false
theorem locB_ok {sc : Scope} {fb : Str → Bool} {x : Str} (h : locB sc fb x = true) : L2.Loc sc x ∧ (fb x = true ∨ sc.names.lookup x = some .local) := by
  unfold locB at h
  split at h
  · rename_i e; exact ⟨.inl e, .inr e⟩
  · rename_i e; exact ⟨.inr e, .inl h⟩
  · cases h
def glB (sc : Scope) (x : Str) : Bool := decide (sc.names.lookup x = some .globalImplicit) && !(x == ("__debug__" : Str)) && decide (x ≠ "__name__")
def nmB (N : List Str) (sc : Scope) (i : Nat) (x : Str) : Bool := decide (N[i]? = some x) && visB sc x && !(x == ("__debug__" : Str)) && !(x == ("__classdict__" : Str))
end Mi
end

section
-- Mini10
set_option Elab.async false
set_option linter.all false
set_option maxRecDepth 100000
set_option maxHeartbeats 4000000
/-! Mini, part 10: isinstance, attributes, calls -/
namespace Mi
open PySem PySem.Spec PyProof.Rows L2

theorem kit_all : ∀ a ∈ tyNames, ∀ b ∈ askNames, kitB a b = some (subTy a b) := by decide +kernel
theorem boot_all : ∀ b ∈ askNames, bootBuiltins (PySem.Str.ofString b) = some (.type b) := by decide +kernel
theorem tyOf_mem {v : PV} {t : String} (h : tyOf v = some t) : t ∈ tyNames := by
  cases v <;> cases h <;> decide
section
variable {X : Cx} {P : En} {W : Wex} {Γ : Gam} {pos : Pos}
theorem tyX_of {G : Wd} {H : Hp} {μ : Mu} {v : PV} {x : V} {t : String} (hK : P.K = X.K) (w : Wf P G μ H) (r : RepH P G H v x) (h : tyOf v = some t) : TyX X.K H x (.type t) := by
  cases v with
  | non => cases h; cases r with | fz r => cases r; exact .base .non
  | bl b => cases h; cases r with | fz r => cases r; exact .base (.bl b)
  | int i => cases h; cases r with | fz r => cases r; exact .base (.int i)
  | str z => cases h; cases r with | fz r => cases r; exact .base (.str z)
  | tup vs =>
    cases h
    obtain ⟨a, xs, rfl, hq, _⟩ := r.tup w
    rcases hq with (h | ⟨o, h⟩) | ⟨o, its, n, h1, h2, _⟩
    · exact .base (.tup h)
    · exact .fTuple h
    · rw [hK] at h1
      exact .kTuple h1 h2
  | lst vs =>
    cases h
    obtain ⟨a, xs, rfl, hq, _⟩ := r.lst w
    exact .base (.lst hq)
  | dct ks vs =>
    cases h
    cases r with
    | fz r =>
      cases r with
      | dct0 h => exact .base (.dK (w.sub _ _ h))
  | _ => cases h
theorem rep_noOwn {G : Wd} {ρ : Env} {σ : L2.St} {v : PV} {x : V} (r : RepO P G ρ σ v x) (h : ∀ vs, v ≠ .lst vs) : Rep P G v x := by
  rcases r with r | ⟨i, vs, e, _⟩
  · exact r
  · exact absurd e (h vs)
/-- what isinstance rules know of a class -/
def IsA (K : PySem.W.Frag) (H : Hp) (x : V) (C : Value) (b : Bool) : Prop := (∃ T, TyX K H x T ∧ PySem.W.kitOne K T C = some b) ∨ (∃ a D, x = .ref a ∧ ExAt H a D ∧ ExcC K D ∧ PySem.W.kitOne K (.ref D) C = some b)
structure IsK (Γ : Gam) (X : Cx) (P : En) (C : Value) (t : Ty) : Prop where
  base : ∀ T ∈ tyNames, ∀ b, isinTy T t = some b → PySem.W.kitOne X.K (.type T) C = some b
  obj : ∀ (G : Wd) (μ : Mu) (H : Hp) (v : PV) (x : V) (b : Bool), Wf P G μ H → Rep P G v x → tyOf v = none → isinF Γ v t = some b → IsA X.K H x C b
theorem lookup_reps {G : Wd} {f : Str} {v : PV} : ∀ {fs : List Str} {vs : List PV} {xs : List V}, fs.length = vs.length → Reps P G vs xs → (fs.zip vs).lookup f = some v → ∃ y, (fs.zip xs).lookup f = some y ∧ Rep P G v y
  | [], [], _, _, .nil, h => by simp at h
  | g :: fs, u :: vs, _, hl, .cons (x := x) (xs := xs) r t, h => by
    by_cases e : f = g
    · subst e
      simp only [List.zip_cons_cons, List.lookup_cons, beq_self_eq_true] at h ⊢
      cases h
      exact ⟨x, rfl, r⟩
    · have hb : (f == g) = false := beq_false_of_ne e
      simp only [List.zip_cons_cons, List.lookup_cons, hb] at h ⊢
      exact lookup_reps (by simpa using hl) t h
  | [], _ :: _, _, h, _, _ => by simp at h
  | _ :: _, [], _, h, _, _ => by simp at h
theorem isK_apply {C : Value} {t : Ty} (k : IsK Γ X P C t) (hK : P.K = X.K) {G : Wd} {μ : Mu} {H He : Hp} {ρ : Env} {σ : L2.St} {v : PV} {x : V} {b : Bool} (w : Wf P G μ H) (s : Sl P He G ρ σ H) (r : RepO P G ρ σ v x) (h : isinF Γ v t = some b) : IsA X.K H x C b := by
  have h0 := h
  unfold isinF at h
  split at h
  · rename_i T hT
    exact .inl ⟨_, tyX_of hK w (r.toH s) hT, k.base T (tyOf_mem hT) b h⟩
  · rename_i hn
    exact k.obj G μ H v x b w (rep_noOwn r fun vs e => by rw [e] at hn; cases hn) hn h0
theorem o_isin (n : Cn X P W) {a : Expr} {t : Ty} {ea : E} {nm : Str} {c : V} {C : Value} {p q : Pos} (hg : Gl X "isinstance") (hm : X.mg "isinstance" = none) (hc : PE X (.Name nm q) (tC c)) (hv : ClsV c C) (k : IsK Γ X P C t)
    (ha : PE X a (tO P W (evE Γ ea))) (hs : notStar a = true) : PE X (.Call (.Name "isinstance" p) [a, .Name nm q] [] pos) (tE P W (evE Γ (.isin ea t))) :=
  (pe_callB (id := "isinstance") call_isM hg hm (by decide +kernel) (pa_cons ha (pa_cons hc pa_nil rfl) (star_cons hs _)) (by decide) (by decide) (star_cons hs _) rfl).imp fun σ H Q ⟨He, G, ρ, μ, kk, kx, w0, sl, hw, t, tx⟩ => by
    simp only [evE] at hw
    refine ⟨He, G, ρ, μ, _, kx, w0, sl, hw, fun G1 μ1 H1 va x e1 w1 r1 h1 => ?_, tx⟩
    dsimp only at h1
    split at h1
    · rename_i r hr
      exact ⟨x, c, C, r, rfl, hv, isK_apply k n.hK w1 (sl.ext w0 e1) r1 hr, t G1 μ1 H1 _ _ e1 w1 (.of (.bl _)) h1⟩
    · exact h1.elim
theorem tyX_ins {T : Tab} {G : Wd} {μ : Mu} {H : Hp} {d : Str} {fs : List Str} {vs : List PV} {x : V} (tx : Txt T X.K P.mg) (hd : d ∈ T.clss) (w : Wf P G μ H) (r : Rep P G (.ins d fs vs) x) : ∃ C, P.mg d = some (.ref C) ∧ TyX X.K H x (.ref C) := by
  cases r with
  | ins q1 q2 q3 q4 =>
    obtain ⟨c, _⟩ := tx.clss d hd _ q1
    exact ⟨_, q1, .base (.ins (w.sub _ _ q2) c.cl c.ha c.hn c.ht c.hm)⟩
theorem exAt_rep {G : Wd} {μ : Mu} {H : Hp} {d : Str} {fs : List Str} {vs : List PV} {x : V} (w : Wf P G μ H) (r : Rep P G (.exc d fs vs) x) : ∃ C a, P.mg d = some (.ref C) ∧ x = .ref a ∧ ExAt H a C := by
  cases r with
  | exc0 q1 q2 => exact ⟨_, _, q1, rfl, none, w.sub _ _ q2, fun dd e => by cases e⟩
  | exc1 q1 q2 q3 q4 q5 => exact ⟨_, _, q1, rfl, some _, w.sub _ _ q2, fun dd e => by cases e; exact ⟨_, w.sub _ _ q3⟩⟩
/-- a built-in type -/
theorem isK_bi {T : Tab} {d : Nat} {nm : String} (tx : Txt T X.K P.mg) (hS : ∃ S, P.mg "StepError" = some (.ref S) ∨ T.subs = []) (hn : nm ∈ askNames) : IsK (gam T d) X P (.type nm) (.bi nm) where
  base := fun T hT b h => by
    unfold isinTy at h
    simp only [if_pos hn] at h
    cases h
    exact kit_ty (kit_all T hT nm hn)
  obj := fun G μ H v x b w r ht h => by
    unfold isinF at h
    rw [ht] at h
    dsimp only at h
    split at h
    · rename_i d' fs vs n e
      cases e
      split at h
      · rename_i hc
        cases h
        rw [gam_clss] at hc
        obtain ⟨C, q1, q2⟩ := tyX_ins tx hc.1 w r
        exact .inl ⟨_, q2, (tx.clss d' hc.1 C q1).2 nm hn⟩
      · cases h
    · rename_i e; cases e
    · rename_i e; cases e
    · rename_i d' fs vs n e
      cases e
      split at h
      · rename_i hc
        cases h
        obtain ⟨hc1, hc2⟩ := hc
        subst hc1
        rw [gam_sub] at hc2
        obtain ⟨b, hb⟩ := Option.isSome_iff_exists.mp hc2
        obtain ⟨C, a, q1, rfl, q2⟩ := exAt_rep w r
        obtain ⟨S, hS | hS⟩ := hS
        · obtain ⟨k1, k2, k3⟩ := tx.stp d' b hb C S q1 hS
          exact .inr ⟨a, C, rfl, q2, k1, k3⟩
        · rw [hS] at hb; cases hb
      · cases h
    · cases h
/-- an own class -/
theorem isK_cl {T : Tab} {d : Nat} {c : Str} {D : Addr} (tx : Txt T X.K P.mg) (hc : c ∈ T.tgt) (hm : P.mg c = some (.ref D)) : IsK (gam T d) X P (.ref D) (.cl c) where
  base := fun t hT b h => by
    cases h
    obtain ⟨C, q1, _, q2⟩ := tx.tgt c hc
    rw [hm] at q1
    cases q1
    exact q2 t hT
  obj := fun G μ H v x b w r ht h => by
    unfold isinF at h
    rw [ht] at h
    dsimp only at h
    split at h
    · rename_i e; cases e
    · rename_i d' fs vs c' e
      cases e
      split at h
      · rename_i hk
        rw [gam_clss] at hk
        rw [gam_sub] at h
        obtain ⟨C, q1, q2⟩ := tyX_ins tx hk w r
        exact .inl ⟨_, q2, (tx.subs d' c b h C D q1 hm).1⟩
      · cases h
    · rename_i d' fs vs c' e
      cases e
      split at h
      · cases h
      · rename_i hk
        rw [gam_clss] at hk
        rw [gam_sub] at h
        obtain ⟨C, a, q1, rfl, q2⟩ := exAt_rep w r
        obtain ⟨k1, k2⟩ := tx.subs d' c b h C D q1 hm
        rcases k2 with k2 | k2
        · exact absurd k2 hk
        · exact .inr ⟨a, C, rfl, q2, k2, k1⟩
    · rename_i e; cases e
    · cases h
theorem o_attr (n : Cn X P W) {a : Expr} {f : Str} {ea : E} (hb : attributeBase a f X.env (eval a X.env) = eval a X.env) (hf : ∀ c C, P.mg c = some (.ref C) → f ∈ Γ.flds c → Cls X.K C ∧ NoAttr X.K C f)
    (hx : ∀ c C, P.mg c = some (.ref C) → f ∈ Γ.xflds c → ExcC X.K C ∧ PySem.W.findIn X.K (.ref C) f = some none)
    (ha : PE X a (tO P W (evE Γ ea))) : PE X (.Attribute a f pos) (tE P W (evE Γ (.attr ea f))) :=
  (pe_attrM ha hb).imp fun σ H Q ⟨He, G, ρ, μ, k, kx, w0, sl, hw, t, tx⟩ => by
    simp only [evE] at hw
    refine ⟨He, G, ρ, μ, _, kx, w0, sl, hw, fun G1 μ1 H1 va x e1 w1 r1 h1 => ?_, tx⟩
    dsimp only at h1
    split at h1
    · rename_i c fs vs
      obtain ⟨hin, h1⟩ := h1
      split at h1
      · rename_i v hv
        cases rep_noOwn (v := .ins c fs vs) r1 (fun vs e => by cases e) with
        | ins q1 q2 q3 q4 =>
          obtain ⟨k1, k2⟩ := hf _ _ q1 hin
          obtain ⟨y, hy, ry⟩ := lookup_reps q3 q4 hv
          exact .inl ⟨_, _, _, _, y, rfl, w1.sub _ _ q2, k1, k2, hy, t G1 μ1 H1 v y e1 w1 (.of ry) h1⟩
      · exact h1.elim
    · rename_i c fs vs
      obtain ⟨hin, h1⟩ := h1
      split at h1
      · rename_i v hv
        cases rep_noOwn (v := .exc c fs vs) r1 (fun vs e => by cases e) with
        | exc0 q1 q2 => simp at hv
        | exc1 q1 q2 q3 q4 q5 =>
          obtain ⟨k1, k2⟩ := hx _ _ q1 hin
          obtain ⟨y, hy, ry⟩ := lookup_reps q4 q5 hv
          exact .inr ⟨_, _, _, _, y, rfl, w1.sub _ _ q2, k1, k2, w1.sub _ _ q3, hy, t G1 μ1 H1 v y e1 w1 (.of ry) h1⟩
      · exact h1.elim
    · exact h1.elim
/-! ### calls -/
theorem o_call {d : Nat} {E : XK} {f : Str} {a : Expr} {as : List Expr} {es : Es} {ad : Addr} {fd : FuncData} {ps : List Str} {p : Pos} (n : Cn X P (wE E)) (F : FnOk X.prog X.w X.K X.mg X.base (L2.CX X.prog X.w) d ad fd ps (spF P ps.length (Γ.call f)))
    (hr : Room d X.A) (hg : Gl X f) (hm : X.mg f = some (.ref ad)) (hk : PySem.W.keepIn X.K (.ref ad) = true) (hb : Binds X.K fd ps []) (hd : (f == ("__debug__" : Str)) = false) (hx : ∀ vs μ k kx, Γ.call f vs μ k kx → vs.length = ps.length)
    (ha : PA X (a :: as) (tEs P (wE E) (evEs Γ es))) (hs : starEach (a :: as) X.env = (false, eval a X.env) :: starEach as X.env) (hpl : (backTo pos (starEach as X.env)).any (·.1) = false) : PE X (.Call (.Name f p) (a :: as) [] pos) (tE P (wE E) (evE Γ (.call f es))) :=
  (pe_call (E := E) F hr hg hm hk hb .nil (passes_call n.takes fun _ _ _ _ h => h) ha hd hs hpl).imp fun σ H Q ⟨He, G, ρ, μ, k, kx, w0, sl, hw, t, tx⟩ => by
    simp only [evE] at hw
    refine ⟨He, G, ρ, μ, _, kx, w0, sl, hw, fun G1 μ1 H1 vs xs e1 w1 r1 h1 => ?_, tx⟩
    show spF P ps.length (Γ.call f) (xs ++ []) H1 Q E
    rw [List.append_nil]
    exact ⟨G1, μ1, vs, k, kx, by rw [← r1.length]; exact hx _ _ _ _ h1, w1, r1, h1, fun G2 μ2 H2 v x e2 w2 r2 h2 => t G2 μ2 H2 v x (e1.trans e2) w2 (r2.start e1.dm) h2, tx.ext e1⟩
theorem o_call0 {d : Nat} {E : XK} {f : Str} {ad : Addr} {fd : FuncData} {ps : List Str} {p : Pos} (n : Cn X P (wE E)) (F : FnOk X.prog X.w X.K X.mg X.base (L2.CX X.prog X.w) d ad fd ps (spF P ps.length (Γ.call f)))
    (hr : Room d X.A) (hg : Gl X f) (hm : X.mg f = some (.ref ad)) (hk : PySem.W.keepIn X.K (.ref ad) = true) (hb : Binds X.K fd ps []) (hd : (f == ("__debug__" : Str)) = false) (hx : ∀ vs μ k kx, Γ.call f vs μ k kx → vs.length = ps.length) : PE X (.Call (.Name f p) [] [] pos) (tE P (wE E) (evE Γ (.call f .nil))) :=
  (pe_call0 (E := E) F hr hg hm hk hb .nil (passes_call n.takes fun _ _ _ _ h => h) hd).imp fun σ H Q ⟨He, G, ρ, μ, k, kx, w0, sl, hw, t, tx⟩ => by
    simp only [evE, evEs] at hw
    exact ⟨G, μ, [], k, kx, hx _ _ _ _ hw, w0, .nil, hw, t, tx⟩
theorem PK.imp' {kws : List Keyword} {t u : TA} (h : PK X kws t) (k : ∀ σ H Q, u σ H Q → t σ H Q) : PK X kws u := ⟨fun pos pins s σ H Q I q => h.run pos pins s σ H Q I (k _ _ _ q)⟩
theorem k_nil {W : Wex} : PK X [] (tEs P W (evEs Γ .nil)) := PK.imp' pk_nil fun σ H Q ⟨He, G, ρ, μ, k, kx, w0, sl, hw, t, tx⟩ => by
  simp only [evEs] at hw
  exact t G μ H [] [] (.refl H G) w0 .nil hw
theorem k_cons {W : Wex} {a : Expr} {nm : Option Str} {kpos : Pos} {kws : List Keyword} {ea : Mi.E} {es : Es} (ha : PE X a (tE P W (evE Γ ea))) (hr : PK X kws (tEs P W (evEs Γ es))) : PK X (⟨nm, a, kpos⟩ :: kws) (tEs P W (evEs Γ (.cons ea es))) :=
  PK.imp' (pk_cons ha hr) fun σ H Q ⟨He, G, ρ, μ, k, kx, w0, sl, hw, t, tx⟩ => by
    simp only [evEs] at hw
    refine ⟨He, G, ρ, μ, _, kx, w0, sl, hw, fun G1 μ1 H1 va x e1 w1 r1 h1 => ?_, tx⟩
    have go : ∀ G1, Ext H G H1 G1 → Wf P G1 μ1 H1 → Rep P G1 va.fz x → tEs P W (evEs Γ es) σ H1 fun xs H2 => Q (x :: xs) H2 := fun G1 e1 w1 r1 =>
      ⟨He, G1, ρ, μ1, _, kx, w1, sl.ext w0 e1, h1, fun G2 μ2 H2 vs xs e2 w2 r2 h2 => t G2 μ2 H2 (va.fz :: vs) _ (e1.trans e2) w2 (.cons (r1.ext e2) r2) h2, tx.ext e1⟩
    cases va with
    | nls vs =>
      obtain ⟨G2, e2, w2, r2, _, _⟩ := freezeL w1 e1 r1
      exact go G2 e2 w2 r2
    | _ => exact go G1 e1 w1 r1
theorem Vals.fm {perm : List Nat} {zs : List V} {ws : List Value} (r : Vals zs ws) : Vals (perm.filterMap (zs[·]?)) (perm.filterMap (ws[·]?)) := by
  induction perm with
  | nil => exact .nil
  | cons j perm ih =>
    rw [List.filterMap_cons, List.filterMap_cons]
    cases h : zs[j]? with
    | none =>
      have : ws[j]? = none := by
        rw [List.getElem?_eq_none_iff] at h ⊢
        have := r.length
        omega
      rw [this]; exact ih
    | some z =>
      have hl : j < ws.length := by
        have := (List.getElem?_eq_some_iff.mp h).1
        have := r.length
        omega
      rw [List.getElem?_eq_getElem hl]
      have rv : RelV z ws[j] := by
        obtain ⟨u, h1, h2⟩ := r.get h
        rw [List.getElem?_eq_getElem hl] at h1
        cases h1
        exact h2
      exact .cons rv ih
theorem Reps.fm2 {G : Wd} {perm : List Nat} {vs : List PV} {zs : List V} (r : Reps P G vs zs) : Reps P G (perm.filterMap (vs[·]?)) (perm.filterMap (zs[·]?)) := by
  induction perm with
  | nil => exact .nil
  | cons j perm ih =>
    rw [List.filterMap_cons, List.filterMap_cons]
    cases h : vs[j]? with
    | none =>
      have : zs[j]? = none := by
        rw [List.getElem?_eq_none_iff] at h ⊢
        have := r.length
        omega
      rw [this]; exact ih
    | some z =>
      obtain ⟨u, h1, h2⟩ := r.get h
      rw [h1]
      exact .cons h2 ih
/-- f(k = v, ..) -/
theorem pe_callK0 {CX : CXT} {k : Nat} {f : Addr} {fd : FuncData} {ps ks : List Str} {perm : List Nat} {sp : Sp} {E : XK} {x : Str} {p : Pos} {kws : List Keyword} {tk : TA} (F : FnOk X.prog X.w X.K X.mg X.base CX k f fd ps sp) (hr : Room k X.A) (hg : Gl X x) (hm : X.mg x = some (.ref f)) (hk : PySem.W.keepIn X.K (.ref f) = true)
    (hb : ∀ (s : Shared) (ws : List Value), ws.length = ks.length → BindsTo s fd ⟨[], ks.zip ws⟩ (ps.zip (perm.filterMap (ws[·]?)))) (hx : Passes CX X E) (hkw : PK X kws tk) (hall : (backToKw pos (keywordEach kws X.env)).all (·.1.isSome) = true) (hks : (backToKw pos (keywordEach kws X.env)).filterMap (·.1) = ks)
    (hpl : ((backTo pos (starEach [] X.env)).any (·.1) || (backToKw pos (keywordEach kws X.env)).any (·.1.isNone)) = false) (hdb : (x == ("__debug__" : Str)) = false) :
    PE X (.Call (.Name x p) [] kws pos) (fun σ H Q => tk σ H fun zs H1 => zs.length = ks.length ∧ sp (perm.filterMap (zs[·]?)) H1 Q E) := by
  refine ⟨fun pins s σ H Q I h => ?_⟩
  refine wpAny_Call_Name_kw (ld_glob I hg hm ?_ hdb)
  refine PySem.W.callWith_KW0 (h₀ := X.base) I.ok.mod.kin hk hall (thn (hkw.run pos pins s σ H _ I h) fun ws s2 ⟨zs, H2, I2, rz, hl, q2⟩ => ⟨I2.kIn, ?_⟩) hpl
  rw [hks]
  show wpAny _ _ (call (.ref f) [] (ks.zip ws)) _ _ _
  have hw : ws.length = ks.length := by rw [← rz.length]; exact hl
  refine wpAny_call (codeAny_mono (F.run X.A X.stack s2 H2 ⟨[], ks.zip ws⟩ (perm.filterMap (ws[·]?)) (perm.filterMap (zs[·]?)) Q E hr I2.env0 (hb s2 ws hw) (Mi.Vals.fm rz) q2) fun r s' hq => ?_)
  cases r with
  | error e => exact hx pins σ H2 s2 e s' I2 hq
  | ok fl =>
    cases fl with
    | ret u => exact I2.after hq
    | next => exact False.elim hq
    | brk => exact False.elim hq
    | cont => exact False.elim hq
/-- each keyword has its name -/
def kwNames : List Keyword → Option (List Str)
  | [] => some []
  | ⟨some k, _, _⟩ :: r => (kwNames r).map (k :: ·)
  | _ => none
theorem kw_all {env : PySem.Env} : ∀ {kws : List Keyword} {ks : List Str}, kwNames kws = some ks → (backToKw pos (keywordEach kws env)).all (·.1.isSome) = true ∧ (backToKw pos (keywordEach kws env)).filterMap (·.1) = ks ∧ (backToKw pos (keywordEach kws env)).any (·.1.isNone) = false
  | [], ks, h => by cases h; exact ⟨rfl, rfl, rfl⟩
  | ⟨some k, v, q⟩ :: r, ks, h => by
    simp only [kwNames, Option.map_eq_some_iff] at h
    obtain ⟨l, h1, rfl⟩ := h
    obtain ⟨a, b, c⟩ := kw_all (env := env) h1
    refine ⟨?_, ?_, ?_⟩
    · show (true && (backToKw pos (keywordEach r env)).all (·.1.isSome)) = true
      rw [a]; rfl
    · show k :: (backToKw pos (keywordEach r env)).filterMap (·.1) = k :: l
      rw [b]
    · show (false || (backToKw pos (keywordEach r env)).any (·.1.isNone)) = false
      rw [c]; rfl
  | ⟨none, _, _⟩ :: _, _, h => by cases h
theorem o_callk {d : Nat} {E : XK} {f : Str} {ks : List Str} {perm : List Nat} {kes : Es} {kws : List Keyword} {ad : Addr} {fd : FuncData} {ps : List Str} {p : Pos} (n : Cn X P (wE E)) (F : FnOk X.prog X.w X.K X.mg X.base (L2.CX X.prog X.w) d ad fd ps (spF P ps.length (Γ.call f)))
    (hr : Room d X.A) (hg : Gl X f) (hm : X.mg f = some (.ref ad)) (hk : PySem.W.keepIn X.K (.ref ad) = true) (hb : KwB fd ps) (hko : kwOk ps ks perm = true) (hd : (f == ("__debug__" : Str)) = false) (hx : ∀ vs μ k kx, Γ.call f vs μ k kx → vs.length = ps.length)
    (hkn : kwNames kws = some ks) (ha : PK X kws (tEs P (wE E) (evEs Γ kes))) : PE X (.Call (.Name f p) [] kws pos) (tE P (wE E) (evE Γ (.callk f .nil ks kes perm))) := by
  obtain ⟨q1, q2, q3⟩ := kw_all (pos := pos) (env := X.env) hkn
  refine (pe_callK0 (E := E) F hr hg hm hk (hb ks perm hko) (passes_call n.takes fun _ _ _ _ h => h) ha q1 q2 (by rw [q3] <;> rfl) hd).imp fun σ H Q ⟨He, G, ρ, μ, k, kx, w0, sl, hw, t, tx⟩ => ?_
  simp only [evE, evEs, List.nil_append] at hw
  refine ⟨He, G, ρ, μ, _, kx, w0, sl, hw, fun G1 μ1 H1 vs xs e1 w1 r1 h1 => ?_, tx⟩
  exact ⟨by rw [← r1.length]; exact h1.1, G1, μ1, perm.filterMap (vs[·]?), k, kx, by rw [← (Reps.fm2 r1).length]; exact hx _ _ _ _ h1.2, w1, Reps.fm2 r1, h1.2, fun G2 μ2 H2 v x e2 w2 r2 h2 => t G2 μ2 H2 v x (e1.trans e2) w2 (r2.start e1.dm) h2, tx.ext e1⟩
end
end Mi
end

section
-- MiniA
set_option Elab.async false
set_option linter.all false
set_option maxRecDepth 100000
set_option maxHeartbeats 4000000
/-! Mini, part A: the source of draws -/
namespace Mi
open PySem PySem.Spec PyProof.Rows L2
def stKV (g c : Addr) (l t : Int) : List (Key × V) := [(Sum.inr "great", .ref g), (Sum.inr "cells", .ref c), (Sum.inr "left", .int l), (Sum.inr "turn", .int t)]
section
variable {P : En} {G : Wd} {H He : Hp} {ρ : Env} {σ : L2.St} {μ : Mu}
theorem st_at {i k : Nat} {gs cs : List Int} {l t : Int} (w : Wf P G μ H) (s : Sl P He G ρ σ H) (h : stAt ρ μ i = some (k, gs, cs, l, t)) :
    ∃ S g c, σ[i]? = some (some (.ref S)) ∧ G.m[k]? = some [S, g] ∧ μ[k]? = some (.st gs cs l t) ∧ H S = some (.dK (stKV g c l t)) ∧ H g = some (.lst (gs.map V.int)) ∧ G.F c = some (.lst (cs.map V.int)) ∧ S ≠ g := by
  unfold stAt at h
  split at h
  · rename_i k' hρ
    split at h
    · rename_i gs' cs' l' t' hμ
      cases h
      obtain ⟨x, h1, h2⟩ := s.fz i _ hρ rfl
      cases h2 with
      | obj hm =>
        obtain ⟨S, g, c, e1, h3, h4, h5, h6⟩ := w.ob _ _ _ hμ hm
        cases e1
        exact ⟨_, g, c, h1, hm, hμ, h3, h4, h5, h6⟩
    · cases h
  · cases h
theorem noSl_str {x : Str} {j : Nat} {p : Pos} : NoSl (.Constant (.str x) j p) := fun _ _ => rfl
theorem get_left {S g c : Addr} {l t : Int} (h : H S = some (.dK (stKV g c l t))) : DGet H S (.str "left") (some (.int l)) := .inl ⟨_, Sum.inr "left", .inl h, rfl, by simp (decide := true) [stKV, valV, List.find?]⟩
theorem get_turn {S g c : Addr} {l t : Int} (h : H S = some (.dK (stKV g c l t))) : DGet H S (.str "turn") (some (.int t)) := .inl ⟨_, Sum.inr "turn", .inl h, rfl, by simp (decide := true) [stKV, valV, List.find?]⟩
theorem get_great {S g c : Addr} {l t : Int} (h : H S = some (.dK (stKV g c l t))) : DGet H S (.str "great") (some (.ref g)) := .inl ⟨_, Sum.inr "great", .inl h, rfl, by simp (decide := true) [stKV, valV, List.find?]⟩
theorem get_cells {S g c : Addr} {l t : Int} (h : H S = some (.dK (stKV g c l t))) : DGet H S (.str "cells") (some (.ref c)) := .inl ⟨_, Sum.inr "cells", .inl h, rfl, by simp (decide := true) [stKV, valV, List.find?]⟩
theorem put_left {g c : Addr} {l t l2 : Int} : putK (stKV g c l t) (Sum.inr "left") (.int l2) = stKV g c l2 t := by simp (decide := true) [stKV, putK]
theorem put_turn {g c : Addr} {l t t2 : Int} : putK (stKV g c l t) (Sum.inr "turn") (.int t2) = stKV g c l t2 := by simp (decide := true) [stKV, putK]
/-- the source is written -/
theorem st_upd {k : Nat} {mo mo' : MO} {fp : List Addr} {a : Addr} {o : HO} (w : Wf P G μ H) (hm : G.m[k]? = some fp) (hμ : μ[k]? = some mo) (ha : a ∈ fp) (hn : MoOk P G (upd H a o) mo' fp) (ht : ∀ q, mo ≠ .tb q := by intro q z; cases z) :
    Ext H G (upd H a o) G ∧ Wf P G (μ.set k mo') (upd H a o) := by
  have hk : k < μ.length := (List.getElem?_eq_some_iff.mp hμ).1
  have inm : a ∈ G.m.flatten := mem_flat hm ha
  have nF := (w.mF a inm).1
  have ne : ∀ {b o'}, G.F b = some o' → b ≠ a := fun {b o'} hb z => by rw [z, nF] at hb; cases hb
  refine ⟨⟨fun _ _ h => h, fun _ _ h => .inl h, fun b o' h hn nt => ?_, fun b h => ?_, fun k a r h => ⟨r, h⟩, fun b h => .inl h, rfl⟩, ⟨fun b o' h => ?_, fun b h => ?_, by simp [w.len], fun k' mo2 fp2 h1 h2 => ?_, w.dj, fun j b q hj => ?_⟩⟩
  · rw [upd_ne (fun z => hn (by rw [z]; exact inm))]
    exact h
  · by_cases z : b = a
    · rw [z, upd_same] at h; cases h
    · rw [upd_ne z] at h; exact h
  · rw [upd_ne (ne h)]
    exact w.sub b o' h
  · obtain ⟨h1, h2⟩ := w.mF b h
    refine ⟨h1, ?_⟩
    by_cases z : b = a
    · rw [z, upd_same]; exact fun z => nomatch z
    · rw [upd_ne z]; exact h2
  · by_cases e : k' = k
    · subst e
      rw [List.getElem?_set_self hk] at h1
      cases h1
      rw [hm] at h2
      cases h2
      exact hn
    · rw [List.getElem?_set_ne (Ne.symm e)] at h1
      exact MoOk.keep' (w.ob k' mo2 fp2 h1 h2) fun b hb => upd_ne fun z => w.dj k' k fp2 fp e h2 hm b hb (by rw [z]; exact ha)
  · obtain ⟨h1, h2⟩ := w.tb j b q hj
    refine ⟨h1, ?_⟩
    have ne : k ≠ j := fun z => by
      rw [z, h2] at hμ
      exact ht q (Option.some.inj hμ).symm
    rw [List.getElem?_set_ne ne]
    exact h2
end
section
variable {X : Cx} {P : En} {W : Wex} {Γ : Gam} {pos : Pos} {i : Nat} {x : Str} {px pq : Pos} {j : Nat}
theorem o_sleft (n : Cn X P W) (hi : X.N[i]? = some x) (hv : Vis X.env.scope x) (hd : (x == ("__debug__" : Str)) = false) (hcd : (x == ("__classdict__" : Str)) = false) : PE X (.Subscript (.Name x px) (.Constant (.str "left") j pq) pos) (tE P W (evE Γ (.sleft i))) :=
  (pe_dget (by have := n.units; omega) (pe_var hi hv hd hcd) pe_str noSl_str).imp fun σ H Q ⟨He, G, ρ, μ, k, kx, w0, sl, hw, t, tx⟩ => by
    simp only [evE] at hw
    split at hw
    · rename_i k' gs cs l tt hst
      obtain ⟨S, g, c, h1, h2, h3, h4, h5, h6, h7⟩ := st_at w0 sl hst
      exact ⟨.ref S, h1, S, .int l, rfl, get_left h4, t G μ H (.int l) _ (.refl H G) w0 (.of (.int _)) hw⟩
    · exact hw.elim
theorem o_sturn (n : Cn X P W) (hi : X.N[i]? = some x) (hv : Vis X.env.scope x) (hd : (x == ("__debug__" : Str)) = false) (hcd : (x == ("__classdict__" : Str)) = false) : PE X (.Subscript (.Name x px) (.Constant (.str "turn") j pq) pos) (tE P W (evE Γ (.sturn i))) :=
  (pe_dget (by have := n.units; omega) (pe_var hi hv hd hcd) pe_str noSl_str).imp fun σ H Q ⟨He, G, ρ, μ, k, kx, w0, sl, hw, t, tx⟩ => by
    simp only [evE] at hw
    split at hw
    · rename_i k' gs cs l tt hst
      obtain ⟨S, g, c, h1, h2, h3, h4, h5, h6, h7⟩ := st_at w0 sl hst
      exact ⟨.ref S, h1, S, .int tt, rfl, get_turn h4, t G μ H (.int tt) _ (.refl H G) w0 (.of (.int _)) hw⟩
    · exact hw.elim
theorem o_spop (n : Cn X P W) {pa pc pz : Pos} {jz : Nat} (hi : X.N[i]? = some x) (hv : Vis X.env.scope x) (hd : (x == ("__debug__" : Str)) = false) (hcd : (x == ("__classdict__" : Str)) = false) (hl : (pa.endLine == pc.line) = true) :
    PE X (.Call (.Attribute (.Subscript (.Name x px) (.Constant (.str "great") j pq) pos) "pop" pa) [.Constant (.int 0) jz pz] [] pc) (tE P W (evE Γ (.spop i))) :=
  (pe_bm PySem.F.plainAttrs_list PySem.F.slot_list_pop PySem.F.type_list_pop mt_popAt (pe_dget (by have := n.units; omega) (pe_var hi hv hd hcd) pe_str noSl_str) (pa_cons pe_int pa_nil rfl) rfl rfl hl rfl rfl).imp fun σ H Q ⟨He, G, ρ, μ, k, kx, w0, sl, hw, t, tx⟩ => by
    simp only [evE] at hw
    split at hw
    · rename_i k' z gs cs l tt hst
      obtain ⟨S, g, c, h1, h2, h3, h4, h5, h6, h7⟩ := st_at w0 sl hst
      obtain ⟨e1, w1⟩ := st_upd (mo' := .st gs cs l tt) (a := g) (o := .lst (gs.map V.int)) w0 h2 h3 (by simp) ⟨S, g, c, rfl, by rw [upd_ne h7]; exact h4, upd_same, h6, h7⟩
      exact ⟨.ref S, h1, S, .ref g, rfl, get_great h4, .inl ⟨rfl, _, .inl (.inl h5)⟩, g, _, 0, 0, .int z, rfl, rfl, h5, by omega, by omega, by simp [seqIndex?], by simp, t G _ _ (.int z) _ e1 w1 (.of (.int _)) hw⟩
    · exact hw.elim
theorem great_op (n : Cn X P W) {pp pl : Pos} (hi : X.N[i]? = some x) (hv : Vis X.env.scope x) (hd : (x == ("__debug__" : Str)) = false) (hcd : (x == ("__classdict__" : Str)) = false) {σ : L2.St} {H : Hp} {Q : V → Hp → Prop}
    (h : ∃ He G ρ μ kx, ∃ k : PV → Mu → Prop, Wf P G μ H ∧ Sl P He G ρ σ H ∧ evE Γ (.sgreat i) ρ μ k kx ∧ ∀ b H', Ext H G H' G → Wf P G μ H' → k (.bl b) μ → Q (.bl b) H') :
    tOp (fun x y H Q => ∃ G μ va vb k, Wf P G μ H ∧ RepH P G H va x ∧ RepH P G H vb y ∧ cmpK .ne va vb k ∧ ∀ b, k b → Q (.bl b) H) (tDGet (tVar i) (tC (.str "great"))) (tLst tNil) σ H Q := by
  obtain ⟨He, G, ρ, μ, kx, k, w0, sl, hw, t⟩ := h
  simp only [evE] at hw
  split at hw
  · rename_i k' gs cs l tt hst
    obtain ⟨S, g, c, h1, h2, h3, h4, h5, h6, h7⟩ := st_at w0 sl hst
    refine ⟨.ref S, h1, S, .ref g, rfl, get_great h4, by show 0 ≤ sizeLine; omega, fun p hp => ⟨G, μ, _, _, _, w0.newL hp, .ls (xs := gs.map V.int) (by rw [upd_ne (ne_of_none h5 hp)]; exact h5) (reps_ints gs), .ls upd_same .nil, hw, fun b hb => t b _ (Ext.newL w0 hp) (w0.newL hp) hb⟩⟩
  · exact hw.elim
theorem o_sgreat (n : Cn X P W) {pp pl : Pos} (hi : X.N[i]? = some x) (hv : Vis X.env.scope x) (hd : (x == ("__debug__" : Str)) = false) (hcd : (x == ("__classdict__" : Str)) = false) : PE X (.Compare (.Subscript (.Name x px) (.Constant (.str "great") j pq) pos) [.NotEq] [.List [] pl] pp) (tE P W (evE Γ (.sgreat i))) :=
  (pe_cmpR (op_cmpM n.hK n.units .ne) (pe_dget (by have := n.units; omega) (pe_var hi hv hd hcd) pe_str noSl_str) (pe_lst pa_nil) rfl).imp fun σ H Q ⟨He, G, ρ, μ, k, kx, w0, sl, hw, t, tx⟩ =>
    great_op n (pp := pp) (pl := pl) hi hv hd hcd ⟨He, G, ρ, μ, kx, k, w0, sl, hw, fun b H' e w hb => t G μ H' (.bl b) _ e w (.of (.bl b)) hb⟩
theorem v_sgreat (n : Cn X P W) {pp pl : Pos} (hi : X.N[i]? = some x) (hv : Vis X.env.scope x) (hd : (x == ("__debug__" : Str)) = false) (hcd : (x == ("__classdict__" : Str)) = false) : PT X (.Compare (.Subscript (.Name x px) (.Constant (.str "great") j pq) pos) [.NotEq] [.List [] pl] pp) (tV P W (evE Γ (.sgreat i))) :=
  (pt_cmpR (op_cmpM n.hK n.units .ne) (pe_dget (by have := n.units; omega) (pe_var hi hv hd hcd) pe_str noSl_str) (pe_lst pa_nil) rfl).imp fun σ H Q ⟨He, G, ρ, μ, k, kx, w0, sl, hw, t, tx⟩ =>
    great_op n (pp := pp) (pl := pl) hi hv hd hcd ⟨He, G, ρ, μ, kx, k, w0, sl, hw, fun b H' e w hb => by
      obtain ⟨b', h4, h5⟩ := t G μ H' (.bl b) (.bl b) e w (.inl (.bl _)) hb
      cases h4
      exact ⟨_, rfl, h5⟩⟩
theorem i_cells {f : Bool} (n : Cn X P W) {tg : Expr} (hi : X.N[i]? = some x) (hv : Vis X.env.scope x) (hd : (x == ("__debug__" : Str)) = false) (hcd : (x == ("__classdict__" : Str)) = false) : PI X tg (.Subscript (.Name x px) (.Constant (.str "cells") j pq) pos) (tI f P W (evS Γ (.cells i))) :=
  (pi_seq (tg := tg) (pe_dget (by have := n.units; omega) (pe_var hi hv hd hcd) pe_str noSl_str)).imp fun σ H R ⟨He, G, ρ, μ, k, kx, w0, sl, hw, t, tx⟩ => by
    simp only [evS] at hw
    split at hw
    · rename_i k' gs cs l tt hst
      obtain ⟨S, g, c, h1, h2, h3, h4, h5, h6, h7⟩ := st_at w0 sl hst
      refine ⟨.ref S, h1, S, .ref c, rfl, get_cells h4, c, rfl, .inl ⟨⟨_, .inl (.inl (w0.sub _ _ h6))⟩, t G μ H _ _ (.refl H G) w0 (wk_seq (S := fun H' ys => SqL X.K H' c ys) (fun G' H' μ' o w' => ⟨cs.map V.int, .inl (.inl (w'.sub _ _ (o.le.le _ _ h6))), reps_ints cs⟩) (fun h h' => ⟨_, _, h, h'⟩) (fun h => h) fun h h' => ⟨_, h, h'⟩) hw⟩⟩
    · exact hw.elim
end
section
variable {X : Cx} {P : En} {E : XK} {Γ : Gam} {pos : Pos} {i : Nat} {x : Str} {px pq p2 : Pos} {j : Nat} {e : Expr} {ee : Mi.E}
theorem s_setL (n : Cn X P (wE E)) (hi : X.N[i]? = some x) (hv : Vis X.env.scope x) (hd : (x == ("__debug__" : Str)) = false) (hcd : (x == ("__classdict__" : Str)) = false) (he : PE X e (tO P (wE E) (evE Γ ee))) (hs : swapsWith e (some (.Subscript (.Name x px) (.Constant (.str "left") j pq) p2)) pos.line X.env = pure false) :
    PS X (.Assign [.Subscript (.Name x px) (.Constant (.str "left") j pq) p2] e pos) (tS P E (exS Γ (.setL i ee))) :=
  (ps_dput (by have := n.units; omega) (pe_var hi hv hd hcd) pe_str he hs).imp fun D σ H ⟨He, Ge, G, ρ, μ, A, e, w, sl, h, o⟩ => by
    simp only [exS] at h
    refine ⟨He, G, ρ, μ, _, A.xx, w, sl, h, fun G1 μ1 H1 v y e1 w1 r1 h1 => ?_, o.xx.ext e⟩
    have s1 := sl.ext w e1
    dsimp only at h1
    split at h1
    · rename_i v l k gs cs l0 t hst
      obtain ⟨S, g, c, z1, z2, z3, z4, z5, z6, z7⟩ := st_at w1 s1 hst
      obtain rfl := (r1.toH s1).int
      obtain ⟨e2, w2⟩ := st_upd (mo' := .st gs cs l t) (a := S) (o := .dK (stKV g c l t)) w1 z2 z3 (by simp) ⟨S, g, c, rfl, upd_same, by rw [upd_ne (Ne.symm z7)]; exact z5, z6, z7⟩
      exact ⟨.ref S, z1, S, _, rfl, .inl ⟨_, Sum.inr "left", z4, rfl, by show 4 < sizeLine; rw [sizeLine_eq]; omega, rfl⟩, by rw [put_left]; exact o.nx G1 _ _ ρ σ ((e.trans e1).trans e2) (e1.trans e2).toLe w2 (s1.ext w1 e2) h1⟩
    · exact h1.elim
theorem s_setT (n : Cn X P (wE E)) (hi : X.N[i]? = some x) (hv : Vis X.env.scope x) (hd : (x == ("__debug__" : Str)) = false) (hcd : (x == ("__classdict__" : Str)) = false) (he : PE X e (tO P (wE E) (evE Γ ee))) (hs : swapsWith e (some (.Subscript (.Name x px) (.Constant (.str "turn") j pq) p2)) pos.line X.env = pure false) :
    PS X (.Assign [.Subscript (.Name x px) (.Constant (.str "turn") j pq) p2] e pos) (tS P E (exS Γ (.setT i ee))) :=
  (ps_dput (by have := n.units; omega) (pe_var hi hv hd hcd) pe_str he hs).imp fun D σ H ⟨He, Ge, G, ρ, μ, A, e, w, sl, h, o⟩ => by
    simp only [exS] at h
    refine ⟨He, G, ρ, μ, _, A.xx, w, sl, h, fun G1 μ1 H1 v y e1 w1 r1 h1 => ?_, o.xx.ext e⟩
    have s1 := sl.ext w e1
    dsimp only at h1
    split at h1
    · rename_i v l k gs cs t l0 hst
      obtain ⟨S, g, c, z1, z2, z3, z4, z5, z6, z7⟩ := st_at w1 s1 hst
      obtain rfl := (r1.toH s1).int
      obtain ⟨e2, w2⟩ := st_upd (mo' := .st gs cs t l) (a := S) (o := .dK (stKV g c t l)) w1 z2 z3 (by simp) ⟨S, g, c, rfl, upd_same, by rw [upd_ne (Ne.symm z7)]; exact z5, z6, z7⟩
      exact ⟨.ref S, z1, S, _, rfl, .inl ⟨_, Sum.inr "turn", z4, rfl, by show 4 < sizeLine; rw [sizeLine_eq]; omega, rfl⟩, by rw [put_turn]; exact o.nx G1 _ _ ρ σ ((e.trans e1).trans e2) (e1.trans e2).toLe w2 (s1.ext w1 e2) h1⟩
    · exact h1.elim
/-- return {'great': name, 'cells': [..], 'left': 0, 'turn': 0} -/
theorem s_mkst (n : Cn X P (wE E)) {j1 j2 j3 j4 j5 j6 : Nat} {q1 q2 q3 q4 q5 q6 pd : Pos} (hi : X.N[i]? = some x) (hv : Vis X.env.scope x) (hd : (x == ("__debug__" : Str)) = false) (hcd : (x == ("__classdict__" : Str)) = false) (he : PE X e (tE P (wE E) (evE Γ ee))) :
    PS X (.Return (some (.Dict [some (.Constant (.str "great") j1 q1), some (.Constant (.str "cells") j2 q2), some (.Constant (.str "left") j3 q3), some (.Constant (.str "turn") j4 q4)] [.Name x px, e, .Constant (.int 0) j5 q5, .Constant (.int 0) j6 q6] pd)) pos) (tS P E (exS Γ (.mkst i ee))) :=
  (ps_ret (pe_disp (pps_cons pe_str (pe_var hi hv hd hcd) (pps_cons pe_str he (pps_cons pe_str pe_int (pps_cons pe_str pe_int pps_nil)))) rfl rfl (by simp) (by simp))).imp fun D σ H ⟨He, Ge, G, ρ, μ, A, e, w, sl, h, o⟩ => by
    simp only [exS] at h
    split at h
    · rename_i us hρ
      split at h
      · rename_i gs hgs
        intro p hp
        have e1 : Ext H G (upd H p (.dK [])) G := Ext.newL w hp
        have w1 : Wf P G μ (upd H p (.dK [])) := w.newL hp
        have s1 := sl.ext w e1
        have pF := w.noF hp
        have pm := w.nomem hp
        obtain ⟨g, ys, z1, z2, z3, z4, z5, z6⟩ := s1.ow i us hρ
        have gp : g ≠ p := fun z => by rw [z, upd_same] at z2; cases z2
        refine ⟨.ref g, z1, ⟨He, G, ρ, μ, _, A.xx, w1, s1, h, fun G2 μ2 H2 v y e2 w2 r2 h2 => ?_, (o.xx.ext e).ext e1⟩⟩
        dsimp only at h2
        split at h2
        · rename_i ws
          split at h2
          · rename_i cs hcs
            obtain ⟨c, xs, rfl, c2, c3, c4, c5, c6⟩ := r2
            have hp2 : H2 p = some (.dK []) := e2.fr p _ upd_same pm (fun _ z => nomatch z)
            have hg2 : H2 g = some (.lst (gs.map V.int)) := by
              have := e2.fr g _ z2 z5 (fun _ z => nomatch z)
              rw [this, z3.ints hgs]
            have pF2 : G2.F p = none := e2.noF pF upd_same
            have pm2 : p ∉ G2.m.flatten := e2.nom pm upd_same
            have gF2 : G2.F g = none := e2.noF z4 z2
            have gm2 : g ∉ G2.m.flatten := e2.nom z5 z2
            have ec : c ≠ p := fun z => by rw [z, upd_same] at c6; cases c6
            have ecg : c ≠ g := fun z => by rw [z, z2] at c6; cases c6
            have hpe : He p = none := e.dm p hp
            have hce : He c = none := e.dm c (by
              have := c6
              rw [upd_ne ec] at this
              exact this)
            -- the cells are let be
            obtain ⟨f1, f2, f3, f4⟩ := freezeAt w2 (e1.trans e2) c2 c3 c4 c5 (by
              have := c6
              rw [upd_ne ec] at this
              exact this)
            have offF : ∀ {b : Addr}, b ≠ c → G2.F b = none → (G2.put c (.lst xs)).F b = none := fun ne hb => (show upd G2.F c (.lst xs) _ = none by rw [upd_ne ne]; exact hb)
            have pF3 := offF (Ne.symm ec) pF2
            have gF3 := offF (Ne.symm ecg) gF2
            refine ⟨hp2, [(Sum.inr "great", .ref g), (Sum.inr "cells", .ref c), (Sum.inr "left", .int 0), (Sum.inr "turn", .int 0)], rfl, by simp, ?_⟩
            have em : mergeK [] [((Sum.inr "great" : Key), V.ref g), (Sum.inr "cells", .ref c), (Sum.inr "left", .int 0), (Sum.inr "turn", .int 0)] = stKV g c 0 0 := by simp (decide := true) [mergeK, stKV, putK]
            rw [em]
            let G4 : Wd := ⟨(G2.put c (.lst xs)).F, G2.m ++ [[p, g]], G2.me⟩
            have flat : ∀ {b : Addr}, b ∈ G4.m.flatten → b ∈ G2.m.flatten ∨ b = p ∨ b = g := fun {b} hb => by
              have hb' : b ∈ (G2.m ++ [[p, g]]).flatten := hb
              rw [List.flatten_append, List.mem_append] at hb'
              rcases hb' with hb' | hb'
              · exact .inl hb'
              · simp at hb'
                exact .inr hb'
            have neF : ∀ {b o'}, (G2.put c (.lst xs)).F b = some o' → b ≠ p := fun {b o'} hb z => by rw [z, pF3] at hb; cases hb
            have lenm := f2.len
            refine o.rt G4 (μ2 ++ [.st gs cs 0 0]) _ (.obj μ2.length) (.ref p) ?_ ?_ (.of (.obj (r := [g]) ?_)) h2
            · refine ⟨fun b o' hb => f1.le b o' (e.le b o' hb), fun b o' hb => ?_, fun b o' hb hn nt => ?_, fun b hb => ?_, fun k b r hb => ?_, fun b hb => ?_, f1.me.trans e.me⟩
              · rcases f1.nw b o' hb with q | q
                · exact e.nw b o' q
                · exact .inr (e.dm b q)
              · have q := (e.trans f1).fr b o' hb hn nt
                have ne : b ≠ p := fun z => by rw [z, hpe] at hb; cases hb
                rw [upd_ne ne]
                exact q
              · by_cases z : b = p
                · rw [z]; exact hpe
                · rw [upd_ne z] at hb
                  exact (e.trans f1).dm b hb
              · obtain ⟨r', q⟩ := (e.trans f1).mm k b r hb
                refine ⟨r', ?_⟩
                show (G2.m ++ [[p, g]])[k]? = _
                have q' : G2.m[k]? = some (b :: r') := q
                rw [List.getElem?_append_left (List.getElem?_eq_some_iff.mp q').1]
                exact q'
              · rcases flat hb with q | q | q
                · exact (e.trans f1).mf b q
                · rw [q]; exact .inr hpe
                · rw [q]; exact .inr z6
            · refine ⟨fun b o' hb => ?_, fun b hb => ?_, ?_, fun k mo fp h1 h2 => ?_, fun a b fp fq ne h1 h2 => ?_, fun j b q hj => ?_⟩
              · rw [upd_ne (neF hb)]
                exact f2.sub b o' hb
              · rcases flat hb with q | q | q
                · obtain ⟨q1, q2⟩ := f2.mF b q
                  have ne : b ≠ p := fun z => pm2 (by rw [← z]; exact q)
                  exact ⟨q1, by rw [upd_ne ne]; exact q2⟩
                · rw [q]
                  exact ⟨pF3, by rw [upd_same]; exact fun z => nomatch z⟩
                · rw [q]
                  exact ⟨gF3, by rw [upd_ne gp, hg2]; exact fun z => nomatch z⟩
              · show (G2.m ++ [[p, g]]).length = _
                have lenm' : G2.m.length = μ2.length := lenm
                simp [lenm']
              · have lenm' : G2.m.length = μ2.length := lenm
                have h2 : (G2.m ++ [[p, g]])[k]? = some fp := h2
                by_cases hk : k < μ2.length
                · rw [List.getElem?_append_left hk] at h1
                  rw [List.getElem?_append_left (by rw [lenm']; exact hk)] at h2
                  have q := MoOk.keep' (H' := upd H2 p (.dK (stKV g c 0 0))) (f2.ob k mo fp h1 h2) fun b hb => upd_ne fun z => pm2 (by rw [← z]; exact mem_flat h2 hb)
                  cases mo with
                  | st a1 a2 a3 a4 => exact q
                  | tb n => exact q
                  | bx us =>
                    obtain ⟨b, zs, q1, q2, q3⟩ := q
                    have L4 : Le (G2.put c (.lst xs)) G4 := ⟨fun _ _ z => z, fun k a r h => ⟨r, by
                      show (G2.m ++ [[p, g]])[k]? = _
                      have h' : G2.m[k]? = some (a :: r) := h
                      rw [List.getElem?_append_left (List.getElem?_eq_some_iff.mp h').1]
                      exact h'⟩⟩
                    exact ⟨b, zs, q1, q2, q3.le' L4⟩
                · rw [List.getElem?_append_right (by omega)] at h1
                  rw [List.getElem?_append_right (by omega)] at h2
                  have ek : k - μ2.length = 0 := by
                    have := (List.getElem?_eq_some_iff.mp h1).1
                    simp at this
                    omega
                  rw [ek] at h1
                  rw [lenm', ek] at h2
                  cases h1
                  cases h2
                  refine ⟨p, g, c, rfl, upd_same, by rw [upd_ne gp]; exact hg2, ?_, Ne.symm gp⟩
                  show upd G2.F c (.lst xs) c = _
                  rw [upd_same, c3.ints hcs]
              · have lenm' : G2.m.length = μ2.length := lenm
                have h1 : (G2.m ++ [[p, g]])[a]? = some fp := h1
                have h2 : (G2.m ++ [[p, g]])[b]? = some fq := h2
                have last : ∀ {k : Nat} {fz : List Addr}, (G2.m ++ [[p, g]])[k]? = some fz → G2.m[k]? = some fz ∨ (k = G2.m.length ∧ fz = [p, g]) := fun {k fz} hk => by
                  by_cases q : k < G2.m.length
                  · rw [List.getElem?_append_left q] at hk
                    exact .inl hk
                  · rw [List.getElem?_append_right (by omega)] at hk
                    have ek : k - G2.m.length = 0 := by
                      have := (List.getElem?_eq_some_iff.mp hk).1
                      simp at this
                      omega
                    rw [ek] at hk
                    cases hk
                    exact .inr ⟨by omega, rfl⟩
                have notin : ∀ {k : Nat} {fz : List Addr} {b : Addr}, G2.m[k]? = some fz → b ∈ fz → b ≠ p ∧ b ≠ g := fun hk hb => ⟨fun z => pm2 (by rw [← z]; exact mem_flat hk hb), fun z => gm2 (by rw [← z]; exact mem_flat hk hb)⟩
                intro y hy1 hy2
                rcases last h1 with q1 | ⟨q1, rfl⟩
                · rcases last h2 with q2 | ⟨q2, rfl⟩
                  · exact f2.dj a b fp fq ne q1 q2 y hy1 hy2
                  · obtain ⟨n1, n2⟩ := notin q1 hy1
                    simp at hy2
                    rcases hy2 with z | z
                    · exact n1 z
                    · exact n2 z
                · rcases last h2 with q2 | ⟨q2, _⟩
                  · obtain ⟨n1, n2⟩ := notin q2 hy2
                    simp at hy1
                    rcases hy1 with z | z
                    · exact n1 z
                    · exact n2 z
                  · exact ne (q1.trans q2.symm)
              · obtain ⟨h1, h2⟩ := f2.tb j b q hj
                have h1 : G2.m[j]? = some [b] := h1
                refine ⟨?_, ?_⟩
                · show (G2.m ++ [[p, g]])[j]? = _
                  rw [List.getElem?_append_left (List.getElem?_eq_some_iff.mp h1).1]
                  exact h1
                · rw [List.getElem?_append_left (List.getElem?_eq_some_iff.mp h2).1]
                  exact h2
            · show (G2.m ++ [[p, g]])[μ2.length]? = some [p, g]
              have lenm' : G2.m.length = μ2.length := lenm
              rw [← lenm', List.getElem?_append_right (Nat.le_refl _)]
              simp
          · exact h2.elim
        · exact h2.elim
      · exact h.elim
    · exact h.elim
end
end Mi
end

section
-- MiniLP
set_option Elab.async false
set_option linter.all false
set_option maxRecDepth 100000
set_option maxHeartbeats 4000000
/-! Mini, part LP: a lambda that has perhaps one parameter, of a number as default -/
namespace Mi
open PySem PySem.Spec PyProof.Rows L2
/-- kept over two entries: the frames that came meanwhile are new -/
theorem un_two {fs fs1 : List Addr} {H H1 H2 : Hp} {h h1 h2 : Heap} (a : Un fs [] H H1 h h1) (b : Un fs1 [] H1 H2 h1 h2) (nw : ∀ x ∈ fs1, x ∈ fs ∨ h.get? x = none) : Un fs [] H H2 h h2 where
  keep := fun x o e n hx _ => by
    refine b.keep x o (a.keep x o e n hx (by simp)) (a.free x o e n (by simp)) (fun z => ?_) (by simp)
    rcases nw x z with q | q
    · exact hx q
    · rw [q] at e; cases e
  slot := fun x o e n hx _ => by
    obtain ⟨sl, e1⟩ := a.slot x o e n hx (by simp)
    obtain ⟨sl2, e2⟩ := b.any e1 (a.free x o e n (by simp)) (by simp)
    exact ⟨sl2, e2⟩
  free := fun x o e n _ => by
    obtain ⟨o', e1⟩ := a.there x o e (by simp)
    exact b.free x o' e1 (a.free x o e n (by simp)) (by simp)
  there := fun x o e _ => by
    obtain ⟨o', e1⟩ := a.there x o e (by simp)
    exact b.there x o' e1 (by simp)
  tups := fun x xs e => b.tups x xs (a.tups x xs e)
  frzs := fun x o u e => b.frzs x o u (a.frzs x o u e)
  tbls := fun x ps e => by
    obtain ⟨m1, e1⟩ := a.tbls x ps e
    obtain ⟨m2, e2⟩ := b.tbls x _ e1
    exact ⟨m1 ++ m2, by rw [e2]; simp⟩
/-- the head of a lambda that is called with nothing -/
inductive DfP : Arguments → List Str → Prop
  | none : DfP ⟨[], [], none, [], [], none, []⟩ []
  | one (a : PySem.Arg) (n : Int) (j : Nat) (p : Pos) : DfP ⟨[], [a], none, [], [], none, [.Constant (.int n) j p]⟩ [a.arg]
abbrev lmF (q : Str) (params : Arguments) (body : Expr) (scope : Scope) (cl : List (Str × Addr)) (pm cv ctv dV : Value) : FuncData := { PySem.W.kla_fn "<lambda>" q params body scope cl pm cv ctv with defaults := dV }
abbrev lmO (q : Str) (params : Arguments) (body : Expr) (scope : Scope) (cl : List (Str × Addr)) (pm : Value) (c' : Addr) (ctv dV : Value) : Obj := { cls := .type "function", data := .func (lmF q params body scope cl pm (.ref c') ctv dV) }
section
variable {M : Model} {A : Around} {E : Value → Shared → Prop} {s : Shared} {qual : Str} {params : Arguments} {body : Expr} {scope : Scope} {env : PySem.Env} {c Pa : Addr} {ps : Array Value} {pos : Pos} {ln : Nat} {mg : Str → Option Value} {cl : List (Str × Addr)} {dV : Value} {Q : Value → Shared → Prop}
theorem tail_new (k1 : closureFor scope env = pure cl) (k2 : env.globals = mainGlobals) (k3 : s.heap.Ns mainGlobals mg) (k4 : env.code = .ref c) (k5 : PySem.W.CodeHd s.heap c Pa) (k6 : s.heap.get? Pa = some (PySem.W.tabObj ps)) (k7 : TriplesOk ps.toList)
    (k8 : codeAmong pos ps.toList = none) (k9 : mainGlobals ≠ Pa) (kb : s.heap.BuiltinsAt mg Pa)
    (h : ∀ c' ctv h' tk, Heap.ExtBut Pa s.heap h' → s.heap.objs.size ≤ c' → c' < h'.objs.size → h'.CodeRec (.ref c') qual → h'.get? Pa = some (PySem.W.tabObj (ps ++ #[rawInt pos.line, rawInt pos.col, .ref c'])) →
      Q (.ref h'.objs.size) { s with heap := h'.push (lmO qual params body scope cl ((mg "__name__").getD .none) c' ctv dV), toks := tk }) :
    wpAny M A (makeTail "<lambda>" qual params (.expr body) scope env dV .none none pos ln) Q E s := by
  obtain ⟨bm, ob, b1, b2, _, b3, b4, b5, b6, b7⟩ := kb
  unfold makeTail
  rw [k1, k2]
  refine wpAny_bind (wpAny_pure ?_)
  cases cl with
  | nil =>
    simp only [List.isEmpty_nil, if_true]
    refine wpAny_bind (wpAny_pure (wpAny_bind (wpAny_functionCodeX k4 (k5.code k6 k7) (k5.tab k6) k8 fun c' h' tk hx hge hlt _ hrec htb _ => ?_)))
    refine wpAny_bind (wpAny_builtinsFor (k3.extBut hx k9) b1 b2 (hx _ _ b3 b4) b5 b6 b7 (wpAny_bind (wpAny_nsGet (k3.extBut hx k9) ?_)))
    exact wpAny_bind (wpAny_pure (wpAny_newObj_type (h c' .none h' tk hx hge hlt hrec htb.2) (by size_fits)))
  | cons q r =>
    simp only [List.isEmpty_cons, Bool.false_eq_true, if_false]
    have kk : ∀ b o, s.heap.get? b = some o → (s.heap.push (PySem.W.kdv_tup (((q :: r).mergeSort fun a b => a.1.cps.toList ≤ b.1.cps.toList).map (.ref ·.2)))).get? b = some o := fun b o e => Heap.get?_push_of_some _ e
    refine wpAny_bind (wpAny_newTextTuple (wpAny_bind (wpAny_functionCodeX k4 ((k5.keeps kk).code (kk _ _ k6) k7) ((k5.keeps kk).tab (kk _ _ k6)) k8 fun c' h' tk hx hge hlt _ hrec htb _ => ?_)))
    have gx := (k3.push _).extBut hx k9
    have xx : Heap.ExtBut Pa s.heap h' := fun b o nb e => hx b o nb (kk b o e)
    have ge : s.heap.objs.size ≤ c' := Nat.le_trans (by rw [Heap.size_push]; omega) hge
    refine wpAny_bind (wpAny_builtinsFor gx b1 b2 (xx _ _ b3 b4) b5 b6 b7 (wpAny_bind (wpAny_nsGet gx ?_)))
    exact wpAny_bind (wpAny_pure (wpAny_newObj_type (h c' _ h' tk xx ge hlt hrec htb.2) (by size_fits)))
theorem tail_hit {c' : Addr} (k1 : closureFor scope env = pure cl) (k2 : env.globals = mainGlobals) (k3 : s.heap.Ns mainGlobals mg) (k4 : env.code = .ref c) (k5 : PySem.W.CodeHd s.heap c Pa) (k6 : s.heap.get? Pa = some (PySem.W.tabObj ps)) (k7 : TriplesOk ps.toList)
    (k8 : codeAmong pos ps.toList = some (.ref c')) (kb : s.heap.BuiltinsAt mg Pa)
    (h : ∀ (ctv : Value) (h' : Heap) (tk : Tok), (∀ b o, s.heap.get? b = some o → h'.get? b = some o) → s.heap.objs.size ≤ h'.objs.size → Q (.ref h'.objs.size) { s with heap := h'.push (lmO qual params body scope cl ((mg "__name__").getD .none) c' ctv dV), toks := tk }) :
    wpAny M A (makeTail "<lambda>" qual params (.expr body) scope env dV .none none pos ln) Q E s := by
  obtain ⟨bm, ob, b1, b2, _, b3, b4, b5, b6, b7⟩ := kb
  unfold makeTail
  rw [k1, k2]
  refine wpAny_bind (wpAny_pure ?_)
  cases cl with
  | nil =>
    simp only [List.isEmpty_nil, if_true]
    refine wpAny_bind (wpAny_pure (wpAny_bind (wpAny_functionCode_hit k4 (k5.code k6 k7) k8 ?_)))
    refine wpAny_bind (wpAny_builtinsFor k3 b1 b2 b4 b5 b6 b7 (wpAny_bind (wpAny_nsGet k3 ?_)))
    exact wpAny_bind (wpAny_pure (wpAny_newObj_type (h .none s.heap s.toks (fun _ _ e => e) (Nat.le_refl _)) (by size_fits)))
  | cons q r =>
    simp only [List.isEmpty_cons, Bool.false_eq_true, if_false]
    have kk : ∀ b o, s.heap.get? b = some o → (s.heap.push (PySem.W.kdv_tup (((q :: r).mergeSort fun a b => a.1.cps.toList ≤ b.1.cps.toList).map (.ref ·.2)))).get? b = some o := fun b o e => Heap.get?_push_of_some _ e
    refine wpAny_bind (wpAny_newTextTuple (wpAny_bind (wpAny_functionCode_hit k4 ((k5.keeps kk).code (kk _ _ k6) k7) k8 ?_)))
    refine wpAny_bind (wpAny_builtinsFor (k3.push _) b1 b2 (kk _ _ b4) b5 b6 b7 (wpAny_bind (wpAny_nsGet (k3.push _) ?_)))
    have hz : ∀ oT : Obj, s.heap.objs.size ≤ (s.heap.push oT).objs.size := fun oT => by rw [Heap.size_push]; omega
    exact wpAny_bind (wpAny_pure (wpAny_newObj_type (h _ _ s.toks kk (hz _)) (by size_fits)))
/-- what binds: nothing, or the one default -/
theorem bind_df {a : PySem.Arg} {n : Int} {j : Nat} {p : Pos} {q : Str} {pm cv ctv v : Value} {t : Addr} {o : Obj} {s2 : Shared} {m : Nat} (ho : s2.heap.get? t = some o) (hd : o.data = .seq #[v] m) :
    BindsTo s2 (lmF q ⟨[], [a], none, [], [], none, [.Constant (.int n) j p]⟩ body scope cl pm cv ctv (.ref t)) ⟨[], []⟩ [(a.arg, v)] := by
  intro M A E Q hq
  unfold bindArgs
  simp only [List.map_cons, List.map_nil, List.nil_append, List.append_nil, List.zip_nil_right, List.forIn_nil, pure_bind, List.length_cons, List.length_nil]
  refine wpAny_bind (wpAny_seqItems ho hd ?_)
  simp
  exact wpAny_pure hq
end
/-- the lambda's names: its parameters, captured ones, globals -/
structure LamP (sc scope : Scope) (qs N : List Str) : Prop where
  kind : scope.kind = .function
  co : scope.isCoroutine = false
  gen : scope.isGenerator = false
  noc : ∀ y ∈ scope.names, y.2 ≠ .cell
  loc : ∀ y ∈ scope.names, y.2 = .local → y.1 ∈ qs
  par : ∀ q ∈ qs, scope.names.lookup q = some .local
  out : ∀ q ∈ qs, q ∉ N
  free : ∀ y ∈ scope.names, y.2 = .free → sc.names.lookup y.1 = some .cell ∨ sc.names.lookup y.1 = some .free
def lamPB (sc scope : Scope) (qs N : List Str) : Bool :=
  decide (scope.kind = .function) && (!scope.isCoroutine && (!scope.isGenerator && ((scope.names.all fun y => !decide (y.2 = .cell) && ((!decide (y.2 = .local) || decide (y.1 ∈ qs)) && (!decide (y.2 = .free) || (decide (sc.names.lookup y.1 = some .cell) || decide (sc.names.lookup y.1 = some .free))))) && (qs.all fun q => decide (scope.names.lookup q = some .local) && decide (q ∉ N)))))
theorem lamPB_ok {sc scope : Scope} {qs N : List Str} (h : lamPB sc scope qs N = true) : LamP sc scope qs N := by
  unfold lamPB at h
  simp only [Bool.and_eq_true, Bool.or_eq_true, Bool.not_eq_true', decide_eq_true_eq, decide_eq_false_iff_not, List.all_eq_true] at h
  obtain ⟨h1, h2, h3, h4, h5⟩ := h
  exact ⟨h1, h2, h3, fun y hy => (h4 y hy).1, fun y hy e => (h4 y hy).2.1.resolve_left fun z => z e, fun q hq => (h5 q hq).1, fun q hq => (h5 q hq).2, fun y hy e => (h4 y hy).2.2.resolve_left fun z => z e⟩
theorem LamP.has {X : Cx} {scope : Scope} {qs N : List Str} (L : LamP X.env.scope scope qs N) (ok : X.Ok) : ∀ y ∈ scope.names, y.2 = .free → ∃ c, X.env.cells.lookup y.1 = some c := fun y hy e =>
  (L.free y hy e).elim (fun k => ok.has _ (.inl k)) fun k => ok.has _ (.inr k)
section
variable {X : Cx} {pins : List (Addr × Obj)} {σ : L2.St} {H HZ : Hp} {s s1 : Shared}
theorem lam_startP {A : Around} {outer : List PySem.Env} {E : XK} {scope : Scope} {f c' : Addr} {h₁ : Heap} {tk : Nat} {qs : List Str} {binds : List (Str × Value)} (I : Inv X pins σ H s) (L : LamP X.env.scope scope qs X.N) (e0 : Env0 X.prog X.w X.K X.mg X.base A outer s1 HZ) (hd : A.handled = none)
    (un : Un (frs X.stack) [] H HZ s.heap s1.heap) (hns : h₁.Ns s1.heap.objs.size fun y => binds.reverse.lookup y) (kp : ∀ b o, s1.heap.get? b = some o → h₁.get? b = some o) :
    Inv (LamX.lamCx X A outer s1 HZ E scope f c') [] σ HZ { s1 with heap := h₁, toks := tk } := by
  have capt := L.has I.ok
  have back : ∀ {y c}, (cloFrom X.env.cells scope.names []).lookup y = some c → X.env.cells.lookup y = some c := by
    intro y c e
    rcases cloFrom_mem (PySem.mem_of_lookup e) with hm | ⟨h1, h2⟩
    · cases hm
    · obtain ⟨c1, hc⟩ := capt _ h1 rfl
      have hc : X.env.cells.lookup y = some c1 := hc
      rw [h2, hc] <;> rfl
  have there : ∀ {y}, scope.names.lookup y = some .free → ∃ c, (cloFrom X.env.cells scope.names []).lookup y = some c := by
    intro y hl
    exact mem_lookup (cloFrom_has (cells := X.env.cells) (acc := []) (PySem.mem_of_lookup hl))
  have stays : ∀ {c : Addr} {v : Option Value}, H c = none → s.heap.IsCell c v → h₁.IsCell c v := by
    rintro c v n ⟨o, ho, hdt⟩
    obtain ⟨sl, q⟩ := un.any ho n (by simp)
    exact ⟨_, kp _ _ q, hdt⟩
  have none' : ∀ b : Addr, b ∉ (LamX.lamCx X A outer s1 HZ E scope f c').ex := fun b z => by cases (show b ∈ ([] : List Addr) from z)
  have ok : (LamX.lamCx X A outer s1 HZ E scope f c').Ok := by
    refine ⟨e0.mod, L.kind, rfl, rfl, Nat.le_refl _, fun y z c a1 a2 => I.ok.inj y z c (back a1) (back a2), fun y hy => ?_, fun y c z _ => ?_, fun _ => hd, Around.frames_deeper e0.frames, .inr ⟨rfl, rfl⟩, fun b z => absurd z (none' b), e0.bs, e0.bsz, fun b _ _ => none' b, fun b z => absurd z (none' b), e0.funs, e0.frf⟩
    · have hy : scope.names.lookup y = some .cell ∨ scope.names.lookup y = some .free := hy
      exact hy.elim (fun k => absurd rfl (L.noc _ (PySem.mem_of_lookup k))) there
    · exact Bool.noConfusion (show false = true from z)
  refine ⟨ok, rfl, e0.bare, Un.kept kp, ⟨_, hns, fun i y v a1 a2 a3 => ?_⟩, fun y c e => ?_, e0.hok.fresh (Nat.le_refl _), fun y c e => ?_, (fun q hq => nomatch (show q ∈ ([] : List (Addr × Obj)) from hq)), e0.hok.kept kp, I.len⟩
  · have a3 : Vis scope y := a3
    rcases a3 with k | k | k
    · exact absurd (List.mem_of_getElem? a1) (L.out y (L.loc _ (PySem.mem_of_lookup k) rfl))
    · exact absurd rfl (L.noc _ (PySem.mem_of_lookup k))
    · obtain ⟨m, hn, hl⟩ := I.loc
      have mem := PySem.mem_of_lookup k
      have vis : Vis X.env.scope y := (L.free _ mem rfl).elim (fun k => .inr (.inl k)) (fun k => .inr (.inr k))
      obtain ⟨w', r, q⟩ := hl i y v a1 a2 vis
      obtain ⟨c2, h2⟩ := there k
      refine ⟨w', r, .inr ⟨.inr k, c2, h2, ?_⟩⟩
      have c1 := back h2
      rcases q with ⟨k', _⟩ | ⟨_, c3, e', z⟩
      · have k' : X.env.scope.names.lookup y = some .local := k'
        rcases L.free _ mem rfl with k2 | k2 <;> (have k2 : X.env.scope.names.lookup y = _ := k2; rw [k2] at k'; cases k')
      · rw [c1] at e'
        cases e'
        exact stays (I.freeC y _ c1) z
  · obtain ⟨w', z⟩ := I.cell y c (back e)
    exact ⟨w', stays (I.freeC y c (back e)) z⟩
  · obtain ⟨v, o, ho, hdt⟩ := I.cell y c (back e)
    exact un.free c o ho (I.freeC y c (back e)) (by simp)
/-- what is not ours stays -/
def KeptOf (H : Hp) (fs : List Addr) (h h2 : Heap) : Prop := ∀ b o, h.get? b = some o → H b = none → b ∉ fs → h2.get? b = some o
/-- the making -/
theorem lam_make7 {c Pa : Addr} {ps : Array Value} {params : Arguments} {body : Expr} {scope : Scope} {pos : Pos} {qs N : List Str} {E : Value → Shared → Prop} {Q : Value → Shared → Prop} (I : Inv X pins σ H s) (TB : LamX.TabB X.base X.mg c Pa) (hcode : X.env.code = .ref c)
    (hT : TabAt H Pa (X.env.qual ++ "<lambda>") ps) (hp : DfP params qs) (L : LamP X.env.scope scope qs N)
    (h : ∀ (f c' : Addr) (pm ctv dV : Value) (binds : List (Str × Value)) (H1 : Hp) (s' : Shared), Inv X pins σ H1 s' → TabStep H Pa (X.env.qual ++ "<lambda>") ps H1 →
      s'.heap.get? f = some (lmO (X.env.qual ++ "<lambda>") params body scope (cloFrom X.env.cells scope.names []) pm c' ctv dV) → H1 f = none → f ∉ frs X.stack → H1 c' = some (LamX.CodeO c' (X.env.qual ++ "<lambda>")) → binds.map (·.1) = qs →
      (∀ s2 : Shared, KeptOf H1 (frs X.stack) s'.heap s2.heap → BindsTo s2 (lmF (X.env.qual ++ "<lambda>") params body scope (cloFrom X.env.cells scope.names []) pm (.ref c') ctv dV) ⟨[], []⟩ binds) → Q (.ref f) s') :
    wpAny (model X.prog X.w) X.A (eval (.Lambda params body scope pos) X.env) Q E s := by
  obtain ⟨hP, ht, ha⟩ := hT
  have hfree := L.has I.ok
  -- from any state that has as much
  have go : ∀ (s1 : Shared) (dV : Value) (binds : List (Str × Value)), Inv X pins σ H s1 → (∀ s2 : Shared, KeptOf H (frs X.stack) s1.heap s2.heap → ∀ pm cv ctv, BindsTo s2 (lmF (X.env.qual ++ "<lambda>") params body scope (cloFrom X.env.cells scope.names []) pm cv ctv dV) ⟨[], []⟩ binds) → binds.map (·.1) = qs →
      wpAny (model X.prog X.w) X.A (makeTail "<lambda>" (X.env.qual ++ "<lambda>") params (.expr body) scope X.env dV .none none pos pos.line) Q E s1 := by
    intro s1 dV binds I1 hb hq
    have bltP : s1.heap.BuiltinsAt X.mg Pa := TB.bm.keeps I1.bk
    have tabP : s1.heap.get? Pa = some { cls := .none, data := .fields ps } := I1.hok Pa _ hP
    have outF : ∀ f, s1.heap.objs.size ≤ f → f ∉ frs X.stack := fun f hf z => by
      rcases List.mem_cons.mp (I1.stkSub _ z) with e | e
      · have h1 := I1.lt
        rw [← e] at h1
        exact absurd (Nat.lt_of_lt_of_le h1 hf) (Nat.lt_irrefl _)
      · exact I1.nofs hf e
    cases hc : codeAmong pos ps.toList with
    | some cv =>
      obtain ⟨c', rfl, hco⟩ := ha pos cv hc
      refine tail_hit (mg := X.mg) (c := c) (Pa := Pa) (ps := ps) (closure_ok hfree) I1.ok.glob (I1.mod.glob.keeps I1.bk) hcode (TB.code.keeps I1.bk) tabP ht hc bltP fun ctv h' tk hx hsz => ?_
      refine h h'.objs.size c' ((X.mg "__name__").getD .none) ctv dV binds H _ (I1.kept fun b o e => Heap.get?_push_of_some _ (hx b o e)) (.inl rfl) (Heap.get?_push_size _ rfl) (I1.hok.fresh hsz) (outF _ hsz) hco hq fun s2 hk => hb s2 (fun b o e n m => hk b o (Heap.get?_push_of_some _ (hx b o e)) n m) _ _ _
    | none =>
      refine tail_new (mg := X.mg) (c := c) (Pa := Pa) (ps := ps) (closure_ok hfree) I1.ok.glob (I1.mod.glob.keeps I1.bk) hcode (TB.code.keeps I1.bk) tabP ht hc TB.gP bltP fun c' ctv h' tk hx hge hlt hrec htb => ?_
      obtain ⟨c2, oc, vs, t, e2, hoc, hd, hv⟩ := hrec
      cases e2
      have grown : s1.heap.objs.size ≤ h'.objs.size := Nat.le_trans hge (Nat.le_of_lt hlt)
      have newC : H c' = none := I1.hok.fresh hge
      have eL : (ps ++ #[rawInt pos.line, rawInt pos.col, .ref c']).toList = ps.toList ++ [rawInt pos.line, rawInt pos.col, .ref c'] := by simp
      refine h h'.objs.size c' ((X.mg "__name__").getD .none) ctv dV binds _ _ (LamX.inv_table (t' := tk) (more := #[rawInt pos.line, rawInt pos.col, .ref c']) (h' := h'.push (lmO (X.env.qual ++ "<lambda>") params body scope (cloFrom X.env.cells scope.names []) ((X.mg "__name__").getD .none) c' ctv dV)) I1 hP
        (fun b o hb e => Heap.get?_push_of_some _ (hx b o hb e)) (Heap.get?_push_of_some _ htb) hge ⟨oc, vs, t, Heap.get?_push_of_some _ hoc, hd, hv⟩) (.inr ⟨c', _, newC, by rw [eL]; exact PySem.TriplesOk_snoc _ _ _ _ ht, fun p' cv hcv => ?_, rfl⟩) (Heap.get?_push_size _ rfl) ?_ (outF _ grown) upd_same hq fun s2 hk => hb s2 (fun b o e n m => ?_) _ _ _
      · rw [eL] at hcv
        exact LamX.among_app _ ht hcv
      · rw [upd_ne (Nat.ne_of_gt hlt), upd_ne (Nat.ne_of_gt (Nat.lt_of_lt_of_le (Heap.lt_size tabP) grown))]
        exact I1.hok.fresh grown
      · have nP : b ≠ Pa := fun z => by rw [z, hP] at n; cases n
        have nc : b ≠ c' := fun z => by
          rw [z] at e
          exact Nat.lt_irrefl _ (Nat.lt_of_lt_of_le (Heap.lt_size e) hge)
        exact hk b o (Heap.get?_push_of_some _ (hx b o nP e)) (by rw [upd_ne nc, upd_ne nP]; exact n) m
  rw [arm_eval_Lambda]
  cases hp with
  | none =>
    show wpAny _ _ (do let dv ← evalAll []; let kdv ← holding dv (evalAllOpt []); makeFunction "<lambda>" (X.env.qual ++ "<lambda>") ⟨[], [], .none, [], [], .none, []⟩ (.expr body) scope X.env dv kdv [] pos pos.line) _ _ _
    refine wpAny_bind (wpAny_pure (wpAny_bind (wpAny_holding (wpAny_pure ?_))))
    rw [makeFunction_eq]
    simp only [List.zip_nil_right, List.filterMap_nil, List.isEmpty_nil, if_true, pure_bind]
    exact go s .none [] I (fun s2 _ pm cv ctv => .of_eq rfl) rfl
  | one a n j p =>
    show wpAny _ _ (do let dv ← evalAll [eval (.Constant (.int n) j p) X.env]; let kdv ← holding dv (evalAllOpt []); makeFunction "<lambda>" (X.env.qual ++ "<lambda>") ⟨[], [a], .none, [], [], .none, [.Constant (.int n) j p]⟩ (.expr body) scope X.env dv kdv [] pos pos.line) _ _ _
    refine wpAny_bind ?_
    refine wpAny_bind (wpAny_Constant_int ?_)
    refine wpAny_bind (wpAny_holding (wpAny_pure (wpAny_pure (wpAny_bind (wpAny_holding (wpAny_pure ?_))))))
    rw [makeFunction_eq]
    simp only [List.zip_nil_right, List.filterMap_nil, List.isEmpty_nil, List.isEmpty_cons, Bool.false_eq_true, if_false, if_true, pure_bind]
    refine wpAny_bind (wpAny_newTextTuple ?_)
    have new : s.heap.objs.size ∉ frs X.stack := fun z => by
      rcases List.mem_cons.mp (I.stkSub _ z) with e | e
      · exact absurd I.lt (by rw [← e]; exact Nat.lt_irrefl _)
      · exact I.nofs (Nat.le_refl _) e
    exact go _ (.ref s.heap.objs.size) [(a.arg, .int n s.toks)] (I.kept fun b o e => Heap.get?_push_of_some _ e) (fun s2 hk pm cv ctv => bind_df (hk _ _ (Heap.get?_push_size _ rfl) (I.hok.fresh (Nat.le_refl _)) new) rfl) rfl
/-- x(), two defs behind the lambda's maker -/
theorem act_P {CXg : CXT} {Eg : XK} {Ng : List Str} {qg : Str} {sg : Scope} {g f c' : Addr} {cdg pm ctv dV : Value} {params : Arguments} {body : Expr} {scope : Scope} {k i : Nat} {a : Str} {pn : List (Addr × Obj)} {xe : Value → Shared → Prop} {W : WX} {E : XK} {tb : TE} {p1 p2 : Pos} {A1 : Around} {st1 : List PySem.Env} {s1 : Shared} {H1 : Hp} {qs : List Str} {binds : List (Str × Value)}
    (I : Inv X pins σ H s) (L : LamP X.env.scope scope qs X.N) (hf : s1.heap.get? f = some (lmO (X.env.qual ++ "<lambda>") params body scope (cloFrom X.env.cells scope.names []) pm c' ctv dV)) (hfn : H1 f = none) (hfr : f ∉ frs st1)
    (un1 : Un (frs X.stack) [] H H1 s.heap s1.heap) (nw : ∀ x ∈ frs st1, x ∈ frs X.stack ∨ s.heap.get? x = none)
    (hq : binds.map (·.1) = qs) (hbind : ∀ s2 : Shared, KeptOf H1 (frs st1) s1.heap s2.heap → BindsTo s2 (lmF (X.env.qual ++ "<lambda>") params body scope (cloFrom X.env.cells scope.names []) pm (.ref c') ctv dV) ⟨[], []⟩ binds)
    (tk : Takes ((cxOf CXg X.prog X.w X.K X.mg X.base Ng qg sg g cdg A1 st1 s1 H1 Eg).tr pn xe) W) (hW : ∀ cls d σ' H', E cls d H' → W cls d σ' H') (hr : Room (k + 1) (A1.deeper (envOfC qg sg s1.heap.objs.size g cdg)))
    (hbody : ∀ (A : Around) (outer : List PySem.Env) (s : Shared) (H : Hp), Room k (A.deeper (LamX.lamEnv X scope s.heap.objs.size f c')) → PE (LamX.lamCx X A outer s H E scope f c') body tb)
    (hN : Ng[i]? = some a) (hv : Vis sg a) (hd : (a == ("__debug__" : Str)) = false) (hcd : (a == ("__classdict__" : Str)) = false) :
    PE ((cxOf CXg X.prog X.w X.K X.mg X.base Ng qg sg g cdg A1 st1 s1 H1 Eg).tr pn xe) (.Call (.Name a p1) [] [] p2)
      (fun σZ HZ Q => σZ[i]? = some (some (.ref f)) ∧ HZ c' = some (LamX.CodeO c' (X.env.qual ++ "<lambda>")) ∧ tb σ HZ Q) := by
  refine ⟨fun pinsZ sZ σZ HZ Q IZ ⟨hs, hc, ht⟩ => ?_⟩
  refine wpAny_Call_Name_kw (thn ((pe_var (pos := p1) (i := i) hN hv hd hcd).run pinsZ sZ σZ HZ (fun v H1 => v = .ref f ∧ H1 = HZ) IZ ⟨.ref f, hs, rfl, rfl⟩) fun u s2 ⟨v, H2, I2, r2, q2⟩ => ?_)
  obtain ⟨ev, eH⟩ := q2
  subst ev
  rw [eH] at I2
  obtain rfl : u = Value.ref f := r2
  have kp0 : KeptOf H1 (frs st1) s1.heap s2.heap := fun b o e n m => I2.base.keep b o e n m (fun z => by cases (show b ∈ ([] : List Addr) from z))
  have of1 := kp0 f _ hf hfn hfr
  refine PySem.W.callWith_F0 ⟨_, _, _, _, of1⟩ ?_
  have un : Un (frs X.stack) [] H HZ s.heap s2.heap := un_two un1 I2.base nw
  obtain ⟨⟨oc, vs, t, hoc, hdc, hvc⟩, _, _⟩ := I2.hok c' _ hc
  have rc : codeAny (model X.prog X.w) (A1.deeper (envOfC qg sg s1.heap.objs.size g cdg)) (.call (.ref f) ⟨[], []⟩) (CR (L2.CX X.prog X.w) (envOfC qg sg s1.heap.objs.size g cdg :: st1) X.prog X.w HZ s2 Q E) s2 := by
    refine PySem.W.kla_callFunE hr.depth of1 rfl L.co L.gen rfl ⟨c', oc, vs, t, rfl, hoc, hdc, hvc⟩ ?_
    refine hbind s2 kp0 _ _ _ _ (wpAny_newFunctionEnv (fun y hy => L.noc y hy) (fun y hy => L.par _ (by rw [← hq]; exact List.mem_map_of_mem hy)) (fun h₁ hns hsb => ⟨I2.nolimit.fresh _ hsb, ?_⟩) L.kind)
    show codeAny _ _ (.expr body (LamX.lamEnv X scope s2.heap.objs.size f c')) _ _
    have J : Inv (LamX.lamCx X (A1.deeper (envOfC qg sg s1.heap.objs.size g cdg)) (envOfC qg sg s1.heap.objs.size g cdg :: st1) s2 HZ E scope f c') [] σ HZ { s2 with heap := h₁, toks := s2.toks + binds.length } :=
      lam_startP I L I2.env0 hr.hd un hns fun b o e => hsb.extBut b o (Nat.ne_of_lt (Heap.lt_size e)) (Heap.get?_push_of_some _ e)
    refine PySem.W.kla_codeExpr (wpAny_mono ((hbody _ _ s2 HZ (hr.deeper _)).run [] _ _ HZ Q J ht) (fun v s' hq => ?_) fun e s' hq => hq)
    obtain ⟨w', H', J', rv, q⟩ := hq
    exact ⟨w', H', J'.os, J'.bare, J'.base, J'.hok, rv, q⟩
  have hx : Passes (L2.CX X.prog X.w) ((cxOf CXg X.prog X.w X.K X.mg X.base Ng qg sg g cdg A1 st1 s1 H1 Eg).tr pn xe) E := passes_call tk hW
  refine wpAny_call (codeAny_mono rc fun r s' hq => ?_)
  match r, hq with
  | .error e, hq => exact hx pinsZ σZ HZ s2 e s' I2 hq
  | .ok (.ret u), hq => exact I2.after hq
/-- x(lambda: body) -/
theorem pe_lamcallP {TT : (XK → Hp → VK → Prop) → Hp → VK → Prop} {x a : Str} {g c Pa : Addr} {k : Nat} {pg : Arguments} {bg : List Stmt} {sg : Scope} {dV kV doc pm cdv ct oc : Value} {an od : Option Addr} {osl : Array (Option Value)} {Ng : List Str} {qs : List Str}
    {params : Arguments} {body : Expr} {scope : Scope} {t : XK → TE} {p lpos pos : Pos} (hg : Gl X x) (hm : X.mg x = some (.ref g)) (hk : PySem.W.keepIn X.K (.ref g) = true)
    (lk : X.K.lookup g = some ⟨oc, od, .func (PySem.W.fnOf x x pg bg sg dV kV doc pm an cdv ct), osl⟩) (hcg : PySem.W.codeIn X.K cdv x = true) (hb : L2.Binds X.K (PySem.W.fnOf x x pg bg sg dV kV doc pm an cdv ct) [a] []) (Sg : FnScope Ng [a] sg) (hNg : Ng[0]? = some a) (hva : Vis sg a)
    (hG : ∀ q, LamX.GivesTo X Ng x sg g cdv bg a q TT)
    (TB : LamX.TabB X.base X.mg c Pa) (hcode : X.env.code = .ref c) (hr : Room (k + 2) X.A) (hp : DfP params qs) (L : LamP X.env.scope scope qs X.N)
    (hbody : ∀ (A : Around) (outer : List PySem.Env) (s : Shared) (H : Hp) (E : XK) (f c' : Addr), Room k (A.deeper (LamX.lamEnv X scope s.heap.objs.size f c')) → PE (LamX.lamCx X A outer s H E scope f c') body (t E))
    (hdb : (x == ("__debug__" : Str)) = false) (hd : (a == ("__debug__" : Str)) = false) (hcd : (a == ("__classdict__" : Str)) = false) :
    PE X (.Call (.Name x p) [.Lambda params body scope lpos] [] pos) (tLam3 Pa (X.env.qual ++ "<lambda>") TT t) := by
  refine ⟨fun pins s σ H Q I ⟨ps, hT, hw⟩ => wpAny_Call_Name_kw (ld_glob I hg hm ?_ hdb)⟩
  refine PySem.W.callWith_K (h₀ := X.base) I.ok.mod.kin hk ?_ (by rfl) (by rfl)
  show wpAny _ _ (spliced ((false, eval (.Lambda params body scope lpos) X.env) :: backTo pos (starEach [] X.env))) _ _ s
  refine Calls.spliced_cons (lam_make7 I TB hcode hT hp L fun f c' pm' ctv dV' binds H1 s' I1 st hf hfn hfr hco hq hbn => Calls.spliced_nil ⟨I1.kIn, ?_⟩)
  have rc : codeAny (model X.prog X.w) X.A (.call (.ref g) ⟨[.ref f], []⟩) (CR C8.CX0 X.stack X.prog X.w H1 s' Q C8.E0) s' :=
    LamX.run_ofS (N := Ng) (ps := [a]) (us := [.ref f]) (vs := [.ref f]) lk hcg Sg hr I1.env0 (hb s' [.ref f] I1.kIn rfl) (.cons rfl .nil) rfl fun hr' =>
      let ⟨t', ht', hq'⟩ := hG (X.env.qual ++ "<lambda>") f c' s' H1 Q (fun E H' Q' => t E σ H' Q') (fun W pn xe E p1 p2 tk hW => act_P (i := 0) I1 L hf hfn hfr Un.refl (fun x z => .inl z) hq hbn tk hW hr' (fun A outer s H hr2 => hbody A outer s H E f c' hr2) hNg hva hd hcd) hco (hw H1 st)
      ⟨t', ht'.nox, hq'⟩
  refine wpAny_call (codeAny_mono rc fun r s2 hq => ?_)
  match r, hq with
  | .ok (.ret u), hq => exact I1.after hq
end
end Mi
end

section
-- MiniD
set_option Elab.async false
set_option linter.all false
set_option maxRecDepth 100000
set_option maxHeartbeats 4000000
/-! Mini, part D: _law_caught(lambda: e) -/
namespace Mi
open PySem PySem.Spec PyProof.Rows L2
section
variable {X : Cx} {P : En} {E : XK} {Γ : Gam} {pos : Pos}
theorem gives_of {cdg : Value} {g S : Addr} {bg : List Stmt} {sg : Scope} (hme : X.mg "StepError" = some (.ref S)) (hge : sg.names.lookup ("StepError" : Str) = some NameKind.globalImplicit) (h1 : sg.names.lookup ("caught" : Str) = some NameKind.local) (h2 : sg.names.lookup ("error" : Str) = some NameKind.local) (hb : isCaught bg = true) (q : Str) :
    LamX.GivesTo X ["work", "caught", "error"] "_law_caught" sg g cdg bg "work" q (TCaught X.K (.ref S)) := by
  unfold isCaught at hb
  split at hb
  · simp only [Bool.and_eq_true, decide_eq_true_eq] at hb
    obtain ⟨⟨⟨⟨⟨⟨rfl, rfl⟩, rfl⟩, rfl⟩, rfl⟩, rfl⟩, rfl⟩ := hb
    exact caught_gives hge hme h1 h2
  · cases hb
theorem wf_step2 {G : Wd} {μ : Mu} {H H1 : Hp} {j : Nat} {Pa : Addr} {q : Str} (w : Wf P G μ H) (hj : P.tb[j]? = some (Pa, q)) : ∃ ps, TabAt H Pa q ps ∧ (∀ (pos : Pos) (cv : Value), codeAmong pos ps.toList = some cv → ∃ c, cv = .ref c ∧ G.F c = some (LamX.CodeO c q)) ∧ ∀ H1, TabStep H Pa q ps H1 → ∃ G1, Ext H G H1 G1 ∧ Wf P G1 μ H1 ∧ ∀ c1, H1 c1 = some (LamX.CodeO c1 q) → (H c1 = none ∨ G.F c1 = some (LamX.CodeO c1 q)) → G1.F c1 = some (LamX.CodeO c1 q) := by
  obtain ⟨hm, hμ⟩ := w.tb j Pa q hj
  obtain ⟨b, ps, e1, h1, h2, h3⟩ := w.ob j _ _ hμ hm
  cases e1
  refine ⟨ps, ⟨h1, h2, fun pos cv hc => let ⟨c, z1, z2⟩ := h3 pos cv hc; ⟨c, z1, w.sub _ _ z2⟩⟩, h3, fun H1 st => ?_⟩
  rcases st with rfl | ⟨c', ps', nc, t', codes, rfl⟩
  · exact ⟨G, .refl _ _, w, fun c1 k1 k2 => k2.resolve_left fun z => by rw [z] at k1; cases k1⟩
  · -- the code object first, then the table
    have ne : c' ≠ Pa := fun z => by rw [z, h1] at nc; cases nc
    have e1 := Ext.new (o := LamX.CodeO c' q) w nc
    have w1 : Wf P (G.put c' (LamX.CodeO c' q)) μ (upd H c' (LamX.CodeO c' q)) := w.new nc
    have hk : j < μ.length := (List.getElem?_eq_some_iff.mp hμ).1
    have eH : upd (upd H c' (LamX.CodeO c' q)) Pa (.tbl ps') = upd (upd H Pa (.tbl ps')) c' (LamX.CodeO c' q) := by
      funext b
      unfold upd
      by_cases z1 : b = Pa
      · by_cases z2 : b = c'
        · exact absurd (z2.symm.trans z1) ne
        · rw [if_pos z1, if_neg z2, if_pos z1]
      · by_cases z2 : b = c'
        · rw [if_neg z1, if_pos z2, if_pos z2]
        · rw [if_neg z1, if_neg z2, if_neg z2, if_neg z1]
    have inm : Pa ∈ (G.put c' (LamX.CodeO c' q)).m.flatten := mem_flat (show G.m[j]? = some [Pa] from hm) (by simp)
    have nF := (w1.mF Pa inm).1
    rw [← eH]
    refine ⟨G.put c' (LamX.CodeO c' q), ⟨e1.le, e1.nw, fun a o h hn nt => ?_, fun a h => ?_, e1.mm, e1.mf, rfl⟩, ⟨fun a o h => ?_, fun a h => ?_, w1.len, fun k mo fp h1 h2 => ?_, w1.dj, w1.tb⟩, fun c1 k1 k2 => ?_⟩
    · rw [upd_ne (fun z => hn (by rw [z]; exact mem_flat hm (by simp)))]
      exact e1.fr a o h hn nt
    · by_cases z : a = Pa
      · rw [z, upd_same] at h; cases h
      · rw [upd_ne z] at h; exact e1.dm a h
    · have na : a ≠ Pa := fun z => by rw [z, nF] at h; cases h
      rw [upd_ne na]
      exact w1.sub a o h
    · obtain ⟨q1, q2⟩ := w1.mF a h
      refine ⟨q1, ?_⟩
      by_cases z : a = Pa
      · rw [z, upd_same]; exact fun z => nomatch z
      · rw [upd_ne z]; exact q2
    · by_cases z : k = j
      · subst z
        rw [hμ] at h1
        cases h1
        have h2 : G.m[k]? = some fp := h2
        rw [hm] at h2
        cases h2
        refine ⟨Pa, ps', rfl, upd_same, t', fun pos cv hc => ?_⟩
        rcases codes pos cv hc with z | z
        · obtain ⟨c, y1, y2⟩ := h3 pos cv z
          exact ⟨c, y1, e1.le _ _ y2⟩
        · exact ⟨c', z, upd_same⟩
      · exact MoOk.keep' (w1.ob k mo fp h1 h2) fun b hb => upd_ne fun y => w1.dj k j fp [Pa] z h2 hm b hb (by rw [y]; simp)
    · by_cases z : c1 = c'
      · subst z; exact upd_same
      · rcases k2 with k2 | k2
        · exfalso
          rw [upd_ne (fun y => by rw [y, upd_same] at k1; exact LamX.codeO_ne _ (Option.some.inj k1).symm), upd_ne z, k2] at k1
          cases k1
        · exact e1.le _ _ k2
theorem wf_step {G : Wd} {μ : Mu} {H H1 : Hp} {j : Nat} {Pa : Addr} {q : Str} (w : Wf P G μ H) (hj : P.tb[j]? = some (Pa, q)) : ∃ ps, TabAt H Pa q ps ∧ ∀ H1, TabStep H Pa q ps H1 → ∃ G1, Ext H G H1 G1 ∧ Wf P G1 μ H1 := by
  obtain ⟨ps, h1, _, h2⟩ := wf_step2 (H1 := H) w hj
  exact ⟨ps, h1, fun H1 st => let ⟨G1, e, w1, _⟩ := h2 H1 st; ⟨G1, e, w1⟩⟩
theorem o_caught (n : Cn X P (wE E)) {k j : Nat} {c Pa : Addr} {lo : Env → Mu → KE → KE → Prop} {scope : Scope} {params : Arguments} {body : Expr} {p lpos : Pos} (cd : CaughtD X.K X.mg) (hg : Gl X "_law_caught") (hj : P.tb[j]? = some (Pa, X.env.qual ++ "<lambda>")) (TB : LamX.TabB X.base X.mg c Pa) (hcode : X.env.code = .ref c)
    (hr : Room (k + 2) X.A) {qs : List Str} (hp : DfP params qs) (L : LamP X.env.scope scope qs X.N)
    (hbody : ∀ (A : Around) (outer : List PySem.Env) (s : Shared) (H : Hp) (E : XK) (f c' : Addr), Room k (A.deeper (LamX.lamEnv X scope s.heap.objs.size f c')) → PE (LamX.lamCx X A outer s H E scope f c') body (tE P (wE E) lo))
    (hx : ∀ c C, Γ.sub c "StepError" = some true → P.mg c = some (.ref C) → ∀ S, X.mg "StepError" = some (.ref S) → PySem.W.exmOne X.K (.ref C) (.ref S) = some true)
    {w : Env → Mu → KE → KE → Prop} (hw : ∀ ρ μ k kx, w ρ μ k kx → lo ρ μ (fun _ μ1 => k .non μ1) fun v μ1 => ∃ c fs vs, v = .exc c fs vs ∧ Γ.sub c "StepError" = some true ∧ k v μ1) :
    PE X (.Call (.Name "_law_caught" p) [.Lambda params body scope lpos] [] pos) (tE P (wE E) w) := by
  obtain ⟨g, pg, bg, sg, dV, kV, doc, pm, cdv, ct, oc, an, od, osl, h1, h2, h3, h4, h5, h6, h7, h8, h9, h10, h11⟩ := cd.ex
  obtain ⟨S, hS⟩ := cd.step
  refine (pe_lamcallP (t := fun E => tE P (wE E) lo) hg h1 h2 h3 h4 h5 h6 rfl (.inl h10) (fun q => gives_of hS h7 h8 h9 h11 q) TB hcode hr hp L hbody (by decide) (by decide) (by decide)).imp fun σ H Q ⟨He, G, ρ, μ, k, kx, w0, sl, hq, t, tx⟩ => ?_
  obtain ⟨ps, hT, st⟩ := wf_step (H1 := H) w0 hj
  refine ⟨ps, hT, fun H1 hs => ?_⟩
  obtain ⟨G1, e1, w1⟩ := st H1 hs
  have hl := hw _ _ _ _ hq
  refine ⟨fun cls d H' => ∃ G' μ' v, Ext H1 G1 H' G' ∧ Wf P G' μ' H' ∧ RepX P G' v cls d ∧ ∃ c fs vs, v = .exc c fs vs ∧ Γ.sub c "StepError" = some true ∧ k v μ', fun cls d H' ⟨G', μ', v, e2, w2, r2, c, fs, vs, ev, hsub, hk⟩ => ?_, ⟨He, G1, ρ, μ, _, _, w1, sl.ext w0 e1, hl, fun G2 μ2 H2 v x e2 w2 r2 h2 => t G2 μ2 H2 .non .non (e1.trans e2) w2 (.of .non) h2, fun G' μ' H' v cls d e2 w2 r2 h2 => ⟨G', μ', v, e2, w2, r2, h2⟩⟩⟩
  subst ev
  cases r2 with
  | mk0 hm =>
    refine ⟨hx _ _ hsub hm S hS, _, rfl, fun a na => ?_⟩
    exact t _ μ' _ (.exc c [] []) (.ref a) ((e1.trans e2).trans (Ext.new w2 na)) (w2.new na) (.of (.exc0 hm upd_same)) hk
  | @mk1 _ C d _ _ xs hm hd hl hr =>
    refine ⟨hx _ _ hsub hm S hS, _, rfl, fun a na => ?_⟩
    have e3 := Ext.new (o := ExH C (some d) a) w2 na
    exact t _ μ' _ (.exc c fs vs) (.ref a) ((e1.trans e2).trans e3) (w2.new na) (.of (.exc1 hm upd_same (e3.le _ _ hd) hl (hr.ext e3))) hk
end
end Mi
end

section
-- MiniH
set_option Elab.async false
set_option linter.all false
set_option maxRecDepth 100000
set_option maxHeartbeats 1000000
/-! Mini, part H: _law_re_refused(word, lambda: e) -/
namespace Mi
open PySem PySem.Spec PyProof.Rows L2
theorem cx_no {P : Program} {w : World} {outer : List PySem.Env} {H : Hp} {s : Shared} {e : Value} {s' : Shared} (z : L2.CX P w outer H s (fun _ _ _ => False) e s') : False := by
  obtain ⟨_, _, _, _, _, _, _, _, _, _, _, _, z⟩ := z
  exact z
section
variable {X : Cx} {pins : List (Addr × Obj)} {σ : L2.St} {H : Hp} {s : Shared}
/-- _law_caught(work), in the def that got the lambda as its second argument -/
theorem fwd_ok {g f c' g2 S : Addr} {cd2 pm ctv : Value} {params : Arguments} {body : Expr} {scope : Scope} {k : Nat} {N1 : List Str} {q1 : Str} {sc1 : Scope} {t : XK → TE} {p p' pos : Pos}
    {pg : Arguments} {bg : List Stmt} {sg : Scope} {dV kV doc pm2 cdv ct oc : Value} {an od : Option Addr} {osl : Array (Option Value)}
    {dV0 : Value} {qs : List Str} {binds : List (Str × Value)} (I : Inv X pins σ H s) (L : LamP X.env.scope scope qs X.N) (hf : s.heap.get? f = some (lmO (X.env.qual ++ "<lambda>") params body scope (cloFrom X.env.cells scope.names []) pm c' ctv dV0)) (hfn : H f = none) (hfr : f ∉ frs X.stack)
    (hq : binds.map (·.1) = qs) (hbind : ∀ s2 : Shared, KeptOf H (frs X.stack) s.heap s2.heap → BindsTo s2 (lmF (X.env.qual ++ "<lambda>") params body scope (cloFrom X.env.cells scope.names []) pm (.ref c') ctv dV0) ⟨[], []⟩ binds)
    (hbody : ∀ (A : Around) (outer : List PySem.Env) (s : Shared) (H : Hp) (E : XK) (f c' : Addr), Room k (A.deeper (LamX.lamEnv X scope s.heap.objs.size f c')) → PE (LamX.lamCx X A outer s H E scope f c') body (t E))
    (hg : sc1.names.lookup ("_law_caught" : Str) = some .globalImplicit) (hm : X.mg "_law_caught" = some (.ref g)) (hk : PySem.W.keepIn X.K (.ref g) = true)
    (lk : X.K.lookup g = some ⟨oc, od, .func (PySem.W.fnOf "_law_caught" "_law_caught" pg bg sg dV kV doc pm2 an cdv ct), osl⟩) (hcg : PySem.W.codeIn X.K cdv "_law_caught" = true) (hb : L2.Binds X.K (PySem.W.fnOf "_law_caught" "_law_caught" pg bg sg dV kV doc pm2 an cdv ct) ["work"] []) (Sg : FnScope ["work", "caught", "error"] ["work"] sg)
    (hme : X.mg "StepError" = some (.ref S)) (hge : sg.names.lookup ("StepError" : Str) = some NameKind.globalImplicit) (l1 : sg.names.lookup ("caught" : Str) = some NameKind.local) (l2 : sg.names.lookup ("error" : Str) = some NameKind.local) (l3 : sg.names.lookup ("work" : Str) = some NameKind.local) (hbg : isCaught bg = true)
    (hN1 : N1[1]? = some ("work" : Str)) (hw1 : Vis sc1 ("work" : Str)) (hr : Room (k + 2) (X.A.deeper (envOfC q1 sc1 s.heap.objs.size g2 cd2))) :
    PE (cxOf C8.CX0 X.prog X.w X.K X.mg X.base N1 q1 sc1 g2 cd2 X.A X.stack s H C8.E0) (.Call (.Name "_law_caught" p) [.Name "work" p'] [] pos)
      (fun σ1 H1 Q => σ1[1]? = some (some (.ref f)) ∧ H1 c' = some (LamX.CodeO c' (X.env.qual ++ "<lambda>")) ∧ TCaught X.K (.ref S) (fun E H' Q' => t E σ H' Q') H1 Q) := by
  refine ⟨fun pins1 s1 σ1 H1 Q I1 ⟨h1, h2, h3⟩ => ?_⟩
  refine wpAny_Call_Name_kw (ld_glob I1 hg hm ?_ (by decide))
  refine PySem.W.callWith_K (h₀ := X.base) I1.ok.mod.kin hk ?_ (by rfl) (by rfl)
  show wpAny _ _ (spliced ((false, eval (.Name "work" p') (envOfC q1 sc1 s.heap.objs.size g2 cd2)) :: backTo pos (starEach [] (envOfC q1 sc1 s.heap.objs.size g2 cd2)))) _ _ s1
  refine Calls.spliced_cons (thn ((pe_var (X := cxOf C8.CX0 X.prog X.w X.K X.mg X.base N1 q1 sc1 g2 cd2 X.A X.stack s H C8.E0) (pos := p') (i := 1) hN1 hw1 (by decide) (by decide)).run pins1 s1 σ1 H1 (fun v H2 => v = .ref f ∧ H2 = H1) I1 ⟨.ref f, h1, rfl, rfl⟩) fun u s2 ⟨v, H2, I2, r2, q2⟩ => ?_)
  obtain ⟨ev, eH⟩ := q2
  subst ev
  rw [eH] at I2
  obtain rfl : u = Value.ref f := r2
  refine Calls.spliced_nil ⟨I2.kIn, ?_⟩
  have un1 : Un (frs X.stack) [] H H1 s.heap s2.heap := I2.base
  have fs : f < s.heap.objs.size := Heap.lt_size hf
  have hf2 := un1.keep f _ hf hfn hfr (by simp)
  have hfn2 : H1 f = none := un1.free f _ hf hfn (by simp)
  have hfr2 : f ∉ frs (envOfC q1 sc1 s.heap.objs.size g2 cd2 :: X.stack) := fun z => by
    rcases List.mem_cons.mp (show f ∈ s.heap.objs.size :: frs X.stack from z) with e | e
    · exact absurd fs (by rw [e]; exact Nat.lt_irrefl _)
    · exact hfr e
  have nw : ∀ x ∈ frs (envOfC q1 sc1 s.heap.objs.size g2 cd2 :: X.stack), x ∈ frs X.stack ∨ s.heap.get? x = none := fun x z => by
    rcases List.mem_cons.mp (show x ∈ s.heap.objs.size :: frs X.stack from z) with e | e
    · right; rw [e]; exact Heap.get?_none_of_le (Nat.le_refl _)
    · exact .inl e
  have hbn : ∀ s3 : Shared, KeptOf H1 (frs (envOfC q1 sc1 s.heap.objs.size g2 cd2 :: X.stack)) s2.heap s3.heap → BindsTo s3 (lmF (X.env.qual ++ "<lambda>") params body scope (cloFrom X.env.cells scope.names []) pm (.ref c') ctv dV0) ⟨[], []⟩ binds := fun s3 hk3 => hbind s3 fun b o e n m => by
    refine hk3 b o (un1.keep b o e n m (by simp)) (un1.free b o e n (by simp)) fun z => ?_
    rcases List.mem_cons.mp (show b ∈ s.heap.objs.size :: frs X.stack from z) with y | y
    · exact absurd (Heap.lt_size e) (by rw [y]; exact Nat.lt_irrefl _)
    · exact m y
  have gv : LamX.GivesTo (cxOf C8.CX0 X.prog X.w X.K X.mg X.base N1 q1 sc1 g2 cd2 X.A X.stack s H C8.E0) ["work", "caught", "error"] "_law_caught" sg g cdv bg "work" (X.env.qual ++ "<lambda>") (TCaught X.K (.ref S)) :=
    gives_of (X := cxOf C8.CX0 X.prog X.w X.K X.mg X.base N1 q1 sc1 g2 cd2 X.A X.stack s H C8.E0) (cdg := cdv) (g := g) hme hge l1 l2 hbg (X.env.qual ++ "<lambda>")
  have rc : codeAny (model X.prog X.w) (X.A.deeper (envOfC q1 sc1 s.heap.objs.size g2 cd2)) (.call (.ref g) ⟨[.ref f], []⟩) (CR C8.CX0 (envOfC q1 sc1 s.heap.objs.size g2 cd2 :: X.stack) X.prog X.w H1 s2 Q C8.E0) s2 := by
    refine LamX.run_ofS (N := ["work", "caught", "error"]) (ps := ["work"]) (us := [.ref f]) (vs := [.ref f]) lk hcg Sg hr I2.env0 (hb s2 [.ref f] I2.kIn rfl) (.cons rfl .nil) rfl fun hr' => ?_
    have q := gv f c' s2 H1 Q (fun E H' Q' => t E σ H' Q')
    have act : ∀ (W : WX) (pn : List (Addr × Obj)) (xe : Value → Shared → Prop) (E : XK) (p1 p2 : Pos), Takes ((cxOf C8.CX0 X.prog X.w X.K X.mg X.base ["work", "caught", "error"] "_law_caught" sg g cdv (X.A.deeper (envOfC q1 sc1 s.heap.objs.size g2 cd2)) (envOfC q1 sc1 s.heap.objs.size g2 cd2 :: X.stack) s2 H1 C8.E0).tr pn xe) W → (∀ cls d σ' H', E cls d H' → W cls d σ' H') →
        PE ((cxOf C8.CX0 X.prog X.w X.K X.mg X.base ["work", "caught", "error"] "_law_caught" sg g cdv (X.A.deeper (envOfC q1 sc1 s.heap.objs.size g2 cd2)) (envOfC q1 sc1 s.heap.objs.size g2 cd2 :: X.stack) s2 H1 C8.E0).tr pn xe) (.Call (.Name "work" p1) [] [] p2) (fun σZ HZ Q => σZ[0]? = some (some (.ref f)) ∧ HZ c' = some (LamX.CodeO c' (X.env.qual ++ "<lambda>")) ∧ t E σ HZ Q) := fun W pn xe E p1 p2 tk hW =>
      act_P (A1 := X.A.deeper (envOfC q1 sc1 s.heap.objs.size g2 cd2)) (st1 := envOfC q1 sc1 s.heap.objs.size g2 cd2 :: X.stack) (s1 := s2) (H1 := H1) (CXg := C8.CX0) (Eg := C8.E0) (i := 0) (k := k) (W := W) (E := E) (tb := t E) (pn := pn) (xe := xe) (a := "work") I L hf2 hfn2 hfr2 un1 nw hq hbn tk hW hr' (fun A outer s H hr2 => hbody A outer s H E f c' hr2) rfl (.inl l3) (by decide) (by decide)
    obtain ⟨t', ht', hq'⟩ := q act h2 h3
    exact ⟨t', ht'.nox, hq'⟩
  refine wpAny_call (codeAny_mono rc fun r s3 hq => ?_)
  match r, hq with
  | .ok (.ret u), hq => exact I2.after hq
end
end Mi
end

section
-- MiniI
set_option Elab.async false
set_option linter.all false
set_option maxRecDepth 100000
set_option maxHeartbeats 4000000
/-! Mini, part I: _law_re_refused(word, lambda: e) -/
namespace Mi
open PySem PySem.Spec PyProof.Rows L2
theorem RepR.toH' {P : En} {H0 : Hp} {G : Wd} {H : Hp} {v : PV} {u : V} (r : RepR P H0 G H v u) : RepH P G H v.fz u := by
  cases v with
  | nls vs =>
    obtain ⟨a, xs, rfl, h2, h3, _⟩ := r
    exact .ls h2 h3
  | _ => exact .fz r
section
variable {X : Cx} {P : En} {E : XK} {Γ : Gam} {pos : Pos}
theorem o_refd (n : Cn X P (wE E)) {k j : Nat} {c Pa : Addr} {lo : Env → Mu → KE → KE → Prop} {kd : List PV → Mu → KE → KE → Prop} {scope : Scope} {params : Arguments} {body : Expr} {p lpos pw : Pos} {jw : Nat} {w : Str} (cd : CaughtD X.K X.mg) (rd : RefD X.K X.mg) (hg : Gl X "_law_re_refused")
    (hj : P.tb[j]? = some (Pa, X.env.qual ++ "<lambda>")) (TB : LamX.TabB X.base X.mg c Pa) (hcode : X.env.code = .ref c)
    (hr : Room (k + 3) X.A) {qs : List Str} (hp : DfP params qs) (L : LamP X.env.scope scope qs X.N)
    (hbody : ∀ (A : Around) (outer : List PySem.Env) (s : Shared) (H : Hp) (E : XK) (f c' : Addr), Room k (A.deeper (LamX.lamEnv X scope s.heap.objs.size f c')) → PE (LamX.lamCx X A outer s H E scope f c') body (tE P (wE E) lo))
    (hx : ∀ c C, Γ.sub c "StepError" = some true → P.mg c = some (.ref C) → ∀ S, X.mg "StepError" = some (.ref S) → PySem.W.exmOne X.K (.ref C) (.ref S) = some true)
    {ka : Addr} {kfd : FuncData} {kps : List Str} (km : X.mg "_law_re_kind" = some (.ref ka)) (kk : PySem.W.keepIn X.K (.ref ka) = true) (kb : L2.Binds X.K kfd kps []) (kl : kps.length = 1) (kf : FnOk X.prog X.w X.K X.mg X.base (L2.CX X.prog X.w) (k + 2) ka kfd kps (spF P kps.length kd))
    {ws : Env → Mu → KE → KE → Prop} (hw : ∀ ρ μ k kx, ws ρ μ k kx → lo ρ μ (fun _ μ1 => kd [.non] μ1 (fun r μ2 => cmpK .eq r.fz (.str w) fun b => k (.bl b) μ2) noX) fun v μ1 => ∃ c fs vs, v = .exc c fs vs ∧ Γ.sub c "StepError" = some true ∧ kd [v] μ1 (fun r μ2 => cmpK .eq r.fz (.str w) fun b => k (.bl b) μ2) noX) :
    PE X (.Call (.Name "_law_re_refused" p) [.Constant (.str w) jw pw, .Lambda params body scope lpos] [] pos) (tE P (wE E) ws) := by
  obtain ⟨g, pg, bg, sg, dV, kV, doc, pm0, cdv, ct, oc, an, od, osl, h1, h2, h3, h4, h5, h6, h7, h8, h9, h10, h11⟩ := cd.ex
  obtain ⟨g2, pg2, bg2, sg2, dV2, kV2, doc2, pm2, cdv2, ct2, oc2, an2, od2, osl2, r1, r2, r3, r4, r5, r6, r7, r8, r9, r10, r11⟩ := rd.ex
  obtain ⟨S, hS⟩ := cd.step
  refine ⟨fun pins s σ H Q I ⟨He, G, ρ, μ, k', kx, w0, sl, hq, t, tx⟩ => wpAny_Call_Name_kw (ld_glob I hg r1 ?_ (by decide))⟩
  refine PySem.W.callWith_K (h₀ := X.base) I.ok.mod.kin r2 ?_ (by rfl) (by rfl)
  show wpAny _ _ (spliced ((false, eval (.Constant (.str w) jw pw) X.env) :: (false, eval (.Lambda params body scope lpos) X.env) :: [])) _ _ s
  refine Calls.spliced_cons (thn ((pe_str (X := X)).run pins s σ H (fun v H1 => v = .str w ∧ H1 = H) I ⟨rfl, rfl⟩) fun u1 s1 ⟨x1, H1, I1, rx1, ex1, eH1⟩ => ?_)
  subst ex1
  rw [eH1] at I1
  obtain ⟨ps, hT, st⟩ := wf_step (H1 := H) w0 hj
  refine Calls.spliced_cons (lam_make7 I1 TB hcode hT hp L fun f c' pm' ctv dV0 binds H2 s2 I2 st2 hf hfn hfr hco hqs hbn => Calls.spliced_nil ⟨I2.kIn, ?_⟩)
  obtain ⟨ps', hT', st'⟩ := wf_step (H1 := H2) w0 hj
  obtain ⟨G1, e1, w1⟩ := st' H2 (by
    have : ps' = ps := by
      have a := hT.1
      rw [hT'.1] at a
      cases a
      rfl
    rw [this]; exact st2)
  have hl := hw _ _ _ _ hq
  -- the word's kind, compared
  let K2 : PV → Mu → Prop := fun r μ2 => cmpK .eq r.fz (.str w) fun b => k' (.bl b) μ2
  let R2' : V → V → Hp → VK → Prop := fun x y H Q => ∃ G μ va vb k, Wf P G μ H ∧ RepH P G H va x ∧ RepH P G H vb y ∧ cmpK .eq va vb k ∧ ∀ b, k b → Q (.bl b) H
  let Q2 : VK := fun xr H4 => ∃ v, (L2.start (["word", "work"] : List Str) [V.str w, V.ref f])[0]? = some (some v) ∧ R2' xr v H4 Q
  have kind : ∀ (v : PV) (G' : Wd) (μ' : Mu) (H' : Hp) (x : V), Ext H G H' G' → Wf P G' μ' H' → Rep P G' v x → kd [v] μ' K2 noX → spF P kps.length kd ([x] ++ []) H' Q2 (fun _ _ _ => False) := fun v G' μ' H' x e w' r h =>
    ⟨G', μ', [v], K2, noX, by rw [kl]; rfl, w', .cons r .nil, h, fun G3 μ3 H3 v3 x3 e3 w3 r3 h3 => ⟨.str w, rfl, G3, μ3, v3.fz, .str w, fun b => k' (.bl b) μ3, w3, r3.toH', .fz (.str w), h3, fun b hb => t G3 μ3 H3 (.bl b) (.bl b) (e.trans e3) w3 (.of (.bl b)) hb⟩, fun _ _ _ _ _ _ _ _ _ z => z.elim⟩
  have rc : codeAny (model X.prog X.w) X.A (.call (.ref g2) ⟨[u1, .ref f], []⟩) (CR C8.CX0 X.stack X.prog X.w H2 s2 Q C8.E0) s2 := by
    refine LamX.run_ofS (N := ["word", "work"]) (ps := ["word", "work"]) (us := [u1, .ref f]) (vs := [.str w, .ref f]) r3 r4 r6 hr I2.env0 (r5 s2 [u1, .ref f] I2.kIn rfl) (.cons rx1 (.cons rfl .nil)) rfl fun hr' => ?_
    unfold isRefused at r11
    split at r11
    · rename_i n1 p1 n2 p2 n3 p3 p4 p5 n4 p6 p7 p8
      simp only [Bool.and_eq_true, decide_eq_true_eq] at r11
      obtain ⟨rfl, rfl, rfl, rfl⟩ := r11
      have fw := fwd_ok (p := p2) (p' := p3) (pos := p4) (t := fun E => tE P (wE E) lo) (k := k) (N1 := ["word", "work"]) (q1 := "_law_re_refused") (sc1 := sg2) (g2 := g2) (cd2 := cdv2) I2 L hf hfn hfr hqs hbn hbody r8 h1 h2 h3 h4 h5 h6 hS h7 h8 h9 h10 h11 rfl (.inl r10) hr'
      have kc := pe_call (X := cxOf C8.CX0 X.prog X.w X.K X.mg X.base ["word", "work"] "_law_re_refused" sg2 g2 cdv2 X.A X.stack s2 H2 C8.E0) (E := fun _ _ _ => False) (p := p1) (pos := p5) (x := "_law_re_kind") kf hr' r7 km kk kb .nil (fun _ _ _ _ _ _ _ z => (cx_no z).elim) (pa_cons fw pa_nil) (by decide) (by rfl) (by rfl)
      have vc := pe_var (X := cxOf C8.CX0 X.prog X.w X.K X.mg X.base ["word", "work"] "_law_re_refused" sg2 g2 cdv2 X.A X.stack s2 H2 C8.E0) (pos := p6) (i := 0) (x := "word") rfl (.inl r9) (by decide) (by decide)
      refine ⟨_, pss_one (ps_ret (pe_cmpR (op_cmpM (X := cxOf C8.CX0 X.prog X.w X.K X.mg X.base ["word", "work"] "_law_re_refused" sg2 g2 cdv2 X.A X.stack s2 H2 C8.E0) (P := P) n.hK hr'.units .eq) kc vc rfl)), ?_⟩
      refine ⟨rfl, hco, fun cls d H' => ∃ G' μ' v, Ext H2 G1 H' G' ∧ Wf P G' μ' H' ∧ RepX P G' v cls d ∧ ∃ c fs vs, v = .exc c fs vs ∧ Γ.sub c "StepError" = some true ∧ kd [v] μ' K2 noX, fun cls d H' ⟨G', μ', v, e2, w2, rx, cc, fs, vs, ev, hsub, hk⟩ => ?_,
        ⟨He, G1, ρ, μ, _, _, w1, sl.ext w0 e1, hl, fun G3 μ3 H3 v x e3 w3 r3 h3 => kind .non G3 μ3 H3 .non (e1.trans e3) w3 .non h3, fun G' μ' H' v cls d e2 w2 r2 h2 => ⟨G', μ', v, e2, w2, r2, h2⟩⟩⟩
      subst ev
      cases rx with
      | mk0 hm =>
        refine ⟨hx _ _ hsub hm S hS, _, rfl, fun a na => ?_⟩
        exact kind _ _ _ _ _ ((e1.trans e2).trans (Ext.new w2 na)) (w2.new na) (.exc0 hm upd_same) hk
      | @mk1 _ C d _ _ xs hm hd hl hr =>
        refine ⟨hx _ _ hsub hm S hS, _, rfl, fun a na => ?_⟩
        have e3 := Ext.new (o := ExH C (some d) a) w2 na
        exact kind _ _ _ _ _ ((e1.trans e2).trans e3) (w2.new na) (.exc1 hm upd_same (e3.le _ _ hd) hl (hr.ext e3)) hk
    · cases r11
  refine wpAny_call (codeAny_mono rc fun r s3 hq => ?_)
  match r, hq with
  | .ok (.ret u), hq => exact I2.after hq
end
end Mi
end

section
-- Mini11
set_option Elab.async false
set_option linter.all false
set_option maxRecDepth 100000
set_option maxHeartbeats 4000000
/-! Mini, part 11: matching expressions -/
namespace Mi
open PySem PySem.Spec PyProof.Rows L2

inductive Mode where | val | opd | tst
  deriving DecidableEq
def Sit.fbk (scope : Scope) : Str → Bool := fun x => scope.names.lookup x == some .cell && (decide (x ≠ ("<lambda>" : Str)) && decide (x ≠ ("<repr>" : Str)))
def isName (x : Expr) (y : Str) : Bool := match asName x with
  | some z => decide (z = y)
  | none => false
def tgNames (N : List Str) (sc : Scope) (fb : Str → Bool) : List Nat → List Expr → Bool
  | [], [] => true
  | i :: is, x :: xs => (match asName x with
    | some y => decide (N[i]? = some y) && locB sc fb y
    | none => false) && tgNames N sc fb is xs
  | _, _ => false
def tgB (N : List Str) (sc : Scope) (fb : Str → Bool) : Tg → Expr → Bool
  | .nm i, x => (match asName x with
    | some y => decide (N[i]? = some y) && locB sc fb y
    | none => false)
  | .tp is, x => (match asTup x with
    | some xs => tgNames N sc fb is xs
    | none => false)
def frB (T : Tab) (sc : Scope) (x : Str) : Bool := decide (x ∈ T.free) && glB sc x
def asMeth : Expr → Option (Expr × Str × List Expr × Pos × Pos)
  | .Call (.Attribute o m pa) as [] pc => some (o, m, as, pa, pc)
  | _ => none
theorem asMeth_ok {x o m as pa pc} (h : asMeth x = some (o, m, as, pa, pc)) : x = .Call (.Attribute o m pa) as [] pc := by unfold asMeth at h; split at h <;> cases h; rfl
/-- name['key'] -/
def asKey (x : Expr) : Option (Str × Str) := match asSub x with
  | some (o, k) => (match asName o, asConst k with
    | some y, some (.str z) => some (y, z)
    | _, _ => none)
  | none => none
theorem asKey_ok {x y z} (h : asKey x = some (y, z)) : ∃ p j q r, x = .Subscript (.Name y p) (.Constant (.str z) j q) r := by
  unfold asKey at h
  split at h
  · rename_i o k ho
    obtain ⟨r, rfl⟩ := asSub_ok ho
    split at h
    · rename_i y' z' h1 h2
      obtain ⟨p, rfl⟩ := asName_ok h1
      obtain ⟨j, q, rfl⟩ := asConst_ok h2
      cases h
      exact ⟨_, _, _, _, rfl⟩
    · cases h
  · cases h
def keyB (N : List Str) (sc : Scope) (i : Nat) (key : Str) (x : Expr) : Bool := match asKey x with
  | some (y, z) => decide (z = key) && nmB N sc i y
  | none => false
theorem keyB_ok {N : List Str} {sc : Scope} {i : Nat} {key : Str} {x : Expr} (h : keyB N sc i key x = true) : ∃ y p j q r, x = .Subscript (.Name y p) (.Constant (.str key) j q) r ∧ nmB N sc i y = true := by
  unfold keyB at h
  split at h
  · rename_i y z hk
    obtain ⟨p, j, q, r, rfl⟩ := asKey_ok hk
    simp only [Bool.and_eq_true, decide_eq_true_eq] at h
    obtain ⟨rfl, h⟩ := h
    exact ⟨y, p, j, q, r, rfl, h⟩
  · cases h
/-- f(lambda: e) -/
def asLam (x : Expr) : Option (Arguments × Expr × Scope) := match x with
  | .Lambda a b sc _ => some (a, b, sc)
  | _ => none
theorem asLam_ok {x a b sc} (h : asLam x = some (a, b, sc)) : ∃ p, x = .Lambda a b sc p := by
  unfold asLam at h
  split at h
  · cases h; exact ⟨_, rfl⟩
  · cases h
/-- the parameters of a lambda that is called with nothing -/
def dfOf : Arguments → Option (List Str)
  | ⟨[], [], none, [], [], none, []⟩ => some []
  | ⟨[], [a], none, [], [], none, [.Constant (.int _) _ _]⟩ => some [a.arg]
  | _ => none
theorem dfOf_ok {a : Arguments} {qs : List Str} (h : dfOf a = some qs) : DfP a qs := by
  unfold dfOf at h
  split at h
  · cases h; exact .none
  · cases h; exact .one _ _ _ _
  · cases h
def asCau (x : Expr) : Option (Str × Arguments × Expr × Scope) := match x with
  | .Call (.Name g _) [.Lambda a body scope _] [] _ => some (g, a, body, scope)
  | _ => none
theorem asCau_ok {x g a body scope} (h : asCau x = some (g, a, body, scope)) : ∃ p q r, x = .Call (.Name g p) [.Lambda a body scope q] [] r := by
  unfold asCau at h
  split at h
  · cases h; exact ⟨_, _, _, rfl⟩
  · cases h
/-- f('w', lambda: e) -/
def asRef (x : Expr) : Option (Str × Str × Arguments × Expr × Scope) := match x with
  | .Call (.Name g _) [.Constant (.str w) _ _, .Lambda a body scope _] [] _ => some (g, w, a, body, scope)
  | _ => none
theorem asRef_ok {x g w a body scope} (h : asRef x = some (g, w, a, body, scope)) : ∃ p j p2 q r, x = .Call (.Name g p) [.Constant (.str w) j p2, .Lambda a body scope q] [] r := by
  unfold asRef at h
  split at h
  · cases h; exact ⟨_, _, _, _, _, rfl⟩
  · cases h
mutual
def mE (T : Tab) (N : List Str) (sc : Scope) (fb : Str → Bool) (m : Mode) : E → Expr → Bool
  | .var i, x => (match asName x with
    | some y => nmB N sc i y
    | none => false)
  | .pk i, x => decide (m ≠ .val) && (match asName x with
    | some y => nmB N sc i y
    | none => false)
  | .cint n, x => (match asConst x with
    | some (.int k) => decide (k = n)
    | _ => false)
  | .cbl n, x => (match asConst x with
    | some (.bool k) => decide (k = n)
    | _ => false)
  | .cstr n, x => (match asConst x with
    | some (.str k) => decide (k = n)
    | _ => false)
  | .cnon, x => (match asConst x with
    | some .none => true
    | _ => false)
  | .cst c, x => isName x c && glB sc c && (T.cints.lookup c).isSome
  | .tup es, x => decide (m ≠ .tst) && (match asTup x with
    | some xs => xs.all notStar && mEs T N sc fb .val es xs
    | none => false)
  | .lst es, x => decide (m ≠ .tst) && (match asLst x with
    | some xs => xs.all notStar && mEs T N sc fb .val es xs
    | none => false)
  | .bin o a b, x => (match asBin x with
    | some (p, q, r) => decide (opOf q = some o) && mE T N sc fb .opd a p && mE T N sc fb .opd b r
    | none => false)
  | .neg a, x => decide (m ≠ .tst) && (match asUn x with
    | some (.USub, p) => mE T N sc fb .opd a p
    | _ => false)
  | .not a, x => (match asUn x with
    | some (.Not, p) => mE T N sc fb (if m = .tst then .tst else .opd) a p
    | _ => false)
  | .and es, x => (match asBool x with
    | some (.And, xs) => mEs T N sc fb (if m = .tst then .tst else .opd) es xs
    | _ => false)
  | .or es, x => (match asBool x with
    | some (.Or, xs) => mEs T N sc fb (if m = .tst then .tst else .opd) es xs
    | _ => false)
  | .cmp o a b, x => (match asCmp x with
    | some (p, [q], [r]) => decide (cpOf q = some o) && notSet r && mE T N sc fb .opd a p && mE T N sc fb .opd b r
    | _ => false)
  | .chain o o' a b c, x => (match asCmp x with
    | some (p, [q, q'], [r, t]) => decide (cpOf q = some o) && decide (cpOf q' = some o') && notSet t && mE T N sc fb .opd a p && mE T N sc fb .opd b r && mE T N sc fb .opd c t
    | _ => false)
  | .isn a, x => (match asCmp x with
    | some (p, [.Is], [.Constant .none _ _]) => mE T N sc fb .opd a p
    | _ => false)
  | .nisn a, x => (match asCmp x with
    | some (p, [.IsNot], [.Constant .none _ _]) => mE T N sc fb .opd a p
    | _ => false)
  | .isb k a, x => (match asCmp x with
    | some (p, [.Is], [.Constant (.bool c) _ _]) => decide (c = k) && mE T N sc fb .opd a p
    | _ => false)
  | .ite c a b, x => decide (m ≠ .tst) && (match asIf x with
    | some (p, q, r) => mE T N sc fb .tst c p && mE T N sc fb .val a q && mE T N sc fb .val b r
    | none => false)
  | .call f es, x => (match asCall x with
    | some (g, xs) => decide (g = f) && glB sc f && (T.ar f).isSome && xs.all notStar && mEs T N sc fb .val es xs
    | none => false)
  | .bi b es, x => (match asCall x with
    | some (g, xs) => decide (g = b.nm) && frB T sc g && decide (b ≠ .sorted) && !xs.isEmpty && xs.all notStar && mEs T N sc fb .opd es xs
    | none => false)
  | .isin a t, x => (match asCall x with
    | some (g, [y, z]) => decide (g = "isinstance") && frB T sc g && notStar y && (match t with
      | .bi n => isName z (PySem.Str.ofString n) && frB T sc (PySem.Str.ofString n) && decide (n ∈ askNames)
      | .cl c => isName z c && glB sc c && decide (c ∈ T.tgt)) && mE T N sc fb .opd a y
    | _ => false)
  | .attr a f, x => (match asAttr x with
    | some (p, g) => decide (g = f) && (asName p).isSome && mE T N sc fb .opd a p
    | none => false)
  | .ix a i, x => (match asSub x with
    | some (p, q) => notSlice q && mE T N sc fb .opd a p && mE T N sc fb .opd i q
    | none => false)
  | .sl a lo hi, x => (match asSub x with
    | some (p, q) => (match asSlice q with
      | some (l, h) => mE T N sc fb .opd a p && mO T N sc fb lo l && mO T N sc fb hi h
      | none => false)
    | none => false)
  | .comp own tg s c e, x => decide (m ≠ .tst) && (match asLC x with
    | some (el, tx, it, ifs, scope) => blkC N sc scope own && notSet it && (tg.ixs.all fun i => decide (i ∈ own.map (·.2))) && tgB N (relS scope sc) (Sit.fbk scope) tg tx && mSr T N sc fb false s tx it && mC T N (relS scope sc) (Sit.fbk scope) c ifs && mE T N (relS scope sc) (Sit.fbk scope) .val e el
    | none => false)
  | .nev, _ => true
  | .dct0, x => decide (m ≠ .tst) && (match x with
    | .Dict [] [] _ => true
    | _ => false)
  | .rev a, x => (match asSub x with
    | some (p, q) => (match q with
      | .Slice none none (some (.UnaryOp .USub (.Constant (.int 1) _ _) _)) _ => mE T N sc fb .opd a p
      | _ => false)
    | none => false)
  | .slS a lo hi st, x => (match asSub x with
    | some (p, q) => (match q with
      | .Slice l h (some z) _ => mE T N sc fb .opd a p && mO T N sc fb lo l && mO T N sc fb hi h && mE T N sc fb .val st z
      | _ => false)
    | none => false)
  | .callk f es ks kes perm, x => (match es, x with
    | .nil, .Call (.Name g _) [] kws _ => decide (g = f) && (glB sc f && ((match T.ar f with
      | some ps => kwOk ps ks perm
      | none => false) && (decide (kwNames kws = some ks) && mEs T N sc fb .val kes (kws.map (·.value)))))
    | _, _ => false)
  | .lamv k, x => decide (m ≠ .tst) && (match asLam x with
    | some (ps, body, scope) => fb "<lambda>" && T.lfit k ps body scope
    | none => false)
  | .callv i es, x => (match asCall x with
    | some (f, a :: as) => nmB N sc i f && ((a :: as).all notStar && mEs T N sc fb .val es (a :: as))
    | _ => false)
  | .mk c es, x => (match asCall x with
    | some (f, a :: as) => decide (f = c) && (glB sc c && ((T.ini.lookup c).isSome && ((a :: as).all notStar && mEs T N sc fb .val es (a :: as))))
    | _ => false)
  | .fnv f, x => decide (m ≠ .tst) && (isName x f && (glB sc f && (T.ar f).isSome))
  | .caught e, x => (match asCau x with
    | some (g, ps, body, scope) => decide (g = "_law_caught") && (glB sc g && (T.cau && (fb "<lambda>" && (match dfOf ps with
      | some qs => lamPB sc scope qs N && mE T N scope (fun _ => false) .val e body
      | none => false))))
    | none => false)
  | .refd w e, x => (match asRef x with
    | some (g, v, ps, body, scope) => decide (g = "_law_re_refused") && (decide (v = w) && (glB sc g && (T.cau && (T.rfd && (fb "<lambda>" && ((match T.ar "_law_re_kind" with
      | some ps => decide (ps.length = 1)
      | none => false) && (match dfOf ps with
      | some qs => lamPB sc scope qs N && mE T N scope (fun _ => false) .val e body
      | none => false)))))))
    | none => false)
  | .rep a, x => (match asCall x with
    | some (g, [y]) => decide (g = "repr") && (frB T sc g && (fb "<repr>" && (notStar y && mE T N sc fb .opd a y)))
    | _ => false)
  | .sleft i, x => keyB N sc i "left" x
  | .sturn i, x => keyB N sc i "turn" x
  | .spop i, x => (match asMeth x with
    | some (o, m, [a], pa, pc) => decide (m = "pop") && (pa.endLine == pc.line) && keyB N sc i "great" o && (match asConst a with
      | some (.int k) => decide (k = 0)
      | _ => false)
    | _ => false)
  | .sgreat i, x => (match asCmp x with
    | some (p, [.NotEq], [.List [] _]) => keyB N sc i "great" p
    | _ => false)
  | _, _ => false
def mEs (T : Tab) (N : List Str) (sc : Scope) (fb : Str → Bool) (m : Mode) : Es → List Expr → Bool
  | .nil, [] => true
  | .cons e es, x :: xs => mE T N sc fb m e x && mEs T N sc fb m es xs
  | _, _ => false
def mO (T : Tab) (N : List Str) (sc : Scope) (fb : Str → Bool) : Eo → Option Expr → Bool
  | .no, none => true
  | .yes e, some x => mE T N sc fb .opd e x
  | _, _ => false
def mC (T : Tab) (N : List Str) (sc : Scope) (fb : Str → Bool) : Eo → List Expr → Bool
  | .no, [] => true
  | .yes e, [x] => mE T N sc fb .tst e x
  | _, _ => false
def mSr (T : Tab) (N : List Str) (sc : Scope) (fb : Str → Bool) (f : Bool) : Sr → Expr → Expr → Bool
  | .ex e, _, it => mE T N sc fb (if f then .val else .opd) e it
  | .rng1 es, _, it => (match asCall it with
    | some (g, [x]) => decide (g = "range") && frB T sc g && notStar x && mEs T N sc fb .opd es [x]
    | _ => false)
  | .rng2 es, _, it => (match asCall it with
    | some (g, [x, y]) => decide (g = "range") && frB T sc g && notStar x && notStar y && mEs T N sc fb .opd es [x, y]
    | _ => false)
  | .zip es, tx, it => (asTup tx).isSome && (match asCall it with
    | some (g, [x, y]) => decide (g = "zip") && frB T sc g && notStar x && notStar y && mEs T N sc fb (if f then .val else .opd) es [x, y]
    | _ => false)
  | .enum es, tx, it => (asTup tx).isSome && (match asCall it with
    | some (g, [x]) => decide (g = "enumerate") && frB T sc g && notStar x && mEs T N sc fb (if f then .val else .opd) es [x]
    | _ => false)
  | .cells i, _, it => keyB N sc i "cells" it
end

section
variable {T : Tab} {d : Nat} {P : En} {X : Cx} {E : XK} {N : List Str} {sc : Scope} {fb : Str → Bool}
theorem Sit.blk (S : Sit T d P X E N sc fb) (s : Shared) (H : Hp) (scope : Scope) (C : Addr) (cl : List (Str × Addr)) (fp : List Addr) : Sit T d P (X.blk s H scope (compEnvC scope cl C X.env) fp) (fun _ _ _ => False) N (relS scope sc) (Sit.fbk scope) where
  cn := ⟨S.cn.hK, S.cn.hmg, S.cn.calm, S.cn.nd, S.cn.units, takes0⟩
  hN := S.hN
  hs := by rw [← S.hs] <;> rfl
  hf := fun x h => (Bool.and_eq_true_iff.mp h).1
  room := S.room
  tx := S.tx
  fns := S.fns
  lm := fun h => absurd rfl (of_decide_eq_true (Bool.and_eq_true_iff.mp (Bool.and_eq_true_iff.mp h).2).1)
  gd := fun h => absurd rfl (of_decide_eq_true (Bool.and_eq_true_iff.mp (Bool.and_eq_true_iff.mp h).2).2)
  ini := S.ini
  mks := S.mks
theorem Sit.gl (S : Sit T d P X E N sc fb) {x : Str} (h : glB sc x = true) : Gl X x ∧ (x == ("__debug__" : Str)) = false ∧ x ≠ "__name__" := by
  unfold glB at h
  simp only [Bool.and_eq_true, decide_eq_true_eq, Bool.not_eq_true'] at h
  exact ⟨show X.env.scope.names.lookup x = _ by rw [S.hs]; exact h.1.1, h.1.2, h.2⟩
theorem Sit.fr (S : Sit T d P X E N sc fb) {x : Str} (h : frB T sc x = true) : Gl X x ∧ X.mg x = none ∧ (x == ("__debug__" : Str)) = false ∧ x ≠ "__name__" := by
  unfold frB at h
  simp only [Bool.and_eq_true, decide_eq_true_eq] at h
  obtain ⟨h1, h2, h3⟩ := S.gl h.2
  exact ⟨h1, S.tx.free x h.1, h2, h3⟩
theorem Sit.nm (S : Sit T d P X E N sc fb) {i : Nat} {x : Str} (h : nmB N sc i x = true) : X.N[i]? = some x ∧ Vis X.env.scope x ∧ (x == ("__debug__" : Str)) = false ∧ (x == ("__classdict__" : Str)) = false := by
  unfold nmB at h
  simp only [Bool.and_eq_true, decide_eq_true_eq, Bool.not_eq_true'] at h
  exact ⟨by rw [S.hN]; exact h.1.1.1, by rw [S.hs]; exact visB_ok h.1.1.2, h.1.2, h.2⟩
theorem Sit.tg1 (S : Sit T d P X E N sc fb) {i : Nat} {y : Str} {p : Pos} (h1 : N[i]? = some y) (h2 : locB sc fb y = true) : PG X (.Name y p) (gName i) := by
  obtain ⟨h3, h4⟩ := locB_ok h2
  refine pg_name S.cn.nd (by rw [S.hN]; exact h1) (by rw [S.hs]; exact h3) ?_
  rcases h4 with h4 | h4
  · exact .inl (S.hf _ h4)
  · exact .inr (by rw [S.hs]; exact h4)
theorem Sit.tgs (S : Sit T d P X E N sc fb) : ∀ {is : List Nat} {xs : List Expr}, tgNames N sc fb is xs = true → PGs X xs (gNames is) ∧ (assignEach xs X.env).length = is.length ∧ (assignEach xs X.env).findIdx? (·.1) = none
  | [], [], _ => ⟨pgs_nil, rfl, rfl⟩
  | i :: is, x :: xs, h => by
    simp only [tgNames, Bool.and_eq_true] at h
    obtain ⟨h1, h2⟩ := h
    split at h1
    · rename_i y hy
      obtain ⟨p, rfl⟩ := asName_ok hy
      simp only [Bool.and_eq_true, decide_eq_true_eq] at h1
      obtain ⟨q1, q2, q3⟩ := S.tgs h2
      refine ⟨pgs_cons (S.tg1 h1.1 h1.2) q1, ?_, ?_⟩
      · show (assignEach xs X.env).length + 1 = is.length + 1
        rw [q2]
      · show ((false, assign (.Name y p) X.env) :: assignEach xs X.env).findIdx? (·.1) = none
        rw [List.findIdx?_cons, if_neg (by simp), q3] <;> rfl
    · cases h1
  | [], _ :: _, h => by simp [tgNames] at h
  | _ :: _, [], h => by simp [tgNames] at h
theorem Sit.tg (S : Sit T d P X E N sc fb) {t : Tg} {x : Expr} (h : tgB N sc fb t x = true) : PG X x (gTg X.K t) := by
  cases t with
  | nm i =>
    simp only [tgB] at h
    split at h
    · rename_i y hy
      obtain ⟨p, rfl⟩ := asName_ok hy
      simp only [Bool.and_eq_true, decide_eq_true_eq] at h
      exact S.tg1 h.1 h.2
    · cases h
  | tp is =>
    simp only [tgB] at h
    split at h
    · rename_i y hy
      obtain ⟨k, p, rfl⟩ := asTup_ok hy
      obtain ⟨q1, q2, q3⟩ := S.tgs h
      exact pg_tup S.cn.calm q1 q2 q3
    · cases h
end

def OkE (T : Tab) (d : Nat) (P : En) (e : Mi.E) : Prop := ∀ (X : Cx) (E : XK) (N : List Str) (sc : Scope) (fb : Str → Bool), Sit T d P X E N sc fb →
  (∀ x, mE T N sc fb .val e x = true → PE X x (tE P (wE E) (evE (gam T d) e))) ∧ (∀ x, mE T N sc fb .opd e x = true → PE X x (tO P (wE E) (evE (gam T d) e))) ∧ (∀ x, mE T N sc fb .tst e x = true → PT X x (tV P (wE E) (evE (gam T d) e)))
def OkEs (T : Tab) (d : Nat) (P : En) (es : Es) : Prop := ∀ (X : Cx) (E : XK) (N : List Str) (sc : Scope) (fb : Str → Bool), Sit T d P X E N sc fb →
  (∀ xs, xs.all notStar = true → mEs T N sc fb .opd es xs = true → PA X xs (tOs P (wE E) (evEs (gam T d) es))) ∧
  (∀ xs, xs.all notStar = true → mEs T N sc fb .val es xs = true → PA X xs (tEs P (wE E) (evEs (gam T d) es)) ∧ PA X xs (tR P (wE E) (evR (gam T d) es))) ∧
  (∀ xs pos, mEs T N sc fb .opd es xs = true → PE X (.BoolOp .And xs pos) (tE P (wE E) (wAnd (gam T d) es)) ∧ PE X (.BoolOp .Or xs pos) (tE P (wE E) (wOr (gam T d) es))) ∧
  (∀ xs pos, mEs T N sc fb .tst es xs = true → PW X (.BoolOp .And xs pos) (tV P (wE E) (wAnd (gam T d) es)) ∧ PW X (.BoolOp .Or xs pos) (tV P (wE E) (wOr (gam T d) es))) ∧
  (∀ kws : List Keyword, mEs T N sc fb .val es (kws.map (·.value)) = true → PK X kws (tEs P (wE E) (evEs (gam T d) es)))
def OkO (T : Tab) (d : Nat) (P : En) (e : Eo) : Prop := ∀ (X : Cx) (E : XK) (N : List Str) (sc : Scope) (fb : Str → Bool), Sit T d P X E N sc fb →
  (∀ x, mO T N sc fb e x = true → PO X x (tOo P (wE E) (evO (gam T d) e))) ∧ (E = (fun _ _ _ => False) → ∀ x, mC T N sc fb e x = true → PTs X x (tCt P (evC (gam T d) e)))
def OkSr (T : Tab) (d : Nat) (P : En) (e : Sr) : Prop := ∀ (X : Cx) (E : XK) (N : List Str) (sc : Scope) (fb : Str → Bool), Sit T d P X E N sc fb →
  ∀ f tx x, mSr T N sc fb f e tx x = true → PI X tx x (tI f P (wE E) (evS (gam T d) e))
section
variable {T : Tab} {d : Nat} {P : En}
theorem ok_gen {X : Cx} {E : XK} {N : List Str} {sc : Scope} {fb : Str → Bool} {e : Mi.E} (S : Sit T d P X E N sc fb) (h : ∀ m x, mE T N sc fb m e x = true → PE X x (tE P (wE E) (evE (gam T d) e)) ∧ (m = .tst → plainT x = true)) :
    (∀ x, mE T N sc fb .val e x = true → PE X x (tE P (wE E) (evE (gam T d) e))) ∧ (∀ x, mE T N sc fb .opd e x = true → PE X x (tO P (wE E) (evE (gam T d) e))) ∧ (∀ x, mE T N sc fb .tst e x = true → PT X x (tV P (wE E) (evE (gam T d) e))) :=
  ⟨fun x hx => (h _ x hx).1, fun x hx => okO (h _ x hx).1, fun x hx => v_gen S.cn (okO (h _ x hx).1) (plainT_ok ((h _ x hx).2 rfl) X.env)⟩
theorem ok_var (i : Nat) : OkE T d P (.var i) := fun X E N sc fb S => ok_gen S fun m x h => by
  simp only [mE] at h
  split at h
  · rename_i y hy
    obtain ⟨p, rfl⟩ := asName_ok hy
    obtain ⟨q1, q2, q3, q4⟩ := S.nm h
    exact ⟨o_var q1 q2 q3 q4, fun _ => rfl⟩
  · cases h
theorem ok_pk (i : Nat) : OkE T d P (.pk i) := fun X E N sc fb S => by
  have key : ∀ m x, mE T N sc fb m (.pk i) x = true → m ≠ .val ∧ PE X x (tO P (wE E) (evE (gam T d) (.pk i))) ∧ plainT x = true := fun m x h => by
    simp only [mE, Bool.and_eq_true, decide_eq_true_eq] at h
    obtain ⟨hm, h⟩ := h
    split at h
    · rename_i y hy
      obtain ⟨p, rfl⟩ := asName_ok hy
      obtain ⟨q1, q2, q3, q4⟩ := S.nm h
      exact ⟨hm, o_pk q1 q2 q3 q4, rfl⟩
    · cases h
  exact ⟨fun x hx => absurd rfl (key _ x hx).1, fun x hx => (key _ x hx).2.1, fun x hx => v_gen S.cn (key _ x hx).2.1 (plainT_ok (key _ x hx).2.2 X.env)⟩
theorem ok_cint (n : Int) : OkE T d P (.cint n) := fun X E N sc fb S => ok_gen S fun m x h => by
  simp only [mE] at h
  split at h
  · rename_i k hy
    obtain ⟨j, p, rfl⟩ := asConst_ok hy
    obtain rfl := of_decide_eq_true h
    exact ⟨o_con pe_int (fun G => .int _) (fun ρ μ k kx h => by simpa only [evE] using h), fun _ => rfl⟩
  · cases h
theorem ok_cbl (n : Bool) : OkE T d P (.cbl n) := fun X E N sc fb S => ok_gen S fun m x h => by
  simp only [mE] at h
  split at h
  · rename_i k hy
    obtain ⟨j, p, rfl⟩ := asConst_ok hy
    obtain rfl := of_decide_eq_true h
    exact ⟨o_con pe_bl (fun G => .bl _) (fun ρ μ k kx h => by simpa only [evE] using h), fun _ => rfl⟩
  · cases h
theorem ok_cstr (n : Str) : OkE T d P (.cstr n) := fun X E N sc fb S => ok_gen S fun m x h => by
  simp only [mE] at h
  split at h
  · rename_i k hy
    obtain ⟨j, p, rfl⟩ := asConst_ok hy
    obtain rfl := of_decide_eq_true h
    exact ⟨o_con pe_str (fun G => .str _) (fun ρ μ k kx h => by simpa only [evE] using h), fun _ => rfl⟩
  · cases h
theorem ok_cnon : OkE T d P .cnon := fun X E N sc fb S => ok_gen S fun m x h => by
  simp only [mE] at h
  split at h
  · rename_i hy
    obtain ⟨j, p, rfl⟩ := asConst_ok hy
    exact ⟨o_con pe_non (fun G => .non) (fun ρ μ k kx h => by simpa only [evE] using h), fun _ => rfl⟩
  · cases h
theorem isName_ok {x : Expr} {y : Str} (h : isName x y = true) : ∃ p, x = .Name y p := by
  unfold isName at h
  split at h
  · rename_i z hz
    obtain rfl := of_decide_eq_true h
    exact asName_ok hz
  · cases h
theorem ok_cst (c : Str) : OkE T d P (.cst c) := fun X E N sc fb S => ok_gen S fun m x h => by
  simp only [mE, Bool.and_eq_true] at h
  obtain ⟨⟨h1, h2⟩, h3⟩ := h
  obtain ⟨p, rfl⟩ := isName_ok h1
  obtain ⟨i, hi⟩ := Option.isSome_iff_exists.mp h3
  obtain ⟨t, ht⟩ := S.tx.int c i hi
  obtain ⟨g1, g2, g3⟩ := S.gl h2
  exact ⟨o_con (v := .int i) (pe_glob (v := .int i) g1 ht ⟨_, rfl⟩ g2) (fun G => .int _) (fun ρ μ k kx h => by
    simp only [evE, gam_cst, hi, Option.map_some] at h
    exact h), fun _ => rfl⟩
theorem ok_tup {es : Es} (he : OkEs T d P es) : OkE T d P (.tup es) := fun X E N sc fb S => ok_gen S fun m x h => by
  simp only [mE, Bool.and_eq_true, decide_eq_true_eq] at h
  obtain ⟨hm, h⟩ := h
  split at h
  · rename_i y hy
    obtain ⟨j, p, rfl⟩ := asTup_ok hy
    simp only [Bool.and_eq_true] at h
    exact ⟨o_tup ((he X E N sc fb S).2.1 _ h.1 h.2).1, fun e => absurd e hm⟩
  · cases h
theorem ok_lst {es : Es} (he : OkEs T d P es) : OkE T d P (.lst es) := fun X E N sc fb S => ok_gen S fun m x h => by
  simp only [mE, Bool.and_eq_true, decide_eq_true_eq] at h
  obtain ⟨hm, h⟩ := h
  split at h
  · rename_i y hy
    obtain ⟨p, rfl⟩ := asLst_ok hy
    simp only [Bool.and_eq_true] at h
    exact ⟨o_lst ((he X E N sc fb S).2.1 _ h.1 h.2).1, fun e => absurd e hm⟩
  · cases h
theorem ok_bin {o : Op} {a b : Mi.E} (ha : OkE T d P a) (hb : OkE T d P b) : OkE T d P (.bin o a b) := fun X E N sc fb S => ok_gen S fun m x h => by
  simp only [mE] at h
  split at h
  · rename_i p q r hy
    obtain ⟨j, rfl⟩ := asBin_ok hy
    simp only [Bool.and_eq_true, decide_eq_true_eq] at h
    obtain rfl := opOf_ok h.1.1
    exact ⟨o_bin S.cn ((ha X E N sc fb S).2.1 _ h.1.2) ((hb X E N sc fb S).2.1 _ h.2), fun _ => rfl⟩
  · cases h
theorem ok_neg {a : Mi.E} (ha : OkE T d P a) : OkE T d P (.neg a) := fun X E N sc fb S => ok_gen S fun m x h => by
  simp only [mE, Bool.and_eq_true, decide_eq_true_eq] at h
  obtain ⟨hm, h⟩ := h
  split at h
  · rename_i p hy
    obtain ⟨j, rfl⟩ := asUn_ok hy
    exact ⟨o_neg ((ha X E N sc fb S).2.1 _ h), fun e => absurd e hm⟩
  · cases h
theorem ok_not {a : Mi.E} (ha : OkE T d P a) : OkE T d P (.not a) := fun X E N sc fb S => by
  have key : ∀ m, m ≠ .tst → ∀ x, mE T N sc fb m (.not a) x = true → PE X x (tE P (wE E) (evE (gam T d) (.not a))) := fun m hm x h => by
    simp only [mE] at h
    split at h
    · rename_i p hy
      obtain ⟨j, rfl⟩ := asUn_ok hy
      rw [if_neg hm] at h
      exact o_not ((ha X E N sc fb S).2.1 _ h)
    · cases h
  refine ⟨key _ (by decide), fun x hx => okO (key _ (by decide) x hx), fun x h => ?_⟩
  simp only [mE] at h
  split at h
  · rename_i p hy
    obtain ⟨j, rfl⟩ := asUn_ok hy
    exact v_not ((ha X E N sc fb S).2.2 _ h)
  · cases h
theorem ok_and {es : Es} (he : OkEs T d P es) : OkE T d P (.and es) := fun X E N sc fb S => by
  have ew : evE (gam T d) (.and es) = wAnd (gam T d) es := by
    funext ρ μ k kx
    simp only [evE, wAnd]
  have key : ∀ m, m ≠ .tst → ∀ x, mE T N sc fb m (.and es) x = true → PE X x (tE P (wE E) (evE (gam T d) (.and es))) := fun m hm x h => by
    simp only [mE] at h
    split at h
    · rename_i p hy
      obtain ⟨j, rfl⟩ := asBool_ok hy
      rw [if_neg hm] at h
      rw [ew]
      exact ((he X E N sc fb S).2.2.1 _ _ h).1
    · cases h
  refine ⟨key _ (by decide), fun x hx => okO (key _ (by decide) x hx), fun x h => ?_⟩
  simp only [mE] at h
  split at h
  · rename_i p hy
    obtain ⟨j, rfl⟩ := asBool_ok hy
    rw [ew]
    exact ((he X E N sc fb S).2.2.2.1 _ _ h).1.pt
  · cases h
theorem ok_or {es : Es} (he : OkEs T d P es) : OkE T d P (.or es) := fun X E N sc fb S => by
  have ew : evE (gam T d) (.or es) = wOr (gam T d) es := by
    funext ρ μ k kx
    simp only [evE, wOr]
  have key : ∀ m, m ≠ .tst → ∀ x, mE T N sc fb m (.or es) x = true → PE X x (tE P (wE E) (evE (gam T d) (.or es))) := fun m hm x h => by
    simp only [mE] at h
    split at h
    · rename_i p hy
      obtain ⟨j, rfl⟩ := asBool_ok hy
      rw [if_neg hm] at h
      rw [ew]
      exact ((he X E N sc fb S).2.2.1 _ _ h).2
    · cases h
  refine ⟨key _ (by decide), fun x hx => okO (key _ (by decide) x hx), fun x h => ?_⟩
  simp only [mE] at h
  split at h
  · rename_i p hy
    obtain ⟨j, rfl⟩ := asBool_ok hy
    rw [ew]
    exact ((he X E N sc fb S).2.2.2.1 _ _ h).2.pt
  · cases h
theorem ok_cmp {o : Cp} {a b : Mi.E} (ha : OkE T d P a) (hb : OkE T d P b) : OkE T d P (.cmp o a b) := fun X E N sc fb S => by
  have key : ∀ m x, mE T N sc fb m (.cmp o a b) x = true → ∃ p r j, x = .Compare p [o.py] [r] j ∧ notSet r = true ∧ PE X p (tO P (wE E) (evE (gam T d) a)) ∧ PE X r (tO P (wE E) (evE (gam T d) b)) := fun m x h => by
    simp only [mE] at h
    split at h
    · rename_i p q r hy
      obtain ⟨j, rfl⟩ := asCmp_ok hy
      simp only [Bool.and_eq_true, decide_eq_true_eq] at h
      obtain rfl := cpOf_ok h.1.1.1
      exact ⟨p, r, j, rfl, h.1.1.2, (ha X E N sc fb S).2.1 _ h.1.2, (hb X E N sc fb S).2.1 _ h.2⟩
    · cases h
  refine ⟨fun x h => ?_, fun x h => ?_, fun x h => ?_⟩ <;> obtain ⟨p, r, j, rfl, h1, h2, h3⟩ := key _ x h
  · exact o_cmp S.cn h2 h3 (nobeh_of h1)
  · exact okO (o_cmp S.cn h2 h3 (nobeh_of h1))
  · exact v_cmp S.cn h2 h3 (nobeh_of h1)
theorem ok_chain {o o' : Cp} {a b c : Mi.E} (ha : OkE T d P a) (hb : OkE T d P b) (hc : OkE T d P c) : OkE T d P (.chain o o' a b c) := fun X E N sc fb S => by
  have key : ∀ m x, mE T N sc fb m (.chain o o' a b c) x = true → ∃ p r t j, x = .Compare p [o.py, o'.py] [r, t] j ∧ notSet t = true ∧ PE X p (tO P (wE E) (evE (gam T d) a)) ∧ PE X r (tO P (wE E) (evE (gam T d) b)) ∧ PE X t (tO P (wE E) (evE (gam T d) c)) := fun m x h => by
    simp only [mE] at h
    split at h
    · rename_i p q q' r t hy
      obtain ⟨j, rfl⟩ := asCmp_ok hy
      simp only [Bool.and_eq_true, decide_eq_true_eq] at h
      obtain rfl := cpOf_ok h.1.1.1.1.1
      obtain rfl := cpOf_ok h.1.1.1.1.2
      exact ⟨p, r, t, j, rfl, h.1.1.1.2, (ha X E N sc fb S).2.1 _ h.1.1.2, (hb X E N sc fb S).2.1 _ h.1.2, (hc X E N sc fb S).2.1 _ h.2⟩
    · cases h
  refine ⟨fun x h => ?_, fun x h => ?_, fun x h => ?_⟩ <;> obtain ⟨p, r, t, j, rfl, h1, h2, h3, h4⟩ := key _ x h
  · exact o_chain S.cn h2 h3 h4 (show behindInMarks _ t = false from nobeh_of h1)
  · exact okO (o_chain S.cn h2 h3 h4 (show behindInMarks _ t = false from nobeh_of h1))
  · exact v_chain S.cn h2 h3 h4 (show behindInMarks _ t = false from nobeh_of h1)
theorem ok_isn {a : Mi.E} (ha : OkE T d P a) : OkE T d P (.isn a) := fun X E N sc fb S => by
  have key : ∀ m x, mE T N sc fb m (.isn a) x = true → ∃ p j k' j', x = .Compare p [.Is] [.Constant .none j k'] j' ∧ PE X p (tO P (wE E) (evE (gam T d) a)) := fun m x h => by
    simp only [mE] at h
    split at h
    · rename_i p _ _ hy
      obtain ⟨j, rfl⟩ := asCmp_ok hy
      exact ⟨_, _, _, _, rfl, (ha X E N sc fb S).2.1 _ h⟩
    · cases h
  refine ⟨fun x h => ?_, fun x h => ?_, fun x h => ?_⟩ <;> obtain ⟨p, j, k', j', rfl, h2⟩ := key _ x h
  · exact o_isn h2
  · exact okO (o_isn h2)
  · exact v_isn h2
theorem ok_nisn {a : Mi.E} (ha : OkE T d P a) : OkE T d P (.nisn a) := fun X E N sc fb S => by
  have key : ∀ m x, mE T N sc fb m (.nisn a) x = true → ∃ p j k' j', x = .Compare p [.IsNot] [.Constant .none j k'] j' ∧ PE X p (tO P (wE E) (evE (gam T d) a)) := fun m x h => by
    simp only [mE] at h
    split at h
    · rename_i p _ _ hy
      obtain ⟨j, rfl⟩ := asCmp_ok hy
      exact ⟨_, _, _, _, rfl, (ha X E N sc fb S).2.1 _ h⟩
    · cases h
  refine ⟨fun x h => ?_, fun x h => ?_, fun x h => ?_⟩ <;> obtain ⟨p, j, k', j', rfl, h2⟩ := key _ x h
  · exact o_nisn h2
  · exact okO (o_nisn h2)
  · exact v_nisn h2
theorem ok_isb {k : Bool} {a : Mi.E} (ha : OkE T d P a) : OkE T d P (.isb k a) := fun X E N sc fb S => by
  have key : ∀ m x, mE T N sc fb m (.isb k a) x = true → ∃ p j k' j', x = .Compare p [.Is] [.Constant (.bool k) j k'] j' ∧ PE X p (tO P (wE E) (evE (gam T d) a)) := fun m x h => by
    simp only [mE] at h
    split at h
    · rename_i p _ _ _ hy
      obtain ⟨j, rfl⟩ := asCmp_ok hy
      simp only [Bool.and_eq_true, decide_eq_true_eq] at h
      obtain ⟨rfl, h⟩ := h
      exact ⟨_, _, _, _, rfl, (ha X E N sc fb S).2.1 _ h⟩
    · cases h
  refine ⟨fun x h => ?_, fun x h => ?_, fun x h => ?_⟩ <;> obtain ⟨p, j, k', j', rfl, h2⟩ := key _ x h
  · exact o_isb h2
  · exact okO (o_isb h2)
  · exact v_isb h2
theorem ok_ite {c a b : Mi.E} (hc : OkE T d P c) (ha : OkE T d P a) (hb : OkE T d P b) : OkE T d P (.ite c a b) := fun X E N sc fb S => ok_gen S fun m x h => by
  simp only [mE, Bool.and_eq_true, decide_eq_true_eq] at h
  obtain ⟨hm, h⟩ := h
  split at h
  · rename_i p q r hy
    obtain ⟨j, rfl⟩ := asIf_ok hy
    simp only [Bool.and_eq_true] at h
    exact ⟨o_ite ((hc X E N sc fb S).2.2 _ h.1.1) ((ha X E N sc fb S).1 _ h.1.2) ((hb X E N sc fb S).1 _ h.2), fun e => absurd e hm⟩
  · cases h
end
end Mi
end

section
-- MiniLA
set_option Elab.async false
set_option linter.all false
set_option maxRecDepth 100000
set_option maxHeartbeats 4000000
/-! Mini, part LA: lambdas that capture nothing, as values -/
namespace Mi
open PySem PySem.Spec PyProof.Rows L2
theorem clo_nil {cells : List (Str × Addr)} : ∀ {names : List (Str × NameKind)} {acc : List (Str × Addr)}, (∀ y ∈ names, y.2 ≠ .free) → cloFrom cells names acc = acc
  | [], _, _ => rfl
  | (n, k) :: r, acc, h => by
    unfold cloFrom
    have : (k == NameKind.free) = false := beq_false_of_ne (h (n, k) (by simp))
    rw [this]
    exact clo_nil fun y hy => h y (List.mem_cons_of_mem _ hy)
section
variable {X : Cx} {pins : List (Addr × Obj)} {σ : L2.St} {H : Hp} {s : Shared}
theorem lamO_ok {P : Program} {w : World} {H : Hp} {h : Heap} {a c' : Addr} {q : Str} {params : Arguments} {body : Expr} {scope : Scope} {pm ctv : Value} (e : h.get? a = some (PySem.W.kla_obj "<lambda>" q params body scope [] pm c' ctv)) : ObjOk P w H h a (LamO a c' q params body scope) :=
  ⟨⟨pm, ctv, e⟩, ⟨_, e⟩, fun h1 h2 ⟨p2, c2, z⟩ st => ⟨p2, c2, st _ z⟩⟩
/-- a lambda is made, and known -/
theorem lam_make6 {c Pa : Addr} {ps : Array Value} {params : Arguments} {body : Expr} {scope : Scope} {pos : Pos} {E : Value → Shared → Prop} {Q : Value → Shared → Prop} (I : Inv X pins σ H s) (TB : LamX.TabB X.base X.mg c Pa) (hcode : X.env.code = .ref c)
    (hT : TabAt H Pa (X.env.qual ++ "<lambda>") ps) (hdef : defaultsOf params X.env = ([], [])) (hfree : ∀ y ∈ scope.names, y.2 ≠ .free)
    (h : ∀ (f c' : Addr) (H1 : Hp) (s' : Shared), TabStep H Pa (X.env.qual ++ "<lambda>") ps H1 → H1 f = none → H1 c' = some (LamX.CodeO c' (X.env.qual ++ "<lambda>")) → (H c' = none ∨ ∃ p, codeAmong p ps.toList = some (.ref c')) →
      Inv X pins σ (upd H1 f (LamO f c' (X.env.qual ++ "<lambda>") params body scope)) s' → Q (.ref f) s') :
    wpAny (model X.prog X.w) X.A (eval (.Lambda params body scope pos) X.env) Q E s := by
  obtain ⟨hP, ht, ha⟩ := hT
  have nocap : cloFrom X.env.cells scope.names [] = [] := clo_nil hfree
  have hfree' : ∀ y ∈ scope.names, y.2 = .free → ∃ c, X.env.cells.lookup y.1 = some c := fun y hy e => absurd e (hfree y hy)
  refine PySem.W.kla_eval hdef ?_
  have bltP : s.heap.BuiltinsAt X.mg Pa := TB.bm.keeps I.bk
  have tabP : s.heap.get? Pa = some { cls := .none, data := .fields ps } := I.hok Pa _ hP
  cases hc : codeAmong pos ps.toList with
  | some cv =>
    obtain ⟨c', rfl, hco⟩ := ha pos cv hc
    refine PySem.W.kla_makeFunctionHit (mg := X.mg) (c := c) (P := Pa) (ps := ps) (closure_ok hfree') I.ok.glob (I.mod.glob.keeps I.bk) hcode (TB.code.keeps I.bk) tabP ht hc bltP fun ctv h' tk hx hsz => ?_
    rw [nocap]
    have hget : (h'.push (PySem.W.kla_obj "<lambda>" (X.env.qual ++ "<lambda>") params body scope [] ((X.mg "__name__").getD .none) c' ctv)).get? h'.objs.size = some (PySem.W.kla_obj "<lambda>" (X.env.qual ++ "<lambda>") params body scope [] ((X.mg "__name__").getD .none) c' ctv) := Heap.get?_push_size _ rfl
    exact h h'.objs.size c' H _ (.inl rfl) (I.hok.fresh hsz) hco (.inr ⟨pos, hc⟩) (I.laid (fun b o e => Heap.get?_push_of_some _ (hx b o e)) hsz (lamO_ok hget))
  | none =>
    refine PySem.W.kla_makeFunction (mg := X.mg) (c := c) (P := Pa) (ps := ps) (closure_ok hfree') I.ok.glob (I.mod.glob.keeps I.bk) hcode (TB.code.keeps I.bk) tabP ht hc TB.gP bltP fun c' ctv h' tk hx hge hlt hrec htb => ?_
    rw [nocap]
    obtain ⟨c2, oc, vs, t, e2, hoc, hd, hv⟩ := hrec
    cases e2
    have grown : s.heap.objs.size ≤ h'.objs.size := Nat.le_trans hge (Nat.le_of_lt hlt)
    have newC : H c' = none := I.hok.fresh hge
    have eL : (ps ++ #[rawInt pos.line, rawInt pos.col, .ref c']).toList = ps.toList ++ [rawInt pos.line, rawInt pos.col, .ref c'] := by simp
    have J := LamX.inv_table (t' := tk) (q := X.env.qual ++ "<lambda>") (more := #[rawInt pos.line, rawInt pos.col, .ref c']) (h' := h') I hP (fun b o hb e => hx b o hb e) htb hge ⟨oc, vs, t, hoc, hd, hv⟩
    have hget : (h'.push (PySem.W.kla_obj "<lambda>" (X.env.qual ++ "<lambda>") params body scope [] ((X.mg "__name__").getD .none) c' ctv)).get? h'.objs.size = some (PySem.W.kla_obj "<lambda>" (X.env.qual ++ "<lambda>") params body scope [] ((X.mg "__name__").getD .none) c' ctv) := Heap.get?_push_size _ rfl
    have nf : (upd (upd H Pa (.tbl (ps ++ #[rawInt pos.line, rawInt pos.col, .ref c']))) c' (LamX.CodeO c' (X.env.qual ++ "<lambda>"))) h'.objs.size = none := J.hok.fresh (Nat.le_refl _)
    refine h h'.objs.size c' _ _ (.inr ⟨c', _, newC, by rw [eL]; exact PySem.TriplesOk_snoc _ _ _ _ ht, fun p' cv hcv => ?_, rfl⟩) nf upd_same (.inl newC) (J.laid (t' := tk) (fun b o e => Heap.get?_push_of_some _ e) (Nat.le_refl _) (lamO_ok hget))
    rw [eL] at hcv
    exact LamX.among_app _ ht hcv
end
section
variable {X : Cx} {P : En} {W : Wex} {Γ : Gam}
theorem o_lamv {k j : Nat} {c Pa : Addr} {params : Arguments} {body : Expr} {scope : Scope} {pos : Pos} (hP : P.lam k params body scope) (hj : P.tb[j]? = some (Pa, X.env.qual ++ "<lambda>")) (TB : LamX.TabB X.base X.mg c Pa) (hcode : X.env.code = .ref c) (hdef : defaultsOf params X.env = ([], [])) (hfree : ∀ y ∈ scope.names, y.2 ≠ .free) :
    PE X (.Lambda params body scope pos) (tE P W (evE Γ (.lamv k))) := by
  refine ⟨fun pins s σ H Q I ⟨He, G, ρ, μ, k', kx, w0, sl, hw, t, tx⟩ => ?_⟩
  simp only [evE] at hw
  obtain ⟨ps, hT, hc, st⟩ := wf_step2 (H1 := H) w0 hj
  refine lam_make6 I TB hcode hT hdef hfree fun f c' H1 s' hs nf hco hor J => ?_
  obtain ⟨G1, e1, w1, k1⟩ := st H1 hs
  have gF : G1.F c' = some (LamX.CodeO c' (X.env.qual ++ "<lambda>")) := k1 c' hco (hor.imp id fun ⟨p, hp⟩ => by
    obtain ⟨c2, z1, z2⟩ := hc p _ hp
    cases z1
    exact z2)
  have e2 := Ext.new (o := LamO f c' (X.env.qual ++ "<lambda>") params body scope) w1 nf
  exact ⟨.ref f, _, J, rfl, t _ μ _ (.clo k []) (.ref f) (e1.trans e2) (w1.new nf) (.of (.clo hP upd_same (e2.le _ _ gF))) hw⟩
end
end Mi
end

section
-- MiniB
set_option Elab.async false
set_option linter.all false
set_option maxRecDepth 100000
set_option maxHeartbeats 4000000
/-! Mini, part B: how arguments come to parameters -/
namespace Mi
open PySem PySem.Spec PyProof.Rows L2
theorem fm_congr {α β : Type} {f g : α → Option β} : ∀ {l : List α}, (∀ x ∈ l, f x = g x) → l.filterMap f = l.filterMap g
  | [], _ => rfl
  | x :: l, h => by
    rw [List.filterMap_cons, List.filterMap_cons, h x (by simp), fm_congr fun y hy => h y (List.mem_cons_of_mem _ hy)]
theorem zip_look {α β : Type} [BEq α] [LawfulBEq α] : ∀ {ps : List α} {us : List β}, us.length = ps.length → ps.Nodup → (ps.filterMap fun n => ((ps.zip us).lookup n).map fun v => (n, v)) = ps.zip us
  | [], [], _, _ => rfl
  | p :: ps, u :: us, h, nd => by
    obtain ⟨h1, h2⟩ := List.nodup_cons.mp nd
    have ih := zip_look (ps := ps) (us := us) (by simpa using h) h2
    simp only [List.zip_cons_cons, List.filterMap_cons, List.lookup_cons, beq_self_eq_true, Option.map_some]
    congr 1
    rw [← ih]
    apply fm_congr
    intro x hx
    have : (x == p) = false := beq_false_of_ne fun e => h1 (e ▸ hx)
    simp only [this, ih]
theorem zip_has {α β : Type} [BEq α] [LawfulBEq α] : ∀ {ps : List α} {us : List β}, us.length = ps.length → ∀ n ∈ ps, ((ps.zip us).lookup n).isNone = false
  | [], _, _, n, h => by simp at h
  | p :: ps, [], h, _, _ => by simp at h
  | p :: ps, u :: us, h, n, hn => by
    by_cases e : n = p
    · subst e; simp
    · have hb : (n == p) = false := beq_false_of_ne e
      simp only [List.zip_cons_cons, List.lookup_cons, hb]
      exact zip_has (by simpa using h) n (by simpa [e] using hn)
theorem none_in {α : Type} {f : α → Bool} {l : List α} (h : ∀ n ∈ l, f n = false) : l.filter f = [] := by
  rw [List.filter_eq_nil_iff]
  intro a ha
  rw [h a ha]; simp
theorem bind_plain {fd : FuncData} {as : List PySem.Arg} {us : List Value} (hp : fd.params = ⟨[], as, none, [], [], none, []⟩) (hd : fd.defaults = .none) (nd : (as.map (·.arg)).Nodup) (hl : us.length = (as.map (·.arg)).length) :
    bindArgs fd ⟨us, []⟩ = pure ((as.map (·.arg)).zip us) := by
  have hf := zip_look hl nd
  have e1 : ¬ (as.length < us.length) := by simp at hl; omega
  have e2 : ((as.map (·.arg)).take as.length).filter (fun n => (((as.map (·.arg)).zip us).lookup n).isNone) = [] := none_in fun n hn => zip_has hl n (List.mem_of_mem_take hn)
  have e3 : notAStandIn Value.none = pure () := rfl
  rw [List.filterMap_map] at hf
  unfold bindArgs
  rw [hp, hd]
  simp [seqItems?, e1, e2, e3, hf]
theorem fi_app {α β : Type} {B : α → List α × List β → Sem (ForInStep (List α × List β))} : ∀ (l s0 : List α), (∀ pre x post, l = pre ++ x :: post → B x (s0 ++ pre, []) = pure (.yield (s0 ++ pre ++ [x], []))) → (forIn l (s0, []) B : Sem _) = pure (s0 ++ l, [])
  | [], s0, _ => by simp
  | x :: l, s0, h => by
    have h0 := h [] x l rfl
    rw [List.append_nil] at h0
    rw [List.forIn_cons, h0]
    simp only [pure_bind]
    rw [fi_app l (s0 ++ [x]) fun pre y post e => by
      have := h (x :: pre) y post (by rw [e]; rfl)
      simpa using this]
    simp
theorem look_app {α β : Type} [BEq α] {n : α} : ∀ {a b : List (α × β)}, (a ++ b).lookup n = match a.lookup n with
    | some v => some v
    | none => b.lookup n
  | [], _ => by simp
  | (x, y) :: a, b => by
    simp only [List.cons_append, List.lookup_cons]
    cases n == x with
    | true => rfl
    | false => exact look_app
theorem look_none {α β : Type} [BEq α] [LawfulBEq α] {n : α} : ∀ {a : List (α × β)}, n ∉ a.map (·.1) → a.lookup n = none
  | [], _ => rfl
  | (x, y) :: a, h => by
    simp only [List.map_cons, List.mem_cons, not_or] at h
    have hb : (n == x) = false := beq_false_of_ne h.1
    simp only [List.lookup_cons, hb]
    exact look_none h.2
theorem look_some {α β : Type} [BEq α] [LawfulBEq α] {n : α} : ∀ {a : List (α × β)}, n ∈ a.map (·.1) → (a.lookup n).isNone = false
  | (x, y) :: a, h => by
    simp only [List.map_cons, List.mem_cons] at h
    by_cases e : n = x
    · subst e; simp
    · have hb : (n == x) = false := beq_false_of_ne e
      simp only [List.lookup_cons, hb]
      exact look_some (by rcases h with h | h; · exact absurd h e
                          · exact h)
theorem fst_zip {α β : Type} : ∀ (a : List α) (b : List β), (a.zip b).map (·.1) = a.take b.length
  | [], _ => by simp
  | _ :: _, [] => by simp
  | x :: a, y :: b => by simp [fst_zip a b]
/-- by keywords too -/
theorem bind_kw {fd : FuncData} {as : List PySem.Arg} {us ws : List Value} {ks : List Str} (hp : fd.params = ⟨[], as, none, [], [], none, []⟩) (hd : fd.defaults = .none)
    (hw : ws.length = ks.length) (hu : us.length ≤ as.length) (hk : ∀ k ∈ ks, k ∈ as.map (·.arg)) (nk : ks.Nodup) (hn : ∀ k ∈ ks, k ∉ (as.map (·.arg)).take us.length) (hall : ∀ p ∈ as.map (·.arg), p ∈ (as.map (·.arg)).take us.length ∨ p ∈ ks) :
    bindArgs fd ⟨us, ks.zip ws⟩ = pure ((as.map (·.arg)).filterMap fun n => (((as.map (·.arg)).zip us ++ ks.zip ws).lookup n).map fun v => (n, v)) := by
  have k1 : (ks.zip ws).map (·.1) = ks := List.map_fst_zip (by omega)
  have k2 : ((as.map (·.arg)).zip us).map (·.1) = (as.map (·.arg)).take us.length := by
    exact fst_zip _ _
  unfold bindArgs
  rw [hp, hd]
  simp only [List.map_nil, List.nil_append, List.append_nil]
  rw [fi_app (ks.zip ws) ((as.map (·.arg)).zip us) fun pre x post e => ?_]
  · have e1 : ¬ (as.length < us.length) := by omega
    have e2 : (as.map (·.arg)).filter (fun n => (((as.map (·.arg)).zip us ++ ks.zip ws).lookup n).isNone) = [] := none_in fun n hn => look_some (by
      rw [List.map_append, k1, k2, List.mem_append]
      exact hall n hn)
    have e3 : notAStandIn Value.none = pure () := rfl
    have e4 : (as.map (·.arg)).take as.length = as.map (·.arg) := List.take_of_length_le (by simp)
    simp [seqItems?, e1, e3, e4, e2]
    try (rw [List.filterMap_map]; rfl)
  · have hx : x ∈ ks.zip ws := by rw [e]; simp
    have m1 : x.1 ∈ ks := by rw [← k1]; exact List.mem_map_of_mem hx
    have m2 : (as.map (·.arg)).contains x.1 = true := by rw [List.contains_iff_mem]; exact hk _ m1
    have m3 : (((as.map (·.arg)).zip us ++ pre).lookup x.1) = none := look_none (by
      rw [List.map_append, k2, List.mem_append, not_or]
      refine ⟨hn _ m1, fun z => ?_⟩
      have nd := nk
      rw [← k1, e, List.map_append, List.map_cons, List.nodup_append] at nd
      exact nd.2.2 _ z _ (by simp) rfl)
    obtain ⟨z, z1, z2⟩ := List.mem_map.mp (hk _ m1)
    have m4 : ∃ a, a ∈ as ∧ a.arg = x.1 := ⟨z, z1, z2⟩
    simp [m3, m4]
theorem zip_at {α β : Type} [BEq α] [LawfulBEq α] : ∀ {ks : List α} {ws : List β} {j : Nat} {k : α} {w : β}, ks.Nodup → ks[j]? = some k → ws[j]? = some w → (ks.zip ws).lookup k = some w
  | k :: ks, w :: ws, 0, _, _, _, h1, h2 => by
    simp at h1 h2
    subst h1; subst h2
    simp
  | k :: ks, w :: ws, j + 1, k', w', nd, h1, h2 => by
    obtain ⟨n1, n2⟩ := List.nodup_cons.mp nd
    simp at h1 h2
    have hb : (k' == k) = false := beq_false_of_ne fun e => n1 (by rw [← e]; exact List.mem_of_getElem? h1)
    simp only [List.zip_cons_cons, List.lookup_cons, hb]
    exact zip_at n2 h1 h2
  | [], _, _, _, _, _, h, _ => by simp at h
  | _ :: _, [], _, _, _, _, _, h => by simp at h
theorem zip_perm {α β : Type} [BEq α] [LawfulBEq α] {ps ks : List α} {us ws : List β} {perm : List Nat} (nd : ps.Nodup) (nk : ks.Nodup) (hu : us.length ≤ ps.length) (hw : ws.length = ks.length) (hj : ∀ j ∈ perm, j < ks.length)
    (hp : ps.drop us.length = perm.filterMap (ks[·]?)) : (ps.filterMap fun n => ((ps.zip us ++ ks.zip ws).lookup n).map fun v => (n, v)) = ps.zip (us ++ perm.filterMap (ws[·]?)) := by
  have e0 : ps = ps.take us.length ++ ps.drop us.length := (List.take_append_drop _ _).symm
  have dis : ∀ p ∈ ps.drop us.length, p ∉ ps.take us.length := fun p h1 h2 => by
    have := nd
    rw [e0, List.nodup_append] at this
    exact this.2.2 _ h2 _ h1 rfl
  have z1 : ps.zip us = (ps.take us.length).zip us := by
    have := List.zip_append (l₁ := ps.take us.length) (r₁ := ps.drop us.length) (l₂ := us) (r₂ := ([] : List β)) (by simp; omega)
    rw [List.take_append_drop, List.append_nil] at this
    rw [this]; simp
  have z2 : ps.zip (us ++ perm.filterMap (ws[·]?)) = (ps.take us.length).zip us ++ (ps.drop us.length).zip (perm.filterMap (ws[·]?)) := by
    have := List.zip_append (l₁ := ps.take us.length) (r₁ := ps.drop us.length) (l₂ := us) (r₂ := perm.filterMap (ws[·]?)) (by simp; omega)
    rwa [List.take_append_drop] at this
  rw [z2, z1]
  have nt : (ps.take us.length).Nodup := by
    have := nd
    rw [e0, List.nodup_append] at this
    exact this.1
  have h0 : ∀ f : α → Option (α × β), ps.filterMap f = (ps.take us.length).filterMap f ++ (ps.drop us.length).filterMap f := fun f => by rw [← List.filterMap_append, List.take_append_drop]
  rw [h0]
  congr 1
  · rw [← zip_look (ps := ps.take us.length) (us := us) (by simp; omega) nt]
    apply fm_congr
    intro x hx
    rw [look_app]
    have := zip_has (ps := ps.take us.length) (us := us) (by simp; omega) x hx
    cases h : ((ps.take us.length).zip us).lookup x with
    | none => rw [h] at this; cases this
    | some v => rw [zip_look (ps := ps.take us.length) (us := us) (by simp; omega) nt, h]
  · rw [hp]
    have sub : ∀ j ∈ perm, ∀ k, ks[j]? = some k → k ∉ (ps.take us.length) := fun j h1 k h2 => dis k (by rw [hp]; exact List.mem_filterMap.mpr ⟨j, h1, h2⟩)
    clear hp z2 e0
    induction perm with
    | nil => rfl
    | cons j perm ih =>
      have hj0 := hj j (by simp)
      obtain ⟨k, hk⟩ : ∃ k, ks[j]? = some k := ⟨_, List.getElem?_eq_getElem hj0⟩
      obtain ⟨w, hw2⟩ : ∃ w, ws[j]? = some w := ⟨_, List.getElem?_eq_getElem (by omega)⟩
      have ih := ih (fun j h => hj j (List.mem_cons_of_mem _ h)) fun j h => sub j (List.mem_cons_of_mem _ h)
      rw [List.filterMap_cons, List.filterMap_cons, hk, hw2]
      simp only [List.filterMap_cons, List.zip_cons_cons]
      have l0 : ((ps.take us.length).zip us).lookup k = none := look_none (by
        rw [fst_zip]
        exact fun z => sub j (by simp) k hk (List.mem_of_mem_take z))
      rw [look_app, l0]
      simp only [zip_at nk hk hw2, Option.map_some]
      rw [ih]
end Mi
end

section
-- MiniLB
set_option Elab.async false
set_option linter.all false
set_option maxRecDepth 100000
set_option maxHeartbeats 4000000
/-! Mini, part LB: a value that is called: a def's name, a lambda -/
namespace Mi
open PySem PySem.Spec PyProof.Rows L2
theorem sl_all {P : En} {G : Wd} {H : Hp} {pvs : List PV} {vs : List V} (r : Reps P G pvs vs) : Sl P H G (pvs.map some) (vs.map some) H := by
  have key : ∀ {i : Nat} {v : PV}, (pvs.map some)[i]? = some (some v) → ∃ x, (vs.map some)[i]? = some (some x) ∧ Rep P G v x := fun {i v} h => by
    rw [List.getElem?_map] at h
    cases e : pvs[i]? with
    | none => rw [e] at h; cases h
    | some u =>
      rw [e] at h
      cases h
      obtain ⟨x, h1, h2⟩ := r.get e
      exact ⟨x, by rw [List.getElem?_map, h1]; rfl, h2⟩
  refine ⟨by simp [r.length], fun i v h n => key h, fun i us h => ?_, fun i c fs us h => ?_, fun i j v u a ne h1 h2 o1 o2 _ _ => ?_⟩
  · obtain ⟨x, _, h2⟩ := key h
    exact absurd h2 Rep.nonls
  · obtain ⟨x, _, h2⟩ := key h
    cases h2
  · obtain ⟨x, _, h2⟩ := key h1
    rw [h2.noOwn] at o1
    cases o1
/-- the plain form of a lambda's head -/
def argsP : Arguments → Option (List PySem.Arg)
  | ⟨[], as, none, [], [], none, []⟩ => some as
  | _ => none
theorem argsP_ok {a : Arguments} {as : List PySem.Arg} (h : argsP a = some as) : a = ⟨[], as, none, [], [], none, []⟩ := by
  unfold argsP at h
  split at h
  · cases h; rfl
  · cases h
def scopeB (N ps : List Str) (sc : Scope) : Bool :=
  (match sc.kind with
  | .function => true
  | _ => false) && (!sc.isCoroutine && (!sc.isGenerator && (decide N.Nodup && (decide (N.take ps.length = ps) && ((ps.all fun x => decide (sc.names.lookup x = some .local) || decide (sc.names.lookup x = some .cell)) && (sc.names.all fun y => decide (y.2 ≠ .free)))))))
theorem scopeB_ok {N ps : List Str} {sc : Scope} (h : scopeB N ps sc = true) : FnScope N ps sc := by
  unfold scopeB at h
  simp only [Bool.and_eq_true, Bool.not_eq_true', decide_eq_true_eq, List.all_eq_true, Bool.or_eq_true] at h
  obtain ⟨h1, h2, h3, h4, h5, h6, h7⟩ := h
  refine ⟨?_, h2, h3, h4, h5, h6, h7⟩
  split at h1
  · assumption
  · cases h1
/-- lambda k, called -/
def CloOk (Pr : Program) (w : World) (K : PySem.W.Frag) (mg : Str → Option Value) (base : Heap) (P : En) (d : Nat) (params : Arguments) (body : Expr) (scope : Scope) (c : List PV → Mu → KE → KE → Prop) : Prop :=
  ∀ (A : Around) (outer : List PySem.Env) (s : Shared) (H : Hp) (f c' : Addr) (q : Str) (us : List Value) (vs : List V) (Q : VK) (E : XK), Room d A → Env0 Pr w K mg base A outer s H → H f = some (LamO f c' q params body scope) → H c' = some (LamX.CodeO c' q) → Vals vs us →
    (∃ G μ pvs k kx, Wf P G μ H ∧ Reps P G pvs vs ∧ c pvs μ k kx ∧ ThenM P H G k Q ∧ ThenX P H G kx E) → codeAny (model Pr w) A (.call (.ref f) ⟨us, []⟩) (CR (L2.CX Pr w) outer Pr w H s Q E) s
theorem clo_run {Pr : Program} {w : World} {K : PySem.W.Frag} {mg : Str → Option Value} {base : Heap} {P : En} {T : Tab} {d : Nat} {as : List PySem.Arg} {params : Arguments} {body : Expr} {scope : Scope} {e : Mi.E} (hp : argsP params = some as) (nd : (as.map (·.arg)).Nodup) (S : FnScope (as.map (·.arg)) (as.map (·.arg)) scope)
    (hb : ∀ (A : Around) (outer : List PySem.Env) (s : Shared) (H : Hp) (f c' : Addr) (q : Str) (E : XK), Room d (A.deeper (envOfC q scope s.heap.objs.size f (.ref c'))) → PE (cxOf (L2.CX Pr w) Pr w K mg base (as.map (·.arg)) q scope f (.ref c') A outer s H E) body (tE P (wE E) (evE (gam T d) e))) :
    CloOk Pr w K mg base P (d + 1) params body scope fun vs μ k kx => vs.length = (as.map (·.arg)).length ∧ evE (gam T d) e (vs.map some) μ k kx := by
  intro A outer s H f c' q us vs Q E hr e0 hf hc r ⟨G, μ, pvs, k, kx, w0, rp, ⟨hl, hw⟩, tM, tX⟩
  obtain ⟨⟨pm, ctv, hobj⟩, _, _⟩ := e0.hok f _ hf
  obtain ⟨⟨oc, xs, t, hoc, hdc, hvc⟩, _, _⟩ := e0.hok c' _ hc
  have lim : s.heap.NoLimit := e0.mod.nolimit.keeps fun b o e => (e0.bs b o e).1
  have hul : us.length = (as.map (·.arg)).length := by rw [← r.length, ← rp.length, hl]
  have hbind : bindArgs (PySem.W.kla_fn "<lambda>" q params body scope [] pm (.ref c') ctv) ⟨us, []⟩ = pure ((as.map (·.arg)).zip us) := by
    have e1 := bind_kw (fd := PySem.W.kla_fn "<lambda>" q params body scope [] pm (.ref c') ctv) (as := as) (us := us) (ws := []) (ks := []) (argsP_ok hp) rfl rfl (by rw [hul]; simp) (by simp) (by simp) (by simp) (fun p hp => .inl (by rw [hul, List.take_length]; exact hp))
    have e2 := zip_perm (ps := as.map (·.arg)) (ks := ([] : List Str)) (us := us) (ws := ([] : List Value)) (perm := []) nd (by simp) (by rw [hul]; exact Nat.le_refl _) rfl (by simp) (by rw [hul, List.drop_length]; rfl)
    have e1' : bindArgs (PySem.W.kla_fn "<lambda>" q params body scope [] pm (.ref c') ctv) ⟨us, []⟩ = _ := e1
    rw [e1', e2]
    simp
  refine PySem.W.kla_callFunE hr.depth hobj rfl S.co S.gen rfl ⟨c', oc, xs, t, rfl, hoc, hdc, hvc⟩ ?_
  rw [hbind]
  have hkind : ∀ y ∈ (as.map (·.arg)).zip us, scope.names.lookup y.1 = some .local ∨ (scope.names.lookup y.1 = some .cell ∧ ((cellsFrom (s.heap.objs.size + 1) scope.names []).lookup y.1).isSome = true) := fun ⟨n, v⟩ hy => by
    rcases S.par n (List.of_mem_zip hy).1 with z | z
    · exact .inl z
    · exact .inr ⟨z, PySem.W.cellsFrom_some _ _ _ (.inl z)⟩
  refine wpAny_pure (wpAny_newFunctionEnv_cells S.kind hkind fun env he s1 x => ?_)
  subst he
  refine ⟨lim.keeps x.toInCall.keep, ?_⟩
  have hr' := hr.deeper (envOfC q scope s.heap.objs.size f (.ref c'))
  have I : Inv (cxOf (L2.CX Pr w) Pr w K mg base (as.map (·.arg)) q scope f (.ref c') A outer s H E) [] (L2.start (as.map (·.arg)) vs) H s1 := inv_start S hr.hd e0 (by rw [← rp.length, hl]) r x
  have es : L2.start (as.map (·.arg)) vs = vs.map some := by
    unfold L2.start
    rw [← rp.length, hl, Nat.sub_self]
    simp
  rw [es] at I
  refine PySem.W.kla_codeExpr (wpAny_mono ((hb A outer s H f c' q E hr').run [] s1 (vs.map some) H Q I ⟨H, G, pvs.map some, μ, k, kx, w0, sl_all rp, hw, tM, tX⟩) (fun v s' hq => ?_) fun e s' hq => hq)
  obtain ⟨w', H', J', rv, qq⟩ := hq
  exact ⟨w', H', J'.os, J'.bare, J'.base, J'.hok, rv, qq⟩
section
variable {X : Cx} {P : En} {E : XK} {Γ : Gam} {d : Nat}
theorem o_callv {i : Nat} {x : Str} {a : Expr} {as : List Expr} {es : Es} {p pos : Pos} (n : Cn X P (wE E)) (hi : X.N[i]? = some x) (hv : Vis X.env.scope x) (hd : (x == ("__debug__" : Str)) = false) (hcd : (x == ("__classdict__" : Str)) = false)
    (ha : PA X (a :: as) (tEs P (wE E) (evEs Γ es))) (hs : starEach (a :: as) X.env = (false, eval a X.env) :: starEach as X.env) (hpl : (backTo pos (starEach as X.env)).any (·.1) = false) (hr : Room d X.A)
    (hF : ∀ f, Γ.isf f = true → ∃ ad fd ps, X.mg f = some (.ref ad) ∧ PySem.W.keepIn X.K (.ref ad) = true ∧ Binds X.K fd ps [] ∧ FnOk X.prog X.w X.K X.mg X.base (L2.CX X.prog X.w) d ad fd ps (spF P ps.length (Γ.call f)) ∧ ∀ vs μ k kx, Γ.call f vs μ k kx → vs.length = ps.length)
    (hC : ∀ k params body scope, P.lam k params body scope → CloOk X.prog X.w X.K X.mg X.base P d params body scope (Γ.clo k)) : PE X (.Call (.Name x p) (a :: as) [] pos) (tE P (wE E) (evE Γ (.callv i es))) := by
  refine ⟨fun pins s σ H Q I ⟨He, G, ρ, μ, k, kx, w0, sl, hw, t, tx⟩ => ?_⟩
  simp only [evE] at hw
  split at hw
  · rename_i f hρ
    obtain ⟨hf, hw⟩ := hw
    obtain ⟨ad, fd, ps, h1, h2, h3, h4, h5⟩ := hF f hf
    obtain ⟨y, hy, ry⟩ := sl.fz i _ hρ rfl
    cases ry with
    | fn hm =>
      rw [n.hmg, h1] at hm
      cases hm
      refine (pe_callL (X := X) (i := i) (dvs := []) (E := E) h4 hr hi hv h2 h3 .nil (passes_call n.takes fun _ _ _ _ h => h) ha hd hcd hs hpl).run pins s σ H Q I ⟨hy, He, G, ρ, μ, _, kx, w0, sl, hw, fun G1 μ1 H1 vs xs e1 w1 r1 q1 => ?_, tx⟩
      show spF P ps.length (Γ.call f) (xs ++ []) H1 Q E
      rw [List.append_nil]
      exact ⟨G1, μ1, vs, k, kx, by rw [← r1.length]; exact h5 _ _ _ _ q1, w1, r1, q1, fun G2 μ2 H2 v x e2 w2 r2 h2 => t G2 μ2 H2 v x (e1.trans e2) w2 (r2.start e1.dm) h2, tx.ext e1⟩
  · rename_i j hρ
    obtain ⟨y, hy, ry⟩ := sl.fz i _ hρ rfl
    cases ry with
    | @clo _ f c' q params body scope hP hF1 hF2 =>
      refine wpAny_Call_Name_kw (thn ((pe_var (pos := p) (i := i) hi hv hd hcd).run pins s σ H (fun v H1 => v = .ref f ∧ H1 = H) I ⟨.ref f, hy, rfl, rfl⟩) fun u s1 ⟨v, H1, I1, r1, q1⟩ => ?_)
      obtain ⟨ev, eH⟩ := q1
      subst ev
      rw [eH] at I1
      obtain rfl : u = Value.ref f := r1
      obtain ⟨⟨pm, ctv, hobj⟩, _, _⟩ := I1.hok f _ (w0.sub _ _ hF1)
      refine PySem.W.callWith_F ⟨_, _, _, _, hobj⟩ (thn (ha.run pos pins s1 σ H (fun xs H2 => ∃ G1 μ1 vs, Ext H G H2 G1 ∧ Wf P G1 μ1 H2 ∧ Reps P G1 vs xs ∧ Γ.clo j vs μ1 k kx) I1 ⟨He, G, ρ, μ, _, kx, w0, sl, hw, fun G1 μ1 H2 vs xs e1 w1 r1 q1 => ⟨G1, μ1, vs, e1, w1, r1, q1⟩, tx⟩) fun us s2 ⟨xs, H2, I2, r2, G1, μ1, vs, e1, w1, rv, q1⟩ => ?_) hs hpl
      have k1 := w1.sub _ _ (e1.le _ _ hF1)
      have k2 := w1.sub _ _ (e1.le _ _ hF2)
      obtain ⟨⟨pm2, ctv2, hobj2⟩, _, _⟩ := I2.hok f _ k1
      refine ⟨⟨_, _, _, _, hobj2⟩, ?_⟩
      have rc := hC j params body scope hP X.A X.stack s2 H2 f c' q us xs Q E hr I2.env0 k1 k2 r2 ⟨G1, μ1, vs, k, kx, w1, rv, q1, fun G2 μ2 H3 v x e2 w2 r3 h2 => t G2 μ2 H3 v x (e1.trans e2) w2 (r3.start e1.dm) h2, tx.ext e1⟩
      have hx : Passes (L2.CX X.prog X.w) X E := passes_call n.takes fun _ _ _ _ h => h
      refine wpAny_call (codeAny_mono rc fun r s' hq => ?_)
      match r, hq with
      | .error e, hq => exact hx pins σ H2 s2 e s' I2 hq
      | .ok (.ret u), hq => exact I2.after hq
  · exact hw.elim
end
/-! ### lambdas of the table -/
def fbL : Str → Bool := fun x => decide (x ≠ ("<lambda>" : Str)) && decide (x ≠ ("<repr>" : Str))
def lamFit (T : Tab) (k : Nat) (params : Arguments) (body : Expr) (scope : Scope) : Bool := match T.lams[k]?, argsP params with
  | some p, some as => decide (as.map (·.arg) = p.1) && (decide p.1.Nodup && (scopeB p.1 p.1 scope && mE T p.1 scope fbL .val p.2 body))
  | _, _ => false
/-- the facts that all rest on -/
structure TabOk (T : Tab) (P : En) : Prop where
  prim : ∀ f p, T.prim f = some p → ∀ Γ vs μ k kx, p.2 Γ vs μ k kx → vs.length = p.1.length
  stp : ∃ S, P.mg "StepError" = some (.ref S) ∨ T.subs = []
  fit : ∀ k a b sc, P.lam k a b sc → lamFit T k a b sc = true
  lfit : ∀ k a b sc, T.lfit k a b sc = true → P.lam k a b sc
def LamsOk (T : Tab) (P : En) (d : Nat) : Prop := ∀ d', d' < d → ∀ (k : Nat) p, T.lams[k]? = some p → OkE T d' P p.2
theorem LamsOk.mono {T : Tab} {P : En} {d e : Nat} (h : LamsOk T P d) (le : e ≤ d) : LamsOk T P e := fun d' hd => h d' (Nat.lt_of_lt_of_le hd le)
section
variable {T : Tab} {P : En} {d : Nat}
theorem gam_clo (T : Tab) : ∀ d, (gam T (d + 1)).clo = fun j vs μ k kx => (match T.lams[j]? with
      | some p => vs.length = p.1.length ∧ evE (gam T d) p.2 (vs.map some) μ k kx
      | none => False)
  | 0 => rfl
  | 1 => rfl
  | _ + 2 => rfl
theorem gam_isf (T : Tab) : ∀ d, (gam T d).isf = fun f => (T.ar f).isSome
  | 0 => rfl
  | 1 => rfl
  | 2 => rfl
  | _ + 3 => rfl
theorem ok_lamv (tk : TabOk T P) {k : Nat} : OkE T d P (.lamv k) := fun X E N sc fb S => ok_gen S fun m x h => by
  simp only [mE, Bool.and_eq_true, decide_eq_true_eq] at h
  obtain ⟨h0, h⟩ := h
  split at h
  · rename_i ps body scope hy
    obtain ⟨p, rfl⟩ := asLam_ok hy
    simp only [Bool.and_eq_true] at h
    obtain ⟨h1, h2⟩ := h
    obtain ⟨j, c, Pa, hj, TB, hc⟩ := S.lm h1
    have hP := tk.lfit _ _ _ _ h2
    have hf := tk.fit _ _ _ _ hP
    unfold lamFit at hf
    split at hf
    · rename_i q as e1 e2
      simp only [Bool.and_eq_true, decide_eq_true_eq] at hf
      obtain ⟨k1, k2, k3, k4⟩ := hf
      have hd := argsP_ok e2
      subst hd
      exact ⟨o_lamv hP hj TB hc rfl (scopeB_ok k3).nofree, fun e => absurd e h0⟩
    · cases hf
  · cases h
end
end Mi
end

section
-- MiniS
set_option Elab.async false
set_option linter.all false
set_option maxRecDepth 100000
set_option maxHeartbeats 4000000
/-! Mini, part S: slices with a step -/
namespace HT
open PySem PySem.Spec PyProof.Rows
section
variable {prog : Program} {w : World} {A : Around} {E : Value → Shared → Prop} {s : Shared}
/-- t[::-1] -/
theorem applied_rev {sl : Addr} {vl vu vs : Value} {n : Nat} {Q : Int × Int × Nat → Shared → Prop} (hs : s.heap.IsSliceOf sl vl vu vs) (pl : IsPart vl none) (pu : IsPart vu none) (ps : IsPart vs (some (-1)))
    (h : Q ((n : Int) - 1, -1, n) s) : wpAny (model prog w) A (Builtin.Slice.sliceApplied (.ref sl) (pure (n : Int))) Q E s := by
  obtain ⟨os, hos, hcs, hds⟩ := id hs
  unfold Builtin.Slice.sliceApplied Builtin.Slice.sliceFields
  refine wpAny_bind (wpAny_bind (wpAny_field hos hds (x := vl) rfl (wpAny_bind (wpAny_field hos hds (x := vu) rfl (wpAny_bind (wpAny_field hos hds (x := vs) rfl (wpAny_pure ?_)))))))
  refine wpAny_bind (slicePart_ ps ?_)
  show wpAny _ _ (if ((-1 : Int) == 0) = true then _ else _) _ _ s
  rw [if_neg (by decide)]
  refine wpAny_bind (slicePart_ pl (wpAny_bind (slicePart_ pu (wpAny_bind (wpAny_pure ?_)))))
  show wpAny _ _ (match Builtin.Slice.sliceAdjust none none (-1) (n : Int) with | (lo, hi) => pure (lo, (-1 : Int), Builtin.Slice.slicePlaces lo hi (-1))) _ _ s
  have e : Builtin.Slice.sliceAdjust none none (-1) (n : Int) = ((n : Int) - 1, -1) := by
    unfold Builtin.Slice.sliceAdjust
    simp
  have e2 : Builtin.Slice.slicePlaces ((n : Int) - 1) (-1) (-1) = n := by
    unfold Builtin.Slice.slicePlaces
    simp
    omega
  rw [e]
  show wpAny _ _ (pure ((n : Int) - 1, (-1 : Int), Builtin.Slice.slicePlaces ((n : Int) - 1) (-1) (-1))) _ _ s
  rw [e2]
  exact wpAny_pure h
theorem pick_rev (xs : Array Value) : ((List.range xs.size).filterMap fun (m : Nat) => xs[((xs.size : Int) - 1 + (m : Int) * -1).toNat]?).toArray = xs.toList.reverse.toArray := by
  have e : ((List.range xs.size).filterMap fun (m : Nat) => xs[((xs.size : Int) - 1 + (m : Int) * -1).toNat]?) = ((List.range xs.size).map fun k => xs.size - 1 - k).filterMap (xs[·]?) := by
    rw [List.filterMap_map]
    congr 1
    funext m
    show xs[((xs.size : Int) - 1 + (m : Int) * -1).toNat]? = xs[xs.size - 1 - m]?
    congr 1
    omega
  rw [e, PySem.W.krv_range, List.filterMap_reverse, PySem.W.krv_all]
theorem getItem_tuple_rev {t sl : Addr} {items : Array Value} {vl vu vs : Value} {Q : Value → Shared → Prop} (ht : IsTup s.heap t items) (hs : s.heap.IsSliceOf sl vl vu vs) (pl : IsPart vl none) (pu : IsPart vu none) (ps : IsPart vs (some (-1)))
    (h : Q (.ref s.heap.objs.size) { s with heap := s.heap.push { cls := .type "tuple", data := .seq items.toList.reverse.toArray } })
    (hsz : items.size ≤ sizeLine) : wpAny (model prog w) A (getItem (.ref t) (.ref sl)) Q E s := by
  have htake : sizeOk (.seq items.toList.reverse.toArray) := by
    show items.toList.reverse.toArray.size ≤ sizeLine
    rw [List.size_toArray, List.length_reverse, Array.length_toList]
    exact hsz
  obtain ⟨os, hos, hcs, hds⟩ := id hs
  have hTs : s.TypeIs (.ref sl) "slice" := ⟨os, hos, hcs⟩
  unfold getItem
  try with_reducible refine wpAny_holding ?_
  first | refine wpAny_bind (wpAny_pure ?_) | skip
  refine wpAny_bind (wpAny_sequenceKey ht.typeIs (by decide) ?_)
  refine wpAny_bind (wpAny_callSpecial?_slot (name := Str.ofString "__getitem__") ht.typeIs PyProof.Rows.slot_tuple_getitem
    (wpAny_call_entry PyProof.Rows.slot_tuple_getitem ht.typeIs entry_tuple_getitem ?_ (args_tuple_getitem _ _)))
  show wpAny _ _ (Builtin.Tuple.tupleItemsOf (.ref t) >>= _) _ _ s
  refine wpAny_bind (tupleItemsOf_ ht ?_)
  refine wpAny_bind (wpAny_typeOf hTs ?_)
  rw [if_pos (by decide)]
  refine wpAny_bind (applied_rev hs pl pu ps ?_)
  have hno : ¬ ((((items.size : Int) - 1) == 0 && (-1 : Int) == 1 && items.size == items.size) = true) := by simp
  show wpAny _ _ (if ((((items.size : Int) - 1) == 0 && (-1 : Int) == 1 && items.size == items.size)) = true then _ else _) _ _ s
  rw [if_neg hno, pick_rev]
  first
    | exact wpAny_bind (m := Builtin.Tuple.tupleExact _) (wpAny_newObj_type (wpAny_pure ⟨_, rfl, wpAny_pure h⟩) htake)
    | exact wpAny_bind (m := Builtin.Tuple.tupleExact _) (wpAny_newObj_type (wpAny_bind (wpAny_pure (wpAny_pure ⟨_, rfl, wpAny_pure h⟩))) htake)
    | exact wpAny_bind (wpAny_bind (m := Builtin.Tuple.tupleExact _) (wpAny_newObj_type (wpAny_pure (wpAny_pure ⟨_, rfl, wpAny_pure h⟩)) htake))
    | exact wpAny_bind (wpAny_bind (m := Builtin.Tuple.tupleExact _) (wpAny_newObj_type (wpAny_pure ⟨_, rfl, wpAny_pure h⟩) htake))
end
end HT
namespace Mi
open PySem PySem.Spec PyProof.Rows L2
section
variable {X : Cx}
theorem vals_fm {zs : List V} {ws : List Value} (r : Vals zs ws) : ∀ is : List Nat, Vals (is.filterMap (zs[·]?)) (is.filterMap (ws[·]?))
  | [] => .nil
  | j :: is => by
    have ih := vals_fm r is
    rw [List.filterMap_cons, List.filterMap_cons]
    cases h : zs[j]? with
    | none => rw [r.none_of h]; exact ih
    | some z =>
      obtain ⟨u, h1, h2⟩ := r.get h
      rw [h1]; exact .cons h2 ih
/-- xs[lo:hi:k] of a list -/
def tSlSt (K : PySem.W.Frag) (te : TE) (tl th ts : TO) : TE := fun σ H Q => te σ H fun x H1 => tl σ H1 fun lo H2 => th σ H2 fun hi H3 => ts σ H3 fun st H4 => ∃ a xs k, x = .ref a ∧ st = some k ∧ k ≠ 0 ∧ SqL K H4 a xs ∧
  ∀ p, H4 p = none → Q (.ref p) (upd H4 p (.lst (stepV xs lo hi k)))
theorem pe_slSt {e st : Expr} {lo hi : Option Expr} {te : TE} {tl th ts : TO} {p3 pos : Pos} (he : PE X e te) (hl : PO X lo tl) (hh : PO X hi th) (hst : PO X (some st) ts) : PE X (.Subscript e (.Slice lo hi (some st) p3) pos) (tSlSt X.K te tl th ts) := by
  refine ⟨fun pins s σ H Q I h => ?_⟩
  refine Subscript_ (thn (he.run pins s σ H _ I h) fun v s1 ⟨x, H1, I1, r1, q1⟩ => ?_)
  refine wpAny_Slice (thn (hl.run pins s1 σ H1 _ I1 q1) fun vl s2 ⟨l, H2, I2, pl, q2⟩ => ?_)
  refine thn (hh.run pins s2 σ H2 _ I2 q2) fun vu s3 ⟨u, H3, I3, pu, q3⟩ => ?_
  refine thn (hst.run pins s3 σ H3 _ I3 q3) fun vs s4 ⟨o, H4, I4, ps, q4⟩ => ?_
  obtain ⟨a, xs, k, ex, ek, k0, hx, q⟩ := q4
  subst ex ek
  cases r1
  have I5 : Inv X pins σ H4 { s4 with heap := s4.heap.push { cls := .type "slice", data := .fields #[vl, vu, vs] } } := I4.kept (t' := s4.toks) fun b ob q => Heap.get?_push_of_some _ q
  obtain ⟨its, r, ht, hz⟩ := I5.list hx
  have hlen := r.length
  show wpAny (model X.prog X.w) X.A (subscriptTail e (.Slice lo hi (some st) p3) (.ref a) (.ref s4.heap.objs.size)) (EP X pins σ Q) X.xe { s4 with heap := s4.heap.push { cls := .type "slice", data := .fields #[vl, vu, vs] } }
  refine tail_any (ops := [.ref a, .ref s4.heap.objs.size]) ht.isList.typeIs (PySem.slot_list_getitem.lookup) ?_ (by with_unfolding_all rfl)
  refine wpAny_getItem_list_slice ht.isList (Heap.IsSliceOf.new _ vl vu vs) pl pu ps (by simpa using k0) ?_ (by rw [List.size_toArray]; omega)
  have e : slicePick its.toArray l u (some k) = ((sliceRange (sliceBounds l u (some k) xs.length).1 (sliceBounds l u (some k) xs.length).2.1 (sliceBounds l u (some k) xs.length).2.2).filterMap (its[·]?)).toArray := by
    unfold slicePick
    rw [List.size_toArray, hlen]
    simp
  have hle : (stepV xs l u k).length ≤ sizeLine := by
    have h1 := slicePick_size_le its.toArray l u (some k)
    rw [e, List.size_toArray, List.size_toArray] at h1
    have h2 := (vals_fm r (sliceRange (sliceBounds l u (some k) xs.length).1 (sliceBounds l u (some k) xs.length).2.1 (sliceBounds l u (some k) xs.length).2.2)).length
    show ((sliceRange _ _ _).filterMap (xs[·]?)).length ≤ sizeLine
    rw [h2]
    omega
  rw [e]
  refine ⟨.ref _, _, I5.laid (t' := s4.toks) (o := .lst (stepV xs l u k)) (fun b ob q => Heap.get?_push_of_some _ q) (Nat.le_refl _) ?_, rfl, q _ (I5.hok.fresh (Nat.le_refl _))⟩
  exact ⟨hle, _, 0, vals_fm r _, Heap.get?_push_size _ rfl⟩
/-- t[::-1] of a list or a tuple -/
def tRevA (K : PySem.W.Frag) (te : TE) : TE := fun σ H Q => te σ H fun x H1 => ∃ a xs, x = .ref a ∧ ((SqL K H1 a xs ∧ ∀ p, H1 p = none → Q (.ref p) (upd H1 p (.lst xs.reverse))) ∨ (SqT K H1 a xs ∧ ∀ p, H1 p = none → Q (.ref p) (upd H1 p (.tup xs.reverse))))
theorem pe_revA {e : Expr} {te : TE} {k : Nat} {p1 p2 p3 pos : Pos} (he : PE X e te) : PE X (.Subscript e (.Slice none none (some (.UnaryOp .USub (.Constant (.int 1) k p1) p2)) p3) pos) (tRevA X.K te) := by
  refine ⟨fun pins s σ H Q I h => ?_⟩
  refine Subscript_ (thn (he.run pins s σ H _ I h) fun v s1 ⟨x, H1, I1, r1, q1⟩ => ?_)
  obtain ⟨a, xs, ex, q1⟩ := q1
  subst ex
  cases r1
  have hst : PO X (some (.UnaryOp .USub (.Constant (.int 1) k p1) p2)) (tPart (tUn (rU fun i => .int (-i)) (tC (.int 1)))) := po_some (pe_un un_neg pe_int)
  refine wpAny_Slice (thn (po_none.run pins s1 σ H1 (fun o H2 => o = none ∧ H2 = H1) I1 ⟨rfl, rfl⟩) fun vl s2 ⟨l, H2, I2, pl, el, e2⟩ => ?_)
  subst el e2
  refine thn (po_none.run pins s2 σ H2 (fun o H3 => o = none ∧ H3 = H2) I2 ⟨rfl, rfl⟩) fun vu s3 ⟨u, H3, I3, pu, eu, e3⟩ => ?_
  subst eu e3
  refine thn (hst.run pins s3 σ H3 (fun o H4 => o = some (-1) ∧ H4 = H3) I3 ⟨1, rfl, -1, rfl, rfl, rfl⟩) fun vs s4 ⟨o, H4, I4, ps, eo, e4⟩ => ?_
  subst eo e4
  have I5 : Inv X pins σ H4 { s4 with heap := s4.heap.push { cls := .type "slice", data := .fields #[vl, vu, vs] } } := I4.kept (t' := s4.toks) fun b ob q => Heap.get?_push_of_some _ q
  show wpAny (model X.prog X.w) X.A (subscriptTail e (.Slice none none (some (.UnaryOp .USub (.Constant (.int 1) k p1) p2)) p3) (.ref a) (.ref s4.heap.objs.size)) (EP X pins σ Q) X.xe { s4 with heap := s4.heap.push { cls := .type "slice", data := .fields #[vl, vu, vs] } }
  rcases q1 with ⟨hx, q⟩ | ⟨hx, q⟩
  · obtain ⟨its, r, ht, hz⟩ := I5.list hx
    have hlen := r.length
    refine tail_any (ops := [.ref a, .ref s4.heap.objs.size]) ht.isList.typeIs (PySem.slot_list_getitem.lookup) ?_ (by with_unfolding_all rfl)
    refine wpAny_getItem_list_slice ht.isList (Heap.IsSliceOf.new _ vl vu vs) pl pu ps (by decide) ?_ (by rw [List.size_toArray]; omega)
    rw [PySem.W.krv_pick]
    refine ⟨.ref _, _, I5.laid (t' := s4.toks) (o := .lst xs.reverse) (fun b ob q => Heap.get?_push_of_some _ q) (Nat.le_refl _) ?_, rfl, q _ (I5.hok.fresh (Nat.le_refl _))⟩
    exact ⟨by rw [List.length_reverse]; exact hz, _, 0, r.reverse, Heap.get?_push_size _ rfl⟩
  · obtain ⟨its, r, ht, hz⟩ := I5.tuple hx
    have hlen := r.length
    refine tail_any (ops := [.ref a, .ref s4.heap.objs.size]) ht.typeIs (PyProof.Rows.slot_tuple_getitem.lookup) ?_ (by with_unfolding_all rfl)
    refine HT.getItem_tuple_rev ht (Heap.IsSliceOf.new _ vl vu vs) pl pu ps ?_ (by rw [List.size_toArray]; omega)
    refine ⟨.ref _, _, I5.laid (t' := s4.toks) (o := .tup xs.reverse) (fun b ob q => Heap.get?_push_of_some _ q) (Nat.le_refl _) ?_, rfl, q _ (I5.hok.fresh (Nat.le_refl _))⟩
    exact ⟨by rw [List.length_reverse]; exact hz, _, r.reverse, IsTup.new _ _⟩
end
end Mi
end

section
-- Mini12
set_option Elab.async false
set_option linter.all false
set_option maxRecDepth 100000
set_option maxHeartbeats 4000000
/-! Mini, part 12: matching expressions, the rest -/
namespace Mi
open PySem PySem.Spec PyProof.Rows L2
section
variable {T : Tab} {d : Nat} {P : En}
theorem ar_len {f : Str} {ps : List Str} (hp : ∀ f p, T.prim f = some p → ∀ Γ vs μ k kx, p.2 Γ vs μ k kx → vs.length = p.1.length) (h : T.ar f = some ps) : ∀ d vs μ k kx, (gam T d).call f vs μ k kx → vs.length = ps.length := fun d vs μ k kx hc => by
  unfold Tab.ar at h
  cases d with
  | zero => exact hc.elim
  | succ d =>
    rw [gam_call] at hc
    simp only [Tab.mk1] at hc
    cases hpf : T.prim f with
    | some p =>
      rw [hpf] at h hc
      cases h
      exact hp f p hpf _ _ _ _ _ hc.2
    | none =>
      rw [hpf] at h hc
      cases hf : T.fn.lookup f with
      | none => rw [hf] at h; cases h
      | some F =>
        rw [hf] at h hc
        cases h
        exact hc.1
theorem ok_call {f : Str} {es : Es} (hp : ∀ f p, T.prim f = some p → ∀ Γ vs μ k kx, p.2 Γ vs μ k kx → vs.length = p.1.length) (he : OkEs T d P es) : OkE T d P (.call f es) := fun X E N sc fb S => ok_gen S fun m x h => by
  simp only [mE] at h
  split at h
  · rename_i g xs hy
    obtain ⟨p, q, rfl⟩ := asCall_ok hy
    simp only [Bool.and_eq_true, decide_eq_true_eq] at h
    obtain ⟨⟨⟨⟨rfl, h2⟩, h3⟩, h4⟩, h5⟩ := h
    obtain ⟨ps, hps⟩ := Option.isSome_iff_exists.mp h3
    obtain ⟨a, fd, k1, k2, k3, _, k4⟩ := S.fns _ (Nat.le_refl _) _ _ hps
    obtain ⟨g1, g2, g3⟩ := S.gl h2
    refine ⟨?_, fun _ => rfl⟩
    cases xs with
    | nil =>
      cases es with
      | nil => exact o_call0 S.cn k4 S.room g1 k1 k2 k3 g2 (ar_len hp hps d)
      | cons _ _ => simp [mEs] at h5
    | cons y ys =>
      have h4' := h4
      simp only [List.all_cons, Bool.and_eq_true] at h4'
      exact o_call S.cn k4 S.room g1 k1 k2 k3 g2 (ar_len hp hps d) ((he X E N sc fb S).2.1 _ h4 h5).1 (star_cons h4'.1 _) (star_none h4'.2 _)
  · cases h
theorem ok_bi {b : Bi} {es : Es} (he : OkEs T d P es) : OkE T d P (.bi b es) := fun X E N sc fb S => ok_gen S fun m x h => by
  simp only [mE] at h
  split at h
  · rename_i g xs hy
    obtain ⟨p, q, rfl⟩ := asCall_ok hy
    simp only [Bool.and_eq_true, decide_eq_true_eq] at h
    obtain ⟨⟨⟨⟨⟨rfl, h2⟩, h4⟩, h5⟩, h6⟩, h7⟩ := h
    obtain ⟨g1, g2, g3, g4⟩ := S.fr h2
    refine ⟨?_, fun _ => rfl⟩
    cases xs with
    | nil => simp at h5
    | cons y ys =>
      have h6' := h6
      simp only [List.all_cons, Bool.and_eq_true] at h6'
      exact o_bi S.cn g1 g2 h4 ((he X E N sc fb S).1 _ h6 h7) (star_cons h6'.1 _) (star_none h6'.2 _)
  · cases h
theorem ok_isin {a : Mi.E} {t : Ty} (hS : ∀ mg, (∃ K, Txt T K mg) → mg = P.mg → ∃ S, P.mg "StepError" = some (.ref S) ∨ T.subs = []) (ha : OkE T d P a) : OkE T d P (.isin a t) := fun X E N sc fb S => ok_gen S fun m x h => by
  simp only [mE] at h
  split at h
  · rename_i g y z hy
    obtain ⟨p, q, rfl⟩ := asCall_ok hy
    simp only [Bool.and_eq_true, decide_eq_true_eq] at h
    obtain ⟨⟨⟨⟨rfl, h2⟩, h3⟩, h4⟩, h5⟩ := h
    obtain ⟨g1, g2, g3, g4⟩ := S.fr h2
    have tx : Txt T X.K P.mg := by rw [S.cn.hmg]; exact S.tx
    refine ⟨?_, fun _ => rfl⟩
    cases t with
    | cl c =>
      simp only [Bool.and_eq_true, decide_eq_true_eq] at h4
      obtain ⟨⟨q1, q2⟩, q3⟩ := h4
      obtain ⟨r, rfl⟩ := isName_ok q1
      obtain ⟨t1, t3, t4⟩ := S.gl q2
      obtain ⟨D, k1, _, k2⟩ := tx.tgt c q3
      exact o_isin S.cn g1 g2 (pe_glob (v := .ref D) t1 (by rw [← S.cn.hmg]; exact k1) rfl t3) (.own D) (isK_cl tx q3 k1) ((ha X E N sc fb S).2.1 _ h5) h3
    | bi n =>
      simp only [Bool.and_eq_true, decide_eq_true_eq] at h4
      obtain ⟨⟨q1, q2⟩, q3⟩ := h4
      obtain ⟨r, rfl⟩ := isName_ok q1
      obtain ⟨t1, t2, t3, t4⟩ := S.fr q2
      exact o_isin S.cn g1 g2 (pe_bltn (v := .ty n) t1 t2 (boot_all n q3) rfl t4 t3) (.ty n) (isK_bi tx (hS _ ⟨_, tx⟩ rfl) q3) ((ha X E N sc fb S).2.1 _ h5) h3
  · cases h
/-- {} -/
theorem o_dct0 {X : Cx} {W : Wex} {Γ : Gam} {pos : Pos} : PE X (.Dict [] [] pos) (tE P W (evE Γ .dct0)) :=
  pe_dnewK.imp fun σ H Q ⟨He, G, ρ, μ, k, kx, w0, sl, hw, t, tx⟩ => fun p hp => by
    simp only [evE] at hw
    exact t (G.put p (.dK [])) μ _ (.dct [] []) (.ref p) (Ext.new w0 hp) (w0.new hp) (.of (.dct0 upd_same)) hw
theorem ok_dct0 : OkE T d P .dct0 := fun X E N sc fb S => ok_gen S fun m x h => by
  simp only [mE, Bool.and_eq_true, decide_eq_true_eq] at h
  obtain ⟨hm, h⟩ := h
  split at h
  · exact ⟨o_dct0, fun e => absurd e hm⟩
  · cases h
/-- a[::-1] -/
theorem o_rev {X : Cx} {W : Wex} {Γ : Gam} {pos p1 p2 p3 : Pos} {k1 : Nat} {a : Expr} {ea : Mi.E} (n : Cn X P W) (ha : PE X a (tO P W (evE Γ ea))) : PE X (.Subscript a (.Slice none none (some (.UnaryOp .USub (.Constant (.int 1) k1 p1) p2)) p3) pos) (tE P W (evE Γ (.rev ea))) :=
  (pe_revA ha).imp fun σ H Q ⟨He, G, ρ, μ, k, kx, w0, sl, hw, t, tx⟩ => by
    simp only [evE] at hw
    refine ⟨He, G, ρ, μ, _, kx, w0, sl, hw, fun G1 μ1 H1 va x e1 w1 r1 h1 => ?_, tx⟩
    have rh := r1.toH (sl.ext w0 e1)
    dsimp only at h1
    split at h1
    · rename_i xs hx
      rw [hx] at rh
      obtain ⟨b, ys, rfl, q1, q2⟩ := rh.tup w1
      refine ⟨b, ys, rfl, .inr ⟨by rw [← n.hK]; exact q1, fun p hp => ?_⟩⟩
      exact t _ μ1 _ (.tup xs.reverse) (.ref p) (e1.trans (Ext.new w1 hp)) (w1.new hp) (.of (.tup (.inl (.inl upd_same)) ((q2.ext (Ext.new (o := .tup ys.reverse) w1 hp)).reverse))) h1
    · rename_i xs hx
      rw [hx] at rh
      obtain ⟨b, ys, rfl, q1, q2⟩ := rh.lst w1
      refine ⟨b, ys, rfl, .inl ⟨.inl (.inl q1), fun p hp => ?_⟩⟩
      exact t G1 μ1 _ (.nls xs.reverse) (.ref p) (e1.trans (Ext.newL w1 hp)) (w1.newL hp) ⟨p, _, rfl, upd_same, (q2.ext (Ext.newL (o := .lst ys.reverse) w1 hp)).reverse, w1.noF hp, w1.nomem hp, e1.dm p hp⟩ h1
    · exact h1.elim
theorem ok_rev {a : Mi.E} (ha : OkE T d P a) : OkE T d P (.rev a) := fun X E N sc fb S => ok_gen S fun m x h => by
  simp only [mE] at h
  split at h
  · rename_i p q hy
    obtain ⟨j, rfl⟩ := asSub_ok hy
    split at h
    · exact ⟨o_rev S.cn ((ha X E N sc fb S).2.1 _ h), fun _ => rfl⟩
    · cases h
  · cases h
theorem Reps.fm {G : Wd} {vs : List PV} {xs : List V} (r : Reps P G vs xs) : ∀ is : List Nat, Reps P G (is.filterMap (vs[·]?)) (is.filterMap (xs[·]?))
  | [] => .nil
  | j :: is => by
    have ih := r.fm is
    rw [List.filterMap_cons, List.filterMap_cons]
    cases h : vs[j]? with
    | none =>
      have : xs[j]? = none := by
        rw [List.getElem?_eq_none_iff] at h ⊢
        rw [← r.length]; exact h
      rw [this]; exact ih
    | some v =>
      obtain ⟨x, h1, h2⟩ := r.get h
      rw [h1]; exact .cons h2 ih
/-- a[lo:hi:k] -/
theorem o_slS {X : Cx} {W : Wex} {Γ : Gam} {pos p3 : Pos} {a st : Expr} {lo hi : Option Expr} {ea es : Mi.E} {el eh : Eo} (n : Cn X P W) (ha : PE X a (tO P W (evE Γ ea))) (hl : PO X lo (tOo P W (evO Γ el))) (hh : PO X hi (tOo P W (evO Γ eh))) (hst : PE X st (tE P W (evE Γ es))) :
    PE X (.Subscript a (.Slice lo hi (some st) p3) pos) (tE P W (evE Γ (.slS ea el eh es))) :=
  (pe_slSt ha hl hh (po_some hst)).imp fun σ H Q ⟨He, G, ρ, μ, k, kx, w0, sl, hw, t, tx⟩ => by
    simp only [evE] at hw
    refine ⟨He, G, ρ, μ, _, kx, w0, sl, hw, fun G1 μ1 H1 va x e1 w1 r1 h1 => ⟨He, G1, ρ, μ1, _, kx, w1, sl.ext w0 e1, h1, fun G2 μ2 H2 l e2 w2 h2 => ⟨He, G2, ρ, μ2, _, kx, w2, (sl.ext w0 e1).ext w1 e2, h2, fun G3 μ3 H3 h e3 w3 h3 => ?_, tx.ext (e1.trans e2)⟩, tx.ext e1⟩, tx⟩
    have s3 := ((sl.ext w0 e1).ext w1 e2).ext w2 e3
    refine ⟨He, G3, ρ, μ3, _, kx, w3, s3, h3, fun G4 μ4 H4 vs y e4 w4 r4 h4 => ?_, tx.ext ((e1.trans e2).trans e3)⟩
    have e14 := (e2.trans e3).trans e4
    have rh := (((r1.ext e2).ext e3).ext e4).toH (s3.ext w3 e4)
    dsimp only at h4
    split at h4
    · rename_i xs kk hx
      rw [hx] at rh
      obtain ⟨b, ys, rfl, q1, q2⟩ := rh.lst w4
      cases r4
      refine ⟨kk, rfl, b, ys, kk, rfl, rfl, h4.1, .inl (.inl q1), fun p hp => ?_⟩
      refine t G4 μ4 _ (.nls (stepV xs l h kk)) (.ref p) ((e1.trans e14).trans (Ext.newL w4 hp)) (w4.newL hp) ⟨p, _, rfl, upd_same, ?_, w4.noF hp, w4.nomem hp, (e1.trans e14).dm p hp⟩ h4.2
      have q3 := q2.ext (Ext.newL (o := .lst (stepV ys l h kk)) w4 hp)
      unfold stepV
      rw [q2.length]
      exact q3.fm _
    · exact h4.elim
theorem ok_slS {a st : Mi.E} {lo hi : Eo} (ha : OkE T d P a) (hl : OkO T d P lo) (hh : OkO T d P hi) (hs : OkE T d P st) : OkE T d P (.slS a lo hi st) := fun X E N sc fb S => ok_gen S fun m x h => by
  simp only [mE] at h
  split at h
  · rename_i p q hy
    obtain ⟨j, rfl⟩ := asSub_ok hy
    split at h
    · simp only [Bool.and_eq_true] at h
      exact ⟨o_slS S.cn ((ha X E N sc fb S).2.1 _ h.1.1.1) ((hl X E N sc fb S).1 _ h.1.1.2) ((hh X E N sc fb S).1 _ h.1.2) ((hs X E N sc fb S).1 _ h.2), fun _ => rfl⟩
    · cases h
  · cases h
theorem ok_attr {a : Mi.E} {f : Str} (ha : OkE T d P a) : OkE T d P (.attr a f) := fun X E N sc fb S => ok_gen S fun m x h => by
  simp only [mE] at h
  split at h
  · rename_i p g hy
    obtain ⟨j, rfl⟩ := asAttr_ok hy
    simp only [Bool.and_eq_true, decide_eq_true_eq] at h
    obtain ⟨⟨rfl, h2⟩, h3⟩ := h
    obtain ⟨z, hz⟩ := Option.isSome_iff_exists.mp h2
    obtain ⟨pp, rfl⟩ := asName_ok hz
    exact ⟨o_attr S.cn rfl (fun c C hc hin => S.tx.flds c _ C (by rw [gam_flds] at hin; exact hin) (by rw [← S.cn.hmg]; exact hc)) (fun c C hc hin => S.tx.xflds c _ C (by rw [gam_xflds] at hin; exact hin) (by rw [← S.cn.hmg]; exact hc)) ((ha X E N sc fb S).2.1 _ h3), fun _ => rfl⟩
  · cases h
theorem ok_ix {a i : Mi.E} (ha : OkE T d P a) (hi : OkE T d P i) : OkE T d P (.ix a i) := fun X E N sc fb S => ok_gen S fun m x h => by
  simp only [mE] at h
  split at h
  · rename_i p q hy
    obtain ⟨j, rfl⟩ := asSub_ok hy
    simp only [Bool.and_eq_true] at h
    exact ⟨o_ix S.cn ((ha X E N sc fb S).2.1 _ h.1.2) ((hi X E N sc fb S).2.1 _ h.2) (plainIx_of h.1.1), fun _ => rfl⟩
  · cases h
theorem ok_sl {a : Mi.E} {lo hi : Eo} (ha : OkE T d P a) (hl : OkO T d P lo) (hh : OkO T d P hi) : OkE T d P (.sl a lo hi) := fun X E N sc fb S => ok_gen S fun m x h => by
  simp only [mE] at h
  split at h
  · rename_i p q hy
    obtain ⟨j, rfl⟩ := asSub_ok hy
    split at h
    · rename_i l hx hq
      obtain ⟨jj, rfl⟩ := asSlice_ok hq
      simp only [Bool.and_eq_true] at h
      exact ⟨o_sl S.cn ((ha X E N sc fb S).2.1 _ h.1.1) ((hl X E N sc fb S).1 _ h.1.2) ((hh X E N sc fb S).1 _ h.2), fun _ => rfl⟩
    · cases h
  · cases h
/-- a comprehension, matched -/
theorem comp_in {own : List (Str × Nat)} {tg : Tg} {s : Sr} {c : Eo} {e : Mi.E} (hs : OkSr T d P s) (hc : OkO T d P c) (he : OkE T d P e) {X : Cx} {E : XK} {N : List Str} {sc : Scope} {fb : Str → Bool} (S : Sit T d P X E N sc fb) {el tx it : Expr} {ifs : List Expr} {scope : Scope}
    (h : (blkC N sc scope own && notSet it && (tg.ixs.all fun i => decide (i ∈ own.map (·.2))) && tgB N (relS scope sc) (Sit.fbk scope) tg tx && mSr T N sc fb false s tx it && mC T N (relS scope sc) (Sit.fbk scope) c ifs && mE T N (relS scope sc) (Sit.fbk scope) .val e el) = true) :
    BlkOk X.N X.env.scope scope own ∧ (∀ x, foldedSetIterable it X.env x = pure x) ∧ (∀ i ∈ tg.ixs, i ∈ own.map (·.2)) ∧ PI X tx it (tI false P (wE E) (evS (gam T d) s)) ∧
    (∀ (s : Shared) (H : Hp) (C : Addr) (cl : List (Str × Addr)) (fp : List Addr), PG (X.blk s H scope (compEnvC scope cl C X.env) fp) tx (gTg X.K tg)) ∧
    (∀ (s : Shared) (H : Hp) (C : Addr) (cl : List (Str × Addr)) (fp : List Addr), PTs (X.blk s H scope (compEnvC scope cl C X.env) fp) ifs (tCt P (evC (gam T d) c))) ∧
    (∀ (s : Shared) (H : Hp) (C : Addr) (cl : List (Str × Addr)) (fp : List Addr), PE (X.blk s H scope (compEnvC scope cl C X.env) fp) el (tE P noW (evE (gam T d) e))) := by
  simp only [Bool.and_eq_true] at h
  obtain ⟨⟨⟨⟨⟨⟨h1, h2⟩, h3⟩, h4⟩, h5⟩, h6⟩, h7⟩ := h
  refine ⟨by rw [S.hN, S.hs]; exact blkOk_by h1, folded_of h2 _, fun i hi => of_decide_eq_true (List.all_eq_true.mp h3 i hi), hs X E N sc fb S false tx it h5, fun s H C cl fp => (S.blk s H scope C cl fp).tg h4, fun s H C cl fp => (hc _ _ _ _ _ (S.blk s H scope C cl fp)).2 rfl _ h6, fun s H C cl fp => (he _ _ _ _ _ (S.blk s H scope C cl fp)).1 _ h7⟩
theorem ok_comp {own : List (Str × Nat)} {tg : Tg} {s : Sr} {c : Eo} {e : Mi.E} (hs : OkSr T d P s) (hc : OkO T d P c) (he : OkE T d P e) : OkE T d P (.comp own tg s c e) := fun X E N sc fb S => ok_gen S fun m x h => by
  simp only [mE, Bool.and_eq_true, decide_eq_true_eq] at h
  obtain ⟨hm, h⟩ := h
  split at h
  · rename_i el tx it ifs scope hy
    obtain ⟨j, rfl⟩ := asLC_ok hy
    obtain ⟨q1, q2, q3, q4, q5, q6, q7⟩ := comp_in hs hc he S h
    exact ⟨(pe_lc S.cn.calm S.cn.nd q4 q1 q5 q6 q7 q2).imp fun σ H Q hq => lc_of S.cn.hK q3 hq, fun e => absurd e hm⟩
  · cases h
theorem ok_sleft (i : Nat) : OkE T d P (.sleft i) := fun X E N sc fb S => ok_gen S fun m x h => by
  simp only [mE] at h
  obtain ⟨y, p, j, q, r, rfl, h⟩ := keyB_ok h
  obtain ⟨q1, q2, q3, q4⟩ := S.nm h
  exact ⟨o_sleft S.cn q1 q2 q3 q4, fun _ => rfl⟩
theorem ok_sturn (i : Nat) : OkE T d P (.sturn i) := fun X E N sc fb S => ok_gen S fun m x h => by
  simp only [mE] at h
  obtain ⟨y, p, j, q, r, rfl, h⟩ := keyB_ok h
  obtain ⟨q1, q2, q3, q4⟩ := S.nm h
  exact ⟨o_sturn S.cn q1 q2 q3 q4, fun _ => rfl⟩
theorem ok_spop (i : Nat) : OkE T d P (.spop i) := fun X E N sc fb S => ok_gen S fun m x h => by
  simp only [mE] at h
  split at h
  · rename_i o mm a pa pc hm
    obtain rfl := asMeth_ok hm
    simp only [Bool.and_eq_true, decide_eq_true_eq] at h
    obtain ⟨⟨⟨rfl, h2⟩, h3⟩, h4⟩ := h
    obtain ⟨y, p, j, q, r, rfl, h3⟩ := keyB_ok h3
    obtain ⟨q1, q2, q3, q4⟩ := S.nm h3
    split at h4
    · rename_i k hk
      obtain ⟨jz, pz, rfl⟩ := asConst_ok hk
      obtain rfl := of_decide_eq_true h4
      exact ⟨o_spop S.cn q1 q2 q3 q4 h2, fun _ => rfl⟩
    · cases h4
  · cases h
theorem ok_sgreat (i : Nat) : OkE T d P (.sgreat i) := fun X E N sc fb S => by
  have key : ∀ m x, mE T N sc fb m (.sgreat i) x = true → ∃ y p j q r pl pp, x = .Compare (.Subscript (.Name y p) (.Constant (.str "great") j q) r) [.NotEq] [.List [] pl] pp ∧ nmB N sc i y = true := fun m x h => by
    simp only [mE] at h
    split at h
    · rename_i p _ hy
      obtain ⟨pp, rfl⟩ := asCmp_ok hy
      obtain ⟨y, p, j, q, r, rfl, h⟩ := keyB_ok h
      exact ⟨y, p, j, q, r, _, pp, rfl, h⟩
    · cases h
  refine ⟨fun x h => ?_, fun x h => ?_, fun x h => ?_⟩ <;> obtain ⟨y, p, j, q, r, pl, pp, rfl, h⟩ := key _ x h <;> obtain ⟨q1, q2, q3, q4⟩ := S.nm h
  · exact o_sgreat S.cn q1 q2 q3 q4
  · exact okO (o_sgreat S.cn q1 q2 q3 q4)
  · exact v_sgreat S.cn q1 q2 q3 q4
theorem ok_cells (i : Nat) : OkSr T d P (.cells i) := fun X E N sc fb S f tx x h => by
  simp only [mSr] at h
  obtain ⟨y, p, j, q, r, rfl, h⟩ := keyB_ok h
  obtain ⟨q1, q2, q3, q4⟩ := S.nm h
  exact i_cells S.cn q1 q2 q3 q4
theorem pe_nev {X : Cx} {W : Wex} {Γ : Gam} {x : Expr} {t : TE} (h : ∀ σ H Q, t σ H Q → False) : PE X x t := ⟨fun _ _ σ H Q _ q => (h σ H Q q).elim⟩
theorem ok_nev : OkE T d P .nev := fun X E N sc fb S => by
  have n1 : ∀ {W : Wex} {σ : L2.St} {H : Hp} {Q : VK}, tE P W (evE (gam T d) .nev) σ H Q → False := fun {W σ H Q} ⟨He, G, ρ, μ, k, kx, w0, sl, hw, _⟩ => by simp only [evE] at hw
  refine ⟨fun x _ => ⟨fun _ _ σ H Q _ q => (n1 q).elim⟩, fun x _ => okO ⟨fun _ _ σ H Q _ q => (n1 q).elim⟩, fun x _ => ⟨fun _ _ σ H Q _ ⟨He, G, ρ, μ, k, kx, w0, sl, hw, _⟩ => ?_⟩⟩
  simp only [evE] at hw
theorem ok_callk {f : Str} {es : Es} {ks : List Str} {kes : Es} {perm : List Nat} (hp : ∀ f p, T.prim f = some p → ∀ Γ vs μ k kx, p.2 Γ vs μ k kx → vs.length = p.1.length) (he : OkEs T d P kes) : OkE T d P (.callk f es ks kes perm) := fun X E N sc fb S => ok_gen S fun m x h => by
  simp only [mE] at h
  split at h
  · rename_i g p kws q
    simp only [Bool.and_eq_true, decide_eq_true_eq] at h
    obtain ⟨rfl, h2, h3, h4, h5⟩ := h
    split at h3
    · rename_i ps hps
      obtain ⟨a, fd, k1, k2, k3, kw, k4⟩ := S.fns _ (Nat.le_refl _) _ _ hps
      obtain ⟨g1, g2, g3⟩ := S.gl h2
      exact ⟨o_callk S.cn k4 S.room g1 k1 k2 kw h3 g2 (ar_len hp hps d) h4 ((he X E N sc fb S).2.2.2.2 _ h5), fun _ => rfl⟩
    · cases h3
  · cases h
theorem gam_lam (T : Tab) : ∀ d, (gam T (d + 2)).lam = fun e ρ μ k kx => evE (gam T d) e ρ μ k kx
  | 0 => rfl
  | _ + 1 => rfl
theorem noLam0 {X : Cx} {E : XK} {e : Mi.E} {Γ : Gam} (h : Γ.lam = fun _ _ _ _ _ => False) {x : Expr} : PE X x (tE P (wE E) (evE Γ (.caught e))) := ⟨fun _ _ σ H Q _ ⟨He, G, ρ, μ, k, kx, w0, sl, hw, _⟩ => by
  simp only [evE, h] at hw⟩
theorem ok_caught {e : Mi.E} : ∀ d, (∀ d', d' < d → OkE T d' P e) → OkE T d P (.caught e)
  | 0, he => fun X E N sc fb S => ok_gen S fun m x h => by
    simp only [mE] at h
    split at h
    · rename_i g pms body scope hy
      obtain ⟨p, q, r, rfl⟩ := asCau_ok hy
      exact ⟨noLam0 rfl, fun _ => rfl⟩
    · cases h
  | 1, he => fun X E N sc fb S => ok_gen S fun m x h => by
    simp only [mE] at h
    split at h
    · rename_i g pms body scope hy
      obtain ⟨p, q, r, rfl⟩ := asCau_ok hy
      exact ⟨noLam0 rfl, fun _ => rfl⟩
    · cases h
  | d + 2, he => fun X E N sc fb S => ok_gen S fun m x h => by
    simp only [mE] at h
    split at h
    · rename_i g pms body scope hy
      obtain ⟨p, q, r, rfl⟩ := asCau_ok hy
      simp only [Bool.and_eq_true, decide_eq_true_eq] at h
      obtain ⟨rfl, h2, h3, h4, h5⟩ := h
      split at h5
      · rename_i qs hqs
        simp only [Bool.and_eq_true] at h5
        obtain ⟨h5, h6⟩ := h5
        have hp := dfOf_ok hqs
        refine ⟨?_, fun _ => rfl⟩
        obtain ⟨j, c, Pa, hj, TB, hc⟩ := S.lm h4
        have cd := S.tx.cau h3
        refine o_caught (Γ := gam T (d + 2)) (k := d) (lo := fun ρ μ k' kx => evE (gam T d) e ρ μ k' kx) S.cn cd (S.gl h2).1 hj TB hc S.room hp (lamPB_ok (by rw [S.hs, S.hN]; exact h5)) (fun A outer s H E' f c' hr => ?_) (fun c' C hs hm St hS => ?_) (fun ρ μ k kx hw => ?_)
        · refine (he d (by omega) (LamX.lamCx X A outer s H E' scope f c') E' N scope (fun _ => false) ⟨⟨S.cn.hK, S.cn.hmg, rfl, S.cn.nd, hr.units, takes_of rfl rfl rfl rfl⟩, S.hN, rfl, (fun _ z => nomatch z), hr, S.tx, fun d' hd f ps hf => S.fns d' (Nat.le_trans hd (Nat.le_add_right d 2)) f ps hf, (fun z => nomatch z), (fun z => nomatch z), S.ini, fun e he => S.mks e (by omega)⟩).1 _ h6
        · rw [gam_sub] at hs
          have hm' : X.mg c' = some (.ref C) := by rw [← S.cn.hmg]; exact hm
          exact (S.tx.stp _ _ hs _ _ hm' hS).2.1
        · simp only [evE] at hw
          rw [gam_lam] at hw
          exact hw
      · cases h5
    · cases h
theorem ok_rep {a : Mi.E} (ha : OkE T d P a) : OkE T d P (.rep a) := fun X E N sc fb S => ok_gen S fun m x h => by
  simp only [mE] at h
  split at h
  · rename_i g y hy
    obtain ⟨p, q, rfl⟩ := asCall_ok hy
    simp only [Bool.and_eq_true, decide_eq_true_eq] at h
    obtain ⟨rfl, h2, h3, h4, h5⟩ := h
    obtain ⟨g1, g2, g3, g4⟩ := S.fr h2
    exact ⟨o_rep S.cn (S.gd h3) g1 g2 (os_cons ((ha X E N sc fb S).2.1 _ h5) os_nil (star_cons h4 _)) (star_cons h4 _), fun _ => rfl⟩
  · cases h
theorem noRef0 {X : Cx} {E : XK} {w : Str} {e : Mi.E} {Γ : Gam} (h : Γ.refd = fun _ _ _ _ _ _ => False) {x : Expr} : PE X x (tE P (wE E) (evE Γ (.refd w e))) := ⟨fun _ _ σ H Q _ ⟨He, G, ρ, μ, k, kx, w0, sl, hw, _⟩ => by
  simp only [evE, h] at hw⟩
theorem ok_refd {w : Str} {e : Mi.E} (hp : ∀ f p, T.prim f = some p → ∀ Γ vs μ k kx, p.2 Γ vs μ k kx → vs.length = p.1.length) : ∀ d, (∀ d', d' < d → OkE T d' P e) → OkE T d P (.refd w e)
  | 0, he => fun X E N sc fb S => ok_gen S fun m x h => by
    simp only [mE] at h
    split at h
    · rename_i g v pms body scope hy
      obtain ⟨p, j, p2, q, r, rfl⟩ := asRef_ok hy
      exact ⟨noRef0 rfl, fun _ => rfl⟩
    · cases h
  | 1, he => fun X E N sc fb S => ok_gen S fun m x h => by
    simp only [mE] at h
    split at h
    · rename_i g v pms body scope hy
      obtain ⟨p, j, p2, q, r, rfl⟩ := asRef_ok hy
      exact ⟨noRef0 rfl, fun _ => rfl⟩
    · cases h
  | 2, he => fun X E N sc fb S => ok_gen S fun m x h => by
    simp only [mE] at h
    split at h
    · rename_i g v pms body scope hy
      obtain ⟨p, j, p2, q, r, rfl⟩ := asRef_ok hy
      exact ⟨noRef0 rfl, fun _ => rfl⟩
    · cases h
  | d + 3, he => fun X E N sc fb S => ok_gen S fun m x h => by
    simp only [mE] at h
    split at h
    · rename_i g v pms body scope hy
      obtain ⟨p, jc, p2, q, r, rfl⟩ := asRef_ok hy
      simp only [Bool.and_eq_true, decide_eq_true_eq] at h
      obtain ⟨rfl, rfl, h2, h3, h3', h4, hk, h5⟩ := h
      split at hk
      · rename_i ps hps
        have hk1 : ps.length = 1 := of_decide_eq_true hk
        obtain ⟨qs, hqs, h5, h6⟩ : ∃ qs, dfOf pms = some qs ∧ lamPB sc scope qs N = true ∧ mE T N scope (fun _ => false) .val e body = true := by
          split at h5
          · rename_i qs hqs
            simp only [Bool.and_eq_true] at h5
            exact ⟨qs, hqs, h5⟩
          · cases h5
        have hdf := dfOf_ok hqs
        refine ⟨?_, fun _ => rfl⟩
        obtain ⟨j, c, Pa, hj, TB, hc⟩ := S.lm h4
        obtain ⟨a, fd, k1, k2, k3, _, k4⟩ := S.fns (d + 2) (Nat.le_succ _) _ _ hps
        refine o_refd (Γ := gam T (d + 3)) (k := d) (lo := fun ρ μ k' kx => evE (gam T d) e ρ μ k' kx) S.cn (S.tx.cau h3) (S.tx.rfd h3') (S.gl h2).1 hj TB hc S.room hdf (lamPB_ok (by rw [S.hs, S.hN]; exact h5)) (fun A outer s H E' f c' hr => ?_) (fun c' C hs hm St hS => ?_) k1 k2 k3 hk1 k4 (fun ρ μ k kx hw => ?_)
        · refine (he d (by omega) (LamX.lamCx X A outer s H E' scope f c') E' N scope (fun _ => false) ⟨⟨S.cn.hK, S.cn.hmg, rfl, S.cn.nd, hr.units, takes_of rfl rfl rfl rfl⟩, S.hN, rfl, (fun _ z => nomatch z), hr, S.tx, fun d' hd f ps hf => S.fns d' (Nat.le_trans hd (Nat.le_add_right d 3)) f ps hf, (fun z => nomatch z), (fun z => nomatch z), S.ini, fun e he => S.mks e (by omega)⟩).1 _ h6
        · rw [gam_sub] at hs
          have hm' : X.mg c' = some (.ref C) := by rw [← S.cn.hmg]; exact hm
          exact (S.tx.stp _ _ hs _ _ hm' hS).2.1
        · simp only [evE] at hw
          have hw' : refS T (gam T (d + 2)) (gam T d) v e ρ μ k kx := hw
          unfold refS at hw'
          rw [gam_sub]
          exact hw'
      · cases hk
    · cases h
/-! ### rows -/
theorem mEs_nil {N : List Str} {sc : Scope} {fb : Str → Bool} {m : Mode} {xs : List Expr} (h : mEs T N sc fb m .nil xs = true) : xs = [] := by
  cases xs with
  | nil => rfl
  | cons _ _ => simp [mEs] at h
theorem mEs_cons {N : List Str} {sc : Scope} {fb : Str → Bool} {m : Mode} {e : Mi.E} {es : Es} {xs : List Expr} (h : mEs T N sc fb m (.cons e es) xs = true) : ∃ y ys, xs = y :: ys ∧ mE T N sc fb m e y = true ∧ mEs T N sc fb m es ys = true := by
  cases xs with
  | nil => simp [mEs] at h
  | cons y ys =>
    simp only [mEs, Bool.and_eq_true] at h
    exact ⟨y, ys, rfl, h.1, h.2⟩
theorem ok_nil : OkEs T d P .nil := fun X E N sc fb S => by
  refine ⟨fun xs hn h => ?_, fun xs hn h => ?_, fun xs pos h => ?_, fun xs pos h => ?_, fun kws h => (by
    obtain rfl : kws = [] := by simpa using mEs_nil h
    exact k_nil)⟩ <;> obtain rfl := mEs_nil h
  · exact os_nil
  · exact ⟨es_nil, r_nil⟩
  · exact ⟨⟨fun _ _ σ H Q _ ⟨He, G, ρ, μ, k, kx, w0, sl, hw, _⟩ => by simp [wAnd, evAnd] at hw⟩, ⟨fun _ _ σ H Q _ ⟨He, G, ρ, μ, k, kx, w0, sl, hw, _⟩ => by simp [wOr, evOr] at hw⟩⟩
  · exact ⟨⟨fun _ _ _ σ H Q _ ⟨He, G, ρ, μ, k, kx, w0, sl, hw, _⟩ => by simp [wAnd, evAnd] at hw⟩, ⟨fun _ _ _ σ H Q _ ⟨He, G, ρ, μ, k, kx, w0, sl, hw, _⟩ => by simp [wOr, evOr] at hw⟩⟩
theorem ok_cons {e : Mi.E} {es : Es} (he : OkE T d P e) (hes : OkEs T d P es) : OkEs T d P (.cons e es) := fun X E N sc fb S => by
  obtain ⟨a1, a2, a3⟩ := he X E N sc fb S
  obtain ⟨b1, b2, b3, b4, b5⟩ := hes X E N sc fb S
  refine ⟨fun xs hn h => ?_, fun xs hn h => ?_, fun xs pos h => ?_, fun xs pos h => ?_, fun kws h => (by
    cases kws with
    | nil => simp [mEs] at h
    | cons kw kws =>
      obtain ⟨nm, v, kp⟩ := kw
      simp only [List.map_cons, mEs, Bool.and_eq_true] at h
      exact k_cons (a1 _ h.1) (b5 _ h.2))⟩ <;> obtain ⟨y, ys, rfl, h1, h2⟩ := mEs_cons h
  · simp only [List.all_cons, Bool.and_eq_true] at hn
    exact os_cons (a2 _ h1) (b1 _ hn.2 h2) (star_cons hn.1 _)
  · simp only [List.all_cons, Bool.and_eq_true] at hn
    exact ⟨es_cons (a1 _ h1) (b2 _ hn.2 h2).1 (star_cons hn.1 _), r_cons (a1 _ h1) (b2 _ hn.2 h2).2 (star_cons hn.1 _)⟩
  · cases es with
    | nil =>
      obtain rfl := mEs_nil h2
      exact ⟨o_and1 (a2 _ h1), o_or1 (a2 _ h1)⟩
    | cons e' es' =>
      obtain ⟨z, zs, rfl, _, _⟩ := mEs_cons h2
      exact ⟨o_andc (a2 _ h1) (b3 _ _ h2).1, o_orc (a2 _ h1) (b3 _ _ h2).2⟩
  · cases es with
    | nil =>
      obtain rfl := mEs_nil h2
      exact ⟨v_and1 (a3 _ h1), v_or1 (a3 _ h1)⟩
    | cons e' es' =>
      obtain ⟨z, zs, rfl, _, _⟩ := mEs_cons h2
      exact ⟨v_andc (a3 _ h1) (b4 _ _ h2).1, v_orc (a3 _ h1) (b4 _ _ h2).2⟩
theorem ok_no : OkO T d P .no := fun X E N sc fb S => by
  refine ⟨fun x h => ?_, fun hE x h => ?_⟩
  · cases x with
    | none => exact oo_no
    | some _ => simp [mO] at h
  · cases x with
    | nil => exact ct_no
    | cons _ _ => simp [mC] at h
theorem ok_yes {e : Mi.E} (he : OkE T d P e) : OkO T d P (.yes e) := fun X E N sc fb S => by
  refine ⟨fun x h => ?_, fun hE x h => ?_⟩
  · cases x with
    | none => simp [mO] at h
    | some y =>
      simp only [mO] at h
      exact oo_yes ((he X E N sc fb S).2.1 _ h)
  · subst hE
    match x, h with
    | [y], h =>
      simp only [mC] at h
      exact ct_yes ((he X _ N sc fb S).2.2 _ h)
    | [], h => simp [mC] at h
    | _ :: _ :: _, h => simp [mC] at h
theorem ok_ex {e : Mi.E} (he : OkE T d P e) : OkSr T d P (.ex e) := fun X E N sc fb S f tx x h => by
  simp only [mSr] at h
  cases f with
  | true => exact i_ex S.cn (b1_of (f := true) ((he X E N sc fb S).1 _ h))
  | false => exact i_ex S.cn (b1_of (f := false) ((he X E N sc fb S).2.1 _ h))
theorem ok_rng1 {es : Es} (he : OkEs T d P es) : OkSr T d P (.rng1 es) := fun X E N sc fb S f tx x h => by
  simp only [mSr] at h
  split at h
  · rename_i g y hy
    obtain ⟨p, q, rfl⟩ := asCall_ok hy
    simp only [Bool.and_eq_true, decide_eq_true_eq] at h
    obtain ⟨⟨⟨rfl, h2⟩, h3⟩, h4⟩ := h
    obtain ⟨g1, g2, _⟩ := S.fr h2
    exact i_rng1 g1 g2 ((he X E N sc fb S).1 _ (by simp [h3]) h4) (star_cons h3 _)
  · cases h
theorem ok_rng2 {es : Es} (he : OkEs T d P es) : OkSr T d P (.rng2 es) := fun X E N sc fb S f tx x h => by
  simp only [mSr] at h
  split at h
  · rename_i g y z hy
    obtain ⟨p, q, rfl⟩ := asCall_ok hy
    simp only [Bool.and_eq_true, decide_eq_true_eq] at h
    obtain ⟨⟨⟨⟨rfl, h2⟩, h3⟩, h3'⟩, h4⟩ := h
    obtain ⟨g1, g2, _⟩ := S.fr h2
    exact i_rng2 g1 g2 ((he X E N sc fb S).1 _ (by simp [h3, h3']) h4) (by rw [star_cons h3, star_cons h3'] <;> rfl) (star_cons h3' _)
  · cases h
theorem rowB {f : Bool} {es : Es} (he : OkEs T d P es) {X : Cx} {E : XK} {N : List Str} {sc : Scope} {fb : Str → Bool} (S : Sit T d P X E N sc fb) {xs : List Expr} (hn : xs.all notStar = true) (h : mEs T N sc fb (if f = true then .val else .opd) es xs = true) : PA X xs (tAs f P (wE E) (evEs (gam T d) es)) := by
  cases f with
  | true => exact ((he X E N sc fb S).2.1 _ hn h).1
  | false => exact (he X E N sc fb S).1 _ hn h
theorem ok_zip {es : Es} (he : OkEs T d P es) : OkSr T d P (.zip es) := fun X E N sc fb S f tx x h => by
  simp only [mSr, Bool.and_eq_true] at h
  obtain ⟨ht, h⟩ := h
  obtain ⟨ts, hts⟩ := Option.isSome_iff_exists.mp ht
  obtain ⟨kk, tp, rfl⟩ := asTup_ok hts
  split at h
  · rename_i g y z hy
    obtain ⟨p, q, rfl⟩ := asCall_ok hy
    simp only [Bool.and_eq_true, decide_eq_true_eq] at h
    obtain ⟨⟨⟨⟨rfl, h2⟩, h3⟩, h3'⟩, h4⟩ := h
    obtain ⟨g1, g2, _⟩ := S.fr h2
    exact i_zip S.cn g1 g2 (rowB he S (by simp [h3, h3']) h4) (star_cons h3 _) (by rw [star_cons h3'] <;> rfl)
  · cases h
theorem ok_enum {es : Es} (he : OkEs T d P es) : OkSr T d P (.enum es) := fun X E N sc fb S f tx x h => by
  simp only [mSr, Bool.and_eq_true] at h
  obtain ⟨ht, h⟩ := h
  obtain ⟨ts, hts⟩ := Option.isSome_iff_exists.mp ht
  obtain ⟨kk, tp, rfl⟩ := asTup_ok hts
  split at h
  · rename_i g y hy
    obtain ⟨p, q, rfl⟩ := asCall_ok hy
    simp only [Bool.and_eq_true, decide_eq_true_eq] at h
    obtain ⟨⟨⟨rfl, h2⟩, h3⟩, h4⟩ := h
    obtain ⟨g1, g2, _⟩ := S.fr h2
    exact i_enum S.cn g1 g2 (rowB he S (by simp [h3]) h4) (star_cons h3 _)
  · cases h
/-- constructs without a rule -/
theorem ok_none {e : Mi.E} (h : ∀ N sc fb m x, mE T N sc fb m e x = false) : OkE T d P e := fun X E N sc fb S =>
  ⟨fun x hx => (by rw [h] at hx; cases hx), fun x hx => (by rw [h] at hx; cases hx), fun x hx => (by rw [h] at hx; cases hx)⟩
end
section
variable {T : Tab} {P : En} {d : Nat}
theorem ok_fnv {f : Str} : OkE T d P (.fnv f) := fun X E N sc fb S => ok_gen S fun m x h => by
  simp only [mE, Bool.and_eq_true, decide_eq_true_eq] at h
  obtain ⟨h0, h1, h2, h3⟩ := h
  obtain ⟨p, rfl⟩ := isName_ok h1
  obtain ⟨ps, hps⟩ := Option.isSome_iff_exists.mp h3
  obtain ⟨a, fd, k1, _⟩ := S.fns _ (Nat.le_refl _) _ _ hps
  obtain ⟨g1, g2, g3⟩ := S.gl h2
  refine ⟨(pe_glob (v := .ref a) g1 k1 rfl g2).imp fun σ H Q ⟨He, G, ρ, μ, k, kx, w0, sl, hw, t, tx⟩ => ?_, fun e => absurd e h0⟩
  simp only [evE] at hw
  exact t G μ H (.fn f) (.ref a) (.refl H G) w0 (.of (.fn (by rw [S.cn.hmg]; exact k1))) hw
/-- C(e, ..) -/
theorem o_mk {X : Cx} {P : En} {E : XK} {e : Nat} {c : Str} {F : Fun} {C f : Addr} {fd : FuncData} {a : Expr} {as : List Expr} {es : Es} {p pos : Pos} (n : Cn X P (wE E)) (M : Mk X.K C f) (hF : FnOk X.prog X.w X.K X.mg X.base (L2.CX X.prog X.w) (e + 1) f fd F.ps (spI P F.ps.length (inSem (gam T e) F c) c)) (hc : T.ini.lookup c = some F)
    (hr : Room (e + 2) X.A) (hg : Gl X c) (hm : X.mg c = some (.ref C)) (hb : Binds X.K fd F.ps []) (hd : (c == ("__debug__" : Str)) = false)
    (ha : PA X (a :: as) (tEs P (wE E) (evEs (gam T (e + 2)) es))) (hs : starEach (a :: as) X.env = (false, eval a X.env) :: starEach as X.env) (hpl : (backTo pos (starEach as X.env)).any (·.1) = false) : PE X (.Call (.Name c p) (a :: as) [] pos) (tE P (wE E) (evE (gam T (e + 2)) (.mk c es))) :=
  (pe_make (E := E) M hF hr hg hm hb .nil (passes_call n.takes fun _ _ _ _ h => h) ha hd hs hpl).imp fun σ H Q ⟨He, G, ρ, μ, k, kx, w0, sl, hw, t, tx⟩ => by
    simp only [evE] at hw
    refine ⟨He, G, ρ, μ, _, kx, w0, sl, hw.2, fun G1 μ1 H1 vs xs e1 w1 r1 h1 => ?_, tx⟩
    intro x dx hx hdx ne
    rw [gam_make] at h1
    simp only [Tab.mkS, hc] at h1
    rw [List.append_nil]
    exact ⟨H1, G1, μ1, vs, k, kx, x, dx, C, xs, rfl, by rw [List.length_cons, ← r1.length]; exact h1.1, by rw [n.hmg]; exact hm, w1, hx, hdx, ne, rfl, r1, h1, fun G2 μ2 H2 v e2 w2 r2 h2 => ⟨rfl, t G2 μ2 H2 v (.ref x) (e1.trans e2) w2 (.of r2) h2⟩, tx.ext e1⟩
theorem ok_mk {c : Str} {es : Es} (he : OkEs T d P es) : OkE T d P (.mk c es) := fun X E N sc fb S => ok_gen S fun m x h => by
  simp only [mE] at h
  split at h
  · rename_i f a as hy
    obtain ⟨p, q, rfl⟩ := asCall_ok hy
    simp only [Bool.and_eq_true, decide_eq_true_eq] at h
    obtain ⟨rfl, h1, h2, h3, h4⟩ := h
    obtain ⟨F, hF⟩ := Option.isSome_iff_exists.mp h2
    obtain ⟨g1, g2, g3⟩ := S.gl h1
    have h3' := h3
    simp only [List.all_cons, Bool.and_eq_true] at h3'
    refine ⟨?_, fun _ => rfl⟩
    have hA := ((he X E N sc fb S).2.1 _ h3 h4).1
    match d, S, hA with
    | 0, S, hA => exact ⟨fun _ _ σ H Q _ ⟨He, G, ρ, μ, k, kx, w0, sl, hw, _⟩ => by simp only [evE] at hw; exact Bool.noConfusion (show false = true from hw.1)⟩
    | 1, S, hA => exact ⟨fun _ _ σ H Q _ ⟨He, G, ρ, μ, k, kx, w0, sl, hw, _⟩ => by simp only [evE] at hw; exact Bool.noConfusion (show false = true from hw.1)⟩
    | e + 2, S, hA =>
      obtain ⟨C, ad, fd, k1, k2, k3, k4⟩ := S.mks e (Nat.le_refl _) _ _ hF
      exact o_mk S.cn k2 k4 hF S.room g1 k1 k3 g2 hA (star_cons h3'.1 _) (star_none h3'.2 _)
  · cases h
theorem ok_callv (tk : TabOk T P) (lk : LamsOk T P d) {i : Nat} {es : Es} (he : OkEs T d P es) : OkE T d P (.callv i es) := fun X E N sc fb S => ok_gen S fun m x h => by
  simp only [mE] at h
  split at h
  · rename_i f a as hy
    obtain ⟨p, q, rfl⟩ := asCall_ok hy
    simp only [Bool.and_eq_true] at h
    obtain ⟨h1, h2, h3⟩ := h
    obtain ⟨q1, q2, q3, q4⟩ := S.nm h1
    have h2' := h2
    simp only [List.all_cons, Bool.and_eq_true] at h2'
    refine ⟨o_callv (d := d) S.cn q1 q2 q3 q4 ((he X E N sc fb S).2.1 _ h2 h3).1 (star_cons h2'.1 _) (star_none h2'.2 _) S.room (fun f hf => ?_) (fun k params body scope hP => ?_), fun _ => rfl⟩
    · rw [gam_isf] at hf
      obtain ⟨ps, hps⟩ := Option.isSome_iff_exists.mp hf
      obtain ⟨ad, fd, k1, k2, k3, _, k4⟩ := S.fns _ (Nat.le_refl _) _ _ hps
      exact ⟨ad, fd, ps, k1, k2, k3, k4, ar_len tk.prim hps d⟩
    · have hf := tk.fit _ _ _ _ hP
      unfold lamFit at hf
      split at hf
      · rename_i pr as' e1 e2
        simp only [Bool.and_eq_true, decide_eq_true_eq] at hf
        obtain ⟨k1, k2, k3, k4⟩ := hf
        cases d with
        | zero => intro A outer s H f c' q us vs Q E hr e0 hf hc r ⟨G, μ, pvs, k, kx, w0, rp, hw, _⟩; exact hw.elim
        | succ d =>
          have S' := scopeB_ok k3
          rw [← k1] at S' k2 k4
          have run := clo_run (Pr := X.prog) (w := X.w) (K := X.K) (mg := X.mg) (base := X.base) (P := P) (T := T) (d := d) (e := pr.2) e2 k2 S' fun A outer s H f c' q E hr => by
            have St : Sit T d P (cxOf (L2.CX X.prog X.w) X.prog X.w X.K X.mg X.base (as'.map (·.arg)) q scope f (.ref c') A outer s H E) E (as'.map (·.arg)) scope fbL :=
              ⟨⟨S.cn.hK, S.cn.hmg, rfl, S'.nd, hr.units, takes_of rfl rfl rfl rfl⟩, rfl, rfl, fun _ _ => rfl, hr, S.tx, fun d' hd => S.fns d' (by omega), fun z => by simp [fbL] at z, fun z => by simp [fbL] at z, S.ini, fun e he => S.mks e (by omega)⟩
            exact (lk d (by omega) _ _ e1 _ _ _ _ _ St).1 _ k4
          have ec : (gam T (d + 1)).clo k = fun vs μ k kx => vs.length = (as'.map (·.arg)).length ∧ evE (gam T d) pr.2 (vs.map some) μ k kx := by
            rw [gam_clo]
            funext vs μ k kx
            simp only [e1, k1]
          rw [ec]
          exact run
      · cases hf
  · cases h
end
section
variable {T : Tab} {P : En}
mutual
theorem thE0 (tk : TabOk T P) : ∀ (e : Mi.E) (d : Nat), LamsOk T P d → OkE T d P e
  | .var i, d, lk => ok_var i
  | .pk i, d, lk => ok_pk i
  | .cint n, d, lk => ok_cint n
  | .cbl n, d, lk => ok_cbl n
  | .cstr n, d, lk => ok_cstr n
  | .cnon, d, lk => ok_cnon
  | .cst c, d, lk => ok_cst c
  | .fnv _, d, lk => ok_fnv
  | .tup es, d, lk => ok_tup (thEs0 tk es d lk)
  | .lst es, d, lk => ok_lst (thEs0 tk es d lk)
  | .dct0, d, lk => ok_dct0
  | .bin o a b, d, lk => ok_bin (thE0 tk a d lk) (thE0 tk b d lk)
  | .neg a, d, lk => ok_neg (thE0 tk a d lk)
  | .not a, d, lk => ok_not (thE0 tk a d lk)
  | .and es, d, lk => ok_and (thEs0 tk es d lk)
  | .or es, d, lk => ok_or (thEs0 tk es d lk)
  | .cmp o a b, d, lk => ok_cmp (thE0 tk a d lk) (thE0 tk b d lk)
  | .ieq _ _ _, d, lk => ok_none fun N sc fb m x => by simp only [mE]
  | .nev, d, lk => ok_nev
  | .chain o p a b c, d, lk => ok_chain (thE0 tk a d lk) (thE0 tk b d lk) (thE0 tk c d lk)
  | .isn a, d, lk => ok_isn (thE0 tk a d lk)
  | .nisn a, d, lk => ok_nisn (thE0 tk a d lk)
  | .isb k a, d, lk => ok_isb (thE0 tk a d lk)
  | .ite c a b, d, lk => ok_ite (thE0 tk c d lk) (thE0 tk a d lk) (thE0 tk b d lk)
  | .call f es, d, lk => ok_call tk.prim (thEs0 tk es d lk)
  | .callk f es ks kes perm, d, lk => ok_callk tk.prim (thEs0 tk kes d lk)
  | .mk _ es, d, lk => ok_mk (thEs0 tk es d lk)
  | .mkk _ _ _ _ _, d, lk => ok_none fun N sc fb m x => by simp only [mE]
  | .bi b es, d, lk => ok_bi (thEs0 tk es d lk)
  | .isin a t, d, lk => ok_isin (fun _ _ _ => tk.stp) (thE0 tk a d lk)
  | .attr a f, d, lk => ok_attr (thE0 tk a d lk)
  | .ix a i, d, lk => ok_ix (thE0 tk a d lk) (thE0 tk i d lk)
  | .sl a l h, d, lk => ok_sl (thE0 tk a d lk) (thO0 tk l d lk) (thO0 tk h d lk)
  | .rev a, d, lk => ok_rev (thE0 tk a d lk)
  | .slS a l h st, d, lk => ok_slS (thE0 tk a d lk) (thO0 tk l d lk) (thO0 tk h d lk) (thE0 tk st d lk)
  | .caught e, d, lk => ok_caught d fun d' hd => thE0 tk e d' (lk.mono (Nat.le_of_lt hd))
  | .refd w e, d, lk => ok_refd tk.prim d fun d' hd => thE0 tk e d' (lk.mono (Nat.le_of_lt hd))
  | .rep a, d, lk => ok_rep (thE0 tk a d lk)
  | .comp own tg s c e, d, lk => ok_comp (thSr0 tk s d lk) (thO0 tk c d lk) (thE0 tk e d lk)
  | .callv _ es, d, lk => ok_callv tk lk (thEs0 tk es d lk)
  | .lamv _, d, lk => ok_lamv tk
  | .join _ _, d, lk => ok_none fun N sc fb m x => by simp only [mE]
  | .split _ _, d, lk => ok_none fun N sc fb m x => by simp only [mE]
  | .sleft i, d, lk => ok_sleft i
  | .sturn i, d, lk => ok_sturn i
  | .spop i, d, lk => ok_spop i
  | .sgreat i, d, lk => ok_sgreat i
theorem thEs0 (tk : TabOk T P) : ∀ (e : Es) (d : Nat), LamsOk T P d → OkEs T d P e
  | .nil, d, lk => ok_nil
  | .cons e es, d, lk => ok_cons (thE0 tk e d lk) (thEs0 tk es d lk)
theorem thO0 (tk : TabOk T P) : ∀ (e : Eo) (d : Nat), LamsOk T P d → OkO T d P e
  | .no, d, lk => ok_no
  | .yes e, d, lk => ok_yes (thE0 tk e d lk)
theorem thSr0 (tk : TabOk T P) : ∀ (e : Sr) (d : Nat), LamsOk T P d → OkSr T d P e
  | .ex e, d, lk => ok_ex (thE0 tk e d lk)
  | .rng1 es, d, lk => ok_rng1 (thEs0 tk es d lk)
  | .rng2 es, d, lk => ok_rng2 (thEs0 tk es d lk)
  | .zip es, d, lk => ok_zip (thEs0 tk es d lk)
  | .enum es, d, lk => ok_enum (thEs0 tk es d lk)
  | .cells i, d, lk => ok_cells i
end
theorem lams_all (tk : TabOk T P) : ∀ d, LamsOk T P d := fun d => by
  induction d with
  | zero => intro d' h; omega
  | succ d ih => exact fun d' h k p _ => thE0 tk p.2 d' (ih.mono (by omega))
theorem thE (tk : TabOk T P) (e : Mi.E) (d : Nat) : OkE T d P e := thE0 tk e d (lams_all tk d)
theorem thEs (tk : TabOk T P) (e : Es) (d : Nat) : OkEs T d P e := thEs0 tk e d (lams_all tk d)
theorem thO (tk : TabOk T P) (e : Eo) (d : Nat) : OkO T d P e := thO0 tk e d (lams_all tk d)
theorem thSr (tk : TabOk T P) (e : Sr) (d : Nat) : OkSr T d P e := thSr0 tk e d (lams_all tk d)
end
end Mi
end

section
-- Mini13
set_option Elab.async false
set_option linter.all false
set_option maxRecDepth 100000
set_option maxHeartbeats 4000000
/-! Mini, part 13: matching statements -/
namespace Mi
open PySem PySem.Spec PyProof.Rows L2

def asAss : Stmt → Option (Expr × Expr × Pos)
  | .Assign [t] v p => some (t, v, p)
  | _ => none
theorem asAss_ok {s t v p} (h : asAss s = some (t, v, p)) : s = .Assign [t] v p := by unfold asAss at h; split at h <;> cases h; rfl
def asEx : Stmt → Option (Expr × Pos)
  | .Expr v p => some (v, p)
  | _ => none
theorem asEx_ok {s v p} (h : asEx s = some (v, p)) : s = .Expr v p := by unfold asEx at h; split at h <;> cases h; rfl
def asRet : Stmt → Option (Option Expr × Pos)
  | .Return v p => some (v, p)
  | _ => none
theorem asRet_ok {s v p} (h : asRet s = some (v, p)) : s = .Return v p := by unfold asRet at h; split at h <;> cases h; rfl
def asIfS : Stmt → Option (Expr × List Stmt × List Stmt × Pos)
  | .If c a b p => some (c, a, b, p)
  | _ => none
theorem asIfS_ok {s c a b p} (h : asIfS s = some (c, a, b, p)) : s = .If c a b p := by unfold asIfS at h; split at h <;> cases h; rfl
def asWh : Stmt → Option (Expr × List Stmt × Pos)
  | .While c a [] p => some (c, a, p)
  | _ => none
theorem asWh_ok {s c a p} (h : asWh s = some (c, a, p)) : s = .While c a [] p := by unfold asWh at h; split at h <;> cases h; rfl
def asFor : Stmt → Option (Expr × Expr × List Stmt × Pos)
  | .For t i a [] p => some (t, i, a, p)
  | _ => none
theorem asFor_ok {s c i a p} (h : asFor s = some (c, i, a, p)) : s = .For c i a [] p := by unfold asFor at h; split at h <;> cases h; rfl
def asRai : Stmt → Option (Expr × Pos)
  | .Raise (some e) none p => some (e, p)
  | _ => none
theorem asRai_ok {s e p} (h : asRai s = some (e, p)) : s = .Raise (some e) none p := by unfold asRai at h; split at h <;> cases h; rfl
def asAug : Stmt → Option (Expr × Operator × Expr × Pos)
  | .AugAssign t o v p => some (t, o, v, p)
  | _ => none
theorem asAug_ok {s t o v p} (h : asAug s = some (t, o, v, p)) : s = .AugAssign t o v p := by unfold asAug at h; split at h <;> cases h; rfl
def nameAt : Expr → Option (Str × Pos)
  | .Name x p => some (x, p)
  | _ => none
theorem nameAt_ok {x y p} (h : nameAt x = some (y, p)) : x = .Name y p := by unfold nameAt at h; split at h <;> cases h; rfl
theorem nosw_tgt {t : Expr} (h : asName t = none) (x : Expr) (l : Nat) (env : PySem.Env) : swapsWith x (some t) l env = pure false := by
  cases x <;> first | rfl | (cases t <;> first | rfl | cases h)
theorem sw_cell {e : Expr} {gs : List Comprehension} {scope : Scope} {pos py : Pos} {y : Str} {l : Nat} {env : PySem.Env} (hy : env.scope.names.lookup y = some .cell) : swapsWith (.ListComp e gs scope pos) (some (.Name y py)) l env = pure false := by
  have ky : env.kindOf y = some .cell := hy
  unfold swapsWith
  simp only [ky]
  have e1 : ((some NameKind.cell : Option NameKind) == some NameKind.local) = false := by decide
  rw [e1]
  simp
def swC (sc : Scope) (ts vs : List Expr) : Option (Option (List Str)) :=
  if (!(ts.length == 2 || ts.length == 3) || vs.length != ts.length) = true then some none
  else if (vs.any fun | .Starred .. => true | _ => false) = true then some none
  else
    let line := (ts.head?.map (·.pos.line)).getD 0
    let names := ts.filterMap fun
      | .Name id pos => if (sc.names.lookup id == some .local && pos.line == line) = true then some id else none
      | _ => none
    if (names.length != ts.length || names.eraseDups.length != names.length) = true then some none
    else if vs.all (foldedForSure 8) = true then some none
    else if vs.all (constantsAlone 8) = true then none
    else some (some names)
theorem swC_ok {sc : Scope} {ts vs : List Expr} {k k2 : Nat} {p p2 : Pos} {env : PySem.Env} {r : Option (List Str)} (hk : env.blockKind = .function) (hs : env.scope = sc) (h : swC sc ts vs = some r) : swappedStores [.Tuple ts k p] (.Tuple vs k2 p2) env = pure r := by
  subst hs
  unfold swC at h
  unfold swappedStores
  have b : (env.blockKind != ScopeKind.function) = false := by rw [hk] <;> rfl
  simp only [b, Bool.or_false]
  split at h
  · rename_i c
    cases h
    rw [if_pos c]
  · rename_i c
    rw [if_neg c]
    split at h
    · rename_i c2
      cases h
      exact if_pos c2
    · rename_i c2
      refine (if_neg c2).trans ?_
      dsimp only at h
      split at h
      · rename_i c3
        cases h
        exact if_pos c3
      · rename_i c3
        refine (if_neg c3).trans ?_
        split at h
        · rename_i c4
          cases h
          exact if_pos c4
        · rename_i c4
          refine (if_neg c4).trans ?_
          split at h
          · cases h
          · rename_i c5
            cases h
            exact if_neg c5
def kindF (sc : Scope) : Bool := match sc.kind with
  | .function => true
  | _ => false
theorem kindF_ok {sc : Scope} {env : PySem.Env} (hs : env.scope = sc) (h : kindF sc = true) : env.blockKind = .function ∧ env.scope.kind = .function := by
  unfold kindF at h
  split at h
  · rename_i e
    rw [← hs] at e
    exact ⟨by unfold PySem.Env.blockKind; rw [e] <;> rfl, e⟩
  · cases h
/-- name = comprehension: does it swap -/
def lcSwap (sc scope : Scope) (y : Str) (l l2 : Nat) : Option Bool :=
  match sc.names.lookup y with
  | some .cell => some false
  | some .local => if (l == l2) = true ∧ (scope.names.any fun (n, k) => n == y && (k == .local || k == .cell)) = false then some true else none
  | _ => none
def locL (sc : Scope) (x : Str) : Bool := decide (sc.names.lookup x = some .local)
def mAsg (T : Tab) (N : List Str) (sc : Scope) (fb : Str → Bool) (i : Nat) (e : Mi.E) (t v : Expr) : Bool := match nameAt t with
  | some (y, py) => decide (N[i]? = some y) && locB sc fb y && (match asLC v with
    | some (_, _, _, _, scope) => (match lcSwap sc scope y py.line v.pos.line with
      | some _ => kindF sc
      | none => false)
    | none => notComp v) && mE T N sc fb .val e v
  | none => false
def mPar (T : Tab) (N : List Str) (sc : Scope) (fb : Str → Bool) (is : List Nat) (es : Es) (t v : Expr) : Bool := match asTup t, asTup v with
  | some ts, some vs => kindF sc && vs.all notStar && mEs T N sc fb .val es vs && decide (is.length < 100) && (match swC sc ts vs with
    | some none => tgNames N sc fb is ts
    | some (some nms) => (match is, ts with
      | [i, j], [t1, t2] => (match nameAt t1, nameAt t2 with
        | some (x, _), some (y, _) => decide (nms = [x, y]) && decide (N[i]? = some x) && decide (N[j]? = some y) && decide (i ≠ j) && locL sc x && locL sc y && decide (vs.length = 2)
        | _, _ => false)
      | [i, j, l], [t1, t2, t3] => (match nameAt t1, nameAt t2, nameAt t3 with
        | some (x, _), some (y, _), some (z, _) => decide (nms = [x, y, z]) && decide (N[i]? = some x) && decide (N[j]? = some y) && decide (N[l]? = some z) && decide (i ≠ j ∧ i ≠ l ∧ j ≠ l) && locL sc x && locL sc y && locL sc z && decide (vs.length = 3)
        | _, _, _ => false)
      | _, _ => false)
    | none => false)
  | _, _ => false
mutual
def mS (T : Tab) (N : List Str) (sc : Scope) (fb : Str → Bool) : S → Stmt → Bool
  | .asg i e, st => (match asAss st with
    | some (t, v, _) => mAsg T N sc fb i e t v
    | none => false)
  | .asgT is e, st => (match asAss st with
    | some (t, v, _) => (match asTup t with
      | some ts => tgNames N sc fb is ts && (asTup v).isNone && notComp v && mE T N sc fb .val e v
      | none => false)
    | none => false)
  | .par is es, st => (match asAss st with
    | some (t, v, _) => mPar T N sc fb is es t v
    | none => false)
  | .setIx i a e, st => (match asAss st with
    | some (t, v, _) => (match asSub t with
      | some (o, ix) => (match nameAt o with
        | some (y, _) => nmB N sc i y && mE T N sc fb .opd a ix && mE T N sc fb .val e v && notSlice ix
        | none => false)
      | none => false)
    | none => false)
  | .setA i f e, st => (match asAss st with
    | some (t, v, _) => (match asAttr t with
      | some (o, g) => (match nameAt o with
        | some (y, _) => decide (g = f) && nmB N sc i y && mE T N sc fb .val e v
        | none => false)
      | none => false)
    | none => false)
  | .aug i o e, st => (match asAug st with
    | some (t, q, v, _) => (match nameAt t with
      | some (y, _) => decide (opOf q = some o) && (decide (o = .add) || decide (o = .sub)) && decide (N[i]? = some y) && locB sc fb y && mE T N sc fb .opd e v
      | none => false)
    | none => false)
  | .app i e, st => (match asEx st with
    | some (v, _) => (match asMeth v with
      | some (o, m, [a], pa, pc) => (match nameAt o with
        | some (y, _) => decide (m = "append") && (pa.endLine == pc.line) && notStar a && nmB N sc i y && mE T N sc fb .val e a
        | none => false)
      | _ => false)
    | none => false)
  | .appPop i j e, st => (match asEx st with
    | some (v, _) => (match asMeth v with
      | some (o, m, [a], pa, pc) => (match nameAt o, asMeth a with
        | some (y, _), some (o', m', [a'], pa', pc') => (match nameAt o' with
          | some (y', _) => decide (m = "append") && decide (m' = "pop") && (pa.endLine == pc.line) && (pa'.endLine == pc'.line) && notStar a' && nmB N sc i y && nmB N sc j y' && mE T N sc fb .opd e a'
          | none => false)
        | _, _ => false)
      | _ => false)
    | none => false)
  | .boxApp _ _, _ => false
  | .ex e, st => (match asEx st with
    | some (v, _) => notComp v && mE T N sc fb .val e v
    | none => false)
  | .ret e, st => (match asRet st with
    | some (some v, _) => mE T N sc fb .val e v
    | _ => false)
  | .retv i, st => (match asRet st with
    | some (some v, _) => (match nameAt v with
      | some (y, _) => nmB N sc i y
      | none => false)
    | _ => false)
  | .retN, st => (match asRet st with
    | some (none, _) => true
    | _ => false)
  | .ifs c a b, st => (match asIfS st with
    | some (x, p, q, _) => mE T N sc fb .tst c x && mSs T N sc fb a p && mSs T N sc fb b q
    | none => false)
  | .fors tg s b, st => (match asFor st with
    | some (t, it, a, _) => tgB N sc fb tg t && notSet it && mSr T N sc fb true s t it && mSs T N sc fb b a
    | none => false)
  | .whs c b, st => (match asWh st with
    | some (x, a, _) => mE T N sc fb .tst c x && mSs T N sc fb b a
    | none => false)
  | .rai c, st => (match asRai st with
    | some (x, _) => (match asCall x with
      | some (g, [a]) => (match asConst a with
        | some (.str _) => decide (g = c) && glB sc c && decide (c ∈ T.exc)
        | _ => false)
      | _ => false)
    | none => false)
  | .rai1 c e, st => (match asRai st with
    | some (x, _) => (match asCall x with
      | some (g, [a]) => decide (g = c) && (glB sc c && ((T.fld.lookup c).isSome && (notStar a && mE T N sc fb .val e a)))
      | _ => false)
    | none => false)
  | .pass, st => (match st with
    | .Pass _ => true
    | _ => false)
  | .brk, st => (match st with
    | .Break _ => true
    | _ => false)
  | .cnt, st => (match st with
    | .Continue _ => true
    | _ => false)
  | .nev, _ => true
  | .frz _, _ => false
  | .setL i e, st => (match asAss st with
    | some (t, v, _) => keyB N sc i "left" t && notComp v && mE T N sc fb .opd e v
    | none => false)
  | .setT i e, st => (match asAss st with
    | some (t, v, _) => keyB N sc i "turn" t && notComp v && mE T N sc fb .opd e v
    | none => false)
  | .mkst i e, st => (match asRet st with
    | some (some (.Dict [some (.Constant (.str k1) _ _), some (.Constant (.str k2) _ _), some (.Constant (.str k3) _ _), some (.Constant (.str k4) _ _)] [.Name y _, v, .Constant (.int n1) _ _, .Constant (.int n2) _ _] _), _) =>
      decide (k1 = "great") && decide (k2 = "cells") && decide (k3 = "left") && decide (k4 = "turn") && decide (n1 = 0) && decide (n2 = 0) && nmB N sc i y && mE T N sc fb .val e v
    | _ => false)
def mSs (T : Tab) (N : List Str) (sc : Scope) (fb : Str → Bool) : Ss → List Stmt → Bool
  | .nil, sts => sts.isEmpty
  | .cons s r, sts => (match s with
    | .frz _ => mSs T N sc fb r sts
    | s => (match sts with
      | [] => false
      | st :: rest => mS T N sc fb s st && mSs T N sc fb r rest))
end
end Mi
end

section
-- Mini14
set_option Elab.async false
set_option linter.all false
set_option maxRecDepth 100000
set_option maxHeartbeats 4000000
/-! Mini, part 14: statements are sound -/
namespace Mi
open PySem PySem.Spec PyProof.Rows L2
abbrev Pass (X : Cx) : Prop := PassesOwn (model X.prog X.w) X.A X.env X.xe
def OkS (T : Tab) (d : Nat) (P : En) (s : S) : Prop := ∀ (X : Cx) (E : XK) (N : List Str) (sc : Scope) (fb : Str → Bool), Sit T d P X E N sc fb → Pass X → ∀ st, mS T N sc fb s st = true → PS X st (tS P E (exS (gam T d) s))
def OkSs (T : Tab) (d : Nat) (P : En) (s : Ss) : Prop := ∀ (X : Cx) (E : XK) (N : List Str) (sc : Scope) (fb : Str → Bool), Sit T d P X E N sc fb → Pass X → ∀ st, mSs T N sc fb s st = true → PSs X st (tS P E (exSs (gam T d) s))
section
variable {T : Tab} {d : Nat} {P : En}
theorem Sit.loc {X : Cx} {E : XK} {N : List Str} {sc : Scope} {fb : Str → Bool} (S : Sit T d P X E N sc fb) {x : Str} (h : locB sc fb x = true) : L2.Loc X.env.scope x ∧ (X.fn x = true ∨ X.env.scope.names.lookup x = some .local) := by
  obtain ⟨h1, h2⟩ := locB_ok h
  rw [S.hs]
  exact ⟨h1, h2.imp (S.hf x) id⟩
theorem nosw_sole {t x : Expr} (h : asName t = none ∨ notComp x = true) (l : Nat) (env : PySem.Env) : swapsWithSole [t] x l env = pure false := by
  rcases h with h | h
  · exact nosw_tgt h x l env
  · exact nosw_of h _ l env
theorem ok_asg (tk : TabOk T P) {i : Nat} {e : Mi.E} : OkS T d P (.asg i e) := fun X E N sc fb S hp st h => by
  simp only [mS] at h
  split at h
  · rename_i t v pos hy
    obtain rfl := asAss_ok hy
    unfold mAsg at h
    split at h
    · rename_i y py hn
      obtain rfl := nameAt_ok hn
      simp only [Bool.and_eq_true, decide_eq_true_eq] at h
      obtain ⟨⟨⟨h1, h2⟩, h3⟩, h4⟩ := h
      obtain ⟨l1, l2⟩ := S.loc h2
      have hN : X.N[i]? = some y := by rw [S.hN]; exact h1
      have he := (thE tk e d X E N sc fb S).1 v h4
      split at h3
      · rename_i el tx it ifs scope hc
        obtain ⟨cp, rfl⟩ := asLC_ok hc
        split at h3
        · rename_i b hb
          obtain ⟨k1, k2⟩ := kindF_ok S.hs h3
          unfold lcSwap at hb
          split at hb
          · rename_i hl
            exact s_asg S.cn.nd hN l1 he (sw_cell (by rw [S.hs]; exact hl)) l2
          · rename_i hl
            split at hb
            · rename_i hc2
              have hloc : X.env.scope.names.lookup y = some .local := by rw [S.hs]; exact hl
              cases e with
              | comp own tg s c e =>
                simp only [mE, hc, Bool.and_eq_true] at h4
                obtain ⟨_, h4⟩ := h4
                obtain ⟨q1, q2, q3, q4, q5, q6, q7⟩ := comp_in (thSr tk s d) (thO tk c d) (thE tk e d) S (by simp only [Bool.and_eq_true]; exact h4)
                exact (ps_setLc S.cn.calm S.cn.nd hN hloc (sw_true k2 hloc hc2.1 hc2.2) q4 q1 q5 q6 q7 q2).imp (asg_core fun σ H Q hq => lc_of S.cn.hK q3 hq)
              | nev => exact ⟨fun _ _ σ H D _ ⟨He, Ge, G, ρ, μ, A, e, w, sl, h, o⟩ => by simp only [exS, evE] at h⟩
              | _ => simp [mE, isName, asName, asConst, asTup, asLst, asBin, asUn, asBool, asCmp, asIf, asCall, asAttr, asSub, keyB, asKey, asMeth, asCau, asRef, asLam] at h4
            · cases hb
          · cases hb
        · cases h3
      · exact s_asg S.cn.nd hN l1 he (nosw_of h3 _ _ _) l2
    · cases h
  · cases h
theorem ok_asgT (tk : TabOk T P) {is : List Nat} {e : Mi.E} : OkS T d P (.asgT is e) := fun X E N sc fb S hp st h => by
  simp only [mS] at h
  split at h
  · rename_i t v pos hy
    obtain rfl := asAss_ok hy
    split at h
    · rename_i ts ht
      obtain ⟨k, p2, rfl⟩ := asTup_ok ht
      simp only [Bool.and_eq_true] at h
      obtain ⟨⟨⟨h1, h2⟩, h3⟩, h4⟩ := h
      obtain ⟨g1, g2, g3⟩ := S.tgs h1
      refine s_asgT S.cn (pg_tup S.cn.calm g1 g2 g3) ((thE tk e d X E N sc fb S).1 v h4) (nosw_sole (.inr h3) _ _) ?_
      cases v <;> first | rfl | cases h2
    · cases h
  · cases h
theorem ok_par (tk : TabOk T P) {is : List Nat} {es : Es} : OkS T d P (.par is es) := fun X E N sc fb S hp st h => by
  simp only [mS] at h
  split at h
  · rename_i t v pos hy
    obtain rfl := asAss_ok hy
    unfold mPar at h
    split at h
    · rename_i ts vs ht hv
      obtain ⟨k, p2, rfl⟩ := asTup_ok ht
      obtain ⟨k2, p3, rfl⟩ := asTup_ok hv
      simp only [Bool.and_eq_true, decide_eq_true_eq] at h
      obtain ⟨⟨⟨⟨h1, h2⟩, h3⟩, h4⟩, h5⟩ := h
      obtain ⟨k1, _⟩ := kindF_ok S.hs h1
      have ha := ((thEs tk es d X E N sc fb S).2.1 _ h2 h3).2
      split at h5
      · rename_i hsw
        obtain ⟨g1, g2, g3⟩ := S.tgs h5
        exact s_parT S.cn (pg_tup S.cn.calm g1 g2 g3) ha (by rw [sizeLine_eq]; omega) (nosw_sole (.inr rfl) _ _) (swC_ok k1 S.hs hsw)
      · rename_i nms hsw
        split at h5
        · rename_i i j t1 t2
          split at h5
          · rename_i x px y py n1 n2
            obtain rfl := nameAt_ok n1
            obtain rfl := nameAt_ok n2
            simp only [Bool.and_eq_true, decide_eq_true_eq] at h5
            obtain ⟨⟨⟨⟨⟨⟨rfl, q2⟩, q3⟩, q4⟩, q5⟩, q6⟩, q7⟩ := h5
            match vs, q7 with
            | [a, b], _ => exact s_par2 S.cn S.cn.nd (by rw [S.hN]; exact q2) (by rw [S.hN]; exact q3) q4 (by rw [S.hs]; exact of_decide_eq_true q5) (by rw [S.hs]; exact of_decide_eq_true q6) ha (swC_ok k1 S.hs hsw) (nosw_sole (.inr rfl) _ _)
          · cases h5
        · rename_i i j l t1 t2 t3
          split at h5
          · rename_i x px y py z pz n1 n2 n3
            obtain rfl := nameAt_ok n1
            obtain rfl := nameAt_ok n2
            obtain rfl := nameAt_ok n3
            simp only [Bool.and_eq_true, decide_eq_true_eq] at h5
            obtain ⟨⟨⟨⟨⟨⟨⟨⟨rfl, q2⟩, q3⟩, q3'⟩, q4⟩, q5⟩, q6⟩, q6'⟩, q7⟩ := h5
            match vs, q7 with
            | [a, b, c], _ => exact s_par3 S.cn S.cn.nd (by rw [S.hN]; exact q2) (by rw [S.hN]; exact q3) (by rw [S.hN]; exact q3') q4.1 q4.2.1 q4.2.2 (by rw [S.hs]; exact of_decide_eq_true q5) (by rw [S.hs]; exact of_decide_eq_true q6) (by rw [S.hs]; exact of_decide_eq_true q6') ha (swC_ok k1 S.hs hsw) (nosw_sole (.inr rfl) _ _)
          · cases h5
        · cases h5
      · cases h5
    · cases h
  · cases h
theorem ok_setIx (tk : TabOk T P) {i : Nat} {a e : Mi.E} : OkS T d P (.setIx i a e) := fun X E N sc fb S hp st h => by
  simp only [mS] at h
  split at h
  · rename_i t v pos hy
    obtain rfl := asAss_ok hy
    split at h
    · rename_i o ix ht
      obtain ⟨p2, rfl⟩ := asSub_ok ht
      split at h
      · rename_i y py hn
        obtain rfl := nameAt_ok hn
        simp only [Bool.and_eq_true] at h
        obtain ⟨q1, q2, q3, q4⟩ := S.nm h.1.1.1
        exact s_setIx S.cn q1 q2 q3 q4 ((thE tk a d X E N sc fb S).2.1 _ h.1.1.2) (b1_of (f := true) ((thE tk e d X E N sc fb S).1 _ h.1.2)) (nosw_sole (.inl rfl) _ _) rfl (fun v => by cases ix <;> first | rfl | cases h.2)
      · cases h
    · cases h
  · cases h
theorem ok_setA (tk : TabOk T P) {i : Nat} {f : Str} {e : Mi.E} : OkS T d P (.setA i f e) := fun X E N sc fb S hp st h => by
  simp only [mS] at h
  split at h
  · rename_i t v pos hy
    obtain rfl := asAss_ok hy
    split at h
    · rename_i o g ht
      obtain ⟨p2, rfl⟩ := asAttr_ok ht
      split at h
      · rename_i y py hn
        obtain rfl := nameAt_ok hn
        simp only [Bool.and_eq_true, decide_eq_true_eq] at h
        obtain ⟨⟨rfl, h2⟩, h3⟩ := h
        obtain ⟨q1, q2, q3, q4⟩ := S.nm h2
        exact s_setA S.cn q1 q2 q3 q4 (fun c C hc hin => S.tx.flds c _ C (by rw [gam_flds] at hin; exact hin) (by rw [← S.cn.hmg]; exact hc)) (b1_of (f := true) ((thE tk e d X E N sc fb S).1 _ h3)) (nosw_tgt rfl _ _ _)
      · cases h
    · cases h
  · cases h
theorem ok_aug (tk : TabOk T P) {i : Nat} {o : Op} {e : Mi.E} : OkS T d P (.aug i o e) := fun X E N sc fb S hp st h => by
  simp only [mS] at h
  split at h
  · rename_i t q v pos hy
    obtain rfl := asAug_ok hy
    split at h
    · rename_i y py hn
      obtain rfl := nameAt_ok hn
      simp only [Bool.and_eq_true, Bool.or_eq_true, decide_eq_true_eq] at h
      obtain ⟨⟨⟨⟨h1, h2⟩, h3⟩, h4⟩, h5⟩ := h
      obtain rfl := opOf_ok h1
      obtain ⟨l1, l2⟩ := S.loc h4
      exact s_aug S.cn S.cn.nd (by rw [S.hN]; exact h3) l1 l2 ((thE tk e d X E N sc fb S).2.1 _ h5) h2
    · cases h
  · cases h
theorem ok_app (tk : TabOk T P) {i : Nat} {e : Mi.E} : OkS T d P (.app i e) := fun X E N sc fb S hp st h => by
  simp only [mS] at h
  split at h
  · rename_i v pos hy
    obtain rfl := asEx_ok hy
    split at h
    · rename_i o m a pa pc hm
      obtain rfl := asMeth_ok hm
      split at h
      · rename_i y py hn
        obtain rfl := nameAt_ok hn
        simp only [Bool.and_eq_true, decide_eq_true_eq] at h
        obtain ⟨⟨⟨⟨rfl, h2⟩, h3⟩, h4⟩, h5⟩ := h
        obtain ⟨q1, q2, q3, q4⟩ := S.nm h4
        exact s_app S.cn q1 q2 q3 q4 (b1_of (f := true) ((thE tk e d X E N sc fb S).1 _ h5)) (star_cons h3 _) h2
      · cases h
    · cases h
  · cases h
theorem ok_appPop (tk : TabOk T P) {i j : Nat} {e : Mi.E} : OkS T d P (.appPop i j e) := fun X E N sc fb S hp st h => by
  simp only [mS] at h
  split at h
  · rename_i v pos hy
    obtain rfl := asEx_ok hy
    split at h
    · rename_i o m a pa pc hm
      obtain rfl := asMeth_ok hm
      split at h
      · rename_i y py o' m' a' pa' pc' hn hm'
        obtain rfl := nameAt_ok hn
        obtain rfl := asMeth_ok hm'
        split at h
        · rename_i y' py' hn'
          obtain rfl := nameAt_ok hn'
          simp only [Bool.and_eq_true, decide_eq_true_eq] at h
          obtain ⟨⟨⟨⟨⟨⟨⟨rfl, rfl⟩, h2⟩, h2'⟩, h3⟩, h4⟩, h4'⟩, h5⟩ := h
          obtain ⟨q1, q2, q3, q4⟩ := S.nm h4
          obtain ⟨t1, t2, t3, t4⟩ := S.nm h4'
          exact s_appPop S.cn q1 q2 q3 q4 t1 t2 t3 t4 ((thE tk e d X E N sc fb S).2.1 _ h5) (star_cons h3 _) h2 h2'
        · cases h
      · cases h
    · cases h
  · cases h
theorem ok_exS (tk : TabOk T P) {e : Mi.E} : OkS T d P (.ex e) := fun X E N sc fb S hp st h => by
  simp only [mS] at h
  split at h
  · rename_i v pos hy
    obtain rfl := asEx_ok hy
    simp only [Bool.and_eq_true] at h
    exact s_ex ((thE tk e d X E N sc fb S).1 _ h.2) (nosw_of h.1 _ _ _)
  · cases h
theorem ok_ret (tk : TabOk T P) {e : Mi.E} : OkS T d P (.ret e) := fun X E N sc fb S hp st h => by
  simp only [mS] at h
  split at h
  · rename_i v pos hy
    obtain rfl := asRet_ok hy
    exact s_ret ((thE tk e d X E N sc fb S).1 _ h)
  · cases h
theorem ok_retv {i : Nat} : OkS T d P (.retv i) := fun X E N sc fb S hp st h => by
  simp only [mS] at h
  split at h
  · rename_i v pos hy
    obtain rfl := asRet_ok hy
    split at h
    · rename_i y py hn
      obtain rfl := nameAt_ok hn
      obtain ⟨q1, q2, q3, q4⟩ := S.nm h
      exact s_retv q1 q2 q3 q4
    · cases h
  · cases h
theorem ok_retN : OkS T d P .retN := fun X E N sc fb S hp st h => by
  simp only [mS] at h
  split at h
  · rename_i pos hy
    obtain rfl := asRet_ok hy
    exact s_retN
  · cases h
theorem ok_rai {c : Str} : OkS T d P (.rai c) := fun X E N sc fb S hp st h => by
  simp only [mS] at h
  split at h
  · rename_i x pos hy
    obtain rfl := asRai_ok hy
    split at h
    · rename_i g a hc
      obtain ⟨p, q, rfl⟩ := asCall_ok hc
      split at h
      · rename_i z hz
        obtain ⟨j, p2, rfl⟩ := asConst_ok hz
        simp only [Bool.and_eq_true, decide_eq_true_eq] at h
        obtain ⟨⟨rfl, h2⟩, h3⟩ := h
        obtain ⟨C, k1, k2, k3, k4, k5⟩ := S.tx.exc _ h3
        obtain ⟨g1, g2, g3⟩ := S.gl h2
        exact s_rai S.cn (by rw [S.cn.hmg]; exact k1) (pmk_own PySem.F.excBase_ValueError k2 k1 k3 (raises_own k4 k5) g1 g2)
      · cases h
    · cases h
  · cases h
theorem ok_rai1 (tk : TabOk T P) {c : Str} {e : Mi.E} : OkS T d P (.rai1 c e) := fun X E N sc fb S hp st h => by
  simp only [mS] at h
  split at h
  · rename_i x pos hy
    obtain rfl := asRai_ok hy
    split at h
    · rename_i g a hc
      obtain ⟨p, q, rfl⟩ := asCall_ok hc
      simp only [Bool.and_eq_true, decide_eq_true_eq] at h
      obtain ⟨rfl, h2, h3, h4, h5⟩ := h
      obtain ⟨f, hf⟩ := Option.isSome_iff_exists.mp h3
      obtain ⟨C, k1, k2, k3, k4⟩ := S.ini _ _ hf
      obtain ⟨g1, g2, g3⟩ := S.gl h2
      have ef : (gam T d).fld g = f := by rw [gam_fld]; simp [hf]
      refine s_rai1 (C := C) S.cn (by rw [S.cn.hmg]; exact k1) ?_
      rw [ef]
      exact pmk_te (p := p) (pos := q) k2 (S.room.mono (Nat.zero_le _)) g1 k1 k4 k3 (pa_cons (b1_of (f := true) ((thE tk e d X E N sc fb S).1 _ h5)) pa_nil (star_cons h4 _)) g2 (star_cons h4 _)
    · cases h
  · cases h
theorem s_never {X : Cx} {E : XK} {st : Stmt} {s : S} (h : ∀ ρ μ A, exS (gam T d) s ρ μ A → False) : PS X st (tS P E (exS (gam T d) s)) := ⟨fun _ _ σ H D _ ⟨He, Ge, G, ρ, μ, A, e, w, sl, hw, o⟩ => (h _ _ _ hw).elim⟩
theorem ok_noneS {s : S} (h : ∀ N sc fb st, mS T N sc fb s st = false) : OkS T d P s := fun X E N sc fb S hp st hx => by rw [h] at hx; cases hx
theorem ok_setL (tk : TabOk T P) {i : Nat} {e : Mi.E} : OkS T d P (.setL i e) := fun X E N sc fb S hp st h => by
  simp only [mS] at h
  split at h
  · rename_i t v pos hy
    obtain rfl := asAss_ok hy
    simp only [Bool.and_eq_true] at h
    obtain ⟨y, p, j, q, r, rfl, h1⟩ := keyB_ok h.1.1
    obtain ⟨q1, q2, q3, q4⟩ := S.nm h1
    exact s_setL S.cn q1 q2 q3 q4 ((thE tk e d X E N sc fb S).2.1 _ h.2) (nosw_of h.1.2 _ _ _)
  · cases h
theorem ok_setT (tk : TabOk T P) {i : Nat} {e : Mi.E} : OkS T d P (.setT i e) := fun X E N sc fb S hp st h => by
  simp only [mS] at h
  split at h
  · rename_i t v pos hy
    obtain rfl := asAss_ok hy
    simp only [Bool.and_eq_true] at h
    obtain ⟨y, p, j, q, r, rfl, h1⟩ := keyB_ok h.1.1
    obtain ⟨q1, q2, q3, q4⟩ := S.nm h1
    exact s_setT S.cn q1 q2 q3 q4 ((thE tk e d X E N sc fb S).2.1 _ h.2) (nosw_of h.1.2 _ _ _)
  · cases h
theorem ok_mkst (tk : TabOk T P) {i : Nat} {e : Mi.E} : OkS T d P (.mkst i e) := fun X E N sc fb S hp st h => by
  simp only [mS] at h
  split at h
  · rename_i hy
    obtain rfl := asRet_ok hy
    simp only [Bool.and_eq_true, decide_eq_true_eq] at h
    obtain ⟨⟨⟨⟨⟨⟨⟨rfl, rfl⟩, rfl⟩, rfl⟩, rfl⟩, rfl⟩, h1⟩, h2⟩ := h
    obtain ⟨q1, q2, q3, q4⟩ := S.nm h1
    exact s_mkst S.cn q1 q2 q3 q4 ((thE tk e d X E N sc fb S).1 _ h2)
  · cases h
theorem ok_sNil : OkSs T d P .nil := fun X E N sc fb S hp st h => by
  simp only [mSs, List.isEmpty_iff] at h
  subst h
  exact s_nil
theorem ok_sCons {s : S} {r : Ss} (h1 : OkS T d P s) (h2 : OkSs T d P r) : OkSs T d P (.cons s r) := fun X E N sc fb S hp st h => by
  cases s with
  | frz is =>
    simp only [mSs] at h
    exact s_frz (h2 X E N sc fb S hp st h)
  | _ =>
    cases st with
    | nil => simp [mSs] at h
    | cons st rest =>
      simp only [mSs, Bool.and_eq_true] at h
      exact s_cons (h1 X E N sc fb S hp st h.1) (h2 X E N sc fb S hp rest h.2)
theorem ok_ifs (tk : TabOk T P) {c : Mi.E} {a b : Ss} (ha : OkSs T d P a) (hb : OkSs T d P b) : OkS T d P (.ifs c a b) := fun X E N sc fb S hp st h => by
  simp only [mS] at h
  split at h
  · rename_i x p q pos hy
    obtain rfl := asIfS_ok hy
    simp only [Bool.and_eq_true] at h
    exact s_ifs ((thE tk c d X E N sc fb S).2.2 _ h.1.1) (ha X E N sc fb S hp _ h.1.2) (hb X E N sc fb S hp _ h.2)
  · cases h
theorem ok_fors (tk : TabOk T P) {tg : Tg} {s : Sr} {b : Ss} (hb : OkSs T d P b) : OkS T d P (.fors tg s b) := fun X E N sc fb S hp st h => by
  simp only [mS] at h
  split at h
  · rename_i t it a pos hy
    obtain rfl := asFor_ok hy
    simp only [Bool.and_eq_true] at h
    obtain ⟨⟨⟨h1, h2⟩, h3⟩, h4⟩ := h
    exact s_fors S.cn hp (thSr tk s d X E N sc fb S true t it h3) (S.tg h1) (hb X E N sc fb S hp _ h4) (folded_of h2 _)
  · cases h
theorem ok_whs (tk : TabOk T P) {c : Mi.E} {b : Ss} (hb : OkSs T d P b) : OkS T d P (.whs c b) := fun X E N sc fb S hp st h => by
  simp only [mS] at h
  split at h
  · rename_i x a pos hy
    obtain rfl := asWh_ok hy
    simp only [Bool.and_eq_true] at h
    exact s_whs hp ((thE tk c d X E N sc fb S).2.2 _ h.1) (hb X E N sc fb S hp _ h.2)
  · cases h
end
section
variable {T : Tab} {P : En}
mutual
theorem thS (tk : TabOk T P) (d : Nat) : ∀ s : S, OkS T d P s
  | .asg _ _ => ok_asg tk
  | .asgT _ _ => ok_asgT tk
  | .par _ _ => ok_par tk
  | .setIx _ _ _ => ok_setIx tk
  | .setA _ _ _ => ok_setA tk
  | .aug _ _ _ => ok_aug tk
  | .app _ _ => ok_app tk
  | .appPop _ _ _ => ok_appPop tk
  | .boxApp _ _ => ok_noneS fun N sc fb st => by simp only [mS]
  | .ex _ => ok_exS tk
  | .ret _ => ok_ret tk
  | .retv _ => ok_retv
  | .retN => ok_retN
  | .ifs c a b => ok_ifs tk (thSs tk d a) (thSs tk d b)
  | .fors tg s b => ok_fors tk (thSs tk d b)
  | .whs c b => ok_whs tk (thSs tk d b)
  | .rai _ => ok_rai
  | .rai1 _ _ => ok_rai1 tk
  | .pass => fun X E N sc fb S hp st h => by
    cases st <;> first | exact s_pass | (simp [mS] at h)
  | .brk => fun X E N sc fb S hp st h => by
    cases st <;> first | exact s_brk | (simp [mS] at h)
  | .cnt => fun X E N sc fb S hp st h => by
    cases st <;> first | exact s_cnt | (simp [mS] at h)
  | .nev => fun X E N sc fb S hp st h => s_never fun ρ μ A hw => by simp only [exS] at hw
  | .frz _ => ok_noneS fun N sc fb st => by simp only [mS]
  | .setL _ _ => ok_setL tk
  | .setT _ _ => ok_setT tk
  | .mkst _ _ => ok_mkst tk
theorem thSs (tk : TabOk T P) (d : Nat) : ∀ s : Ss, OkSs T d P s
  | .nil => ok_sNil
  | .cons s r => ok_sCons (thS tk d s) (thSs tk d r)
end
end
end Mi
end

section
-- Mini15
set_option Elab.async false
set_option linter.all false
set_option maxRecDepth 100000
set_option maxHeartbeats 4000000
/-! Mini, part 15: defs -/
namespace Mi
open PySem PySem.Spec PyProof.Rows L2

/-- the fixed part by a table -/
abbrev enOf (T : Tab) (K : PySem.W.Frag) (mg : Str → Option Value) (tb : List (Addr × Str)) : En := ⟨K, mg, tb, fun k a b sc => T.lfit k a b sc = true⟩
/-- the defs at depth d -/
def Defs (T : Tab) (Pr : Program) (w : World) (K : PySem.W.Frag) (mg : Str → Option Value) (tb : List (Addr × Str)) (base : Heap) (d : Nat) : Prop :=
  ∀ f ps, T.ar f = some ps → ∃ a fd, mg f = some (.ref a) ∧ PySem.W.keepIn K (.ref a) = true ∧ Binds K fd ps [] ∧ KwB fd ps ∧ FnOk Pr w K mg base (L2.CX Pr w) d a fd ps (spF (enOf T K mg tb) ps.length ((gam T d).call f))
section
variable {T : Tab} {Pr : Program} {w : World} {K : PySem.W.Frag} {mg : Str → Option Value} {tb : List (Addr × Str)} {base : Heap}
def fbO (l r : Bool) : Str → Bool := fun x => (l || decide (x ≠ ("<lambda>" : Str))) && (r || decide (x ≠ ("<repr>" : Str)))
/-- the makers at depth e -/
def Inits (T : Tab) (Pr : Program) (w : World) (K : PySem.W.Frag) (mg : Str → Option Value) (tb : List (Addr × Str)) (base : Heap) (e : Nat) : Prop :=
  ∀ c F, T.ini.lookup c = some F → ∃ C a fd, mg c = some (.ref C) ∧ Mk K C a ∧ Binds K fd F.ps [] ∧ FnOk Pr w K mg base (L2.CX Pr w) (e + 1) a fd F.ps (spI (enOf T K mg tb) F.ps.length (inSem (gam T e) F c) c)
theorem sit_of (tx : Txt T K mg) {d : Nat} (df : ∀ d', d' ≤ d → Defs T Pr w K mg tb base d') {l r : Bool} {N : List Str} {ps : List Str} {qual : Str} {scope : Scope} {f : Addr} {cd : Value} {A : Around} {outer : List PySem.Env} {s : Shared} {H : Hp} {E : XK} (S : FnScope N ps scope)
    (hr : Room d (A.deeper (envOfC qual scope s.heap.objs.size f cd))) (lm : l = true → LamAt (enOf T K mg tb) (cxOf (L2.CX Pr w) Pr w K mg base N qual scope f cd A outer s H E)) (gd : r = true → A.guards = some []) (ini : IniT T Pr K mg) (mk : ∀ e, e + 2 ≤ d → Inits T Pr w K mg tb base e) : Sit T d (enOf T K mg tb) (cxOf (L2.CX Pr w) Pr w K mg base N qual scope f cd A outer s H E) E N scope (fbO l r) where
  cn := ⟨rfl, rfl, rfl, S.nd, hr.units, takes_of rfl rfl rfl rfl⟩
  hN := rfl
  hs := rfl
  hf := fun _ _ => rfl
  room := hr
  tx := tx
  fns := df
  lm := fun h => lm (by unfold fbO at h; simp at h; exact h.1)
  gd := fun h => gd (by unfold fbO at h; simp at h; exact h.2)
  ini := ini
  mks := mk
theorem sl_start {P : En} {G : Wd} {H : Hp} (m : Nat) : ∀ {pvs : List PV} {vs : List V}, Reps P G pvs vs → Sl P H G (pvs.map some ++ List.replicate m none) (vs.map some ++ List.replicate m none) H := fun {pvs vs} r => by
  have key : ∀ {i : Nat} {v : PV}, (pvs.map some ++ List.replicate m none)[i]? = some (some v) → ∃ x, (vs.map some ++ List.replicate m none)[i]? = some (some x) ∧ Rep P G v x := fun {i v} h => by
    by_cases hi : i < pvs.length
    · rw [List.getElem?_append_left (by simpa using hi), List.getElem?_map] at h
      cases e : pvs[i]? with
      | none => rw [e] at h; cases h
      | some u =>
        rw [e] at h
        cases h
        obtain ⟨x, h1, h2⟩ := r.get e
        exact ⟨x, by rw [List.getElem?_append_left (by rw [List.length_map, ← r.length]; exact hi), List.getElem?_map, h1] <;> rfl, h2⟩
    · rw [List.getElem?_append_right (by simpa using hi), List.getElem?_replicate] at h
      split at h <;> cases h
  refine ⟨by simp [r.length], fun i v h n => key h, fun i us h => ?_, fun i c fs us h => ?_, fun i j v u a ne h1 h2 o1 o2 _ _ => ?_⟩
  · obtain ⟨x, _, h2⟩ := key h
    exact absurd h2 Rep.nonls
  · obtain ⟨x, _, h2⟩ := key h
    cases h2
  · obtain ⟨x, _, h2⟩ := key h1
    rw [h2.noOwn] at o1
    cases o1
/-- where the def's codes are kept -/
def lamQ (qual : Str) : Str := (envOfC qual ⟨.function, [], false, false, []⟩ 0 0 .none).qual ++ "<lambda>"
def LamD (tb : List (Addr × Str)) (cs : List (Addr × Addr)) (fd : FuncData) (qual : Str) : Prop := ∃ (j : Nat) (c Pa : Addr), tb[j]? = some (Pa, lamQ qual) ∧ fd.code = .ref c ∧ (c, Pa) ∈ cs
/-- a def's body, entered -/
theorem body_ok (tk : TabOk T (enOf T K mg tb)) (tx : Txt T K mg) (ini : IniT T Pr K mg) {d : Nat} (df : ∀ d', d' ≤ d → Defs T Pr w K mg tb base d') (mk : ∀ e, e + 2 ≤ d → Inits T Pr w K mg tb base e) {cs : List (Addr × Addr)} (hT : ∀ p ∈ cs, LamX.TabB base mg p.1 p.2) {l r : Bool} {qual : Str} {body : List Stmt} {scope : Scope} {f : Addr} {cdv : Value} {N : List Str} {F : Fun} {A : Around} {outer : List PySem.Env} {s : Shared} {H : Hp} {vs : List V} {Q : VK} {E : XK}
    (hl : l = true → ∃ (j : Nat) (c Pa : Addr), tb[j]? = some (Pa, lamQ qual) ∧ cdv = .ref c ∧ (c, Pa) ∈ cs) (gd : r = true → A.guards = some []) (S : FnScope N F.ps scope) (hn : N.length = F.n) (hm : mSs T N scope (fbO l r) F.body body = true) (hr : Room d (A.deeper (envOfC qual scope s.heap.objs.size f cdv))) (h : spF (enOf T K mg tb) F.ps.length (fnSem (gam T d) F) vs H Q E) :
    ∃ t, PSs (cxOf (L2.CX Pr w) Pr w K mg base N qual scope f cdv A outer s H E) body t ∧ t { nx := fun _ H' => Q .non H', rt := Q } (L2.start N vs) H := by
  obtain ⟨G, μ, pvs, k, kx, hl', hw, hp, hc, tM, tX⟩ := h
  have St := sit_of (E := E) (H := H) (outer := outer) (l := l) (r := r) tx df S hr (fun z => by
    obtain ⟨j, c, Pa, h1, h2, h3⟩ := hl z
    exact ⟨j, c, Pa, h1, hT _ h3, h2⟩) gd ini mk
  refine ⟨_, thSs tk d F.body _ _ _ _ _ St (passes_of rfl) body hm, H, G, G, _, μ, _, .refl H G, hw, ?_, hc.2, ?_⟩
  · have e : L2.start N vs = vs.map some ++ List.replicate (F.n - pvs.length) none := by
      unfold L2.start
      rw [hn, hp.length]
    rw [e]
    exact sl_start _ hp
  · exact ⟨fun G' μ' H' ρ' σ' e l w' sl h => tM G' μ' H' .non .non e w' (.of .non) h, fun G' μ' H' v x e w' r h => tM G' μ' H' v x e w' r h, fun _ _ _ _ _ _ _ _ _ h => h.elim, fun _ _ _ _ _ _ _ _ _ h => h.elim, tX⟩
/-- a def by its own form -/
theorem def_ok (tk : TabOk T (enOf T K mg tb)) (tx : Txt T K mg) (ini : IniT T Pr K mg) {d : Nat} (df : ∀ d', d' ≤ d → Defs T Pr w K mg tb base d') (mk : ∀ e, e + 2 ≤ d → Inits T Pr w K mg tb base e) {cs : List (Addr × Addr)} (hT : ∀ p ∈ cs, LamX.TabB base mg p.1 p.2) {l : Bool} {name qual : Str} {params : Arguments} {body : List Stmt} {scope : Scope} {kws : List (Str × V)} {f : Addr} {fd : FuncData} {N : List Str} {F : Fun}
    (FD : FunD K name qual params body scope [] kws f fd) (hl : l = true → LamD tb cs fd qual) (S : FnScope N F.ps scope) (hn : N.length = F.n) (hm : mSs T N scope (fbO l false) F.body body = true) :
    FnOk Pr w K mg base (L2.CX Pr w) (d + 1) f fd F.ps (spF (enOf T K mg tb) F.ps.length (fnSem (gam T d) F)) := by
  obtain ⟨oc, od, dV, kV, doc, pm, an, cdv, ct, osl, rfl, lk, hcd, _, _⟩ := FD.ex
  exact fn_of lk hcd S (fun vs H Q E ⟨G, μ, pvs, k, kx, hl, _⟩ => hl) fun A outer s H vs Q E hr h => body_ok (r := false) tk tx ini df mk hT hl (fun z => by cases z) S hn hm hr h
theorem freezeO {G0 : Wd} {a : Addr} {o : HO} (w : Wf P G μ H) (e : Ext H0 G0 H G) (h2 : H a = some o) (h4 : G.F a = none) (h5 : a ∉ G.m.flatten) (h6 : H0 a = none) :
    Ext H0 G0 H (G.put a o) ∧ Wf P (G.put a o) μ H ∧ (∀ b u, G.F b = some u → (G.put a o).F b = some u) := by
  have le : ∀ b u, G.F b = some u → (G.put a o).F b = some u := fun b u hb => by
    show upd G.F a o b = some u
    rw [upd_ne (fun z => by rw [z, h4] at hb; cases hb)]
    exact hb
  have mm : ∀ (k : Nat) b r, G.m[k]? = some (b :: r) → ∃ r', (G.put a o).m[k]? = some (b :: r') := fun k b r h => ⟨r, h⟩
  refine ⟨⟨fun b u hb => le b u (e.le b u hb), fun b u hb => ?_, e.fr, e.dm, e.mm, e.mf, e.me⟩, ⟨fun b u hb => ?_, fun b hb => ?_, w.len, fun k mo fp h1 h2' => ?_, w.dj, w.tb⟩, le⟩
  · by_cases z : b = a
    · rw [z]; exact .inr h6
    · have hb' : upd G.F a o b = some u := hb
      rw [upd_ne z] at hb'
      exact e.nw b u hb'
  · have hb' : upd G.F a o b = some u := hb
    by_cases z : b = a
    · rw [z, upd_same] at hb'
      rw [z, h2]
      exact hb'
    · rw [upd_ne z] at hb'
      exact w.sub b u hb'
  · obtain ⟨q1, q2⟩ := w.mF b hb
    have z : b ≠ a := fun z => h5 (by rw [← z]; exact hb)
    refine ⟨?_, q2⟩
    show upd G.F a o b = none
    rw [upd_ne z]
    exact q1
  · have q := w.ob k mo fp h1 h2'
    cases mo with
    | st gs cs l t =>
      obtain ⟨S, g, c, e1, e2, e3, e4, e5⟩ := q
      exact ⟨S, g, c, e1, e2, e3, le _ _ e4, e5⟩
    | bx us =>
      obtain ⟨b, ys, e1, e2, e3⟩ := q
      exact ⟨b, ys, e1, e2, e3.le le mm⟩
    | tb n =>
      obtain ⟨b, ps, e1, e2, e3, e4⟩ := q
      exact ⟨b, ps, e1, e2, e3, fun pos cv hc => let ⟨c, z1, z2⟩ := e4 pos cv hc; ⟨c, z1, le _ _ z2⟩⟩
/-- the world without what is being made -/
def Wd.as (G : Wd) (o : Option Addr) : Wd := ⟨G.F, G.m, o⟩
theorem Reps.as {P : En} {G : Wd} {vs : List PV} {xs : List V} (r : Reps P G vs xs) (o : Option Addr) : Reps P (G.as o) vs xs := Reps.le (G := G) (G' := G.as o) (fun _ _ h => h) (fun k a r h => ⟨r, h⟩) r
theorem Ext.as {H H' : Hp} {G G' : Wd} (e : Ext H G H' G') (o : Option Addr) : Ext H (G.as o) H' (G'.as o) := ⟨e.le, e.nw, e.fr, e.dm, e.mm, e.mf, rfl⟩
theorem Wf.as {P : En} {G : Wd} {μ : Mu} {H : Hp} (w : Wf P G μ H) (o : Option Addr) : Wf P (G.as o) μ H := ⟨w.sub, w.mF, w.len, fun k mo fp h1 h2 => by
    have q := w.ob k mo fp h1 h2
    cases mo with
    | st gs cs l t => exact q
    | tb n => exact q
    | bx us =>
      obtain ⟨b, ys, e1, e2, e3⟩ := q
      exact ⟨b, ys, e1, e2, e3.as o⟩, w.dj, w.tb⟩
theorem RepX.as {P : En} {G : Wd} {v : PV} {c : Value} {d : Option Addr} (r : RepX P G v c d) (o : Option Addr) : RepX P (G.as o) v c d := by
  cases r with
  | mk0 h => exact .mk0 h
  | mk1 h1 h2 h3 h4 => exact .mk1 h1 h2 h3 (h4.as o)
theorem sl_nin {P : En} {G : Wd} {H H0 : Hp} {c : Str} {C x dx : Addr} (m : Nat) {pvs : List PV} {vs : List V} (r : Reps P G pvs vs) (hC : P.mg c = some (.ref C)) (hH : H x = some (.ins C dx [])) (gx : G.F x = none) (mx : x ∉ G.m.flatten) (h0 : H0 x = none) (me : G.me = some x) :
    Sl P H0 G (some (.nin c [] []) :: (pvs.map some ++ List.replicate m none)) (some (.ref x) :: (vs.map some ++ List.replicate m none)) H := by
  have S := sl_start (H := H) m r
  have no : ∀ {i : Nat} {v : PV}, (pvs.map some ++ List.replicate m none)[i]? = some (some v) → v.own = false := fun {i v} h => by
    cases e : v.own with
    | false => rfl
    | true =>
      exfalso
      cases v with
      | nls us =>
        obtain ⟨a, xs, _, z2, _, _, _, z6⟩ := S.ow i us h
        rw [z2] at z6; cases z6
      | nin c fs us =>
        obtain ⟨a, C, d, xs, _, _, z2, _, _, _, _, z6, _⟩ := S.oi i c fs us h
        rw [z2] at z6; cases z6
      | _ => cases e
  refine ⟨by simp only [List.length_cons, S.len], fun i v h n => ?_, fun i us h => ?_, fun i c' fs us h => ?_, fun i j v u a ne h1 h2 o1 o2 _ _ => ?_⟩
  · cases i with
    | zero => cases h; cases n
    | succ i => exact S.fz i v h n
  · cases i with
    | zero => cases h
    | succ i => exact absurd (no (i := i) h) (by simp [PV.own])
  · cases i with
    | zero => cases h; exact ⟨x, C, dx, [], rfl, hC, hH, rfl, .nil, gx, mx, h0, me⟩
    | succ i => exact absurd (no (i := i) h) (by simp [PV.own])
  · cases i with
    | zero =>
      cases j with
      | zero => exact ne rfl
      | succ j => have z := no (i := j) h2; rw [z] at o2; cases o2
    | succ i => have z := no (i := i) h1; rw [z] at o1; cases o1
/-- an __init__ by its own form -/
theorem init_ok (tk : TabOk T (enOf T K mg tb)) (tx : Txt T K mg) (ini : IniT T Pr K mg) {d : Nat} (df : ∀ d', d' ≤ d → Defs T Pr w K mg tb base d') (mk : ∀ e, e + 2 ≤ d → Inits T Pr w K mg tb base e) {name qual : Str} {params : Arguments} {body : List Stmt} {scope : Scope} {kws : List (Str × V)} {f : Addr} {fd : FuncData} {N : List Str} {F : Fun} {c : Str}
    (FD : FunD K name qual params body scope [] kws f fd) (S : FnScope N F.ps scope) (hn : N.length = F.n) (hm : mSs T N scope (fbO false false) F.body body = true) :
    FnOk Pr w K mg base (L2.CX Pr w) (d + 1) f fd F.ps (spI (enOf T K mg tb) F.ps.length (inSem (gam T d) F c) c) := by
  obtain ⟨oc, od, dV, kV, doc, pm, an, cdv, ct, osl, rfl, lk, hcd, _, _⟩ := FD.ex
  refine fn_of lk hcd S (fun vs H Q E ⟨H0, G, μ, pvs, k, kx, x, dx, C, xs, _, hl, _⟩ => hl) fun A outer s H vs Q E hr h => ?_
  obtain ⟨H0, G, μ, pvs, k, kx, x, dx, C, xs, rfl, hl, hC, w0, hx, hdx, ne, rfl, rp, hc, tM, tX⟩ := h
  have St := sit_of (E := E) (H := upd (upd H0 dx (.own x)) x (.ins C dx [])) (outer := outer) (l := false) (r := false) tx df S hr (fun z => by cases z) (fun z => by cases z) ini mk
  have w1 := w0.as (some x)
  have hx' : upd H0 dx (.own x) x = none := by rw [upd_ne (Ne.symm ne)]; exact hx
  have e1 : Ext H0 (G.as (some x)) (upd (upd H0 dx (.own x)) x (.ins C dx [])) (G.as (some x)) := (Ext.newL w1 hdx).trans (Ext.newL (w1.newL hdx) hx')
  have w2 : Wf (enOf T K mg tb) (G.as (some x)) μ (upd (upd H0 dx (.own x)) x (.ins C dx [])) := (w1.newL hdx).newL hx'
  have es : L2.start N (.ref x :: xs) = some (.ref x) :: (xs.map some ++ List.replicate (F.n - (pvs.length + 1)) none) := by
    unfold L2.start
    rw [hn, List.length_cons, ← rp.length]
    rfl
  refine ⟨_, thSs tk d F.body _ _ _ _ _ St (passes_of rfl) body hm, H0, G.as (some x), G.as (some x), _, μ, _, e1, w2, ?_, hc.2, ?_⟩
  · rw [es]
    exact sl_nin _ (rp.as _) hC upd_same (w1.noF hx) (w1.nomem hx) hx rfl
  · refine ⟨fun G' μ' H' ρ' σ' e l w' sl h => ?_, fun _ _ _ _ _ _ _ _ h => h.elim, fun _ _ _ _ _ _ _ _ _ h => h.elim, fun _ _ _ _ _ _ _ _ _ h => h.elim, fun G' μ' H' v cl d e w' r h => tX (G'.as G.me) μ' H' v cl d (e.as G.me) (w'.as G.me) (r.as G.me) h⟩
    dsimp only at h
    split at h
    · rename_i c' fs us hρ
      obtain ⟨a, C', dx', ys, h1, h0, h2, h7, h3, h4, h5, h6, h8⟩ := sl.oi 0 c' fs us hρ
      have hme : G'.me = some x := e.me
      rw [hme] at h8
      obtain rfl : x = a := Option.some.inj h8
      obtain ⟨e2, w3, le⟩ := freezeO w' e h2 h4 h5 h6
      refine tM ((G'.put x (.ins C' dx' (fs.zip ys))).as G.me) μ' H' _ (e2.as G.me) (w3.as G.me) ?_ h
      exact .ins h0 upd_same h7 (Reps.as (G := G'.put x (.ins C' dx' (fs.zip ys))) (h3.le le fun k a r h => ⟨r, h⟩) _)
    · exact h.elim
/-- what is asked of each class of the text -/
structure OwnI (T : Tab) (K : PySem.W.Frag) (mg : Str → Option Value) (c : Str) (F : Fun) : Prop where
  ex : ∃ (C a : Addr) (fd : FuncData) (N : List Str) (name qual : Str) (params : Arguments) (body : List Stmt) (scope : Scope) (kws : List (Str × V)), mg c = some (.ref C) ∧ Mk K C a ∧ FunD K name qual params body scope [] kws a fd ∧ FnScope N F.ps scope ∧ N.length = F.n ∧ mSs T N scope (fbO false false) F.body body = true ∧ Binds K fd F.ps []
/-- what is asked of each def of the text -/
structure OwnD (T : Tab) (K : PySem.W.Frag) (mg : Str → Option Value) (tb : List (Addr × Str)) (cs : List (Addr × Addr)) (r : Bool) (f : Str) (F : Fun) : Prop where
  ex : ∃ (l : Bool) (a : Addr) (fd : FuncData) (N : List Str) (name qual : Str) (params : Arguments) (body : List Stmt) (scope : Scope) (kws : List (Str × V)), mg f = some (.ref a) ∧ FunD K name qual params body scope [] kws a fd ∧ FnScope N F.ps scope ∧ N.length = F.n ∧ mSs T N scope (fbO l r) F.body body = true ∧ (l = true → LamD tb cs fd qual) ∧ Binds K fd F.ps [] ∧ KwB fd F.ps ∧ ∀ (s : Shared) (us : List Value), us.length = F.ps.length → BindsTo s fd ⟨us, []⟩ (F.ps.zip us)
theorem defs_all (tk : TabOk T (enOf T K mg tb)) (tx : Txt T K mg) (ini : IniT T Pr K mg) {cs : List (Addr × Addr)} (hT : ∀ p ∈ cs, LamX.TabB base mg p.1 p.2) (hp : ∀ f, T.prim f = none) (hI : ∀ c F, T.ini.lookup c = some F → OwnI T K mg c F) (hf : ∀ f F, T.fn.lookup f = some F → OwnD T K mg tb cs false f F) : (∀ d, (∀ d', d' ≤ d → Defs T Pr w K mg tb base d') ∧ ∀ e, e + 1 ≤ d → Inits T Pr w K mg tb base e) := by
  have h0 : Defs T Pr w K mg tb base 0 := fun f ps h => by
    have fin : ∀ {a : Addr} {fd : FuncData}, FnOk Pr w K mg base (L2.CX Pr w) 0 a fd ps (spF (enOf T K mg tb) ps.length ((gam T 0).call f)) := fun {a fd} =>
      ⟨fun vs H Q E ⟨G, μ, pvs, k, kx, hl, _⟩ => hl, fun A outer s H args us vs Q E hr he hb hv ⟨G, μ, pvs, k, kx, hl, hw, hp, hc, _⟩ => hc.elim⟩
    unfold Tab.ar at h
    rw [hp] at h
    cases hl : T.fn.lookup f with
    | none => rw [hl] at h; cases h
    | some F =>
      rw [hl] at h
      cases h
      obtain ⟨l, a, fd, N, name, qual, params, body, scope, kws, h1, FD, _, _, _, _, h3, hkw, _⟩ := (hf f F hl).ex
      exact ⟨a, fd, h1, FD.kp, h3, hkw, fin⟩
  intro d
  induction d with
  | zero => exact ⟨fun d' h => by
      obtain rfl : d' = 0 := by omega
      exact h0, fun e h => by omega⟩
  | succ d ih =>
    obtain ⟨df, mk⟩ := ih
    have mk' : ∀ e, e + 2 ≤ d → Inits T Pr w K mg tb base e := fun e h => mk e (by omega)
    refine ⟨fun d' hd => ?_, fun e he => ?_⟩
    · by_cases hd2 : d' ≤ d
      · exact df d' hd2
      obtain rfl : d' = d + 1 := by omega
      intro f ps h
      unfold Tab.ar at h
      rw [hp] at h
      cases hl : T.fn.lookup f with
      | none => rw [hl] at h; cases h
      | some F =>
        rw [hl] at h
        cases h
        obtain ⟨l, a, fd, N, name, qual, params, body, scope, kws, h1, FD, S, hn, hm, hlm, h3, hkw, _⟩ := (hf f F hl).ex
        have e : (gam T (d + 1)).call f = fnSem (gam T d) F := by
          rw [gam_call]
          funext vs μ k kx
          simp only [Tab.mk1, hp, hl]
        rw [e]
        exact ⟨a, fd, h1, FD.kp, h3, hkw, def_ok tk tx ini df mk' hT FD hlm S hn hm⟩
    · by_cases h2 : e + 1 ≤ d
      · exact mk e h2
      obtain rfl : e = d := by omega
      intro c F hl
      obtain ⟨C, a, fd, N, name, qual, params, body, scope, kws, h1, M, FD, S, hn, hm, h3⟩ := (hI c F hl).ex
      exact ⟨C, a, fd, h1, M, h3, init_ok tk tx ini df mk' FD S hn hm⟩
/-- the world at the start: nothing but the tables of code objects -/
def mu0 (tb : List (Addr × Str)) : Mu := tb.map fun p => .tb p.2
theorem law_sp {ns : List Int} {a : Addr} {H : Hp} {c : List PV → Mu → KE → KE → Prop} (nd : (tb.map (·.1)).Nodup) (ht : ∀ p ∈ tb, H p.1 = some (.tbl #[])) (hT : TriplesOk (#[] : Array Value).toList) (h : SqL K H a (ns.map V.int))
    (hc : c [.scr ns] (mu0 tb) (fun v _ => v = .bl true) noX) : spF (enOf T K mg tb) 1 c [.ref a] H (fun v _ => v = .bl true) fun _ _ _ => False := by
  have hin : ∀ b, b ∈ (tb.map fun p => [p.1]).flatten → ∃ q, (b, q) ∈ tb := fun b hb => by
    obtain ⟨l, h1, h2⟩ := List.mem_flatten.mp hb
    obtain ⟨p, h3, rfl⟩ := List.mem_map.mp h1
    simp at h2
    exact ⟨p.2, by rw [h2]; exact h3⟩
  -- what never changes: all but the tables
  let F : Hp := fun b => if b ∈ tb.map (·.1) then none else H b
  have hF : ∀ b o, F b = some o → H b = some o := fun b o hb => by
    show H b = some o
    have hb' : (if b ∈ tb.map (·.1) then none else H b) = some o := hb
    split at hb'
    · cases hb'
    · exact hb'
  have hsq : SqL K F a (ns.map V.int) := by
    rcases h with h | h
    · refine .inl ?_
      have na : a ∉ tb.map (·.1) := fun z => by
        obtain ⟨p, h3, rfl⟩ := List.mem_map.mp z
        have := ht p h3
        rcases h with h | ⟨o, h⟩
        · rw [this] at h; cases h
        · rw [this] at h; cases h
      have e : F a = H a := if_neg na
      rcases h with h | ⟨o, h⟩
      · exact .inl (by rw [e]; exact h)
      · exact .inr ⟨o, by rw [e]; exact h⟩
    · exact .inr h
  refine ⟨⟨F, tb.map fun p => [p.1], none⟩, mu0 tb, [.scr ns], _, _, rfl, ⟨hF, fun b hb => ?_, by simp [mu0], fun k mo fp h1 h2 => ?_, fun i j fp fq ne h1 h2 b hb1 hb2 => ?_, fun j b q hj => ?_⟩, .cons (.scr hsq) .nil, hc, fun G' μ' H' v x e w r hv => ?_, .no⟩
  · obtain ⟨q, hq⟩ := hin b hb
    refine ⟨if_pos (List.mem_map.mpr ⟨_, hq, rfl⟩), ?_⟩
    rw [ht _ hq]; exact fun z => nomatch z
  · simp only [mu0, List.getElem?_map, Option.map_eq_some_iff] at h1 h2
    obtain ⟨p, h3, rfl⟩ := h1
    obtain ⟨p2, h4, rfl⟩ := h2
    rw [h3] at h4
    cases h4
    refine ⟨p.1, #[], rfl, ht _ (List.mem_of_getElem? h3), hT, fun pos cv hcv => ?_⟩
    simp [codeAmong] at hcv
  · simp only [List.getElem?_map, Option.map_eq_some_iff] at h1 h2
    obtain ⟨p, h3, rfl⟩ := h1
    obtain ⟨p2, h4, rfl⟩ := h2
    simp at hb1 hb2
    subst hb1
    have e1 : (tb.map (·.1))[i]? = some p.1 := by simp [h3]
    have e2 : (tb.map (·.1))[j]? = some p.1 := by simp [h4, hb2]
    have li := (List.getElem?_eq_some_iff.mp e1).1
    have lj := (List.getElem?_eq_some_iff.mp e2).1
    exact ne ((List.getElem?_inj li nd (j := j)).mp (by rw [e1, e2]))
  · simp only [mu0, List.getElem?_map, hj, Option.map_some, and_self]
  · subst hv
    cases r
    rfl
end
end Mi
end

section
-- Mini16
set_option Elab.async false
set_option linter.all false
set_option maxRecDepth 100000
set_option maxHeartbeats 4000000
/-! Mini, part 16: what is computed of a law's text; the law's end -/
namespace Mi
open PySem PySem.Spec PyProof.Rows L2
structure Own where
  nm : Str
  d : He.DefD
  N : List Str
  F : Fun
  lam : Bool := false
def plainP : Arguments → Option (List PySem.Arg)
  | ⟨[], as, none, [], [], none, []⟩ => some as
  | _ => none
theorem plainP_ok {a : Arguments} {as : List PySem.Arg} (h : plainP a = some as) : a = ⟨[], as, none, [], [], none, []⟩ := by
  unfold plainP at h
  split at h
  · cases h; rfl
  · cases h
def ownB (T : Tab) (tf : List He.Defn) (quals : List Str) (r : Bool) (o : Own) : Bool := match plainP o.d.params with
  | some as => decide (as.map (·.arg) = o.F.ps) && (decide o.F.ps.Nodup && (scopeB o.N o.F.ps o.d.scope && (decide (o.N.length = o.F.n) && (mSs T o.N o.d.scope (fbO o.lam r) o.F.body o.d.body && ((!o.lam || ((tf.zip quals).any fun p => decide (p.1 = o.d.at_) && decide (p.2 = lamQ o.d.qual))) && (o.d.dfl.isEmpty && (o.d.kwd.isEmpty && decide (o.d.at_ = (o.nm, none)))))))))
  | none => false
/-- facts by lists -/
def clsMB (K : PySem.W.Frag) (C : Addr) : Bool :=
  PySem.W.plainGet K C Str.empty && (PySem.W.hasDictIn K C && (PySem.W.plainOver K C && (decide (PySem.W.findIn K (.ref C) "__setattr__" = some (some (.builtin "object.__setattr__"))) && (decide (PySem.W.findIn K (.ref C) "__class__" = some (some (.builtin "object.__class__"))) &&
  (decide (PySem.W.specialIn K (.builtin "object.__class__") "__get__" = some (some (.builtin "getset_descriptor.__get__"))) && (decide (PySem.W.takesIn K (.builtin "object.__class__") = some true) && decide (PySem.W.mroIn K C (.type "object") = some true)))))))
theorem clsMB_ok {K : PySem.W.Frag} {C : Addr} (h : clsMB K C = true) : ClsM K C := by
  unfold clsMB at h
  simp only [Bool.and_eq_true, decide_eq_true_eq] at h
  obtain ⟨h1, h2, h3, h4, h5, h6, h7, h8⟩ := h
  exact ⟨⟨h1, h2, h3, h4⟩, h5, h6, h7, h8⟩
open He in
def exB (T : Tab) (K : PySem.W.Frag) : Bool :=
  (T.flds.all fun p => PySem.W.plainGet K (ga K p.1) Str.empty && (PySem.W.hasDictIn K (ga K p.1) && (PySem.W.plainOver K (ga K p.1) && (decide (PySem.W.findIn K (.ref (ga K p.1)) "__setattr__" = some (some (.builtin "object.__setattr__"))) && (p.2.all fun f => decide (PySem.W.findIn K (.ref (ga K p.1)) f = some none)))))) &&
  ((T.xflds.all fun p => excB K (ga K p.1) && (p.2.all fun f => decide (PySem.W.findIn K (.ref (ga K p.1)) f = some none))) &&
  ((T.tgt.all fun c => PySem.W.keepIn K (.ref (ga K c)) && (tyNames.all fun t => decide (PySem.W.kitOne K (.type t) (.ref (ga K c)) = some false))) &&
  ((T.subs.all fun p => decide (PySem.W.kitOne K (.ref (ga K p.1.1)) (.ref (ga K p.1.2)) = some p.2) && ((decide (p.1.1 ∈ T.clss) || excB K (ga K p.1.1)) && (!decide (p.1.2 = ("StepError" : Str)) || (excB K (ga K p.1.1) && (decide (PySem.W.exmOne K (.ref (ga K p.1.1)) (.ref (ga K p.1.2)) = some p.2) && decide (PySem.W.kitOne K (.ref (ga K p.1.1)) (.type "ValueError") = some true)))))) &&
  (T.clss.all fun c => clsMB K (ga K c) && (askNames.all fun n => decide (PySem.W.kitOne K (.ref (ga K c)) (.type n) = some false))))))
def Tab.globs (T : Tab) : List Str := T.exc ++ (T.flds.map (·.1) ++ (T.xflds.map (·.1) ++ (T.tgt ++ (T.subs.map (·.1.1) ++ (T.subs.map (·.1.2) ++ (T.clss ++ T.gl))))))
def faOf (T : Tab) (own : List Own) : List He.Fa := own.map (fun o => .glo o.nm) ++ (T.free.map .free ++ (T.cints.map (fun p => .int p.1 p.2) ++ (T.exc.map .exc ++ T.globs.map .glo)))
theorem lookup_mem' {α β : Type} [BEq α] [LawfulBEq α] {x : α} {y : β} : ∀ {l : List (α × β)}, l.lookup x = some y → (x, y) ∈ l
  | (a, b) :: l, h => by
    rw [List.lookup_cons] at h
    by_cases e : (x == a) = true
    · rw [e] at h
      cases h
      rw [eq_of_beq e]; simp
    · rw [Bool.not_eq_true] at e
      rw [e] at h
      exact List.mem_cons_of_mem _ (lookup_mem' h)
section
open He
variable {T : Tab} {own : List Own} {fn : List DefD} {K : PySem.W.Frag} {h : Heap} {mg : Str → Option Value}
theorem fa_glo {f : Fa} (c : SaysD (faOf T own) fn K) (hf : f ∈ faOf T own) : f.ok K = true := c.facts hf
theorem txt_of (c : SaysD (faOf T own) fn K) (X : K.In h) (G : h.Ns mainGlobals mg) (e : exB T K = true) (hcau : T.cau = true → CaughtD K mg) (hrfd : T.rfd = true → RefD K mg) : Txt T K mg := by
  have glo : ∀ x ∈ T.globs, mg x = some (.ref (ga K x)) := fun x hx => glo_ok X G (c.facts (by
    unfold faOf
    simp only [List.mem_append]
    exact .inr (.inr (.inr (.inr (List.mem_map_of_mem hx))))))
  have gC : ∀ {x C}, x ∈ T.globs → mg x = some (.ref C) → C = ga K x := fun {x C} hx hC => by
    have := glo x hx
    rw [hC] at this
    cases this
    rfl
  unfold exB at e
  simp only [Bool.and_eq_true, List.all_eq_true] at e
  obtain ⟨e1, e2, e3, e4, e5⟩ := e
  refine ⟨fun x hx => free_ok X G (c.facts (by unfold faOf; simp only [List.mem_append]; exact .inr (.inl (List.mem_map_of_mem hx)))), fun x i hx => ?_, fun x hx => ?_, fun x f C hf hC => ?_, fun x f C hf hC => ?_, fun x hx C hC => ?_, fun x hx => ?_, fun x y b hl C D hC hD => ?_, fun x b hl C S hC hS => ?_, hcau, hrfd⟩
  · refine int_ok (i := i) X G (c.facts ?_)
    unfold faOf
    simp only [List.mem_append]
    exact .inr (.inr (.inl (List.mem_map.mpr ⟨(x, i), lookup_mem' hx, rfl⟩)))
  · have hx2 : x ∈ T.globs := by unfold Tab.globs; simp only [List.mem_append]; exact .inl hx
    obtain ⟨q1, q2, q3, q4⟩ := exc_ok (K := K) (x := x) (c.facts (by unfold faOf; simp only [List.mem_append]; exact .inr (.inr (.inr (.inl (List.mem_map_of_mem hx))))))
    exact ⟨_, glo x hx2, q1, q2, q3, q4⟩
  · cases hl : T.flds.lookup x with
    | none => rw [hl] at hf; simp at hf
    | some fs =>
      rw [hl] at hf
      have hm := lookup_mem' hl
      have := gC (x := x) (by unfold Tab.globs; simp only [List.mem_append]; exact .inr (.inl (List.mem_map.mpr ⟨_, hm, rfl⟩))) hC
      subst this
      have q := e1 _ hm
      simp only [Bool.and_eq_true, decide_eq_true_eq, List.all_eq_true] at q
      obtain ⟨k1, k2, k3, k4, k5⟩ := q
      exact ⟨⟨k1, k2, k3, k4⟩, k5 f hf⟩
  · cases hl : T.xflds.lookup x with
    | none => rw [hl] at hf; simp at hf
    | some fs =>
      rw [hl] at hf
      have hm := lookup_mem' hl
      have := gC (x := x) (by unfold Tab.globs; simp only [List.mem_append]; exact .inr (.inr (.inl (List.mem_map.mpr ⟨_, hm, rfl⟩)))) hC
      subst this
      have q := e2 _ hm
      simp only [Bool.and_eq_true, decide_eq_true_eq, List.all_eq_true] at q
      exact ⟨excB_ok q.1, q.2 f hf⟩
  · have := gC (x := x) (by unfold Tab.globs; simp only [List.mem_append]; exact .inr (.inr (.inr (.inr (.inr (.inr (.inl hx))))))) hC
    subst this
    have q := e5 x hx
    simp only [Bool.and_eq_true, decide_eq_true_eq, List.all_eq_true] at q
    exact ⟨clsMB_ok q.1, q.2⟩
  · have hx2 : x ∈ T.globs := by unfold Tab.globs; simp only [List.mem_append]; exact .inr (.inr (.inr (.inl hx)))
    have q := e3 x hx
    simp only [Bool.and_eq_true, decide_eq_true_eq, List.all_eq_true] at q
    exact ⟨_, glo x hx2, q.1, q.2⟩
  · have hm := lookup_mem' hl
    have z1 := gC (x := x) (by unfold Tab.globs; simp only [List.mem_append]; exact .inr (.inr (.inr (.inr (.inl (List.mem_map.mpr ⟨_, hm, rfl⟩)))))) hC
    have z2 := gC (x := y) (by unfold Tab.globs; simp only [List.mem_append]; exact .inr (.inr (.inr (.inr (.inr (.inl (List.mem_map.mpr ⟨_, hm, rfl⟩))))))) hD
    subst z1 z2
    have q := e4 _ hm
    simp only [Bool.and_eq_true, Bool.or_eq_true, decide_eq_true_eq] at q
    exact ⟨q.1, q.2.1.imp id excB_ok⟩
  · have hm := lookup_mem' hl
    have z1 := gC (x := x) (by unfold Tab.globs; simp only [List.mem_append]; exact .inr (.inr (.inr (.inr (.inl (List.mem_map.mpr ⟨_, hm, rfl⟩)))))) hC
    have z2 := gC (x := ("StepError" : Str)) (by unfold Tab.globs; simp only [List.mem_append]; exact .inr (.inr (.inr (.inr (.inr (.inl (List.mem_map.mpr ⟨_, hm, rfl⟩))))))) hS
    subst z1 z2
    have q := e4 _ hm
    simp only [Bool.and_eq_true, Bool.or_eq_true, decide_eq_true_eq, Bool.not_eq_true', decide_eq_false_iff_not, not_true, false_or] at q
    exact ⟨excB_ok q.2.2.1, q.2.2.2.1, q.2.2.2.2⟩
theorem bindsP {x qual : Str} {as : List PySem.Arg} {params : Arguments} {body : List Stmt} {scope : Scope} {kws : List (Str × V)} {f : Addr} {fd : FuncData} (F : FunD K x qual params body scope [] kws f fd) (hp : plainP params = some as) (nd : (as.map (·.arg)).Nodup) : Binds K fd (as.map (·.arg)) [] := by
  refine F.bindsN fun kV doc pm an cdv ct us hl => bind_plain ?_ rfl nd hl
  exact plainP_ok hp
theorem kwP {x qual : Str} {as : List PySem.Arg} {params : Arguments} {body : List Stmt} {scope : Scope} {kws : List (Str × V)} {f : Addr} {fd : FuncData} (F : FunD K x qual params body scope [] kws f fd) (hp : plainP params = some as) : KwB fd (as.map (·.arg)) := by
  intro ks perm hk s ws hw
  unfold kwOk at hk
  simp only [Bool.and_eq_true, decide_eq_true_eq, List.all_eq_true] at hk
  obtain ⟨h1, h2, h3, h4, h5⟩ := hk
  obtain ⟨oc, od, dV, kV, doc, pm, an, cdv, ct, osl, rfl, lk, hcd, hD, hK⟩ := F.ex
  rcases hD with ⟨_, rfl⟩ | ⟨e, _⟩
  · refine .of_eq ?_
    have e := bind_kw (fd := PySem.W.fnOf x qual params body scope .none kV doc pm an cdv ct) (as := as) (us := []) (ws := ws) (ks := ks) (plainP_ok hp) rfl hw (Nat.zero_le _) h5 h1 (fun k _ => by simp) (fun p hp => .inr (by
      rw [h4] at hp
      obtain ⟨j, _, hj⟩ := List.mem_filterMap.mp hp
      exact List.mem_of_getElem? hj))
    rw [e]
    have z := zip_perm (ps := as.map (·.arg)) (ks := ks) (us := ([] : List Value)) (ws := ws) (perm := perm) h2 h1 (Nat.zero_le _) hw h3 (by simpa using h4)
    rw [z, List.nil_append]
  · exact absurd rfl e
theorem own_of {tf : List Defn} {quals : List Str} {more : List DefD} (c : SaysD (faOf T own) (own.map (·.d) ++ more) K) (X : K.In h) (G : h.Ns mainGlobals mg) {o : Own} {r : Bool} (ho : o ∈ own) (hb : ownB T tf quals r o = true) : OwnD T K mg ((tf.map fun p => (cT K p).2).zip quals) (tf.map (cT K)) r o.nm o.F := by
  unfold ownB at hb
  split at hb
  · rename_i as hp
    simp only [Bool.and_eq_true, decide_eq_true_eq] at hb
    obtain ⟨h1, h2, h3, h4, h5, hl, h6, h7, h8⟩ := hb
    obtain ⟨fd, FD⟩ := c.defs (d := o.d) (List.mem_append_left _ (List.mem_map_of_mem ho))
    have e1 : o.d.dvs K = [] := by unfold DefD.dvs; rw [List.isEmpty_iff.mp h6]; rfl
    rw [e1] at FD
    have hg : mg o.nm = some (.ref (ga K o.nm)) := glo_ok X G (c.facts (by unfold faOf; simp only [List.mem_append]; exact .inl (List.mem_map.mpr ⟨o, ho, rfl⟩)))
    have e2 : fAd K o.d.at_ = ga K o.nm := by rw [h8]; rfl
    have hlm : o.lam = true → LamD ((tf.map fun p => (cT K p).2).zip quals) (tf.map (cT K)) fd o.d.qual := fun z => by
      rw [z] at hl
      simp only [Bool.not_true, Bool.false_or, List.any_eq_true, Bool.and_eq_true, decide_eq_true_eq] at hl
      obtain ⟨⟨p1, p2⟩, hm, hp1, hq⟩ := hl
      simp only at hp1 hq
      subst hp1 hq
      obtain ⟨i, hi⟩ := List.mem_iff_getElem?.mp hm
      obtain ⟨hi1, hi2⟩ := List.getElem?_zip_eq_some.mp hi
      obtain ⟨oc, od, dV, kV, doc, pm, an, cdv, ct, osl, efd, lk, hcd, _, _⟩ := FD.ex
      obtain ⟨c0, hc0⟩ := codeIn_ref hcd
      have ec : fd.code = .ref c0 := by rw [efd, ← hc0] <;> rfl
      refine ⟨i, (cT K o.d.at_).1, (cT K o.d.at_).2, List.getElem?_zip_eq_some.mpr ⟨by rw [List.getElem?_map, hi1]; rfl, hi2⟩, ?_, List.mem_map_of_mem (List.mem_of_getElem? hi1)⟩
      rw [ec]
      show Value.ref c0 = Value.ref (codeOf K o.d.at_)
      rw [codeOf_eq lk ec]
    rw [e2] at FD
    exact ⟨o.lam, _, fd, o.N, _, _, _, _, _, _, hg, FD, scopeB_ok h3, h4, h5, hlm, by rw [← h1]; exact bindsP FD hp (by rw [h1]; exact h2), by rw [← h1]; exact kwP FD hp, fun s us hl => by
      rw [← h1] at hl ⊢
      exact FD.bindsA (fun kV doc pm an cdv ct us hl => bind_plain (plainP_ok hp) rfl (by rw [h1]; exact h2) hl) s us hl⟩
  · cases hb
def ownIB (T : Tab) (o : Own) : Bool := match plainP o.d.params with
  | some as => decide (as.map (·.arg) = o.F.ps) && (decide o.F.ps.Nodup && (scopeB o.N o.F.ps o.d.scope && (decide (o.N.length = o.F.n) && (mSs T o.N o.d.scope (fbO false false) o.F.body o.d.body && (o.d.dfl.isEmpty && (o.d.kwd.isEmpty && decide (o.d.at_ = (o.nm, some ("__init__" : Str)))))))))
  | none => false
theorem own_ofI {fa : List Fa} {fn : List DefD} (c : SaysD fa fn K) (X : K.In h) (G : h.Ns mainGlobals mg) {o : Own} (ho : o.d ∈ fn) (hg : mg o.nm = some (.ref (ga K o.nm))) (hm : (Fa.mkr o.nm).ok K = true) (hb : ownIB T o = true) : OwnI T K mg o.nm o.F := by
  unfold ownIB at hb
  split at hb
  · rename_i as hp
    simp only [Bool.and_eq_true, decide_eq_true_eq] at hb
    obtain ⟨h1, h2, h3, h4, h5, h6, h7, h8⟩ := hb
    obtain ⟨fd, FD⟩ := c.defs (d := o.d) ho
    have e1 : o.d.dvs K = [] := by unfold DefD.dvs; rw [List.isEmpty_iff.mp h6]; rfl
    rw [e1] at FD
    have e2 : fAd K o.d.at_ = ma K (ga K o.nm) "__init__" := by rw [h8]; rfl
    rw [e2] at FD
    exact ⟨_, _, fd, o.N, _, _, _, _, _, _, hg, mkr_ok hm, FD, scopeB_ok h3, h4, h5, by rw [← h1]; exact bindsP FD hp (by rw [h1]; exact h2)⟩
  · cases hb
/-- _law_caught as it stands -/
def cauB (d : DefD) : Bool := match plainP d.params with
  | some as => decide (as.map (·.arg) = [("work" : Str)]) && (scopeB [("work" : Str), "caught", "error"] [("work" : Str)] d.scope && (isCaught d.body && (d.dfl.isEmpty && (d.kwd.isEmpty && (decide (d.at_ = (("_law_caught" : Str), none)) && (decide (d.name = ("_law_caught" : Str)) && (decide (d.qual = ("_law_caught" : Str)) &&
    (decide (d.scope.names.lookup ("StepError" : Str) = some NameKind.globalImplicit) && (decide (d.scope.names.lookup ("caught" : Str) = some NameKind.local) && (decide (d.scope.names.lookup ("error" : Str) = some NameKind.local) && decide (d.scope.names.lookup ("work" : Str) = some NameKind.local)))))))))))
  | none => false
theorem cau_of (c : SaysD (faOf T own) fn K) (X : K.In h) (G : h.Ns mainGlobals mg) {d : DefD} (hd : d ∈ fn) (hb : cauB d = true) (g1 : ("_law_caught" : Str) ∈ T.globs) (g2 : ("StepError" : Str) ∈ T.globs) : CaughtD K mg := by
  have glo : ∀ x ∈ T.globs, mg x = some (.ref (ga K x)) := fun x hx => glo_ok X G (c.facts (by
    unfold faOf
    simp only [List.mem_append]
    exact .inr (.inr (.inr (.inr (List.mem_map_of_mem hx))))))
  unfold cauB at hb
  split at hb
  · rename_i as hp
    simp only [Bool.and_eq_true, decide_eq_true_eq] at hb
    obtain ⟨h1, h2, h3, h4, h5, h6, h7, h8, h9, h10, h11, h12⟩ := hb
    obtain ⟨fd, FD⟩ := c.defs (d := d) hd
    have e1 : d.dvs K = [] := by unfold DefD.dvs; rw [List.isEmpty_iff.mp h4]; rfl
    rw [e1] at FD
    have B := bindsP FD hp (by rw [h1]; decide)
    have hk := FD.kp
    obtain ⟨oc, od, dV, kV, doc, pm, an, cdv, ct, osl, rfl, lk, hcd, _, _⟩ := FD.ex
    have e2 : fAd K d.at_ = ga K "_law_caught" := by rw [h6]; rfl
    rw [e2] at lk hk
    rw [h1, h7, h8] at B
    rw [h7, h8] at lk
    rw [h8] at hcd
    exact ⟨⟨_, _, _, _, _, _, _, _, _, _, _, _, _, _, glo _ g1, hk, lk, hcd, B, scopeB_ok h2, h9, h10, h11, h12, h3⟩, _, glo _ g2⟩
  · cases hb
/-- _law_re_refused as it stands -/
def refB (d : DefD) : Bool := match plainP d.params with
  | some as => decide (as.map (·.arg) = [("word" : Str), "work"]) && (scopeB [("word" : Str), "work"] [("word" : Str), "work"] d.scope && (isRefused d.body && (d.dfl.isEmpty && (d.kwd.isEmpty && (decide (d.at_ = (("_law_re_refused" : Str), none)) && (decide (d.name = ("_law_re_refused" : Str)) && (decide (d.qual = ("_law_re_refused" : Str)) &&
    (decide (d.scope.names.lookup ("_law_re_kind" : Str) = some NameKind.globalImplicit) && (decide (d.scope.names.lookup ("_law_caught" : Str) = some NameKind.globalImplicit) && (decide (d.scope.names.lookup ("word" : Str) = some NameKind.local) && decide (d.scope.names.lookup ("work" : Str) = some NameKind.local)))))))))))
  | none => false
theorem ref_of (c : SaysD (faOf T own) fn K) (X : K.In h) (G : h.Ns mainGlobals mg) {d : DefD} (hd : d ∈ fn) (hb : refB d = true) (g1 : ("_law_re_refused" : Str) ∈ T.globs) : RefD K mg := by
  have glo : ∀ x ∈ T.globs, mg x = some (.ref (ga K x)) := fun x hx => glo_ok X G (c.facts (by
    unfold faOf
    simp only [List.mem_append]
    exact .inr (.inr (.inr (.inr (List.mem_map_of_mem hx))))))
  unfold refB at hb
  split at hb
  · rename_i as hp
    simp only [Bool.and_eq_true, decide_eq_true_eq] at hb
    obtain ⟨h1, h2, h3, h4, h5, h6, h7, h8, h9, h10, h11, h12⟩ := hb
    obtain ⟨fd, FD⟩ := c.defs (d := d) hd
    have e1 : d.dvs K = [] := by unfold DefD.dvs; rw [List.isEmpty_iff.mp h4]; rfl
    rw [e1] at FD
    have B := bindsP FD hp (by rw [h1]; decide)
    have hk := FD.kp
    obtain ⟨oc, od, dV, kV, doc, pm, an, cdv, ct, osl, rfl, lk, hcd, _, _⟩ := FD.ex
    have e2 : fAd K d.at_ = ga K "_law_re_refused" := by rw [h6]; rfl
    rw [e2] at lk hk
    rw [h1, h7, h8] at B
    rw [h7, h8] at lk
    rw [h8] at hcd
    exact ⟨_, _, _, _, _, _, _, _, _, _, _, _, _, _, glo _ g1, hk, lk, hcd, B, scopeB_ok h2, h9, h10, h11, h12, h3⟩
  · cases hb
theorem look_own {f : Str} {F : Fun} : ∀ {own : List Own}, (own.map fun o => (o.nm, o.F)).lookup f = some F → ∃ o ∈ own, o.nm = f ∧ o.F = F := fun {own} hl => by
  obtain ⟨o, h1, h2⟩ := List.mem_map.mp (lookup_mem' hl)
  cases h2
  exact ⟨o, h1, rfl, rfl⟩
end
end Mi
end

section
-- MiniO
set_option Elab.async false
set_option linter.all false
set_option maxRecDepth 100000
set_option maxHeartbeats 4000000
/-! Mini, part O: an end that asks of the law's def only what it does when the outermost caller calls it -/
namespace Mi
open PySem PySem.Spec PyProof.Rows L2
def emptyT : Obj := { cls := .none, data := .fields #[] }
/-- what is tracked at the start -/
def H0 (K : PySem.W.Frag) (ts : List Addr) (a : Addr) (vs : List Value) (ns : List Int) : Hp := fun b =>
  if b ∈ ts then some (.tbl #[]) else if b = a ∧ K.lookup a = none then some (.frz { cls := .type "list", data := .seq vs.toArray } (.lst (ns.map V.int))) else none
section
variable {K : PySem.W.Frag} {ts : List Addr} {a : Addr} {vs : List Value} {ns : List Int}
theorem H0_tab {b : Addr} (h : b ∈ ts) : H0 K ts a vs ns b = some (.tbl #[]) := if_pos h
theorem H0_of {b : Addr} {u : HO} (h : H0 K ts a vs ns b = some u) : (b ∈ ts ∧ u = .tbl #[]) ∨ (b ∉ ts ∧ b = a ∧ K.lookup a = none ∧ u = .frz { cls := .type "list", data := .seq vs.toArray } (.lst (ns.map V.int))) := by
  unfold H0 at h
  split at h
  · rename_i hb; cases h; exact .inl ⟨hb, rfl⟩
  · rename_i hb
    split at h
    · rename_i hc; cases h; exact .inr ⟨hb, hc.1, hc.2, rfl⟩
    · cases h
theorem H0_script (na : a ∉ ts) (h : K.lookup a = none) : H0 K ts a vs ns a = some (.frz { cls := .type "list", data := .seq vs.toArray } (.lst (ns.map V.int))) := by
  unfold H0
  rw [if_neg na, if_pos ⟨rfl, h⟩]
end
theorem call_top {P : Program} {w : World} {K : PySem.W.Frag} {mg mb : Str → Option Value} {CX : CXT} {fa a : Addr} {cs : List (Addr × Addr)} {s₁ : Shared} {vs : List Value} {ns : List Int}
    (KX : K.In s₁.heap) (hns : s₁.heap.Ns mainGlobals mg) (hb : s₁.heap.Ns builtinsNs mb) (hbb : ∀ x : Str, x ≠ "__name__" → mb x = bootBuiltins x) (hlim : s₁.heap.NoLimit) (hg : s₁.gens = #[])
    (hT : ∀ p ∈ cs, s₁.heap.get? p.2 = some { cls := .none, data := .fields #[] }) (nT : ∀ p ∈ cs, K.lookup p.2 = none) (C : ∀ p ∈ cs, PySem.W.CodeHd s₁.heap p.1 p.2)
    (hbm : ∃ (bm : Addr) (ob : Obj), mg "__builtins__" = some (.ref bm) ∧ bm ≠ builtinsNs ∧ s₁.heap.get? bm = some ob ∧ ob.cls = .type "module" ∧ ob.dict = some builtinsNs ∧ ob.data = .plain)
    (ha : s₁.heap.get? a = some { cls := .type "list", data := .seq vs.toArray }) (hi : IntsAre vs ns) (hl : ns.length ≤ sizeLine)
    (run : ∀ (base : Heap) (H : Hp), K.In base → base.Ns mainGlobals mg → (∀ p ∈ cs, LamX.TabB base mg p.1 p.2) → Env0 P w K mg base callerA [] s₁ H → (∀ p ∈ cs, H p.2 = some (.tbl #[])) → SqL K H a (ns.map V.int) →
      codeAny (model P w) callerA (.call (.ref fa) ⟨[.ref a], []⟩) (CR CX [] P w H s₁ (fun v _ => v = .bl true) (fun _ _ _ => False)) s₁)
    (hCX : ∀ H e s', CX [] H s₁ (fun _ _ _ => False) e s' → False) :
    codeAny (model P w) callerA (.call (.ref fa) ⟨[.ref a], []⟩) (fun r s' => r = .ok (.ret (.bool true)) ∧ OldK s₁.heap s'.heap ∧ s'.os = s₁.os ∧ AllBare s'.gens) s₁ := by
  have rv := vals_ints hi
  have tabObj : ∀ b, b ∈ cs.map (·.2) → s₁.heap.get? b = some { cls := .none, data := .fields #[] } := fun b hb => by
    obtain ⟨p, hp, rfl⟩ := List.mem_map.mp hb
    exact hT p hp
  have aT : a ∉ cs.map (·.2) := fun z => by
    have q := tabObj a z
    rw [ha] at q
    have z' : Data.seq vs.toArray _ = Data.fields #[] := congrArg Obj.data (Option.some.inj q)
    cases z'
  -- only a list's items and empty fields are tracked
  have kinds : ∀ {b : Addr} {u : HO} {o : Obj}, H0 K (cs.map (·.2)) a vs ns b = some u → s₁.heap.get? b = some o → o.data = .fields #[] ∨ ∃ x n, o.data = .seq x n := fun {b u o} h e => by
    rcases H0_of h with ⟨hb, _⟩ | ⟨_, rfl, _, _⟩
    · rw [tabObj b hb] at e; cases e; exact .inl rfl
    · rw [ha] at e; cases e; exact .inr ⟨_, _, rfl⟩
  have free : ∀ {b : Addr} {o : Obj}, s₁.heap.get? b = some o → o.data ≠ .fields #[] → (∀ x n, o.data ≠ .seq x n) → H0 K (cs.map (·.2)) a vs ns b = none := fun {b o} e n1 n2 => by
    cases q : H0 K (cs.map (·.2)) a vs ns b with
    | none => rfl
    | some u =>
      rcases kinds q e with z | ⟨x, n, z⟩
      · exact absurd z n1
      · exact absurd z (n2 x n)
  have ns_keep : ∀ {b : Addr} {m : Str → Option Value}, s₁.heap.Ns b m → (hidT s₁.heap (H0 K (cs.map (·.2)) a vs ns)).Ns b m := fun {b m} ⟨o, es, ep, e, d, r⟩ =>
    ⟨o, es, ep, hidT_get e (free e (fun z => by rw [d] at z; cases z) fun x n z => by rw [d] at z; cases z), d, r⟩
  have k_keep : K.In (hidT s₁.heap (H0 K (cs.map (·.2)) a vs ns)) := fun b o e => hidT_get (KX b o e) (by
    cases q : H0 K (cs.map (·.2)) a vs ns b with
    | none => rfl
    | some u =>
      rcases H0_of q with ⟨hb, _⟩ | ⟨_, rfl, hk, _⟩
      · obtain ⟨p, hp, rfl⟩ := List.mem_map.mp hb
        rw [nT p hp] at e; cases e
      · rw [hk] at e; cases e)
  have md : L2.Mod K mg (hidT s₁.heap (H0 K (cs.map (·.2)) a vs ns)) := ⟨k_keep, ns_keep hns, ⟨mb, ns_keep hb, hbb⟩, let ⟨mc, h1, h2⟩ := hlim; ⟨mc, ns_keep h1, h2⟩⟩
  have TB : ∀ p ∈ cs, LamX.TabB (hidT s₁.heap (H0 K (cs.map (·.2)) a vs ns)) mg p.1 p.2 := fun p hp => by
    have gl := hns
    obtain ⟨og, esg, epg, eg, dg, _⟩ := gl
    refine ⟨?_, ?_, fun z => ?_⟩
    · obtain ⟨o, us, file, tf, flags, tg, inF, text, tt, x1, xc, x2, x3, x4⟩ := C p hp
      refine ⟨o, us, file, tf, flags, tg, inF, text, tt, hidT_get x1 (free x1 (fun z => ?_) fun x n z => ?_), xc, x2, x3, x4⟩
      · rw [x2] at z; cases z; simp at x3
      · rw [x2] at z; cases z
    · obtain ⟨bm, ob, b1, b2, b3, b4, b5, b6⟩ := hbm
      refine ⟨bm, ob, b1, b2, fun q => ?_, fun q => ?_, hidT_get b3 (free b3 (fun z => ?_) fun x n z => ?_), b4, b5, b6⟩
      · rw [q, eg] at b3; cases b3; rw [dg] at b6; cases b6
      · rw [q, hT p hp] at b3; cases b3; cases b6
      · rw [b6] at z; cases z
      · rw [b6] at z; cases z
    · rw [z, hT p hp] at eg; cases eg; cases dg
  have hok : HOk P w (H0 K (cs.map (·.2)) a vs ns) s₁.heap := fun b u h => by
    rcases H0_of h with ⟨hb, rfl⟩ | ⟨_, rfl, _, rfl⟩
    · exact tabObj b hb
    · exact ⟨ha, by rw [List.length_map]; exact hl, vs, _, rv, ha⟩
  have e0 : Env0 P w K mg (hidT s₁.heap (H0 K (cs.map (·.2)) a vs ns)) callerA [] s₁ (H0 K (cs.map (·.2)) a vs ns) := ⟨rfl, md, fun b o e => of_hidT e, Nat.le_of_eq (hidT_size _ _), trivial, fun b hb => absurd (show b ∈ ([] : List Addr) from hb) (by simp), hok, .of_eq hg⟩
  have sq : SqL K (H0 K (cs.map (·.2)) a vs ns) a (ns.map V.int) := by
    cases hk : K.lookup a with
    | none => exact .inl (.inr ⟨_, H0_script aT hk⟩)
    | some o =>
      have e := KX a o hk
      rw [ha] at e
      cases e
      exact .inr ⟨_, vs.toArray, _, hk, rfl, rfl, rfl, by rw [List.size_toArray, hi.length]; exact hl, by simpa using rv⟩
  refine codeAny_mono (run _ _ k_keep (ns_keep hns) TB e0 (fun p hp => H0_tab (List.mem_map_of_mem hp)) sq) fun r s' h => ?_
  cases r with
  | error e => exact (hCX _ e s' h).elim
  | ok fl =>
    cases fl with
    | next => exact False.elim h
    | brk => exact False.elim h
    | cont => exact False.elim h
    | ret u =>
      obtain ⟨v, H', os, bare, un, hok', r', q⟩ := h
      have q' : v = .bl true := q
      subst q'
      obtain rfl : u = Value.bool true := r'
      have old : ∀ b o, b ∉ cs.map (·.2) → s₁.heap.get? b = some o → s'.heap.get? b = some o := fun b o nb e => by
        cases q : H0 K (cs.map (·.2)) a vs ns b with
        | none => exact un.keep b o e q (by intro z; exact absurd (show b ∈ ([] : List Addr) from z) (by simp)) (by simp)
        | some u =>
          rcases H0_of q with ⟨hb, _⟩ | ⟨_, rfl, _, rfl⟩
          · exact absurd hb nb
          · obtain ⟨e2, _⟩ := hok' b _ (un.frzs b _ _ q)
            rw [ha] at e; cases e
            exact e2
      have tabs : ∀ p ∈ cs, ∃ more : Array Value, s'.heap.get? p.2 = some { cls := .none, data := .fields more } := fun p hp => by
        obtain ⟨more, z⟩ := un.tbls p.2 #[] (H0_tab (List.mem_map_of_mem hp))
        exact ⟨_, hok' p.2 _ z⟩
      refine ⟨rfl, ⟨fun b o e => ?_, fun b o e => ?_⟩, os, bare⟩ <;> by_cases hb : b ∈ cs.map (·.2)
      · obtain ⟨p, hp, rfl⟩ := List.mem_map.mp hb
        obtain ⟨more, hm⟩ := tabs p hp
        rw [hT p hp] at e
        cases e
        exact .inr (.inl ⟨((C p hp).tab (hT p hp)).isCodeTable, rfl, #[], more, rfl, by rw [Array.empty_append]; exact hm⟩)
      · exact .inl (old b o hb e)
      · obtain ⟨p, hp, rfl⟩ := List.mem_map.mp hb
        obtain ⟨more, hm⟩ := tabs p hp
        exact ⟨_, hm⟩
      · exact ⟨o, old b o hb e⟩
/-- what is known of the law at the head's heap -/
def LawAtG (l : PySem.W.OpenLaw) (w : World) (K : PySem.W.Frag) (CX : CXT) (n : Nat) (mg : Str → Option Value) (fa : Addr) (h : Heap) : Prop :=
  ∃ cs : List (Addr × Addr), (∀ p ∈ cs, h.get? p.2 = some { cls := .none, data := .fields #[] }) ∧ (∀ p ∈ cs, K.lookup p.2 = none) ∧ (∀ p ∈ cs, PySem.W.CodeHd h p.1 p.2) ∧
    ∀ (base : Heap) (H : Hp) (s : Shared) (a : Addr) (ns : List Int), ns.length ≤ n → (∀ z ∈ ns, Builtin.Int.intBits z ≤ 1048576) → K.In base → base.Ns mainGlobals mg → (∀ p ∈ cs, LamX.TabB base mg p.1 p.2) → Env0 l.prog w K mg base callerA [] s H → (∀ p ∈ cs, H p.2 = some (.tbl #[])) → SqL K H a (ns.map V.int) →
      codeAny (model l.prog w) callerA (.call (.ref fa) ⟨[.ref a], []⟩) (CR CX [] l.prog w H s (fun v _ => v = .bl true) (fun _ _ _ => False)) s
theorem walk_top {l : PySem.W.OpenLaw} {n : Nat} {q : Program} {loose : List Str} {XP : (Str → Option Value) → Heap → Prop} {YP : World → Heap → Prop} {d : DefRec} {CX : World → CXT}
    (hn : l.most = some n) (hn2 : n ≤ sizeLine) (hdf : d.params.defaults = [])
    (F : ∀ (w : World) (mg : Str → Option Value) (fa : Addr) (h : Heap), YP w h → h.Ns mainGlobals mg → mg d.name = some (.ref fa) → ∃ K : PySem.W.Frag, K.In h ∧ LawAtG l w K (CX w) n mg fa h)
    (hCX : ∀ (w : World) (H : Hp) (s : Shared) (e : Value) (s' : Shared), CX w [] H s (fun _ _ _ => False) e s' → False) :
    PySem.W.WalkO q loose XP YP l.row.toRowW d [] (fun f vs => PySem.call f vs) := by
  refine Att.attach_callB hn hdf fun w s₀ s₁ mg mb fa o pm cd doc a vs ns G Y ho hd hcd hmg hobj hints hlen hbits hg => ?_
  obtain ⟨K, KX, cs, hT, nT, C, run⟩ := F w mg fa _ Y G.T.g hmg
  exact call_top KX G.T.g G.T.b G.T.builtins G.T.nolimit hg hT nT C G.T.bmain hobj hints (Nat.le_trans hlen hn2) (fun base H k1 k2 k3 k4 k5 k6 => run base H s₁ a ns hlen hbits k1 k2 k3 k4 k5 k6) fun H e s' => hCX w H s₁ e s'
end Mi
end

section
-- MiniZ
set_option Elab.async false
set_option linter.all false
set_option maxRecDepth 100000
set_option maxHeartbeats 4000000
/-! Mini, part Z: a hook whose part of the heap holds the statics, too -/
namespace Mi
open PySem PySem.Spec PyProof.Rows L2 He
/-- the written part: what is near the globals, and the statics -/
def bag (g : Addr → Option Obj) : PySem.W.Frag := frT g (cStatics :: asD g 5)
def lookY (fa : List Fa) (fn : List DefD) (tf : List Defn) (ex : PySem.W.Frag → Bool) (g : Addr → Option Obj) : AlX :=
  let K := bag g
  (obsT fa fn [] K, ex K && tabsB g tf K)
theorem saysY {fa : List Fa} {fn : List DefD} {tf : List Defn} {ex : PySem.W.Frag → Bool} {w : World} {h : Heap} (e : lookY fa fn tf ex h.get? = valX fn [] w) : SaysX fa fn [] tf ex w h (bag h.get?) := by
  have a1 : obsT fa fn [] (bag h.get?) = valT fn [] w := congrArg Prod.fst e
  have a2 : (ex (bag h.get?) && tabsB h.get? tf (bag h.get?)) = true := congrArg Prod.snd e
  obtain ⟨b1, b2⟩ := Bool.and_eq_true_iff.mp a2
  have at_ : ∀ p ∈ tf, PySem.W.codeHdIn (bag h.get?) (cT (bag h.get?) p).1 (cT (bag h.get?) p).2 = true ∧ ∃ o, h.get? (cT (bag h.get?) p).2 = some o ∧ emptyTab o = true := by
    intro p hp
    obtain ⟨c1, c2⟩ := Bool.and_eq_true_iff.mp (List.all_eq_true.mp b2 p hp)
    refine ⟨c1, ?_⟩
    split at c2
    · rename_i o q
      exact ⟨o, q, c2⟩
    · cases c2
  refine ⟨a1, b1, fun p hp => (at_ p hp).1, fun p hp => ?_, fun p hp => ?_⟩
  · obtain ⟨o, q, z⟩ := (at_ p hp).2
    exact frT_none q z
  · obtain ⟨o, q, z⟩ := (at_ p hp).2
    rw [q, emptyTab_eq z]
def hookY (fa : List Fa) (fn : List DefD) (tf : List Defn) (ex : PySem.W.Frag → Bool) : PySem.W.Hook :=
  ⟨AlX, fun s => lookY fa fn tf ex s.heap.get?, fun w => valX fn [] w, fun w h => ∃ K : PySem.W.Frag, K.In h ∧ SaysX fa fn [] tf ex w h K, fun _ _ e => ⟨bag _, frT_in, saysY e⟩,
    fun _ _ _ ⟨K, i, c⟩ k => ⟨K, i.keeps k, c.t, c.more, c.hd, c.out, fun p hp => k _ _ (c.empty p hp)⟩⟩
theorem lookY_eq {fa : List Fa} {fn : List DefD} {tf : List Defn} {ex : PySem.W.Frag → Bool} {g : Addr → Option Obj} {s : Shared} (h : ∀ a, g a = s.heap.get? a) : lookY fa fn tf ex g = (hookY fa fn tf ex).obs s := by
  have e : g = s.heap.get? := funext h
  rw [e] <;> rfl
end Mi
end

section
-- Mini17
set_option Elab.async false
set_option linter.all false
set_option maxRecDepth 100000
set_option maxHeartbeats 4000000
/-! Mini, part 17: the law's end -/
namespace Mi
open PySem PySem.Spec PyProof.Rows L2 He
/-- what is looked at of a text: top is the law, called by no other -/
structure Law where
  T : Tab
  own : List Own
  top : Own
  tf : List He.Defn
  quals : List Str
  file : Str := ""
  more : List DefD := []
  inis : List Own := []
def Law.all (L : Law) : List Own := L.own ++ [L.top]
def Law.ex (L : Law) (K : PySem.W.Frag) : Bool := exB L.T K && ((L.T.fld.all fun p => initB L.file K (ga K p.1) p.2) && ((L.inis.all fun o => (Fa.glo o.nm).ok K && (Fa.mkr o.nm).ok K) && decide ((L.tf.map fun p => (cT K p).2).Nodup)))
def Law.tb (L : Law) (K : PySem.W.Frag) : List (Addr × Str) := (L.tf.map fun p => (cT K p).2).zip L.quals
abbrev Law.hk (L : Law) : PySem.W.Hook := hookY (faOf L.T L.all) (L.all.map (·.d) ++ (L.more ++ L.inis.map (·.d))) L.tf L.ex
def Law.ob (L : Law) (s : PySem.W.SharedT) : AlX := lookY (faOf L.T L.all) (L.all.map (·.d) ++ (L.more ++ L.inis.map (·.d))) L.tf L.ex (HandSHeadRun.getT s)
theorem Law.ob_eq (L : Law) (s : PySem.W.SharedT) : L.ob s = L.hk.obs s.abs := lookY_eq (HandSHeadRun.getT_eq s)
/-- what is looked at of the text alone -/
structure Law.Ok (L : Law) : Prop where
  fn : L.T.fn = L.own.map fun o => (o.nm, o.F)
  prim : ∀ f, L.T.prim f = none
  own : ∀ o ∈ L.own, ownB L.T L.tf L.quals false o = true
  cau : L.T.cau = true → (∃ d ∈ L.more, cauB d = true) ∧ ("_law_caught" : Str) ∈ L.T.globs ∧ ("StepError" : Str) ∈ L.T.globs
  rfd : L.T.rfd = true → (∃ d ∈ L.more, refB d = true) ∧ ("_law_re_refused" : Str) ∈ L.T.globs
  stp : L.T.subs = [] ∨ ("StepError" : Str) ∈ L.T.globs
  fld : ∀ p ∈ L.T.fld, p.1 ∈ L.T.gl ∧ ("super" : Str) ∈ L.T.free
  lfit : ∀ k a b sc, L.T.lfit k a b sc = true → lamFit L.T k a b sc = true
  ini : L.T.ini = L.inis.map fun o => (o.nm, o.F)
  inis : ∀ o ∈ L.inis, ownIB L.T o = true
  len : L.quals.length = L.tf.length
  top : ownB L.T L.tf L.quals true L.top = true
  nm : L.top.nm = "law"
  ps : L.top.F.ps = [("script" : Str)]
theorem law_at {L : Law} (ok : L.Ok) {l : PySem.W.OpenLaw} (hpf : L.T.fld = [] ∨ ((l.prog.main.file : Str) == L.file) = true ∧ (l.prog.main.scope.names.lookup ("super" : Str)).isSome = false) {w : World} {K : PySem.W.Frag} {mg : Str → Option Value} {fa : Addr} {h : Heap} (c : SaysX (faOf L.T L.all) (L.all.map (·.d) ++ (L.more ++ L.inis.map (·.d))) [] L.tf L.ex w h K) (X : K.In h) (G : h.Ns mainGlobals mg) (hm : mg "law" = some (.ref fa))
    (sem : ∀ ns : List Int, ns.length ≤ 63 → (∀ z ∈ ns, Builtin.Int.intBits z ≤ 1048576) → fnSem (gam L.T 99) L.top.F [.scr ns] (mu0 (L.tb K)) (fun v _ => v = .bl true) noX) : LawAtG l w K (L2.CX l.prog w) 63 mg fa h := by
  obtain ⟨hex, hin⟩ := Bool.and_eq_true_iff.mp c.more
  obtain ⟨hin, hmk⟩ := Bool.and_eq_true_iff.mp hin
  obtain ⟨hmk, hnd⟩ := Bool.and_eq_true_iff.mp hmk
  have cd := c.t.d
  have tx : Txt L.T K mg := txt_of cd X G hex (fun z => by
    obtain ⟨⟨d, hd, hb⟩, g1, g2⟩ := ok.cau z
    exact cau_of cd X G (List.mem_append_right _ (List.mem_append_left _ hd)) hb g1 g2) fun z => by
    obtain ⟨⟨d, hd, hb⟩, g1⟩ := ok.rfd z
    exact ref_of cd X G (List.mem_append_right _ (List.mem_append_left _ hd)) hb g1
  have ini : IniT L.T l.prog K mg := fun x f hl => by
    have hm := lookup_mem' hl
    have hne : L.T.fld ≠ [] := fun z => by rw [z] at hm; cases hm
    obtain ⟨f1, f2⟩ := hpf.resolve_left hne
    have q := initB_ok f1 f2 (List.all_eq_true.mp hin _ hm)
    have gx : mg x = some (.ref (ga K x)) := glo_ok X G (cd.facts (by
      unfold faOf
      simp only [List.mem_append]
      exact .inr (.inr (.inr (.inr (List.mem_map_of_mem (by unfold Tab.globs; simp only [List.mem_append]; exact .inr (.inr (.inr (.inr (.inr (.inr (.inr (ok.fld _ hm).1)))))))))))))
    exact ⟨_, gx, q, q.oex.kC, tx.free _ (ok.fld _ hm).2⟩
  have tk : TabOk L.T (enOf L.T K mg (L.tb K)) := ⟨fun f p hp => (by rw [ok.prim] at hp; cases hp), by
    rcases ok.stp with z | z
    · exact ⟨0, .inr z⟩
    · exact ⟨_, .inl (glo_ok X G (cd.facts (by
        unfold faOf
        simp only [List.mem_append]
        exact .inr (.inr (.inr (.inr (List.mem_map_of_mem z)))))))⟩, ok.lfit, fun _ _ _ _ h => h⟩
  have hf : ∀ f F, L.T.fn.lookup f = some F → OwnD L.T K mg (L.tb K) (L.tf.map (cT K)) false f F := fun f F hl => by
    rw [ok.fn] at hl
    obtain ⟨o, h1, rfl, rfl⟩ := look_own hl
    exact own_of cd X G (List.mem_append_left _ h1) (ok.own o h1)
  have hI : ∀ c F, L.T.ini.lookup c = some F → OwnI L.T K mg c F := fun x F hl => by
    rw [ok.ini] at hl
    obtain ⟨o, h1, rfl, rfl⟩ := look_own hl
    obtain ⟨q1, q2⟩ := Bool.and_eq_true_iff.mp (List.all_eq_true.mp hmk o h1)
    exact own_ofI cd X G (List.mem_append_right _ (List.mem_append_right _ (List.mem_map_of_mem h1))) (glo_ok X G q1) q2 (ok.inis o h1)
  have ht : OwnD L.T K mg (L.tb K) (L.tf.map (cT K)) true L.top.nm L.top.F := own_of cd X G (List.mem_append_right _ (List.mem_singleton.mpr rfl)) ok.top
  have tbm : (L.tb K).map (·.1) = L.tf.map fun p => (cT K p).2 := List.map_fst_zip (by rw [ok.len]; simp)
  have tbi : ∀ p ∈ L.tb K, ∃ q ∈ L.tf, p.1 = (cT K q).2 := fun p hp => by
    have : p.1 ∈ (L.tb K).map (·.1) := List.mem_map_of_mem hp
    rw [tbm] at this
    obtain ⟨q, h1, h2⟩ := List.mem_map.mp this
    exact ⟨q, h1, h2.symm⟩
  obtain ⟨lm, a, fd, N, name, qual, params, body, scope, kws, g1, FD, S, hn, hms, hlm, g2, _, g3⟩ := ht.ex
  rw [ok.nm, hm] at g1
  cases g1
  refine ⟨L.tf.map (cT K), fun p hp => ?_, fun p hp => ?_, fun p hp => ?_, fun base H s a ns hl hz hK hB hT e0 hH hS => ?_⟩
  · obtain ⟨q, h1, rfl⟩ := List.mem_map.mp hp
    exact c.empty q h1
  · obtain ⟨q, h1, rfl⟩ := List.mem_map.mp hp
    exact c.out q h1
  · obtain ⟨q, h1, rfl⟩ := List.mem_map.mp hp
    exact PySem.W.codeHd_of_K X (c.hd q h1)
  · have hT' : ∀ p ∈ L.tf.map (cT K), LamX.TabB base mg p.1 p.2 := hT
    have df : ∀ d', d' ≤ 99 → Defs L.T l.prog w K mg (L.tb K) base d' := (defs_all tk tx ini hT' ok.prim hI hf 99).1
    have mk : ∀ e, e + 2 ≤ 99 → Inits L.T l.prog w K mg (L.tb K) base e := fun e he => (defs_all tk tx ini hT' ok.prim hI hf 99).2 e (by omega)
    have sp := law_sp (T := L.T) (K := K) (mg := mg) (tb := L.tb K) (H := H) (a := a) (ns := ns) (c := fnSem (gam L.T 99) L.top.F) (by rw [tbm]; exact of_decide_eq_true hnd) (fun p hp => by
      obtain ⟨q, h1, h2⟩ := tbi p hp
      rw [h2]
      exact hH _ (List.mem_map_of_mem h1)) trivial hS (sem ns hl hz)
    have bt := g3 s [.ref a] (by rw [ok.ps]; rfl)
    obtain ⟨oc, od, dV, kV, doc, pm, an, cdv, ct, osl, rfl, lk, hcd, _, _⟩ := FD.ex
    have len : L.top.F.ps.length = 1 := by rw [ok.ps]; rfl
    refine LamX.run_ofS (k := 99) (us := [.ref a]) (vs := [.ref a]) lk hcd S ⟨rfl, by decide, by decide⟩ e0 bt (.cons rfl .nil) (by rw [len]; rfl) fun hr' => ?_
    exact body_ok tk tx ini df mk hT' hlm (fun _ => rfl) S hn hms hr' (by rw [len]; exact sp)
theorem cx_none {P : Program} {w : World} {H : Hp} {s : Shared} {e : Value} {s' : Shared} (z : L2.CX P w [] H s (fun _ _ _ => False) e s') : False := by
  obtain ⟨_, _, _, _, _, _, _, _, _, _, _, _, z⟩ := z
  exact z
theorem tb_quals {L : Law} (ok : L.Ok) (K : PySem.W.Frag) : (L.tb K).map (·.2) = L.quals := by
  show ((L.tf.map fun p => (cT K p).2).zip L.quals).map (·.2) = L.quals
  exact List.map_snd_zip (by rw [ok.len]; simp)
end Mi
end

section
-- MiniE
set_option Elab.async false
set_option linter.all false
set_option maxRecDepth 100000
set_option maxHeartbeats 4000000
/-! Mini, part E: evaluating own forms, a step a construct -/
namespace Mi
open PySem PySem.Spec PyProof.Rows L2
/-! ### asking a value -/
def PV.isNin : PV → Bool
  | .nin _ _ _ => true
  | _ => false
theorem nin_non : (PV.non ).isNin = false := rfl
theorem own_non : (PV.non ).own = false := rfl
theorem nin_bl (b : Bool) : (PV.bl b).isNin = false := rfl
theorem own_bl (b : Bool) : (PV.bl b).own = false := rfl
theorem nin_int (i : Int) : (PV.int i).isNin = false := rfl
theorem own_int (i : Int) : (PV.int i).own = false := rfl
theorem nin_str (x : Str) : (PV.str x).isNin = false := rfl
theorem own_str (x : Str) : (PV.str x).own = false := rfl
theorem nin_tup (vs : List PV) : (PV.tup vs).isNin = false := rfl
theorem own_tup (vs : List PV) : (PV.tup vs).own = false := rfl
theorem nin_lst (vs : List PV) : (PV.lst vs).isNin = false := rfl
theorem own_lst (vs : List PV) : (PV.lst vs).own = false := rfl
theorem nin_dct (ks vs : List PV) : (PV.dct ks vs).isNin = false := rfl
theorem own_dct (ks vs : List PV) : (PV.dct ks vs).own = false := rfl
theorem nin_ins (c : Str) (fs : List Str) (vs : List PV) : (PV.ins c fs vs).isNin = false := rfl
theorem own_ins (c : Str) (fs : List Str) (vs : List PV) : (PV.ins c fs vs).own = false := rfl
theorem nin_exc (c : Str) (fs : List Str) (vs : List PV) : (PV.exc c fs vs).isNin = false := rfl
theorem own_exc (c : Str) (fs : List Str) (vs : List PV) : (PV.exc c fs vs).own = false := rfl
theorem nin_fn (f : Str) : (PV.fn f).isNin = false := rfl
theorem own_fn (f : Str) : (PV.fn f).own = false := rfl
theorem nin_obj (k : Nat) : (PV.obj k).isNin = false := rfl
theorem own_obj (k : Nat) : (PV.obj k).own = false := rfl
theorem nin_scr (ns : List Int) : (PV.scr ns).isNin = false := rfl
theorem own_scr (ns : List Int) : (PV.scr ns).own = false := rfl
theorem nin_nls (vs : List PV) : (PV.nls vs).isNin = false := rfl
def pkK (o : Option (Option PV)) (K : PV → Prop) : Prop := match o with
  | some (some v) => v.isNin = false ∧ K v
  | _ => False
def varK (o : Option (Option PV)) (K : PV → Prop) : Prop := match o with
  | some (some v) => v.own = false ∧ K v
  | _ => False
def optK {α : Type} (o : Option α) (K : α → Prop) : Prop := match o with
  | some v => K v
  | none => False
def intK (v : PV) (K : Int → Prop) : Prop := match v with
  | .int i => K i
  | _ => False
def tupK (v : PV) (K : List PV → Prop) : Prop := match v with
  | .tup i => K i
  | _ => False
def ixK (v i : PV) (K : PV → Prop) : Prop := match v, i with
  | .str x, .int i => (match atI x.cps.toList i with
    | some c => x.length ≤ sizeLine ∧ K (.str ⟨#[c]⟩)
    | none => False)
  | v, .int i => (match (itemsOf v).bind fun l => atI l i with
    | some u => K u
    | none => False)
  | _, _ => False
def slK (v : PV) (l h : Option Int) (K : PV → Prop) : Prop := match v with
  | .tup xs => K (.tup ((xs.drop (HT.sIx xs.length 0 l)).take (HT.sIx xs.length xs.length h - HT.sIx xs.length 0 l)))
  | .lst xs => K (.nls ((xs.drop (HT.sIx xs.length 0 l)).take (HT.sIx xs.length xs.length h - HT.sIx xs.length 0 l)))
  | .str x => x.length ≤ sizeLine ∧ K (.str (cutS x l h))
  | _ => False
def revK (v : PV) (K : PV → Prop) : Prop := match v with
  | .tup xs => K (.tup xs.reverse)
  | .lst xs => K (.nls xs.reverse)
  | _ => False
def slSK (v : PV) (l h : Option Int) (s : PV) (K : PV → Prop) : Prop := match v, s with
  | .lst xs, .int k => k ≠ 0 ∧ K (.nls (stepV xs l h k))
  | _, _ => False
def attrK (Γ : Gam) (v : PV) (f : Str) (K : PV → Prop) : Prop := match v with
  | .ins c fs vs => f ∈ Γ.flds c ∧ optK ((fs.zip vs).lookup f) K
  | .exc c fs vs => f ∈ Γ.xflds c ∧ optK ((fs.zip vs).lookup f) K
  | _ => False
def compE (Γ : Gam) (tg : Tg) (c : Eo) (e : Mi.E) (ρ : Env) (xs acc : List PV) (μ : Mu) (K : List PV → Mu → Prop) : Prop := compL (bindTg tg) (fun ρ1 μ2 K2 => evC Γ c ρ1 μ2 K2) (fun ρ1 μ2 K2 => evE Γ e ρ1 μ2 K2 noX) ρ xs acc μ K
def forE (Γ : Gam) (tg : Tg) (b : Ss) (xs : List PV) (ρ : Env) (μ : Mu) (A : EndP) : Prop := forL (bindTg tg) (fun ρ2 μ2 A2 => exSs Γ b ρ2 μ2 A2) xs ρ μ A
section
variable {Γ : Gam} {ρ : Env} {μ : Mu} {K : KE} {X : KE}
theorem ev_var (i : Nat) : evE Γ (.var i) ρ μ K X = varK ρ[i]? fun v => K v μ := by
  simp only [evE, varK] <;> (generalize ρ[i]? = o; rcases o with _ | _ | v <;> rfl)
theorem ev_pk (i : Nat) : evE Γ (.pk i) ρ μ K X = pkK ρ[i]? fun v => K v μ := by
  simp only [evE, pkK]; generalize ρ[i]? = o; rcases o with _ | _ | v
  · rfl
  · rfl
  · cases v <;> simp [PV.isNin]
theorem ev_cint (n : Int) : evE Γ (.cint n) ρ μ K X = K (.int n) μ := by simp only [evE] <;> rfl
theorem ev_cbl (b : Bool) : evE Γ (.cbl b) ρ μ K X = K (.bl b) μ := by simp only [evE] <;> rfl
theorem ev_cstr (x : Str) : evE Γ (.cstr x) ρ μ K X = K (.str x) μ := by simp only [evE] <;> rfl
theorem ev_cnon : evE Γ .cnon ρ μ K X = K .non μ := by simp only [evE] <;> rfl
theorem ev_cst (x : Str) : evE Γ (.cst x) ρ μ K X = optK (Γ.cst x) fun v => K v μ := by
  simp only [evE]; generalize Γ.cst x = o; cases o <;> rfl
theorem ev_tup (es : Es) : evE Γ (.tup es) ρ μ K X = evEs Γ es ρ μ (fun vs μ1 => vs.length ≤ sizeLine ∧ K (.tup vs) μ1) X := by simp only [evE] <;> rfl
theorem ev_lst (es : Es) : evE Γ (.lst es) ρ μ K X = evEs Γ es ρ μ (fun vs μ1 => vs.length ≤ sizeLine ∧ K (.nls vs) μ1) X := by simp only [evE] <;> rfl
theorem ev_dct0 : evE Γ .dct0 ρ μ K X = K (.dct [] []) μ := by simp only [evE] <;> rfl
theorem ev_bin (o : Op) (a b : Mi.E) : evE Γ (.bin o a b) ρ μ K X = evE Γ a ρ μ (fun va μ1 => evE Γ b ρ μ1 (fun vb μ2 => binK o va.fz vb.fz fun v => K v μ2) X) X := by simp only [evE] <;> rfl
theorem ev_neg (a : Mi.E) : evE Γ (.neg a) ρ μ K X = evE Γ a ρ μ (fun va μ1 => intK va fun i => K (.int (-i)) μ1) X := by simp only [evE, intK] <;> rfl
theorem ev_not (a : Mi.E) : evE Γ (.not a) ρ μ K X = evE Γ a ρ μ (fun va μ1 => blK va fun b => K (.bl (!b)) μ1) X := by simp only [evE] <;> rfl
theorem ev_and (es : Es) : evE Γ (.and es) ρ μ K X = evAnd Γ es ρ μ (fun b μ1 => K (.bl b) μ1) X := by simp only [evE] <;> rfl
theorem ev_or (es : Es) : evE Γ (.or es) ρ μ K X = evOr Γ es ρ μ (fun b μ1 => K (.bl b) μ1) X := by simp only [evE] <;> rfl
theorem ev_cmp (o : Cp) (a b : Mi.E) : evE Γ (.cmp o a b) ρ μ K X = evE Γ a ρ μ (fun va μ1 => evE Γ b ρ μ1 (fun vb μ2 => cmpK o va.fz vb.fz fun r => K (.bl r) μ2) X) X := by simp only [evE] <;> rfl
theorem ev_chain (o p : Cp) (a b c : Mi.E) : evE Γ (.chain o p a b c) ρ μ K X = evE Γ a ρ μ (fun va μ1 => evE Γ b ρ μ1 (fun vb μ2 => cmpK o va.fz vb.fz fun r => if r then evE Γ c ρ μ2 (fun vc μ3 => cmpK p vb.fz vc.fz fun r => K (.bl r) μ3) X else K (.bl false) μ2) X) X := by simp only [evE] <;> rfl
theorem ev_isn (a : Mi.E) : evE Γ (.isn a) ρ μ K X = evE Γ a ρ μ (fun va μ1 => K (.bl (isNon va)) μ1) X := by simp only [evE] <;> rfl
theorem ev_nisn (a : Mi.E) : evE Γ (.nisn a) ρ μ K X = evE Γ a ρ μ (fun va μ1 => K (.bl (!isNon va)) μ1) X := by simp only [evE] <;> rfl
theorem ev_isb (b : Bool) (a : Mi.E) : evE Γ (.isb b a) ρ μ K X = evE Γ a ρ μ (fun va μ1 => blK va fun c => K (.bl (decide (c = b))) μ1) X := by simp only [evE] <;> rfl
theorem ev_ite (c a b : Mi.E) : evE Γ (.ite c a b) ρ μ K X = evE Γ c ρ μ (fun v μ1 => trK v fun r => if r then evE Γ a ρ μ1 K X else evE Γ b ρ μ1 K X) X := by simp only [evE] <;> rfl
theorem ev_call (f : Str) (es : Es) : evE Γ (.call f es) ρ μ K X = evEs Γ es ρ μ (fun vs μ1 => Γ.call f vs μ1 K X) X := by simp only [evE] <;> rfl
theorem ev_callk (f : Str) (es kes : Es) (ks : List Str) (perm : List Nat) : evE Γ (.callk f es ks kes perm) ρ μ K X = evEs Γ es ρ μ (fun vs μ1 => evEs Γ kes ρ μ1 (fun ws μ2 => ws.length = ks.length ∧ Γ.call f (vs ++ perm.filterMap (ws[·]?)) μ2 K X) X) X := by simp only [evE] <;> rfl
theorem ev_mk (f : Str) (es : Es) : evE Γ (.mk f es) ρ μ K X = (Γ.mkd = true ∧ evEs Γ es ρ μ (fun vs μ1 => Γ.make f vs μ1 K X) X) := by simp only [evE] <;> rfl
theorem ev_mkk (f : Str) (es kes : Es) (ks : List Str) (perm : List Nat) : evE Γ (.mkk f es ks kes perm) ρ μ K X = (Γ.mkd = true ∧ evEs Γ es ρ μ (fun vs μ1 => evEs Γ kes ρ μ1 (fun ws μ2 => ws.length = ks.length ∧ Γ.make f (vs ++ perm.filterMap (ws[·]?)) μ2 K X) X) X) := by simp only [evE] <;> rfl
theorem ev_bi (b : Bi) (es : Es) : evE Γ (.bi b es) ρ μ K X = evEs Γ es ρ μ (fun vs μ1 => biK b vs fun v => K v μ1) X := by simp only [evE] <;> rfl
theorem ev_isin (a : Mi.E) (t : Ty) : evE Γ (.isin a t) ρ μ K X = evE Γ a ρ μ (fun va μ1 => optK (isinF Γ va.fz t) fun r => K (.bl r) μ1) X := by
  simp only [evE]; congr 1; funext va μ1; generalize isinF Γ va.fz t = o; cases o <;> rfl
theorem ev_attr (a : Mi.E) (f : Str) : evE Γ (.attr a f) ρ μ K X = evE Γ a ρ μ (fun va μ1 => attrK Γ va f fun v => K v μ1) X := by
  simp only [evE]; congr 1; funext va μ1
  cases va <;> try rfl
  · rename_i c fs vs; simp only [attrK]; generalize (fs.zip vs).lookup f = o; cases o <;> rfl
  · rename_i c fs vs; simp only [attrK]; generalize (fs.zip vs).lookup f = o; cases o <;> rfl
theorem ev_ix (a i : Mi.E) : evE Γ (.ix a i) ρ μ K X = evE Γ a ρ μ (fun va μ1 => evE Γ i ρ μ1 (fun vi μ2 => ixK va.fz vi fun v => K v μ2) X) X := by
  simp only [evE, ixK] <;> rfl
theorem ev_sl (a : Mi.E) (lo hi : Eo) : evE Γ (.sl a lo hi) ρ μ K X = evE Γ a ρ μ (fun va μ1 => evO Γ lo ρ μ1 (fun l μ2 => evO Γ hi ρ μ2 (fun h μ3 => slK va.fz l h fun v => K v μ3) X) X) X := by simp only [evE, slK] <;> rfl
theorem ev_slS (a st : Mi.E) (lo hi : Eo) : evE Γ (.slS a lo hi st) ρ μ K X = evE Γ a ρ μ (fun va μ1 => evO Γ lo ρ μ1 (fun l μ2 => evO Γ hi ρ μ2 (fun h μ3 => evE Γ st ρ μ3 (fun s μ4 => slSK va.fz l h s fun v => K v μ4) X) X) X) X := by
  simp only [evE, slSK] <;> rfl
theorem ev_rev (a : Mi.E) : evE Γ (.rev a) ρ μ K X = evE Γ a ρ μ (fun va μ1 => revK va.fz fun v => K v μ1) X := by simp only [evE, revK] <;> rfl
theorem ev_comp (own : List (Str × Nat)) (tg : Tg) (s : Sr) (c : Eo) (e : Mi.E) : evE Γ (.comp own tg s c e) ρ μ K X = evS Γ s ρ μ (fun xs μ1 => compE Γ tg c e (wipeE ρ (own.map (·.2))) xs [] μ1 fun vs μ2 => K (.nls vs) μ2) X := by simp only [evE, compE] <;> rfl
def repK (v : PV) (K : PV → Prop) : Prop := match toPD v with
  | some d => d.showable = true ∧ d.depth ≤ 60 ∧ d.shown.length ≤ sizeLine ∧ K (.str d.shown)
  | none => False
theorem ev_rep (a : Mi.E) : evE Γ (.rep a) ρ μ K X = evE Γ a ρ μ (fun va μ1 => repK va.fz fun v => K v μ1) X := by simp only [evE, repK] <;> rfl
theorem ev_refd (w : Str) (e : Mi.E) : evE Γ (.refd w e) ρ μ K X = Γ.refd w e ρ μ K X := by simp only [evE] <;> rfl
theorem ev_caught (e : Mi.E) : evE Γ (.caught e) ρ μ K X = Γ.lam e ρ μ (fun _ μ1 => K .non μ1) fun v μ1 => ∃ c fs vs, v = .exc c fs vs ∧ Γ.sub c "StepError" = some true ∧ K v μ1 := by simp only [evE] <;> rfl
def calK (Γ : Gam) (v : PV) (K : (List PV → Mu → KE → KE → Prop) → Prop) : Prop := match v with
  | .fn f => Γ.isf f = true ∧ K (Γ.call f)
  | .clo k [] => K (Γ.clo k)
  | _ => False
theorem calK_fn {f : Str} {K : (List PV → Mu → KE → KE → Prop) → Prop} : calK Γ (.fn f) K = (Γ.isf f = true ∧ K (Γ.call f)) := rfl
theorem calK_clo {k : Nat} {K : (List PV → Mu → KE → KE → Prop) → Prop} : calK Γ (.clo k []) K = K (Γ.clo k) := rfl
theorem ev_callv (i : Nat) (es : Es) : evE Γ (.callv i es) ρ μ K X = varK ρ[i]? fun v => calK Γ v fun c => evEs Γ es ρ μ (fun vs μ1 => c vs μ1 K X) X := by
  simp only [evE, varK]
  generalize ρ[i]? = o
  rcases o with _ | _ | v
  · rfl
  · rfl
  · cases v with
    | clo k l => cases l <;> simp [calK, PV.own]
    | _ => simp [calK, PV.own]
theorem ev_lamv (k : Nat) : evE Γ (.lamv k) ρ μ K X = K (.clo k []) μ := by simp only [evE] <;> rfl
theorem ev_fnv (f : Str) : evE Γ (.fnv f) ρ μ K X = K (.fn f) μ := by simp only [evE] <;> rfl
theorem ev_sleft (i : Nat) : evE Γ (.sleft i) ρ μ K X = optK (stAt ρ μ i) fun q => K (.int q.2.2.2.1) μ := by
  simp only [evE, optK]; generalize stAt ρ μ i = o; rcases o with _ | ⟨_, _, _, _, _⟩ <;> rfl
theorem ev_sturn (i : Nat) : evE Γ (.sturn i) ρ μ K X = optK (stAt ρ μ i) fun q => K (.int q.2.2.2.2) μ := by
  simp only [evE, optK]; generalize stAt ρ μ i = o; rcases o with _ | ⟨_, _, _, _, _⟩ <;> rfl
theorem els_nil {K : List PV → Mu → Prop} : evEs Γ .nil ρ μ K X = K [] μ := by simp only [evEs] <;> rfl
theorem els_cons (e : Mi.E) (es : Es) {K : List PV → Mu → Prop} : evEs Γ (.cons e es) ρ μ K X = evE Γ e ρ μ (fun v μ1 => evEs Γ es ρ μ1 (fun vs μ2 => K (v.fz :: vs) μ2) X) X := by simp only [evEs] <;> rfl
theorem er_nil {K : List PV → Mu → Prop} : evR Γ .nil ρ μ K X = K [] μ := by simp only [evR] <;> rfl
theorem er_cons (e : Mi.E) (es : Es) {K : List PV → Mu → Prop} : evR Γ (.cons e es) ρ μ K X = evE Γ e ρ μ (fun v μ1 => evR Γ es ρ μ1 (fun vs μ2 => K (v :: vs) μ2) X) X := by simp only [evR] <;> rfl
theorem eo_no {K : Option Int → Mu → Prop} : evO Γ .no ρ μ K X = K none μ := by simp only [evO] <;> rfl
theorem eo_yes (e : Mi.E) {K : Option Int → Mu → Prop} : evO Γ (.yes e) ρ μ K X = evE Γ e ρ μ (fun v μ1 => intK v fun i => K (some i) μ1) X := by simp only [evO, intK] <;> rfl
theorem ec_no {K : Bool → Mu → Prop} : evC Γ .no ρ μ K = K true μ := by simp only [evC] <;> rfl
theorem ec_yes (e : Mi.E) {K : Bool → Mu → Prop} : evC Γ (.yes e) ρ μ K = evE Γ e ρ μ (fun v μ1 => trK v fun b => K b μ1) noX := by simp only [evC] <;> rfl
theorem sr_ex (e : Mi.E) {K : List PV → Mu → Prop} : evS Γ (.ex e) ρ μ K X = evE Γ e ρ μ (fun v μ1 => optK (walkOf v.fz) fun xs => K xs μ1) X := by
  simp only [evS]; congr 1; funext v μ1; generalize walkOf v.fz = o; cases o <;> rfl
theorem sr_cells (i : Nat) {K : List PV → Mu → Prop} : evS Γ (.cells i) ρ μ K X = optK (stAt ρ μ i) fun q => K (q.2.2.1.map PV.int) μ := by
  simp only [evS, optK]; generalize stAt ρ μ i = o; rcases o with _ | ⟨_, _, _, _, _⟩ <;> rfl
theorem sr_rng1 (es : Es) {K : List PV → Mu → Prop} : evS Γ (.rng1 es) ρ μ K X = evEs Γ es ρ μ (fun vs μ1 => rngK1 vs fun xs => K xs μ1) X := by simp only [evS] <;> rfl
theorem sr_rng2 (es : Es) {K : List PV → Mu → Prop} : evS Γ (.rng2 es) ρ μ K X = evEs Γ es ρ μ (fun vs μ1 => rngK2 vs fun xs => K xs μ1) X := by simp only [evS] <;> rfl
theorem sr_zip (es : Es) {K : List PV → Mu → Prop} : evS Γ (.zip es) ρ μ K X = evEs Γ es ρ μ (fun vs μ1 => zipK vs fun xs => K xs μ1) X := by simp only [evS] <;> rfl
theorem sr_enum (es : Es) {K : List PV → Mu → Prop} : evS Γ (.enum es) ρ μ K X = evEs Γ es ρ μ (fun vs μ1 => enumK vs fun xs => K xs μ1) X := by simp only [evS] <;> rfl
theorem ea_one (e : Mi.E) {K : Bool → Mu → Prop} : evAnd Γ (.cons e .nil) ρ μ K X = evE Γ e ρ μ (fun v μ1 => blK v fun b => K b μ1) X := by simp only [evAnd] <;> rfl
theorem ea_cons (e d : Mi.E) (es : Es) {K : Bool → Mu → Prop} : evAnd Γ (.cons e (.cons d es)) ρ μ K X = evE Γ e ρ μ (fun v μ1 => blK v fun b => if b then evAnd Γ (.cons d es) ρ μ1 K X else K false μ1) X := by simp only [evAnd] <;> rfl
theorem eor_one (e : Mi.E) {K : Bool → Mu → Prop} : evOr Γ (.cons e .nil) ρ μ K X = evE Γ e ρ μ (fun v μ1 => blK v fun b => K b μ1) X := by simp only [evOr] <;> rfl
theorem eor_cons (e d : Mi.E) (es : Es) {K : Bool → Mu → Prop} : evOr Γ (.cons e (.cons d es)) ρ μ K X = evE Γ e ρ μ (fun v μ1 => blK v fun b => if b then K true μ1 else evOr Γ (.cons d es) ρ μ1 K X) X := by simp only [evOr] <;> rfl
/-! ### statements -/
variable {A : EndP}
theorem ss_nil : exSs Γ .nil ρ μ A = A.nx ρ μ := by simp only [exSs] <;> rfl
theorem ss_cons (s : S) (r : Ss) : exSs Γ (.cons s r) ρ μ A = exS Γ s ρ μ { A with nx := fun ρ1 μ1 => exSs Γ r ρ1 μ1 A } := by simp only [exSs] <;> rfl
theorem st_asg (i : Nat) (e : Mi.E) : exS Γ (.asg i e) ρ μ A = evE Γ e ρ μ (fun v μ1 => A.nx (ρ.set i (some v)) μ1) A.xx := by simp only [exS] <;> rfl
theorem st_asgT (is : List Nat) (e : Mi.E) : exS Γ (.asgT is e) ρ μ A = evE Γ e ρ μ (fun v μ1 => tupK v fun vs => optK (setAll ρ is vs) fun ρ1 => A.nx ρ1 μ1) A.xx := by
  simp only [exS]; congr 1; funext v μ1; cases v <;> try rfl
  rename_i vs; simp only [tupK]; generalize setAll ρ is vs = o; cases o <;> rfl
theorem st_par (is : List Nat) (es : Es) : exS Γ (.par is es) ρ μ A = evR Γ es ρ μ (fun vs μ1 => optK (setAll ρ is vs) fun ρ1 => A.nx ρ1 μ1) A.xx := by
  simp only [exS]; congr 1; funext vs μ1; generalize setAll ρ is vs = o; cases o <;> rfl
def nlsK (o : Option (Option PV)) (K : List PV → Prop) : Prop := match o with
  | some (some (.nls vs)) => K vs
  | _ => False
theorem st_setIx (i : Nat) (a e : Mi.E) : exS Γ (.setIx i a e) ρ μ A = evE Γ e ρ μ (fun v μ1 => nlsK ρ[i]? fun vs => evE Γ a ρ μ1 (fun k μ2 => intK k fun k => optK (ixN vs.length k) fun j => A.nx (ρ.set i (some (.nls (vs.set j v.fz)))) μ2) A.xx) A.xx := by
  simp only [exS]; congr 1; funext v μ1; generalize ρ[i]? = o
  rcases o with _ | _ | u
  · rfl
  · rfl
  · cases u <;> try rfl
    rename_i vs
    simp only [nlsK]; congr 1; funext k μ2; cases k <;> try rfl
    rename_i k
    simp only [intK]; generalize ixN vs.length k = o; cases o <;> rfl
theorem st_app (i : Nat) (e : Mi.E) : exS Γ (.app i e) ρ μ A = nlsK ρ[i]? fun vs => evE Γ e ρ μ (fun v μ1 => vs.length < sizeLine ∧ A.nx (ρ.set i (some (.nls (vs ++ [v.fz])))) μ1) A.xx := by simp only [exS, nlsK] <;> rfl
theorem st_appPop (i j : Nat) (e : Mi.E) : exS Γ (.appPop i j e) ρ μ A = nlsK ρ[i]? fun vs => nlsK ρ[j]? fun us => evE Γ e ρ μ (fun k μ1 => intK k fun k => i ≠ j ∧ vs.length < sizeLine ∧ (0 ≤ k ∧ k < 2 ^ 63) ∧ optK us[k.toNat]? fun u => A.nx ((ρ.set j (some (.nls (us.eraseIdx k.toNat)))).set i (some (.nls (vs ++ [u])))) μ1) A.xx := by
  simp only [exS, nlsK, intK, optK]
  generalize ρ[i]? = o
  generalize ρ[j]? = p
  rcases o with _ | _ | v
  · rfl
  · rfl
  · cases v <;> try rfl
    rcases p with _ | _ | u
    · rfl
    · rfl
    · cases u <;> try rfl
      rename_i vs us
      simp only []
      congr 1; funext k μ1; cases k <;> try rfl
      rename_i k
      simp only []
      generalize us[k.toNat]? = o
      cases o <;> rfl
theorem st_ex (e : Mi.E) : exS Γ (.ex e) ρ μ A = evE Γ e ρ μ (fun _ μ1 => A.nx ρ μ1) A.xx := by simp only [exS] <;> rfl
theorem st_ret (e : Mi.E) : exS Γ (.ret e) ρ μ A = evE Γ e ρ μ A.rt A.xx := by simp only [exS] <;> rfl
theorem st_retv (i : Nat) : exS Γ (.retv i) ρ μ A = pkK ρ[i]? fun v => A.rt v μ := by
  simp only [exS, pkK]; generalize ρ[i]? = o; rcases o with _ | _ | v
  · rfl
  · rfl
  · cases v <;> simp [PV.isNin]
theorem st_retN : exS Γ .retN ρ μ A = A.rt .non μ := by simp only [exS] <;> rfl
theorem st_ifs (c : Mi.E) (a b : Ss) : exS Γ (.ifs c a b) ρ μ A = evE Γ c ρ μ (fun v μ1 => trK v fun r => if r then exSs Γ a ρ μ1 A else exSs Γ b ρ μ1 A) A.xx := by simp only [exS, evT] <;> rfl
theorem st_fors (tg : Tg) (s : Sr) (b : Ss) : exS Γ (.fors tg s b) ρ μ A = evS Γ s ρ μ (fun xs μ1 => forE Γ tg b xs ρ μ1 A) A.xx := by simp only [exS, forE] <;> rfl
def whE (Γ : Gam) (c : Mi.E) (b : Ss) (ρ : Env) (μ : Mu) (A : EndP) : Prop := ∃ n, whL (evT Γ c) (fun ρ2 μ2 A2 => exSs Γ b ρ2 μ2 A2) n ρ μ A
theorem st_whs (c : Mi.E) (b : Ss) : exS Γ (.whs c b) ρ μ A = whE Γ c b ρ μ A := by simp only [exS, whE] <;> rfl
theorem st_rai (c : Str) : exS Γ (.rai c) ρ μ A = A.xx (.exc c [] []) μ := by simp only [exS] <;> rfl
theorem st_rai1 (c : Str) (e : Mi.E) : exS Γ (.rai1 c e) ρ μ A = evE Γ e ρ μ (fun v μ1 => A.xx (.exc c [Γ.fld c] [v.fz]) μ1) A.xx := by simp only [exS] <;> rfl
theorem st_pass : exS Γ .pass ρ μ A = A.nx ρ μ := by simp only [exS] <;> rfl
theorem st_brk : exS Γ .brk ρ μ A = A.bk ρ μ := by simp only [exS] <;> rfl
theorem st_cnt : exS Γ .cnt ρ μ A = A.ct ρ μ := by simp only [exS] <;> rfl
theorem st_frz (is : List Nat) : exS Γ (.frz is) ρ μ A = A.nx (freeze ρ is) μ := by simp only [exS] <;> rfl
def augK (o : Option (Option PV)) (K : Int → Prop) : Prop := match o with
  | some (some (.int u)) => K u
  | _ => False
theorem st_aug (i : Nat) (o : Op) (e : Mi.E) : exS Γ (.aug i o e) ρ μ A = augK ρ[i]? fun u => evE Γ e ρ μ (fun v μ1 => intK v fun j => A.nx (ρ.set i (some (.int (augf o u j)))) μ1) A.xx := by simp only [exS, augK, intK] <;> rfl
end
/-! ### values that are known -/
section
variable {K : PV → Prop}
theorem pkK_v {v : PV} (h : v.isNin = false) : pkK (some (some v)) K = K v := by simp [pkK, h]
theorem varK_v {v : PV} (h : v.own = false) : varK (some (some v)) K = K v := by simp [varK, h]
theorem pk_non : pkK (some (some .non)) K = K .non := pkK_v rfl
theorem vr_non : varK (some (some .non)) K = K .non := varK_v rfl
theorem pk_bl (b : Bool) : pkK (some (some (.bl b))) K = K (.bl b) := pkK_v rfl
theorem vr_bl (b : Bool) : varK (some (some (.bl b))) K = K (.bl b) := varK_v rfl
theorem pk_int (i : Int) : pkK (some (some (.int i))) K = K (.int i) := pkK_v rfl
theorem vr_int (i : Int) : varK (some (some (.int i))) K = K (.int i) := varK_v rfl
theorem pk_str (x : Str) : pkK (some (some (.str x))) K = K (.str x) := pkK_v rfl
theorem vr_str (x : Str) : varK (some (some (.str x))) K = K (.str x) := varK_v rfl
theorem pk_tup (vs : List PV) : pkK (some (some (.tup vs))) K = K (.tup vs) := pkK_v rfl
theorem vr_tup (vs : List PV) : varK (some (some (.tup vs))) K = K (.tup vs) := varK_v rfl
theorem pk_lst (vs : List PV) : pkK (some (some (.lst vs))) K = K (.lst vs) := pkK_v rfl
theorem vr_lst (vs : List PV) : varK (some (some (.lst vs))) K = K (.lst vs) := varK_v rfl
theorem pk_dct (ks vs : List PV) : pkK (some (some (.dct ks vs))) K = K (.dct ks vs) := pkK_v rfl
theorem vr_dct (ks vs : List PV) : varK (some (some (.dct ks vs))) K = K (.dct ks vs) := varK_v rfl
theorem pk_ins (c : Str) (fs : List Str) (vs : List PV) : pkK (some (some (.ins c fs vs))) K = K (.ins c fs vs) := pkK_v rfl
theorem vr_ins (c : Str) (fs : List Str) (vs : List PV) : varK (some (some (.ins c fs vs))) K = K (.ins c fs vs) := varK_v rfl
theorem pk_exc (c : Str) (fs : List Str) (vs : List PV) : pkK (some (some (.exc c fs vs))) K = K (.exc c fs vs) := pkK_v rfl
theorem vr_exc (c : Str) (fs : List Str) (vs : List PV) : varK (some (some (.exc c fs vs))) K = K (.exc c fs vs) := varK_v rfl
theorem pk_clo (k : Nat) (l : List PV) : pkK (some (some (.clo k l))) K = K (.clo k l) := pkK_v rfl
theorem vr_clo (k : Nat) (l : List PV) : varK (some (some (.clo k l))) K = K (.clo k l) := varK_v rfl
theorem pk_fn (f : Str) : pkK (some (some (.fn f))) K = K (.fn f) := pkK_v rfl
theorem vr_fn (f : Str) : varK (some (some (.fn f))) K = K (.fn f) := varK_v rfl
theorem pk_obj (k : Nat) : pkK (some (some (.obj k))) K = K (.obj k) := pkK_v rfl
theorem vr_obj (k : Nat) : varK (some (some (.obj k))) K = K (.obj k) := varK_v rfl
theorem pk_scr (ns : List Int) : pkK (some (some (.scr ns))) K = K (.scr ns) := pkK_v rfl
theorem vr_scr (ns : List Int) : varK (some (some (.scr ns))) K = K (.scr ns) := varK_v rfl
theorem pk_nls (vs : List PV) : pkK (some (some (.nls vs))) K = K (.nls vs) := pkK_v rfl
theorem nlsK_v {vs : List PV} {K : List PV → Prop} : nlsK (some (some (.nls vs))) K = K vs := rfl
theorem augK_v {u : Int} {K : Int → Prop} : augK (some (some (.int u))) K = K u := rfl
theorem optK_some {α : Type} {v : α} {K : α → Prop} : optK (some v) K = K v := rfl
theorem optK_none {α : Type} {K : α → Prop} : optK none K = False := rfl
theorem intK_v {i : Int} {K : Int → Prop} : intK (.int i) K = K i := rfl
theorem tupK_v {vs : List PV} {K : List PV → Prop} : tupK (.tup vs) K = K vs := rfl
theorem blK_v {b : Bool} {K : Bool → Prop} : blK (.bl b) K = K b := rfl
theorem trK_bl {b : Bool} {K : Bool → Prop} : trK (.bl b) K = K b := rfl
theorem trK_int {i : Int} {K : Bool → Prop} : trK (.int i) K = K (i != 0) := rfl
theorem bin_add {i j : Int} : binK .add (.int i) (.int j) K = K (.int (i + j)) := rfl
theorem bin_sub {i j : Int} : binK .sub (.int i) (.int j) K = K (.int (i - j)) := rfl
theorem bin_mul {i j : Int} : binK .mul (.int i) (.int j) K = (IntMulOk i j ∧ K (.int (i * j))) := rfl
theorem bin_fdiv {i j : Int} : binK .fdiv (.int i) (.int j) K = (j ≠ 0 ∧ Builtin.divisionGoesByPylong i j = false ∧ K (.int (i.fdiv j))) := rfl
theorem bin_mod {i j : Int} : binK .mod (.int i) (.int j) K = (j ≠ 0 ∧ K (.int (i.fmod j))) := rfl
theorem bin_pow {i j : Int} : binK .pow (.int i) (.int j) K = (CPow i j ∧ K (.int (i ^ j.toNat))) := rfl
theorem bin_addS {i j : Str} : binK .add (.str i) (.str j) K = (i.length + j.length ≤ sizeLine ∧ K (.str (i ++ j))) := rfl
theorem bin_addT {i j : List PV} : binK .add (.tup i) (.tup j) K = (i.length + j.length ≤ sizeLine ∧ K (.tup (i ++ j))) := rfl
theorem bin_addL {i j : List PV} : binK .add (.lst i) (.lst j) K = (i.length + j.length ≤ sizeLine ∧ K (.nls (i ++ j))) := rfl
theorem bin_mulL {xs : List PV} {k : Int} : binK .mul (.lst xs) (.int k) K = (-(2 ^ 63) ≤ k ∧ k < 2 ^ 63 ∧ xs.length * k.toNat ≤ sizeLine ∧ K (.nls (List.replicate k.toNat xs).flatten)) := rfl
theorem bin_mulT {xs : List PV} {k : Int} : binK .mul (.tup xs) (.int k) K = ((xs ≠ [] ∧ 1 ≤ k ∧ k ≤ 1000 ∧ xs.length ≤ 1000) ∧ K (.tup (List.replicate k.toNat xs).flatten)) := rfl
theorem cmp_lt {i j : Int} {K : Bool → Prop} : cmpK .lt (.int i) (.int j) K = K (decide (i < j)) := rfl
theorem cmp_le {i j : Int} {K : Bool → Prop} : cmpK .le (.int i) (.int j) K = K (decide (i ≤ j)) := rfl
theorem cmp_gt {i j : Int} {K : Bool → Prop} : cmpK .gt (.int i) (.int j) K = K (decide (j < i)) := rfl
theorem cmp_ge {i j : Int} {K : Bool → Prop} : cmpK .ge (.int i) (.int j) K = K (decide (j ≤ i)) := rfl
theorem cmp_eq {a b : PV} {K : Bool → Prop} : cmpK .eq a b K = eqK a b K := rfl
theorem cmp_ne {a b : PV} {K : Bool → Prop} : cmpK .ne a b K = eqK a b fun r => K (!r) := rfl
theorem bi_lenT {xs : List PV} : biK .len [.tup xs] K = K (.int xs.length) := rfl
theorem bi_lenL {xs : List PV} : biK .len [.lst xs] K = K (.int xs.length) := rfl
theorem bi_lenC {xs : List Int} : biK .len [.scr xs] K = K (.int xs.length) := rfl
theorem bi_lenS {x : Str} : biK .len [.str x] K = (x.length ≤ sizeLine ∧ K (.int x.length)) := rfl
theorem bi_abs {i : Int} : biK .abs [.int i] K = K (.int (i.natAbs : Int)) := by
  show K (.int (if i < 0 then -i else i)) = _
  congr 2; omega
theorem bi_int {i : Int} : biK .int [.int i] K = K (.int i) := rfl
theorem bi_max2 {i j : Int} : biK .max2 [.int i, .int j] K = K (.int (if j > i then j else i)) := rfl
theorem bi_min2 {i j : Int} : biK .min2 [.int i, .int j] K = K (.int (if j < i then j else i)) := rfl
theorem bi_tupL {xs : List PV} : biK .tuple [.lst xs] K = K (.tup xs) := rfl
theorem bi_tupT {xs : List PV} : biK .tuple [.tup xs] K = K (.tup xs) := rfl
theorem bi_lstL {xs : List PV} : biK .list [.lst xs] K = K (.nls xs) := rfl
theorem bi_lstT {xs : List PV} : biK .list [.tup xs] K = K (.nls xs) := rfl
theorem ix_tup {vs : List PV} {i : Int} : ixK (.tup vs) (.int i) K = optK (atI vs i) K := by
  simp only [ixK, itemsOf, Option.bind_some]; generalize atI vs i = o; cases o <;> rfl
theorem ix_lst {vs : List PV} {i : Int} : ixK (.lst vs) (.int i) K = optK (atI vs i) K := by
  simp only [ixK, itemsOf, Option.bind_some]; generalize atI vs i = o; cases o <;> rfl
theorem sl_tup {xs : List PV} {l h : Option Int} : slK (.tup xs) l h K = K (.tup ((xs.drop (HT.sIx xs.length 0 l)).take (HT.sIx xs.length xs.length h - HT.sIx xs.length 0 l))) := rfl
theorem sl_lst {xs : List PV} {l h : Option Int} : slK (.lst xs) l h K = K (.nls ((xs.drop (HT.sIx xs.length 0 l)).take (HT.sIx xs.length xs.length h - HT.sIx xs.length 0 l))) := rfl
theorem slS_lst {xs : List PV} {l h : Option Int} {k : Int} : slSK (.lst xs) l h (.int k) K = (k ≠ 0 ∧ K (.nls (stepV xs l h k))) := rfl
theorem rev_tup {xs : List PV} : revK (.tup xs) K = K (.tup xs.reverse) := rfl
theorem rev_lst {xs : List PV} : revK (.lst xs) K = K (.nls xs.reverse) := rfl
theorem walk_tup {xs : List PV} : walkOf (.tup xs) = some xs := rfl
theorem walk_lst {xs : List PV} : walkOf (.lst xs) = some xs := rfl
theorem walk_scr {xs : List Int} : walkOf (.scr xs) = some (xs.map PV.int) := rfl
theorem rng1_v {n : Int} {K : List PV → Prop} : rngK1 [.int n] K = ((-(2 ^ 62) ≤ n ∧ n < 2 ^ 62) ∧ K (rngL 0 n.toNat)) := rfl
theorem rng2_v {m n : Int} {K : List PV → Prop} : rngK2 [.int m, .int n] K = ((-(2 ^ 62) ≤ m ∧ m < 2 ^ 62 ∧ -(2 ^ 62) ≤ n ∧ n < 2 ^ 62) ∧ K (rngL m (n - m).toNat)) := rfl
theorem zip_lst {xs ys : List PV} {K : List PV → Prop} : zipK [.lst xs, .lst ys] K = K (xs.zipWith (fun x y => PV.tup [x, y]) ys) := rfl
theorem zip_tup {xs ys : List PV} {K : List PV → Prop} : zipK [.tup xs, .tup ys] K = K (xs.zipWith (fun x y => PV.tup [x, y]) ys) := rfl
theorem enum_tup {xs : List PV} {K : List PV → Prop} : enumK [.tup xs] K = K (enumL 0 xs) := rfl
theorem bi_reprI {i : Int} : biK .repr [.int i] K = (i.natAbs.log2 < 1920 ∧ K (.str (toString i))) := rfl
theorem enum_lst {xs : List PV} {K : List PV → Prop} : enumK [.lst xs] K = K (enumL 0 xs) := rfl
end
theorem ixN_of {n : Nat} {i : Int} (h0 : 0 ≤ i) (h1 : i < n) : ixN n i = some i.toNat := by simp [ixN, h0, h1]
theorem atI_of {α : Type} {xs : List α} {i : Int} (h0 : 0 ≤ i) (h1 : i < xs.length) : atI xs i = xs[i.toNat]? := by
  unfold atI
  rw [ixN_of h0 h1]; rfl
theorem atI_0 {α : Type} {x : α} {xs : List α} : atI (x :: xs) 0 = some x := by rw [atI_of (by omega) (by simp only [List.length_cons]; omega)]; rfl
theorem atI_1 {α : Type} {x y : α} {xs : List α} : atI (x :: y :: xs) 1 = some y := by rw [atI_of (by omega) (by simp only [List.length_cons]; omega)]; rfl
theorem atI_2 {α : Type} {x y z : α} {xs : List α} : atI (x :: y :: z :: xs) 2 = some z := by rw [atI_of (by omega) (by simp only [List.length_cons]; omega)]; rfl
theorem le_size {n : Nat} (h : n ≤ 1000000) : n ≤ sizeLine := Nat.le_trans h (by decide)
theorem lt_size {n : Nat} (h : n ≤ 1000000) : n < sizeLine := Nat.lt_of_le_of_lt h (by decide)
/-! ### equality of plain data -/
section
theorem eqK_int {a b : Int} {K : Bool → Prop} : eqK (.int a) (.int b) K = K (decide (a = b)) := by
  simp [eqK, toPD, SeqAt.shaped, PyData.canLay0, PyData.depth, PyData.eqv, BEq.beq]
theorem intsOf_ints : ∀ ns : List Int, intsOf (ns.map PV.int) = some ns
  | [] => rfl
  | n :: ns => by simp [intsOf, intsOf_ints ns]
theorem toPDs_ints : ∀ ns : List Int, toPDs (ns.map PV.int) = some (ns.map PyData.int)
  | [] => rfl
  | n :: ns => by simp [toPDs, toPD, toPDs_ints ns]
theorem lay_ints : ∀ ns : List Int, PyData.canLayAll0 (ns.map PyData.int) = true
  | [] => rfl
  | n :: ns => by simp [PyData.canLayAll0, PyData.canLay0, lay_ints ns]
theorem dep_ints : ∀ ns : List Int, PyData.depthAll (ns.map PyData.int) ≤ 1
  | [] => by simp [PyData.depthAll]
  | n :: ns => by
    have := dep_ints ns
    simp [PyData.depthAll, PyData.depth]; omega
theorem eqv_ints : ∀ as bs : List Int, PyData.eqvAll (as.map PyData.int) (bs.map PyData.int) = decide (as = bs)
  | [], [] => rfl
  | [], _ :: _ => rfl
  | _ :: _, [] => rfl
  | a :: as, b :: bs => by
    simp only [List.map_cons, PyData.eqvAll, PyData.eqv, eqv_ints as bs, List.cons.injEq]
    by_cases h : a = b <;> simp [h, BEq.beq]
theorem eqK_lst {a b : List Int} {K : Bool → Prop} : eqK (.lst (a.map PV.int)) (.lst (b.map PV.int)) K = K (decide (a = b)) := by
  have h1 := dep_ints a
  have h2 := dep_ints b
  have h3 : PyData.depthAll (a.map PyData.int) ≤ 63 := by omega
  have h4 : PyData.depthAll (b.map PyData.int) ≤ 63 := by omega
  simp [eqK, toPD, toPDs_ints, SeqAt.shaped, PyData.canLay0, lay_ints, PyData.depth, PyData.eqv, eqv_ints, h3, h4]
theorem eqK_tup {a b : List Int} {K : Bool → Prop} : eqK (.tup (a.map PV.int)) (.tup (b.map PV.int)) K = K (decide (a = b)) := by
  have h1 := dep_ints a
  have h2 := dep_ints b
  have h3 : PyData.depthAll (a.map PyData.int) ≤ 63 := by omega
  have h4 : PyData.depthAll (b.map PyData.int) ≤ 63 := by omega
  simp [eqK, toPD, toPDs_ints, SeqAt.shaped, PyData.canLay0, lay_ints, PyData.depth, PyData.eqv, eqv_ints, h3, h4]
theorem eqK_two {a b c d : Int} {K : Bool → Prop} : eqK (.tup [.int a, .int b]) (.tup [.int c, .int d]) K = K (decide ((a, b) = (c, d))) := by
  have := eqK_tup (a := [a, b]) (b := [c, d]) (K := K)
  simp only [List.map_cons, List.map_nil] at this
  rw [this]
  congr 1
  simp
theorem eqK_nil {a : List Int} {K : Bool → Prop} : eqK (.lst (a.map PV.int)) (.lst []) K = K (decide (a = [])) := eqK_lst (b := [])
end
theorem noPy {i j : Int} (h : j.natAbs < 2 ^ 8999) : Builtin.divisionGoesByPylong i j = false := PyProof.noPylong_of_log2 (by
  by_cases z : j.natAbs = 0
  · rw [z]; decide
  · exact (Nat.log2_lt z).mpr (Nat.lt_trans h (Nat.pow_lt_pow_right (by decide) (by decide))))
theorem noPyS {i j : Int} (h : j.natAbs < 1073741824) : Builtin.divisionGoesByPylong i j = false := PyProof.noPylong_small h
theorem mulOk_r {i j : Int} (h1 : -(2 ^ 64) < j) (h2 : j < 2 ^ 64) : IntMulOk i j := .of_right (intBits_le_64 h1 h2)
theorem mulOk_l {i j : Int} (h1 : -(2 ^ 64) < i) (h2 : i < 2 ^ 64) : IntMulOk i j := .of_left (intBits_le_64 h1 h2)
theorem bits_le {k : Int} {n : Nat} (h : k.natAbs < 2 ^ n) : Builtin.Int.intBits k ≤ n := by
  unfold Builtin.Int.intBits
  split
  · exact Nat.zero_le _
  · rename_i z
    have hz : k.natAbs ≠ 0 := by
      intro e
      have : k = 0 := by omega
      subst this
      exact z rfl
    have := (Nat.log2_lt hz).mpr h
    omega
theorem mulOk_n {i j : Int} {m n : Nat} (h1 : i.natAbs < 2 ^ m) (h2 : j.natAbs < 2 ^ n) (h : m ≤ 2 ^ 20 ∧ n ≤ 2 ^ 20) : IntMulOk i j := .of_bits (Nat.le_trans (bits_le h1) h.1) (Nat.le_trans (bits_le h2) h.2)
theorem isi_non_bool {Γ : Gam} : isinF Γ .non (.bi "bool") = some false := by simp (decide := true) [isinF, tyOf, isinTy, askNames, subTy]
theorem isi_non_int {Γ : Gam} : isinF Γ .non (.bi "int") = some false := by simp (decide := true) [isinF, tyOf, isinTy, askNames, subTy]
theorem isi_non_str {Γ : Gam} : isinF Γ .non (.bi "str") = some false := by simp (decide := true) [isinF, tyOf, isinTy, askNames, subTy]
theorem isi_non_tuple {Γ : Gam} : isinF Γ .non (.bi "tuple") = some false := by simp (decide := true) [isinF, tyOf, isinTy, askNames, subTy]
theorem isi_non_list {Γ : Gam} : isinF Γ .non (.bi "list") = some false := by simp (decide := true) [isinF, tyOf, isinTy, askNames, subTy]
theorem isi_non_dict {Γ : Gam} : isinF Γ .non (.bi "dict") = some false := by simp (decide := true) [isinF, tyOf, isinTy, askNames, subTy]
theorem isi_non_ValueError {Γ : Gam} : isinF Γ .non (.bi "ValueError") = some false := by simp (decide := true) [isinF, tyOf, isinTy, askNames, subTy]
theorem isi_bl_bool {Γ : Gam} {b : Bool} : isinF Γ (.bl b) (.bi "bool") = some true := by simp (decide := true) [isinF, tyOf, isinTy, askNames, subTy]
theorem isi_bl_int {Γ : Gam} {b : Bool} : isinF Γ (.bl b) (.bi "int") = some true := by simp (decide := true) [isinF, tyOf, isinTy, askNames, subTy]
theorem isi_bl_str {Γ : Gam} {b : Bool} : isinF Γ (.bl b) (.bi "str") = some false := by simp (decide := true) [isinF, tyOf, isinTy, askNames, subTy]
theorem isi_bl_tuple {Γ : Gam} {b : Bool} : isinF Γ (.bl b) (.bi "tuple") = some false := by simp (decide := true) [isinF, tyOf, isinTy, askNames, subTy]
theorem isi_bl_list {Γ : Gam} {b : Bool} : isinF Γ (.bl b) (.bi "list") = some false := by simp (decide := true) [isinF, tyOf, isinTy, askNames, subTy]
theorem isi_bl_dict {Γ : Gam} {b : Bool} : isinF Γ (.bl b) (.bi "dict") = some false := by simp (decide := true) [isinF, tyOf, isinTy, askNames, subTy]
theorem isi_bl_ValueError {Γ : Gam} {b : Bool} : isinF Γ (.bl b) (.bi "ValueError") = some false := by simp (decide := true) [isinF, tyOf, isinTy, askNames, subTy]
theorem isi_int_bool {Γ : Gam} {i : Int} : isinF Γ (.int i) (.bi "bool") = some false := by simp (decide := true) [isinF, tyOf, isinTy, askNames, subTy]
theorem isi_int_int {Γ : Gam} {i : Int} : isinF Γ (.int i) (.bi "int") = some true := by simp (decide := true) [isinF, tyOf, isinTy, askNames, subTy]
theorem isi_int_str {Γ : Gam} {i : Int} : isinF Γ (.int i) (.bi "str") = some false := by simp (decide := true) [isinF, tyOf, isinTy, askNames, subTy]
theorem isi_int_tuple {Γ : Gam} {i : Int} : isinF Γ (.int i) (.bi "tuple") = some false := by simp (decide := true) [isinF, tyOf, isinTy, askNames, subTy]
theorem isi_int_list {Γ : Gam} {i : Int} : isinF Γ (.int i) (.bi "list") = some false := by simp (decide := true) [isinF, tyOf, isinTy, askNames, subTy]
theorem isi_int_dict {Γ : Gam} {i : Int} : isinF Γ (.int i) (.bi "dict") = some false := by simp (decide := true) [isinF, tyOf, isinTy, askNames, subTy]
theorem isi_int_ValueError {Γ : Gam} {i : Int} : isinF Γ (.int i) (.bi "ValueError") = some false := by simp (decide := true) [isinF, tyOf, isinTy, askNames, subTy]
theorem isi_str_bool {Γ : Gam} {x : Str} : isinF Γ (.str x) (.bi "bool") = some false := by simp (decide := true) [isinF, tyOf, isinTy, askNames, subTy]
theorem isi_str_int {Γ : Gam} {x : Str} : isinF Γ (.str x) (.bi "int") = some false := by simp (decide := true) [isinF, tyOf, isinTy, askNames, subTy]
theorem isi_str_str {Γ : Gam} {x : Str} : isinF Γ (.str x) (.bi "str") = some true := by simp (decide := true) [isinF, tyOf, isinTy, askNames, subTy]
theorem isi_str_tuple {Γ : Gam} {x : Str} : isinF Γ (.str x) (.bi "tuple") = some false := by simp (decide := true) [isinF, tyOf, isinTy, askNames, subTy]
theorem isi_str_list {Γ : Gam} {x : Str} : isinF Γ (.str x) (.bi "list") = some false := by simp (decide := true) [isinF, tyOf, isinTy, askNames, subTy]
theorem isi_str_dict {Γ : Gam} {x : Str} : isinF Γ (.str x) (.bi "dict") = some false := by simp (decide := true) [isinF, tyOf, isinTy, askNames, subTy]
theorem isi_str_ValueError {Γ : Gam} {x : Str} : isinF Γ (.str x) (.bi "ValueError") = some false := by simp (decide := true) [isinF, tyOf, isinTy, askNames, subTy]
theorem isi_tup_bool {Γ : Gam} {vs : List PV} : isinF Γ (.tup vs) (.bi "bool") = some false := by simp (decide := true) [isinF, tyOf, isinTy, askNames, subTy]
theorem isi_tup_int {Γ : Gam} {vs : List PV} : isinF Γ (.tup vs) (.bi "int") = some false := by simp (decide := true) [isinF, tyOf, isinTy, askNames, subTy]
theorem isi_tup_str {Γ : Gam} {vs : List PV} : isinF Γ (.tup vs) (.bi "str") = some false := by simp (decide := true) [isinF, tyOf, isinTy, askNames, subTy]
theorem isi_tup_tuple {Γ : Gam} {vs : List PV} : isinF Γ (.tup vs) (.bi "tuple") = some true := by simp (decide := true) [isinF, tyOf, isinTy, askNames, subTy]
theorem isi_tup_list {Γ : Gam} {vs : List PV} : isinF Γ (.tup vs) (.bi "list") = some false := by simp (decide := true) [isinF, tyOf, isinTy, askNames, subTy]
theorem isi_tup_dict {Γ : Gam} {vs : List PV} : isinF Γ (.tup vs) (.bi "dict") = some false := by simp (decide := true) [isinF, tyOf, isinTy, askNames, subTy]
theorem isi_tup_ValueError {Γ : Gam} {vs : List PV} : isinF Γ (.tup vs) (.bi "ValueError") = some false := by simp (decide := true) [isinF, tyOf, isinTy, askNames, subTy]
theorem isi_lst_bool {Γ : Gam} {vs : List PV} : isinF Γ (.lst vs) (.bi "bool") = some false := by simp (decide := true) [isinF, tyOf, isinTy, askNames, subTy]
theorem isi_lst_int {Γ : Gam} {vs : List PV} : isinF Γ (.lst vs) (.bi "int") = some false := by simp (decide := true) [isinF, tyOf, isinTy, askNames, subTy]
theorem isi_lst_str {Γ : Gam} {vs : List PV} : isinF Γ (.lst vs) (.bi "str") = some false := by simp (decide := true) [isinF, tyOf, isinTy, askNames, subTy]
theorem isi_lst_tuple {Γ : Gam} {vs : List PV} : isinF Γ (.lst vs) (.bi "tuple") = some false := by simp (decide := true) [isinF, tyOf, isinTy, askNames, subTy]
theorem isi_lst_list {Γ : Gam} {vs : List PV} : isinF Γ (.lst vs) (.bi "list") = some true := by simp (decide := true) [isinF, tyOf, isinTy, askNames, subTy]
theorem isi_lst_dict {Γ : Gam} {vs : List PV} : isinF Γ (.lst vs) (.bi "dict") = some false := by simp (decide := true) [isinF, tyOf, isinTy, askNames, subTy]
theorem isi_lst_ValueError {Γ : Gam} {vs : List PV} : isinF Γ (.lst vs) (.bi "ValueError") = some false := by simp (decide := true) [isinF, tyOf, isinTy, askNames, subTy]
theorem isi_dct_bool {Γ : Gam} {ks vs : List PV} : isinF Γ (.dct ks vs) (.bi "bool") = some false := by simp (decide := true) [isinF, tyOf, isinTy, askNames, subTy]
theorem isi_dct_int {Γ : Gam} {ks vs : List PV} : isinF Γ (.dct ks vs) (.bi "int") = some false := by simp (decide := true) [isinF, tyOf, isinTy, askNames, subTy]
theorem isi_dct_str {Γ : Gam} {ks vs : List PV} : isinF Γ (.dct ks vs) (.bi "str") = some false := by simp (decide := true) [isinF, tyOf, isinTy, askNames, subTy]
theorem isi_dct_tuple {Γ : Gam} {ks vs : List PV} : isinF Γ (.dct ks vs) (.bi "tuple") = some false := by simp (decide := true) [isinF, tyOf, isinTy, askNames, subTy]
theorem isi_dct_list {Γ : Gam} {ks vs : List PV} : isinF Γ (.dct ks vs) (.bi "list") = some false := by simp (decide := true) [isinF, tyOf, isinTy, askNames, subTy]
theorem isi_dct_dict {Γ : Gam} {ks vs : List PV} : isinF Γ (.dct ks vs) (.bi "dict") = some true := by simp (decide := true) [isinF, tyOf, isinTy, askNames, subTy]
theorem isi_dct_ValueError {Γ : Gam} {ks vs : List PV} : isinF Γ (.dct ks vs) (.bi "ValueError") = some false := by simp (decide := true) [isinF, tyOf, isinTy, askNames, subTy]
/-! ### loops -/
theorem forE_ind {Γ : Gam} {tg : Tg} {b : Ss} {A : EndP} (I : List PV → Env → Mu → Prop)
    (step : ∀ x xs ρ μ, I (x :: xs) ρ μ → ∃ ρ1, bindTg tg x ρ = some ρ1 ∧ ∀ N : KN, (∀ ρ2 μ2, I xs ρ2 μ2 → N ρ2 μ2) → exSs Γ b ρ1 μ { A with nx := N, ct := N, bk := A.nx })
    (done : ∀ ρ μ, I [] ρ μ → A.nx ρ μ) : ∀ xs ρ μ, I xs ρ μ → forE Γ tg b xs ρ μ A
  | [], ρ, μ, h => done ρ μ h
  | x :: xs, ρ, μ, h => by
    obtain ⟨ρ1, h1, h2⟩ := step x xs ρ μ h
    unfold forE
    simp only [forL, h1]
    exact h2 _ fun ρ2 μ2 h3 => forE_ind I step done xs ρ2 μ2 h3
/-- over a range -/
theorem forE_rng {Γ : Gam} {i : Nat} {b : Ss} {A : EndP} {lo : Int} {n : Nat} (I : Nat → Env → Mu → Prop)
    (step : ∀ j ρ μ, j < n → I j ρ μ → ∀ N : KN, (∀ ρ2 μ2, I (j + 1) ρ2 μ2 → N ρ2 μ2) → exSs Γ b (ρ.set i (some (.int (lo + j)))) μ { A with nx := N, ct := N, bk := A.nx })
    (done : ∀ ρ μ, I n ρ μ → A.nx ρ μ) {ρ : Env} {μ : Mu} (h : I 0 ρ μ) : forE Γ (.nm i) b (rngL lo n) ρ μ A := by
  have key : ∀ (k j : Nat) (ρ : Env) (μ : Mu), j + k = n → I j ρ μ → forE Γ (.nm i) b (rngL (lo + j) k) ρ μ A := by
    intro k
    induction k with
    | zero =>
      intro j ρ μ e h
      have : j = n := by omega
      subst this
      exact done ρ μ h
    | succ k ih =>
      intro j ρ μ e h
      have hs := step j ρ μ (by omega) h
      unfold forE
      simp only [rngL, forL, bindTg]
      refine hs _ fun ρ2 μ2 h3 => ?_
      have := ih (j + 1) ρ2 μ2 (by omega) h3
      have e2 : lo + ((j + 1 : Nat) : Int) = lo + j + 1 := by omega
      rw [e2] at this
      exact this
  have := key n 0 ρ μ (by omega) h
  simpa using this
theorem compE_ind {Γ : Gam} {tg : Tg} {c : Eo} {e : Mi.E} {ρ : Env} {K : List PV → Mu → Prop} (I : List PV → List PV → Mu → Prop)
    (step : ∀ x xs acc μ, I (x :: xs) acc μ → ∃ ρ1, bindTg tg x ρ = some ρ1 ∧ ∀ N : List PV → Mu → Prop, (∀ acc2 μ2, I xs acc2 μ2 → N acc2 μ2) → evC Γ c ρ1 μ fun b μ1 => if b then evE Γ e ρ1 μ1 (fun v μ2 => acc.length < sizeLine ∧ N (acc ++ [v.fz]) μ2) noX else N acc μ1)
    (done : ∀ acc μ, I [] acc μ → K acc μ) : ∀ xs acc μ, I xs acc μ → compE Γ tg c e ρ xs acc μ K
  | [], acc, μ, h => done acc μ h
  | x :: xs, acc, μ, h => by
    obtain ⟨ρ1, h1, h2⟩ := step x xs acc μ h
    unfold compE
    simp only [compL, h1]
    exact h2 (fun acc2 μ2 => compE Γ tg c e ρ xs acc2 μ2 K) fun acc2 μ2 h3 => compE_ind I step done xs acc2 μ2 h3
/-- each item by itself, nothing changes -/
theorem compE_map {Γ : Gam} {tg : Tg} {e : Mi.E} {ρ : Env} {K : List PV → Mu → Prop} {μ : Mu} {α : Type} (f : α → PV) (g : α → PV) (l : List α) (hl : l.length ≤ sizeLine)
    (step : ∀ x ∈ l, ∃ ρ1, bindTg tg (f x) ρ = some ρ1 ∧ ∀ N : PV → Mu → Prop, (∀ v, v.fz = g x → N v μ) → evE Γ e ρ1 μ N noX) (done : K (l.map g) μ) : compE Γ tg .no e ρ (l.map f) [] μ K := by
  have key : ∀ (l2 l1 : List α), l = l1 ++ l2 → compE Γ tg .no e ρ (l2.map f) (l1.map g) μ K := by
    intro l2
    induction l2 with
    | nil =>
      intro l1 h
      rw [List.append_nil] at h
      subst h
      exact done
    | cons x l2 ih =>
      intro l1 h
      obtain ⟨ρ1, h1, h2⟩ := step x (by rw [h]; simp)
      unfold compE
      simp only [List.map_cons, compL, h1, ec_no]
      rw [if_pos trivial]
      refine h2 _ fun v hv => ⟨?_, ?_⟩
      · have := congrArg List.length h
        simp at this
        rw [List.length_map]
        omega
      · rw [hv]
        have := ih (l1 ++ [x]) (by rw [h]; simp)
        rw [List.map_append] at this
        exact this
  exact key l [] rfl
/-- .., with what is learnt of each -/
theorem compE_mapP {Γ : Gam} {tg : Tg} {e : Mi.E} {ρ : Env} {K : List PV → Mu → Prop} {μ : Mu} {α : Type} (P : α → Prop) (f : α → PV) (g : α → PV) (l : List α) (hl : l.length ≤ sizeLine)
    (step : ∀ x ∈ l, ∃ ρ1, bindTg tg (f x) ρ = some ρ1 ∧ ∀ N : PV → Mu → Prop, (∀ v, v.fz = g x → P x → N v μ) → evE Γ e ρ1 μ N noX) (done : (∀ x ∈ l, P x) → K (l.map g) μ) : compE Γ tg .no e ρ (l.map f) [] μ K := by
  have key : ∀ (l2 l1 : List α), l = l1 ++ l2 → (∀ x ∈ l1, P x) → compE Γ tg .no e ρ (l2.map f) (l1.map g) μ K := by
    intro l2
    induction l2 with
    | nil =>
      intro l1 h hP
      rw [List.append_nil] at h
      subst h
      exact done hP
    | cons x l2 ih =>
      intro l1 h hP
      obtain ⟨ρ1, h1, h2⟩ := step x (by rw [h]; simp)
      unfold compE
      simp only [List.map_cons, compL, h1, ec_no]
      rw [if_pos trivial]
      refine h2 _ fun v hv hx => ⟨?_, ?_⟩
      · have := congrArg List.length h
        simp at this
        rw [List.length_map]
        omega
      · rw [hv]
        have := ih (l1 ++ [x]) (by rw [h]; simp) (fun y hy => by
          rcases List.mem_append.mp hy with hy | hy
          · exact hP y hy
          · rw [List.mem_singleton.mp hy]; exact hx)
        rw [List.map_append] at this
        exact this
  exact key l [] rfl (by simp)
/-- while, by what falls -/
theorem whE_ind {Γ : Gam} {c : Mi.E} {b : Ss} {A : EndP} (I : Env → Mu → Prop) (m : Env → Mu → Nat)
    (step : ∀ ρ μ, I ρ μ → ∀ N : KN, (∀ ρ2 μ2, I ρ2 μ2 → m ρ2 μ2 < m ρ μ → N ρ2 μ2) → evE Γ c ρ μ (fun v μ1 => trK v fun r => if r then exSs Γ b ρ μ1 { A with nx := N, ct := N, bk := A.nx } else A.nx ρ μ1) A.xx)
    {ρ : Env} {μ : Mu} (h : I ρ μ) : whE Γ c b ρ μ A := by
  have key : ∀ (k : Nat) (ρ : Env) (μ : Mu), I ρ μ → m ρ μ < k → whL (evT Γ c) (fun ρ2 μ2 A2 => exSs Γ b ρ2 μ2 A2) k ρ μ A := by
    intro k
    induction k with
    | zero => intro ρ μ _ h; omega
    | succ k ih =>
      intro ρ μ h hm
      exact step ρ μ h _ fun ρ2 μ2 h2 h3 => ih ρ2 μ2 h2 (by omega)
  exact ⟨_, key (m ρ μ + 1) ρ μ h (by omega)⟩
end Mi
end

section
-- MiniP
set_option Elab.async false
set_option linter.all false
set_option maxRecDepth 100000
set_option maxHeartbeats 4000000
/-! Mini, part P: what the laws' own first defs do -/
namespace Mi
open PySem PySem.Spec PyProof.Rows L2
def begun_1 : Ss := (.cons (.mkst 1 (.comp [("cell", 2)] (.nm 2) (.ex (.pk 0)) .no (.bi .abs (.cons (.pk 2) .nil)))) .nil)
def begun_0 : Ss := (.cons (.asg 1 (.comp [("cell", 2)] (.nm 2) (.ex (.pk 0)) (.yes (.cmp .ge (.bi .abs (.cons (.pk 2) .nil)) (.bin .pow (.cint 10) (.cint 18)))) (.bin .sub (.bi .abs (.cons (.pk 2) .nil)) (.bin .pow (.cint 10) (.cint 18))))) begun_1)
def B_law_begun : Fun := ⟨["script"], 3, begun_0⟩
def blended_5 : Ss := (.cons (.asg 4 (.bin .mod (.bi .int (.cons (.bin .add (.bin .add (.bin .mul (.pk 4) (.cint 69621)) (.pk 5)) (.pk 2)) .nil)) (.pk 1))) .nil)
def blended_6 : Ss := (.cons (.asg 3 (.bin .add (.bin .mul (.pk 3) (.cint 2147483647)) (.bin .mod (.bi .int (.cons (.bin .pow (.pk 4) (.cint 5)) .nil)) (.pk 1)))) .nil)
def blended_4 : Ss := (.cons (.fors (.nm 5) (.cells 0)
 blended_5) blended_6)
def blended_3 : Ss := (.cons (.asg 4 (.bin .add (.bin .mul (.cint 39373) (.pk 2)) (.bin .fdiv (.pk 1) (.cint 67)))) blended_4)
def blended_7 : Ss := (.cons (.retv 3) .nil)
def blended_2 : Ss := (.cons (.fors (.nm 1) (.ex (.lst (.cons (.cint 2147482367) (.cons (.cint 2147482361) (.cons (.cint 2147482349) .nil)))))
 blended_3) blended_7)
def blended_1 : Ss := (.cons (.setT 0 (.pk 2)) blended_2)
def blended_0 : Ss := (.cons (.par [2, 3] (.cons (.bin .add (.sturn 0) (.cint 1)) (.cons (.cint 0) .nil))) blended_1)
def B_law_blended : Fun := ⟨["state"], 6, blended_0⟩
def draw_1 : Ss := (.cons (.setL 0 (.ite (.sgreat 0) (.spop 0) (.call "_law_blended" (.cons (.var 0) .nil)))) .nil)
def draw_4 : Ss := (.cons (.retv 2) .nil)
def draw_3 : Ss := (.cons (.setL 0 (.bin .fdiv (.sleft 0) (.pk 1))) draw_4)
def draw_2 : Ss := (.cons (.asg 2 (.bin .mod (.bi .int (.cons (.sleft 0) .nil)) (.pk 1))) draw_3)
def draw_0 : Ss := (.cons (.ifs (.cmp .eq (.sleft 0) (.cint 0))
 draw_1
 .nil) draw_2)
def B_law_draw : Fun := ⟨["state", "size_here"], 3, draw_0⟩
def pick_0 : Ss := (.cons (.ret (.ix (.pk 1) (.call "_law_draw" (.cons (.var 0) (.cons (.bi .len (.cons (.pk 1) .nil)) .nil))))) .nil)
def B_law_pick : Fun := ⟨["state", "several"], 2, pick_0⟩
def mixed_2 : Ss := (.cons (.appPop 3 2 (.call "_law_draw" (.cons (.var 0) (.cons (.bi .len (.cons (.pk 2) .nil)) .nil)))) .nil)
def mixed_3 : Ss := (.cons (.retv 3) .nil)
def mixed_1 : Ss := (.cons (.whs (.cmp .ne (.pk 2) (.lst .nil))
 mixed_2) mixed_3)
def mixed_0 : Ss := (.cons (.par [2, 3] (.cons (.bi .list (.cons (.pk 1) .nil)) (.cons (.lst .nil) .nil))) mixed_1)
def B_law_mixed : Fun := ⟨["state", "several"], 4, mixed_0⟩
structure HasDraw (T : Tab) : Prop where
  pr : ∀ f, T.prim f = none
  begun : T.fn.lookup ("_law_begun" : Str) = some B_law_begun
  blended : T.fn.lookup ("_law_blended" : Str) = some B_law_blended
  draw : T.fn.lookup ("_law_draw" : Str) = some B_law_draw
  pick : T.fn.lookup ("_law_pick" : Str) = some B_law_pick
/-- the world with a source of draws behind W0, at most n numbers mixed so far -/
def StW (W0 : Mu) (n : Nat) (μ : Mu) : Prop := ∃ gs cs l t, μ = W0 ++ [.st gs cs l t] ∧ 0 ≤ l ∧ (∀ g ∈ gs, 0 ≤ g) ∧ (∀ c ∈ cs, 0 ≤ c) ∧ 0 ≤ t ∧ t ≤ n
theorem StW.mono {W0 μ : Mu} {n m : Nat} (h : StW W0 n μ) (hm : n ≤ m) : StW W0 m μ := by
  obtain ⟨gs, cs, l, t, e, h1, h2, h3, h4, h5⟩ := h
  exact ⟨gs, cs, l, t, e, h1, h2, h3, h4, by omega⟩
theorem call_fn {T : Tab} (pr : ∀ f, T.prim f = none) {f : Str} {F : Fun} (h : T.fn.lookup f = some F) (d : Nat) {vs : List PV} {μ : Mu} {k kx : KE} (s : fnSem (gam T d) F vs μ k kx) : (gam T (d + 1)).call f vs μ k kx := by
  rw [gam_call]
  simp only [Tab.mk1, pr, h]
  exact s
theorem stAt_W {W0 : Mu} {ρ : Env} {i : Nat} {gs cs : List Int} {l t : Int} (h : ρ[i]? = some (some (.obj W0.length))) : stAt ρ (W0 ++ [.st gs cs l t]) i = some (W0.length, gs, cs, l, t) := by
  unfold stAt
  rw [h]
  simp
theorem set_W {W0 : Mu} {a b : MO} : (W0 ++ [a]).set W0.length b = W0 ++ [b] := by simp
theorem st_setL {Γ : Gam} {ρ : Env} {μ : Mu} {A : EndP} (i : Nat) (e : Mi.E) : exS Γ (.setL i e) ρ μ A = evE Γ e ρ μ (fun v μ1 => intK v fun l => optK (stAt ρ μ1 i) fun q => A.nx ρ (μ1.set q.1 (.st q.2.1 q.2.2.1 l q.2.2.2.2))) A.xx := by
  simp only [exS]; congr 1; funext v μ1
  cases v <;> try rfl
  simp only [intK]; generalize stAt ρ μ1 i = o; rcases o with _ | ⟨_, _, _, _, _⟩ <;> rfl
theorem st_setT {Γ : Gam} {ρ : Env} {μ : Mu} {A : EndP} (i : Nat) (e : Mi.E) : exS Γ (.setT i e) ρ μ A = evE Γ e ρ μ (fun v μ1 => intK v fun l => optK (stAt ρ μ1 i) fun q => A.nx ρ (μ1.set q.1 (.st q.2.1 q.2.2.1 q.2.2.2.1 l))) A.xx := by
  simp only [exS]; congr 1; funext v μ1
  cases v <;> try rfl
  simp only [intK]; generalize stAt ρ μ1 i = o; rcases o with _ | ⟨_, _, _, _, _⟩ <;> rfl
def nlsV (v : PV) (K : List PV → Prop) : Prop := match v with
  | .nls vs => K vs
  | _ => False
theorem nlsV_v {vs : List PV} {K : List PV → Prop} : nlsV (.nls vs) K = K vs := rfl
theorem st_mkst {Γ : Gam} {ρ : Env} {μ : Mu} {A : EndP} (i : Nat) (e : Mi.E) : exS Γ (.mkst i e) ρ μ A = nlsK ρ[i]? fun us => optK (intsOf us) fun gs => evE Γ e ρ μ (fun v μ1 => nlsV v fun ws => optK (intsOf ws) fun cs => A.rt (.obj μ1.length) (μ1 ++ [.st gs cs 0 0])) A.xx := by
  simp only [exS, nlsK]
  generalize ρ[i]? = o
  rcases o with _ | _ | u
  · rfl
  · rfl
  · cases u <;> try rfl
    rename_i us
    simp only []
    generalize intsOf us = o
    cases o
    · rfl
    · simp only [optK]; congr 1; funext v μ1; cases v <;> try rfl
      rename_i ws
      simp only [nlsV]; generalize intsOf ws = o; cases o <;> rfl
theorem ev_sgreat {Γ : Gam} {ρ : Env} {μ : Mu} {K X : KE} (i : Nat) : evE Γ (.sgreat i) ρ μ K X = optK (stAt ρ μ i) fun q => K (.bl (!decide (q.2.1 = []))) μ := by
  simp only [evE]; generalize stAt ρ μ i = o; rcases o with _ | ⟨_, gs, _, _, _⟩
  · rfl
  · simp only [cmp_ne, eqK_nil]; rfl
theorem ev_spop {Γ : Gam} {ρ : Env} {μ : Mu} {K X : KE} (i : Nat) {k : Nat} {g : Int} {gs cs : List Int} {l t : Int} (h : stAt ρ μ i = some (k, g :: gs, cs, l, t)) : evE Γ (.spop i) ρ μ K X = K (.int g) (μ.set k (.st gs cs l t)) := by
  simp only [evE, h]
theorem le_sizeT {n : Nat} (h : n ≤ 1000000) : (n ≤ sizeLine) = True := eq_true (le_size h)
theorem lt_sizeT {n : Nat} (h : n ≤ 1000000) : (n < sizeLine) = True := eq_true (lt_size h)
local macro_rules | `(tactic| walk_at "ev") => `(tactic| simp only [ev_var, ev_pk, ev_cint, ev_cbl, ev_cstr, ev_cnon, ev_cst, ev_tup, ev_lst, ev_dct0, ev_bin, ev_neg, ev_not, ev_and, ev_or, ev_cmp, ev_chain, ev_isn, ev_nisn, ev_isb, ev_ite, ev_call, ev_callk, ev_mk, ev_mkk, ev_bi, ev_isin, ev_attr, ev_ix, ev_sl, ev_slS, ev_rev, ev_comp, ev_caught, ev_callv, ev_sleft, ev_sturn, ev_sgreat,
  els_nil, els_cons, er_nil, er_cons, eo_no, eo_yes, ec_no, ec_yes, sr_ex, sr_cells, sr_rng1, sr_rng2, sr_zip, sr_enum, ea_one, ea_cons, eor_one, eor_cons,
  ss_nil, ss_cons, st_asg, st_asgT, st_par, st_setIx, st_app, st_appPop, st_ex, st_ret, st_retv, st_retN, st_ifs, st_fors, st_whs, st_rai, st_rai1, st_pass, st_brk, st_cnt, st_frz, st_aug, st_setL, st_setT, st_mkst, nlsV_v, intsOf_ints,
  nlsK_v, augK_v, optK_some, optK_none, intK_v, tupK_v, blK_v, trK_bl, trK_int, bin_add, bin_sub, bin_mul, bin_fdiv, bin_mod, bin_pow, bin_addS, bin_addT, bin_addL, bin_mulL, bin_mulT, cmp_lt, cmp_le, cmp_gt, cmp_ge, cmp_eq, cmp_ne,
  bi_lenT, bi_lenL, bi_lenC, bi_lenS, bi_abs, bi_int, bi_max2, bi_min2, bi_tupL, bi_tupT, bi_lstL, bi_lstT, ix_tup, ix_lst, sl_tup, sl_lst, slS_lst, rev_tup, rev_lst, walk_tup, walk_lst, walk_scr, rng1_v, rng2_v, zip_lst, zip_tup, enum_lst, eqK_int,
  setAll, freeze, wipeE, bindTg, pk_non, pk_bl, pk_int, pk_str, pk_tup, pk_lst, pk_dct, pk_ins, pk_exc, pk_fn, pk_obj, pk_scr, pk_nls, vr_non, vr_bl, vr_int, vr_str, vr_tup, vr_lst, vr_dct, vr_ins, vr_exc, vr_fn, vr_obj, vr_scr, fz_int, fz_bl, fz_str, fz_obj, fz_tup, fz_lst, fz_nls, fz_non, fz_dct, fz_ins, fz_exc, fz_scr, fz_fn,
  List.map_cons, List.map_nil, List.length_cons, List.length_nil, List.replicate_succ, List.replicate_zero, List.cons_append, List.nil_append, List.getElem?_cons_zero, List.getElem?_cons_succ, List.set_cons_zero, List.set_cons_succ, Nat.sub_self, Nat.reduceSub, Nat.reduceAdd, Nat.zero_add, stAt_W, set_W, decide_true, decide_false, if_true, if_false, Bool.false_eq_true, true_and, and_true, isi_non_bool, isi_non_int, isi_non_str, isi_non_tuple, isi_non_list, isi_non_dict, isi_non_ValueError, isi_bl_bool, isi_bl_int, isi_bl_str, isi_bl_tuple, isi_bl_list, isi_bl_dict, isi_bl_ValueError, isi_int_bool, isi_int_int, isi_int_str, isi_int_tuple, isi_int_list, isi_int_dict, isi_int_ValueError, isi_str_bool, isi_str_int, isi_str_str, isi_str_tuple, isi_str_list, isi_str_dict, isi_str_ValueError, isi_tup_bool, isi_tup_int, isi_tup_str, isi_tup_tuple, isi_tup_list, isi_tup_dict, isi_tup_ValueError, isi_lst_bool, isi_lst_int, isi_lst_str, isi_lst_tuple, isi_lst_list, isi_lst_dict, isi_lst_ValueError, isi_dct_bool, isi_dct_int, isi_dct_str, isi_dct_tuple, isi_dct_list, isi_dct_dict, isi_dct_ValueError, Bool.not_true, Bool.not_false, atI_0, atI_1, atI_2, le_sizeT, lt_sizeT, Nat.reduceLeDiff])
theorem pow18 : CPow 10 18 := ⟨by decide, by decide, by decide⟩
theorem blended_ok {T : Tab} (hT : HasDraw T) {W0 μ : Mu} {n d : Nat} {k kx : KE} (hs : StW W0 n μ) (hn : n < 2 ^ 40) (hk : ∀ i μ', 0 ≤ i → StW W0 (n + 1) μ' → k (.int i) μ') : (gam T (d + 1)).call "_law_blended" [.obj W0.length] μ k kx := by
  refine call_fn hT.pr hT.blended d ⟨rfl, ?_⟩
  obtain ⟨gs, cs, l, t, rfl, hl, hg, hc, ht0, ht⟩ := hs
  simp only [B_law_blended, blended_0]
  walk_at "ev"
  simp only [blended_1]
  walk_at "ev"
  simp only [blended_2]
  walk_at "ev"
  refine forE_ind (fun xs ρ μ => (∀ x ∈ xs, ∃ p : Int, x = .int p ∧ 2147482349 ≤ p ∧ p ≤ 2147482367) ∧ ∃ (a b c : Option PV) (f : Int), 0 ≤ f ∧ ρ = [some (.obj W0.length), a, some (.int (t + 1)), some (.int f), b, c] ∧ μ = W0 ++ [.st gs cs l (t + 1)]) ?_ ?_ _ _ _ ⟨?_, none, none, none, 0, Int.le_refl 0, rfl, rfl⟩
  · rintro x xs ρ μ ⟨hx, a, b, c, f, hf, rfl, rfl⟩
    obtain ⟨p, rfl, hp1, hp2⟩ := hx x (by simp)
    refine ⟨_, rfl, fun N hN => ?_⟩
    simp only [blended_3]
    walk_at "ev"
    refine ⟨mulOk_l (by decide) (by decide), by decide, noPyS (by decide), ?_⟩
    simp only [blended_4]
    walk_at "ev"
    have e0 : 0 ≤ p.fdiv 67 := by rw [Int.fdiv_eq_ediv_of_nonneg _ (by decide)]; omega
    have e1 : p.fdiv 67 ≤ 2147482367 := by rw [Int.fdiv_eq_ediv_of_nonneg _ (by decide)]; omega
    refine forE_ind (fun ys ρ μ => (∀ y ∈ ys, ∃ z : Int, y = .int z ∧ 0 ≤ z) ∧ ∃ (c : Option PV) (g : Int), 0 ≤ g ∧ g < 2 ^ 60 ∧ ρ = [some (.obj W0.length), some (.int p), some (.int (t + 1)), some (.int f), some (.int g), c] ∧ μ = W0 ++ [.st gs cs l (t + 1)]) ?_ ?_ _ _ _ ⟨?_, c, _, ?_, ?_, rfl, rfl⟩
    · rintro y ys ρ μ ⟨hy, c, g, hg0, hg1, rfl, rfl⟩
      obtain ⟨z, rfl, hz⟩ := hy y (by simp)
      refine ⟨_, rfl, fun N2 hN2 => ?_⟩
      simp only [blended_5]
      walk_at "ev"
      refine ⟨mulOk_r (by decide) (by decide), by omega, hN2 _ _ ⟨fun y h => hy y (by simp [h]), _, _, ?_, ?_, rfl, rfl⟩⟩
      · rw [Int.fmod_eq_emod_of_nonneg _ (by omega)]; exact Int.emod_nonneg _ (by omega)
      · rw [Int.fmod_eq_emod_of_nonneg _ (by omega)]
        have := Int.emod_lt_of_pos (g * 69621 + z + (t + 1)) (show 0 < p by omega)
        omega
    · rintro ρ μ ⟨_, c, g, hg0, hg1, rfl, rfl⟩
      simp only [blended_6]
      walk_at "ev"
      refine ⟨mulOk_r (by decide) (by decide), ⟨by decide, by decide, by omega⟩, by omega, hN _ _ ⟨fun y h => hx y (by simp [h]), _, _, _, _, ?_, rfl, rfl⟩⟩
      rw [Int.fmod_eq_emod_of_nonneg _ (by omega)]
      have := Int.emod_nonneg (g ^ Int.toNat 5) (show p ≠ 0 by omega)
      omega
    · intro y hy
      obtain ⟨z, hz, rfl⟩ := List.mem_map.mp hy
      exact ⟨z, rfl, hc z hz⟩
    · omega
    · omega
  · rintro ρ μ ⟨_, a, b, c, f, hf, rfl, rfl⟩
    simp only [blended_7]
    walk_at "ev"
    exact hk f _ hf ⟨gs, cs, l, t + 1, rfl, hl, hg, hc, by omega, by omega⟩
  · intro x hx
    simp at hx
    rcases hx with rfl | rfl | rfl <;> exact ⟨_, rfl, by decide, by decide⟩
theorem draw_ok {T : Tab} (hT : HasDraw T) {W0 μ : Mu} {m : Int} {n d : Nat} {k kx : KE} (hs : StW W0 n μ) (hn : n < 2 ^ 40) (h0 : 0 < m) (hm : m.natAbs < 2 ^ 8999) (hk : ∀ i μ', 0 ≤ i → i < m → StW W0 (n + 1) μ' → k (.int i) μ') : (gam T (d + 2)).call "_law_draw" [.obj W0.length, .int m] μ k kx := by
  refine call_fn hT.pr hT.draw (d + 1) ⟨rfl, ?_⟩
  -- what follows the mixing
  have rest : ∀ (μ : Mu) (A : EndP), StW W0 (n + 1) μ → A.rt = k → exSs (gam T (d + 1)) draw_2 [some (.obj W0.length), some (.int m), none] μ A := fun μ A hs hA => by
    obtain ⟨gs, cs, l, t, rfl, hl, hg, hc, ht0, ht⟩ := hs
    simp only [draw_2]
    walk_at "ev"
    refine ⟨Int.ne_of_gt h0, ?_⟩
    simp only [draw_3]
    walk_at "ev"
    refine ⟨Int.ne_of_gt h0, noPy hm, ?_⟩
    simp only [draw_4]
    walk_at "ev"
    rw [hA, Int.fmod_eq_emod_of_nonneg _ (by omega), Int.fdiv_eq_ediv_of_nonneg _ (by omega)]
    exact hk _ _ (Int.emod_nonneg _ (by omega)) (Int.emod_lt_of_pos _ h0) ⟨gs, cs, _, t, rfl, Int.ediv_nonneg hl (by omega), hg, hc, ht0, ht⟩
  obtain ⟨gs, cs, l, t, rfl, hl, hg, hc, ht0, ht⟩ := hs
  simp only [B_law_draw, draw_0]
  walk_at "ev"
  split
  · simp only [draw_1]
    walk_at "ev"
    cases gs with
    | nil =>
      simp only [decide_true, Bool.not_true, if_false, Bool.false_eq_true]
      refine blended_ok hT ⟨[], cs, l, t, rfl, hl, hg, hc, ht0, ht⟩ hn fun i μ' hi ⟨gs, cs, l, t, e, hl, hg, hc, ht0, ht⟩ => ?_
      subst e
      walk_at "ev"
      exact rest _ _ ⟨gs, cs, i, t, rfl, hi, hg, hc, ht0, ht⟩ rfl
    | cons g gs =>
      simp only [reduceCtorEq, decide_false, Bool.not_false, if_true]
      rw [ev_spop 0 (stAt_W rfl)]
      walk_at "ev"
      exact rest _ _ ⟨gs, cs, g, t, rfl, hg g (by simp), fun x hx => hg x (by simp [hx]), hc, ht0, by omega⟩ rfl
  · exact rest _ _ ⟨gs, cs, l, t, rfl, hl, hg, hc, ht0, by omega⟩ rfl
/-- one of some things -/
theorem pick_ok {T : Tab} (hT : HasDraw T) {W0 μ : Mu} {vs : List PV} {n d : Nat} {k kx : KE} (hs : StW W0 n μ) (hn : n < 2 ^ 40) (h0 : vs ≠ []) (hm : vs.length ≤ 1000000) (hk : ∀ v μ', v ∈ vs → StW W0 (n + 1) μ' → k v μ') : (gam T (d + 3)).call "_law_pick" [.obj W0.length, .lst vs] μ k kx := by
  refine call_fn hT.pr hT.pick (d + 2) ⟨rfl, ?_⟩
  have hl : 0 < vs.length := List.length_pos_iff.mpr h0
  simp only [B_law_pick, pick_0]
  walk_at "ev"
  refine draw_ok hT hs hn (by omega) ?_ fun i μ' h1 h2 hs' => ?_
  · have : (vs.length : Int).natAbs ≤ 1000000 := by omega
    exact Nat.lt_of_le_of_lt this (by decide)
  · walk_at "ev"
    rw [atI_of h1 h2]
    obtain ⟨v, hv⟩ : ∃ v, vs[i.toNat]? = some v := ⟨_, List.getElem?_eq_getElem (by omega)⟩
    rw [hv]
    exact hk v μ' (List.mem_of_getElem? hv) hs'
theorem begun_ok {T : Tab} (hT : HasDraw T) {W0 : Mu} {ns : List Int} {d : Nat} {k kx : KE} (hl : ns.length ≤ 63) (hk : ∀ μ', StW W0 0 μ' → k (.obj W0.length) μ') : (gam T (d + 1)).call "_law_begun" [.scr ns] W0 k kx := by
  refine call_fn hT.pr hT.begun d ⟨rfl, ?_⟩
  simp only [B_law_begun, begun_0]
  walk_at "ev"
  refine compE_ind (fun xs acc μ => (∃ l1 : List Int, ns.map PV.int = l1.map PV.int ++ xs ∧ acc.length ≤ l1.length ∧ l1.length + xs.length ≤ 63) ∧ (∃ gs : List Int, acc = gs.map PV.int ∧ ∀ g ∈ gs, 0 ≤ g) ∧ μ = W0) ?_ ?_ _ _ _ ⟨⟨[], rfl, by simp, by simpa using hl⟩, ⟨[], rfl, by simp⟩, rfl⟩
  · rintro x xs acc μ ⟨⟨l1, e, h1, h2⟩, ⟨gs, rfl, hg⟩, rfl⟩
    have hx : ∃ z : Int, x = .int z := by
      have : x ∈ ns.map PV.int := by rw [e]; simp
      obtain ⟨z, _, rfl⟩ := List.mem_map.mp this
      exact ⟨z, rfl⟩
    obtain ⟨z, rfl⟩ := hx
    refine ⟨_, rfl, fun N hN => ?_⟩
    walk_at "ev"
    refine ⟨pow18, ?_⟩
    simp only [List.length_cons] at h2
    split
    · rename_i hz
      have hz := of_decide_eq_true hz
      refine ⟨pow18, lt_size (by omega), hN _ _ ⟨⟨l1 ++ [z], by rw [e]; simp, by simp at h1 ⊢; omega, by simp; omega⟩, ⟨gs ++ [_], by rw [List.map_append]; rfl, ?_⟩, rfl⟩⟩
      intro g hg'
      simp only [List.mem_append, List.mem_singleton] at hg'
      rcases hg' with hg' | rfl
      · exact hg g hg'
      · omega
    · exact hN _ _ ⟨⟨l1 ++ [z], by rw [e]; simp, by simp at h1 ⊢; omega, by simp; omega⟩, ⟨gs, rfl, hg⟩, rfl⟩
  · rintro acc μ ⟨_, ⟨gs, rfl, hg⟩, rfl⟩
    simp only [begun_1]
    walk_at "ev"
    refine compE_map (fun z : Int => PV.int z) (fun z : Int => PV.int (z.natAbs : Int)) ns (by have : 63 ≤ sizeLine := le_size (by decide); omega) (fun z _ => ⟨_, rfl, fun N hN => ?_⟩) ?_
    · walk_at "ev"
      exact hN _ rfl
    · have e : ns.map (fun z : Int => PV.int (z.natAbs : Int)) = (ns.map fun z : Int => (z.natAbs : Int)).map PV.int := by simp
      rw [e]
      walk_at "ev"
      refine hk _ ⟨gs, _, 0, 0, rfl, Int.le_refl 0, hg, ?_, Nat.le_refl 0, Nat.le_refl 0⟩
      intro c hc
      obtain ⟨z, _, rfl⟩ := List.mem_map.mp hc
      omega
end Mi
end

section
-- MiniF
set_option Elab.async false
set_option linter.all false
set_option maxRecDepth 100000
set_option maxHeartbeats 4000000
/-! Mini, part F: fractions -/
namespace Mi
open PySem PySem.Spec PyProof.Rows L2
def common_2 : Ss := (.cons (.par [0, 1] (.cons (.var 1) (.cons (.bin .mod (.pk 0) (.pk 1)) .nil))) .nil)
def common_3 : Ss := (.cons (.retv 0) .nil)
def common_1 : Ss := (.cons (.whs (.cmp .ne (.pk 1) (.cint 0))
 common_2) common_3)
def common_0 : Ss := (.cons (.par [0, 1] (.cons (.bi .abs (.cons (.pk 0) .nil)) (.cons (.bi .abs (.cons (.pk 1) .nil)) .nil))) common_1)
def B_common : Fun := ⟨["one", "other"], 2, common_0⟩
def lowest_1 : Ss := (.cons (.ret (.tup (.cons (.bin .fdiv (.pk 0) (.pk 2)) (.cons (.bin .fdiv (.pk 1) (.pk 2)) .nil)))) .nil)
def lowest_0 : Ss := (.cons (.asg 2 (.ite (.cmp .gt (.pk 1) (.cint 0)) (.call "common" (.cons (.var 0) (.cons (.var 1) .nil))) (.neg (.call "common" (.cons (.var 0) (.cons (.var 1) .nil)))))) lowest_1)
def B_lowest : Fun := ⟨["upper", "lower"], 3, lowest_0⟩
def summed_0 : Ss := (.cons (.ret (.call "lowest" (.cons (.bin .add (.bin .mul (.ix (.pk 0) (.cint 0)) (.ix (.pk 1) (.cint 1))) (.bin .mul (.ix (.pk 1) (.cint 0)) (.ix (.pk 0) (.cint 1)))) (.cons (.bin .mul (.ix (.pk 0) (.cint 1)) (.ix (.pk 1) (.cint 1))) .nil)))) .nil)
def B_summed : Fun := ⟨["one", "other"], 2, summed_0⟩
def multiplied_0 : Ss := (.cons (.ret (.call "lowest" (.cons (.bin .mul (.ix (.pk 0) (.cint 0)) (.ix (.pk 1) (.cint 0))) (.cons (.bin .mul (.ix (.pk 0) (.cint 1)) (.ix (.pk 1) (.cint 1))) .nil)))) .nil)
def B_multiplied : Fun := ⟨["one", "other"], 2, multiplied_0⟩
structure HasFr (T : Tab) : Prop where
  pr : ∀ f, T.prim f = none
  common : T.fn.lookup ("common" : Str) = some B_common
  lowest : T.fn.lookup ("lowest" : Str) = some B_lowest
  summed : T.fn.lookup ("summed" : Str) = some B_summed
  multiplied : T.fn.lookup ("multiplied" : Str) = some B_multiplied
local macro_rules | `(tactic| walk_at "ev") => `(tactic| simp only [ev_var, ev_pk, ev_cint, ev_cbl, ev_cstr, ev_cnon, ev_cst, ev_tup, ev_lst, ev_dct0, ev_bin, ev_neg, ev_not, ev_and, ev_or, ev_cmp, ev_chain, ev_isn, ev_nisn, ev_isb, ev_ite, ev_call, ev_callk, ev_mk, ev_mkk, ev_bi, ev_isin, ev_attr, ev_ix, ev_sl, ev_slS, ev_rev, ev_comp, ev_caught, ev_callv, ev_sleft, ev_sturn, ev_sgreat,
  els_nil, els_cons, er_nil, er_cons, eo_no, eo_yes, ec_no, ec_yes, sr_ex, sr_cells, sr_rng1, sr_rng2, sr_zip, sr_enum, ea_one, ea_cons, eor_one, eor_cons,
  ss_nil, ss_cons, st_asg, st_asgT, st_par, st_setIx, st_app, st_appPop, st_ex, st_ret, st_retv, st_retN, st_ifs, st_fors, st_whs, st_rai, st_rai1, st_pass, st_brk, st_cnt, st_frz, st_aug, st_setL, st_setT, st_mkst, nlsV_v, intsOf_ints,
  nlsK_v, augK_v, optK_some, optK_none, intK_v, tupK_v, blK_v, trK_bl, trK_int, bin_add, bin_sub, bin_mul, bin_fdiv, bin_mod, bin_pow, bin_addS, bin_addT, bin_addL, bin_mulL, bin_mulT, cmp_lt, cmp_le, cmp_gt, cmp_ge, cmp_eq, cmp_ne,
  bi_lenT, bi_lenL, bi_lenC, bi_lenS, bi_abs, bi_int, bi_max2, bi_min2, bi_tupL, bi_tupT, bi_lstL, bi_lstT, ix_tup, ix_lst, sl_tup, sl_lst, slS_lst, rev_tup, rev_lst, walk_tup, walk_lst, walk_scr, rng1_v, rng2_v, zip_lst, zip_tup, enum_lst, eqK_int,
  setAll, freeze, wipeE, bindTg, pk_non, pk_bl, pk_int, pk_str, pk_tup, pk_lst, pk_dct, pk_ins, pk_exc, pk_fn, pk_obj, pk_scr, pk_nls, vr_non, vr_bl, vr_int, vr_str, vr_tup, vr_lst, vr_dct, vr_ins, vr_exc, vr_fn, vr_obj, vr_scr, fz_int, fz_bl, fz_str, fz_obj, fz_tup, fz_lst, fz_nls, fz_non, fz_dct, fz_ins, fz_exc, fz_scr, fz_fn,
  List.map_cons, List.map_nil, List.length_cons, List.length_nil, List.replicate_succ, List.replicate_zero, List.cons_append, List.nil_append, List.getElem?_cons_zero, List.getElem?_cons_succ, List.set_cons_zero, List.set_cons_succ, Nat.sub_self, Nat.reduceSub, Nat.reduceAdd, Nat.zero_add, stAt_W, set_W, decide_true, decide_false, if_true, if_false, Bool.false_eq_true, true_and, and_true, isi_non_bool, isi_non_int, isi_non_str, isi_non_tuple, isi_non_list, isi_non_dict, isi_non_ValueError, isi_bl_bool, isi_bl_int, isi_bl_str, isi_bl_tuple, isi_bl_list, isi_bl_dict, isi_bl_ValueError, isi_int_bool, isi_int_int, isi_int_str, isi_int_tuple, isi_int_list, isi_int_dict, isi_int_ValueError, isi_str_bool, isi_str_int, isi_str_str, isi_str_tuple, isi_str_list, isi_str_dict, isi_str_ValueError, isi_tup_bool, isi_tup_int, isi_tup_str, isi_tup_tuple, isi_tup_list, isi_tup_dict, isi_tup_ValueError, isi_lst_bool, isi_lst_int, isi_lst_str, isi_lst_tuple, isi_lst_list, isi_lst_dict, isi_lst_ValueError, isi_dct_bool, isi_dct_int, isi_dct_str, isi_dct_tuple, isi_dct_list, isi_dct_dict, isi_dct_ValueError, Bool.not_true, Bool.not_false, atI_0, atI_1, atI_2, le_sizeT, lt_sizeT, Nat.reduceLeDiff])

/-- a fraction as the program writes it -/
def toP (q : Rat) : PV := .tup [.int q.num, .int q.den]
theorem fz_toP (q : Rat) : (toP q).fz = toP q := rfl
theorem toP_inj {a b : Rat} (h : toP a = toP b) : a = b := by
  simp only [toP, PV.tup.injEq, List.cons.injEq, PV.int.injEq, and_true] at h
  exact Rat.ext h.1 (by omega)
/-- how great -/
def Bd (m n : Nat) (q : Rat) : Prop := q.num.natAbs < 2 ^ m ∧ q.den < 2 ^ n
theorem Bd.mono {m n m' n' : Nat} {q : Rat} (h : Bd m n q) (hm : m ≤ m') (hn : n ≤ n') : Bd m' n' q :=
  ⟨Nat.lt_of_lt_of_le h.1 (Nat.pow_le_pow_right (by decide) hm), Nat.lt_of_lt_of_le h.2 (Nat.pow_le_pow_right (by decide) hn)⟩
theorem common_ok {T : Tab} (hT : HasFr T) {μ : Mu} {a b : Int} {d : Nat} {k kx : KE} (hk : k (.int (Int.gcd a b)) μ) : (gam T (d + 1)).call "common" [.int a, .int b] μ k kx := by
  refine call_fn hT.pr hT.common d ⟨rfl, ?_⟩
  simp only [B_common, common_0]
  walk_at "ev"
  simp only [common_1]
  walk_at "ev"
  refine whE_ind (fun ρ μ' => ∃ x y : Nat, ρ = [some (.int x), some (.int y)] ∧ μ' = μ ∧ Nat.gcd x y = Int.gcd a b) (fun ρ _ => match ρ with
    | [_, some (.int y)] => y.toNat
    | _ => 0) ?_ ⟨a.natAbs, b.natAbs, rfl, rfl, rfl⟩
  rintro ρ μ' ⟨x, y, rfl, rfl, hg⟩ N hN
  walk_at "ev"
  split
  · rename_i hy
    have hy : ¬ (y : Int) = 0 := by simpa using hy
    simp only [common_2]
    walk_at "ev"
    refine ⟨hy, hN _ _ ⟨y, x % y, ?_, rfl, ?_⟩ ?_⟩
    · rw [Int.fmod_eq_emod_of_nonneg _ (by omega)]; rfl
    · rw [Nat.gcd_comm, ← Nat.gcd_rec, Nat.gcd_comm]; exact hg
    · rw [Int.fmod_eq_emod_of_nonneg _ (by omega)]
      have : x % y < y := Nat.mod_lt _ (by omega)
      show ((x : Int) % (y : Int)).toNat < (y : Int).toNat
      omega
  · rename_i hy
    have hy : (y : Int) = 0 := by simpa using hy
    have hy : y = 0 := by omega
    subst hy
    simp only [common_3]
    walk_at "ev"
    rw [Nat.gcd_zero_right] at hg
    rw [hg]
    exact hk
theorem lowest_ok {T : Tab} (hT : HasFr T) {μ : Mu} {u l : Int} {d : Nat} {k kx : KE} (hl : l ≠ 0) (hb : l.natAbs < 2 ^ 8999) (hk : k (toP (Rat.divInt u l)) μ) : (gam T (d + 2)).call "lowest" [.int u, .int l] μ k kx := by
  refine call_fn hT.pr hT.lowest (d + 1) ⟨rfl, ?_⟩
  have g0 : 0 < Int.gcd u l := Int.gcd_pos_of_ne_zero_right _ hl
  have gl : Int.gcd u l ≤ l.natAbs := Nat.le_of_dvd (by omega) (Int.gcd_dvd_natAbs_right u l)
  have gu : ((Int.gcd u l : Nat) : Int) ∣ u := Int.gcd_dvd_left ..
  have gv : ((Int.gcd u l : Nat) : Int) ∣ l := Int.gcd_dvd_right ..
  have e1 : (Rat.divInt u l).num = l.sign * u / Int.gcd u l := by rw [Rat.num_divInt, Int.gcd_comm]
  have e2 : ((Rat.divInt u l).den : Int) = l.natAbs / Int.gcd u l := by rw [Rat.den_divInt, if_neg hl, Int.gcd_comm]; rfl
  simp only [B_lowest, lowest_0]
  walk_at "ev"
  split
  · rename_i h
    have h : 0 < l := of_decide_eq_true h
    refine common_ok hT ?_
    simp only [lowest_1]
    walk_at "ev"
    refine ⟨by omega, noPy (by omega), by omega, noPy (by omega), ?_⟩
    have : PV.tup [.int (u.fdiv (Int.gcd u l)), .int (l.fdiv (Int.gcd u l))] = toP (Rat.divInt u l) := by
      simp only [toP, e1, e2]
      rw [Int.fdiv_eq_ediv_of_nonneg _ (by omega), Int.fdiv_eq_ediv_of_nonneg _ (by omega), Int.sign_eq_one_of_pos h, Int.one_mul, Int.natAbs_of_nonneg (by omega)]
    rw [this]; exact hk
  · rename_i h
    have h : ¬ 0 < l := by simpa using h
    refine common_ok hT ?_
    simp only [lowest_1]
    walk_at "ev"
    refine ⟨by omega, noPy (by omega), by omega, noPy (by omega), ?_⟩
    have : PV.tup [.int (u.fdiv (-(Int.gcd u l : Int))), .int (l.fdiv (-(Int.gcd u l : Int)))] = toP (Rat.divInt u l) := by
      simp only [toP, e1, e2]
      obtain ⟨a, ha⟩ := gu
      obtain ⟨b, hb'⟩ := gv
      generalize Int.gcd u l = g at *
      have g1 : (g : Int) ≠ 0 := by omega
      have n1 : (-(g : Int)) ≠ 0 := by omega
      have f1 : u.fdiv (-(g : Int)) = -a := by
        rw [ha, show (g : Int) * a = (-a) * (-(g : Int)) by grind, Int.mul_fdiv_cancel _ n1]
      have f2 : l.fdiv (-(g : Int)) = -b := by
        rw [hb', show (g : Int) * b = (-b) * (-(g : Int)) by grind, Int.mul_fdiv_cancel _ n1]
      have f3 : l.sign * u / (g : Int) = -a := by
        rw [Int.sign_eq_neg_one_of_neg (by omega), ha, show -1 * ((g : Int) * a) = (-a) * g by grind, Int.mul_ediv_cancel _ g1]
      have f4 : (l.natAbs : Int) / (g : Int) = -b := by
        have : (l.natAbs : Int) = (-b) * g := by
          have : (l.natAbs : Int) = - l := by omega
          rw [this, hb']; grind
        rw [this, Int.mul_ediv_cancel _ g1]
      rw [f1, f2, f3, f4]
    rw [this]; exact hk
theorem den_pos (q : Rat) : 0 < (q.den : Int) := by have := q.den_pos; omega
theorem mul_lt {a b : Int} {m n : Nat} (ha : a.natAbs < 2 ^ m) (hb : b.natAbs < 2 ^ n) : (a * b).natAbs < 2 ^ (m + n) := by
  rw [Int.natAbs_mul, Nat.pow_add]
  exact Nat.mul_lt_mul'' ha hb
theorem add_lt {a b : Int} {m : Nat} (ha : a.natAbs < 2 ^ m) (hb : b.natAbs < 2 ^ m) : (a + b).natAbs < 2 ^ (m + 1) := by
  have := Int.natAbs_add_le a b
  rw [Nat.pow_succ]; omega
theorem lt_mono {a : Nat} {m n : Nat} (ha : a < 2 ^ m) (h : m ≤ n) : a < 2 ^ n := Nat.lt_of_lt_of_le ha (Nat.pow_le_pow_right (by decide) h)
theorem divInt_Bd {u l : Int} {m n : Nat} (h0 : l ≠ 0) (hu : u.natAbs < 2 ^ m) (hl : l.natAbs < 2 ^ n) : Bd m n (Rat.divInt u l) := by
  constructor
  · rw [Rat.num_divInt]
    refine Nat.lt_of_le_of_lt ?_ hu
    refine Nat.le_trans (Int.natAbs_ediv_le_natAbs _ _) ?_
    rw [Int.natAbs_mul]
    have : l.sign.natAbs ≤ 1 := by rw [Int.natAbs_sign]; split <;> omega
    exact Nat.le_trans (Nat.mul_le_mul_right _ this) (by omega)
  · rw [Rat.den_divInt, if_neg h0]
    exact Nat.lt_of_le_of_lt (Nat.div_le_self _ _) hl
theorem mul_divInt (a b : Rat) : Rat.divInt (a.num * b.num) (a.den * b.den) = a * b := by
  rw [← Rat.divInt_mul_divInt, Rat.num_divInt_den, Rat.num_divInt_den]
theorem add_divInt (a b : Rat) : Rat.divInt (a.num * b.den + b.num * a.den) (a.den * b.den) = a + b := by
  have h := Rat.divInt_add_divInt a.num b.num (d₁ := a.den) (d₂ := b.den) (by have := den_pos a; omega) (by have := den_pos b; omega)
  rw [Rat.num_divInt_den, Rat.num_divInt_den] at h
  exact h.symm
theorem multiplied_ok {T : Tab} (hT : HasFr T) {μ : Mu} {a b : Rat} {d m1 n1 m2 n2 : Nat} {k kx : KE} (ha : Bd m1 n1 a) (hb : Bd m2 n2 b) (hm : m1 ≤ 2 ^ 20 ∧ m2 ≤ 2 ^ 20) (hn : n1 + n2 ≤ 8999) (hk : Bd (m1 + m2) (n1 + n2) (a * b) → k (toP (a * b)) μ) : (gam T (d + 3)).call "multiplied" [toP a, toP b] μ k kx := by
  refine call_fn hT.pr hT.multiplied (d + 2) ⟨rfl, ?_⟩
  have hd : ((a.den : Int) * b.den).natAbs < 2 ^ (n1 + n2) := mul_lt (by exact_mod_cast ha.2) (by exact_mod_cast hb.2)
  have h0 : (a.den : Int) * b.den ≠ 0 := Int.mul_ne_zero (by have := den_pos a; omega) (by have := den_pos b; omega)
  have hu := mul_lt ha.1 hb.1
  simp only [B_multiplied, multiplied_0, toP]
  walk_at "ev"
  refine ⟨mulOk_n ha.1 hb.1 hm, mulOk_n (m := n1) (n := n2) (by exact_mod_cast ha.2) (by exact_mod_cast hb.2) (by omega), ?_⟩
  refine lowest_ok hT h0 (lt_mono hd hn) ?_
  rw [mul_divInt]
  exact hk (by rw [← mul_divInt]; exact divInt_Bd h0 hu hd)
theorem summed_ok {T : Tab} (hT : HasFr T) {μ : Mu} {a b : Rat} {d m1 n1 m2 n2 m : Nat} {k kx : KE} (ha : Bd m1 n1 a) (hb : Bd m2 n2 b) (hm : m1 + n2 ≤ m ∧ m2 + n1 ≤ m ∧ m ≤ 2 ^ 20) (hn : n1 + n2 ≤ 8999) (hk : Bd (m + 1) (n1 + n2) (a + b) → k (toP (a + b)) μ) : (gam T (d + 3)).call "summed" [toP a, toP b] μ k kx := by
  refine call_fn hT.pr hT.summed (d + 2) ⟨rfl, ?_⟩
  have a2 : (a.den : Int).natAbs < 2 ^ n1 := by exact_mod_cast ha.2
  have b2 : (b.den : Int).natAbs < 2 ^ n2 := by exact_mod_cast hb.2
  have hd : ((a.den : Int) * b.den).natAbs < 2 ^ (n1 + n2) := mul_lt a2 b2
  have h0 : (a.den : Int) * b.den ≠ 0 := Int.mul_ne_zero (by have := den_pos a; omega) (by have := den_pos b; omega)
  have hu := add_lt (lt_mono (mul_lt ha.1 b2) hm.1) (lt_mono (mul_lt hb.1 a2) hm.2.1)
  simp only [B_summed, summed_0, toP]
  walk_at "ev"
  refine ⟨mulOk_n ha.1 b2 (by omega), mulOk_n hb.1 a2 (by omega), mulOk_n a2 b2 (by omega), ?_⟩
  refine lowest_ok hT h0 (lt_mono hd hn) ?_
  rw [add_divInt]
  exact hk (by rw [← add_divInt]; exact divInt_Bd h0 hu hd)
end Mi
end

section
-- QuA
/-! Counted rows, plain: sums by parts, functions that go round -/
namespace Qu
/-- one part more -/
def S (p : Int) (f : Int → Int) (a : Int) : Int := if h : a < 0 ∨ p ≤ 0 then 0 else f a + S p f (a - p)
termination_by (a + 1).toNat
decreasing_by omega
theorem S_neg {p : Int} {f : Int → Int} {a : Int} (h : a < 0) : S p f a = 0 := by
  rw [S, dif_pos (.inl h)]
theorem S_eq {p : Int} {f : Int → Int} (hp : 0 < p) (hf : ∀ a, a < 0 → f a = 0) (a : Int) : S p f a = f a + S p f (a - p) := by
  by_cases h : a < 0
  · rw [S_neg h, S_neg (by omega), hf a h]; rfl
  · rw [S, dif_neg (by omega)]
theorem S_uniq {p : Int} {f g : Int → Int} (hp : 0 < p) (hg : ∀ a, a < 0 → g a = 0) (e : ∀ a, g a = f a + g (a - p)) : g = S p f := by
  funext a
  have key : ∀ (n : Nat) (a : Int), a < n → g a = S p f a := by
    intro n
    induction n with
    | zero => intro a h; rw [hg a (by omega), S_neg (by omega)]
    | succ n ih =>
      intro a h
      by_cases h0 : a < 0
      · rw [hg a h0, S_neg h0]
      · rw [S, dif_neg (by omega), e a, ih (a - p) (by omega)]
  exact key (a.toNat + 1) a (by omega)
theorem S_comm {p q : Int} {f : Int → Int} (hp : 0 < p) (hq : 0 < q) (hf : ∀ a, a < 0 → f a = 0) : S p (S q f) = S q (S p f) := by
  have n1 : ∀ a, a < 0 → S p (S q f) a = 0 := fun a h => S_neg h
  have nq : ∀ a, a < 0 → S q f a = 0 := fun a h => S_neg h
  -- the difference by q
  have hd : (fun a => S p (S q f) a - S p (S q f) (a - q)) = S p f := by
    refine S_uniq hp (fun a h => ?_) (fun a => ?_)
    · show S p (S q f) a - S p (S q f) (a - q) = 0
      rw [n1 a h, n1 (a - q) (by omega)]; rfl
    · show S p (S q f) a - S p (S q f) (a - q) = f a + (S p (S q f) (a - p) - S p (S q f) (a - p - q))
      have e1 := S_eq hp nq a
      have e2 := S_eq hp nq (a - q)
      have e3 := S_eq hq hf a
      have e4 : a - q - p = a - p - q := by omega
      rw [e4] at e2
      omega
  refine S_uniq hq n1 fun a => ?_
  have := congrFun hd a
  omega
def one0 (a : Int) : Int := if a = 0 then 1 else 0
/-- how many plans -/
def N (row : List Int) : Int → Int := row.foldl (fun f p => S p f) one0
theorem N_nil : N [] = one0 := rfl
theorem N_snoc (row : List Int) (p : Int) : N (row ++ [p]) = S p (N row) := by simp [N, List.foldl_append]
theorem fold_neg : ∀ (row : List Int) (f : Int → Int), (∀ a, a < 0 → f a = 0) → ∀ a, a < 0 → row.foldl (fun f p => S p f) f a = 0
  | [], _, h => h
  | _ :: r, _, _ => fold_neg r _ fun _ h => S_neg h
theorem N_neg (row : List Int) {a : Int} (h : a < 0) : N row a = 0 := fold_neg row one0 (fun a h => if_neg (by omega)) a h
theorem fold_perm {r s : List Int} (hp : r.Perm s) : (∀ p ∈ r, 0 < p) → ∀ f : Int → Int, (∀ a, a < 0 → f a = 0) → r.foldl (fun f p => S p f) f = s.foldl (fun f p => S p f) f := by
  induction hp with
  | nil => intro _ f _; rfl
  | cons x _ ih => intro h f _; exact ih (fun p hp => h p (List.mem_cons_of_mem _ hp)) _ fun _ h => S_neg h
  | swap x y l =>
    intro h f hf
    simp only [List.foldl_cons]
    rw [S_comm (h x (by simp)) (h y (by simp)) hf]
  | trans a _ ih1 ih2 =>
    intro h f hf
    rw [ih1 h f hf, ih2 (fun p hp => h p (a.mem_iff.mpr hp)) f hf]
theorem N_perm {r s : List Int} (hp : r.Perm s) (h : ∀ p ∈ r, 0 < p) : N r = N s := fold_perm hp h one0 fun a h => if_neg (by omega)
theorem N_more (row : List Int) {p : Int} (hp : 0 < p) (a : Int) : N (row ++ [p]) a = N row a + N (row ++ [p]) (a - p) := by
  rw [N_snoc]; exact S_eq hp (fun a h => N_neg row h) a

/-! ### differences, over fractions -/
def D (p : Int) (g : Int → Rat) (a : Int) : Rat := g a - g (a - p)
def Ds : List Int → (Int → Rat) → Int → Rat
  | [], g => g
  | p :: r, g => Ds r (D p g)
/-- m times -/
def Dm (L : Int) : Nat → (Int → Rat) → Int → Rat
  | 0, g => g
  | m + 1, g => Dm L m (D L g)
theorem D_comm (p q : Int) (g : Int → Rat) : D p (D q g) = D q (D p g) := by
  funext a
  have e : a - p - q = a - q - p := by omega
  simp only [D, e]; grind
theorem Ds_D (q : Int) : ∀ (r : List Int) (g : Int → Rat), Ds r (D q g) = D q (Ds r g)
  | [], _ => rfl
  | p :: r, g => by
    show Ds r (D p (D q g)) = D q (Ds r (D p g))
    rw [D_comm, Ds_D q r]
theorem Dm_D (L q : Int) : ∀ (m : Nat) (g : Int → Rat), Dm L m (D q g) = D q (Dm L m g)
  | 0, _ => rfl
  | m + 1, g => by
    show Dm L m (D L (D q g)) = D q (Dm L m (D L g))
    rw [D_comm, Dm_D L q m]
theorem Dm_Ds (L : Int) (m : Nat) : ∀ (r : List Int) (g : Int → Rat), Dm L m (Ds r g) = Ds r (Dm L m g)
  | [], _ => rfl
  | p :: r, g => by
    show Dm L m (Ds r (D p g)) = Ds r (D p (Dm L m g))
    rw [Dm_Ds L m r, Dm_D]
theorem D_sub (p : Int) (f g : Int → Rat) : D p (fun a => f a - g a) = fun a => D p f a - D p g a := by
  funext a; simp only [D]; grind
theorem Dm_sub (L : Int) : ∀ (m : Nat) (f g : Int → Rat), Dm L m (fun a => f a - g a) = fun a => Dm L m f a - Dm L m g a
  | 0, _, _ => rfl
  | m + 1, f, g => by
    show Dm L m (D L _) = _
    rw [D_sub, Dm_sub L m]; rfl
theorem Ds_sub : ∀ (r : List Int) (f g : Int → Rat), Ds r (fun a => f a - g a) = fun a => Ds r f a - Ds r g a
  | [], _, _ => rfl
  | p :: r, f, g => by
    show Ds r (D p _) = _
    rw [D_sub, Ds_sub r]; rfl
theorem D_mul (p : Int) (c : Rat) (f : Int → Rat) : D p (fun a => c * f a) = fun a => c * D p f a := by
  funext a; simp only [D]; grind
theorem Ds_mul (c : Rat) : ∀ (r : List Int) (f : Int → Rat), Ds r (fun a => c * f a) = fun a => c * Ds r f a
  | [], _ => rfl
  | p :: r, f => by
    show Ds r (D p _) = _
    rw [D_mul, Ds_mul c r]; rfl
theorem D_shift (p c : Int) (f : Int → Rat) : D p (fun a => f (a + c)) = fun a => D p f (a + c) := by
  funext a
  have e : a - p + c = a + c - p := by omega
  simp only [D, e]
theorem Dm_shift (L c : Int) : ∀ (m : Nat) (f : Int → Rat), Dm L m (fun a => f (a + c)) = fun a => Dm L m f (a + c)
  | 0, _ => rfl
  | m + 1, f => by
    show Dm L m (D L _) = _
    rw [D_shift, Dm_shift L c m]; rfl
theorem Ds_zero : ∀ (r : List Int), Ds r (fun _ => 0) = fun _ => 0
  | [] => rfl
  | p :: r => by
    have : D p (fun _ => (0 : Rat)) = fun _ => 0 := by funext a; simp only [D]; grind
    show Ds r (D p _) = _
    rw [this, Ds_zero r]
theorem Dm_zero (L : Int) : ∀ m : Nat, Dm L m (fun _ => 0) = fun _ => 0
  | 0 => rfl
  | m + 1 => by
    have : D L (fun _ => (0 : Rat)) = fun _ => 0 := by funext a; simp only [D]; grind
    show Dm L m (D L _) = _
    rw [this, Dm_zero L m]
theorem D_local {p : Int} {f g : Int → Rat} {B : Int} (hp : 0 ≤ p) (h : ∀ a, B ≤ a → f a = g a) : ∀ a, B + p ≤ a → D p f a = D p g a := fun a ha => by
  simp only [D, h a (by omega), h (a - p) (by omega)]
theorem Ds_local : ∀ {r : List Int} {f g : Int → Rat} {B : Int}, (∀ p ∈ r, 0 < p) → (∀ a, B ≤ a → f a = g a) → ∀ a, B + r.sum ≤ a → Ds r f a = Ds r g a
  | [], f, g, B, _, h, a, ha => h a (by simpa using ha)
  | p :: r, f, g, B, hp, h, a, ha => Ds_local (r := r) (fun q hq => hp q (List.mem_cons_of_mem _ hq)) (D_local (Int.le_of_lt (hp p (by simp))) h) a (by simp only [List.sum_cons] at ha; omega)

/-- forward -/
theorem fwd {L : Int} (hL : 0 < L) : ∀ (m : Nat) (h : Int → Rat), (∀ a, m * L ≤ a → Dm L m h a = 0) → (∀ a, 0 ≤ a → a < m * L → h a = 0) → ∀ a, 0 ≤ a → h a = 0
  | 0, h, h1, _, a, ha => h1 a (by simpa using ha)
  | m + 1, h, h1, h2, a, ha => by
    have e0 : ((m + 1 : Nat) : Int) * L = m * L + L := by rw [Int.natCast_add, Int.add_mul]; omega
    rw [e0] at h1 h2
    have s := fwd hL m (fun a => D L h (a + L)) (fun a ha => by rw [Dm_shift]; exact h1 (a + L) (by omega)) fun a h0 h3 => by
      show h (a + L) - h (a + L - L) = 0
      rw [h2 (a + L) (by omega) (by omega), h2 (a + L - L) (by omega) (by omega)]; grind
    have st : ∀ a, L ≤ a → h a = h (a - L) := fun a ha => by
      have := s (a - L) (by omega)
      simp only [D] at this
      rw [show a - L + L = a by omega] at this
      grind
    have nn : 0 ≤ m * L := Int.mul_nonneg (by omega) (by omega)
    have key : ∀ (n : Nat) (a : Int), 0 ≤ a → a < n → h a = 0 := by
      intro n
      induction n with
      | zero => intro a h0 h3; omega
      | succ n ih =>
        intro a h0 h3
        by_cases hl : a < L
        · exact h2 a h0 (by omega)
        · rw [st a (by omega)]; exact ih (a - L) (by omega) (by omega)
    exact key (a.toNat + 1) a ha (by omega)
/-- back -/
theorem back {L : Int} (hL : 0 < L) : ∀ (m : Nat) (B : Int) (h : Int → Rat), (∀ a, B + m * L ≤ a → Dm L m h a = 0) → (∀ a, 0 ≤ a → h a = 0) → ∀ a, B ≤ a → h a = 0
  | 0, B, h, h1, _, a, ha => h1 a (by simpa using ha)
  | m + 1, B, h, h1, h2, a, ha => by
    have e0 : ((m + 1 : Nat) : Int) * L = m * L + L := by rw [Int.natCast_add, Int.add_mul]; omega
    rw [e0] at h1
    have s := back hL m B (fun a => D L h (a + L)) (fun a ha => by rw [Dm_shift]; exact h1 (a + L) (by omega)) fun a h0 => by
      show h (a + L) - h (a + L - L) = 0
      rw [h2 (a + L) (by omega), h2 (a + L - L) (by omega)]; grind
    have st : ∀ a, B ≤ a → h a = h (a + L) := fun a ha => by
      have := s a ha
      simp only [D] at this
      rw [show a + L - L = a by omega] at this
      grind
    have key : ∀ (n : Nat) (a : Int), B ≤ a → -a ≤ n → h a = 0 := by
      intro n
      induction n with
      | zero => intro a h0 h3; exact h2 a (by omega)
      | succ n ih =>
        intro a h0 h3
        by_cases hl : 0 ≤ a
        · exact h2 a hl
        · rw [st a h0]; exact ih (a + L) (by omega) (by omega)
    exact key a.natAbs a ha (by omega)
/-- the value at the edge -/
theorem edge {L : Int} (hL : 0 < L) : ∀ (m : Nat) (a : Int) (h : Int → Rat), (∀ b, a - m * L < b → h b = 0) → Dm L m h a = (-1) ^ m * h (a - m * L)
  | 0, a, h, _ => by
    have e : a - ((0 : Nat) : Int) * L = a := by simp
    rw [e]; simp only [Dm]; grind
  | m + 1, a, h, hz => by
    have e0 : ((m + 1 : Nat) : Int) * L = m * L + L := by rw [Int.natCast_add, Int.add_mul]; omega
    rw [e0] at hz
    rw [e0]
    show Dm L m (D L h) a = _
    rw [edge hL m a (D L h) fun b hb => by
      show h b - h (b - L) = 0
      rw [hz b (by omega), hz (b - L) (by omega)]; grind]
    show (-1 : Rat) ^ m * (h (a - m * L) - h (a - m * L - L)) = _
    rw [hz (a - m * L) (by omega), show a - m * L - L = a - (m * L + L) by omega, Rat.pow_succ]
    grind
/-- a window -/
theorem window : ∀ (r : List Int) (c : Int) (K : Int → Rat), (∀ p ∈ r, 0 < p) → (∀ a, Ds r K a = 0) → (∀ a, c ≤ a → a < c + r.sum → K a = 0) → ∀ a, K a = 0
  | [], _, _, _, h, _, a => h a
  | p :: r, c, K, hp, h1, h2, a => by
    have p0 := hp p (by simp)
    have rs : 0 ≤ r.sum := by
      have : ∀ r : List Int, (∀ p ∈ r, 0 < p) → 0 ≤ r.sum := by
        intro r
        induction r with
        | nil => intro _; simp
        | cons x r ih => intro h; rw [List.sum_cons]; have := h x (by simp); have := ih fun q hq => h q (List.mem_cons_of_mem _ hq); omega
      exact this r fun q hq => hp q (List.mem_cons_of_mem _ hq)
    simp only [List.sum_cons] at h2
    have s := window r (c + p) (D p K) (fun q hq => hp q (List.mem_cons_of_mem _ hq)) h1 fun a h3 h4 => by
      show K a - K (a - p) = 0
      rw [h2 a (by omega) (by omega), h2 (a - p) (by omega) (by omega)]; grind
    have st : ∀ a, K a = K (a - p) := fun a => by
      have := s a
      simp only [D] at this
      grind
    have up : ∀ (n : Nat) (a : Int), c ≤ a → a < c + n → K a = 0 := by
      intro n
      induction n with
      | zero => intro a h0 h3; omega
      | succ n ih =>
        intro a h0 h3
        by_cases hl : a < c + p
        · exact h2 a h0 (by omega)
        · rw [st a]; exact ih (a - p) (by omega) (by omega)
    have dn : ∀ (n : Nat) (a : Int), c - n ≤ a → K a = 0 := by
      intro n
      induction n with
      | zero => intro a h0; exact up ((a - c).toNat + 1) a (by omega) (by omega)
      | succ n ih =>
        intro a h0
        by_cases hl : c ≤ a
        · exact up ((a - c).toNat + 1) a hl (by omega)
        · have := st (a + p)
          rw [show a + p - p = a by omega] at this
          rw [← this]; exact ih (a + p) (by omega)
    exact dn (c - a).natAbs a (by omega)
end Qu
end

section
-- QuB
namespace Qu
/-- a sum of k shifts -/
def A (p : Int) : Nat → (Int → Rat) → Int → Rat
  | 0, _, _ => 0
  | k + 1, g, a => g a + A p k g (a - p)
theorem A_D (p q : Int) : ∀ (k : Nat) (g : Int → Rat), A p k (D q g) = D q (A p k g)
  | 0, g => by funext a; simp only [A, D]; grind
  | k + 1, g => by
    funext a
    have e : a - p - q = a - q - p := by omega
    simp only [A, D, A_D p q k, e]; grind
theorem D_A (p : Int) : ∀ (k : Nat) (g : Int → Rat), D p (A p k g) = D (k * p) g
  | 0, g => by funext a; simp only [A, D]; simp; grind
  | k + 1, g => by
    funext a
    have ih := congrFun (D_A p k g) (a - p)
    have e0 : ((k + 1 : Nat) : Int) * p = k * p + p := by rw [Int.natCast_add, Int.add_mul]; omega
    rw [e0]
    simp only [D] at ih
    simp only [A, D]
    have e1 : a - p - k * p = a - (k * p + p) := by omega
    rw [e1] at ih
    grind
theorem A_top {p : Int} (hp : 0 < p) : ∀ (k : Nat) (B : Int) (g : Int → Rat), (∀ a, B < a → g a = 0) → (∀ a, B + k * p < a → A p (k + 1) g a = 0) ∧ A p (k + 1) g (B + k * p) = g B
  | 0, B, g, h => by
    refine ⟨fun a ha => ?_, ?_⟩
    · simp only [A]; rw [h a (by simpa using ha)]; grind
    · simp only [A]; simp; grind
  | k + 1, B, g, h => by
    have ih := A_top hp k B g h
    have e0 : ((k + 1 : Nat) : Int) * p = k * p + p := by rw [Int.natCast_add, Int.add_mul]; omega
    have nn : 0 ≤ k * p := Int.mul_nonneg (by omega) (by omega)
    rw [e0]
    refine ⟨fun a ha => ?_, ?_⟩
    · show g a + A p (k + 1) g (a - p) = 0
      rw [h a (by omega), ih.1 (a - p) (by omega)]; grind
    · show g (B + (k * p + p)) + A p (k + 1) g (B + (k * p + p) - p) = g B
      rw [h _ (by omega), show B + (k * p + p) - p = B + k * p by omega, ih.2]; grind
def W (L : Int) : List Int → (Int → Rat) → Int → Rat
  | [], g => g
  | p :: r, g => W L r (A p (L / p).toNat g)
theorem W_D (L q : Int) : ∀ (r : List Int) (g : Int → Rat), W L r (D q g) = D q (W L r g)
  | [], _ => rfl
  | p :: r, g => by
    show W L r (A p _ (D q g)) = D q (W L r (A p _ g))
    rw [A_D, W_D L q r]
def Pos (L : Int) (r : List Int) : Prop := ∀ p ∈ r, 0 < p ∧ p ∣ L
theorem Pos.tail {L p : Int} {r : List Int} (h : Pos L (p :: r)) : Pos L r := fun q hq => h q (List.mem_cons_of_mem _ hq)
theorem quot {L p : Int} (hL : 0 < L) (h : 0 < p ∧ p ∣ L) : ∃ k : Nat, (L / p).toNat = k + 1 ∧ (k : Int) * p = L - p := by
  obtain ⟨h0, c, rfl⟩ := h
  have c0 : 0 < c := by
    rcases Int.lt_trichotomy c 0 with z | z | z
    · have := Int.mul_neg_of_pos_of_neg h0 z; omega
    · subst z; simp at hL
    · exact z
  rw [Int.mul_ediv_cancel_left _ (by omega)]
  refine ⟨c.toNat - 1, by omega, ?_⟩
  have e : ((c.toNat - 1 : Nat) : Int) = c - 1 := by omega
  rw [e, Int.sub_mul, Int.mul_comm c p]; omega
theorem W_top {L : Int} (hL : 0 < L) : ∀ (r : List Int) (B : Int) (g : Int → Rat), Pos L r → (∀ a, B < a → g a = 0) → (∀ a, B + r.length * L - r.sum < a → W L r g a = 0) ∧ W L r g (B + r.length * L - r.sum) = g B
  | [], B, g, _, h => by
    refine ⟨fun a ha => h a (by simpa using ha), ?_⟩
    simp [W]
  | p :: r, B, g, hp, h => by
    obtain ⟨k, hk, e⟩ := quot hL (hp p (by simp))
    have t := A_top (hp p (by simp)).1 k B g h
    have ih := W_top hL r (B + k * p) (A p (k + 1) g) hp.tail t.1
    have e0 : ((p :: r).length : Int) * L = r.length * L + L := by rw [List.length_cons, Int.natCast_add, Int.add_mul]; omega
    have e1 : B + k * p + r.length * L - r.sum = B + (p :: r).length * L - (p :: r).sum := by rw [e0, List.sum_cons]; omega
    simp only [W, hk]
    rw [← e1]
    exact ⟨ih.1, ih.2.trans t.2⟩
def cast (f : Int → Int) (a : Int) : Rat := (f a : Int)
theorem D_S {p : Int} {f : Int → Int} (hp : 0 < p) (hf : ∀ a, a < 0 → f a = 0) : D p (cast (S p f)) = cast f := by
  funext a
  have := S_eq hp hf a
  simp only [D, cast]
  rw [this, Rat.intCast_add]; grind
theorem Ds_fold : ∀ (r : List Int) (f : Int → Int), (∀ p ∈ r, 0 < p) → (∀ a, a < 0 → f a = 0) → Ds r (cast (r.foldl (fun f p => S p f) f)) = cast f
  | [], _, _, _ => rfl
  | p :: r, f, hp, hf => by
    show Ds r (D p (cast (r.foldl _ (S p f)))) = cast f
    rw [Ds_D, Ds_fold r (S p f) (fun q hq => hp q (List.mem_cons_of_mem _ hq)) (fun a h => S_neg h), D_S (hp p (by simp)) hf]
theorem Dm_fold {L : Int} (hL : 0 < L) : ∀ (r : List Int) (f : Int → Int), Pos L r → (∀ a, a < 0 → f a = 0) → Dm L r.length (cast (r.foldl (fun f p => S p f) f)) = W L r (cast f)
  | [], _, _, _ => rfl
  | p :: r, f, hp, hf => by
    obtain ⟨k, hk, e⟩ := quot hL (hp p (by simp))
    show Dm L r.length (D L (cast (r.foldl _ (S p f)))) = W L r (A p _ (cast f))
    rw [Dm_D, Dm_fold hL r (S p f) hp.tail (fun a h => S_neg h), ← W_D, hk]
    congr 1
    rw [← D_S (hp p (by simp)).1 hf, A_D, D_A]
    congr 1
    have : ((k + 1 : Nat) : Int) * p = k * p + p := by rw [Int.natCast_add, Int.add_mul]; omega
    omega

/-- a function that goes round with L, of powers below m, that tells the numbers of plans first -/
structure Round (L : Int) (parts : List Int) (F : Int → Rat) : Prop where
  ne : parts ≠ []
  pos : 0 < L
  ok : Pos L parts
  flat : ∀ a, Dm L parts.length F a = 0
  first : ∀ a, 0 ≤ a → a < parts.length * L → F a = cast (N parts) a
section
variable {L : Int} {parts : List Int} {F : Int → Rat} (R : Round L parts F)
include R
theorem Round.dif (a : Int) (ha : parts.length * L - parts.sum < a) : Dm L parts.length (fun a => F a - cast (N parts) a) a = 0 := by
  rw [Dm_sub, show N parts = parts.foldl (fun f p => S p f) one0 from rfl, Dm_fold R.pos parts one0 R.ok fun a h => if_neg (by omega)]
  show Dm L parts.length F a - W L parts (cast one0) a = 0
  rw [R.flat, (W_top R.pos parts 0 (cast one0) R.ok fun a ha => by simp only [cast, one0]; rw [if_neg (by omega)]; rfl).1 a (by omega)]
  grind
theorem Round.dif0 : Dm L parts.length (fun a => F a - cast (N parts) a) (parts.length * L - parts.sum) = -1 := by
  have := (W_top R.pos parts 0 (cast one0) R.ok fun a ha => by simp only [cast, one0]; rw [if_neg (by omega)]; rfl).2
  rw [Int.zero_add] at this
  rw [Dm_sub, show N parts = parts.foldl (fun f p => S p f) one0 from rfl, Dm_fold R.pos parts one0 R.ok fun a h => if_neg (by omega)]
  show Dm L parts.length F _ - W L parts (cast one0) _ = -1
  rw [R.flat, this]
  simp only [cast, one0]
  grind
theorem Round.sum0 : 0 < parts.sum := by
  have : ∀ r : List Int, (∀ p ∈ r, 0 < p) → 0 ≤ r.sum := by
    intro r
    induction r with
    | nil => intro _; simp
    | cons x r ih => intro h; rw [List.sum_cons]; have := h x (by simp); have := ih fun q hq => h q (List.mem_cons_of_mem _ hq); omega
  cases parts with
  | nil => exact absurd rfl R.ne
  | cons x r =>
    have hx := (R.ok x (by simp)).1
    have := this r fun p hp => (R.ok p (List.mem_cons_of_mem _ hp)).1
    rw [List.sum_cons]; omega
/-- from 0 on -/
theorem Round.up (a : Int) (ha : 0 ≤ a) : F a = cast (N parts) a := by
  have ps := R.sum0
  have := fwd R.pos parts.length (fun a => F a - cast (N parts) a) (fun a ha => R.dif a (by omega)) (fun a h1 h2 => by rw [R.first a h1 h2]; exact Rat.sub_self) a ha
  grind
theorem Round.near (a : Int) (ha : - parts.sum < a) : F a = cast (N parts) a := by
  have := back R.pos parts.length (1 - parts.sum) (fun a => F a - cast (N parts) a) (fun a ha => R.dif a (by omega)) (fun a h1 => by rw [R.up a h1]; exact Rat.sub_self) a (by omega)
  grind
theorem Round.nought (a : Int) (ha : - parts.sum < a) (h : a < 0) : F a = 0 := by
  rw [R.near a ha]
  simp only [cast, N_neg parts h]; rfl
omit R in
theorem neg_pow (m : Nat) : (-1 : Rat) ^ m * (-1) ^ m = 1 := by
  induction m with
  | zero => grind
  | succ m ih => rw [Rat.pow_succ]; grind
theorem Round.at0 : F (- parts.sum) = (-1) ^ (parts.length + 1) := by
  have h := R.dif0
  rw [edge R.pos parts.length (parts.length * L - parts.sum) _ fun b hb => by
    show F b - cast (N parts) b = 0
    rw [R.near b (by omega)]; exact Rat.sub_self] at h
  rw [show parts.length * L - parts.sum - parts.length * L = - parts.sum by omega] at h
  have ps := R.sum0
  have z : cast (N parts) (- parts.sum) = 0 := by simp only [cast, N_neg parts (show - parts.sum < 0 by omega)]; rfl
  have h : (-1 : Rat) ^ parts.length * (F (- parts.sum) - cast (N parts) (- parts.sum)) = -1 := h
  rw [z] at h
  have e := neg_pow parts.length
  rw [Rat.pow_succ]
  grind
omit R in
/-- two functions that go round and agree far off agree everywhere -/
theorem same_all {L : Int} (hL : 0 < L) {m : Nat} {f g : Int → Rat} {B : Int} (hf : ∀ a, Dm L m f a = 0) (hg : ∀ a, Dm L m g a = 0) (h : ∀ a, B ≤ a → f a = g a) (a : Int) : f a = g a := by
  have := back hL m (a - B) (fun a => f (a + B) - g (a + B)) (fun b _ => by
    rw [Dm_sub, Dm_shift, Dm_shift]
    show Dm L m f (b + B) - Dm L m g (b + B) = 0
    rw [hf, hg]; exact Rat.sub_self) (fun b hb => by rw [h (b + B) (by omega)]; exact Rat.sub_self) (a - B) (by omega)
  rw [show a - B + B = a by omega] at this
  grind
theorem Round.parts0 (a : Int) : Ds parts F a = 0 := by
  refine same_all R.pos (m := parts.length) (f := Ds parts F) (g := fun _ => 0) (B := parts.sum + 1) (fun a => ?_) (fun a => by rw [Dm_zero]) (fun a ha => ?_) a
  · rw [Dm_Ds, show Dm L parts.length F = fun _ => 0 from funext R.flat, Ds_zero]
  · have ps := R.sum0
    rw [Ds_local (fun p hp => (R.ok p hp).1) (B := 0) R.up a (by omega), show N parts = parts.foldl (fun f p => S p f) one0 from rfl, Ds_fold parts one0 (fun p hp => (R.ok p hp).1) fun a h => if_neg (by omega)]
    simp only [cast, one0]
    rw [if_neg (by omega)]; rfl
omit R in
theorem Ds_flip : ∀ (r : List Int) (c : Int) (g : Int → Rat) (a : Int), Ds r (fun b => g (c - b)) a = (-1) ^ r.length * Ds r g (c - a + r.sum)
  | [], c, g, a => by simp only [Ds, List.length_nil, List.sum_nil]; rw [show c - a + 0 = c - a by omega]; grind
  | p :: r, c, g, a => by
    have e : D p (fun b => g (c - b)) = fun b => (-1) * (fun b => D p g (b + p)) (c - b) := by
      funext b
      simp only [D]
      rw [show c - (b - p) = c - b + p by omega, show c - b + p - p = c - b by omega]; grind
    show Ds r (D p _) a = _
    rw [e, Ds_mul]
    show -1 * Ds r (fun b => (fun b => D p g (b + p)) (c - b)) a = _
    rw [Ds_flip r c (fun b => D p g (b + p)) a]
    have e2 : ∀ (r : List Int) (f : Int → Rat), Ds r (fun b => f (b + p)) = fun b => Ds r f (b + p) := by
      intro r
      induction r with
      | nil => intro f; rfl
      | cons q r ih =>
        intro f
        show Ds r (D q _) = _
        rw [D_shift, ih]; rfl
    rw [e2]
    show -1 * ((-1) ^ r.length * Ds r (D p g) (c - a + r.sum + p)) = (-1) ^ (r.length + 1) * Ds r (D p g) (c - a + (p :: r).sum)
    rw [List.sum_cons, show c - a + (p + r.sum) = c - a + r.sum + p by omega, Rat.pow_succ]; grind
/-- told back below 0 -/
theorem Round.back (a : Int) : F (- a) = (-1) ^ (parts.length + 1) * F (a - parts.sum) := by
  have ps := R.sum0
  have key := window parts (1 - parts.sum) (fun a => F a - (-1) ^ (parts.length + 1) * (fun b => F (- parts.sum - b)) a) (fun p hp => (R.ok p hp).1) (fun a => by
    rw [Ds_sub, Ds_mul]
    show Ds parts F a - (-1) ^ (parts.length + 1) * Ds parts (fun b => F (- parts.sum - b)) a = 0
    rw [R.parts0]
    show 0 - (-1) ^ (parts.length + 1) * Ds parts (fun b => F (- parts.sum - b)) a = 0
    rw [Ds_flip, R.parts0]; grind) (fun a h1 h2 => by
    show F a - (-1) ^ (parts.length + 1) * F (- parts.sum - a) = 0
    by_cases h0 : a = 0
    · subst h0
      rw [show - parts.sum - 0 = - parts.sum by omega, R.at0, R.up 0 (Int.le_refl 0), neg_pow]
      have : N parts 0 = 1 := by
        have : ∀ (r : List Int) (f : Int → Int), (∀ p ∈ r, 0 < p) → (∀ a, a < 0 → f a = 0) → r.foldl (fun f p => S p f) f 0 = f 0 := by
          intro r
          induction r with
          | nil => intro f _ _; rfl
          | cons p r ih =>
            intro f hp hf
            rw [List.foldl_cons, ih (S p f) (fun q hq => hp q (List.mem_cons_of_mem _ hq)) (fun a h => S_neg h), S_eq (hp p (by simp)) hf, S_neg (show 0 - p < 0 by have := hp p (by simp); omega)]; omega
        exact this parts one0 (fun p hp => (R.ok p hp).1) fun a h => if_neg (by omega)
      simp only [cast, this]; grind
    · rw [R.nought a (by omega) (by omega), R.nought (- parts.sum - a) (by omega) (by omega)]; grind) (- a)
  have key : F (-a) - (-1) ^ (parts.length + 1) * F (- parts.sum - - a) = 0 := key
  rw [show - parts.sum - - a = a - parts.sum by omega] at key
  grind
end
/-- one part more -/
theorem Round.more {L p : Int} {parts : List Int} {F F2 : Int → Rat} (R : Round L parts F) (R2 : Round L (parts ++ [p]) F2) (a : Int) : F2 a = F a + F2 (a - p) := by
  have p0 := (R2.ok p (by simp)).1
  have hm : (parts ++ [p]).length = parts.length + 1 := by simp
  have d2 : ∀ a, Dm L (parts.length + 1) F2 a = 0 := fun a => by have := R2.flat a; rwa [hm] at this
  have e1 := same_all R.pos (m := parts.length + 1) (f := D p F2) (g := F) (B := p) (fun a => by rw [Dm_D, show Dm L (parts.length + 1) F2 = fun _ => 0 from funext d2]; simp only [D]; grind)
    (fun a => by show Dm L parts.length (D L F) a = 0; rw [Dm_D, show Dm L parts.length F = fun _ => 0 from funext R.flat]; simp only [D]; grind) (fun a ha => by
      simp only [D]
      rw [R2.up a (by omega), R2.up (a - p) (by omega), R.up a (by omega)]
      have := N_more parts p0 a
      simp only [cast]
      rw [this, Rat.intCast_add]; grind) a
  simp only [D] at e1
  grind
end Qu
end

section
-- QuC
namespace Qu
def ev : List Rat → Rat → Rat
  | [], _ => 0
  | c :: r, x => c + x * ev r x
def psum (a b : List Rat) : List Rat := List.zipWith (· + ·) a b
theorem ev_psum (x : Rat) : ∀ {a b : List Rat}, a.length = b.length → ev (psum a b) x = ev a x + ev b x
  | [], [], _ => by simp only [psum, List.zipWith_nil_left, ev]; grind
  | c :: a, d :: b, h => by
    have ih := ev_psum x (a := a) (b := b) (by simpa using h)
    simp only [psum] at ih
    simp only [psum, List.zipWith_cons_cons, ev, ih]; grind
theorem ev_map (x k : Rat) : ∀ a : List Rat, ev (a.map (· * k)) x = ev a x * k
  | [] => by simp only [List.map_nil, ev]; grind
  | c :: a => by simp only [List.map_cons, ev, ev_map x k a]; grind
theorem ev_zero (x : Rat) : ∀ n : Nat, ev (List.replicate n 0) x = 0
  | 0 => rfl
  | n + 1 => by simp only [List.replicate_succ, ev, ev_zero x n]; grind
/-- times first + second x, as long as it was; c is carried in -/
def pt (f s : Rat) : Rat → List Rat → List Rat
  | _, [] => []
  | c, a :: r => (a * f + c) :: pt f s (a * s) r
theorem pt_length (f s : Rat) : ∀ (c : Rat) (p : List Rat), (pt f s c p).length = p.length
  | _, [] => rfl
  | c, a :: r => by simp only [pt, List.length_cons, pt_length f s _ r]
def ov (s x : Rat) : Rat → List Rat → Rat
  | c, [] => c
  | _, a :: r => x * ov s x (a * s) r
theorem ev_pt (f s x : Rat) : ∀ (c : Rat) (p : List Rat), ev (pt f s c p) x + ov s x c p = ev p x * (f + s * x) + c
  | c, [] => by simp only [pt, ov, ev]; grind
  | c, a :: r => by
    have ih := ev_pt f s x (a * s) r
    simp only [pt, ov, ev]
    grind
theorem ov_zero (s x : Rat) (k : Nat) : ∀ (c : Rat) (q : List Rat), ov s x c (q ++ List.replicate (k + 1) 0) = 0
  | c, a :: q => by
    show x * ov s x (a * s) (q ++ _) = 0
    rw [ov_zero s x k]; grind
  | c, [] => by
    have key : ∀ k : Nat, ov s x 0 (List.replicate k 0) = 0 := by
      intro k
      induction k with
      | zero => rfl
      | succ k ih =>
        show x * ov s x (0 * s) (List.replicate k 0) = 0
        rw [show (0 : Rat) * s = 0 by grind, ih]; grind
    show x * ov s x (0 * s) (List.replicate k 0) = 0
    rw [show (0 : Rat) * s = 0 by grind, key]; grind
theorem pt_zeros (f s : Rat) : ∀ k : Nat, pt f s 0 (List.replicate k 0) = List.replicate k 0
  | 0 => rfl
  | k + 1 => by
    show (0 * f + 0) :: pt f s (0 * s) (List.replicate k 0) = _
    rw [show (0 : Rat) * s = 0 by grind, pt_zeros f s k, show (0 : Rat) * f + 0 = 0 by grind]; rfl
theorem pt_tail (f s : Rat) (k : Nat) : ∀ (c : Rat) (q : List Rat), ∃ q', q'.length = q.length + 1 ∧ pt f s c (q ++ List.replicate (k + 1) 0) = q' ++ List.replicate k 0
  | c, [] => ⟨[c], rfl, by
    show (0 * f + c) :: pt f s (0 * s) (List.replicate k 0) = _
    rw [show (0 : Rat) * s = 0 by grind, pt_zeros f s k, show (0 : Rat) * f + c = c by grind]; rfl⟩
  | c, a :: q => by
    obtain ⟨q', h1, h2⟩ := pt_tail f s k (a * s) q
    exact ⟨(a * f + c) :: q', by simp [h1], by show (a * f + c) :: pt f s (a * s) (q ++ _) = _; rw [h2]; rfl⟩
/-! ### Newton -/
def ch : Nat → Nat → Rat
  | _, 0 => 1
  | 0, _ + 1 => 0
  | j + 1, s + 1 => ch j (s + 1) + ch j s
theorem ch_zero (j : Nat) : ch j 0 = 1 := by cases j <;> rfl
theorem ch_step : ∀ (j t : Nat), ch j (t + 1) * ((t : Rat) + 1) = ch j t * ((j : Rat) - (t : Rat))
  | 0, 0 => by simp only [ch]; simp; grind
  | 0, t + 1 => by simp only [ch]; grind
  | j + 1, 0 => by
    have h := ch_step j 0
    simp only [ch, ch_zero] at h ⊢
    simp only [Rat.natCast_add] at h ⊢
    grind
  | j + 1, t + 1 => by
    have h1 := ch_step j (t + 1)
    have h2 := ch_step j t
    simp only [ch] at h1 h2 ⊢
    simp only [Rat.natCast_add] at h1 h2 ⊢
    grind
def sumTo : Nat → (Nat → Rat) → Rat
  | 0, _ => 0
  | n + 1, f => sumTo n f + f n
theorem sumTo_add (n : Nat) (f g : Nat → Rat) : sumTo n (fun s => f s + g s) = sumTo n f + sumTo n g := by
  induction n with
  | zero => simp only [sumTo]; grind
  | succ n ih => simp only [sumTo, ih]; grind
theorem sumTo_shift (n : Nat) (f : Nat → Rat) : sumTo (n + 1) f = f 0 + sumTo n fun s => f (s + 1) := by
  induction n with
  | zero => simp only [sumTo]; grind
  | succ n ih => rw [sumTo, ih]; simp only [sumTo]; grind
theorem sumTo_zero (n : Nat) (f : Nat → Rat) (h : ∀ s, f s = 0) : sumTo n f = 0 := by
  induction n with
  | zero => rfl
  | succ n ih => simp only [sumTo, ih, h]; grind
def dl (y : Nat → Rat) (i : Nat) : Rat := y (i + 1) - y i
def dls : Nat → (Nat → Rat) → Nat → Rat
  | 0, y => y
  | s + 1, y => dls s (dl y)
theorem newton : ∀ (j n i : Nat) (y : Nat → Rat), j < n → sumTo n (fun s => ch j s * dls s y i) = y (i + j)
  | 0, n + 1, i, y, _ => by
    rw [sumTo_shift, sumTo_zero n _ fun s => by simp only [ch]; grind]
    simp only [ch, dls]
    grind
  | j + 1, n + 1, i, y, h => by
    have h1 := newton j (n + 1) i y (by omega)
    have h2 := newton j n i (dl y) (by omega)
    rw [sumTo_shift] at h1
    rw [sumTo_shift, show (fun s => ch (j + 1) (s + 1) * dls (s + 1) y i) = fun s => ch j (s + 1) * dls (s + 1) y i + ch j s * dls s (dl y) i from by
      funext s
      simp only [ch, dls]; grind, sumTo_add, h2]
    simp only [ch_zero] at h1 ⊢
    simp only [dl]
    have e : i + (j + 1) = i + j + 1 := by omega
    rw [e]
    grind
/-- poly_through's loop: what is left, the turn -/
def thr (a L : Int) : Nat → Nat → List Rat → List Rat → List Rat → List Rat
  | 0, _, found, _, _ => found
  | n + 1, t, found, part, ds => thr a L n (t + 1) (psum found (part.map (· * ds.getD 0 0))) (pt (Rat.divInt (-a - L * t) (L * (t + 1))) (Rat.divInt 1 (L * (t + 1))) 0 part) (List.zipWith (fun o u => u - o) ds ds.tail)
def tabD (y : Nat → Rat) (n : Nat) : List Rat := (List.range n).map y
theorem tabD_zip (y : Nat → Rat) (n : Nat) : List.zipWith (fun o u => u - o) (tabD y (n + 1)) (tabD y (n + 1)).tail = tabD (dl y) n := by
  apply List.ext_getElem
  · simp [tabD]
  · intro i h1 h2
    simp [tabD, dl]
theorem alg {A L T J c c' : Rat} (L0 : L ≠ 0) (t0 : T + 1 ≠ 0) (h : c' * (T + 1) = c * (J - T)) : c * ((-A - L * T) / (L * (T + 1)) + 1 / (L * (T + 1)) * (A + L * J)) = c' := by
  have k : L * (T + 1) ≠ 0 := by grind
  grind
theorem thr_ok (a : Int) {L : Int} (hL : 0 < L) : ∀ (n t : Nat) (found part : List Rat) (y : Nat → Rat), (0 < n → ∃ q : List Rat, q.length = t + 1 ∧ part = q ++ List.replicate (n - 1) 0) → found.length = n + t →
    (0 < n → ∀ j : Nat, ev part ((a : Rat) + L * j) = ch j t) → (thr a L n t found part (tabD y n)).length = n + t ∧ ∀ j : Nat, ev (thr a L n t found part (tabD y n)) ((a : Rat) + L * j) = ev found ((a : Rat) + L * j) + sumTo n (fun s => ch j (t + s) * dls s y 0)
  | 0, t, found, part, y, _, hf, _ => ⟨hf, fun j => by simp only [thr, sumTo]; grind⟩
  | n + 1, t, found, part, y, hq, hf, he' => by
    obtain ⟨q, hl, hq⟩ := hq (by omega)
    have hp : part.length = n + 1 + t := by rw [hq]; simp [hl]; omega
    have he := he' (by omega)
    clear he'
    have d0 : (tabD y (n + 1)).getD 0 0 = y 0 := by simp [tabD]
    simp only [thr, d0, tabD_zip]
    have hnew : (psum found (part.map (· * y 0))).length = n + (t + 1) := by simp [psum, hf, hp]; omega
    have L0 : (L : Rat) ≠ 0 := by intro z; have : (L : Rat) = ((0 : Int) : Rat) := z; rw [Rat.intCast_inj] at this; omega
    have t0 : ((t : Rat) + 1) ≠ 0 := by
      intro z
      have : ((t + 1 : Nat) : Rat) = ((0 : Nat) : Rat) := by rw [Rat.natCast_add]; exact z
      rw [Rat.natCast_inj] at this; omega
    have step : 0 < n → ∀ j : Nat, ev (pt (Rat.divInt (-a - L * t) (L * (t + 1))) (Rat.divInt 1 (L * (t + 1))) 0 part) ((a : Rat) + L * j) = ch j (t + 1) := fun hn j => by
      have h1 := ev_pt (Rat.divInt (-a - L * t) (L * (t + 1))) (Rat.divInt 1 (L * (t + 1))) ((a : Rat) + L * j) 0 part
      have h0 : ov (Rat.divInt 1 (L * (t + 1))) ((a : Rat) + L * j) 0 part = 0 := by
        have : n + 1 - 1 = n - 1 + 1 := by omega
        rw [hq, this]; exact ov_zero _ _ (n - 1) 0 q
      rw [h0, he j] at h1
      have h2 := ch_step j t
      have e1 : Rat.divInt (-a - L * (t : Int)) (L * ((t : Int) + 1)) = (-(a : Rat) - L * (t : Rat)) / ((L : Rat) * ((t : Rat) + 1)) := by
        rw [Rat.divInt_eq_div, Rat.intCast_sub, Rat.intCast_neg, Rat.intCast_mul, Rat.intCast_mul, Rat.intCast_add]; rfl
      have e2 : Rat.divInt 1 (L * ((t : Int) + 1)) = 1 / ((L : Rat) * ((t : Rat) + 1)) := by
        rw [Rat.divInt_eq_div, Rat.intCast_mul, Rat.intCast_add]; rfl
      generalize hZ : ev (pt _ _ 0 part) _ = Z at h1 ⊢
      rw [e1, e2, alg L0 t0 h2] at h1
      grind
    obtain ⟨r1, r2⟩ := thr_ok a hL n (t + 1) (psum found (part.map (· * y 0))) (pt (Rat.divInt (-a - L * t) (L * (t + 1))) (Rat.divInt 1 (L * (t + 1))) 0 part) (dl y)
      (fun hn => by
        obtain ⟨q', e1, e2⟩ := pt_tail (Rat.divInt (-a - L * t) (L * (t + 1))) (Rat.divInt 1 (L * (t + 1))) (n - 1) 0 q
        refine ⟨q', by omega, ?_⟩
        have : n + 1 - 1 = n - 1 + 1 := by omega
        rw [hq, this, e2]) hnew step
    refine ⟨by rw [r1]; omega, fun j => ?_⟩
    rw [r2 j, sumTo_shift, ev_psum _ (by simp [hf, hp]), ev_map, he j]
    have e : (fun s => ch j (t + (s + 1)) * dls (s + 1) y 0) = fun s => ch j (t + 1 + s) * dls s (dl y) 0 := by
      funext s
      rw [show t + (s + 1) = t + 1 + s by omega]; rfl
    rw [e]
    simp only [Nat.add_zero, dls]
    grind
/-- poly_through -/
def through (a L : Int) (y : Nat → Rat) (n : Nat) : List Rat := thr a L n 0 (List.replicate n 0) (1 :: List.replicate (n - 1) 0) (tabD y n)
theorem through_ok (a : Int) {L : Int} (hL : 0 < L) (n : Nat) (y : Nat → Rat) : (through a L y n).length = n ∧ ∀ j : Nat, j < n → ev (through a L y n) ((a : Rat) + L * j) = y j := by
  obtain ⟨h1, h2⟩ := thr_ok a hL n 0 (List.replicate n 0) (1 :: List.replicate (n - 1) 0) y (fun _ => ⟨[1], rfl, rfl⟩) (by simp) fun _ j => by
    show 1 + _ * ev (List.replicate (n - 1) 0) _ = ch j 0
    rw [ev_zero, ch_zero]; grind
  refine ⟨h1, fun j hj => ?_⟩
  have := h2 j
  rw [ev_zero] at this
  simp only [Nat.zero_add] at this
  rw [newton j n 0 y hj, Nat.zero_add] at this
  show ev (thr a L n 0 _ _ _) _ = _
  rw [this]; grind
/-! ### polynomials are flat -/
theorem ev_dif (L : Rat) : ∀ (m : Nat) (c : List Rat), c.length = m + 1 → ∃ c' : List Rat, c'.length = m ∧ ∀ x, ev c x - ev c (x - L) = ev c' x
  | 0, [c], _ => ⟨[], rfl, fun x => by simp only [ev]; grind⟩
  | m + 1, c :: r, h => by
    obtain ⟨d, h1, h2⟩ := ev_dif L m r (by simpa using h)
    -- x (r x) - (x - L) r (x - L) = L r x + (x - L) (r x - r (x - L))
    have hr : r.length = m + 1 := by simpa using h
    refine ⟨psum (r.map (· * L)) (psum (0 :: d) ((d ++ [0]).map (· * (-L)))), by simp [psum, hr, h1], fun x => ?_⟩
    have ea : ∀ (d : List Rat), ev (d ++ [0]) x = ev d x := by
      intro d
      induction d with
      | nil => simp only [List.nil_append, ev]; grind
      | cons u d ih => simp only [List.cons_append, ev, ih]
    rw [ev_psum x (by simp [psum, hr, h1]), ev_psum x (by simp), ev_map, ev_map, ea]
    have := h2 x
    simp only [ev]
    grind
theorem flat_ev (L : Int) : ∀ (m : Nat) (c : List Rat), c.length = m → ∀ a, Dm L m (fun a : Int => ev c (a : Rat)) a = 0
  | 0, [], _, a => rfl
  | m + 1, c, h, a => by
    obtain ⟨d, h1, h2⟩ := ev_dif (L : Rat) m c h
    have e : D L (fun a : Int => ev c (a : Rat)) = fun a : Int => ev d (a : Rat) := by
      funext a
      simp only [D]
      rw [Rat.intCast_sub, h2]
    show Dm L m (D L _) a = 0
    rw [e, flat_ev L m d h1 a]
/-- polynomials that go round -/
def qat (quasi : List (List Rat)) (a : Int) : Rat := ev (quasi.getD (a % quasi.length).toNat []) (a : Rat)
theorem Dm_class {L : Int} : ∀ (m : Nat) (f g : Int → Rat) (a : Int), (∀ k : Nat, f (a - k * L) = g (a - k * L)) → Dm L m f a = Dm L m g a
  | 0, f, g, a, h => by have := h 0; simpa [Dm] using this
  | m + 1, f, g, a, h => Dm_class m (D L f) (D L g) a fun k => by
    simp only [D]
    have e := h (k + 1)
    have e0 : ((k + 1 : Nat) : Int) * L = k * L + L := by rw [Int.natCast_add, Int.add_mul]; omega
    rw [e0] at e
    rw [h k, show a - k * L - L = a - (k * L + L) by omega, e]
theorem qat_flat {quasi : List (List Rat)} (m : Nat) (h : ∀ c ∈ quasi, c.length = m) (h0 : quasi ≠ []) (a : Int) : Dm (quasi.length : Int) m (qat quasi) a = 0 := by
  have pos : 0 < quasi.length := List.length_pos_iff.mpr h0
  have b1 : 0 ≤ a % quasi.length := Int.emod_nonneg _ (by omega)
  have b2 : a % quasi.length < quasi.length := Int.emod_lt_of_pos _ (by omega)
  have hi : (a % quasi.length).toNat < quasi.length := by omega
  rw [Dm_class m (qat quasi) (fun b : Int => ev (quasi.getD (a % quasi.length).toNat []) (b : Rat)) a fun k => by
    simp only [qat]
    have : (a - k * quasi.length) % (quasi.length : Int) = a % quasi.length := by
      rw [Int.sub_emod]; simp
    rw [this]]
  refine flat_ev _ m _ (h _ ?_) a
  rw [List.getD_eq_getElem?_getD, List.getElem?_eq_getElem hi]
  exact List.getElem_mem hi
/-- quasi_of, plain -/
def quasi (L : Nat) (parts : List Int) : List (List Rat) := (List.range L).map fun (r : Nat) => through r L (fun j => cast (N parts) ((r : Int) + L * j)) parts.length
theorem quasi_round {L : Nat} {parts : List Int} (ne : parts ≠ []) (hL : 0 < L) (ok : Pos L parts) : Round L parts (qat (quasi L parts)) where
  ne := ne
  pos := by omega
  ok := ok
  flat := fun a => by
    have hl : (quasi L parts).length = L := by simp [quasi]
    have := qat_flat (quasi := quasi L parts) parts.length (fun c hc => by
      simp only [quasi, List.mem_map] at hc
      obtain ⟨r, _, rfl⟩ := hc
      exact (through_ok r (by omega) parts.length _).1) (by intro z; rw [z] at hl; simp at hl; omega) a
    rw [hl] at this
    exact this
  first := fun a h0 h1 => by
    have hl : (quasi L parts).length = L := by simp [quasi]
    simp only [qat, hl]
    have b1 : 0 ≤ a % L := Int.emod_nonneg _ (by omega)
    have b2 : a % L < L := Int.emod_lt_of_pos _ (by omega)
    have hi : (a % L).toNat < L := by omega
    have e : (quasi L parts).getD (a % L).toNat [] = through (a % L).toNat L (fun j => cast (N parts) (((a % L).toNat : Int) + L * j)) parts.length := by
      simp [quasi, hi]
    rw [e]
    have hd : 0 ≤ a / L := Int.ediv_nonneg h0 (by omega)
    have hdl : a / L < parts.length := Int.ediv_lt_of_lt_mul (by omega) h1
    have ea : a = (a % L).toNat + L * (a / L).toNat := by
      have := Int.emod_add_mul_ediv a L
      rw [Int.toNat_of_nonneg b1, Int.toNat_of_nonneg hd]; omega
    have t := (through_ok ((a % L).toNat : Int) (L := L) (by omega) parts.length (fun j => cast (N parts) (((a % L).toNat : Int) + L * j))).2 (a / L).toNat (by omega)
    have er : (a : Rat) = (((a % L).toNat : Int) : Rat) + ((L : Int) : Rat) * ((a / L).toNat : Rat) := by
      have := congrArg (fun z : Int => (z : Rat)) ea
      simp only [Rat.intCast_add, Rat.intCast_mul] at this
      exact this
    rw [er, t, ← ea]
end Qu
end

section
-- MiniK
set_option Elab.async false
set_option linter.all false
set_option maxRecDepth 100000
set_option maxHeartbeats 4000000
/-! Mini, part K: counted rows -/
namespace Mi
open PySem PySem.Spec PyProof.Rows L2
def is_whole_0 : Ss := (.cons (.ret (.and (.cons (.isin (.pk 0) (.bi "int")) (.cons (.not (.isin (.pk 0) (.bi "bool"))) (.cons (.chain .lt .lt (.neg (.bin .pow (.cint 10) (.cint 18))) (.pk 0) (.bin .pow (.cint 10) (.cint 18))) .nil))))) .nil)
def B_is_whole : Fun := ⟨["value"], 1, is_whole_0⟩
def is_number_0 : Ss := (.cons (.ret (.and (.cons (.call "is_whole" (.cons (.var 0) .nil)) (.cons (.chain .le .le (.pk 1) (.pk 0) (.pk 2)) .nil)))) .nil)
def B_is_number : Fun := ⟨["value", "least", "most"], 3, is_number_0⟩
def is_counted_row_1 : Ss := (.cons (.ret (.cbl false)) .nil)
def is_counted_row_2 : Ss := (.cons (.ret (.bi .all (.cons (.comp [("part", 1)] (.nm 1) (.ex (.pk 0)) .no (.call "is_number" (.cons (.var 1) (.cons (.cint 1) (.cons (.cst "MOST_PART") .nil))))) .nil))) .nil)
def is_counted_row_0 : Ss := (.cons (.ifs (.or (.cons (.not (.isin (.pk 0) (.bi "tuple"))) (.cons (.not (.chain .le .le (.cint 1) (.bi .len (.cons (.pk 0) .nil)) (.cst "MOST_PARTS"))) .nil)))
 is_counted_row_1
 .nil) is_counted_row_2)
def B_is_counted_row : Fun := ⟨["value"], 2, is_counted_row_0⟩
def need_row_1 : Ss := (.cons (.rai "BadRow") .nil)
def need_row_0 : Ss := (.cons (.ifs (.not (.call "is_counted_row" (.cons (.var 0) .nil)))
 need_row_1
 .nil) .nil)
def B_need_row : Fun := ⟨["row"], 1, need_row_0⟩
def numbers_to_3 : Ss := (.cons (.setIx 2 (.pk 4) (.bin .add (.ix (.pk 2) (.pk 4)) (.ix (.pk 2) (.bin .sub (.pk 4) (.pk 3))))) .nil)
def numbers_to_2 : Ss := (.cons (.fors (.nm 4) (.rng2 (.cons (.pk 3) (.cons (.bin .add (.pk 1) (.cint 1)) .nil)))
 numbers_to_3) .nil)
def numbers_to_4 : Ss := (.cons (.retv 2) .nil)
def numbers_to_1 : Ss := (.cons (.fors (.nm 3) (.ex (.var 0))
 numbers_to_2) numbers_to_4)
def numbers_to_0 : Ss := (.cons (.asg 2 (.bin .add (.lst (.cons (.cint 1) .nil)) (.bin .mul (.lst (.cons (.cint 0) .nil)) (.pk 1)))) numbers_to_1)
def B_numbers_to : Fun := ⟨["row", "most"], 5, numbers_to_0⟩
def round_of_2 : Ss := (.cons (.asg 1 (.bin .mul (.bin .fdiv (.pk 1) (.call "common" (.cons (.var 1) (.cons (.var 2) .nil)))) (.pk 2))) .nil)
def round_of_3 : Ss := (.cons (.retv 1) .nil)
def round_of_1 : Ss := (.cons (.fors (.nm 2) (.ex (.var 0))
 round_of_2) round_of_3)
def round_of_0 : Ss := (.cons (.asg 1 (.cint 1)) round_of_1)
def B_round_of : Fun := ⟨["row"], 3, round_of_0⟩
structure HasCnt (T : Tab) : Prop where
  pr : ∀ f, T.prim f = none
  is_whole : T.fn.lookup ("is_whole" : Str) = some B_is_whole
  is_number : T.fn.lookup ("is_number" : Str) = some B_is_number
  is_counted_row : T.fn.lookup ("is_counted_row" : Str) = some B_is_counted_row
  need_row : T.fn.lookup ("need_row" : Str) = some B_need_row
  numbers_to : T.fn.lookup ("numbers_to" : Str) = some B_numbers_to
  MOST_PART : T.cints.lookup ("MOST_PART" : Str) = some 12
  MOST_PARTS : T.cints.lookup ("MOST_PARTS" : Str) = some 5
local macro_rules | `(tactic| walk_at "ev") => `(tactic| simp only [ev_var, ev_pk, ev_cint, ev_cbl, ev_cstr, ev_cnon, ev_cst, ev_tup, ev_lst, ev_dct0, ev_bin, ev_neg, ev_not, ev_and, ev_or, ev_cmp, ev_chain, ev_isn, ev_nisn, ev_isb, ev_ite, ev_call, ev_callk, ev_mk, ev_mkk, ev_bi, ev_isin, ev_attr, ev_ix, ev_sl, ev_slS, ev_rev, ev_comp, ev_caught, ev_callv, ev_sleft, ev_sturn, ev_sgreat,
  els_nil, els_cons, er_nil, er_cons, eo_no, eo_yes, ec_no, ec_yes, sr_ex, sr_cells, sr_rng1, sr_rng2, sr_zip, sr_enum, ea_one, ea_cons, eor_one, eor_cons,
  ss_nil, ss_cons, st_asg, st_asgT, st_par, st_setIx, st_app, st_appPop, st_ex, st_ret, st_retv, st_retN, st_ifs, st_fors, st_whs, st_rai, st_rai1, st_pass, st_brk, st_cnt, st_frz, st_aug, st_setL, st_setT, st_mkst, nlsV_v, intsOf_ints,
  nlsK_v, augK_v, optK_some, optK_none, intK_v, tupK_v, blK_v, trK_bl, trK_int, bin_add, bin_sub, bin_mul, bin_fdiv, bin_mod, bin_pow, bin_addS, bin_addT, bin_addL, bin_mulL, bin_mulT, cmp_lt, cmp_le, cmp_gt, cmp_ge, cmp_eq, cmp_ne,
  bi_lenT, bi_lenL, bi_lenC, bi_lenS, bi_abs, bi_int, bi_max2, bi_min2, bi_tupL, bi_tupT, bi_lstL, bi_lstT, ix_tup, ix_lst, sl_tup, sl_lst, slS_lst, rev_tup, rev_lst, walk_tup, walk_lst, walk_scr, rng1_v, rng2_v, zip_lst, zip_tup, enum_lst, eqK_int,
  setAll, freeze, wipeE, bindTg, pk_non, pk_bl, pk_int, pk_str, pk_tup, pk_lst, pk_dct, pk_ins, pk_exc, pk_fn, pk_obj, pk_scr, pk_nls, vr_non, vr_bl, vr_int, vr_str, vr_tup, vr_lst, vr_dct, vr_ins, vr_exc, vr_fn, vr_obj, vr_scr, fz_int, fz_bl, fz_str, fz_obj, fz_tup, fz_lst, fz_nls, fz_non, fz_dct, fz_ins, fz_exc, fz_scr, fz_fn,
  List.map_cons, List.map_nil, List.length_cons, List.length_nil, List.replicate_succ, List.replicate_zero, List.cons_append, List.nil_append, List.getElem?_cons_zero, List.getElem?_cons_succ, List.set_cons_zero, List.set_cons_succ, Nat.sub_self, Nat.reduceSub, Nat.reduceAdd, Nat.zero_add, stAt_W, set_W, decide_true, decide_false, if_true, if_false, Bool.false_eq_true, true_and, and_true, isi_non_bool, isi_non_int, isi_non_str, isi_non_tuple, isi_non_list, isi_non_dict, isi_non_ValueError, isi_bl_bool, isi_bl_int, isi_bl_str, isi_bl_tuple, isi_bl_list, isi_bl_dict, isi_bl_ValueError, isi_int_bool, isi_int_int, isi_int_str, isi_int_tuple, isi_int_list, isi_int_dict, isi_int_ValueError, isi_str_bool, isi_str_int, isi_str_str, isi_str_tuple, isi_str_list, isi_str_dict, isi_str_ValueError, isi_tup_bool, isi_tup_int, isi_tup_str, isi_tup_tuple, isi_tup_list, isi_tup_dict, isi_tup_ValueError, isi_lst_bool, isi_lst_int, isi_lst_str, isi_lst_tuple, isi_lst_list, isi_lst_dict, isi_lst_ValueError, isi_dct_bool, isi_dct_int, isi_dct_str, isi_dct_tuple, isi_dct_list, isi_dct_dict, isi_dct_ValueError, Bool.not_true, Bool.not_false, atI_0, atI_1, atI_2, le_sizeT, lt_sizeT, Nat.reduceLeDiff])


theorem cst_of {T : Tab} {x : Str} {i : Int} (h : T.cints.lookup x = some i) (d : Nat) : (gam T d).cst x = some (.int i) := by
  rw [gam_cst]
  show (T.cints.lookup x).map PV.int = _
  rw [h]; rfl
theorem pow18' : CPow 10 18 := ⟨by decide, by decide, by decide⟩
theorem is_whole_ok {T : Tab} (hT : HasCnt T) {μ : Mu} {i : Int} {d : Nat} {k kx : KE} (hk : k (.bl (decide (-(10 ^ 18) < i ∧ i < 10 ^ 18))) μ) : (gam T (d + 1)).call "is_whole" [.int i] μ k kx := by
  refine call_fn hT.pr hT.is_whole d ⟨rfl, ?_⟩
  simp only [B_is_whole, is_whole_0]
  walk_at "ev"
  refine ⟨pow18', ?_⟩
  have e : Int.toNat 18 = 18 := rfl
  rw [e]
  split
  · rename_i h
    have h := of_decide_eq_true h
    refine ⟨pow18', ?_⟩
    have : decide (-(10 ^ 18) < i ∧ i < 10 ^ 18) = decide (i < 10 ^ 18) := by
      rw [decide_eq_decide]; constructor
      · exact fun z => z.2
      · exact fun z => ⟨h, z⟩
    rw [← this]; exact hk
  · rename_i h
    have h : ¬ (-(10 : Int) ^ 18 < i) := by simpa using h
    have : decide (-(10 ^ 18) < i ∧ i < 10 ^ 18) = false := by
      rw [decide_eq_false_iff_not]; exact fun z => h z.1
    rw [← this]; exact hk
theorem is_number_ok {T : Tab} (hT : HasCnt T) {μ : Mu} {i a b : Int} {d : Nat} {k kx : KE} (ha : -(10 ^ 18) < a) (hb : b < 10 ^ 18) (hk : k (.bl (decide (a ≤ i ∧ i ≤ b))) μ) : (gam T (d + 2)).call "is_number" [.int i, .int a, .int b] μ k kx := by
  refine call_fn hT.pr hT.is_number (d + 1) ⟨rfl, ?_⟩
  simp only [B_is_number, is_number_0]
  walk_at "ev"
  refine is_whole_ok hT ?_
  walk_at "ev"
  split
  · split
    · rename_i h
      have h := of_decide_eq_true h
      have : decide (a ≤ i ∧ i ≤ b) = decide (i ≤ b) := by
        rw [decide_eq_decide]; constructor
        · exact fun z => z.2
        · exact fun z => ⟨h, z⟩
      rw [← this]; exact hk
    · rename_i h
      have h : ¬ (a ≤ i) := by simpa using h
      have : decide (a ≤ i ∧ i ≤ b) = false := by
        rw [decide_eq_false_iff_not]; exact fun z => h z.1
      rw [← this]; exact hk
  · rename_i h
    have h := of_decide_eq_false (Bool.not_eq_true _ ▸ h)
    have : decide (a ≤ i ∧ i ≤ b) = false := by
      rw [decide_eq_false_iff_not]; omega
    rw [← this]; exact hk
/-- a counted row -/
structure RowOk (row : List Int) : Prop where
  ne : row ≠ []
  le : row.length ≤ 5
  part : ∀ p ∈ row, 1 ≤ p ∧ p ≤ 12
theorem bi_all {bs : List Bool} {K : PV → Prop} : biK .all [.lst (bs.map PV.bl)] K = K (.bl (bs.all id)) := by
  have : blsOf (bs.map PV.bl) = some bs := by
    induction bs with
    | nil => rfl
    | cons b bs ih => simp [blsOf, ih]
  simp only [biK, this]
theorem is_counted_ok {T : Tab} (hT : HasCnt T) {μ : Mu} {row : List Int} {d : Nat} {k kx : KE} (h : RowOk row) (hk : k (.bl true) μ) : (gam T (d + 3)).call "is_counted_row" [.tup (row.map PV.int)] μ k kx := by
  refine call_fn hT.pr hT.is_counted_row (d + 2) ⟨rfl, ?_⟩
  have h0 : 0 < row.length := List.length_pos_iff.mpr h.ne
  have h5 := h.le
  simp only [B_is_counted_row, is_counted_row_0]
  walk_at "ev"
  simp only [cst_of hT.MOST_PARTS]
  walk_at "ev"
  simp only [List.length_map]
  rw [if_pos (by simp; omega)]
  have e1 : decide ((row.length : Int) ≤ 5) = true := by simp; omega
  rw [e1]
  walk_at "ev"
  simp only [is_counted_row_2]
  walk_at "ev"
  refine compE_map (fun p : Int => PV.int p) (fun p : Int => PV.bl true) row (le_size (by omega)) (fun p hp => ⟨_, rfl, fun N hN => ?_⟩) ?_
  · walk_at "ev"
    simp only [cst_of hT.MOST_PART]
    walk_at "ev"
    refine is_number_ok hT (by decide) (by decide) ?_
    have := h.part p hp
    rw [show decide (1 ≤ p ∧ p ≤ 12) = true by simp; exact this]
    exact hN _ rfl
  · have e : row.map (fun _ => PV.bl true) = (row.map fun _ => true).map PV.bl := by simp
    rw [e]
    rw [bi_all]
    have : (row.map fun _ => true).all id = true := by simp
    rw [this]
    exact hk
theorem need_row_ok {T : Tab} (hT : HasCnt T) {μ : Mu} {row : List Int} {d : Nat} {k kx : KE} (h : RowOk row) (hk : k .non μ) : (gam T (d + 4)).call "need_row" [.tup (row.map PV.int)] μ k kx := by
  refine call_fn hT.pr hT.need_row (d + 3) ⟨rfl, ?_⟩
  simp only [B_need_row, need_row_0]
  walk_at "ev"
  refine is_counted_ok hT h ?_
  walk_at "ev"
  exact hk
/-- a function's first values -/
def tabI (f : Int → Int) (n : Nat) : List PV := (List.range n).map fun (i : Nat) => PV.int (f i)
theorem tabI_len (f : Int → Int) (n : Nat) : (tabI f n).length = n := by simp [tabI]
theorem tabI_get {f : Int → Int} {n : Nat} {i : Int} (h0 : 0 ≤ i) (h1 : i < n) : atI (tabI f n) i = some (.int (f i)) := by
  rw [atI_of h0 (by rw [tabI_len]; exact h1)]
  have : i.toNat < n := by omega
  simp [tabI, this]
  congr 1; omega
theorem tabI_set {f : Int → Int} {n : Nat} {i v : Int} (h0 : 0 ≤ i) (h1 : i < n) : (tabI f n).set i.toNat (.int v) = tabI (fun a => if a = i then v else f a) n := by
  apply List.ext_getElem
  · simp [tabI]
  · intro j h2 h3
    simp [tabI] at h2 h3 ⊢
    rw [List.getElem_set]
    split
    · rename_i e
      rw [if_pos (by omega)]
    · rename_i e
      rw [if_neg (by omega)]; simp
theorem tabI_congr {f g : Int → Int} {n : Nat} (h : ∀ i : Int, 0 ≤ i → i < n → f i = g i) : tabI f n = tabI g n := by
  apply List.map_congr_left
  intro i hi
  rw [h i (by omega) (by have := List.mem_range.mp hi; omega)]
theorem numbers_sem {T : Tab} {μ : Mu} {row : List Int} {most : Int} {d : Nat} {k kx : KE} (x y : Str) (h : ∀ p ∈ row, 1 ≤ p ∧ p ≤ 1000000) (h0 : 0 ≤ most) (h1 : most ≤ 900000) (hk : k (.nls (tabI (Qu.N row) (most + 1).toNat)) μ) : fnSem (gam T d) ⟨[x, y], 5, numbers_to_0⟩ [.tup (row.map PV.int), .int most] μ k kx := by
  refine ⟨rfl, ?_⟩
  simp only [numbers_to_0]
  walk_at "ev"
  refine ⟨by omega, by omega, by rw [Nat.one_mul]; exact le_size (by omega), ?_, ?_⟩
  · simp
    exact Nat.le_trans (by omega) (le_size (n := 1000000) (by decide))
  have e : PV.int 1 :: (List.replicate most.toNat [PV.int 0]).flatten = tabI Qu.one0 (most + 1).toNat := by
    have e2 : (most + 1).toNat = most.toNat + 1 := by omega
    rw [e2]
    unfold tabI
    rw [List.range_succ_eq_map, List.map_cons, List.map_map]
    congr 1
    apply List.ext_getElem
    · simp
    · intro i h2 h3
      simp [Qu.one0]
  rw [e]
  simp only [numbers_to_1]
  walk_at "ev"
  refine forE_ind (fun xs ρ μ' => ∃ (l1 l2 : List Int) (a b : Option PV), row = l1 ++ l2 ∧ xs = l2.map PV.int ∧ ρ = [some (.tup (row.map PV.int)), some (.int most), some (.nls (tabI (Qu.N l1) (most + 1).toNat)), a, b] ∧ μ' = μ) ?_ ?_ _ _ _ ⟨[], row, none, none, rfl, rfl, rfl, rfl⟩
  · rintro x xs ρ μ' ⟨l1, l2, a, b, hr, hx, rfl, rfl⟩
    cases l2 with
    | nil => cases hx
    | cons p l2 =>
      simp only [List.map_cons, List.cons.injEq] at hx
      obtain ⟨rfl, rfl⟩ := hx
      obtain ⟨hp1, hp2⟩ := h p (by rw [hr]; simp)
      refine ⟨_, rfl, fun N hN => ?_⟩
      simp only [numbers_to_2]
      walk_at "ev"
      refine ⟨by omega, ?_⟩
      have nn : ∀ a, a < 0 → Qu.N l1 a = 0 := fun a ha => Qu.N_neg l1 ha
      refine forE_rng (fun j ρ μ2 => ∃ b : Option PV, ρ = [some (.tup (row.map PV.int)), some (.int most), some (.nls (tabI (fun i => if i < p + j then Qu.S p (Qu.N l1) i else Qu.N l1 i) (most + 1).toNat)), some (.int p), b] ∧ μ2 = μ') ?_ ?_ ⟨b, congrArg (fun t => ([some (.tup (row.map PV.int)), some (.int most), some (.nls t), some (.int p), b] : Env)) ?_, rfl⟩
      · rintro j ρ μ2 hj ⟨b, rfl, rfl⟩ N2 hN2
        simp only [numbers_to_3]
        walk_at "ev"
        rw [tabI_get (by omega) (by omega), tabI_get (by omega) (by omega)]
        walk_at "ev"
        rw [tabI_len, ixN_of (by omega) (by omega)]
        walk_at "ev"
        refine hN2 _ _ ⟨some (.int (p + j)), congrArg (fun t => ([some (.tup (row.map PV.int)), some (.int most), some (.nls t), some (.int p), some (.int (p + j))] : Env)) ?_, rfl⟩
        rw [tabI_set (by omega) (by omega)]
        apply tabI_congr
        intro i hi0 hi1
        have e := Qu.S_eq (show 0 < p by omega) nn i
        by_cases c1 : i = p + j
        · subst c1
          rw [if_pos rfl, if_neg (by omega), if_pos (by omega), if_pos (by omega)]
          exact e.symm
        · rw [if_neg c1]
          by_cases c2 : i < p + j
          · rw [if_pos c2, if_pos (by omega)]
          · rw [if_neg c2, if_neg (by omega)]
      · rintro ρ μ2 ⟨b, rfl, rfl⟩
        refine hN _ _ ⟨l1 ++ [p], l2, some (.int p), b, by rw [hr]; simp, rfl, congrArg (fun t => ([some (.tup (row.map PV.int)), some (.int most), some (.nls t), some (.int p), b] : Env)) ?_, rfl⟩
        rw [Qu.N_snoc]
        apply tabI_congr
        intro i hi0 hi1
        by_cases c2 : i < p + ((most + 1 - p).toNat : Int)
        · rw [if_pos c2]
        · rw [if_neg c2, Qu.S_eq (show 0 < p by omega) nn i, Qu.S_neg (by omega)]; omega
      · apply tabI_congr
        intro i hi0 hi1
        by_cases c2 : i < p + ((0 : Nat) : Int)
        · rw [if_pos c2, Qu.S_eq (show 0 < p by omega) nn i, Qu.S_neg (by omega)]; omega
        · rw [if_neg c2]
  · rintro ρ μ' ⟨l1, l2, a, b, hr, hx, rfl, rfl⟩
    cases l2 with
    | cons p l2 => cases hx
    | nil =>
      rw [List.append_nil] at hr
      subst hr
      simp only [numbers_to_4]
      walk_at "ev"
      exact hk
theorem numbers_to_ok {T : Tab} (hT : HasCnt T) {μ : Mu} {row : List Int} {most : Int} {d : Nat} {k kx : KE} (h : ∀ p ∈ row, 1 ≤ p ∧ p ≤ 1000000) (h0 : 0 ≤ most) (h1 : most ≤ 900000) (hk : k (.nls (tabI (Qu.N row) (most + 1).toNat)) μ) : (gam T (d + 1)).call "numbers_to" [.tup (row.map PV.int), .int most] μ k kx :=
  call_fn hT.pr hT.numbers_to d (numbers_sem _ _ h h0 h1 hk)
end Mi
end

section
-- MiniQ
set_option Elab.async false
set_option linter.all false
set_option maxRecDepth 100000
set_option maxHeartbeats 4000000
/-! Mini, part Q: polynomials that go round -/
namespace Mi
open PySem PySem.Spec PyProof.Rows L2
def need_round_2 : Ss := (.cons (.rai1 "TooMany" (.cst "MOST_ROUND")) .nil)
def need_round_1 : Ss := (.cons (.ifs (.cmp .gt (.call "round_of" (.cons (.var 0) .nil)) (.cst "MOST_ROUND"))
 need_round_2
 .nil) .nil)
def need_round_0 : Ss := (.cons (.ex (.call "need_row" (.cons (.var 0) .nil))) need_round_1)
def B_need_round : Fun := ⟨["row"], 1, need_round_0⟩
def poly_sum_0 : Ss := (.cons (.ret (.comp [("first", 2), ("second", 3)] (.tp [2, 3]) (.zip (.cons (.pk 0) (.cons (.pk 1) .nil))) .no (.call "summed" (.cons (.var 2) (.cons (.var 3) .nil))))) .nil)
def B_poly_sum : Fun := ⟨["one", "other"], 4, poly_sum_0⟩
def poly_times_2 : Ss := (.cons (.setIx 3 (.pk 4) (.call "summed" (.cons (.ix (.pk 3) (.pk 4)) (.cons (.call "multiplied" (.cons (.ix (.pk 0) (.bin .sub (.pk 4) (.cint 1))) (.cons (.var 2) .nil))) .nil)))) .nil)
def poly_times_3 : Ss := (.cons (.retv 3) .nil)
def poly_times_1 : Ss := (.cons (.fors (.nm 4) (.rng2 (.cons (.cint 1) (.cons (.bi .len (.cons (.pk 0) .nil)) .nil)))
 poly_times_2) poly_times_3)
def poly_times_0 : Ss := (.cons (.asg 3 (.comp [("part", 5)] (.nm 5) (.ex (.pk 0)) .no (.call "multiplied" (.cons (.var 5) (.cons (.var 1) .nil))))) poly_times_1)
def B_poly_times : Fun := ⟨["poly", "first", "second"], 6, poly_times_0⟩
def poly_through_8 : Ss := (.cons (.asg 7 (.comp [("one", 9), ("other", 10)] (.tp [9, 10]) (.zip (.cons (.pk 7) (.cons (.sl (.pk 7) (.yes (.cint 1)) .no) .nil))) .no (.bin .sub (.pk 10) (.pk 9)))) .nil)
def poly_through_7 : Ss := (.cons (.asg 3 (.call "poly_times" (.cons (.var 3) (.cons (.call "lowest" (.cons (.bin .sub (.neg (.pk 0)) (.bin .mul (.pk 1) (.pk 4))) (.cons (.var 8) .nil))) (.cons (.call "lowest" (.cons (.cint 1) (.cons (.var 8) .nil))) .nil))))) poly_through_8)
def poly_through_6 : Ss := (.cons (.frz [3]) poly_through_7)
def poly_through_5 : Ss := (.cons (.asg 8 (.bin .mul (.pk 1) (.bin .add (.pk 4) (.cint 1)))) poly_through_6)
def poly_through_4 : Ss := (.cons (.asg 6 (.call "poly_sum" (.cons (.var 6) (.cons (.comp [("one", 9)] (.nm 9) (.ex (.pk 3)) .no (.call "multiplied" (.cons (.var 9) (.cons (.tup (.cons (.ix (.pk 7) (.cint 0)) (.cons (.cint 1) .nil))) .nil)))) .nil)))) poly_through_5)
def poly_through_3 : Ss := (.cons (.frz [6]) poly_through_4)
def poly_through_9 : Ss := (.cons (.ret (.bi .tuple (.cons (.pk 6) .nil))) .nil)
def poly_through_2 : Ss := (.cons (.fors (.nm 4) (.rng1 (.cons (.pk 5) .nil))
 poly_through_3) poly_through_9)
def poly_through_1 : Ss := (.cons (.asg 3 (.bin .add (.lst (.cons (.tup (.cons (.cint 1) (.cons (.cint 1) .nil))) .nil)) (.bin .mul (.lst (.cons (.tup (.cons (.cint 0) (.cons (.cint 1) .nil))) .nil)) (.bin .sub (.pk 5) (.cint 1))))) poly_through_2)
def poly_through_0 : Ss := (.cons (.par [5, 6, 7] (.cons (.bi .len (.cons (.pk 2) .nil)) (.cons (.bin .mul (.lst (.cons (.tup (.cons (.cint 0) (.cons (.cint 1) .nil))) .nil)) (.bi .len (.cons (.pk 2) .nil))) (.cons (.bi .list (.cons (.pk 2) .nil)) .nil)))) poly_through_1)
def B_poly_through : Fun := ⟨["start", "step", "numbers"], 11, poly_through_0⟩
def quasi_of_3 : Ss := (.cons (.ret (.bi .tuple (.cons (.comp [("rest", 4)] (.nm 4) (.rng1 (.cons (.pk 3) .nil)) .no (.call "poly_through" (.cons (.var 4) (.cons (.var 3) (.cons (.slS (.pk 1) (.yes (.pk 4)) (.yes (.bin .mul (.pk 3) (.pk 2))) (.var 3)) .nil))))) .nil))) .nil)
def quasi_of_2 : Ss := (.cons (.asg 1 (.call "numbers_to" (.cons (.var 0) (.cons (.bin .mul (.pk 3) (.pk 2)) .nil)))) quasi_of_3)
def quasi_of_1 : Ss := (.cons (.par [2, 3] (.cons (.bi .len (.cons (.pk 0) .nil)) (.cons (.call "round_of" (.cons (.var 0) .nil)) .nil))) quasi_of_2)
def quasi_of_0 : Ss := (.cons (.ex (.call "need_round" (.cons (.var 0) .nil))) quasi_of_1)
def B_quasi_of : Fun := ⟨["row"], 5, quasi_of_0⟩
structure HasQu (T : Tab) : Prop where
  fr : HasFr T
  cn : HasCnt T
  pr : ∀ f, T.prim f = none
  need_round : T.fn.lookup ("need_round" : Str) = some B_need_round
  poly_sum : T.fn.lookup ("poly_sum" : Str) = some B_poly_sum
  poly_times : T.fn.lookup ("poly_times" : Str) = some B_poly_times
  poly_through : T.fn.lookup ("poly_through" : Str) = some B_poly_through
  quasi_of : T.fn.lookup ("quasi_of" : Str) = some B_quasi_of
  MOST_ROUND : T.cints.lookup ("MOST_ROUND" : Str) = some 60
  round_of : T.fn.lookup ("round_of" : Str) = some B_round_of
theorem pk_toP {q : Rat} {K : PV → Prop} : pkK (some (some (toP q))) K = K (toP q) := pkK_v rfl
theorem vr_toP {q : Rat} {K : PV → Prop} : varK (some (some (toP q))) K = K (toP q) := varK_v rfl
local macro_rules | `(tactic| walk_at "ev") => `(tactic| try simp only [pk_toP, vr_toP, fz_toP, ev_var, ev_pk, ev_cint, ev_cbl, ev_cstr, ev_cnon, ev_cst, ev_tup, ev_lst, ev_dct0, ev_bin, ev_neg, ev_not, ev_and, ev_or, ev_cmp, ev_chain, ev_isn, ev_nisn, ev_isb, ev_ite, ev_call, ev_callk, ev_mk, ev_mkk, ev_bi, ev_isin, ev_attr, ev_ix, ev_sl, ev_slS, ev_rev, ev_comp, ev_caught, ev_callv, ev_sleft, ev_sturn, ev_sgreat,
  els_nil, els_cons, er_nil, er_cons, eo_no, eo_yes, ec_no, ec_yes, sr_ex, sr_cells, sr_rng1, sr_rng2, sr_zip, sr_enum, ea_one, ea_cons, eor_one, eor_cons,
  ss_nil, ss_cons, st_asg, st_asgT, st_par, st_setIx, st_app, st_appPop, st_ex, st_ret, st_retv, st_retN, st_ifs, st_fors, st_whs, st_rai, st_rai1, st_pass, st_brk, st_cnt, st_frz, st_aug, st_setL, st_setT, st_mkst, nlsV_v, intsOf_ints,
  nlsK_v, augK_v, optK_some, optK_none, intK_v, tupK_v, blK_v, trK_bl, trK_int, bin_add, bin_sub, bin_mul, bin_fdiv, bin_mod, bin_pow, bin_addS, bin_addT, bin_addL, bin_mulL, bin_mulT, cmp_lt, cmp_le, cmp_gt, cmp_ge, cmp_eq, cmp_ne,
  bi_lenT, bi_lenL, bi_lenC, bi_lenS, bi_abs, bi_int, bi_max2, bi_min2, bi_tupL, bi_tupT, bi_lstL, bi_lstT, ix_tup, ix_lst, sl_tup, sl_lst, slS_lst, rev_tup, rev_lst, walk_tup, walk_lst, walk_scr, rng1_v, rng2_v, zip_lst, zip_tup, enum_lst, eqK_int,
  setAll, freeze, wipeE, bindTg, pk_non, pk_bl, pk_int, pk_str, pk_tup, pk_lst, pk_dct, pk_ins, pk_exc, pk_fn, pk_obj, pk_scr, pk_nls, vr_non, vr_bl, vr_int, vr_str, vr_tup, vr_lst, vr_dct, vr_ins, vr_exc, vr_fn, vr_obj, vr_scr, fz_int, fz_bl, fz_str, fz_obj, fz_tup, fz_lst, fz_nls, fz_non, fz_dct, fz_ins, fz_exc, fz_scr, fz_fn,
  List.map_cons, List.map_nil, List.length_cons, List.length_nil, List.replicate_succ, List.replicate_zero, List.cons_append, List.nil_append, List.getElem?_cons_zero, List.getElem?_cons_succ, List.set_cons_zero, List.set_cons_succ, Nat.sub_self, Nat.reduceSub, Nat.reduceAdd, Nat.zero_add, stAt_W, set_W, decide_true, decide_false, if_true, if_false, Bool.false_eq_true, true_and, and_true, List.foldl_cons, List.foldl_nil, List.zip_cons_cons, List.zip_nil_left, List.zip_nil_right, isi_non_bool, isi_non_int, isi_non_str, isi_non_tuple, isi_non_list, isi_non_dict, isi_non_ValueError, isi_bl_bool, isi_bl_int, isi_bl_str, isi_bl_tuple, isi_bl_list, isi_bl_dict, isi_bl_ValueError, isi_int_bool, isi_int_int, isi_int_str, isi_int_tuple, isi_int_list, isi_int_dict, isi_int_ValueError, isi_str_bool, isi_str_int, isi_str_str, isi_str_tuple, isi_str_list, isi_str_dict, isi_str_ValueError, isi_tup_bool, isi_tup_int, isi_tup_str, isi_tup_tuple, isi_tup_list, isi_tup_dict, isi_tup_ValueError, isi_lst_bool, isi_lst_int, isi_lst_str, isi_lst_tuple, isi_lst_list, isi_lst_dict, isi_lst_ValueError, isi_dct_bool, isi_dct_int, isi_dct_str, isi_dct_tuple, isi_dct_list, isi_dct_dict, isi_dct_ValueError, Bool.not_true, Bool.not_false, atI_0, atI_1, atI_2, le_sizeT, lt_sizeT, Nat.reduceLeDiff])


/-- the least common multiple -/
def Lc (row : List Int) : Nat := row.foldl (fun f p => Nat.lcm f p.toNat) 1
theorem Lc_fold : ∀ (row : List Int) (f : Nat), 0 < f → (∀ p ∈ row, 1 ≤ p) → 0 < row.foldl (fun f p => Nat.lcm f p.toNat) f ∧ f ∣ row.foldl (fun f p => Nat.lcm f p.toNat) f ∧ (∀ p ∈ row, p.toNat ∣ row.foldl (fun f p => Nat.lcm f p.toNat) f) ∧
    ∀ M : Nat, f ∣ M → (∀ p ∈ row, p.toNat ∣ M) → row.foldl (fun f p => Nat.lcm f p.toNat) f ∣ M
  | [], f, h, _ => ⟨h, Nat.dvd_refl _, by simp, fun M h _ => h⟩
  | p :: row, f, h, hp => by
    have hp1 := hp p (by simp)
    have h2 : 0 < Nat.lcm f p.toNat := Nat.lcm_pos h (by omega)
    obtain ⟨a, b, c, e⟩ := Lc_fold row (Nat.lcm f p.toNat) h2 fun q hq => hp q (List.mem_cons_of_mem _ hq)
    refine ⟨a, Nat.dvd_trans (Nat.dvd_lcm_left _ _) b, fun q hq => ?_, fun M hM hq => e M (Nat.lcm_dvd hM (hq p (by simp))) fun q h => hq q (List.mem_cons_of_mem _ h)⟩
    rcases List.mem_cons.mp hq with rfl | hq
    · exact Nat.dvd_trans (Nat.dvd_lcm_right _ _) b
    · exact c q hq
theorem Lc_pos {row : List Int} (h : ∀ p ∈ row, 1 ≤ p) : 0 < Lc row := (Lc_fold row 1 (by decide) h).1
theorem Lc_part {row : List Int} (h : ∀ p ∈ row, 1 ≤ p) : Qu.Pos (Lc row) row := fun p hp => by
  have h1 := h p hp
  refine ⟨by omega, ?_⟩
  have := (Lc_fold row 1 (by decide) h).2.2.1 p hp
  have e : p = (p.toNat : Int) := by omega
  rw [e]
  exact Int.natCast_dvd_natCast.mpr this
theorem Lc_dvd {row : List Int} (h : ∀ p ∈ row, 1 ≤ p) {M : Nat} (hM : ∀ p ∈ row, p.toNat ∣ M) : Lc row ∣ M := (Lc_fold row 1 (by decide) h).2.2.2 M (Nat.one_dvd M) hM
theorem round_ok {T : Tab} (hT : HasQu T) {μ : Mu} {row : List Int} {d : Nat} {k kx : KE} (h : ∀ p ∈ row, 1 ≤ p ∧ p ≤ 1000000) (hk : k (.int (Lc row)) μ) : (gam T (d + 2)).call "round_of" [.tup (row.map PV.int)] μ k kx := by
  refine call_fn hT.pr hT.round_of (d + 1) ⟨rfl, ?_⟩
  simp only [B_round_of, round_of_0]
  walk_at "ev"
  simp only [round_of_1]
  walk_at "ev"
  refine forE_ind (fun xs ρ μ' => ∃ (l2 : List Int) (f : Nat) (a : Option PV), 0 < f ∧ (∀ p ∈ l2, 1 ≤ p ∧ p ≤ 1000000) ∧ Lc row = l2.foldl (fun f p => Nat.lcm f p.toNat) f ∧ xs = l2.map PV.int ∧ ρ = [some (.tup (row.map PV.int)), some (.int f), a] ∧ μ' = μ) ?_ ?_ _ _ _ ⟨row, 1, none, by decide, h, rfl, rfl, rfl, rfl⟩
  · rintro x xs ρ μ' ⟨l2, f, a, hf, hl, hr, hx, rfl, rfl⟩
    cases l2 with
    | nil => cases hx
    | cons p l2 =>
      simp only [List.map_cons, List.cons.injEq] at hx
      obtain ⟨rfl, rfl⟩ := hx
      obtain ⟨hp1, hp2⟩ := hl p (by simp)
      refine ⟨_, rfl, fun N hN => ?_⟩
      simp only [round_of_2]
      walk_at "ev"
      refine common_ok hT.fr ?_
      walk_at "ev"
      have g0 : 0 < Int.gcd f p := Int.gcd_pos_of_ne_zero_right _ (by omega)
      have g1 : Int.gcd f p ≤ p.natAbs := Nat.le_of_dvd (by omega) (Int.gcd_dvd_natAbs_right _ _)
      refine ⟨by omega, noPyS (by omega), mulOk_r (by omega) (by omega), hN _ _ ⟨l2, Nat.lcm f p.toNat, some (.int p), Nat.lcm_pos hf (by omega), fun q hq => hl q (List.mem_cons_of_mem _ hq), hr, rfl, ?_, rfl⟩⟩
      have e : (f : Int).fdiv (Int.gcd f p) * p = (Nat.lcm f p.toNat : Nat) := by
        rw [Int.fdiv_eq_ediv_of_nonneg _ (by omega)]
        have e1 : Int.gcd f p = Nat.gcd f p.toNat := by
          unfold Int.gcd
          congr 1
          omega
        rw [e1]
        have e2 : p = (p.toNat : Int) := by omega
        conv => lhs; rw [e2]
        rw [← Int.natCast_ediv, ← Int.natCast_mul]
        congr 1
        unfold Nat.lcm
        exact Nat.div_mul_right_comm (Nat.gcd_dvd_left f p.toNat) p.toNat
      rw [e]
  · rintro ρ μ' ⟨l2, f, a, hf, hl, hr, hx, rfl, rfl⟩
    cases l2 with
    | cons p l2 => cases hx
    | nil =>
      simp only [round_of_3]
      walk_at "ev"
      rw [hr] at hk
      exact hk
theorem need_round_ok {T : Tab} (hT : HasQu T) {μ : Mu} {row : List Int} {d : Nat} {k kx : KE} (h : RowOk row) (hr : Lc row ≤ 60) (hk : k .non μ) : (gam T (d + 5)).call "need_round" [.tup (row.map PV.int)] μ k kx := by
  refine call_fn hT.pr hT.need_round (d + 4) ⟨rfl, ?_⟩
  simp only [B_need_round, need_round_0]
  walk_at "ev"
  refine need_row_ok hT.cn h ?_
  walk_at "ev"
  simp only [need_round_1]
  walk_at "ev"
  refine round_ok hT (fun p hp => by have := h.part p hp; omega) ?_
  simp only [cst_of hT.MOST_ROUND]
  walk_at "ev"
  rw [if_neg (by simp; omega)]
  exact hk
def pols (c : List Rat) : List PV := c.map toP
def AllBd (m n : Nat) (c : List Rat) : Prop := ∀ q ∈ c, Bd m n q
theorem sum_Bd {a b : Rat} {m1 n1 m2 n2 m : Nat} (ha : Bd m1 n1 a) (hb : Bd m2 n2 b) (hm : m1 + n2 ≤ m ∧ m2 + n1 ≤ m ∧ m ≤ 2 ^ 20) : Bd (m + 1) (n1 + n2) (a + b) := by
  have a2 : (a.den : Int).natAbs < 2 ^ n1 := by exact_mod_cast ha.2
  have b2 : (b.den : Int).natAbs < 2 ^ n2 := by exact_mod_cast hb.2
  rw [← add_divInt]
  exact divInt_Bd (Int.mul_ne_zero (by have := den_pos a; omega) (by have := den_pos b; omega)) (add_lt (lt_mono (mul_lt ha.1 b2) hm.1) (lt_mono (mul_lt hb.1 a2) hm.2.1)) (mul_lt a2 b2)
theorem mul_Bd {a b : Rat} {m1 n1 m2 n2 : Nat} (ha : Bd m1 n1 a) (hb : Bd m2 n2 b) : Bd (m1 + m2) (n1 + n2) (a * b) := by
  have a2 : (a.den : Int).natAbs < 2 ^ n1 := by exact_mod_cast ha.2
  have b2 : (b.den : Int).natAbs < 2 ^ n2 := by exact_mod_cast hb.2
  rw [← mul_divInt]
  exact divInt_Bd (Int.mul_ne_zero (by have := den_pos a; omega) (by have := den_pos b; omega)) (mul_lt ha.1 hb.1) (mul_lt a2 b2)
theorem poly_sum_ok {T : Tab} (hT : HasQu T) {μ : Mu} {a b : List Rat} {d m1 n1 m2 n2 m : Nat} {k kx : KE} (ha : AllBd m1 n1 a) (hb : AllBd m2 n2 b) (hm : m1 + n2 ≤ m ∧ m2 + n1 ≤ m ∧ m ≤ 2 ^ 20) (hn : n1 + n2 ≤ 8999) (hl : a.length ≤ 1000000) (hk : AllBd (m + 1) (n1 + n2) (Qu.psum a b) → k (.nls (pols (Qu.psum a b))) μ) : (gam T (d + 4)).call "poly_sum" [.lst (pols a), .lst (pols b)] μ k kx := by
  refine call_fn hT.pr hT.poly_sum (d + 3) ⟨rfl, ?_⟩
  simp only [B_poly_sum, poly_sum_0]
  walk_at "ev"
  have e1 : List.zipWith (fun x y => PV.tup [x, y]) (pols a) (pols b) = (a.zip b).map fun p => PV.tup [toP p.1, toP p.2] := by
    simp only [pols]
    rw [List.zipWith_map, List.zip, List.map_zipWith]
  have e2 : pols (Qu.psum a b) = (a.zip b).map fun p => toP (p.1 + p.2) := by
    simp only [pols, Qu.psum, List.zip]
    rw [List.map_zipWith, List.map_zipWith]
  have mem : ∀ p ∈ a.zip b, p.1 ∈ a ∧ p.2 ∈ b := fun p hp => List.of_mem_zip hp
  rw [e1]
  -- each sum is made, and is not too great
  have mk : ∀ p ∈ a.zip b, ∀ (k kx : KE), (Bd (m + 1) (n1 + n2) (p.1 + p.2) → k (toP (p.1 + p.2)) μ) → (gam T (d + 3)).call "summed" [toP p.1, toP p.2] μ k kx := fun p hp k kx hk =>
    summed_ok hT.fr (ha _ (mem p hp).1) (hb _ (mem p hp).2) hm hn hk
  have all : ∀ p ∈ a.zip b, Bd (m + 1) (n1 + n2) (p.1 + p.2) := fun p hp => sum_Bd (ha _ (mem p hp).1) (hb _ (mem p hp).2) hm
  refine compE_map _ (fun p : Rat × Rat => toP (p.1 + p.2)) (a.zip b) (le_size (by simp; omega)) (fun p hp => ⟨_, rfl, fun N hN => ?_⟩) ?_
  · walk_at "ev"
    exact mk p hp _ _ fun _ => hN _ rfl
  · rw [← e2]
    refine hk fun q hq => ?_
    simp only [Qu.psum] at hq
    rw [← List.map_uncurry_zip_eq_zipWith] at hq
    obtain ⟨p, hp, rfl⟩ := List.mem_map.mp hq
    exact all p hp
theorem pols_get {c : List Rat} {i : Int} (h0 : 0 ≤ i) (h1 : i < c.length) : atI (pols c) i = some (toP (c.getD i.toNat 0)) := by
  rw [atI_of h0 (by simpa [pols] using h1)]
  have : i.toNat < c.length := by omega
  simp [pols, this]
theorem pols_set {c : List Rat} {j : Nat} {q : Rat} : (pols c).set j (toP q) = pols (c.set j q) := by
  simp only [pols, List.map_set]
theorem pols_len {c : List Rat} : (pols c).length = c.length := by simp [pols]
theorem getD_mem {c : List Rat} {j : Nat} (h : j < c.length) : c.getD j 0 ∈ c := by
  simp [h]
/-- the item of pt -/
theorem pt_get (f s : Rat) : ∀ (c : Rat) (p : List Rat) (j : Nat), j < p.length → (Qu.pt f s c p).getD j 0 = p.getD j 0 * f + (if j = 0 then c else p.getD (j - 1) 0 * s)
  | c, a :: r, 0, _ => by simp [Qu.pt]
  | c, a :: r, j + 1, h => by
    have ih := pt_get f s (a * s) r j (by simpa using h)
    simp only [Qu.pt, List.getD_cons_succ]
    rw [ih]
    cases j with
    | zero => simp
    | succ j => simp
theorem poly_times_ok {T : Tab} (hT : HasQu T) {μ : Mu} {p : List Rat} {f s : Rat} {d m n mf nf : Nat} {k kx : KE} (hp : AllBd m n p) (hf : Bd mf nf f) (hs : Bd mf nf s) (hm : m + mf + (n + nf) ≤ 2 ^ 20) (hn : n + nf + (n + nf) ≤ 8999) (hl : p.length ≤ 100000)
    (hk : AllBd (m + mf + (n + nf) + 1) (n + nf + (n + nf)) (Qu.pt f s 0 p) → k (.nls (pols (Qu.pt f s 0 p))) μ) : (gam T (d + 4)).call "poly_times" [.lst (pols p), toP f, toP s] μ k kx := by
  refine call_fn hT.pr hT.poly_times (d + 3) ⟨rfl, ?_⟩
  simp only [B_poly_times, poly_times_0]
  walk_at "ev"
  refine compE_map toP (fun q => toP (q * f)) p (le_size (by omega)) (fun q hq => ⟨_, rfl, fun N hN => ?_⟩) ?_
  · walk_at "ev"
    exact multiplied_ok hT.fr (hp q hq) hf (by omega) (by omega) fun _ => hN _ rfl
  have e : p.map (fun q => toP (q * f)) = pols (p.map (· * f)) := by simp [pols]
  rw [e]
  walk_at "ev"
  simp only [poly_times_1]
  walk_at "ev"
  rw [pols_len]
  refine ⟨⟨by omega, by omega, by omega, by omega⟩, ?_⟩
  -- what stands behind j turns
  let g : Nat → List Rat := fun j => (List.range p.length).map fun i => if i < 1 + j then (Qu.pt f s 0 p).getD i 0 else p.getD i 0 * f
  have glen : ∀ j, (g j).length = p.length := fun j => by simp [g]
  have bAll : ∀ i, i < p.length → Bd (m + mf + (n + nf) + 1) (n + nf + (n + nf)) ((Qu.pt f s 0 p).getD i 0) := fun i hi => by
    rw [pt_get f s 0 p i hi]
    have b1 := mul_Bd (hp _ (getD_mem hi)) hf
    split
    · have : p.getD i 0 * f + 0 = p.getD i 0 * f := by grind
      rw [this]; exact b1.mono (by omega) (by omega)
    · have b2 := mul_Bd (hp _ (getD_mem (show i - 1 < p.length by omega))) hs
      exact sum_Bd b1 b2 ⟨by omega, by omega, by omega⟩
  refine forE_rng (fun j ρ μ' => ∃ (a b : Option PV), ρ = [some (.lst (pols p)), some (toP f), some (toP s), some (.nls (pols (g j))), a, b] ∧ μ' = μ) ?_ ?_ ⟨none, none, congrArg (fun t => ([some (.lst (pols p)), some (toP f), some (toP s), some (.nls (pols t)), none, none] : Env)) ?_, rfl⟩
  · rintro j ρ μ' hj ⟨a, b, rfl, rfl⟩ N hN
    simp only [poly_times_2]
    walk_at "ev"
    rw [pols_get (by omega) (by rw [glen]; omega), pols_get (by omega) (by omega)]
    walk_at "ev"
    have j1 : ((1 : Int) + j).toNat = 1 + j := by omega
    have j2 : ((1 : Int) + j - 1).toNat = j := by omega
    rw [j1, j2]
    have eg : (g j).getD (1 + j) 0 = p.getD (1 + j) 0 * f := by
      have : 1 + j < p.length := by omega
      simp [g, this]
    rw [eg]
    refine multiplied_ok hT.fr (hp _ (getD_mem (show j < p.length by omega))) hs (by omega) (by omega) fun b2 => ?_
    walk_at "ev"
    refine summed_ok hT.fr (mul_Bd (hp _ (getD_mem (show 1 + j < p.length by omega))) hf) b2 (m := m + mf + (n + nf)) ⟨by omega, by omega, by omega⟩ (by omega) fun _ => ?_
    walk_at "ev"
    rw [pols_len, glen, ixN_of (by omega) (by omega)]
    walk_at "ev"
    refine hN _ _ ⟨_, b, congrArg (fun t => ([some (.lst (pols p)), some (toP f), some (toP s), some (.nls t), some (.int (1 + j)), b] : Env)) ?_, rfl⟩
    rw [j1, pols_set]
    congr 1
    apply List.ext_getElem
    · simp [g]
    · intro i h1 h2
      simp [g] at h1 h2
      rw [List.getElem_set]
      have hi : i < p.length := by omega
      split
      · rename_i e
        subst e
        simp only [g, List.getElem_map, List.getElem_range]
        rw [if_pos (by omega), pt_get f s 0 p _ hi, if_neg (by omega), show 1 + j - 1 = j by omega]
      · rename_i e
        simp only [g, List.getElem_map, List.getElem_range]
        by_cases c : i < 1 + j
        · rw [if_pos c, if_pos (by omega)]
        · rw [if_neg c, if_neg (by omega)]
  · rintro ρ μ' ⟨a, b, rfl, rfl⟩
    simp only [poly_times_3]
    walk_at "ev"
    have e2 : g ((p.length : Int) - 1).toNat = Qu.pt f s 0 p := by
      apply List.ext_getElem
      · simp [g, Qu.pt_length]
      · intro i h1 h2
        simp [g] at h1
        have : i < 1 + ((p.length : Int) - 1).toNat := by omega
        simp only [g, List.getElem_map, List.getElem_range, if_pos this]
        rw [List.getD_eq_getElem?_getD, List.getElem?_eq_getElem h2]; rfl
    rw [e2]
    refine hk fun q hq => ?_
    obtain ⟨i, hi, rfl⟩ := List.mem_iff_getElem.mp hq
    have := bAll i (by rwa [Qu.pt_length] at hi)
    rwa [List.getD_eq_getElem?_getD, List.getElem?_eq_getElem hi] at this
  · apply List.ext_getElem
    · simp [g]
    · intro i h1 h2
      simp at h1
      simp only [g, List.getElem_map, List.getElem_range]
      by_cases c : i < 1 + 0
      · have : i = 0 := by omega
        subst this
        rw [if_pos c, pt_get f s 0 p 0 h1, if_pos rfl, List.getD_eq_getElem?_getD, List.getElem?_eq_getElem h1]
        simp; grind
      · rw [if_neg c, List.getD_eq_getElem?_getD, List.getElem?_eq_getElem h1]; rfl
end Mi
end

section
-- MiniR
set_option Elab.async false
set_option linter.all false
set_option maxRecDepth 100000
set_option maxHeartbeats 4000000
/-! Mini, part R: polynomials through numbers -/
namespace Mi
open PySem PySem.Spec PyProof.Rows L2
local macro_rules | `(tactic| walk_at "ev") => `(tactic| try simp only [pk_toP, vr_toP, fz_toP, ev_var, ev_pk, ev_cint, ev_cbl, ev_cstr, ev_cnon, ev_cst, ev_tup, ev_lst, ev_dct0, ev_bin, ev_neg, ev_not, ev_and, ev_or, ev_cmp, ev_chain, ev_isn, ev_nisn, ev_isb, ev_ite, ev_call, ev_callk, ev_mk, ev_mkk, ev_bi, ev_isin, ev_attr, ev_ix, ev_sl, ev_slS, ev_rev, ev_comp, ev_caught, ev_callv, ev_sleft, ev_sturn, ev_sgreat,
  els_nil, els_cons, er_nil, er_cons, eo_no, eo_yes, ec_no, ec_yes, sr_ex, sr_cells, sr_rng1, sr_rng2, sr_zip, sr_enum, ea_one, ea_cons, eor_one, eor_cons,
  ss_nil, ss_cons, st_asg, st_asgT, st_par, st_setIx, st_app, st_appPop, st_ex, st_ret, st_retv, st_retN, st_ifs, st_fors, st_whs, st_rai, st_rai1, st_pass, st_brk, st_cnt, st_frz, st_aug, st_setL, st_setT, st_mkst, nlsV_v, intsOf_ints,
  nlsK_v, augK_v, optK_some, optK_none, intK_v, tupK_v, blK_v, trK_bl, trK_int, bin_add, bin_sub, bin_mul, bin_fdiv, bin_mod, bin_pow, bin_addS, bin_addT, bin_addL, bin_mulL, bin_mulT, cmp_lt, cmp_le, cmp_gt, cmp_ge, cmp_eq, cmp_ne,
  bi_lenT, bi_lenL, bi_lenC, bi_lenS, bi_abs, bi_int, bi_max2, bi_min2, bi_tupL, bi_tupT, bi_lstL, bi_lstT, ix_tup, ix_lst, sl_tup, sl_lst, slS_lst, rev_tup, rev_lst, walk_tup, walk_lst, walk_scr, rng1_v, rng2_v, zip_lst, zip_tup, enum_lst, eqK_int,
  setAll, freeze, wipeE, bindTg, pk_non, pk_bl, pk_int, pk_str, pk_tup, pk_lst, pk_dct, pk_ins, pk_exc, pk_fn, pk_obj, pk_scr, pk_nls, vr_non, vr_bl, vr_int, vr_str, vr_tup, vr_lst, vr_dct, vr_ins, vr_exc, vr_fn, vr_obj, vr_scr, fz_int, fz_bl, fz_str, fz_obj, fz_tup, fz_lst, fz_nls, fz_non, fz_dct, fz_ins, fz_exc, fz_scr, fz_fn,
  List.map_cons, List.map_nil, List.length_cons, List.length_nil, List.replicate_succ, List.replicate_zero, List.cons_append, List.nil_append, List.getElem?_cons_zero, List.getElem?_cons_succ, List.set_cons_zero, List.set_cons_succ, Nat.sub_self, Nat.reduceSub, Nat.reduceAdd, Nat.zero_add, stAt_W, set_W, decide_true, decide_false, if_true, if_false, Bool.false_eq_true, true_and, and_true, List.foldl_cons, List.foldl_nil, List.zip_cons_cons, List.zip_nil_left, List.zip_nil_right, isi_non_bool, isi_non_int, isi_non_str, isi_non_tuple, isi_non_list, isi_non_dict, isi_non_ValueError, isi_bl_bool, isi_bl_int, isi_bl_str, isi_bl_tuple, isi_bl_list, isi_bl_dict, isi_bl_ValueError, isi_int_bool, isi_int_int, isi_int_str, isi_int_tuple, isi_int_list, isi_int_dict, isi_int_ValueError, isi_str_bool, isi_str_int, isi_str_str, isi_str_tuple, isi_str_list, isi_str_dict, isi_str_ValueError, isi_tup_bool, isi_tup_int, isi_tup_str, isi_tup_tuple, isi_tup_list, isi_tup_dict, isi_tup_ValueError, isi_lst_bool, isi_lst_int, isi_lst_str, isi_lst_tuple, isi_lst_list, isi_lst_dict, isi_lst_ValueError, isi_dct_bool, isi_dct_int, isi_dct_str, isi_dct_tuple, isi_dct_list, isi_dct_dict, isi_dct_ValueError, Bool.not_true, Bool.not_false, atI_0, atI_1, atI_2, le_sizeT, lt_sizeT, Nat.reduceLeDiff])



def intsP (l : List Int) : List PV := l.map PV.int
theorem int_Bd {i : Int} {m : Nat} (h : i.natAbs < 2 ^ m) : Bd m 1 (i : Rat) := ⟨h, (by decide : 1 < 2 ^ 1)⟩
theorem toP_int (i : Int) : PV.tup [.int i, .int 1] = toP (i : Rat) := rfl
/-- one turn, plain -/
def castL (l : List Int) : List Rat := l.map fun (i : Int) => (i : Rat)
theorem castL_dif : ∀ (l : List Int), castL (List.zipWith (fun o u => u - o) l l.tail) = List.zipWith (fun o u => u - o) (castL l) (castL l).tail := by
  intro l
  simp only [castL]
  rw [← List.map_tail, List.zipWith_map, List.map_zipWith]
  congr 1
  funext o u
  rw [Rat.intCast_sub]
theorem dif_len (l : List Int) : (List.zipWith (fun o u : Int => u - o) l l.tail).length = l.length - 1 := by simp
theorem pow5 {t : Nat} (h : t ≤ 5) : 1 ≤ 2 ^ t ∧ 2 ^ t ≤ 32 := ⟨Nat.one_le_two_pow, Nat.pow_le_pow_right (n := 2) (by decide) h⟩
theorem through_fn {T : Tab} (hT : HasQu T) {μ : Mu} {a L : Int} {l : List Int} {d : Nat} {k kx : KE} (ha : 0 ≤ a ∧ a < 60) (hL : 0 < L ∧ L ≤ 60) (h0 : 0 < l.length) (h5 : l.length ≤ 5) (hb : ∀ y ∈ l, y.natAbs < 2 ^ 50)
    (hk : AllBd 6400 1184 (Qu.thr a L l.length 0 (List.replicate l.length 0) (1 :: List.replicate (l.length - 1) 0) (castL l)) → k (.tup (pols (Qu.thr a L l.length 0 (List.replicate l.length 0) (1 :: List.replicate (l.length - 1) 0) (castL l)))) μ) :
    (gam T (d + 5)).call "poly_through" [.int a, .int L, .lst (intsP l)] μ k kx := by
  refine call_fn hT.pr hT.poly_through (d + 4) ⟨rfl, ?_⟩
  have hlen : (intsP l).length = l.length := by simp [intsP]
  have z0 : PV.tup [.int 0, .int 1] = toP 0 := rfl
  have z1 : PV.tup [.int 1, .int 1] = toP 1 := rfl
  simp only [B_poly_through, poly_through_0]
  walk_at "ev"
  rw [hlen]
  refine ⟨by omega, by omega, le_size (by omega), ?_⟩
  simp only [poly_through_1]
  walk_at "ev"
  have en : ((l.length : Int) - 1).toNat = l.length - 1 := by omega
  refine ⟨by omega, by omega, le_size (by omega), ?_⟩
  rw [en]
  have e0 : (List.replicate (l.length : Int).toNat [PV.tup [.int 0, .int 1]]).flatten = pols (List.replicate l.length 0) := by
    rw [z0]
    simp [pols, List.flatten_replicate_singleton]
  have e1 : PV.tup [.int 1, .int 1] :: (List.replicate (l.length - 1) [PV.tup [.int 0, .int 1]]).flatten = pols (1 :: List.replicate (l.length - 1) 0) := by
    rw [z0, z1]
    simp [pols, List.flatten_replicate_singleton]
  rw [e0, e1]
  refine ⟨by rw [List.length_flatten]; simp; exact le_size (by omega), ?_⟩
  simp only [poly_through_2]
  walk_at "ev"
  refine ⟨by omega, ?_⟩
  rw [Int.toNat_natCast]
  generalize hR : Qu.thr a L l.length 0 (List.replicate l.length 0) (1 :: List.replicate (l.length - 1) 0) (castL l) = R at hk
  refine forE_rng (fun t ρ μ' => ∃ (fo pa : List Rat) (ds : List Int) (a4 a8 a9 a10 : Option PV), t ≤ l.length ∧ ds.length = l.length - t ∧ fo.length = l.length ∧ pa.length = l.length ∧ (∀ y ∈ ds, y.natAbs < 2 ^ (50 + t)) ∧
    AllBd (200 * 2 ^ t) (37 * 2 ^ t) fo ∧ AllBd (60 * 2 ^ t) (37 * 2 ^ t - 18) pa ∧ Qu.thr a L (l.length - t) t fo pa (castL ds) = R ∧
    ρ = [some (.int a), some (.int L), some (.lst (intsP l)), some (.nls (pols pa)), a4, some (.int l.length), some (.nls (pols fo)), some (.nls (intsP ds)), a8, a9, a10] ∧ μ' = μ) ?_ ?_
    ⟨List.replicate l.length 0, 1 :: List.replicate (l.length - 1) 0, l, none, none, none, none, by omega, rfl, by simp, by simp; omega, hb, ?_, ?_, hR, rfl, rfl⟩
  · rintro t ρ μ' ht ⟨fo, pa, ds, a4, a8, a9, a10, ht2, hds, hfo, hpa, hbd, bfo, bpa, hthr, rfl, rfl⟩ N hN
    obtain ⟨P1, P2⟩ := pow5 (show t ≤ 5 by omega)
    obtain ⟨y, dr, rfl⟩ : ∃ y dr, ds = y :: dr := by
      cases ds with
      | nil => simp at hds; omega
      | cons y dr => exact ⟨y, dr, rfl⟩
    simp only [poly_through_3]
    walk_at "ev"
    simp only [poly_through_4]
    walk_at "ev"
    have hy := hbd y (by simp)
    have bm : ∀ q ∈ pa, Bd (60 * 2 ^ t + (50 + t)) (37 * 2 ^ t - 18 + 1) (q * (y : Rat)) := fun q hq => mul_Bd (bpa q hq) (int_Bd hy)
    refine compE_map toP (fun q => toP (q * (y : Rat))) pa (le_size (by omega)) (fun q hq => ⟨_, rfl, fun N2 hN2 => ?_⟩) ?_
    · simp only [intsP, List.map_cons]
      walk_at "ev"
      rw [toP_int]
      exact multiplied_ok hT.fr (bpa q hq) (int_Bd hy) (by omega) (by omega) fun _ => hN2 _ rfl
    have e : pa.map (fun q => toP (q * (y : Rat))) = pols (pa.map (· * (y : Rat))) := by simp [pols]
    rw [e]
    walk_at "ev"
    refine poly_sum_ok hT bfo (b := pa.map (· * (y : Rat))) (m2 := 60 * 2 ^ t + (50 + t)) (n2 := 37 * 2 ^ t - 18 + 1) (m := 200 * 2 ^ t + 37 * 2 ^ t + 60 * 2 ^ t) (fun q hq => by
      obtain ⟨q', h1, rfl⟩ := List.mem_map.mp hq
      exact bm q' h1) ⟨by omega, by omega, by omega⟩ (by omega) (by omega) fun bs => ?_
    walk_at "ev"
    simp only [poly_through_5]
    walk_at "ev"
    refine ⟨mulOk_r (by omega) (by omega), ?_⟩
    simp only [poly_through_6]
    walk_at "ev"
    simp only [poly_through_7]
    walk_at "ev"
    refine ⟨mulOk_r (by omega) (by omega), ?_⟩
    have t4 : (t : Int) ≤ 4 := by omega
    have u1 : 0 ≤ L * t := Int.mul_nonneg (by omega) (by omega)
    have u2 : L * (t : Int) ≤ 240 := by
      have := Int.mul_le_mul (show L ≤ 60 by omega) t4 (by omega) (by omega)
      omega
    have e3 : (0 : Int) + (t : Int) = t := by omega
    rw [e3]
    have w1 : L * ((t : Int) + 1) = L * t + L := by rw [Int.mul_add, Int.mul_one]
    have w0 : L * ((t : Int) + 1) ≠ 0 := by omega
    have w2 : (L * ((t : Int) + 1)).natAbs < 2 ^ 9 := by rw [w1]; show _ < 512; omega
    have w3 : (-a - L * t).natAbs < 2 ^ 9 := by show _ < 512; omega
    refine lowest_ok hT.fr w0 (lt_mono w2 (by decide)) ?_
    walk_at "ev"
    refine lowest_ok hT.fr w0 (lt_mono w2 (by decide)) ?_
    walk_at "ev"
    refine poly_times_ok hT bpa (mf := 9) (nf := 9) (divInt_Bd w0 w3 w2) (divInt_Bd w0 (by decide) w2) (by omega) (by omega) (by omega) fun bt => ?_
    walk_at "ev"
    simp only [poly_through_8]
    walk_at "ev"
    have hs : (HT.sIx (intsP (y :: dr)).length 0 (some 1)) = 1 := by
      show HT.sIx _ 0 (some ((1 : Nat) : Int)) = 1
      rw [HT.sIx_nat]
      simp [intsP]
    have hs2 : HT.sIx (intsP (y :: dr)).length (intsP (y :: dr)).length none = (intsP (y :: dr)).length := rfl
    rw [hs, hs2]
    have ez : List.zipWith (fun x y => PV.tup [x, y]) (intsP (y :: dr)) (((intsP (y :: dr)).drop 1).take ((intsP (y :: dr)).length - 1)) = ((y :: dr).zip dr).map fun p => PV.tup [.int p.1, .int p.2] := by
      have : ((intsP (y :: dr)).drop 1).take ((intsP (y :: dr)).length - 1) = dr.map PV.int := by
        simp only [intsP, List.map_cons, List.drop_succ_cons, List.drop_zero, List.length_cons, List.length_map]
        exact List.take_of_length_le (by simp)
      rw [this]
      simp only [intsP]
      rw [List.zipWith_map, List.zip, List.map_zipWith]
    rw [ez]
    refine compE_map _ (fun p : Int × Int => PV.int (p.2 - p.1)) ((y :: dr).zip dr) (le_size (by simp at hds ⊢; omega)) (fun p hp => ⟨_, rfl, fun N2 hN2 => ?_⟩) ?_
    · walk_at "ev"
      exact hN2 _ rfl
    have ed : ((y :: dr).zip dr).map (fun p => PV.int (p.2 - p.1)) = intsP (List.zipWith (fun o u : Int => u - o) (y :: dr) (y :: dr).tail) := by
      simp only [intsP, List.tail_cons, List.zip]
      rw [List.map_zipWith, List.map_zipWith]
    rw [ed]
    walk_at "ev"
    have P3 : 2 ^ (t + 1) = 2 * 2 ^ t := by rw [Nat.pow_succ]; omega
    refine hN _ _ ⟨_, _, _, some (.int t), some (.int (L * (t + 1))), a9, a10, by omega, ?_, ?_, ?_, ?_, ?_, ?_, ?_, rfl, rfl⟩
    · rw [dif_len, hds]; omega
    · simp [Qu.psum, hfo, hpa]
    · rw [Qu.pt_length, hpa]
    · intro z hz
      rw [← List.map_uncurry_zip_eq_zipWith] at hz
      obtain ⟨p, hp, rfl⟩ := List.mem_map.mp hz
      have h1 := List.of_mem_zip hp
      have h2 := hbd _ h1.1
      have h3 := hbd _ (List.mem_of_mem_tail h1.2)
      show (p.2 - p.1).natAbs < _
      have : 2 ^ (50 + (t + 1)) = 2 * 2 ^ (50 + t) := by rw [← Nat.add_assoc, Nat.pow_succ]; omega
      omega
    · rw [P3]
      intro q hq
      exact (bs q hq).mono (by omega) (by omega)
    · rw [P3]
      intro q hq
      exact (bt q hq).mono (by omega) (by omega)
    · rw [← hthr]
      have : l.length - t = (l.length - (t + 1)) + 1 := by omega
      rw [this]
      simp only [Qu.thr]
      rw [castL_dif]
      have ey : (castL (y :: dr)).getD 0 0 = (y : Rat) := rfl
      rw [ey]
  · rintro ρ μ' ⟨fo, pa, ds, a4, a8, a9, a10, ht2, hds, hfo, hpa, hbd, bfo, bpa, hthr, rfl, rfl⟩
    simp only [poly_through_9]
    walk_at "ev"
    rw [Nat.sub_self] at hthr
    simp only [Qu.thr] at hthr
    subst hthr
    obtain ⟨P1, P2⟩ := pow5 h5
    exact hk fun q hq => (bfo q hq).mono (by omega) (by omega)
  · intro q hq
    rw [List.eq_of_mem_replicate hq]
    exact ⟨by decide, by decide⟩
  · intro q hq
    rcases List.mem_cons.mp hq with rfl | hq
    · exact ⟨by decide, by decide⟩
    · rw [List.eq_of_mem_replicate hq]
      exact ⟨by decide, by decide⟩
end Mi
end

section
-- MiniT
set_option Elab.async false
set_option linter.all false
set_option maxRecDepth 100000
set_option maxHeartbeats 4000000
/-! Mini, part T: quasi_of, quasi_at -/
namespace Mi
open PySem PySem.Spec PyProof.Rows L2
def is_int_0 : Ss := (.cons (.ret (.and (.cons (.isin (.pk 0) (.bi "int")) (.cons (.not (.isin (.pk 0) (.bi "bool"))) .nil)))) .nil)
def B_is_int : Fun := ⟨["value"], 1, is_int_0⟩
def is_fraction_1 : Ss := (.cons (.ret (.cbl false)) .nil)
def is_fraction_2 : Ss := (.cons (.ret (.and (.cons (.cmp .ge (.ix (.pk 0) (.cint 1)) (.cint 1)) (.cons (.cmp .eq (.call "common" (.cons (.ix (.pk 0) (.cint 0)) (.cons (.ix (.pk 0) (.cint 1)) .nil))) (.cint 1)) .nil)))) .nil)
def is_fraction_0 : Ss := (.cons (.ifs (.or (.cons (.not (.isin (.pk 0) (.bi "tuple"))) (.cons (.cmp .ne (.bi .len (.cons (.pk 0) .nil)) (.cint 2)) (.cons (.not (.call "is_int" (.cons (.ix (.pk 0) (.cint 0)) .nil))) (.cons (.not (.call "is_int" (.cons (.ix (.pk 0) (.cint 1)) .nil))) .nil)))))
 is_fraction_1
 .nil) is_fraction_2)
def B_is_fraction : Fun := ⟨["value"], 1, is_fraction_0⟩
def is_quasi_1 : Ss := (.cons (.ret (.cbl false)) .nil)
def is_quasi_4 : Ss := (.cons (.ret (.cbl false)) .nil)
def is_quasi_3 : Ss := (.cons (.ifs (.or (.cons (.not (.isin (.pk 1) (.bi "tuple"))) (.cons (.not (.chain .le .le (.cint 1) (.bi .len (.cons (.pk 1) .nil)) (.cint 5))) (.cons (.not (.bi .all (.cons (.comp [("part", 2)] (.nm 2) (.ex (.pk 1)) .no (.call "is_fraction" (.cons (.var 2) .nil))) .nil))) .nil))))
 is_quasi_4
 .nil) .nil)
def is_quasi_5 : Ss := (.cons (.ret (.bi .all (.cons (.comp [("poly", 1)] (.nm 1) (.ex (.pk 0)) .no (.cmp .eq (.bi .len (.cons (.pk 1) .nil)) (.bi .len (.cons (.ix (.pk 0) (.cint 0)) .nil)))) .nil))) .nil)
def is_quasi_2 : Ss := (.cons (.fors (.nm 1) (.ex (.var 0))
 is_quasi_3) is_quasi_5)
def is_quasi_0 : Ss := (.cons (.ifs (.or (.cons (.not (.isin (.pk 0) (.bi "tuple"))) (.cons (.not (.chain .le .le (.cint 1) (.bi .len (.cons (.pk 0) .nil)) (.cst "MOST_ROUND"))) .nil)))
 is_quasi_1
 .nil) is_quasi_2)
def B_is_quasi : Fun := ⟨["value"], 3, is_quasi_0⟩
def quasi_at_1 : Ss := (.cons (.rai "BadQuasi") .nil)
def quasi_at_3 : Ss := (.cons (.rai "BadAmount") .nil)
def quasi_at_6 : Ss := (.cons (.asg 2 (.call "summed" (.cons (.call "multiplied" (.cons (.var 2) (.cons (.tup (.cons (.var 1) (.cons (.cint 1) .nil))) .nil))) (.cons (.var 3) .nil)))) .nil)
def quasi_at_7 : Ss := (.cons (.retv 2) .nil)
def quasi_at_5 : Ss := (.cons (.fors (.nm 3) (.ex (.rev (.ix (.pk 0) (.bin .mod (.pk 1) (.bi .len (.cons (.pk 0) .nil))))))
 quasi_at_6) quasi_at_7)
def quasi_at_4 : Ss := (.cons (.asg 2 (.tup (.cons (.cint 0) (.cons (.cint 1) .nil)))) quasi_at_5)
def quasi_at_2 : Ss := (.cons (.ifs (.or (.cons (.not (.isin (.pk 1) (.bi "int"))) (.cons (.isin (.pk 1) (.bi "bool")) .nil)))
 quasi_at_3
 .nil) quasi_at_4)
def quasi_at_0 : Ss := (.cons (.ifs (.not (.call "is_quasi" (.cons (.var 0) .nil)))
 quasi_at_1
 .nil) quasi_at_2)
def B_quasi_at : Fun := ⟨["quasi", "amount"], 4, quasi_at_0⟩
structure HasAt (T : Tab) : Prop where
  qu : HasQu T
  pr : ∀ f, T.prim f = none
  is_int : T.fn.lookup ("is_int" : Str) = some B_is_int
  is_fraction : T.fn.lookup ("is_fraction" : Str) = some B_is_fraction
  is_quasi : T.fn.lookup ("is_quasi" : Str) = some B_is_quasi
  MOST_ROUND : T.cints.lookup ("MOST_ROUND" : Str) = some 60
local macro_rules | `(tactic| walk_at "ev") => `(tactic| try simp only [pk_toP, vr_toP, fz_toP, ev_var, ev_pk, ev_cint, ev_cbl, ev_cstr, ev_cnon, ev_cst, ev_tup, ev_lst, ev_dct0, ev_bin, ev_neg, ev_not, ev_and, ev_or, ev_cmp, ev_chain, ev_isn, ev_nisn, ev_isb, ev_ite, ev_call, ev_callk, ev_mk, ev_mkk, ev_bi, ev_isin, ev_attr, ev_ix, ev_sl, ev_slS, ev_rev, ev_comp, ev_caught, ev_callv, ev_sleft, ev_sturn, ev_sgreat,
  els_nil, els_cons, er_nil, er_cons, eo_no, eo_yes, ec_no, ec_yes, sr_ex, sr_cells, sr_rng1, sr_rng2, sr_zip, sr_enum, ea_one, ea_cons, eor_one, eor_cons,
  ss_nil, ss_cons, st_asg, st_asgT, st_par, st_setIx, st_app, st_appPop, st_ex, st_ret, st_retv, st_retN, st_ifs, st_fors, st_whs, st_rai, st_rai1, st_pass, st_brk, st_cnt, st_frz, st_aug, st_setL, st_setT, st_mkst, nlsV_v, intsOf_ints,
  nlsK_v, augK_v, optK_some, optK_none, intK_v, tupK_v, blK_v, trK_bl, trK_int, bin_add, bin_sub, bin_mul, bin_fdiv, bin_mod, bin_pow, bin_addS, bin_addT, bin_addL, bin_mulL, bin_mulT, cmp_lt, cmp_le, cmp_gt, cmp_ge, cmp_eq, cmp_ne,
  bi_lenT, bi_lenL, bi_lenC, bi_lenS, bi_abs, bi_int, bi_max2, bi_min2, bi_tupL, bi_tupT, bi_lstL, bi_lstT, ix_tup, ix_lst, sl_tup, sl_lst, slS_lst, rev_tup, rev_lst, walk_tup, walk_lst, walk_scr, rng1_v, rng2_v, zip_lst, zip_tup, enum_lst, eqK_int,
  setAll, freeze, wipeE, bindTg, pk_non, pk_bl, pk_int, pk_str, pk_tup, pk_lst, pk_dct, pk_ins, pk_exc, pk_fn, pk_obj, pk_scr, pk_nls, vr_non, vr_bl, vr_int, vr_str, vr_tup, vr_lst, vr_dct, vr_ins, vr_exc, vr_fn, vr_obj, vr_scr, fz_int, fz_bl, fz_str, fz_obj, fz_tup, fz_lst, fz_nls, fz_non, fz_dct, fz_ins, fz_exc, fz_scr, fz_fn,
  List.map_cons, List.map_nil, List.length_cons, List.length_nil, List.replicate_succ, List.replicate_zero, List.cons_append, List.nil_append, List.getElem?_cons_zero, List.getElem?_cons_succ, List.set_cons_zero, List.set_cons_succ, Nat.sub_self, Nat.reduceSub, Nat.reduceAdd, Nat.zero_add, stAt_W, set_W, decide_true, decide_false, if_true, if_false, Bool.false_eq_true, true_and, and_true, List.foldl_cons, List.foldl_nil, List.zip_cons_cons, List.zip_nil_left, List.zip_nil_right, isi_non_bool, isi_non_int, isi_non_str, isi_non_tuple, isi_non_list, isi_non_dict, isi_non_ValueError, isi_bl_bool, isi_bl_int, isi_bl_str, isi_bl_tuple, isi_bl_list, isi_bl_dict, isi_bl_ValueError, isi_int_bool, isi_int_int, isi_int_str, isi_int_tuple, isi_int_list, isi_int_dict, isi_int_ValueError, isi_str_bool, isi_str_int, isi_str_str, isi_str_tuple, isi_str_list, isi_str_dict, isi_str_ValueError, isi_tup_bool, isi_tup_int, isi_tup_str, isi_tup_tuple, isi_tup_list, isi_tup_dict, isi_tup_ValueError, isi_lst_bool, isi_lst_int, isi_lst_str, isi_lst_tuple, isi_lst_list, isi_lst_dict, isi_lst_ValueError, isi_dct_bool, isi_dct_int, isi_dct_str, isi_dct_tuple, isi_dct_list, isi_dct_dict, isi_dct_ValueError, Bool.not_true, Bool.not_false, atI_0, atI_1, atI_2, le_sizeT, lt_sizeT, Nat.reduceLeDiff])



theorem S_le {p : Int} {f : Int → Int} {B M : Int} (hp : 0 < p) (hB : 0 ≤ B) (hn : ∀ a, a < 0 → f a = 0) (h : ∀ a, a ≤ M → 0 ≤ f a ∧ f a ≤ B) : ∀ a, a ≤ M → 0 ≤ Qu.S p f a ∧ (0 ≤ a → Qu.S p f a ≤ (a + 1) * B) := by
  have key : ∀ (n : Nat) (a : Int), a < n → a ≤ M → 0 ≤ Qu.S p f a ∧ (0 ≤ a → Qu.S p f a ≤ (a + 1) * B) := by
    intro n
    induction n with
    | zero => intro a ha _; rw [Qu.S_neg (by omega)]; exact ⟨by omega, fun h => by omega⟩
    | succ n ih =>
      intro a ha hM
      have e := Qu.S_eq hp hn a
      have hf := h a hM
      by_cases h0 : a < 0
      · rw [Qu.S_neg h0]; exact ⟨by omega, fun h => by omega⟩
      · have i := ih (a - p) (by omega) (by omega)
        refine ⟨by omega, fun _ => ?_⟩
        by_cases h1 : a - p < 0
        · rw [e, Qu.S_neg h1]
          have : 1 * B ≤ (a + 1) * B := Int.mul_le_mul_of_nonneg_right (by omega) hB
          omega
        · have i2 := i.2 (by omega)
          have : (a - p + 1) * B ≤ a * B := Int.mul_le_mul_of_nonneg_right (by omega) hB
          have : (a + 1) * B = a * B + B := by rw [Int.add_mul, Int.one_mul]
          omega
  exact fun a => key (a.toNat + 1) a (by omega)
theorem fold_le {M : Int} (hM : 0 ≤ M) : ∀ (row : List Int) (f : Int → Int) (B : Int), 0 ≤ B → (∀ p ∈ row, 1 ≤ p) → (∀ a, a < 0 → f a = 0) → (∀ a, a ≤ M → 0 ≤ f a ∧ f a ≤ B) → ∀ a, a ≤ M → 0 ≤ row.foldl (fun f p => Qu.S p f) f a ∧ row.foldl (fun f p => Qu.S p f) f a ≤ (M + 1) ^ row.length * B
  | [], f, B, hB, _, _, h, a, ha => by simpa using h a ha
  | p :: row, f, B, hB, hp, hn, h, a, ha => by
    have hp1 := hp p (by simp)
    have b0 : 0 ≤ (M + 1) * B := Int.mul_nonneg (by omega) hB
    have r := fold_le hM row (Qu.S p f) ((M + 1) * B) b0 (fun q hq => hp q (List.mem_cons_of_mem _ hq)) (fun a h => Qu.S_neg h) (fun c hc => by
      have s := S_le (show 0 < p by omega) hB hn h c hc
      refine ⟨s.1, ?_⟩
      by_cases h0 : c < 0
      · rw [Qu.S_neg h0]; exact b0
      · exact Int.le_trans (s.2 (by omega)) (Int.mul_le_mul_of_nonneg_right (show c + 1 ≤ M + 1 by omega) hB)) a ha
    rw [List.foldl_cons, List.length_cons, Int.pow_succ, Int.mul_assoc]
    exact r
theorem N_le {row : List Int} (h : RowOk row) {a : Int} (ha : a ≤ 300) : (Qu.N row a).natAbs < 2 ^ 50 := by
  have r := fold_le (M := 300) (by decide) row Qu.one0 1 (by decide) (fun p hp => (h.part p hp).1) (fun a h => by simp only [Qu.one0]; rw [if_neg (by omega)]) (fun a ha => by simp only [Qu.one0]; split <;> omega) a ha
  have e : (300 + 1 : Int) ^ row.length * 1 ≤ 301 ^ 5 := by
    rw [Int.mul_one]
    exact_mod_cast Nat.pow_le_pow_right (n := 301) (by decide) h.le
  have r1 : 0 ≤ Qu.N row a := r.1
  have r2 : Qu.N row a ≤ (300 + 1 : Int) ^ row.length * 1 := r.2
  have : (301 : Int) ^ 5 < 2 ^ 50 := by decide
  have t : Qu.N row a < 2 ^ 50 := by omega
  have e2 : (2 : Int) ^ 50 = ((2 ^ 50 : Nat) : Int) := by norm_cast
  omega
theorem stepV_tab {f : Int → Int} {L m r : Nat} (hr : r < L) (hm : 0 < m) : stepV (tabI f (L * m + 1)) (some (r : Int)) (some ((L : Int) * m)) L = (List.range m).map fun (j : Nat) => PV.int (f (r + L * j)) := by
  have lm : ((L * m : Nat) : Int) = (L : Int) * m := by simp
  have lm1 : L * 1 ≤ L * m := Nat.mul_le_mul_left L hm
  unfold stepV
  rw [tabI_len]
  have b : sliceBounds (some (r : Int)) (some ((L : Int) * m)) (some (L : Int)) (L * m + 1) = ((r : Int), (L : Int) * m, (L : Int)) := by
    unfold sliceBounds
    simp only [Option.getD_some]
    have p1 : (L : Int) > 0 := by omega
    have p2 : ¬ ((r : Int) < 0) := by omega
    have p3 : ¬ ((L : Int) * m < 0) := by omega
    simp only [p1, p2, p3, if_true, if_false]
    refine Prod.ext ?_ (Prod.ext ?_ rfl)
    · show max 0 (min (r : Int) ((L * m + 1 : Nat) : Int)) = r
      omega
    · show max 0 (min ((L : Int) * m) ((L * m + 1 : Nat) : Int)) = (L : Int) * m
      omega
  rw [b]
  unfold sliceRange
  have p1 : (L : Int) > 0 := by omega
  have p2 : (r : Int) < (L : Int) * m := by omega
  simp only [p1, p2, if_true]
  have cnt : ((L : Int) * m - r + L - 1) / L = m := by
    have e : (L : Int) * m - r + L - 1 = (L - 1 - r) + L * m := by omega
    rw [e, Int.add_mul_ediv_left _ _ (by omega), Int.ediv_eq_zero_of_lt (by omega) (by omega)]; omega
  rw [cnt, Int.toNat_natCast, List.filterMap_map]
  have key : ∀ j ∈ List.range m, ((fun x => (tabI f (L * m + 1))[x]?) ∘ fun (k : Nat) => ((r : Int) + L * k).toNat) j = some (PV.int (f (r + L * j))) := fun j hj => by
    have hj := List.mem_range.mp hj
    have e : ((r : Int) + L * j).toNat = r + L * j := by
      have : ((L * j : Nat) : Int) = (L : Int) * j := by simp
      omega
    have h2 : L * (j + 1) ≤ L * m := Nat.mul_le_mul_left L hj
    have h3 : L * (j + 1) = L * j + L := by rw [Nat.mul_add, Nat.mul_one]
    have h4 : r + L * j < L * m + 1 := by omega
    show (tabI f (L * m + 1))[((r : Int) + L * j).toNat]? = _
    rw [e]
    simp [tabI, h4]
  have gen : ∀ (l : List Nat), (∀ j ∈ l, ((fun x => (tabI f (L * m + 1))[x]?) ∘ fun (k : Nat) => ((r : Int) + L * k).toNat) j = some (PV.int (f (r + L * j)))) → l.filterMap ((fun x => (tabI f (L * m + 1))[x]?) ∘ fun (k : Nat) => ((r : Int) + L * k).toNat) = l.map fun (j : Nat) => PV.int (f (r + L * j)) := by
    intro l
    induction l with
    | nil => intro _; rfl
    | cons j l ih =>
      intro h
      rw [List.filterMap_cons, h j (by simp), List.map_cons, ih fun i hi => h i (List.mem_cons_of_mem _ hi)]
  exact gen _ key
/-- polynomials, written -/
def polsT (qs : List (List Rat)) : List PV := qs.map fun c => PV.tup (pols c)
/-- polynomials that can be asked -/
structure QsOk (m : Nat) (qs : List (List Rat)) : Prop where
  ne : qs ≠ []
  le : qs.length ≤ 60
  len : ∀ c ∈ qs, c.length = m
  m1 : 1 ≤ m
  m5 : m ≤ 5
  bd : ∀ c ∈ qs, AllBd 6400 1184 c
theorem quasi_of_ok {T : Tab} (hT : HasQu T) {μ : Mu} {row : List Int} {d : Nat} {k kx : KE} (h : RowOk row) (hr : Lc row ≤ 60) (hk : QsOk row.length (Qu.quasi (Lc row) row) → k (.tup (polsT (Qu.quasi (Lc row) row))) μ) : (gam T (d + 6)).call "quasi_of" [.tup (row.map PV.int)] μ k kx := by
  refine call_fn hT.pr hT.quasi_of (d + 5) ⟨rfl, ?_⟩
  have h1 : ∀ p ∈ row, 1 ≤ p := fun p hp => (h.part p hp).1
  have hp : ∀ p ∈ row, 1 ≤ p ∧ p ≤ 1000000 := fun p hp => by have := h.part p hp; omega
  have L0 := Lc_pos h1
  have r0 : 0 < row.length := List.length_pos_iff.mpr h.ne
  have r5 := h.le
  simp only [B_quasi_of, quasi_of_0]
  walk_at "ev"
  refine need_round_ok hT h hr ?_
  walk_at "ev"
  simp only [quasi_of_1]
  walk_at "ev"
  refine round_ok hT hp ?_
  walk_at "ev"
  simp only [quasi_of_2]
  walk_at "ev"
  simp only [List.length_map]
  generalize hL : Lc row = L at *
  have lm : ((L * row.length : Nat) : Int) = (L : Int) * row.length := by simp
  have lm2 : L * row.length ≤ 60 * 5 := Nat.mul_le_mul hr r5
  refine ⟨mulOk_r (by omega) (by omega), ?_⟩
  refine numbers_to_ok hT.cn hp (by omega) (by omega) ?_
  walk_at "ev"
  simp only [quasi_of_3]
  walk_at "ev"
  refine ⟨by omega, ?_⟩
  have er : rngL 0 (L : Int).toNat = (List.range L).map fun (r : Nat) => PV.int r := by
    rw [Int.toNat_natCast]
    have : ∀ (n : Nat) (lo : Int), rngL lo n = (List.range n).map fun (r : Nat) => PV.int (lo + r) := by
      intro n
      induction n with
      | zero => intro lo; rfl
      | succ n ih =>
        intro lo
        rw [rngL, ih, List.range_succ_eq_map, List.map_cons, List.map_map]
        congr 1
        · congr 1; omega
        · apply List.map_congr_left
          intro i _
          simp only [Function.comp]
          congr 1
          omega
    rw [this]
    apply List.map_congr_left
    intro i _
    congr 1; omega
  rw [er]
  have emost : ((L : Int) * row.length + 1).toNat = L * row.length + 1 := by omega
  rw [emost]
  -- one polynomial
  let l := fun (r : Nat) => (List.range row.length).map fun (j : Nat) => Qu.N row (r + L * j)
  have el : ∀ r : Nat, Qu.through r L (fun j => Qu.cast (Qu.N row) ((r : Int) + (L : Int) * j)) row.length = Qu.thr r L (l r).length 0 (List.replicate (l r).length 0) (1 :: List.replicate ((l r).length - 1) 0) (castL (l r)) := fun r => by
    simp only [Qu.through, l, castL, Qu.tabD, List.length_map, List.length_range, List.map_map]
    rfl
  have one : ∀ r : Nat, r < L → ∀ (k kx : KE), (AllBd 6400 1184 (Qu.through r L (fun j => Qu.cast (Qu.N row) ((r : Int) + (L : Int) * j)) row.length) → k (.tup (pols (Qu.through r L (fun j => Qu.cast (Qu.N row) ((r : Int) + (L : Int) * j)) row.length))) μ) → (gam T (d + 5)).call "poly_through" [.int r, .int L, .lst (intsP (l r))] μ k kx := fun r hrl k kx hk => by
    refine through_fn hT (by omega) (by omega) (by simp [l]; omega) (by simp [l]; omega) (fun y hy => ?_) ?_
    · simp only [l, List.mem_map, List.mem_range] at hy
      obtain ⟨j, hj, rfl⟩ := hy
      have h2 : L * (j + 1) ≤ L * row.length := Nat.mul_le_mul_left L hj
      have h3 : L * (j + 1) = L * j + L := by rw [Nat.mul_add, Nat.mul_one]
      have h4 : ((L * j : Nat) : Int) = (L : Int) * j := by simp
      exact N_le h (by omega)
    · rw [← el]; exact hk
  refine compE_mapP (fun (r : Nat) => AllBd 6400 1184 (Qu.through r L (fun j => Qu.cast (Qu.N row) ((r : Int) + (L : Int) * j)) row.length)) (fun (r : Nat) => PV.int r) (fun (r : Nat) => PV.tup (pols (Qu.through r L (fun j => Qu.cast (Qu.N row) ((r : Int) + (L : Int) * j)) row.length))) (List.range L) (le_size (by simp; omega)) (fun r hrl => ⟨_, rfl, fun N2 hN2 => ?_⟩) ?_
  · have hrl := List.mem_range.mp hrl
    walk_at "ev"
    refine ⟨mulOk_r (by omega) (by omega), by omega, ?_⟩
    rw [stepV_tab hrl r0]
    have e : (List.range row.length).map (fun (j : Nat) => PV.int (Qu.N row (r + L * j))) = intsP (l r) := by
      simp only [intsP, l, List.map_map]; rfl
    rw [e]
    exact one r hrl _ _ fun hb => hN2 _ rfl hb
  · intro bds
    have e : (List.range L).map (fun (r : Nat) => PV.tup (pols (Qu.through r L (fun j => Qu.cast (Qu.N row) ((r : Int) + (L : Int) * j)) row.length))) = polsT (Qu.quasi L row) := by
      simp only [polsT, Qu.quasi, List.map_map]; rfl
    rw [e]
    walk_at "ev"
    refine hk ⟨?_, by simp [Qu.quasi]; exact hr, fun c hc => ?_, r0, r5, fun c hc => ?_⟩
    · intro z
      have := congrArg List.length z
      simp [Qu.quasi] at this
      omega
    · simp only [Qu.quasi, List.mem_map, List.mem_range] at hc
      obtain ⟨r, hr, rfl⟩ := hc
      exact (Qu.through_ok r (by omega) row.length _).1
    · simp only [Qu.quasi, List.mem_map, List.mem_range] at hc
      obtain ⟨r, hr, rfl⟩ := hc
      exact bds r (List.mem_range.mpr hr)
end Mi
end

section
-- MiniU
set_option Elab.async false
set_option linter.all false
set_option maxRecDepth 100000
set_option maxHeartbeats 4000000
/-! Mini, part U: quasi_at -/
namespace Mi
open PySem PySem.Spec PyProof.Rows L2
local macro_rules | `(tactic| walk_at "ev") => `(tactic| try simp only [pk_toP, vr_toP, fz_toP, ev_var, ev_pk, ev_cint, ev_cbl, ev_cstr, ev_cnon, ev_cst, ev_tup, ev_lst, ev_dct0, ev_bin, ev_neg, ev_not, ev_and, ev_or, ev_cmp, ev_chain, ev_isn, ev_nisn, ev_isb, ev_ite, ev_call, ev_callk, ev_mk, ev_mkk, ev_bi, ev_isin, ev_attr, ev_ix, ev_sl, ev_slS, ev_rev, ev_comp, ev_caught, ev_callv, ev_sleft, ev_sturn, ev_sgreat,
  els_nil, els_cons, er_nil, er_cons, eo_no, eo_yes, ec_no, ec_yes, sr_ex, sr_cells, sr_rng1, sr_rng2, sr_zip, sr_enum, ea_one, ea_cons, eor_one, eor_cons,
  ss_nil, ss_cons, st_asg, st_asgT, st_par, st_setIx, st_app, st_appPop, st_ex, st_ret, st_retv, st_retN, st_ifs, st_fors, st_whs, st_rai, st_rai1, st_pass, st_brk, st_cnt, st_frz, st_aug, st_setL, st_setT, st_mkst, nlsV_v, intsOf_ints,
  nlsK_v, augK_v, optK_some, optK_none, intK_v, tupK_v, blK_v, trK_bl, trK_int, bin_add, bin_sub, bin_mul, bin_fdiv, bin_mod, bin_pow, bin_addS, bin_addT, bin_addL, bin_mulL, bin_mulT, cmp_lt, cmp_le, cmp_gt, cmp_ge, cmp_eq, cmp_ne,
  bi_lenT, bi_lenL, bi_lenC, bi_lenS, bi_abs, bi_int, bi_max2, bi_min2, bi_tupL, bi_tupT, bi_lstL, bi_lstT, ix_tup, ix_lst, sl_tup, sl_lst, slS_lst, rev_tup, rev_lst, walk_tup, walk_lst, walk_scr, rng1_v, rng2_v, zip_lst, zip_tup, enum_lst, eqK_int,
  setAll, freeze, wipeE, bindTg, pk_non, pk_bl, pk_int, pk_str, pk_tup, pk_lst, pk_dct, pk_ins, pk_exc, pk_fn, pk_obj, pk_scr, pk_nls, vr_non, vr_bl, vr_int, vr_str, vr_tup, vr_lst, vr_dct, vr_ins, vr_exc, vr_fn, vr_obj, vr_scr, fz_int, fz_bl, fz_str, fz_obj, fz_tup, fz_lst, fz_nls, fz_non, fz_dct, fz_ins, fz_exc, fz_scr, fz_fn,
  List.map_cons, List.map_nil, List.length_cons, List.length_nil, List.replicate_succ, List.replicate_zero, List.cons_append, List.nil_append, List.getElem?_cons_zero, List.getElem?_cons_succ, List.set_cons_zero, List.set_cons_succ, Nat.sub_self, Nat.reduceSub, Nat.reduceAdd, Nat.zero_add, stAt_W, set_W, decide_true, decide_false, if_true, if_false, Bool.false_eq_true, true_and, and_true, List.foldl_cons, List.foldl_nil, List.zip_cons_cons, List.zip_nil_left, List.zip_nil_right, isi_non_bool, isi_non_int, isi_non_str, isi_non_tuple, isi_non_list, isi_non_dict, isi_non_ValueError, isi_bl_bool, isi_bl_int, isi_bl_str, isi_bl_tuple, isi_bl_list, isi_bl_dict, isi_bl_ValueError, isi_int_bool, isi_int_int, isi_int_str, isi_int_tuple, isi_int_list, isi_int_dict, isi_int_ValueError, isi_str_bool, isi_str_int, isi_str_str, isi_str_tuple, isi_str_list, isi_str_dict, isi_str_ValueError, isi_tup_bool, isi_tup_int, isi_tup_str, isi_tup_tuple, isi_tup_list, isi_tup_dict, isi_tup_ValueError, isi_lst_bool, isi_lst_int, isi_lst_str, isi_lst_tuple, isi_lst_list, isi_lst_dict, isi_lst_ValueError, isi_dct_bool, isi_dct_int, isi_dct_str, isi_dct_tuple, isi_dct_list, isi_dct_dict, isi_dct_ValueError, Bool.not_true, Bool.not_false, atI_0, atI_1, atI_2, le_sizeT, lt_sizeT, Nat.reduceLeDiff])



theorem is_int_ok {T : Tab} (hT : HasAt T) {μ : Mu} {i : Int} {d : Nat} {k kx : KE} (hk : k (.bl true) μ) : (gam T (d + 1)).call "is_int" [.int i] μ k kx := by
  refine call_fn hT.pr hT.is_int d ⟨rfl, ?_⟩
  simp only [B_is_int, is_int_0]
  walk_at "ev"
  exact hk
theorem gcd_one (q : Rat) : Int.gcd q.num q.den = 1 := by
  have := q.reduced
  unfold Int.gcd
  exact this
theorem is_fraction_ok {T : Tab} (hT : HasAt T) {μ : Mu} {q : Rat} {d : Nat} {k kx : KE} (hk : k (.bl true) μ) : (gam T (d + 2)).call "is_fraction" [toP q] μ k kx := by
  refine call_fn hT.pr hT.is_fraction (d + 1) ⟨rfl, ?_⟩
  simp only [B_is_fraction, is_fraction_0, toP]
  walk_at "ev"
  simp only [show decide (((0 + 1 + 1 : Nat) : Int) = 2) = true by decide, Bool.not_true]
  walk_at "ev"
  refine is_int_ok hT ?_
  walk_at "ev"
  refine is_int_ok hT ?_
  walk_at "ev"
  simp only [is_fraction_2]
  walk_at "ev"
  have := den_pos q
  rw [if_pos (by simp; omega)]
  refine common_ok hT.qu.fr ?_
  walk_at "ev"
  rw [gcd_one]
  exact hk
theorem is_quasi_ok {T : Tab} (hT : HasAt T) {μ : Mu} {m : Nat} {qs : List (List Rat)} {d : Nat} {k kx : KE} (h : QsOk m qs) (hk : k (.bl true) μ) : (gam T (d + 3)).call "is_quasi" [.tup (polsT qs)] μ k kx := by
  refine call_fn hT.pr hT.is_quasi (d + 2) ⟨rfl, ?_⟩
  have l0 : 0 < qs.length := List.length_pos_iff.mpr h.ne
  have l1 := h.le
  have ln : (polsT qs).length = qs.length := by simp [polsT]
  simp only [B_is_quasi, is_quasi_0]
  walk_at "ev"
  simp only [cst_of hT.MOST_ROUND]
  walk_at "ev"
  rw [ln, if_pos (by simp; omega)]
  rw [show decide ((qs.length : Int) ≤ 60) = true by simp; omega]
  walk_at "ev"
  simp only [is_quasi_2]
  walk_at "ev"
  refine forE_ind (fun xs ρ μ' => ∃ (l2 : List (List Rat)) (a b : Option PV), (∀ c ∈ l2, c.length = m) ∧ xs = polsT l2 ∧ ρ = [some (.tup (polsT qs)), a, b] ∧ μ' = μ) ?_ ?_ _ _ _ ⟨qs, none, none, h.len, rfl, rfl, rfl⟩
  · rintro x xs ρ μ' ⟨l2, a, b, hl, hx, rfl, rfl⟩
    cases l2 with
    | nil => cases hx
    | cons c l2 =>
      simp only [polsT, List.map_cons, List.cons.injEq] at hx
      obtain ⟨rfl, rfl⟩ := hx
      refine ⟨_, rfl, fun N hN => ?_⟩
      have hc := hl c (by simp)
      have m1 := h.m1
      have m5 := h.m5
      simp only [is_quasi_3]
      walk_at "ev"
      rw [pols_len, if_pos (by simp; omega), show decide ((c.length : Int) ≤ 5) = true by simp; omega]
      walk_at "ev"
      refine compE_map toP (fun _ => PV.bl true) c (le_size (by omega)) (fun q hq => ⟨_, rfl, fun N2 hN2 => ?_⟩) ?_
      · walk_at "ev"
        exact is_fraction_ok hT (hN2 _ rfl)
      · have e : c.map (fun _ => PV.bl true) = (c.map fun _ => true).map PV.bl := by simp
        rw [e]
        walk_at "ev"
        rw [bi_all]
        have : (c.map fun _ => true).all id = true := by simp
        rw [this]
        walk_at "ev"
        exact hN _ _ ⟨l2, _, b, fun c hc => hl c (List.mem_cons_of_mem _ hc), rfl, rfl, rfl⟩
  · rintro ρ μ' ⟨l2, a, b, hl, hx, rfl, rfl⟩
    simp only [is_quasi_5]
    walk_at "ev"
    obtain ⟨c0, hc0⟩ : ∃ c0, qs[0]? = some c0 := ⟨_, List.getElem?_eq_getElem l0⟩
    have e00 : atI (polsT qs) 0 = some (.tup (pols c0)) := by
      rw [atI_of (by omega) (by rw [ln]; omega)]
      show (polsT qs)[0]? = _
      simp only [polsT, List.getElem?_map, hc0, Option.map_some]
    refine compE_map (fun c => PV.tup (pols c)) (fun _ => PV.bl true) qs (le_size (by omega)) (fun c hc => ⟨_, rfl, fun N2 hN2 => ?_⟩) ?_
    · walk_at "ev"
      rw [e00]
      walk_at "ev"
      rw [pols_len, pols_len, h.len c hc, h.len c0 (List.mem_of_getElem? hc0)]
      refine hN2 _ ?_
      simp
    · have e : qs.map (fun _ => PV.bl true) = (qs.map fun _ => true).map PV.bl := by simp
      rw [e]
      walk_at "ev"
      rw [bi_all]
      have : (qs.map fun _ => true).all id = true := by simp
      rw [this]
      exact hk
theorem quasi_at_ok {T : Tab} (hT : HasAt T) (hqa : T.fn.lookup ("quasi_at" : Str) = some B_quasi_at) {μ : Mu} {m : Nat} {qs : List (List Rat)} {a : Int} {d : Nat} {k kx : KE} (h : QsOk m qs) (ha : a.natAbs < 2 ^ 100) (hk : k (toP (Qu.qat qs a)) μ) : (gam T (d + 4)).call "quasi_at" [.tup (polsT qs), .int a] μ k kx := by
  refine call_fn hT.pr hqa (d + 3) ⟨rfl, ?_⟩
  have l0 : 0 < qs.length := List.length_pos_iff.mpr h.ne
  have ln : (polsT qs).length = qs.length := by simp [polsT]
  simp only [B_quasi_at, quasi_at_0]
  walk_at "ev"
  refine is_quasi_ok hT h ?_
  walk_at "ev"
  simp only [quasi_at_2]
  walk_at "ev"
  simp only [quasi_at_4]
  walk_at "ev"
  simp only [quasi_at_5]
  walk_at "ev"
  rw [ln]
  refine ⟨by omega, ?_⟩
  have b1 : 0 ≤ a % qs.length := Int.emod_nonneg _ (by omega)
  have b2 : a % qs.length < qs.length := Int.emod_lt_of_pos _ (by omega)
  have hi : (a % qs.length).toNat < qs.length := by omega
  rw [Int.fmod_eq_emod_of_nonneg _ (by omega), atI_of b1 (by rw [ln]; exact b2)]
  obtain ⟨c, hc⟩ : ∃ c, qs[(a % qs.length).toNat]? = some c := ⟨_, List.getElem?_eq_getElem hi⟩
  have hq : Qu.qat qs a = Qu.ev c (a : Rat) := by
    simp only [Qu.qat, List.getD_eq_getElem?_getD, hc, Option.getD_some]
  have hcm := List.mem_of_getElem? hc
  have e0 : (polsT qs)[(a % qs.length).toNat]? = some (.tup (pols c)) := by
    simp only [polsT, List.getElem?_map, hc, Option.map_some]
  rw [e0]
  walk_at "ev"
  have er : (pols c).reverse = pols c.reverse := by simp [pols]
  rw [er]
  have z0 : PV.tup [.int 0, .int 1] = toP 0 := rfl
  rw [z0]
  have m5 := h.m5
  have hcl := h.len c hcm
  refine forE_ind (fun xs ρ μ' => ∃ (c1 c2 : List Rat) (b : Option PV), c = c1 ++ c2 ∧ xs = pols c1.reverse ∧ Bd (7000 * (c2.length + 1)) (1185 * c2.length + 1) (Qu.ev c2 (a : Rat)) ∧ ρ = [some (.tup (polsT qs)), some (.int a), some (toP (Qu.ev c2 (a : Rat))), b] ∧ μ' = μ) ?_ ?_ _ _ _ ⟨c, [], none, by simp, rfl, ⟨(Nat.two_pow_pos _ : 0 < 2 ^ (7000 * (0 + 1))), (by decide : 1 < 2 ^ 1)⟩, rfl, rfl⟩
  · rintro x xs ρ μ' ⟨c1, c2, b, hc12, hx, hb, rfl, rfl⟩
    rcases List.eq_nil_or_concat c1 with rfl | ⟨c1, q, rfl⟩
    · cases hx
    · have hx2 : x :: xs = toP q :: pols c1.reverse := by rw [hx]; simp [pols]
      cases hx2
      have hl : c1.length + 1 + c2.length = m := by
        rw [← hcl, hc12]; simp; omega
      have bq : Bd 6400 1184 q := h.bd c hcm q (by rw [hc12]; simp)
      refine ⟨_, rfl, fun N hN => ?_⟩
      simp only [quasi_at_6]
      walk_at "ev"
      rw [toP_int]
      refine multiplied_ok hT.qu.fr hb (int_Bd ha) (by omega) (by omega) fun b3 => ?_
      walk_at "ev"
      refine summed_ok hT.qu.fr b3 bq (m := 7000 * (c2.length + 1) + 6000) ⟨by omega, by omega, by omega⟩ (by omega) fun b4 => ?_
      walk_at "ev"
      have eq : Qu.ev c2 (a : Rat) * (a : Rat) + q = Qu.ev (q :: c2) (a : Rat) := by
        simp only [Qu.ev]; grind
      rw [eq] at b4 ⊢
      exact hN _ _ ⟨c1, q :: c2, _, by rw [hc12]; simp, rfl, b4.mono (by simp; omega) (by simp; omega), rfl, rfl⟩
  · rintro ρ μ' ⟨c1, c2, b, hc12, hx, hb, rfl, rfl⟩
    have : c1 = [] := by
      have := congrArg List.length hx
      simp [pols] at this
      exact List.eq_nil_of_length_eq_zero this.symm
    subst this
    rw [List.nil_append] at hc12
    subst hc12
    simp only [quasi_at_7]
    walk_at "ev"
    rw [← hq]
    exact hk
end Mi
end

section
-- MiniV
set_option Elab.async false
set_option linter.all false
set_option maxRecDepth 100000
set_option maxHeartbeats 4000000
/-! Mini, part V: drawn counted rows -/
namespace Mi
open PySem PySem.Spec PyProof.Rows L2
def qu_parts_1 : Ss := (.cons (.ret (.bi .tuple (.cons (.comp [("turn", 3)] (.nm 3) (.rng1 (.cons (.bin .add (.cint 1) (.call "_law_draw" (.cons (.var 0) (.cons (.var 1) .nil)))) .nil)) .no (.call "_law_pick" (.cons (.var 0) (.cons (.var 2) .nil)))) .nil))) .nil)
def qu_parts_0 : Ss := (.cons (.asg 2 (.call "_law_pick" (.cons (.var 0) (.cons (.lst (.cons (.lst (.cons (.cint 1) (.cons (.cint 2) (.cons (.cint 3) (.cons (.cint 4) (.cons (.cint 6) (.cons (.cint 12) .nil))))))) (.cons (.lst (.cons (.cint 1) (.cons (.cint 2) (.cons (.cint 5) (.cons (.cint 10) .nil))))) (.cons (.lst (.cons (.cint 2) (.cons (.cint 4) (.cons (.cint 6) .nil)))) (.cons (.lst (.cons (.cint 3) (.cons (.cint 6) (.cons (.cint 9) .nil)))) (.cons (.lst (.cons (.cint 1) (.cons (.cint 7) .nil))) (.cons (.lst (.cons (.cint 5) (.cons (.cint 6) .nil))) (.cons (.lst (.cons (.cint 3) (.cons (.cint 4) (.cons (.cint 5) .nil)))) (.cons (.lst (.cons (.cint 1) (.cons (.cint 1) (.cons (.cint 2) .nil)))) (.cons (.lst (.cons (.cint 8) (.cons (.cint 4) (.cons (.cint 2) .nil)))) (.cons (.lst (.cons (.cint 11) .nil)) (.cons (.lst (.cons (.cint 12) (.cons (.cint 10) (.cons (.cint 5) (.cons (.cint 4) .nil))))) .nil)))))))))))) .nil)))) qu_parts_1)
def B_law_qu_parts : Fun := ⟨["state", "most"], 4, qu_parts_0⟩
structure HasPt (T : Tab) : Prop where
  dr : HasDraw T
  pr : ∀ f, T.prim f = none
  qu_parts : T.fn.lookup ("_law_qu_parts" : Str) = some B_law_qu_parts
structure HasQp (T : Tab) : Prop where
  dr : HasDraw T
  numbers : T.fn.lookup ("_law_qu_numbers" : Str) = some ⟨["parts", "most"], 5, numbers_to_0⟩
  pr : ∀ f, T.prim f = none
  qu_parts : T.fn.lookup ("_law_qu_parts" : Str) = some B_law_qu_parts
local macro_rules | `(tactic| walk_at "ev") => `(tactic| try simp only [pk_toP, vr_toP, fz_toP, ev_var, ev_pk, ev_cint, ev_cbl, ev_cstr, ev_cnon, ev_cst, ev_tup, ev_lst, ev_dct0, ev_bin, ev_neg, ev_not, ev_and, ev_or, ev_cmp, ev_chain, ev_isn, ev_nisn, ev_isb, ev_ite, ev_call, ev_callk, ev_mk, ev_mkk, ev_bi, ev_isin, ev_attr, ev_ix, ev_sl, ev_slS, ev_rev, ev_comp, ev_caught, ev_callv, ev_sleft, ev_sturn, ev_sgreat,
  els_nil, els_cons, er_nil, er_cons, eo_no, eo_yes, ec_no, ec_yes, sr_ex, sr_cells, sr_rng1, sr_rng2, sr_zip, sr_enum, ea_one, ea_cons, eor_one, eor_cons,
  ss_nil, ss_cons, st_asg, st_asgT, st_par, st_setIx, st_app, st_appPop, st_ex, st_ret, st_retv, st_retN, st_ifs, st_fors, st_whs, st_rai, st_rai1, st_pass, st_brk, st_cnt, st_frz, st_aug, st_setL, st_setT, st_mkst, nlsV_v, intsOf_ints,
  nlsK_v, augK_v, optK_some, optK_none, intK_v, tupK_v, blK_v, trK_bl, trK_int, bin_add, bin_sub, bin_mul, bin_fdiv, bin_mod, bin_pow, bin_addS, bin_addT, bin_addL, bin_mulL, bin_mulT, cmp_lt, cmp_le, cmp_gt, cmp_ge, cmp_eq, cmp_ne,
  bi_lenT, bi_lenL, bi_lenC, bi_lenS, bi_abs, bi_int, bi_max2, bi_min2, bi_tupL, bi_tupT, bi_lstL, bi_lstT, ix_tup, ix_lst, sl_tup, sl_lst, slS_lst, rev_tup, rev_lst, walk_tup, walk_lst, walk_scr, rng1_v, rng2_v, zip_lst, zip_tup, enum_lst, eqK_int,
  setAll, freeze, wipeE, bindTg, pk_non, pk_bl, pk_int, pk_str, pk_tup, pk_lst, pk_dct, pk_ins, pk_exc, pk_fn, pk_obj, pk_scr, pk_nls, vr_non, vr_bl, vr_int, vr_str, vr_tup, vr_lst, vr_dct, vr_ins, vr_exc, vr_fn, vr_obj, vr_scr, fz_int, fz_bl, fz_str, fz_obj, fz_tup, fz_lst, fz_nls, fz_non, fz_dct, fz_ins, fz_exc, fz_scr, fz_fn,
  List.map_cons, List.map_nil, List.length_cons, List.length_nil, List.replicate_succ, List.replicate_zero, List.cons_append, List.nil_append, List.getElem?_cons_zero, List.getElem?_cons_succ, List.set_cons_zero, List.set_cons_succ, Nat.sub_self, Nat.reduceSub, Nat.reduceAdd, Nat.zero_add, stAt_W, set_W, decide_true, decide_false, if_true, if_false, Bool.false_eq_true, true_and, and_true, List.foldl_cons, List.foldl_nil, List.zip_cons_cons, List.zip_nil_left, List.zip_nil_right, isi_non_bool, isi_non_int, isi_non_str, isi_non_tuple, isi_non_list, isi_non_dict, isi_non_ValueError, isi_bl_bool, isi_bl_int, isi_bl_str, isi_bl_tuple, isi_bl_list, isi_bl_dict, isi_bl_ValueError, isi_int_bool, isi_int_int, isi_int_str, isi_int_tuple, isi_int_list, isi_int_dict, isi_int_ValueError, isi_str_bool, isi_str_int, isi_str_str, isi_str_tuple, isi_str_list, isi_str_dict, isi_str_ValueError, isi_tup_bool, isi_tup_int, isi_tup_str, isi_tup_tuple, isi_tup_list, isi_tup_dict, isi_tup_ValueError, isi_lst_bool, isi_lst_int, isi_lst_str, isi_lst_tuple, isi_lst_list, isi_lst_dict, isi_lst_ValueError, isi_dct_bool, isi_dct_int, isi_dct_str, isi_dct_tuple, isi_dct_list, isi_dct_dict, isi_dct_ValueError, Bool.not_true, Bool.not_false, atI_0, atI_1, atI_2, le_sizeT, lt_sizeT, Nat.reduceLeDiff])



theorem HasQp.pt {T : Tab} (h : HasQp T) : HasPt T := ⟨h.dr, h.pr, h.qu_parts⟩
theorem qu_numbers_ok {T : Tab} (hT : HasQp T) {μ : Mu} {row : List Int} {most : Int} {d : Nat} {k kx : KE} (h : ∀ p ∈ row, 1 ≤ p ∧ p ≤ 1000000) (h0 : 0 ≤ most) (h1 : most ≤ 900000) (hk : k (.nls (tabI (Qu.N row) (most + 1).toNat)) μ) : (gam T (d + 1)).call "_law_qu_numbers" [.tup (row.map PV.int), .int most] μ k kx :=
  call_fn hT.pr hT.numbers d (numbers_sem _ _ h h0 h1 hk)
/-- the parts of a menu -/
def Menu (l : List Int) : Prop := l ≠ [] ∧ l.length ≤ 10 ∧ ∃ M : Nat, 0 < M ∧ M ≤ 60 ∧ ∀ p ∈ l, 1 ≤ p ∧ p ≤ 12 ∧ p.toNat ∣ M
theorem menus : ∀ l ∈ ([[1, 2, 3, 4, 6, 12], [1, 2, 5, 10], [2, 4, 6], [3, 6, 9], [1, 7], [5, 6], [3, 4, 5], [1, 1, 2], [8, 4, 2], [11], [12, 10, 5, 4]] : List (List Int)), Menu l := by
  intro l hl
  simp only [List.mem_cons, List.not_mem_nil, or_false] at hl
  rcases hl with rfl | rfl | rfl | rfl | rfl | rfl | rfl | rfl | rfl | rfl | rfl
  · exact ⟨by decide, by decide, 12, by decide, by decide, by decide⟩
  · exact ⟨by decide, by decide, 10, by decide, by decide, by decide⟩
  · exact ⟨by decide, by decide, 12, by decide, by decide, by decide⟩
  · exact ⟨by decide, by decide, 18, by decide, by decide, by decide⟩
  · exact ⟨by decide, by decide, 7, by decide, by decide, by decide⟩
  · exact ⟨by decide, by decide, 30, by decide, by decide, by decide⟩
  · exact ⟨by decide, by decide, 60, by decide, by decide, by decide⟩
  · exact ⟨by decide, by decide, 2, by decide, by decide, by decide⟩
  · exact ⟨by decide, by decide, 8, by decide, by decide, by decide⟩
  · exact ⟨by decide, by decide, 11, by decide, by decide, by decide⟩
  · exact ⟨by decide, by decide, 60, by decide, by decide, by decide⟩
theorem rngL_map : ∀ (n : Nat) (lo : Int), rngL lo n = (List.range n).map fun (r : Nat) => PV.int (lo + r)
  | 0, _ => rfl
  | n + 1, lo => by
    rw [rngL, rngL_map n, List.range_succ_eq_map, List.map_cons, List.map_map]
    congr 1
    · congr 1; omega
    · apply List.map_congr_left
      intro i _
      simp only [Function.comp]
      congr 1
      omega
/-- drawn parts of one menu -/
def Drawn (most : Nat) (row : List Int) : Prop := row ≠ [] ∧ row.length ≤ most ∧ ∃ l, Menu l ∧ ∀ p ∈ row, p ∈ l
theorem Drawn.ok {most : Nat} {row : List Int} (h : Drawn most row) (h5 : most ≤ 5) : RowOk row ∧ Lc row ≤ 60 := by
  obtain ⟨h1, h2, l, ⟨_, _, M, m0, m1, m2⟩, hp⟩ := h
  refine ⟨⟨h1, by omega, fun p hr => ?_⟩, ?_⟩
  · have := m2 p (hp p hr); exact ⟨this.1, this.2.1⟩
  · exact Nat.le_trans (Nat.le_of_dvd m0 (Lc_dvd (fun p hr => (m2 p (hp p hr)).1) fun p hr => (m2 p (hp p hr)).2.2)) m1
theorem qu_parts_ok {T : Tab} (hT : HasPt T) {W0 μ : Mu} {most n d : Nat} {k kx : KE} (hs : StW W0 n μ) (hn : n + most + 2 < 2 ^ 40) (h0 : 0 < most) (h5 : most ≤ 100) (hk : ∀ row μ', Drawn most row → StW W0 (n + most + 2) μ' → k (.tup (row.map PV.int)) μ') : (gam T (d + 4)).call "_law_qu_parts" [.obj W0.length, .int most] μ k kx := by
  refine call_fn hT.pr hT.qu_parts (d + 3) ⟨rfl, ?_⟩
  simp only [B_law_qu_parts, qu_parts_0]
  walk_at "ev"
  refine pick_ok hT.dr hs (by omega) (by simp) (by simp) fun v μ1 hv hs1 => ?_
  obtain ⟨l, hl, rfl⟩ : ∃ l, Menu l ∧ v = .lst (l.map PV.int) := by
    have key := menus
    simp only [List.mem_cons, List.not_mem_nil, or_false] at hv key
    rcases hv with rfl | rfl | rfl | rfl | rfl | rfl | rfl | rfl | rfl | rfl | rfl
    · exact ⟨[1, 2, 3, 4, 6, 12], key _ (by simp), rfl⟩
    · exact ⟨[1, 2, 5, 10], key _ (by simp), rfl⟩
    · exact ⟨[2, 4, 6], key _ (by simp), rfl⟩
    · exact ⟨[3, 6, 9], key _ (by simp), rfl⟩
    · exact ⟨[1, 7], key _ (by simp), rfl⟩
    · exact ⟨[5, 6], key _ (by simp), rfl⟩
    · exact ⟨[3, 4, 5], key _ (by simp), rfl⟩
    · exact ⟨[1, 1, 2], key _ (by simp), rfl⟩
    · exact ⟨[8, 4, 2], key _ (by simp), rfl⟩
    · exact ⟨[11], key _ (by simp), rfl⟩
    · exact ⟨[12, 10, 5, 4], key _ (by simp), rfl⟩
  walk_at "ev"
  simp only [qu_parts_1]
  walk_at "ev"
  refine draw_ok hT.dr hs1 (by omega) (by omega) (Nat.lt_of_le_of_lt (show (most : Int).natAbs ≤ 2 ^ 10 by omega) (Nat.pow_lt_pow_right (by decide) (by decide))) fun i μ2 hi0 hi1 hs2 => ?_
  walk_at "ev"
  refine ⟨by omega, ?_⟩
  refine compE_ind (fun xs acc μ' => ∃ row : List Int, acc = row.map PV.int ∧ row.length + xs.length = (1 + i).toNat ∧ (∀ p ∈ row, p ∈ l) ∧ (∃ t : List Int, xs = t.map PV.int) ∧ StW W0 (n + 2 + row.length) μ') ?_ ?_ _ _ _ ⟨[], rfl, by rw [rngL_map]; simp, by simp, ?_, hs2.mono (by simp)⟩
  · rintro x xs acc μ' ⟨row, rfl, hlen, hr, ⟨t, ht⟩, hs'⟩
    simp only [List.length_cons] at hlen
    refine ⟨_, rfl, fun N hN => ?_⟩
    walk_at "ev"
    refine pick_ok hT.dr hs' (by omega) (by simpa using hl.1) (by have := hl.2.1; simp; omega) fun v μ3 hv hs3 => ?_
    obtain ⟨p, hp, rfl⟩ := List.mem_map.mp hv
    walk_at "ev"
    refine ⟨by simp; exact lt_size (by omega), hN _ _ ⟨row ++ [p], by simp, by simp; omega, fun q hq => ?_, ?_, hs3.mono (by simp; omega)⟩⟩
    · rcases List.mem_append.mp hq with hq | hq
      · exact hr q hq
      · rw [List.mem_singleton.mp hq]; exact hp
    · cases t with
      | nil => cases ht
      | cons a t => simp only [List.map_cons, List.cons.injEq] at ht; exact ⟨t, ht.2⟩
  · rintro acc μ' ⟨row, rfl, hlen, hr, _, hs'⟩
    walk_at "ev"
    simp at hlen
    refine hk row μ' ⟨?_, by omega, l, hl, hr⟩ (hs'.mono (by omega))
    intro z
    subst z
    simp at hlen
    omega
  · rw [rngL_map]
    exact ⟨(List.range (1 + i).toNat).map fun (r : Nat) => ((0 : Int) + r), by simp⟩
end Mi
end

section
-- MiniW
set_option Elab.async false
set_option linter.all false
set_option maxRecDepth 100000
set_option maxHeartbeats 4000000
/-! Mini, part W: small things for the laws of rows -/
namespace Mi
open PySem PySem.Spec PyProof.Rows L2
theorem intsOf_map : ∀ l : List Int, intsOf (l.map PV.int) = some l
  | [] => rfl
  | a :: l => by simp [intsOf, intsOf_map l]
theorem bi_sumT {l : List Int} {K : PV → Prop} : biK .sum [.tup (l.map PV.int)] K = K (.int l.sum) := by
  simp only [biK, intsOf_map]
theorem bi_sumL {l : List Int} {K : PV → Prop} : biK .sum [.lst (l.map PV.int)] K = K (.int l.sum) := by
  simp only [biK, intsOf_map]
/-- a sign -/
theorem sgn_num {t : Int} (h : t = 1 ∨ t = -1) (q : Rat) : ((t : Rat) * q).num = t * q.num ∧ ((t : Rat) * q).den = q.den := by
  rcases h with rfl | rfl
  · have : ((1 : Int) : Rat) * q = q := by
      rw [show ((1 : Int) : Rat) = 1 from rfl]; grind
    rw [this]; exact ⟨by omega, rfl⟩
  · have : ((-1 : Int) : Rat) * q = -q := by
      rw [show ((-1 : Int) : Rat) = -1 from rfl]; grind
    rw [this]; exact ⟨by show -q.num = _; omega, rfl⟩
theorem toP_sgn {t : Int} (h : t = 1 ∨ t = -1) (q : Rat) : toP ((t : Rat) * q) = .tup [.int (t * q.num), .int q.den] := by
  obtain ⟨h1, h2⟩ := sgn_num h q
  simp only [toP, h1, h2]
theorem toP_i (i : Int) : toP (i : Rat) = .tup [.int i, .int 1] := rfl
theorem toP_0 : toP 0 = .tup [.int 0, .int 1] := rfl
theorem eqK_toP {a b : Rat} {K : Bool → Prop} : eqK (toP a) (toP b) K = K (decide (a = b)) := by
  simp only [toP, eqK_two]
  congr 1
  apply decide_eq_decide.mpr
  constructor
  · intro h
    simp only [Prod.mk.injEq] at h
    exact Rat.ext h.1 (by omega)
  · rintro rfl; rfl
theorem strOk_of (x : String) : PyData.strOk (Str.ofString x) = true := by
  unfold PyData.strOk
  rw [Str.ofString_eq_toList]
  simp only [List.all_toArray, List.all_map, List.all_eq_true, Function.comp, decide_eq_true_eq]
  intro c _
  have h : c.toNat < 0xd800 ∨ (0xdfff < c.toNat ∧ c.toNat < 0x110000) := c.valid
  omega
theorem eqK_str {a b : String} {K : Bool → Prop} : eqK (.str (Str.ofString a)) (.str (Str.ofString b)) K = K (decide (Str.ofString a = Str.ofString b)) := by
  have e : ∀ x y : Str, (x == y) = decide (x = y) := fun x y => by
    by_cases h : x = y
    · subst h; simp
    · simp [h]
  simp [eqK, toPD, SeqAt.shaped, PyData.canLay0, PyData.depth, PyData.eqv, strOk_of, e]
theorem log_ok {i : Int} (h : i.natAbs < 2 ^ 1000) : i.natAbs.log2 < 1920 := by
  by_cases z : i.natAbs = 0
  · rw [z]; decide
  · exact (Nat.log2_lt z).mpr (Nat.lt_trans h (Nat.pow_lt_pow_right (by decide) (by decide)))
/-- the sign of a count -/
def sg (n : Nat) : Int := if n % 2 = 1 then 1 else -1
theorem sg_one (n : Nat) : sg n = 1 ∨ sg n = -1 := by unfold sg; split <;> simp
theorem sg_rat : ∀ n : Nat, (sg n : Rat) = (-1) ^ (n + 1)
  | 0 => by rw [show sg 0 = -1 from rfl, Rat.pow_succ, Rat.pow_zero]; decide +kernel
  | n + 1 => by
    rw [Rat.pow_succ, ← sg_rat n]
    unfold sg
    rcases Nat.mod_two_eq_zero_or_one n with h | h
    · rw [if_pos (by omega), if_neg (by omega)]; decide +kernel
    · rw [if_neg (by omega), if_pos h]; decide +kernel
theorem row_sum {row : List Int} (h : RowOk row) : 1 ≤ row.sum ∧ row.sum ≤ 60 := by
  obtain ⟨h1, h2, h3⟩ := h
  have key : ∀ r : List Int, (∀ p ∈ r, 1 ≤ p ∧ p ≤ 12) → r.length ≤ r.sum ∧ r.sum ≤ 12 * r.length := by
    intro r
    induction r with
    | nil => intro _; simp
    | cons p r ih =>
      intro h
      have a := h p (by simp)
      have b := ih fun q hq => h q (List.mem_cons_of_mem _ hq)
      simp only [List.length_cons, List.sum_cons]
      omega
  have := key row h3
  have : 0 < row.length := List.length_pos_iff.mpr h1
  omega
end Mi
end

section
-- QuD
namespace Qu
/-! ### periods -/
def Per (x : Int) (g : Int → Rat) : Prop := ∀ a, g (a - x) = g a
theorem Per.of_D {x : Int} {g : Int → Rat} (h : ∀ a, D x g a = 0) : Per x g := fun a => by
  have := h a
  simp only [D] at this
  grind
theorem Per.toD {x : Int} {g : Int → Rat} (h : Per x g) (a : Int) : D x g a = 0 := by
  simp only [D, h a]; grind
theorem Per.add {x y : Int} {g : Int → Rat} (h : Per x g) (k : Per y g) : Per (x + y) g := fun a => by
  rw [show a - (x + y) = a - x - y by omega, k, h]
theorem Per.neg {x : Int} {g : Int → Rat} (h : Per x g) : Per (-x) g := fun a => by
  rw [← h (a - -x), show a - -x - x = a by omega]
theorem Per.zero {g : Int → Rat} : Per 0 g := fun a => by rw [Int.sub_zero]
theorem Per.nat {x : Int} {g : Int → Rat} (h : Per x g) : ∀ t : Nat, Per (t * x) g
  | 0 => by simpa using Per.zero (g := g)
  | t + 1 => by
    have e : ((t + 1 : Nat) : Int) * x = t * x + x := by rw [Int.natCast_add, Int.add_mul]; omega
    rw [e]; exact (h.nat t).add h
theorem Per.mul {x : Int} {g : Int → Rat} (h : Per x g) (t : Int) : Per (t * x) g := by
  rcases Int.le_total 0 t with k | k
  · have := h.nat t.toNat
    rwa [Int.toNat_of_nonneg k] at this
  · have := (h.nat (-t).toNat).neg
    rwa [Int.toNat_of_nonneg (by omega), Int.neg_mul, Int.neg_neg] at this
theorem Per.plus {x : Int} {g : Int → Rat} (h : Per x g) (t : Int) (a : Int) : g (a + t * x) = g a := by
  have := (h.mul t) (a + t * x)
  rw [← this]; congr 1; omega
theorem Per.gcd {g : Int → Rat} (m n : Nat) : Per m g → Per n g → Per (Nat.gcd m n) g := by
  induction m, n using Nat.gcd.induction with
  | H0 n => intro _ h; simpa using h
  | H1 m n hm ih =>
    intro h1 h2
    rw [Nat.gcd_rec]
    refine ih ?_ h1
    have e : ((n % m : Nat) : Int) = n + (-(n / m : Nat) : Int) * m := by
      have := Nat.mod_add_div n m
      have e2 : (n : Int) = (n % m : Nat) + (m : Int) * (n / m : Nat) := by exact_mod_cast this.symm
      rw [Int.neg_mul, Int.mul_comm ((n / m : Nat) : Int) m]
      omega
    rw [e]
    exact h2.add (h1.mul _)
theorem A_per {x q : Int} : ∀ (k : Nat) {g : Int → Rat}, Per x g → Per x (A q k g)
  | 0, g, _ => fun a => rfl
  | k + 1, g, h => fun a => by
    simp only [A]
    rw [h a, show a - x - q = a - q - x by omega, A_per k h]
/-! ### the sum over a period -/
theorem sumTo_congr (n : Nat) {f g : Nat → Rat} (h : ∀ i, i < n → f i = g i) : sumTo n f = sumTo n g := by
  induction n with
  | zero => rfl
  | succ n ih => simp only [sumTo]; rw [ih fun i hi => h i (by omega), h n (by omega)]
def P (n : Nat) (g : Int → Rat) : Rat := sumTo n fun i => g (i : Int)
theorem P_one {n : Nat} {g : Int → Rat} (h : Per n g) : P n (fun a => g (a - 1)) = P n g := by
  cases n with
  | zero => rfl
  | succ m =>
    simp only [P]
    rw [sumTo_shift]
    simp only [sumTo]
    have e : g (((0 : Nat) : Int) - 1) = g (m : Int) := by
      rw [← h (m : Int)]; congr 1; omega
    rw [e]
    have e2 : (fun s : Nat => g (((s + 1 : Nat) : Int) - 1)) = fun s : Nat => g (s : Int) := by
      funext s; congr 1; omega
    rw [e2]; grind
theorem P_shift {n : Nat} : ∀ (c : Nat) {g : Int → Rat}, Per n g → P n (fun a => g (a - c)) = P n g
  | 0, g, _ => by simp
  | c + 1, g, h => by
    have h2 : Per n (fun a => g (a - c)) := fun a => by
      show g (a - n - c) = g (a - c)
      rw [show a - (n : Int) - c = a - c - n by omega, h]
    have := P_one h2
    rw [← P_shift c h, ← this]
    congr 1; funext a; congr 1; omega
theorem P_add (n : Nat) (f g : Int → Rat) : P n (fun a => f a + g a) = P n f + P n g := sumTo_add n _ _
theorem P_A {n : Nat} {q : Int} (hq : 0 ≤ q) : ∀ (k : Nat) {g : Int → Rat}, Per n g → P n (A q k g) = k * P n g
  | 0, g, _ => by
    have : P n (A q 0 g) = 0 := sumTo_zero n _ fun s => rfl
    rw [this]; simp
  | k + 1, g, h => by
    have e : A q (k + 1) g = fun a => g a + (fun b => A q k g (b - q.toNat)) a := by
      funext a
      simp only [A]
      rw [Int.toNat_of_nonneg hq]
    rw [e, P_add, P_shift q.toNat (A_per k h), P_A hq k h]
    have : ((k + 1 : Nat) : Rat) = (k : Rat) + 1 := by simp
    rw [this]; grind
def prodR : List Int → Rat
  | [] => 1
  | p :: r => (p : Rat) * prodR r
def prodQ (L : Int) : List Int → Rat
  | [] => 1
  | p :: r => ((L / p).toNat : Rat) * prodQ L r
theorem P_W {n : Nat} {L : Int} : ∀ (r : List Int) {g : Int → Rat}, (∀ p ∈ r, 0 < p) → Per n g → P n (W L r g) = prodQ L r * P n g
  | [], g, _, _ => by simp only [W, prodQ]; grind
  | p :: r, g, hp, h => by
    have h0 := hp p (by simp)
    simp only [W, prodQ]
    rw [P_W r (fun q hq => hp q (List.mem_cons_of_mem _ hq)) (A_per _ h), P_A (by omega) _ h]
    grind
theorem prod_LQ {L : Int} : ∀ (r : List Int), Pos L r → 0 < L → prodQ L r * prodR r = (L : Rat) ^ r.length
  | [], _, _ => by simp [prodQ, prodR]
  | p :: r, h, hL => by
    have ih := prod_LQ r h.tail hL
    obtain ⟨h0, c, hc⟩ := h p (by simp)
    have e : (((L / p).toNat : Rat)) * (p : Rat) = (L : Rat) := by
      have e1 : L / p = c := by rw [hc, Int.mul_ediv_cancel_left _ (by omega)]
      have c0 : 0 ≤ c := by
        rcases Int.lt_or_le c 0 with z | z
        · have := Int.mul_neg_of_pos_of_neg h0 z; omega
        · exact z
      rw [e1, hc]
      have : ((c.toNat : Nat) : Rat) = ((c : Int) : Rat) := by
        have : ((c.toNat : Nat) : Int) = c := Int.toNat_of_nonneg c0
        rw [← Rat.intCast_natCast, this]
      rw [this, Rat.intCast_mul]; grind
    simp only [prodQ, prodR, List.length_cons]
    rw [Rat.pow_succ, ← ih]
    grind
/-! ### powers -/
theorem ev_app0 (x : Rat) : ∀ (d : List Rat), ev (d ++ [0]) x = ev d x
  | [] => by simp only [List.nil_append, ev]; grind
  | u :: d => by simp only [List.cons_append, ev, ev_app0 x d]
theorem ev_app (x c : Rat) : ∀ (d : List Rat), ev (d ++ [c]) x = ev d x + c * x ^ d.length
  | [] => by simp only [List.nil_append, ev, List.length_nil, Rat.pow_zero]; grind
  | u :: d => by simp only [List.cons_append, ev, ev_app x c d, List.length_cons, Rat.pow_succ]; grind
theorem pow_less (l : Rat) : ∀ m : Nat, ∃ d : List Rat, d.length = m ∧ ∀ x : Rat, (x - l) ^ (m + 1) = x ^ (m + 1) - (m + 1) * l * x ^ m + ev d x
  | 0 => ⟨[], rfl, fun x => by simp only [ev, Rat.pow_succ, Rat.pow_zero]; grind⟩
  | m + 1 => by
    obtain ⟨d, h1, h2⟩ := pow_less l m
    refine ⟨psum (psum (0 :: d) (List.replicate m 0 ++ [(m + 1) * l * l])) ((d ++ [0]).map (· * (-l))), by simp [psum, h1], fun x => ?_⟩
    rw [ev_psum x (by simp [psum, h1]), ev_psum x (by simp [h1]), ev_map, ev_app0, ev_app, ev_zero, List.length_replicate, Rat.pow_succ, h2]
    simp only [ev]
    have : ((m + 1 : Nat) : Rat) = (m : Rat) + 1 := by simp
    rw [this, Rat.pow_succ x (m + 1), Rat.pow_succ x m]
    grind
def fact : Nat → Rat
  | 0 => 1
  | m + 1 => fact m * (m + 1)
theorem Dm_add (L : Int) : ∀ (m : Nat) (f g : Int → Rat), Dm L m (fun a => f a + g a) = fun a => Dm L m f a + Dm L m g a
  | 0, _, _ => rfl
  | m + 1, f, g => by
    show Dm L m (D L _) = _
    have : D L (fun a => f a + g a) = fun a => D L f a + D L g a := by funext a; simp only [D]; grind
    rw [this, Dm_add L m]; rfl
theorem Dm_mul (L : Int) (c : Rat) : ∀ (m : Nat) (f : Int → Rat), Dm L m (fun a => c * f a) = fun a => c * Dm L m f a
  | 0, _ => rfl
  | m + 1, f => by
    show Dm L m (D L _) = _
    rw [D_mul, Dm_mul L c m]; rfl
theorem Dm_pow (L : Int) : ∀ (m : Nat) (a : Int), Dm L m (fun a : Int => (a : Rat) ^ m) a = fact m * (L : Rat) ^ m
  | 0, a => by simp [Dm, fact]
  | m + 1, a => by
    obtain ⟨d, h1, h2⟩ := pow_less (L : Rat) m
    have e : D L (fun a : Int => (a : Rat) ^ (m + 1)) = fun a : Int => ((m + 1 : Rat) * L) * (fun a : Int => (a : Rat) ^ m) a - (fun a : Int => ev d (a : Rat)) a := by
      funext a
      simp only [D]
      rw [Rat.intCast_sub, h2]; grind
    show Dm L m (D L _) a = _
    rw [e, Dm_sub, Dm_mul]
    show (m + 1 : Rat) * L * Dm L m (fun a : Int => (a : Rat) ^ m) a - Dm L m (fun a : Int => ev d (a : Rat)) a = _
    rw [flat_ev L m d h1, Dm_pow L m a, Rat.pow_succ]
    simp only [fact]
    grind
theorem Dm_lead (L : Int) (d : List Rat) (c : Rat) (a : Int) : Dm L d.length (fun a : Int => ev (d ++ [c]) (a : Rat)) a = c * (fact d.length * (L : Rat) ^ d.length) := by
  have e : (fun a : Int => ev (d ++ [c]) (a : Rat)) = fun a : Int => (fun a : Int => ev d (a : Rat)) a + (fun a : Int => c * (fun a : Int => (a : Rat) ^ d.length) a) a := by
    funext a
    exact ev_app _ _ _
  rw [e, Dm_add, Dm_mul]
  show Dm L d.length (fun a : Int => ev d (a : Rat)) a + c * Dm L d.length (fun a : Int => (a : Rat) ^ d.length) a = _
  rw [flat_ev L _ d rfl, Dm_pow]
  grind
theorem fact_pos : ∀ m, fact m ≠ 0
  | 0 => by simp [fact]
  | m + 1 => by
    have := fact_pos m
    simp only [fact]
    have h2 : (m : Rat) + 1 ≠ 0 := by
      have : ((m + 1 : Nat) : Rat) ≠ 0 := by
        intro h
        have := Rat.natCast_inj.mp (h.trans (by simp : (0 : Rat) = ((0 : Nat) : Rat)))
        omega
      simpa using this
    intro h
    rcases Rat.mul_eq_zero.mp h with h | h
    · exact fact_pos m h
    · exact h2 h
end Qu
end

section
-- QuE
namespace Qu
/-! ### the greatest power -/
theorem A_Ds (q : Int) (k : Nat) : ∀ (r : List Int) (g : Int → Rat), Ds r (A q k g) = A q k (Ds r g)
  | [], _ => rfl
  | p :: r, g => by
    show Ds r (D p (A q k g)) = A q k (Ds r (D p g))
    rw [← A_D, A_Ds q k r]
theorem Dm_W {L : Int} (hL : 0 < L) : ∀ (r : List Int) (g : Int → Rat), Pos L r → Dm L r.length g = W L r (Ds r g)
  | [], _, _ => rfl
  | p :: r, g, h => by
    obtain ⟨k, hk, e⟩ := quot hL (h p (by simp))
    show Dm L r.length (D L g) = W L r (A p _ (Ds r (D p g)))
    rw [Dm_W hL r _ h.tail, hk, ← A_Ds]
    congr 2
    rw [A_D, D_A]
    congr 1
    have : ((k + 1 : Nat) : Int) * p = k * p + p := by rw [Int.natCast_add, Int.add_mul]; omega
    omega
theorem Ds_perm {r s : List Int} (h : r.Perm s) : ∀ g : Int → Rat, Ds r g = Ds s g := by
  induction h with
  | nil => intro g; rfl
  | cons x _ ih => intro g; exact ih _
  | swap x y l => intro g; simp only [Ds]; rw [D_comm]
  | trans _ _ ih1 ih2 => intro g; rw [ih1, ih2]
theorem Dm_local {L : Int} (hL : 0 ≤ L) : ∀ (m : Nat) {f g : Int → Rat} {B : Int}, (∀ a, B ≤ a → f a = g a) → ∀ a, B + m * L ≤ a → Dm L m f a = Dm L m g a
  | 0, f, g, B, h, a, ha => h a (by simpa using ha)
  | m + 1, f, g, B, h, a, ha => by
    have e0 : ((m + 1 : Nat) : Int) * L = m * L + L := by rw [Int.natCast_add, Int.add_mul]; omega
    exact Dm_local hL m (D_local hL h) a (by omega)
/-- from far off -/
theorem far {g h : Int → Rat} {L B : Int} (hL : 0 < L) (hg : Per L g) (hh : Per L h) (e : ∀ a, B ≤ a → g a = h a) (a : Int) : g a = h a := by
  have k1 := hg.plus (B - a).toNat a
  have k2 := hh.plus (B - a).toNat a
  rw [← k1, ← k2]
  refine e _ ?_
  have : ((B - a).toNat : Int) ≤ ((B - a).toNat : Int) * L := by
    have := Int.mul_le_mul_of_nonneg_left (show (1 : Int) ≤ L by omega) (show 0 ≤ ((B - a).toNat : Int) by omega)
    omega
  omega
/-- 1 at the times of p -/
def ind (p : Int) (a : Int) : Rat := if p ∣ a then 1 else 0
theorem ind_per (p : Int) : Per p (ind p) := fun a => by
  simp only [ind]
  have : p ∣ a - p ↔ p ∣ a := by
    constructor
    · intro h; have := Int.dvd_add h (Int.dvd_refl p); rwa [show a - p + p = a by omega] at this
    · intro h; exact Int.dvd_sub h (Int.dvd_refl p)
  simp only [this]
theorem S_one {p : Int} (hp : 0 < p) (a : Int) (ha : 0 ≤ a) : cast (S p one0) a = ind p a := by
  have e : (fun a : Int => if 0 ≤ a ∧ p ∣ a then (1 : Int) else 0) = S p one0 := S_uniq hp (fun a h => by rw [if_neg (by omega)]) fun a => by
    have hd : p ∣ a - p ↔ p ∣ a := by
      constructor
      · intro h; have := Int.dvd_add h (Int.dvd_refl p); rwa [show a - p + p = a by omega] at this
      · intro h; exact Int.dvd_sub h (Int.dvd_refl p)
    show (if 0 ≤ a ∧ p ∣ a then (1 : Int) else 0) = one0 a + (if 0 ≤ a - p ∧ p ∣ a - p then 1 else 0)
    simp only [hd, one0]
    by_cases h : p ∣ a
    · simp only [h, and_true]
      rcases Int.lt_trichotomy a 0 with z | z | z
      · rw [if_neg (by omega), if_neg (by omega), if_neg (by omega)]; rfl
      · subst z
        rw [if_pos (by omega), if_pos rfl, if_neg (by omega)]; rfl
      · have := Int.le_of_dvd z h
        rw [if_pos (by omega), if_neg (by omega), if_pos (by omega)]; rfl
    · simp only [h, and_false, if_false]
      rw [if_neg (fun z => h (by rw [z]; exact Int.dvd_zero p))]; rfl
  rw [← e]
  simp only [cast, ind]
  by_cases h : p ∣ a
  · rw [if_pos ⟨ha, h⟩, if_pos h]; rfl
  · rw [if_neg (fun z => h z.2), if_neg h]; rfl
theorem P_ind {p : Int} (hp : 0 < p) : P p.toNat (ind p) = 1 := by
  obtain ⟨m, hm⟩ : ∃ m, p.toNat = m + 1 := ⟨p.toNat - 1, by omega⟩
  simp only [P]
  rw [hm, sumTo_shift]
  have z : sumTo m (fun s => ind p ((s + 1 : Nat) : Int)) = 0 := by
    have : sumTo m (fun s => ind p ((s + 1 : Nat) : Int)) = sumTo m fun _ => 0 := sumTo_congr m fun i hi => by
      simp only [ind]
      rw [if_neg]
      intro h
      have := Int.le_of_dvd (by omega) h
      omega
    rw [this]
    exact sumTo_zero m _ fun _ => rfl
  rw [z]
  simp only [ind]
  rw [if_pos (show p ∣ ((0 : Nat) : Int) from Int.dvd_zero p)]
  grind
/-- all alike but in their own places -/
theorem sumTo_app (n : Nat) (f : Nat → Rat) : ∀ m : Nat, sumTo (n + m) f = sumTo n f + sumTo m fun i => f (n + i)
  | 0 => by simp only [Nat.add_zero, sumTo]; grind
  | m + 1 => by
    rw [show n + (m + 1) = n + m + 1 by omega]
    simp only [sumTo]
    rw [sumTo_app n f m]; grind
theorem P_at {g : Nat} (hg : 0 < g) {f : Int → Rat} (hp : Per g f) (h : ∀ a : Int, ¬ (g : Int) ∣ a → f a = 0) : ∀ t : Nat, P (t * g) f = t * f 0
  | 0 => by simp [P, sumTo]
  | t + 1 => by
    have ih := P_at hg hp h t
    simp only [P] at ih ⊢
    rw [Nat.add_mul, Nat.one_mul, sumTo_app, ih]
    have e : sumTo g (fun i => f ((t * g + i : Nat) : Int)) = f 0 := by
      have e1 : sumTo g (fun i => f ((t * g + i : Nat) : Int)) = sumTo g fun i => f (i : Int) := sumTo_congr g fun i _ => by
        rw [show ((t * g + i : Nat) : Int) = (i : Int) + (t : Int) * g by simp; omega]
        exact hp.plus t i
      rw [e1]
      obtain ⟨m, rfl⟩ : ∃ m, g = m + 1 := ⟨g - 1, by omega⟩
      rw [sumTo_shift]
      have z : sumTo m (fun s => f ((s + 1 : Nat) : Int)) = sumTo m fun _ => 0 := sumTo_congr m fun i hi => h _ fun z => by
        have := Int.le_of_dvd (by omega) z
        omega
      rw [z, sumTo_zero m _ fun _ => rfl]
      show f 0 + 0 = f 0
      grind
    rw [e]
    have : ((t + 1 : Nat) : Rat) = (t : Rat) + 1 := by simp
    rw [this]; grind
/-- the common divisor -/
def G (parts : List Int) : Nat := parts.foldl (fun f p => Nat.gcd f p.toNat) 0
theorem G_fold : ∀ (r : List Int) (f : Nat), (r.foldl (fun f p => Nat.gcd f p.toNat) f ∣ f) ∧ ∀ p ∈ r, r.foldl (fun f p => Nat.gcd f p.toNat) f ∣ p.toNat
  | [], f => ⟨Nat.dvd_refl _, by simp⟩
  | p :: r, f => by
    obtain ⟨h1, h2⟩ := G_fold r (Nat.gcd f p.toNat)
    refine ⟨Nat.dvd_trans h1 (Nat.gcd_dvd_left _ _), fun q hq => ?_⟩
    rcases List.mem_cons.mp hq with rfl | hq
    · exact Nat.dvd_trans h1 (Nat.gcd_dvd_right _ _)
    · exact h2 q hq
theorem G_dvd {parts : List Int} (h : ∀ p ∈ parts, 0 < p) {p : Int} (hp : p ∈ parts) : (G parts : Int) ∣ p := by
  have := (G_fold parts 0).2 p hp
  have e : ((p.toNat : Nat) : Int) = p := Int.toNat_of_nonneg (by have := h p hp; omega)
  rw [← e]
  exact Int.natCast_dvd_natCast.mpr this
theorem G_pos {parts : List Int} (h : ∀ p ∈ parts, 0 < p) (ne : parts ≠ []) : 0 < G parts := by
  cases parts with
  | nil => exact absurd rfl ne
  | cons p r =>
    have := G_dvd h (List.mem_cons_self (a := p) (l := r))
    have h0 := h p (by simp)
    rcases Nat.eq_zero_or_pos (G (p :: r)) with z | z
    · rw [z] at this
      have := Int.zero_dvd.mp this
      omega
    · exact z
theorem G_per {g : Int → Rat} : ∀ (r : List Int) (f : Nat), (∀ p ∈ r, 0 < p) → Per f g → (∀ p ∈ r, Per p g) → Per (r.foldl (fun f p => Nat.gcd f p.toNat) f : Nat) g
  | [], f, _, h, _ => h
  | p :: r, f, h0, h, hr => by
    have hp := h0 p (by simp)
    refine G_per r _ (fun q hq => h0 q (List.mem_cons_of_mem _ hq)) (Per.gcd f p.toNat h ?_) fun q hq => hr q (List.mem_cons_of_mem _ hq)
    rw [Int.toNat_of_nonneg (by omega)]
    exact hr p (by simp)
theorem fold_off {d : Int} : ∀ (r : List Int) (f : Int → Int), (∀ p ∈ r, 0 < p ∧ d ∣ p) → (∀ a, a < 0 → f a = 0) → (∀ a, ¬ d ∣ a → f a = 0) → ∀ a, ¬ d ∣ a → r.foldl (fun f p => S p f) f a = 0
  | [], f, _, _, h, a, ha => h a ha
  | p :: r, f, hp, hn, h, a, ha => fold_off r (S p f) (fun q hq => hp q (List.mem_cons_of_mem _ hq)) (fun a h => S_neg h) (fun a ha => by
      obtain ⟨h0, hd⟩ := hp p (by simp)
      have key : ∀ (n : Nat) (a : Int), a < n → ¬ d ∣ a → S p f a = 0 := by
        intro n
        induction n with
        | zero => intro a h _; exact S_neg (by omega)
        | succ n ih =>
          intro a h3 h4
          rw [S_eq h0 hn, h a h4, ih (a - p) (by omega) fun z => h4 (by have := Int.dvd_add z hd; rwa [show a - p + p = a by omega] at this)]
          rfl
      exact key (a.toNat + 1) a (by omega) ha) a ha
theorem N_off {parts : List Int} (h : ∀ p ∈ parts, 0 < p) {a : Int} (ha : ¬ (G parts : Int) ∣ a) : N parts a = 0 :=
  fold_off parts one0 (fun p hp => ⟨h p hp, G_dvd h hp⟩) (fun a h => if_neg (by omega)) (fun a ha => if_neg fun z => ha (by rw [z]; exact Int.dvd_zero _)) a ha
end Qu
end

section
-- QuF
namespace Qu
theorem Per.D {x m : Int} {g : Int → Rat} (h : Per x g) : Per x (D m g) := fun a => by
  simp only [Qu.D]
  rw [h a, show a - x - m = a - m - x by omega, h]
theorem Per.Dm {x m : Int} : ∀ (k : Nat) {g : Int → Rat}, Per x g → Per x (Dm m k g)
  | 0, _, h => h
  | k + 1, g, h => Per.Dm k (g := Qu.D m g) h.D
theorem A_same {m : Int} : ∀ (k : Nat) {g : Int → Rat}, Per m g → ∀ a, A m k g a = k * g a
  | 0, g, _, a => by simp [A]
  | k + 1, g, h, a => by
    simp only [A]
    rw [A_same k h, h a]
    have : ((k + 1 : Nat) : Rat) = (k : Rat) + 1 := by simp
    rw [this]; grind
theorem nat_ne {n : Nat} (h : 0 < n) : (n : Rat) ≠ 0 := by
  intro z
  have := Rat.natCast_inj.mp (z.trans (by simp : (0 : Rat) = ((0 : Nat) : Rat)))
  omega
/-- powers that go round are none -/
theorem flat_per {m p : Int} (hp : 0 < p) : ∀ (k : Nat) {g : Int → Rat}, Per p g → (∀ a, Dm m (k + 1) g a = 0) → ∀ a, D m g a = 0
  | 0, g, _, h => h
  | k + 1, g, hg, h => by
    refine flat_per hp k hg fun a => ?_
    have h' : ∀ a, D m (D m (Dm m k g)) a = 0 := fun a => by
      have := h a
      have e : Dm m (k + 1 + 1) g = D m (D m (Dm m k g)) := by
        show Dm m k (D m (D m g)) = _
        rw [Dm_D, Dm_D]
      rwa [e] at this
    have e1 : Dm m (k + 1) g = D m (Dm m k g) := by
      show Dm m k (D m g) = _
      rw [Dm_D]
    rw [e1]
    have pm : Per m (D m (Dm m k g)) := Per.of_D h'
    have q1 := A_same p.toNat pm a
    rw [A_D, D_A, Int.toNat_of_nonneg (by omega)] at q1
    have q2 : Per (p * m) (Dm m k g) := by
      rw [Int.mul_comm]; exact (hg.Dm k).mul m
    rw [q2.toD] at q1
    rcases Rat.mul_eq_zero.mp q1.symm with z | z
    · exact absurd z (nat_ne (by omega))
    · exact z
set_option linter.all false
section
variable {L : Int} {parts : List Int} {F : Int → Rat} (R : Round L parts F)
include R
theorem Round.rest {p : Int} (hp : p ∈ parts) : Pos L (parts.erase p) ∧ (parts.erase p).length + 1 = parts.length ∧ parts.Perm (p :: parts.erase p) ∧ 0 ≤ (parts.erase p).sum := by
  have pm := List.perm_cons_erase hp
  have ps : Pos L (parts.erase p) := fun q hq => R.ok q (List.mem_of_mem_erase hq)
  refine ⟨ps, ?_, pm, ?_⟩
  · have := pm.length_eq
    simpa using this.symm
  · have : ∀ r : List Int, (∀ p ∈ r, 0 < p) → 0 ≤ r.sum := by
      intro r
      induction r with
      | nil => intro _; simp
      | cons x r ih => intro h; rw [List.sum_cons]; have := h x (by simp); have := ih fun q hq => h q (List.mem_cons_of_mem _ hq); omega
    exact this _ fun q hq => (ps q hq).1
theorem Round.ds {p : Int} (hp : p ∈ parts) (a : Int) : Ds (parts.erase p) F a = ind p a := by
  obtain ⟨h1, h2, h3, h4⟩ := R.rest hp
  have p0 := (R.ok p hp).1
  refine far (B := (parts.erase p).sum) p0 (Per.of_D fun a => ?_) (ind_per p) (fun a ha => ?_) a
  · rw [← Ds_D]
    have := R.parts0 a
    rw [Ds_perm h3] at this
    exact this
  · rw [Ds_local (fun q hq => (h1 q hq).1) (B := 0) R.up a (by omega), N_perm h3 fun q hq => (R.ok q hq).1]
    show Ds (parts.erase p) (cast ((parts.erase p).foldl (fun f p => S p f) (S p one0))) a = _
    rw [Ds_fold _ _ (fun q hq => (h1 q hq).1) fun a h => S_neg h]
    exact S_one p0 a (by omega)
/-- no shorter round -/
theorem Round.least {m : Int} (h : ∀ a, Dm m parts.length F a = 0) {p : Int} (hp : p ∈ parts) : p ∣ m := by
  obtain ⟨h1, h2, h3, h4⟩ := R.rest hp
  have p0 := (R.ok p hp).1
  have e : Ds (parts.erase p) F = ind p := funext (R.ds hp)
  have z : ∀ a, Dm m ((parts.erase p).length + 1) (ind p) a = 0 := fun a => by
    rw [h2, ← e, Dm_Ds, show Dm m parts.length F = fun _ => 0 from funext h, Ds_zero]
  have := flat_per p0 _ (ind_per p) z 0
  simp only [D, ind] at this
  rw [if_pos (Int.dvd_zero p)] at this
  by_cases k : p ∣ 0 - m
  · have := Int.dvd_neg.mpr k
    rwa [show -(0 - m) = m by omega] at this
  · rw [if_neg k] at this
    exact absurd this (by decide +kernel)
/-- the greatest difference -/
theorem Round.e_per {p : Int} (hp : p ∈ parts) : Per p (Dm L (parts.length - 1) F) := by
  obtain ⟨h1, h2, h3, h4⟩ := R.rest hp
  have p0 := (R.ok p hp).1
  have el : parts.length - 1 = (parts.erase p).length := by omega
  rw [el]
  have hm : ∀ x : Int → Rat, D L (Dm L (parts.erase p).length x) = Dm L parts.length x := fun x => by
    rw [← h2]
    show _ = Dm L _ (D L x)
    rw [Dm_D]
  refine Per.of_D fun a => ?_
  rw [← Dm_D]
  refine far (B := p + (parts.erase p).length * L + 1) (h := fun _ => 0) R.pos (Per.of_D fun a => ?_) (fun a => rfl) (fun a ha => ?_) a
  · rw [hm, Dm_D, show Dm L parts.length F = fun _ => 0 from funext R.flat]
    simp only [D]; grind
  · have nn : 0 ≤ ((parts.erase p).length : Int) * L := Int.mul_nonneg (by omega) (Int.le_of_lt R.pos)
    rw [Dm_local (Int.le_of_lt R.pos) _ (B := p) (g := cast (N (parts.erase p))) (fun b hb => by
      simp only [D]
      rw [R.up b (by omega), R.up (b - p) (by omega)]
      have e : N parts = N (parts.erase p ++ [p]) := N_perm (h3.trans (List.perm_append_singleton p _).symm) fun q hq => (R.ok q hq).1
      have := N_more (parts.erase p) p0 b
      simp only [cast]
      rw [e, this, Rat.intCast_add]; grind) a (by omega)]
    rw [show N (parts.erase p) = (parts.erase p).foldl (fun f p => S p f) one0 from rfl, Dm_fold R.pos _ one0 h1 fun a h => if_neg (by omega)]
    exact (W_top R.pos _ 0 (cast one0) h1 fun a ha => by simp only [cast, one0]; rw [if_neg (by omega)]; rfl).1 a (by omega)
theorem Round.e_gcd : Per (G parts) (Dm L (parts.length - 1) F) := G_per parts 0 (fun p hp => (R.ok p hp).1) Per.zero fun p hp => R.e_per hp
theorem Round.g_L : (G parts : Int) ∣ L := by
  obtain ⟨p, hp⟩ := List.exists_mem_of_ne_nil _ R.ne
  exact Int.dvd_trans (G_dvd (fun q hq => (R.ok q hq).1) hp) (R.ok p hp).2
theorem Round.e_off {a : Int} (ha : ¬ (G parts : Int) ∣ a) : Dm L (parts.length - 1) F a = 0 := by
  have g0 : 0 < G parts := G_pos (fun q hq => (R.ok q hq).1) R.ne
  have nn : 0 ≤ ((parts.length - 1 : Nat) : Int) * L := Int.mul_nonneg (by omega) (Int.le_of_lt R.pos)
  generalize hB : ((parts.length - 1 : Nat) : Int) * L = B at nn
  have k := R.e_gcd.plus (B - a).toNat a
  have big : B ≤ a + ((B - a).toNat : Int) * (G parts : Nat) := by
    have := Int.mul_le_mul_of_nonneg_left (show (1 : Int) ≤ (G parts : Nat) by omega) (show 0 ≤ ((B - a).toNat : Int) by omega)
    omega
  rw [← k, Dm_local (Int.le_of_lt R.pos) _ (B := 0) R.up _ (by rw [hB]; omega), Dm_class (L := L) _ (cast (N parts)) (fun _ => 0) _ fun i => ?_, Dm_zero]
  simp only [cast]
  rw [N_off (fun q hq => (R.ok q hq).1)]
  · rfl
  · intro z
    refine ha ?_
    have z1 := Int.dvd_add z (Int.dvd_trans R.g_L (Int.dvd_mul_left (i : Int) L))
    rw [show a + ((B - a).toNat : Int) * (G parts : Nat) - i * L + i * L = a + ((B - a).toNat : Int) * (G parts : Nat) by omega] at z1
    have z2 := Int.dvd_sub z1 (Int.dvd_mul_left ((B - a).toNat : Int) ((G parts : Nat) : Int))
    rwa [show a + ((B - a).toNat : Int) * (G parts : Nat) - ((B - a).toNat : Int) * (G parts : Nat) = a by omega] at z2
omit R in
theorem prodR_perm {r s : List Int} (h : r.Perm s) : prodR r = prodR s := by
  induction h with
  | nil => rfl
  | cons x _ ih => simp only [prodR, ih]
  | swap x y l => simp only [prodR]; grind
  | trans _ _ ih1 ih2 => rw [ih1, ih2]
theorem Round.e_zero : Dm L (parts.length - 1) F 0 * prodR parts = (G parts : Rat) * (L : Rat) ^ (parts.length - 1) := by
  obtain ⟨p, hp⟩ := List.exists_mem_of_ne_nil _ R.ne
  obtain ⟨h1, h2, h3, h4⟩ := R.rest hp
  have p0 := (R.ok p hp).1
  have g0 : 0 < G parts := G_pos (fun q hq => (R.ok q hq).1) R.ne
  have gd := G_dvd (fun q hq => (R.ok q hq).1) hp
  have el : parts.length - 1 = (parts.erase p).length := by omega
  obtain ⟨t, ht⟩ : ∃ t : Nat, p.toNat = t * G parts := by
    have : G parts ∣ p.toNat := by
      have e : ((p.toNat : Nat) : Int) = p := Int.toNat_of_nonneg (by omega)
      rw [← e] at gd
      exact Int.natCast_dvd_natCast.mp gd
    obtain ⟨c, hc⟩ := this
    exact ⟨c, by rw [hc, Nat.mul_comm]⟩
  have k1 := P_at g0 R.e_gcd (fun a ha => R.e_off ha) t
  have k2 : P p.toNat (Dm L (parts.length - 1) F) = prodQ L (parts.erase p) := by
    rw [el, Dm_W R.pos _ F h1, show Ds (parts.erase p) F = ind p from funext (R.ds hp), P_W _ (fun q hq => (h1 q hq).1) (by rw [Int.toNat_of_nonneg (by omega)]; exact ind_per p), P_ind p0]
    grind
  rw [ht, k1] at k2
  have k3 := prod_LQ (parts.erase p) h1 R.pos
  rw [← k2, ← el] at k3
  rw [prodR_perm h3]
  simp only [prodR]
  have ep : (p : Rat) = (t : Rat) * (G parts : Rat) := by
    have : (p : Int) = ((t * G parts : Nat) : Int) := by rw [← ht]; omega
    rw [this, Rat.intCast_natCast, Rat.natCast_mul]
  rw [ep, ← k3]
  grind
end

/-- a polynomial without values is nought -/
theorem ev_none {L : Int} (hL : 0 < L) (r : Int) : ∀ (n : Nat) (c : List Rat), c.length = n → (∀ k : Nat, ev c ((r - k * L : Int) : Rat) = 0) → c = List.replicate n 0
  | 0, [], _, _ => rfl
  | n + 1, c, hc, h => by
    obtain ⟨d, x, rfl⟩ : ∃ d x, c = d ++ [x] := ⟨c.dropLast, c.getLast (by intro z; rw [z] at hc; cases hc), (List.dropLast_concat_getLast _).symm⟩
    have hd : d.length = n := by simpa using hc
    have l1 := Dm_lead L d x r
    rw [Dm_class (L := L) _ (fun a : Int => ev (d ++ [x]) (a : Rat)) (fun _ => 0) r h, Dm_zero] at l1
    have x0 : x = 0 := by
      have h2 : fact d.length * (L : Rat) ^ d.length ≠ 0 := by
        intro z
        rcases Rat.mul_eq_zero.mp z with z | z
        · exact fact_pos _ z
        · have : (L : Rat) ≠ 0 := by
            have := nat_ne (n := L.toNat) (by omega)
            rwa [← Rat.intCast_natCast, Int.toNat_of_nonneg (by omega)] at this
          have key : ∀ m : Nat, (L : Rat) ^ m ≠ 0 := by
            intro m
            induction m with
            | zero => simp
            | succ m ih =>
              rw [Rat.pow_succ]
              intro z
              rcases Rat.mul_eq_zero.mp z with z | z
              · exact ih z
              · exact this z
          exact key _ z
      rcases Rat.mul_eq_zero.mp l1.symm with z | z
      · exact z
      · exact absurd z h2
    subst x0
    have ih := ev_none hL r n d hd fun k => by rw [← ev_app0]; exact h k
    rw [ih, ← List.replicate_succ']
theorem quasi_len (L : Nat) (parts : List Int) : (quasi L parts).length = L := by simp [quasi]
theorem quasi_each {L : Nat} {parts : List Int} (hL : 0 < L) {c : List Rat} (h : c ∈ quasi L parts) : c.length = parts.length := by
  simp only [quasi, List.mem_map] at h
  obtain ⟨r, _, rfl⟩ := h
  exact (through_ok r (by omega) parts.length _).1
theorem qat_class {qs : List (List Rat)} {r : Nat} (hr : r < qs.length) (k : Nat) : qat qs ((r : Int) - k * qs.length) = ev (qs.getD r []) (((r : Int) - k * qs.length : Int) : Rat) := by
  have : ((r : Int) - k * qs.length) % (qs.length : Int) = r := by
    rw [Int.sub_emod]; simp
    exact Int.emod_eq_of_lt (by omega) (by omega)
  simp only [qat, this, Int.toNat_natCast]
/-- the greatest power's fraction, and the noughts -/
theorem quasi_lead {L : Nat} {parts : List Int} (ne : parts ≠ []) (hL : 0 < L) (ok : Pos L parts) {r : Nat} (hr : r < L) :
    ((G parts : Int) ∣ r → ∃ d x, (quasi L parts).getD r [] = d ++ [x] ∧ d.length = parts.length - 1 ∧ x * (fact (parts.length - 1) * prodR parts) = G parts) ∧
    (¬ (G parts : Int) ∣ r → (quasi L parts).getD r [] = List.replicate parts.length 0) := by
  have R := quasi_round ne hL ok
  have hl := quasi_len L parts
  have hin : (quasi L parts).getD r [] ∈ quasi L parts := by
    rw [List.getD_eq_getElem?_getD, List.getElem?_eq_getElem (by omega)]
    exact List.getElem_mem _
  have hc := quasi_each hL hin
  have cl : ∀ k : Nat, qat (quasi L parts) ((r : Int) - k * L) = ev ((quasi L parts).getD r []) (((r : Int) - k * L : Int) : Rat) := fun k => by
    have := qat_class (qs := quasi L parts) (r := r) (by omega) k
    rwa [hl] at this
  have p0 : 0 < parts.length := List.length_pos_iff.mpr ne
  have L0 : (L : Rat) ≠ 0 := nat_ne hL
  refine ⟨fun hg => ?_, fun hg => ?_⟩
  · obtain ⟨d, x, e⟩ : ∃ d x, (quasi L parts).getD r [] = d ++ [x] := ⟨_, _, (List.dropLast_concat_getLast (by intro z; rw [z] at hc; simp at hc; omega)).symm⟩
    have hd : d.length = parts.length - 1 := by rw [e] at hc; simp at hc; omega
    refine ⟨d, x, e, hd, ?_⟩
    have l1 := Dm_lead L d x r
    rw [← Dm_class (L := (L : Int)) _ (qat (quasi L parts)) (fun a : Int => ev (d ++ [x]) (a : Rat)) r fun k => by rw [cl k, e], hd] at l1
    have l2 := R.e_zero
    obtain ⟨t, ht⟩ := hg
    have l3 := R.e_gcd.plus t 0
    rw [show (0 : Int) + t * (G parts : Nat) = r by rw [ht, Int.mul_comm]; omega] at l3
    rw [← l3, l1] at l2
    have lp : (L : Rat) ^ (parts.length - 1) ≠ 0 := by
      generalize parts.length - 1 = m
      induction m with
      | zero => simp
      | succ m ih =>
        rw [Rat.pow_succ]
        intro z
        rcases Rat.mul_eq_zero.mp z with z | z
        · exact ih z
        · exact L0 z
    have ei : ((L : Int) : Rat) = (L : Rat) := Rat.intCast_natCast L
    rw [ei] at l2
    generalize (L : Rat) ^ (parts.length - 1) = q at l2 lp
    grind
  · refine ev_none (L := L) (by omega) r _ _ hc fun k => ?_
    rw [← cl k]
    have z : ∀ a : Int, (fun b : Int => if b % L = r then qat (quasi L parts) b else 0) a = 0 := same_all (L := L) (by omega) (m := parts.length) (B := 0) (fun a => by
      by_cases h : a % L = r
      · rw [← R.flat a]
        refine Dm_class _ _ _ _ fun i => ?_
        have : (a - i * L) % (L : Int) = r := by
          rw [Int.sub_emod]; simp [h]
          exact Int.emod_eq_of_lt (by omega) (by omega)
        simp only [this, if_true]
      · rw [Dm_class (L := (L : Int)) _ _ (fun _ => 0) a fun i => ?_, Dm_zero]
        have : (a - i * L) % (L : Int) = a % L := by rw [Int.sub_emod]; simp
        simp only [this, h, if_false]) (fun a => by rw [Dm_zero]) fun a ha => by
      show (if a % (L : Int) = r then qat (quasi L parts) a else 0) = 0
      split
      · rename_i h
        rw [R.up a ha]
        simp only [cast]
        rw [N_off (fun q hq => (ok q hq).1) fun z => hg ?_]
        · rfl
        · have e := Int.emod_add_mul_ediv a L
          have : (r : Int) = a - L * (a / L) := by omega
          rw [this]
          exact Int.dvd_sub z (Int.dvd_trans R.g_L (Int.dvd_mul_right _ _))
      · rfl
    have := z ((r : Int) - k * L)
    have e : ((r : Int) - k * L) % (L : Int) = r := by
      rw [Int.sub_emod]; simp
      exact Int.emod_eq_of_lt (by omega) (by omega)
    simpa only [e, if_true] using this
/-- no shorter round of the polynomials -/
theorem quasi_least {L : Nat} {parts : List Int} (ne : parts ≠ []) (hL : 0 < L) (ok : Pos L parts) {m : Nat} (hm : 0 < m) (hd : m ∣ L) (h : ∀ at_ : Nat, at_ < L → (quasi L parts).getD at_ [] = (quasi L parts).getD (at_ % m) []) : ∀ p ∈ parts, p ∣ (m : Int) := by
  have R := quasi_round ne hL ok
  have hl := quasi_len L parts
  intro p hp
  refine R.least (m := m) (fun a => ?_) hp
  have b1 : 0 ≤ a % (m : Int) := Int.emod_nonneg _ (by omega)
  have b2 : a % (m : Int) < m := Int.emod_lt_of_pos _ (by omega)
  have mL : m ≤ L := Nat.le_of_dvd hL hd
  have e : ∀ b : Int, b % (m : Int) = a % m → qat (quasi L parts) b = ev ((quasi L parts).getD (a % m).toNat []) (b : Rat) := fun b hb => by
    simp only [qat, hl]
    have c1 : 0 ≤ b % (L : Int) := Int.emod_nonneg _ (by omega)
    have c2 : b % (L : Int) < L := Int.emod_lt_of_pos _ (by omega)
    rw [h _ (by omega)]
    congr 2
    have : ((b % (L : Int)).toNat % m : Nat) = (a % (m : Int)).toNat := by
      have e1 : (((b % (L : Int)).toNat % m : Nat) : Int) = b % (L : Int) % m := by
        rw [Int.natCast_emod, Int.toNat_of_nonneg c1]
      rw [Int.emod_emod_of_dvd b (Int.natCast_dvd_natCast.mpr hd), hb] at e1
      omega
    rw [this]
  rw [Dm_class (L := (m : Int)) _ (qat (quasi L parts)) (fun b : Int => ev ((quasi L parts).getD (a % m).toNat []) (b : Rat)) a fun k => e _ (by rw [Int.sub_emod]; simp)]
  refine flat_ev _ _ _ (quasi_each hL ?_) a
  rw [List.getD_eq_getElem?_getD, List.getElem?_eq_getElem (by omega)]
  exact List.getElem_mem _
end Qu
end

section
-- MiniY
set_option Elab.async false
set_option linter.all false
set_option maxRecDepth 100000
set_option maxHeartbeats 4000000
/-! Mini, part Y: the law's own fractions and rounds; equality of rows -/
namespace Mi
open PySem PySem.Spec PyProof.Rows L2
def lfr_common_124 : Ss := (.cons (.par [0, 1] (.cons (.var 1) (.cons (.bin .mod (.bi .int (.cons (.pk 0) .nil)) (.pk 1)) .nil))) .nil)
def lfr_common_125 : Ss := (.cons (.retv 0) .nil)
def lfr_common_123 : Ss := (.cons (.whs (.cmp .ne (.pk 1) (.cint 0))
 lfr_common_124) lfr_common_125)
def lfr_common_122 : Ss := (.cons (.par [0, 1] (.cons (.bi .abs (.cons (.pk 0) .nil)) (.cons (.bi .abs (.cons (.pk 1) .nil)) .nil))) lfr_common_123)
def B_lfr_common : Fun := ⟨["one", "other"], 2, lfr_common_122⟩
def lfr_129 : Ss := (.cons (.asg 2 (.neg (.pk 2))) .nil)
def lfr_130 : Ss := (.cons (.ret (.tup (.cons (.bin .fdiv (.pk 0) (.pk 2)) (.cons (.bin .fdiv (.pk 1) (.pk 2)) .nil)))) .nil)
def lfr_128 : Ss := (.cons (.ifs (.cmp .lt (.pk 1) (.cint 0))
 lfr_129
 .nil) lfr_130)
def lfr_127 : Ss := (.cons (.asg 2 (.call "_law_fr_common" (.cons (.var 0) (.cons (.var 1) .nil)))) lfr_128)
def B_lfr : Fun := ⟨["upper", "lower"], 3, lfr_127⟩
def lqr_134 : Ss := (.cons (.asg 1 (.bin .fdiv (.bin .mul (.pk 1) (.pk 2)) (.call "_law_fr_common" (.cons (.var 1) (.cons (.var 2) .nil))))) .nil)
def lqr_135 : Ss := (.cons (.retv 1) .nil)
def lqr_133 : Ss := (.cons (.fors (.nm 2) (.ex (.var 0))
 lqr_134) lqr_135)
def lqr_132 : Ss := (.cons (.asg 1 (.cint 1)) lqr_133)
def B_lqr : Fun := ⟨["parts"], 3, lqr_132⟩
def lqs_139 : Ss := (.cons (.asg 1 (.call "_law_fr_common" (.cons (.var 1) (.cons (.var 2) .nil)))) .nil)
def lqs_140 : Ss := (.cons (.retv 1) .nil)
def lqs_138 : Ss := (.cons (.fors (.nm 2) (.ex (.var 0))
 lqs_139) lqs_140)
def lqs_137 : Ss := (.cons (.asg 1 (.cint 0)) lqs_138)
def B_lqs : Fun := ⟨["parts"], 3, lqs_137⟩
structure HasLf (T : Tab) : Prop where
  pr : ∀ f, T.prim f = none
  common : T.fn.lookup ("_law_fr_common" : Str) = some B_lfr_common
  fr : T.fn.lookup ("_law_fr" : Str) = some B_lfr
structure HasLr (T : Tab) : Prop where
  lf : HasLf T
  round : T.fn.lookup ("_law_qu_round" : Str) = some B_lqr
structure HasLs (T : Tab) : Prop where
  lf : HasLf T
  shared : T.fn.lookup ("_law_qu_shared" : Str) = some B_lqs
local macro_rules | `(tactic| walk_at "ev") => `(tactic| try simp only [pk_toP, vr_toP, fz_toP, ev_var, ev_pk, ev_cint, ev_cbl, ev_cstr, ev_cnon, ev_cst, ev_tup, ev_lst, ev_dct0, ev_bin, ev_neg, ev_not, ev_and, ev_or, ev_cmp, ev_chain, ev_isn, ev_nisn, ev_isb, ev_ite, ev_call, ev_callk, ev_mk, ev_mkk, ev_bi, ev_isin, ev_attr, ev_ix, ev_sl, ev_slS, ev_rev, ev_comp, ev_caught, ev_callv, ev_sleft, ev_sturn, ev_sgreat,
  els_nil, els_cons, er_nil, er_cons, eo_no, eo_yes, ec_no, ec_yes, sr_ex, sr_cells, sr_rng1, sr_rng2, sr_zip, sr_enum, ea_one, ea_cons, eor_one, eor_cons,
  ss_nil, ss_cons, st_asg, st_asgT, st_par, st_setIx, st_app, st_appPop, st_ex, st_ret, st_retv, st_retN, st_ifs, st_fors, st_whs, st_rai, st_rai1, st_pass, st_brk, st_cnt, st_frz, st_aug, st_setL, st_setT, st_mkst, nlsV_v, intsOf_ints,
  nlsK_v, augK_v, optK_some, optK_none, intK_v, tupK_v, blK_v, trK_bl, trK_int, bin_add, bin_sub, bin_mul, bin_fdiv, bin_mod, bin_pow, bin_addS, bin_addT, bin_addL, bin_mulL, bin_mulT, cmp_lt, cmp_le, cmp_gt, cmp_ge, cmp_eq, cmp_ne,
  bi_lenT, bi_lenL, bi_lenC, bi_lenS, bi_abs, bi_int, bi_max2, bi_min2, bi_sumT, bi_tupL, bi_tupT, bi_lstL, bi_lstT, ix_tup, ix_lst, sl_tup, sl_lst, slS_lst, rev_tup, rev_lst, walk_tup, walk_lst, walk_scr, rng1_v, rng2_v, zip_lst, zip_tup, enum_lst, enum_tup, bi_reprI, eqK_int,
  setAll, freeze, wipeE, bindTg, pk_non, pk_bl, pk_int, pk_str, pk_tup, pk_lst, pk_dct, pk_ins, pk_exc, pk_fn, pk_obj, pk_scr, pk_nls, vr_non, vr_bl, vr_int, vr_str, vr_tup, vr_lst, vr_dct, vr_ins, vr_exc, vr_fn, vr_obj, vr_scr, fz_int, fz_bl, fz_str, fz_obj, fz_tup, fz_lst, fz_nls, fz_non, fz_dct, fz_ins, fz_exc, fz_scr, fz_fn,
  List.map_cons, List.map_nil, List.length_cons, List.length_nil, List.replicate_succ, List.replicate_zero, List.cons_append, List.nil_append, List.getElem?_cons_zero, List.getElem?_cons_succ, List.set_cons_zero, List.set_cons_succ, Nat.sub_self, Nat.reduceSub, Nat.reduceAdd, Nat.zero_add, stAt_W, set_W, decide_true, decide_false, if_true, if_false, Bool.false_eq_true, true_and, and_true, List.foldl_cons, List.foldl_nil, List.zip_cons_cons, List.zip_nil_left, List.zip_nil_right, isi_non_bool, isi_non_int, isi_non_str, isi_non_tuple, isi_non_list, isi_non_dict, isi_non_ValueError, isi_bl_bool, isi_bl_int, isi_bl_str, isi_bl_tuple, isi_bl_list, isi_bl_dict, isi_bl_ValueError, isi_int_bool, isi_int_int, isi_int_str, isi_int_tuple, isi_int_list, isi_int_dict, isi_int_ValueError, isi_str_bool, isi_str_int, isi_str_str, isi_str_tuple, isi_str_list, isi_str_dict, isi_str_ValueError, isi_tup_bool, isi_tup_int, isi_tup_str, isi_tup_tuple, isi_tup_list, isi_tup_dict, isi_tup_ValueError, isi_lst_bool, isi_lst_int, isi_lst_str, isi_lst_tuple, isi_lst_list, isi_lst_dict, isi_lst_ValueError, isi_dct_bool, isi_dct_int, isi_dct_str, isi_dct_tuple, isi_dct_list, isi_dct_dict, isi_dct_ValueError, Bool.not_true, Bool.not_false, atI_0, atI_1, atI_2, le_sizeT, lt_sizeT, Nat.reduceLeDiff])



theorem lfr_common_of {T : Tab} (pr : ∀ f, T.prim f = none) (hc : T.fn.lookup ("_law_fr_common" : Str) = some B_lfr_common) {μ : Mu} {a b : Int} {d : Nat} {k kx : KE} (hk : k (.int (Int.gcd a b)) μ) : (gam T (d + 1)).call "_law_fr_common" [.int a, .int b] μ k kx := by
  refine call_fn pr hc d ⟨rfl, ?_⟩
  simp only [B_lfr_common, lfr_common_122]
  walk_at "ev"
  simp only [lfr_common_123]
  walk_at "ev"
  refine whE_ind (fun ρ μ' => ∃ x y : Nat, ρ = [some (.int x), some (.int y)] ∧ μ' = μ ∧ Nat.gcd x y = Int.gcd a b) (fun ρ _ => match ρ with
    | [_, some (.int y)] => y.toNat
    | _ => 0) ?_ ⟨a.natAbs, b.natAbs, rfl, rfl, rfl⟩
  rintro ρ μ' ⟨x, y, rfl, rfl, hg⟩ N hN
  walk_at "ev"
  split
  · rename_i hy
    have hy : ¬ (y : Int) = 0 := by simpa using hy
    simp only [lfr_common_124]
    walk_at "ev"
    refine ⟨hy, hN _ _ ⟨y, x % y, ?_, rfl, ?_⟩ ?_⟩
    · rw [Int.fmod_eq_emod_of_nonneg _ (by omega)]; rfl
    · rw [Nat.gcd_comm, ← Nat.gcd_rec, Nat.gcd_comm]; exact hg
    · rw [Int.fmod_eq_emod_of_nonneg _ (by omega)]
      have : x % y < y := Nat.mod_lt _ (by omega)
      show ((x : Int) % (y : Int)).toNat < (y : Int).toNat
      omega
  · rename_i hy
    have hy : (y : Int) = 0 := by simpa using hy
    have hy : y = 0 := by omega
    subst hy
    simp only [lfr_common_125]
    walk_at "ev"
    rw [Nat.gcd_zero_right] at hg
    rw [hg]
    exact hk
theorem lfr_common_ok {T : Tab} (hT : HasLf T) {μ : Mu} {a b : Int} {d : Nat} {k kx : KE} (hk : k (.int (Int.gcd a b)) μ) : (gam T (d + 1)).call "_law_fr_common" [.int a, .int b] μ k kx := lfr_common_of hT.pr hT.common hk
theorem lfr_ok {T : Tab} (hT : HasLf T) {μ : Mu} {u l : Int} {d : Nat} {k kx : KE} (hl : 0 < l) (hb : l.natAbs < 2 ^ 8999) (hk : k (toP (Rat.divInt u l)) μ) : (gam T (d + 2)).call "_law_fr" [.int u, .int l] μ k kx := by
  refine call_fn hT.pr hT.fr (d + 1) ⟨rfl, ?_⟩
  have g0 : 0 < Int.gcd u l := Int.gcd_pos_of_ne_zero_right _ (by omega)
  have gl : Int.gcd u l ≤ l.natAbs := Nat.le_of_dvd (by omega) (Int.gcd_dvd_natAbs_right u l)
  have e1 : (Rat.divInt u l).num = l.sign * u / Int.gcd u l := by rw [Rat.num_divInt, Int.gcd_comm]
  have e2 : ((Rat.divInt u l).den : Int) = l.natAbs / Int.gcd u l := by rw [Rat.den_divInt, if_neg (by omega), Int.gcd_comm]; rfl
  simp only [B_lfr, lfr_127]
  walk_at "ev"
  refine lfr_common_ok hT ?_
  walk_at "ev"
  simp only [lfr_128]
  walk_at "ev"
  rw [decide_eq_false (show ¬ l < 0 by omega)]
  walk_at "ev"
  simp only [lfr_130]
  walk_at "ev"
  refine ⟨by omega, noPy (by omega), by omega, noPy (by omega), ?_⟩
  have : PV.tup [.int (u.fdiv (Int.gcd u l)), .int (l.fdiv (Int.gcd u l))] = toP (Rat.divInt u l) := by
    simp only [toP, e1, e2]
    rw [Int.fdiv_eq_ediv_of_nonneg _ (by omega), Int.fdiv_eq_ediv_of_nonneg _ (by omega), Int.sign_eq_one_of_pos hl, Int.one_mul, Int.natAbs_of_nonneg (by omega)]
  rw [this]; exact hk
theorem lqs_of {T : Tab} (pr : ∀ f, T.prim f = none) (hc : T.fn.lookup ("_law_fr_common" : Str) = some B_lfr_common) (hs : T.fn.lookup ("_law_qu_shared" : Str) = some B_lqs) {μ : Mu} {row : List Int} {d : Nat} {k kx : KE} (h : ∀ p ∈ row, 1 ≤ p) (hk : k (.int (Qu.G row)) μ) : (gam T (d + 2)).call "_law_qu_shared" [.tup (row.map PV.int)] μ k kx := by
  refine call_fn pr hs (d + 1) ⟨rfl, ?_⟩
  simp only [B_lqs, lqs_137]
  walk_at "ev"
  simp only [lqs_138]
  walk_at "ev"
  refine forE_ind (fun xs ρ μ' => ∃ (l1 l2 : List Int) (a : Option PV), row = l1 ++ l2 ∧ xs = l2.map PV.int ∧ ρ = [some (.tup (row.map PV.int)), some (.int (Qu.G l1)), a] ∧ μ' = μ) ?_ ?_ _ _ _ ⟨[], row, _, rfl, rfl, rfl, rfl⟩
  · rintro x xs ρ μ' ⟨l1, l2, a, hr, hx, rfl, rfl⟩
    cases l2 with
    | nil => cases hx
    | cons p l2 =>
      simp only [List.map_cons, List.cons.injEq] at hx
      obtain ⟨rfl, rfl⟩ := hx
      refine ⟨_, rfl, fun N hN => ?_⟩
      simp only [lqs_139]
      walk_at "ev"
      refine lfr_common_of pr hc ?_
      walk_at "ev"
      refine hN _ _ ⟨l1 ++ [p], l2, some (.int p), by simp [hr], rfl, ?_, rfl⟩
      have : Qu.G (l1 ++ [p]) = Int.gcd (Qu.G l1) p := by
        have h1 := h p (by rw [hr]; simp)
        simp only [Qu.G, List.foldl_append, List.foldl_cons, List.foldl_nil]
        unfold Int.gcd
        congr 1
        omega
      rw [this]
  · rintro ρ μ' ⟨l1, l2, a, hr, hx, rfl, rfl⟩
    obtain rfl : l2 = [] := by simpa using hx.symm
    simp only [lqs_140]
    walk_at "ev"
    rw [List.append_nil] at hr
    rw [← hr]; exact hk
theorem lqs_ok {T : Tab} (hT : HasLs T) {μ : Mu} {row : List Int} {d : Nat} {k kx : KE} (h : ∀ p ∈ row, 1 ≤ p) (hk : k (.int (Qu.G row)) μ) : (gam T (d + 2)).call "_law_qu_shared" [.tup (row.map PV.int)] μ k kx := lqs_of hT.lf.pr hT.lf.common hT.shared h hk
theorem lqr_ok {T : Tab} (hT : HasLr T) {μ : Mu} {row : List Int} {d : Nat} {k kx : KE} (h : ∀ p ∈ row, 1 ≤ p ∧ p ≤ 1000000) (hk : k (.int (Lc row)) μ) : (gam T (d + 2)).call "_law_qu_round" [.tup (row.map PV.int)] μ k kx := by
  refine call_fn hT.lf.pr hT.round (d + 1) ⟨rfl, ?_⟩
  simp only [B_lqr, lqr_132]
  walk_at "ev"
  simp only [lqr_133]
  walk_at "ev"
  refine forE_ind (fun xs ρ μ' => ∃ (l1 l2 : List Int) (a : Option PV), row = l1 ++ l2 ∧ xs = l2.map PV.int ∧ ρ = [some (.tup (row.map PV.int)), some (.int (Lc l1)), a] ∧ μ' = μ) ?_ ?_ _ _ _ ⟨[], row, _, rfl, rfl, rfl, rfl⟩
  · rintro x xs ρ μ' ⟨l1, l2, a, hr, hx, rfl, rfl⟩
    cases l2 with
    | nil => cases hx
    | cons p l2 =>
      simp only [List.map_cons, List.cons.injEq] at hx
      obtain ⟨rfl, rfl⟩ := hx
      refine ⟨_, rfl, fun N hN => ?_⟩
      have h1 := h p (by rw [hr]; simp)
      simp only [lqr_134]
      walk_at "ev"
      refine ⟨mulOk_r (by omega) (by omega), ?_⟩
      walk_at "ev"
      refine lfr_common_ok hT.lf ?_
      walk_at "ev"
      have g0 : 0 < Int.gcd (Lc l1) p := Int.gcd_pos_of_ne_zero_right _ (by omega)
      have gl : Int.gcd (Lc l1) p ≤ p.natAbs := Nat.le_of_dvd (by omega) (Int.gcd_dvd_natAbs_right _ _)
      refine ⟨by omega, noPy (Nat.lt_of_le_of_lt (show ((Int.gcd (Lc l1) p : Nat) : Int).natAbs ≤ 2 ^ 20 by omega) (Nat.pow_lt_pow_right (by decide) (by decide))), ?_⟩
      refine hN _ _ ⟨l1 ++ [p], l2, some (.int p), by simp [hr], rfl, ?_, rfl⟩
      have : ((Lc (l1 ++ [p]) : Nat) : Int) = ((Lc l1 : Int) * p).fdiv (Int.gcd (Lc l1) p) := by
        simp only [Lc, List.foldl_append, List.foldl_cons, List.foldl_nil]
        rw [Int.fdiv_eq_ediv_of_nonneg _ (by omega)]
        unfold Nat.lcm Int.gcd
        rw [Int.natCast_ediv, Int.natCast_mul, Int.toNat_of_nonneg (by omega)]
        congr 2
        simp only [Int.natAbs_natCast]
        congr 1
        omega
      rw [this]
  · rintro ρ μ' ⟨l1, l2, a, hr, hx, rfl, rfl⟩
    obtain rfl : l2 = [] := by simpa using hx.symm
    simp only [lqr_135]
    walk_at "ev"
    rw [List.append_nil] at hr
    rw [← hr]; exact hk
/-- values that are compared as what they stand for -/
structure EqB {α : Type} [DecidableEq α] (f : α → PV) (n : Nat) : Prop where
  ex : ∃ g : α → PyData, (∀ a, toPD (f a) = some (g a)) ∧ (∀ a, (g a).canLay0 = true) ∧ (∀ a, (g a).depth ≤ n) ∧ ∀ a b, PyData.eqv (g a) (g b) = decide (a = b)
theorem EqB.eq {α : Type} [DecidableEq α] {f : α → PV} {n : Nat} (h : EqB f n) (hn : n ≤ 64) {a b : α} {K : Bool → Prop} : eqK (f a) (f b) K = K (decide (a = b)) := by
  obtain ⟨g, h1, h2, h3, h4⟩ := h.ex
  have d1 : (g a).depth ≤ 64 := Nat.le_trans (h3 a) hn
  have d2 : (g b).depth ≤ 64 := Nat.le_trans (h3 b) hn
  simp [eqK, h1, SeqAt.shaped, h2, h4, d1, d2]
theorem EqB.int : EqB PV.int 1 := ⟨PyData.int, fun _ => rfl, fun _ => rfl, fun _ => by simp [PyData.depth], fun a b => by simp [PyData.eqv, BEq.beq]⟩
theorem EqB.tup {α : Type} [DecidableEq α] {f : α → PV} {n : Nat} (h : EqB f n) : EqB (fun xs : List α => PV.tup (xs.map f)) (n + 1) := by
  obtain ⟨g, h1, h2, h3, h4⟩ := h.ex
  have e1 : ∀ xs : List α, toPDs (xs.map f) = some (xs.map g) := by
    intro xs
    induction xs with
    | nil => rfl
    | cons x xs ih => simp [toPDs, h1, ih]
  have e2 : ∀ xs : List α, PyData.canLayAll0 (xs.map g) = true := by
    intro xs
    induction xs with
    | nil => rfl
    | cons x xs ih => simp [PyData.canLayAll0, h2, ih]
  have e3 : ∀ xs : List α, PyData.depthAll (xs.map g) ≤ n := by
    intro xs
    induction xs with
    | nil => simp [PyData.depthAll]
    | cons x xs ih =>
      have := h3 x
      simp [PyData.depthAll]; omega
  have e4 : ∀ xs ys : List α, PyData.eqvAll (xs.map g) (ys.map g) = decide (xs = ys) := by
    intro xs
    induction xs with
    | nil => intro ys; cases ys <;> rfl
    | cons x xs ih =>
      intro ys
      cases ys with
      | nil => rfl
      | cons y ys =>
        simp only [List.map_cons, PyData.eqvAll, h4, ih, List.cons.injEq]
        by_cases h : x = y <;> simp [h]
  exact ⟨fun xs => PyData.tuple (xs.map g), fun xs => by simp [toPD, e1], fun xs => by simp [PyData.canLay0, e2], fun xs => by have := e3 xs; simp [PyData.depth]; omega, fun xs ys => by simp [PyData.eqv, e4]⟩
theorem EqB.pair : EqB (fun p : Int × Int => PV.tup [.int p.1, .int p.2]) 2 := by
  obtain ⟨g, h1, h2, h3, h4⟩ := (EqB.tup EqB.int).ex
  refine ⟨fun p => g [p.1, p.2], fun p => h1 [p.1, p.2], fun p => h2 _, fun p => h3 _, fun p q => ?_⟩
  rw [h4]
  apply decide_eq_decide.mpr
  constructor
  · intro h; simp at h; exact Prod.ext h.1 h.2
  · rintro rfl; rfl
theorem EqB.rat : EqB toP 2 := by
  obtain ⟨g, h1, h2, h3, h4⟩ := EqB.pair.ex
  refine ⟨fun q => g (q.num, q.den), fun q => h1 (q.num, q.den), fun p => h2 _, fun p => h3 _, fun p q => ?_⟩
  rw [h4]
  apply decide_eq_decide.mpr
  constructor
  · intro h
    simp only [Prod.mk.injEq] at h
    exact Rat.ext h.1 (by omega)
  · rintro rfl; rfl
theorem EqB.pols : EqB (fun c : List Rat => PV.tup (pols c)) 3 := EqB.tup EqB.rat
end Mi
end

section
-- MiniAA
set_option Elab.async false
set_option linter.all false
set_option maxRecDepth 100000
set_option maxHeartbeats 4000000
/-! Mini, part AA: kinds of errors, refused lambdas, things in a drawn order, texts of rows -/
namespace Mi
open PySem PySem.Spec PyProof.Rows L2
def re_kind_2 : Ss := (.cons (.ret (.ite (.cmp .eq (.bi .len (.cons (.pk 2) .nil)) (.cint 1)) (.ix (.pk 2) (.cint 0)) (.cstr "other"))) .nil)
def re_kind_1 : Ss := (.cons (.asg 2 (.comp [("word", 3), ("hit", 4)] (.tp [3, 4]) (.ex (.pk 1)) (.yes (.pk 4)) (.var 3))) re_kind_2)
def re_kinds : List (String × String) := [("base", "BadBase"), ("point", "BadPoint"), ("most", "TooMany"), ("columns", "BadColumns"), ("costs", "BadCosts"), ("many", "BadMany"), ("corners", "BadCorners"), ("table", "BadTable"), ("end", "NoEnd"), ("right", "BadRight"), ("within", "NotWithin"), ("row", "BadRow"), ("amount", "BadAmount"), ("coprime", "NotCoprime"), ("quasi", "BadQuasi")]
def kindEs : List (String × String) → Es
  | [] => .nil
  | p :: r => .cons (.tup (.cons (.cstr p.1) (.cons (.isin (.pk 0) (.cl p.2)) .nil))) (kindEs r)
def re_kind_0 : Ss := .cons (.asg 1 (.lst (kindEs re_kinds))) re_kind_1
def B_law_re_kind : Fun := ⟨["caught"], 5, re_kind_0⟩
structure HasKind (T : Tab) : Prop where
  pr : ∀ f, T.prim f = none
  re_kind : T.fn.lookup ("_law_re_kind" : Str) = some B_law_re_kind
  cl : T.clss = []
local macro_rules | `(tactic| walk_at "ev") => `(tactic| try simp only [pk_toP, vr_toP, fz_toP, ev_var, ev_pk, ev_cint, ev_cbl, ev_cstr, ev_cnon, ev_cst, ev_tup, ev_lst, ev_dct0, ev_bin, ev_neg, ev_not, ev_and, ev_or, ev_cmp, ev_chain, ev_isn, ev_nisn, ev_isb, ev_ite, ev_call, ev_callk, ev_mk, ev_mkk, ev_bi, ev_isin, ev_attr, ev_ix, ev_sl, ev_slS, ev_rev, ev_comp, ev_refd, ev_rep, ev_callv, ev_sleft, ev_sturn, ev_sgreat,
  els_nil, els_cons, er_nil, er_cons, eo_no, eo_yes, ec_no, ec_yes, sr_ex, sr_cells, sr_rng1, sr_rng2, sr_zip, sr_enum, ea_one, ea_cons, eor_one, eor_cons,
  ss_nil, ss_cons, st_asg, st_asgT, st_par, st_setIx, st_app, st_appPop, st_ex, st_ret, st_retv, st_retN, st_ifs, st_fors, st_whs, st_rai, st_rai1, st_pass, st_brk, st_cnt, st_frz, st_aug, st_setL, st_setT, st_mkst, nlsV_v, intsOf_ints,
  nlsK_v, augK_v, optK_some, optK_none, intK_v, tupK_v, blK_v, trK_bl, trK_int, bin_add, bin_sub, bin_mul, bin_fdiv, bin_mod, bin_pow, bin_addS, bin_addT, bin_addL, bin_mulL, bin_mulT, cmp_lt, cmp_le, cmp_gt, cmp_ge, cmp_eq, cmp_ne,
  bi_lenT, bi_lenL, bi_lenC, bi_lenS, bi_abs, bi_int, bi_max2, bi_min2, bi_sumT, bi_tupL, bi_tupT, bi_lstL, bi_lstT, ix_tup, ix_lst, sl_tup, sl_lst, slS_lst, rev_tup, rev_lst, walk_tup, walk_lst, walk_scr, rng1_v, rng2_v, zip_lst, zip_tup, enum_lst, enum_tup, bi_reprI, eqK_int,
  setAll, freeze, wipeE, bindTg, pk_non, pk_bl, pk_int, pk_str, pk_tup, pk_lst, pk_dct, pk_ins, pk_exc, pk_fn, pk_obj, pk_scr, pk_nls, vr_non, vr_bl, vr_int, vr_str, vr_tup, vr_lst, vr_dct, vr_ins, vr_exc, vr_fn, vr_obj, vr_scr, fz_int, fz_bl, fz_str, fz_obj, fz_tup, fz_lst, fz_nls, fz_non, fz_dct, fz_ins, fz_exc, fz_scr, fz_fn,
  List.map_cons, List.map_nil, List.filterMap_cons, List.filterMap_nil, eqK_str, List.length_cons, List.length_nil, List.replicate_succ, List.replicate_zero, List.cons_append, List.nil_append, List.getElem?_cons_zero, List.getElem?_cons_succ, List.set_cons_zero, List.set_cons_succ, Nat.sub_self, Nat.reduceSub, Nat.reduceAdd, Nat.zero_add, stAt_W, set_W, decide_true, decide_false, if_true, if_false, Bool.false_eq_true, true_and, and_true, List.foldl_cons, List.foldl_nil, List.zip_cons_cons, List.zip_nil_left, List.zip_nil_right, isi_non_bool, isi_non_int, isi_non_str, isi_non_tuple, isi_non_list, isi_non_dict, isi_non_ValueError, isi_bl_bool, isi_bl_int, isi_bl_str, isi_bl_tuple, isi_bl_list, isi_bl_dict, isi_bl_ValueError, isi_int_bool, isi_int_int, isi_int_str, isi_int_tuple, isi_int_list, isi_int_dict, isi_int_ValueError, isi_str_bool, isi_str_int, isi_str_str, isi_str_tuple, isi_str_list, isi_str_dict, isi_str_ValueError, isi_tup_bool, isi_tup_int, isi_tup_str, isi_tup_tuple, isi_tup_list, isi_tup_dict, isi_tup_ValueError, isi_lst_bool, isi_lst_int, isi_lst_str, isi_lst_tuple, isi_lst_list, isi_lst_dict, isi_lst_ValueError, isi_dct_bool, isi_dct_int, isi_dct_str, isi_dct_tuple, isi_dct_list, isi_dct_dict, isi_dct_ValueError, Bool.not_true, Bool.not_false, atI_0, atI_1, atI_2, le_sizeT, lt_sizeT, Nat.reduceLeDiff])
theorem isi_exc {T : Tab} {d : Nat} {c e : Str} {fs : List Str} {vs : List PV} (h : T.clss = []) : isinF (gam T d) (.exc c fs vs) (.cl e) = T.subs.lookup (c, e) := by
  unfold isinF
  have : tyOf (.exc c fs vs) = none := rfl
  rw [this]
  simp only [gam_clss, gam_sub, h]
  simp
theorem kindEs_ok {T : Tab} {d : Nat} {c : Str} {fs : List Str} {vs : List PV} (h : T.clss = []) {ρ : Env} (h0 : ρ[0]? = some (some (.exc c fs vs))) {μ : Mu} {X : KE} : ∀ (l : List (String × String)) (K : List PV → Mu → Prop), (∀ p ∈ l, T.subs.lookup (c, (p.2 : Str)) = some (decide (c = (p.2 : Str)))) →
    K (l.map fun p => .tup [.str p.1, .bl (decide (c = (p.2 : Str)))]) μ → evEs (gam T d) (kindEs l) ρ μ K X
  | [], K, _, hk => by simp only [kindEs]; walk_at "ev"; exact hk
  | p :: r, K, hs, hk => by
    simp only [kindEs]
    walk_at "ev"
    rw [h0]
    simp only [pk_exc, fz_exc, isi_exc h, hs p (by simp), optK_some]
    walk_at "ev"
    refine kindEs_ok h h0 r _ (fun q hq => hs q (List.mem_cons_of_mem _ hq)) ?_
    exact hk
/-- a comprehension that keeps some -/
theorem compE_filter {Γ : Gam} {tg : Tg} {c : Eo} {e : Mi.E} {ρ : Env} {K : List PV → Mu → Prop} {μ : Mu} {α : Type} (p : α → Bool) (f : α → PV) (g : α → PV) (l : List α) (hl : l.length ≤ sizeLine)
    (step : ∀ x ∈ l, ∃ ρ1, bindTg tg (f x) ρ = some ρ1 ∧ ∀ N : Bool → Mu → Prop, N (p x) μ → evC Γ c ρ1 μ N ∧ (p x = true → ∀ N : PV → Mu → Prop, (∀ v, v.fz = g x → N v μ) → evE Γ e ρ1 μ N noX)) (done : K ((l.filter p).map g) μ) : compE Γ tg c e ρ (l.map f) [] μ K := by
  have key : ∀ (l2 l1 : List α), l = l1 ++ l2 → compE Γ tg c e ρ (l2.map f) ((l1.filter p).map g) μ K := by
    intro l2
    induction l2 with
    | nil =>
      intro l1 h
      rw [List.append_nil] at h
      subst h
      exact done
    | cons x l2 ih =>
      intro l1 h
      obtain ⟨ρ1, h1, h2⟩ := step x (by rw [h]; simp)
      have hh := ih (l1 ++ [x]) (by rw [h]; simp)
      unfold compE
      simp only [List.map_cons, compL, h1]
      refine (h2 _ ?_).1
      cases hx : p x with
      | true =>
        rw [if_pos rfl]
        refine (h2 (fun _ _ => True) trivial).2 hx _ fun v hv => ⟨?_, ?_⟩
        · have := congrArg List.length h
          simp at this
          have := List.length_filter_le p l1
          rw [List.length_map]
          omega
        · rw [hv]
          simpa [List.filter_append, hx, compE] using hh
      | false =>
        rw [if_neg (by simp)]
        simpa [List.filter_append, hx, compE] using hh
  exact key l [] rfl
/-- the word of a class -/
def kindW (c : Str) : List (String × String) := re_kinds.filter fun p => decide (c = (p.2 : Str))
theorem re_kind_ok {T : Tab} (hT : HasKind T) {μ : Mu} {c : Str} {w : String} {e : String} {fs : List Str} {vs : List PV} {d : Nat} {k kx : KE} (hs : ∀ p ∈ re_kinds, T.subs.lookup (c, (p.2 : Str)) = some (decide (c = (p.2 : Str)))) (hw : kindW c = [(w, e)]) (hk : k (.str w) μ) : (gam T (d + 1)).call "_law_re_kind" [.exc c fs vs] μ k kx := by
  refine call_fn hT.pr hT.re_kind d ⟨rfl, ?_⟩
  simp only [B_law_re_kind, re_kind_0]
  walk_at "ev"
  refine kindEs_ok hT.cl rfl _ _ hs ⟨le_size (by rw [List.length_map]; decide), ?_⟩
  walk_at "ev"
  simp only [re_kind_1]
  walk_at "ev"
  refine compE_filter (fun p => decide (c = (p.2 : Str))) (fun p : String × String => PV.tup [.str p.1, .bl (decide (c = (p.2 : Str)))]) (fun p : String × String => PV.str p.1) re_kinds (le_size (by decide)) (fun p hp => ⟨_, rfl, fun N hN => ⟨?_, fun hx N2 hN2 => ?_⟩⟩) ?_
  · walk_at "ev"
    exact hN
  · walk_at "ev"
    exact hN2 _ rfl
  · have e : re_kinds.filter (fun p => decide (c = (p.2 : Str))) = [(w, e)] := hw
    rw [e]
    simp only [re_kind_2]
    walk_at "ev"
    exact hk
/-- a class of error as the law's table tells it -/
structure ErrOk (T : Tab) (c : Str) (w cn : String) : Prop where
  st : T.subs.lookup (c, ("StepError" : Str)) = some true
  sb : ∀ p ∈ re_kinds, T.subs.lookup (c, (p.2 : Str)) = some (decide (c = (p.2 : Str)))
  kw : kindW c = [(w, cn)]
/-- a lambda that is refused -/
theorem refd_ok {T : Tab} (hT : HasKind T) {μ : Mu} {w : String} {e : Mi.E} {ρ : Env} {d : Nat} {k kx : KE}
    (h : ∀ N X : KE, (∀ (c : Str) (cn : String) (fs : List Str) (vs : List PV) (μ1 : Mu), ErrOk T c w cn → k (.bl true) μ1 → X (.exc c fs vs) μ1) → evE (gam T d) e ρ μ N X) : (gam T (d + 3)).refd w e ρ μ k kx := by
  show refS T (gam T (d + 2)) (gam T d) w e ρ μ k kx
  unfold refS
  refine h _ _ fun c cn fs vs μ1 ho hk => ⟨c, fs, vs, rfl, ho.st, ?_⟩
  refine re_kind_ok (d := d + 1) hT ho.sb ho.kw ?_
  walk_at "ev"
  exact hk
/-- a lambda whose error is kept -/
theorem caught_ok {T : Tab} {μ : Mu} {e : Mi.E} {ρ : Env} {d : Nat} {K : KE} {X : KE}
    (h : ∀ N X : KE, (∀ (c : Str) (fs : List Str) (vs : List PV) (μ1 : Mu), T.subs.lookup (c, ("StepError" : Str)) = some true → K (.exc c fs vs) μ1 → X (.exc c fs vs) μ1) → evE (gam T d) e ρ μ N X) : evE (gam T (d + 2)) (.caught e) ρ μ K X := by
  rw [ev_caught, gam_lam]
  refine h _ _ fun c fs vs μ1 hs hk => ⟨c, fs, vs, rfl, ?_, hk⟩
  rw [gam_sub]; exact hs
theorem caught_fine {T : Tab} {μ : Mu} {e : Mi.E} {ρ : Env} {d : Nat} {K : KE} {X : KE}
    (h : ∀ N X : KE, (∀ v μ1, K .non μ1 → N v μ1) → evE (gam T d) e ρ μ N X) : evE (gam T (d + 2)) (.caught e) ρ μ K X := by
  rw [ev_caught, gam_lam]
  exact h _ _ fun v μ1 hk => hk
/-! ### things in a drawn order -/
theorem erase_perm {α : Type} : ∀ (l : List α) (i : Nat) (h : i < l.length), (l[i] :: l.eraseIdx i).Perm l
  | x :: l, 0, _ => .refl _
  | x :: l, i + 1, h => by
    simp only [List.getElem_cons_succ, List.eraseIdx_cons_succ]
    exact (List.Perm.swap _ _ _).trans (.cons _ (erase_perm l i (by simpa using h)))
theorem mixed_ok {T : Tab} (hT : HasDraw T) (hm : T.fn.lookup ("_law_mixed" : Str) = some B_law_mixed) {W0 μ : Mu} {xs : List PV} {n d : Nat} {k kx : KE} (hs : StW W0 n μ) (hn : n + xs.length < 2 ^ 40) (hl : xs.length ≤ 100000) (hq : ∀ l : List PV, (∀ x ∈ l, x ∈ xs) → ∀ K : Bool → Prop, K l.isEmpty → eqK (.lst l) (.lst []) K)
    (hk : ∀ ys μ', ys.Perm xs → StW W0 (n + xs.length) μ' → k (.nls ys) μ') : (gam T (d + 3)).call "_law_mixed" [.obj W0.length, .lst xs] μ k kx := by
  refine call_fn hT.pr hm (d + 2) ⟨rfl, ?_⟩
  simp only [B_law_mixed, mixed_0]
  walk_at "ev"
  simp only [mixed_1]
  walk_at "ev"
  refine whE_ind (fun ρ μ' => ∃ (l f : List PV), ρ = [some (.obj W0.length), some (.lst xs), some (.nls l), some (.nls f)] ∧ (l ++ f).Perm xs ∧ StW W0 (n + f.length) μ') (fun ρ _ => match ρ with | [_, _, some (.nls l), _] => l.length | _ => 0) ?_ ⟨xs, [], rfl, by simp, hs⟩
  rintro ρ μ' ⟨l, f, rfl, hp, hs'⟩ N hN
  have hlen := hp.length_eq
  rw [List.length_append] at hlen
  walk_at "ev"
  cases l with
  | nil =>
    refine hq _ (by simp) _ ?_
    simp only [List.isEmpty_nil]
    walk_at "ev"
    simp only [mixed_3]
    walk_at "ev"
    exact hk _ _ (by simpa using hp) (hs'.mono (by simp at hlen; omega))
  | cons x l =>
    refine hq _ (fun y hy => hp.mem_iff.mp (List.mem_append_left _ hy)) _ ?_
    simp only [List.isEmpty_cons]
    simp only [List.length_cons] at hlen
    walk_at "ev"
    simp only [mixed_2]
    walk_at "ev"
    refine draw_ok hT hs' (by omega) (by omega) (Nat.lt_of_le_of_lt (show ((l.length + 1 : Nat) : Int).natAbs ≤ 2 ^ 20 by omega) (Nat.pow_lt_pow_right (by decide) (by decide))) fun i μ1 h0 h1 hs1 => ?_
    walk_at "ev"
    refine ⟨by decide, lt_size (by omega), ⟨h0, by omega⟩, ?_⟩
    have hi : i.toNat < (x :: l).length := by simp only [List.length_cons]; omega
    rw [List.getElem?_eq_getElem hi]
    walk_at "ev"
    refine hN _ _ ⟨_, _, rfl, ?_, hs1.mono (by simp; omega)⟩ ?_
    · refine List.Perm.trans ?_ hp
      refine List.Perm.trans ?_ (List.Perm.append_right f (erase_perm _ _ hi))
      rw [← List.append_assoc]
      refine (List.perm_append_singleton _ _).trans ?_
      rw [List.cons_append]
    · simp only [List.length_eraseIdx_of_lt hi, List.length_cons]; omega
theorem nil_ints {ns : List Int} : ∀ l : List PV, (∀ x ∈ l, x ∈ ns.map PV.int) → ∀ K : Bool → Prop, K l.isEmpty → eqK (.lst l) (.lst []) K := fun l hl K hk => by
  obtain ⟨ms, rfl⟩ : ∃ ms : List Int, l = ms.map PV.int := by
    clear hk
    induction l with
    | nil => exact ⟨[], rfl⟩
    | cons x l ih =>
      obtain ⟨ms, rfl⟩ := ih fun y hy => hl y (List.mem_cons_of_mem _ hy)
      obtain ⟨m, _, rfl⟩ := List.mem_map.mp (hl x (by simp))
      exact ⟨m :: ms, rfl⟩
  rw [eqK_nil]
  cases ms with
  | nil => exact hk
  | cons m ms => exact hk
theorem perm_ints {ns : List Int} {ys : List PV} (h : ys.Perm (ns.map PV.int)) : ∃ ms : List Int, ys = ms.map PV.int ∧ ms.Perm ns := by
  have e : ∀ v ∈ ys, ∃ i, v = PV.int i := fun v hv => by
    obtain ⟨i, _, rfl⟩ := List.mem_map.mp (h.mem_iff.mp hv)
    exact ⟨i, rfl⟩
  let un : PV → Int := fun v => match v with
    | .int i => i
    | _ => 0
  have e2 : (ys.map un).map PV.int = ys := by
    rw [List.map_map]
    conv => rhs; rw [← List.map_id ys]
    apply List.map_congr_left
    intro v hv
    obtain ⟨i, rfl⟩ := e v hv
    rfl
  refine ⟨ys.map un, e2.symm, ?_⟩
  have := h.map un
  rw [List.map_map] at this
  have e3 : ns.map (un ∘ PV.int) = ns := by
    conv => rhs; rw [← List.map_id ns]
    rfl
  rw [e3] at this
  exact this
/-! ### texts of plain rows -/
theorem log_lt {i : Int} {k : Nat} (h : i.natAbs < 2 ^ k) (hk : k ≤ 1900) : i.natAbs.log2 < 1920 := by
  rcases Nat.eq_zero_or_pos i.natAbs with z | z
  · rw [z]; decide
  · have := (Nat.log2_lt (by omega)).mpr h
    omega
theorem len_int {i : Int} {k : Nat} (h : i.natAbs < 10 ^ k) (hk : 0 < k) : (Str.ofString (toString i)).length ≤ k + 1 := by
  have key : ∀ {n : Nat}, n < 10 ^ k → (Nat.repr n).length ≤ k := fun {n} hn => by
    rw [← String.length_toList, Nat.toList_repr]
    exact (Nat.length_toDigits_le_iff (by decide) hk).mpr hn
  rw [PySem.ofString_length]
  cases i with
  | ofNat n =>
    show (Nat.repr n).length ≤ k + 1
    exact Nat.le_succ_of_le (key h)
  | negSucc n =>
    show ("-" ++ Nat.repr (n + 1)).length ≤ k + 1
    rw [String.length_append]
    have := key (n := n + 1) h
    have e : ("-" : String).length = 1 := rfl
    omega
/-- values that can be shown, of a bounded text -/
structure ShwB {α : Type} (f : α → PV) (P : α → Prop) (n s : Nat) : Prop where
  ex : ∀ a, P a → ∃ d, toPD (f a) = some d ∧ d.showable = true ∧ d.depth ≤ n ∧ d.shown.length ≤ s ∧ PyData.strOk d.shown = true
def shw (v : PV) : Str := match toPD v with
  | some d => d.shown
  | none => Str.ofString ""
theorem ShwB.rep {α : Type} {f : α → PV} {P : α → Prop} {n s : Nat} (h : ShwB f P n s) (hn : n ≤ 60) (hs : s ≤ 1000000) {a : α} (ha : P a) {K : PV → Prop} (hk : K (.str (shw (f a)))) : repK (f a) K := by
  obtain ⟨d, h1, h2, h3, h4, h5⟩ := h.ex a ha
  unfold shw at hk
  rw [h1] at hk
  unfold repK
  rw [h1]
  exact ⟨h2, by omega, le_size (by omega), hk⟩
theorem eqK_shw {x : Str} (h : PyData.strOk x = true) {K : Bool → Prop} (hk : K true) : eqK (.str x) (.str x) K := by
  simp only [eqK, toPD]
  refine ⟨by simp [SeqAt.shaped, PyData.canLay0, PyData.depth, h], by simp [SeqAt.shaped, PyData.canLay0, PyData.depth, h], ?_⟩
  have : PyData.eqv (.str x) (.str x) = true := by simp [PyData.eqv]
  rw [this]; exact hk
theorem ShwB.same {α : Type} {f : α → PV} {P : α → Prop} {n s : Nat} (h : ShwB f P n s) {a : α} (ha : P a) {K : Bool → Prop} (hk : K true) : eqK (.str (shw (f a))) (.str (shw (f a))) K := by
  obtain ⟨d, h1, h2, h3, h4, h5⟩ := h.ex a ha
  unfold shw
  rw [h1]
  exact eqK_shw h5 hk
theorem ShwB.int {k : Nat} (h0 : 0 < k) (h : k ≤ 570) : ShwB PV.int (fun i => i.natAbs < 10 ^ k) 0 (k + 1) := ⟨fun i hi => ⟨.int i, rfl, by
  simp only [PyData.showable, decide_eq_true_eq]
  refine log_lt (k := 1900) (Nat.lt_of_lt_of_le hi ?_) (Nat.le_refl _)
  calc 10 ^ k ≤ 10 ^ 570 := Nat.pow_le_pow_right (by decide) h
    _ ≤ 2 ^ 1900 := by decide +kernel, Nat.le_refl _, len_int hi h0, strOk_of _⟩⟩
theorem strOk_app {x y : Str} (hx : PyData.strOk x = true) (hy : PyData.strOk y = true) : PyData.strOk (x ++ y) = true := by
  unfold PyData.strOk at *
  show (x.cps ++ y.cps).all _ = true
  rw [Array.all_append, hx, hy]; rfl
theorem strOk_join {s : Str} (hs : PyData.strOk s = true) : ∀ ts : List Str, (∀ t ∈ ts, PyData.strOk t = true) → PyData.strOk (Str.join s ts) = true
  | [], _ => by show PyData.strOk Str.empty = true; decide +kernel
  | [x], h => h x (by simp)
  | x :: y :: r, h => by
    show PyData.strOk (x ++ s ++ Str.join s (y :: r)) = true
    exact strOk_app (strOk_app (h x (by simp)) hs) (strOk_join hs (y :: r) fun t ht => h t (List.mem_cons_of_mem _ ht))
theorem ShwB.tup {α : Type} {f : α → PV} {P : α → Prop} {n s : Nat} (h : ShwB f P n s) (m : Nat) : ShwB (fun xs : List α => PV.tup (xs.map f)) (fun xs => xs.length ≤ m ∧ ∀ x ∈ xs, P x) (n + 1) (m * (s + 2) + 3) := by
  have key : ∀ xs : List α, (∀ x ∈ xs, P x) → ∃ ds, toPDs (xs.map f) = some ds ∧ PyData.showableAll ds = true ∧ PyData.depthAll ds ≤ n ∧ (PyData.shownAll ds).length = xs.length ∧ (∀ t ∈ PyData.shownAll ds, t.length ≤ s ∧ PyData.strOk t = true) := by
    intro xs
    induction xs with
    | nil => intro _; exact ⟨[], rfl, rfl, by simp [PyData.depthAll], rfl, by simp [PyData.shownAll]⟩
    | cons x xs ih =>
      intro hp
      obtain ⟨ds, h1, h2, h3, h4, h5⟩ := ih fun y hy => hp y (List.mem_cons_of_mem _ hy)
      obtain ⟨d, k1, k2, k3, k4, k5⟩ := h.ex x (hp x (by simp))
      refine ⟨d :: ds, by simp [toPDs, k1, h1], by simp [PyData.showableAll, k2, h2], by simp [PyData.depthAll]; omega, by simp [PyData.shownAll, h4], ?_⟩
      intro t ht
      simp only [PyData.shownAll, List.mem_cons] at ht
      rcases ht with rfl | ht
      · exact ⟨k4, k5⟩
      · exact h5 t ht
  refine ⟨fun xs ⟨hl, hp⟩ => ?_⟩
  obtain ⟨ds, h1, h2, h3, h4, h5⟩ := key xs hp
  refine ⟨.tuple ds, by simp [toPD, h1], by simp [PyData.showable, h2], by simp [PyData.depth]; omega, ?_, ?_⟩
  · simp only [PyData.shown]
    have e : ∀ ts : List Str, (∀ t ∈ ts, t.length ≤ s) → (Str.join ", " ts).length ≤ ts.length * (s + 2) := by
      intro ts
      induction ts with
      | nil => intro _; exact Nat.zero_le _
      | cons t r ih =>
        intro ht
        have t1 := ht t (by simp)
        cases r with
        | nil => show t.length ≤ _; simp; omega
        | cons u r =>
          have := ih fun y hy => ht y (List.mem_cons_of_mem _ hy)
          show (t ++ ", " ++ Str.join ", " (u :: r)).length ≤ _
          have e2 : ((", " : String) : Str).length = 2 := rfl
          rw [PySem.strLen_append, PySem.strLen_append, e2]
          simp only [List.length_cons] at this ⊢
          rw [Nat.add_mul, Nat.one_mul]
          omega
    have e0 := e _ fun t ht => (h5 t ht).1
    rw [h4] at e0
    have e1 : xs.length * (s + 2) ≤ m * (s + 2) := Nat.mul_le_mul_right _ hl
    unfold tupleText
    rw [PySem.strLen_append, PySem.strLen_append]
    have z1 : ((("(" : String) : Str)).length = 1 := rfl
    have z3 : (((if (PyData.shownAll ds).length == 1 then ",)" else ")" : String) : Str)).length ≤ 2 := by split <;> decide
    rw [z1]
    omega
  · simp only [PyData.shown]
    unfold tupleText
    refine strOk_app (strOk_app (strOk_of _) (strOk_join (strOk_of _) _ fun t ht => (h5 t ht).2)) ?_
    split <;> exact strOk_of _
theorem attr_exc1 {T : Tab} {d : Nat} {c f : Str} {v : PV} {K : PV → Prop} (h : f ∈ (T.xflds.lookup c).getD []) (hk : K v) : attrK (gam T d) (.exc c [f] [v]) f K := by
  unfold attrK
  rw [gam_xflds]
  refine ⟨h, ?_⟩
  simp only [List.zip_cons_cons, List.zip_nil_left, List.lookup_cons, beq_self_eq_true]
  exact hk
end Mi
end

section
-- MiniAB
set_option Elab.async false
set_option linter.all false
set_option maxRecDepth 100000
set_option maxHeartbeats 4000000
/-! Mini, part AB: numbers of plans -/
namespace Mi
open PySem PySem.Spec PyProof.Rows L2
def plans_number_2 : Ss := (.cons (.rai "BadAmount") .nil)
def plans_number_4 : Ss := (.cons (.rai1 "TooMany" (.cst "MOST_AMOUNT")) .nil)
def plans_number_5 : Ss := (.cons (.ret (.ite (.cmp .ge (.pk 1) (.cint 0)) (.ix (.call "numbers_to" (.cons (.var 0) (.cons (.var 1) .nil))) (.pk 1)) (.cint 0))) .nil)
def plans_number_3 : Ss := (.cons (.ifs (.cmp .gt (.pk 1) (.cst "MOST_AMOUNT"))
 plans_number_4
 .nil) plans_number_5)
def plans_number_1 : Ss := (.cons (.ifs (.or (.cons (.not (.isin (.pk 1) (.bi "int"))) (.cons (.isin (.pk 1) (.bi "bool")) .nil)))
 plans_number_2
 .nil) plans_number_3)
def plans_number_0 : Ss := (.cons (.ex (.call "need_row" (.cons (.var 0) .nil))) plans_number_1)
def B_plans_number : Fun := ⟨["row", "amount"], 2, plans_number_0⟩
structure HasPn (T : Tab) : Prop where
  cn : HasCnt T
  pr : ∀ f, T.prim f = none
  plans_number : T.fn.lookup ("plans_number" : Str) = some B_plans_number
  MOST_AMOUNT : T.cints.lookup ("MOST_AMOUNT" : Str) = some 5000
  fld : T.fld.lookup ("TooMany" : Str) = some "most"
local macro_rules | `(tactic| walk_at "ev") => `(tactic| try simp only [pk_toP, vr_toP, fz_toP, ev_var, ev_pk, ev_cint, ev_cbl, ev_cstr, ev_cnon, ev_cst, ev_tup, ev_lst, ev_dct0, ev_bin, ev_neg, ev_not, ev_and, ev_or, ev_cmp, ev_chain, ev_isn, ev_nisn, ev_isb, ev_ite, ev_call, ev_callk, ev_mk, ev_mkk, ev_bi, ev_isin, ev_attr, ev_ix, ev_sl, ev_slS, ev_rev, ev_comp, ev_caught, ev_refd, ev_rep, ev_callv, ev_sleft, ev_sturn, ev_sgreat,
  els_nil, els_cons, er_nil, er_cons, eo_no, eo_yes, ec_no, ec_yes, sr_ex, sr_cells, sr_rng1, sr_rng2, sr_zip, sr_enum, ea_one, ea_cons, eor_one, eor_cons,
  ss_nil, ss_cons, st_asg, st_asgT, st_par, st_setIx, st_app, st_appPop, st_ex, st_ret, st_retv, st_retN, st_ifs, st_fors, st_whs, st_rai, st_rai1, st_pass, st_brk, st_cnt, st_frz, st_aug, st_setL, st_setT, st_mkst, nlsV_v, intsOf_ints,
  nlsK_v, augK_v, optK_some, optK_none, intK_v, tupK_v, blK_v, trK_bl, trK_int, bin_add, bin_sub, bin_mul, bin_fdiv, bin_mod, bin_pow, bin_addS, bin_addT, bin_addL, bin_mulL, bin_mulT, cmp_lt, cmp_le, cmp_gt, cmp_ge, cmp_eq, cmp_ne,
  bi_lenT, bi_lenL, bi_lenC, bi_lenS, bi_abs, bi_int, bi_max2, bi_min2, bi_sumT, bi_tupL, bi_tupT, bi_lstL, bi_lstT, ix_tup, ix_lst, sl_tup, sl_lst, slS_lst, rev_tup, rev_lst, walk_tup, walk_lst, walk_scr, rng1_v, rng2_v, zip_lst, zip_tup, enum_lst, enum_tup, bi_reprI, eqK_int,
  setAll, freeze, wipeE, bindTg, pk_non, pk_bl, pk_int, pk_str, pk_tup, pk_lst, pk_dct, pk_ins, pk_exc, pk_fn, pk_obj, pk_scr, pk_nls, vr_non, vr_bl, vr_int, vr_str, vr_tup, vr_lst, vr_dct, vr_ins, vr_exc, vr_fn, vr_obj, vr_scr, fz_int, fz_bl, fz_str, fz_obj, fz_tup, fz_lst, fz_nls, fz_non, fz_dct, fz_ins, fz_exc, fz_scr, fz_fn,
  List.map_cons, List.map_nil, List.filterMap_cons, List.filterMap_nil, eqK_str, List.length_cons, List.length_nil, List.replicate_succ, List.replicate_zero, List.cons_append, List.nil_append, List.getElem?_cons_zero, List.getElem?_cons_succ, List.set_cons_zero, List.set_cons_succ, Nat.sub_self, Nat.reduceSub, Nat.reduceAdd, Nat.zero_add, stAt_W, set_W, decide_true, decide_false, if_true, if_false, Bool.false_eq_true, true_and, and_true, List.foldl_cons, List.foldl_nil, List.zip_cons_cons, List.zip_nil_left, List.zip_nil_right, isi_non_bool, isi_non_int, isi_non_str, isi_non_tuple, isi_non_list, isi_non_dict, isi_non_ValueError, isi_bl_bool, isi_bl_int, isi_bl_str, isi_bl_tuple, isi_bl_list, isi_bl_dict, isi_bl_ValueError, isi_int_bool, isi_int_int, isi_int_str, isi_int_tuple, isi_int_list, isi_int_dict, isi_int_ValueError, isi_str_bool, isi_str_int, isi_str_str, isi_str_tuple, isi_str_list, isi_str_dict, isi_str_ValueError, isi_tup_bool, isi_tup_int, isi_tup_str, isi_tup_tuple, isi_tup_list, isi_tup_dict, isi_tup_ValueError, isi_lst_bool, isi_lst_int, isi_lst_str, isi_lst_tuple, isi_lst_list, isi_lst_dict, isi_lst_ValueError, isi_dct_bool, isi_dct_int, isi_dct_str, isi_dct_tuple, isi_dct_list, isi_dct_dict, isi_dct_ValueError, Bool.not_true, Bool.not_false, atI_0, atI_1, atI_2, le_sizeT, lt_sizeT, Nat.reduceLeDiff])
theorem plans_number_ok {T : Tab} (hT : HasPn T) {μ : Mu} {row : List Int} {a : Int} {d : Nat} {k kx : KE} (h : RowOk row) (ha : a ≤ 5000) (hk : k (.int (Qu.N row a)) μ) : (gam T (d + 5)).call "plans_number" [.tup (row.map PV.int), .int a] μ k kx := by
  refine call_fn hT.pr hT.plans_number (d + 4) ⟨rfl, ?_⟩
  simp only [B_plans_number, plans_number_0]
  walk_at "ev"
  refine need_row_ok hT.cn h ?_
  walk_at "ev"
  simp only [plans_number_1]
  walk_at "ev"
  simp only [plans_number_3]
  walk_at "ev"
  simp only [cst_of hT.MOST_AMOUNT]
  walk_at "ev"
  rw [if_neg (by simp; omega)]
  simp only [plans_number_5]
  walk_at "ev"
  split
  · rename_i h0
    have h0 := of_decide_eq_true h0
    refine numbers_to_ok hT.cn (fun p hp => by have := h.part p hp; omega) h0 (by omega) ?_
    walk_at "ev"
    rw [tabI_get h0 (by omega)]
    walk_at "ev"
    exact hk
  · rename_i h0
    have h0 : a < 0 := by simpa using h0
    rw [Qu.N_neg row h0] at hk
    exact hk
theorem plans_number_most {T : Tab} (hT : HasPn T) {μ : Mu} {row : List Int} {a : Int} {d : Nat} {k kx : KE} (h : RowOk row) (ha : 5000 < a) (hk : kx (.exc "TooMany" ["most"] [.int 5000]) μ) : (gam T (d + 5)).call "plans_number" [.tup (row.map PV.int), .int a] μ k kx := by
  refine call_fn hT.pr hT.plans_number (d + 4) ⟨rfl, ?_⟩
  simp only [B_plans_number, plans_number_0]
  walk_at "ev"
  refine need_row_ok hT.cn h ?_
  walk_at "ev"
  simp only [plans_number_1]
  walk_at "ev"
  simp only [plans_number_3]
  walk_at "ev"
  simp only [cst_of hT.MOST_AMOUNT]
  walk_at "ev"
  rw [if_pos (by simp; omega)]
  simp only [plans_number_4]
  walk_at "ev"
  simp only [cst_of hT.MOST_AMOUNT]
  walk_at "ev"
  rw [gam_fld]
  simp only [hT.fld, Option.getD_some]
  exact hk
/-- what is no amount -/
def NoInt (v : PV) : Prop := ∃ T, tyOf v = some T ∧ (subTy T "int" = false ∨ subTy T "bool" = true)
theorem isi_ty {Γ : Gam} {v : PV} {T n : String} (h : tyOf v = some T) (hn : n ∈ askNames) : isinF Γ v (.bi n) = some (subTy T n) := by
  unfold isinF
  rw [h]
  simp only [isinTy, if_pos hn]
theorem own_nin {v : PV} (h : v.own = false) : v.isNin = false := by cases v <;> first | rfl | cases h
theorem fz_any {v : PV} (h : v.own = false) : v.fz = v := by cases v <;> first | rfl | cases h
theorem pk_any {v : PV} (h : v.own = false) {K : PV → Prop} : pkK (some (some v)) K = K v := by simp [pkK, own_nin h]
theorem vr_any {v : PV} (h : v.own = false) {K : PV → Prop} : varK (some (some v)) K = K v := by simp [varK, h]
theorem plans_number_bad {T : Tab} (hT : HasPn T) {μ : Mu} {row : List Int} {v : PV} {d : Nat} {k kx : KE} (h : RowOk row) (hv : NoInt v) (hf : v.own = false) (hk : kx (.exc "BadAmount" [] []) μ) : (gam T (d + 5)).call "plans_number" [.tup (row.map PV.int), v] μ k kx := by
  obtain ⟨t, h1, h2⟩ := hv
  refine call_fn hT.pr hT.plans_number (d + 4) ⟨rfl, ?_⟩
  simp only [B_plans_number, plans_number_0]
  walk_at "ev"
  refine need_row_ok hT.cn h ?_
  walk_at "ev"
  simp only [plans_number_1]
  walk_at "ev"
  simp only [pk_any hf, fz_any hf, isi_ty h1 (show "int" ∈ askNames by decide), isi_ty h1 (show "bool" ∈ askNames by decide)]
  walk_at "ev"
  cases e : subTy t "int" with
  | false =>
    walk_at "ev"
    simp only [plans_number_2]
    walk_at "ev"
    exact hk
  | true =>
    rw [h2.resolve_left (by rw [e]; decide)]
    walk_at "ev"
    simp only [plans_number_2]
    walk_at "ev"
    exact hk
end Mi
end

section
-- MiniAC
set_option Elab.async false
set_option linter.all false
set_option maxRecDepth 100000
set_option maxHeartbeats 4000000
/-! Mini, part AC: judges of any plain value -/
namespace Mi
open PySem PySem.Spec PyProof.Rows L2
local macro_rules | `(tactic| walk_at "ev") => `(tactic| try simp only [pk_toP, vr_toP, fz_toP, ev_var, ev_pk, ev_cint, ev_cbl, ev_cstr, ev_cnon, ev_cst, ev_tup, ev_lst, ev_dct0, ev_bin, ev_neg, ev_not, ev_and, ev_or, ev_cmp, ev_chain, ev_isn, ev_nisn, ev_isb, ev_ite, ev_call, ev_callk, ev_mk, ev_mkk, ev_bi, ev_isin, ev_attr, ev_ix, ev_sl, ev_slS, ev_rev, ev_comp, ev_refd, ev_rep, ev_callv, ev_lamv, ev_fnv, calK_fn, calK_clo, ev_sleft, ev_sturn, ev_sgreat,
  els_nil, els_cons, er_nil, er_cons, eo_no, eo_yes, ec_no, ec_yes, sr_ex, sr_cells, sr_rng1, sr_rng2, sr_zip, sr_enum, ea_one, ea_cons, eor_one, eor_cons,
  ss_nil, ss_cons, st_asg, st_asgT, st_par, st_setIx, st_app, st_appPop, st_ex, st_ret, st_retv, st_retN, st_ifs, st_fors, st_whs, st_rai, st_rai1, st_pass, st_brk, st_cnt, st_frz, st_aug, st_setL, st_setT, st_mkst, nlsV_v, intsOf_ints,
  nlsK_v, augK_v, optK_some, optK_none, intK_v, tupK_v, blK_v, trK_bl, trK_int, bin_add, bin_sub, bin_mul, bin_fdiv, bin_mod, bin_pow, bin_addS, bin_addT, bin_addL, bin_mulL, bin_mulT, cmp_lt, cmp_le, cmp_gt, cmp_ge, cmp_eq, cmp_ne,
  bi_lenT, bi_lenL, bi_lenC, bi_lenS, bi_abs, bi_int, bi_max2, bi_min2, bi_sumT, bi_tupL, bi_tupT, bi_lstL, bi_lstT, ix_tup, ix_lst, sl_tup, sl_lst, slS_lst, rev_tup, rev_lst, walk_tup, walk_lst, walk_scr, rng1_v, rng2_v, zip_lst, zip_tup, enum_lst, enum_tup, bi_reprI, eqK_int,
  setAll, freeze, wipeE, bindTg, pk_non, pk_bl, pk_int, pk_str, pk_tup, pk_lst, pk_dct, pk_ins, pk_exc, pk_fn, pk_clo, pk_obj, pk_scr, pk_nls, vr_non, vr_bl, vr_int, vr_str, vr_tup, vr_lst, vr_dct, vr_ins, vr_exc, vr_fn, vr_clo, vr_obj, vr_scr, fz_int, fz_bl, fz_str, fz_obj, fz_tup, fz_lst, fz_nls, fz_non, fz_dct, fz_ins, fz_exc, fz_scr, fz_fn, fz_clo, fz_clo,
  List.map_cons, List.map_nil, List.filterMap_cons, List.filterMap_nil, eqK_str, List.length_cons, List.length_nil, List.replicate_succ, List.replicate_zero, List.cons_append, List.nil_append, List.getElem?_cons_zero, List.getElem?_cons_succ, List.set_cons_zero, List.set_cons_succ, Nat.sub_self, Nat.reduceSub, Nat.reduceAdd, Nat.zero_add, stAt_W, set_W, decide_true, decide_false, if_true, if_false, Bool.false_eq_true, true_and, and_true, List.foldl_cons, List.foldl_nil, List.zip_cons_cons, List.zip_nil_left, List.zip_nil_right, isi_non_bool, isi_non_int, isi_non_str, isi_non_tuple, isi_non_list, isi_non_dict, isi_non_ValueError, isi_bl_bool, isi_bl_int, isi_bl_str, isi_bl_tuple, isi_bl_list, isi_bl_dict, isi_bl_ValueError, isi_int_bool, isi_int_int, isi_int_str, isi_int_tuple, isi_int_list, isi_int_dict, isi_int_ValueError, isi_str_bool, isi_str_int, isi_str_str, isi_str_tuple, isi_str_list, isi_str_dict, isi_str_ValueError, isi_tup_bool, isi_tup_int, isi_tup_str, isi_tup_tuple, isi_tup_list, isi_tup_dict, isi_tup_ValueError, isi_lst_bool, isi_lst_int, isi_lst_str, isi_lst_tuple, isi_lst_list, isi_lst_dict, isi_lst_ValueError, isi_dct_bool, isi_dct_int, isi_dct_str, isi_dct_tuple, isi_dct_list, isi_dct_dict, isi_dct_ValueError, Bool.not_true, Bool.not_false, atI_0, atI_1, atI_2, le_sizeT, lt_sizeT, Nat.reduceLeDiff])
mutual
/-- plain values, deep -/
def plB : PV → Bool
  | .non => true
  | .bl _ => true
  | .int _ => true
  | .str _ => true
  | .tup vs => plBs vs
  | .lst vs => plBs vs
  | .dct ks vs => ks.isEmpty && vs.isEmpty
  | _ => false
def plBs : List PV → Bool
  | [] => true
  | v :: vs => plB v && plBs vs
end
theorem plBs_mem : ∀ {vs : List PV}, plBs vs = true → ∀ v ∈ vs, plB v = true
  | v :: vs, h, x, hx => by
    simp only [plBs, Bool.and_eq_true] at h
    rcases List.mem_cons.mp hx with rfl | hx
    · exact h.1
    · exact plBs_mem h.2 x hx
theorem plB_own {v : PV} (h : plB v = true) : v.own = false := by cases v <;> first | rfl | (simp [plB] at h)
theorem plB_ty {v : PV} (h : plB v = true) : ∃ t, tyOf v = some t := by cases v <;> first | exact ⟨_, rfl⟩ | (simp [plB] at h)
theorem plBs_ints (l : List Int) : plBs (l.map PV.int) = true := by
  induction l with
  | nil => rfl
  | cons i l ih => simp [plBs, plB, ih]
/-- an int of any size, no bool -/
def isI : PV → Bool
  | .int _ => true
  | _ => false
/-- a number from a to b -/
def isN (a b : Int) : PV → Bool
  | .int i => decide (a ≤ i ∧ i ≤ b)
  | _ => false
theorem is_whole_no {T : Tab} (hT : HasCnt T) {μ : Mu} {v : PV} {d : Nat} {k kx : KE} (hv : plB v = true) (hi : isI v = false) (hk : k (.bl false) μ) : (gam T (d + 1)).call "is_whole" [v] μ k kx := by
  refine call_fn hT.pr hT.is_whole d ⟨rfl, ?_⟩
  simp only [B_is_whole, is_whole_0]
  cases v with
  | int i => cases hi
  | non => walk_at "ev"; exact hk
  | bl b => walk_at "ev"; exact hk
  | str x => walk_at "ev"; exact hk
  | tup vs => walk_at "ev"; exact hk
  | lst vs => walk_at "ev"; exact hk
  | dct ks vs => walk_at "ev"; exact hk
  | _ => simp [plB] at hv
theorem is_number_any {T : Tab} (hT : HasCnt T) {μ : Mu} {v : PV} {a b : Int} {d : Nat} {k kx : KE} (hv : plB v = true) (ha : -(10 ^ 18) < a) (hb : b < 10 ^ 18) (hk : k (.bl (isN a b v)) μ) : (gam T (d + 2)).call "is_number" [v, .int a, .int b] μ k kx := by
  by_cases hi : isI v = true
  · cases v with
    | int i => exact is_number_ok hT ha hb hk
    | _ => cases hi
  have hi : isI v = false := by simpa using hi
  have e : isN a b v = false := by cases v <;> first | rfl | cases hi
  rw [e] at hk
  refine call_fn hT.pr hT.is_number (d + 1) ⟨rfl, ?_⟩
  have ho := plB_own hv
  simp only [B_is_number, is_number_0]
  walk_at "ev"
  simp only [vr_any ho, fz_any ho]
  refine is_whole_no hT hv hi ?_
  walk_at "ev"
  exact hk
theorem is_int_any {T : Tab} (pr : ∀ f, T.prim f = none) (h : T.fn.lookup ("is_int" : Str) = some B_is_int) {μ : Mu} {v : PV} {d : Nat} {k kx : KE} (hv : plB v = true) (hk : k (.bl (isI v)) μ) : (gam T (d + 1)).call "is_int" [v] μ k kx := by
  refine call_fn pr h d ⟨rfl, ?_⟩
  simp only [B_is_int, is_int_0]
  cases v with
  | int i => walk_at "ev"; exact hk
  | non => walk_at "ev"; exact hk
  | bl b => walk_at "ev"; exact hk
  | str x => walk_at "ev"; exact hk
  | tup vs => walk_at "ev"; exact hk
  | lst vs => walk_at "ev"; exact hk
  | dct ks vs => walk_at "ev"; exact hk
  | _ => simp [plB] at hv
/-- each item by itself, and a truth of all -/
theorem compE_mapV {Γ : Gam} {tg : Tg} {e : Mi.E} {ρ : Env} {K : List PV → Mu → Prop} {μ : Mu} (g : PV → PV) (l : List PV) (hl : l.length ≤ sizeLine)
    (step : ∀ x ∈ l, ∃ ρ1, bindTg tg x ρ = some ρ1 ∧ ∀ N : PV → Mu → Prop, (∀ v, v.fz = g x → N v μ) → evE Γ e ρ1 μ N noX) (done : K (l.map g) μ) : compE Γ tg .no e ρ l [] μ K := by
  have := compE_map (K := K) id g l hl step done
  rwa [List.map_id] at this
theorem bi_allV {l : List PV} {p : PV → Bool} {K : PV → Prop} : biK .all [.lst (l.map fun v => PV.bl (p v))] K = K (.bl (l.all p)) := by
  have : (l.map fun v => PV.bl (p v)) = (l.map p).map PV.bl := by simp [Function.comp]
  rw [this, bi_all]
  simp [List.all_map, Function.comp]
/-- fractions -/
def isFr : PV → Bool
  | .tup [.int a, .int b] => decide (1 ≤ b) && decide (Int.gcd a b = 1)
  | _ => false
theorem is_fraction_any {T : Tab} (hT : HasAt T) {μ : Mu} {v : PV} {d : Nat} {k kx : KE} (hv : plB v = true) (hk : k (.bl (isFr v)) μ) : (gam T (d + 2)).call "is_fraction" [v] μ k kx := by
  refine call_fn hT.pr hT.is_fraction (d + 1) ⟨rfl, ?_⟩
  simp only [B_is_fraction, is_fraction_0]
  have no : ∀ {A : EndP} {ρ : Env} {μ : Mu}, A.rt (.bl false) μ → exSs (gam T (d + 1)) is_fraction_1 ρ μ A := fun h => by
    simp only [is_fraction_1]
    walk_at "ev"
    exact h
  cases v with
  | tup vs =>
    walk_at "ev"
    match vs, hv, hk with
    | [], hv, hk => walk_at "ev"; exact no hk
    | [x], hv, hk =>
      have : isFr (.tup [x]) = false := by cases x <;> rfl
      rw [this] at hk
      walk_at "ev"
      exact no hk
    | x :: y :: z :: r, hv, hk =>
      have : isFr (.tup (x :: y :: z :: r)) = false := by cases x <;> cases y <;> rfl
      rw [this] at hk
      walk_at "ev"
      rw [decide_eq_false (by omega)]
      walk_at "ev"
      exact no hk
    | [x, y], hv, hk =>
      have hx : plB x = true := plBs_mem (vs := [x, y]) hv x (by simp)
      have hy : plB y = true := plBs_mem (vs := [x, y]) hv y (by simp)
      have ox := plB_own hx
      have oy := plB_own hy
      walk_at "ev"
      simp only [show decide (((0 + 1 + 1 : Nat) : Int) = 2) = true by decide, Bool.not_true]
      walk_at "ev"
      simp only [fz_any ox]
      refine is_int_any hT.pr hT.is_int hx ?_
      cases ex : isI x with
      | false =>
        walk_at "ev"
        refine no ?_
        have : isFr (.tup [x, y]) = false := by cases x <;> first | rfl | cases ex
        rw [this] at hk; exact hk
      | true =>
        walk_at "ev"
        simp only [fz_any oy]
        refine is_int_any hT.pr hT.is_int hy ?_
        cases ey : isI y with
        | false =>
          walk_at "ev"
          refine no ?_
          have : isFr (.tup [x, y]) = false := by cases x <;> cases y <;> first | rfl | cases ey
          rw [this] at hk; exact hk
        | true =>
          walk_at "ev"
          cases x with
          | int a =>
            cases y with
            | int b =>
              simp only [is_fraction_2]
              walk_at "ev"
              by_cases hb : 1 ≤ b
              · rw [if_pos (by simpa using hb)]
                refine common_ok hT.qu.fr ?_
                walk_at "ev"
                have : isFr (.tup [.int a, .int b]) = decide (((Int.gcd a b : Nat) : Int) = 1) := by
                  simp only [isFr, decide_eq_true hb, Bool.true_and, decide_eq_decide]
                  omega
                rw [← this]; exact hk
              · rw [if_neg (by simpa using hb)]
                have : isFr (.tup [.int a, .int b]) = false := by simp [isFr, hb]
                rw [this] at hk; exact hk
            | _ => cases ey
          | _ => cases ex
  | int i => walk_at "ev"; exact no hk
  | non => walk_at "ev"; exact no hk
  | bl b => walk_at "ev"; exact no hk
  | str x => walk_at "ev"; exact no hk
  | lst vs => walk_at "ev"; exact no hk
  | dct ks vs => walk_at "ev"; exact no hk
  | _ => simp [plB] at hv
/-- one polynomial -/
def isPo : PV → Bool
  | .tup vs => decide (1 ≤ vs.length ∧ vs.length ≤ 5) && vs.all isFr
  | _ => false
def lenT : PV → Nat
  | .tup vs => vs.length
  | _ => 0
/-- polynomials that go round -/
def isQ : PV → Bool
  | .tup vs => decide (1 ≤ vs.length ∧ vs.length ≤ 60) && (vs.all isPo && vs.all fun c => decide (lenT c = lenT (vs.headD .non)))
  | _ => false
theorem is_poly_any {T : Tab} (hT : HasAt T) {μ : Mu} {v : PV} {d : Nat} {o0 o2 : Option PV} {A : EndP} (hv : plB v = true) (h1 : isPo v = true → A.nx [o0, some v, o2] μ) (h0 : isPo v = false → A.rt (.bl false) μ) : exSs (gam T (d + 2)) is_quasi_3 [o0, some v, o2] μ A := by
  have no : ∀ {A : EndP} {ρ : Env} {μ : Mu}, A.rt (.bl false) μ → exSs (gam T (d + 2)) is_quasi_4 ρ μ A := fun h => by
    simp only [is_quasi_4]
    walk_at "ev"
    exact h
  simp only [is_quasi_3]
  cases v with
  | tup vs =>
    walk_at "ev"
    by_cases a1 : 1 ≤ vs.length
    · rw [if_pos (by simp; omega)]
      by_cases a2 : vs.length ≤ 5
      · rw [decide_eq_true (show ((vs.length : Nat) : Int) ≤ 5 by omega)]
        walk_at "ev"
        refine compE_mapV (fun v => PV.bl (isFr v)) vs (le_size (by omega)) (fun x hx => ⟨_, rfl, fun N hN => ?_⟩) ?_
        · have hx := plBs_mem (vs := vs) hv x hx
          walk_at "ev"
          simp only [vr_any (plB_own hx), fz_any (plB_own hx)]
          exact is_fraction_any hT hx (hN _ rfl)
        · walk_at "ev"
          rw [bi_allV]
          have e : isPo (.tup vs) = vs.all isFr := by simp [isPo, a1, a2]
          cases f : vs.all isFr with
          | true => walk_at "ev"; exact h1 (e.trans f)
          | false => walk_at "ev"; exact no (h0 (e.trans f))
      · rw [decide_eq_false (show ¬ ((vs.length : Nat) : Int) ≤ 5 by omega)]
        walk_at "ev"
        exact no (h0 (by simp [isPo, a2]))
    · rw [if_neg (by simp; omega)]
      walk_at "ev"
      exact no (h0 (by simp [isPo, a1]))
  | int i => walk_at "ev"; exact no (h0 rfl)
  | non => walk_at "ev"; exact no (h0 rfl)
  | bl b => walk_at "ev"; exact no (h0 rfl)
  | str x => walk_at "ev"; exact no (h0 rfl)
  | lst vs => walk_at "ev"; exact no (h0 rfl)
  | dct ks vs => walk_at "ev"; exact no (h0 rfl)
  | _ => simp [plB] at hv
theorem is_quasi_any {T : Tab} (hT : HasAt T) {μ : Mu} {v : PV} {d : Nat} {k kx : KE} (hv : plB v = true) (hk : k (.bl (isQ v)) μ) : (gam T (d + 3)).call "is_quasi" [v] μ k kx := by
  refine call_fn hT.pr hT.is_quasi (d + 2) ⟨rfl, ?_⟩
  simp only [B_is_quasi, is_quasi_0]
  have no : ∀ {A : EndP} {ρ : Env} {μ : Mu}, A.rt (.bl false) μ → exSs (gam T (d + 2)) is_quasi_1 ρ μ A := fun h => by
    simp only [is_quasi_1]
    walk_at "ev"
    exact h
  cases v with
  | tup vs =>
    walk_at "ev"
    simp only [cst_of hT.MOST_ROUND]
    walk_at "ev"
    by_cases a1 : 1 ≤ vs.length
    · rw [if_pos (by simp; omega)]
      by_cases a2 : vs.length ≤ 60
      · rw [decide_eq_true (show ((vs.length : Nat) : Int) ≤ 60 by omega)]
        walk_at "ev"
        simp only [is_quasi_2]
        walk_at "ev"
        have mem := plBs_mem (vs := vs) hv
        have e0 : isQ (.tup vs) = (vs.all isPo && vs.all fun c => decide (lenT c = lenT (vs.headD .non))) := by simp [isQ, a1, a2]
        refine forE_ind (fun xs ρ μ' => ∃ (l1 : List PV) (a b : Option PV), vs = l1 ++ xs ∧ l1.all isPo = true ∧ ρ = [some (.tup vs), a, b] ∧ μ' = μ) ?_ ?_ _ _ _ ⟨[], none, none, rfl, rfl, rfl, rfl⟩
        · rintro x xs ρ μ' ⟨l1, a, b, hl, hp, rfl, rfl⟩
          refine ⟨_, rfl, fun N hN => ?_⟩
          refine is_poly_any hT (mem x (by rw [hl]; simp)) (fun h1 => hN _ _ ⟨l1 ++ [x], _, _, by rw [hl]; simp, by simp [hp, h1], rfl, rfl⟩) fun h0 => ?_
          have : vs.all isPo = false := by rw [hl]; simp [h0]
          rw [e0, this, Bool.false_and] at hk
          exact hk
        · rintro ρ μ' ⟨l1, a, b, hl, hp, rfl, rfl⟩
          rw [List.append_nil] at hl
          subst hl
          rw [hp, Bool.true_and] at e0
          simp only [is_quasi_5]
          walk_at "ev"
          have tp : ∀ x ∈ vs, ∃ us, x = .tup us := fun x hx => by
            have := List.all_eq_true.mp hp x hx
            cases x with
            | tup us => exact ⟨us, rfl⟩
            | _ => cases this
          obtain ⟨c0, hc0⟩ : ∃ c0, vs[0]? = some c0 := ⟨_, List.getElem?_eq_getElem a1⟩
          have hd : vs.headD .non = c0 := by
            cases vs with
            | nil => cases hc0
            | cons y ys => simpa using hc0
          obtain ⟨u0, rfl⟩ := tp c0 (List.mem_of_getElem? hc0)
          refine compE_mapV (fun c => PV.bl (decide (lenT c = lenT (vs.headD .non)))) vs (le_size (by omega)) (fun x hx => ⟨_, rfl, fun N hN => ?_⟩) ?_
          · obtain ⟨us, rfl⟩ := tp x hx
            walk_at "ev"
            rw [atI_of (by omega) (by omega), show (0 : Int).toNat = 0 from rfl, hc0]
            walk_at "ev"
            refine hN _ ?_
            rw [hd]
            exact congrArg PV.bl (decide_eq_decide.mpr (show ((us.length : Nat) : Int) = u0.length ↔ us.length = u0.length by omega))
          · walk_at "ev"
            rw [bi_allV, ← e0]
            exact hk
      · rw [decide_eq_false (show ¬ ((vs.length : Nat) : Int) ≤ 60 by omega)]
        walk_at "ev"
        have : isQ (.tup vs) = false := by simp [isQ, a2]
        rw [this] at hk
        exact no hk
    · rw [if_neg (by simp; omega)]
      walk_at "ev"
      have : isQ (.tup vs) = false := by simp [isQ, a1]
      rw [this] at hk
      exact no hk
  | int i => walk_at "ev"; exact no hk
  | non => walk_at "ev"; exact no hk
  | bl b => walk_at "ev"; exact no hk
  | str x => walk_at "ev"; exact no hk
  | lst vs => walk_at "ev"; exact no hk
  | dct ks vs => walk_at "ev"; exact no hk
  | _ => simp [plB] at hv
theorem quasi_at_bad {T : Tab} (hT : HasAt T) (hqa : T.fn.lookup ("quasi_at" : Str) = some B_quasi_at) {μ : Mu} {v w : PV} {d : Nat} {k kx : KE} (hv : plB v = true) (hq : isQ v = false) (hk : kx (.exc "BadQuasi" [] []) μ) : (gam T (d + 4)).call "quasi_at" [v, w] μ k kx := by
  refine call_fn hT.pr hqa (d + 3) ⟨rfl, ?_⟩
  simp only [B_quasi_at, quasi_at_0]
  walk_at "ev"
  simp only [vr_any (plB_own hv), fz_any (plB_own hv)]
  refine is_quasi_any hT hv ?_
  rw [hq]
  walk_at "ev"
  simp only [quasi_at_1]
  walk_at "ev"
  exact hk
theorem quasi_at_amount {T : Tab} (hT : HasAt T) (hqa : T.fn.lookup ("quasi_at" : Str) = some B_quasi_at) {μ : Mu} {m : Nat} {qs : List (List Rat)} {v : PV} {d : Nat} {k kx : KE} (h : QsOk m qs) (hv : NoInt v) (hf : v.own = false) (hk : kx (.exc "BadAmount" [] []) μ) : (gam T (d + 4)).call "quasi_at" [.tup (polsT qs), v] μ k kx := by
  obtain ⟨t, h1, h2⟩ := hv
  refine call_fn hT.pr hqa (d + 3) ⟨rfl, ?_⟩
  simp only [B_quasi_at, quasi_at_0]
  walk_at "ev"
  refine is_quasi_ok hT h ?_
  walk_at "ev"
  simp only [quasi_at_2]
  walk_at "ev"
  simp only [pk_any hf, fz_any hf, isi_ty h1 (show "int" ∈ askNames by decide), isi_ty h1 (show "bool" ∈ askNames by decide)]
  walk_at "ev"
  cases e : subTy t "int" with
  | false =>
    walk_at "ev"
    simp only [quasi_at_3]
    walk_at "ev"
    exact hk
  | true =>
    rw [h2.resolve_left (by rw [e]; decide)]
    walk_at "ev"
    simp only [quasi_at_3]
    walk_at "ev"
    exact hk
end Mi
end

section
-- QuG
namespace Qu
/-! ### the least round of a row -/
section
variable {α : Type} (d : α)
def Pd (xs : List α) (m : Nat) : Prop := xs.length % m = 0 ∧ ∀ i, i < xs.length → xs.getD i d = xs.getD (i % m) d
structure IsLr (xs : List α) (m : Nat) : Prop where
  one : 1 ≤ m
  le : m ≤ xs.length
  pd : Pd d xs m
  least : ∀ k, 1 ≤ k → k < m → ¬ Pd d xs k
theorem IsLr.uniq {xs : List α} {m n : Nat} (h : IsLr d xs m) (k : IsLr d xs n) : m = n := by
  rcases Nat.lt_trichotomy m n with z | z | z
  · exact absurd h.pd (k.least m h.one z)
  · exact z
  · exact absurd k.pd (h.least n k.one z)
theorem rep_get {xs : List α} (k i : Nat) (hi : i < k * xs.length) : ((List.replicate k xs).flatten).getD i d = xs.getD (i % xs.length) d := by
  induction k generalizing i with
  | zero => simp at hi
  | succ k ih =>
    rw [List.replicate_succ, List.flatten_cons]
    by_cases h : i < xs.length
    · rw [Nat.mod_eq_of_lt h, List.getD_eq_getElem?_getD, List.getElem?_append_left h, ← List.getD_eq_getElem?_getD]
    · have h2 : i - xs.length < k * xs.length := by rw [Nat.add_mul] at hi; omega
      rw [List.getD_eq_getElem?_getD, List.getElem?_append_right (by omega), ← List.getD_eq_getElem?_getD, ih _ h2]
      congr 1
      have : i = i - xs.length + xs.length := by omega
      conv => rhs; rw [this]
      rw [Nat.add_mod_right]
theorem rep_len (xs : List α) (k : Nat) : ((List.replicate k xs).flatten).length = k * xs.length := by simp
theorem per_gcd {β : Type} (F : Nat → β) (m n : Nat) : (∀ i, F (i + m) = F i) → (∀ i, F (i + n) = F i) → ∀ i, F (i + Nat.gcd m n) = F i := by
  induction m, n using Nat.gcd.induction with
  | H0 n => intro _ h i; simpa using h i
  | H1 m n hm ih =>
    intro h1 h2 i
    rw [Nat.gcd_rec]
    refine ih (fun i => ?_) h1 i
    have key : ∀ t i, F (i + m * t) = F i := by
      intro t
      induction t with
      | zero => intro i; simp
      | succ t iht => intro i; rw [Nat.mul_succ, ← Nat.add_assoc, h1, iht]
    have e := Nat.mod_add_div n m
    rw [← key (n / m) (i + n % m), Nat.add_assoc, e, h2]
theorem per_mod {β : Type} (F : Nat → β) (g : Nat) (h : ∀ i, F (i + g) = F i) (i : Nat) : F i = F (i % g) := by
  have key : ∀ t i, F (i + g * t) = F i := by
    intro t
    induction t with
    | zero => intro i; simp
    | succ t iht => intro i; rw [Nat.mul_succ, ← Nat.add_assoc, h, iht]
  conv => lhs; rw [← Nat.mod_add_div i g]
  exact key _ _
theorem pd_up {xs : List α} {m : Nat} (k : Nat) (hm : 1 ≤ m) (hn : m ≤ xs.length) (h : Pd d xs m) : Pd d ((List.replicate k xs).flatten) m := by
  have dv : m ∣ xs.length := Nat.dvd_of_mod_eq_zero h.1
  refine ⟨by rw [rep_len]; exact Nat.mod_eq_zero_of_dvd (Nat.dvd_trans dv (Nat.dvd_mul_left _ _)), fun i hi => ?_⟩
  rw [rep_len] at hi
  have n0 : 0 < xs.length := by omega
  have l1 : i % xs.length < xs.length := Nat.mod_lt _ n0
  have l2 : i % m < m := Nat.mod_lt _ hm
  rw [rep_get d k i hi, rep_get d k (i % m) (Nat.lt_of_le_of_lt (Nat.mod_le i m) hi), h.2 _ l1, Nat.mod_mod_of_dvd i dv, Nat.mod_eq_of_lt (a := i % m) (by omega)]
theorem pd_down {xs : List α} {m k : Nat} (hk : 1 ≤ k) (hm : 1 ≤ m) (n0 : 0 < xs.length) (h : Pd d ((List.replicate k xs).flatten) m) : Pd d xs (Nat.gcd m xs.length) := by
  have kn : 0 < k * xs.length := Nat.mul_pos hk n0
  have dv : m ∣ k * xs.length := by have := h.1; rw [rep_len] at this; exact Nat.dvd_of_mod_eq_zero this
  have h2 : ∀ i, i < k * xs.length → xs.getD (i % xs.length) d = xs.getD (i % m % xs.length) d := fun i hi => by
    have := h.2 i (by rw [rep_len]; exact hi)
    rwa [rep_get d k i hi, rep_get d k (i % m) (Nat.lt_of_le_of_lt (Nat.mod_le i m) hi)] at this
  have f1 : ∀ i, xs.getD (i % xs.length) d = xs.getD (i % m % xs.length) d := fun i => by
    have := h2 (i % (k * xs.length)) (Nat.mod_lt _ kn)
    rwa [Nat.mod_mod_of_dvd i (Nat.dvd_mul_left _ _), Nat.mod_mod_of_dvd i dv] at this
  have fm : ∀ i, xs.getD ((i + m) % xs.length) d = xs.getD (i % xs.length) d := fun i => by
    rw [f1 (i + m), Nat.add_mod_right, ← f1 i]
  have fn : ∀ i, xs.getD ((i + xs.length) % xs.length) d = xs.getD (i % xs.length) d := fun i => by rw [Nat.add_mod_right]
  have fg := per_gcd (fun i => xs.getD (i % xs.length) d) m xs.length fm fn
  have g1 : Nat.gcd m xs.length ∣ xs.length := Nat.gcd_dvd_right _ _
  have g0 : 0 < Nat.gcd m xs.length := Nat.gcd_pos_of_pos_left _ hm
  refine ⟨Nat.mod_eq_zero_of_dvd g1, fun i hi => ?_⟩
  have e := per_mod (fun i => xs.getD (i % xs.length) d) _ fg i
  have l2 : i % Nat.gcd m xs.length < xs.length := Nat.lt_of_lt_of_le (Nat.mod_lt _ g0) (Nat.le_of_dvd n0 g1)
  simp only [Nat.mod_eq_of_lt hi, Nat.mod_eq_of_lt l2] at e
  exact e
theorem lr_rep {xs : List α} {m n k : Nat} (hk : 1 ≤ k) (h1 : IsLr d ((List.replicate k xs).flatten) m) (h2 : IsLr d xs n) : m = n := by
  have n0 : 0 < xs.length := Nat.lt_of_lt_of_le h2.one h2.le
  have a := pd_up d k h2.one h2.le h2.pd
  have b := pd_down d hk h1.one n0 h1.pd
  have le1 : m ≤ n := by
    rcases Nat.lt_or_ge n m with z | z
    · exact absurd a (h1.least n h2.one z)
    · exact z
  have g0 : 0 < Nat.gcd m xs.length := Nat.gcd_pos_of_pos_left _ h1.one
  have le2 : n ≤ Nat.gcd m xs.length := by
    rcases Nat.lt_or_ge (Nat.gcd m xs.length) n with z | z
    · exact absurd b (h2.least _ g0 z)
    · exact z
  have le3 : Nat.gcd m xs.length ≤ m := Nat.le_of_dvd h1.one (Nat.gcd_dvd_left _ _)
  omega
end
theorem lr_quasi {L : Nat} {parts : List Int} (ne : parts ≠ []) (hL : 0 < L) (ok : Pos L parts) (least : ∀ m : Nat, 0 < m → (∀ p ∈ parts, p ∣ (m : Int)) → L ≤ m) {m : Nat} (h : IsLr [] (quasi L parts) m) : m = L := by
  have hl := quasi_len L parts
  have hd : m ∣ L := by have := h.pd.1; rw [hl] at this; exact Nat.dvd_of_mod_eq_zero this
  have := least m h.one (quasi_least ne hL ok h.one hd fun i hi => h.pd.2 i (by rw [hl]; exact hi))
  have := Nat.le_of_dvd hL hd
  omega
end Qu
end

section
-- MiniAD
set_option Elab.async false
set_option linter.all false
set_option maxRecDepth 100000
set_option maxHeartbeats 4000000
/-! Mini, part AD: the law's own polynomials, rounds that are too great -/
namespace Mi
open PySem PySem.Spec PyProof.Rows L2
def fr_is_1 : Ss := (.cons (.ret (.cbl false)) .nil)
def fr_is_4 : Ss := (.cons (.ret (.cbl false)) .nil)
def fr_is_3 : Ss := (.cons (.ifs (.or (.cons (.not (.isin (.pk 1) (.bi "int"))) (.cons (.isin (.pk 1) (.bi "bool")) .nil)))
 fr_is_4
 .nil) .nil)
def fr_is_5 : Ss := (.cons (.ret (.and (.cons (.cmp .ge (.ix (.pk 0) (.cint 1)) (.cint 1)) (.cons (.cmp .eq (.call "_law_fr_common" (.cons (.ix (.pk 0) (.cint 0)) (.cons (.ix (.pk 0) (.cint 1)) .nil))) (.cint 1)) .nil)))) .nil)
def fr_is_2 : Ss := (.cons (.fors (.nm 1) (.ex (.var 0))
 fr_is_3) fr_is_5)
def fr_is_0 : Ss := (.cons (.ifs (.or (.cons (.not (.isin (.pk 0) (.bi "tuple"))) (.cons (.cmp .ne (.bi .len (.cons (.pk 0) .nil)) (.cint 2)) .nil)))
 fr_is_1
 .nil) fr_is_2)
def B_law_fr_is : Fun := ⟨["value"], 2, fr_is_0⟩
def fr_plus_0 : Ss := (.cons (.ret (.call "_law_fr" (.cons (.bin .add (.bin .mul (.ix (.pk 0) (.cint 0)) (.ix (.pk 1) (.cint 1))) (.bin .mul (.ix (.pk 1) (.cint 0)) (.ix (.pk 0) (.cint 1)))) (.cons (.bin .mul (.ix (.pk 0) (.cint 1)) (.ix (.pk 1) (.cint 1))) .nil)))) .nil)
def B_law_fr_plus : Fun := ⟨["one", "other"], 2, fr_plus_0⟩
def fr_times_0 : Ss := (.cons (.ret (.call "_law_fr" (.cons (.bin .mul (.ix (.pk 0) (.cint 0)) (.ix (.pk 1) (.cint 0))) (.cons (.bin .mul (.ix (.pk 0) (.cint 1)) (.ix (.pk 1) (.cint 1))) .nil)))) .nil)
def B_law_fr_times : Fun := ⟨["one", "other"], 2, fr_times_0⟩
def qu_at_3 : Ss := (.cons (.asg 4 (.bin .mul (.pk 4) (.pk 1))) .nil)
def qu_at_2 : Ss := (.cons (.asg 3 (.call "_law_fr_plus" (.cons (.var 3) (.cons (.call "_law_fr_times" (.cons (.var 2) (.cons (.tup (.cons (.var 4) (.cons (.cint 1) .nil))) .nil))) .nil)))) qu_at_3)
def qu_at_4 : Ss := (.cons (.retv 3) .nil)
def qu_at_1 : Ss := (.cons (.fors (.nm 2) (.ex (.ix (.pk 0) (.bin .mod (.bi .int (.cons (.pk 1) .nil)) (.bi .len (.cons (.pk 0) .nil)))))
 qu_at_2) qu_at_4)
def qu_at_0 : Ss := (.cons (.par [3, 4] (.cons (.tup (.cons (.cint 0) (.cons (.cint 1) .nil))) (.cons (.cint 1) .nil))) qu_at_1)
def B_law_qu_at : Fun := ⟨["quasi", "amount"], 5, qu_at_0⟩
def least_round_1 : Ss := (.cons (.rai "BadQuasi") .nil)
def least_round_5 : Ss := (.cons (.retv 2) .nil)
def least_round_4 : Ss := (.cons (.ifs (.and (.cons (.cmp .eq (.bin .mod (.pk 1) (.pk 2)) (.cint 0)) (.cons (.bi .all (.cons (.comp [("at", 3)] (.nm 3) (.rng1 (.cons (.pk 1) .nil)) .no (.cmp .eq (.ix (.pk 0) (.pk 3)) (.ix (.pk 0) (.bin .mod (.pk 3) (.pk 2))))) .nil)) .nil)))
 least_round_5
 .nil) .nil)
def least_round_6 : Ss := (.cons (.retv 1) .nil)
def least_round_3 : Ss := (.cons (.fors (.nm 2) (.rng2 (.cons (.cint 1) (.cons (.bin .add (.pk 1) (.cint 1)) .nil)))
 least_round_4) least_round_6)
def least_round_2 : Ss := (.cons (.asg 1 (.bi .len (.cons (.pk 0) .nil))) least_round_3)
def least_round_0 : Ss := (.cons (.ifs (.not (.call "is_quasi" (.cons (.var 0) .nil)))
 least_round_1
 .nil) least_round_2)
def B_least_round : Fun := ⟨["quasi"], 4, least_round_0⟩
structure HasQx (T : Tab) : Prop where
  pr : ∀ f, T.prim f = none
  lf : HasLf T
  fr_is : T.fn.lookup ("_law_fr_is" : Str) = some B_law_fr_is
  fr_plus : T.fn.lookup ("_law_fr_plus" : Str) = some B_law_fr_plus
  fr_times : T.fn.lookup ("_law_fr_times" : Str) = some B_law_fr_times
  qu_at : T.fn.lookup ("_law_qu_at" : Str) = some B_law_qu_at
  least_round : T.fn.lookup ("least_round" : Str) = some B_least_round
local macro_rules | `(tactic| walk_at "ev") => `(tactic| try simp only [pk_toP, vr_toP, fz_toP, ev_var, ev_pk, ev_cint, ev_cbl, ev_cstr, ev_cnon, ev_cst, ev_tup, ev_lst, ev_dct0, ev_bin, ev_neg, ev_not, ev_and, ev_or, ev_cmp, ev_chain, ev_isn, ev_nisn, ev_isb, ev_ite, ev_call, ev_callk, ev_mk, ev_mkk, ev_bi, ev_isin, ev_attr, ev_ix, ev_sl, ev_slS, ev_rev, ev_comp, ev_refd, ev_rep, ev_callv, ev_lamv, ev_fnv, calK_fn, calK_clo, ev_sleft, ev_sturn, ev_sgreat,
  els_nil, els_cons, er_nil, er_cons, eo_no, eo_yes, ec_no, ec_yes, sr_ex, sr_cells, sr_rng1, sr_rng2, sr_zip, sr_enum, ea_one, ea_cons, eor_one, eor_cons,
  ss_nil, ss_cons, st_asg, st_asgT, st_par, st_setIx, st_app, st_appPop, st_ex, st_ret, st_retv, st_retN, st_ifs, st_fors, st_whs, st_rai, st_rai1, st_pass, st_brk, st_cnt, st_frz, st_aug, st_setL, st_setT, st_mkst, nlsV_v, intsOf_ints,
  nlsK_v, augK_v, optK_some, optK_none, intK_v, tupK_v, blK_v, trK_bl, trK_int, bin_add, bin_sub, bin_mul, bin_fdiv, bin_mod, bin_pow, bin_addS, bin_addT, bin_addL, bin_mulL, bin_mulT, cmp_lt, cmp_le, cmp_gt, cmp_ge, cmp_eq, cmp_ne,
  bi_lenT, bi_lenL, bi_lenC, bi_lenS, bi_abs, bi_int, bi_max2, bi_min2, bi_sumT, bi_tupL, bi_tupT, bi_lstL, bi_lstT, ix_tup, ix_lst, sl_tup, sl_lst, slS_lst, rev_tup, rev_lst, walk_tup, walk_lst, walk_scr, rng1_v, rng2_v, zip_lst, zip_tup, enum_lst, enum_tup, bi_reprI, eqK_int,
  setAll, freeze, wipeE, bindTg, pk_non, pk_bl, pk_int, pk_str, pk_tup, pk_lst, pk_dct, pk_ins, pk_exc, pk_fn, pk_clo, pk_obj, pk_scr, pk_nls, vr_non, vr_bl, vr_int, vr_str, vr_tup, vr_lst, vr_dct, vr_ins, vr_exc, vr_fn, vr_clo, vr_obj, vr_scr, fz_int, fz_bl, fz_str, fz_obj, fz_tup, fz_lst, fz_nls, fz_non, fz_dct, fz_ins, fz_exc, fz_scr, fz_fn, fz_clo, fz_clo,
  List.map_cons, List.map_nil, List.filterMap_cons, List.filterMap_nil, eqK_str, List.length_cons, List.length_nil, List.replicate_succ, List.replicate_zero, List.cons_append, List.nil_append, List.getElem?_cons_zero, List.getElem?_cons_succ, List.set_cons_zero, List.set_cons_succ, Nat.sub_self, Nat.reduceSub, Nat.reduceAdd, Nat.zero_add, stAt_W, set_W, decide_true, decide_false, if_true, if_false, Bool.false_eq_true, true_and, and_true, List.foldl_cons, List.foldl_nil, List.zip_cons_cons, List.zip_nil_left, List.zip_nil_right, isi_non_bool, isi_non_int, isi_non_str, isi_non_tuple, isi_non_list, isi_non_dict, isi_non_ValueError, isi_bl_bool, isi_bl_int, isi_bl_str, isi_bl_tuple, isi_bl_list, isi_bl_dict, isi_bl_ValueError, isi_int_bool, isi_int_int, isi_int_str, isi_int_tuple, isi_int_list, isi_int_dict, isi_int_ValueError, isi_str_bool, isi_str_int, isi_str_str, isi_str_tuple, isi_str_list, isi_str_dict, isi_str_ValueError, isi_tup_bool, isi_tup_int, isi_tup_str, isi_tup_tuple, isi_tup_list, isi_tup_dict, isi_tup_ValueError, isi_lst_bool, isi_lst_int, isi_lst_str, isi_lst_tuple, isi_lst_list, isi_lst_dict, isi_lst_ValueError, isi_dct_bool, isi_dct_int, isi_dct_str, isi_dct_tuple, isi_dct_list, isi_dct_dict, isi_dct_ValueError, Bool.not_true, Bool.not_false, atI_0, atI_1, atI_2, le_sizeT, lt_sizeT, Nat.reduceLeDiff])
/-- a comprehension of draws -/
theorem comp_draws {T : Tab} (hT : HasDraw T) {W0 μ : Mu} {n : Nat} {tg i : Nat} {lo m : Int} {ρ : Env} {cnt : Nat} {K : List PV → Mu → Prop} {d : Nat} {own : List (Str × Nat)} (hs : StW W0 n μ) (hn : n + cnt < 2 ^ 40) (h0 : 0 < m) (hm : m < 2 ^ 62) (hc : cnt ≤ 1000) (hi : ρ[i]? = some (some (.obj W0.length))) (ne : tg ≠ i)
    (hk : ∀ (l : List Int) μ', l.length = cnt → (∀ p ∈ l, lo ≤ p ∧ p < lo + m) → StW W0 (n + cnt) μ' → K (l.map PV.int) μ') : compE (gam T (d + 2)) (.nm tg) .no (.bin .add (.cint lo) (.call "_law_draw" (.cons (.var i) (.cons (.cint m) .nil)))) ρ (rngL 0 cnt) [] μ K := by
  rw [rngL_map]
  refine compE_ind (fun xs acc μ' => ∃ row : List Int, acc = row.map PV.int ∧ row.length + xs.length = cnt ∧ (∀ p ∈ row, lo ≤ p ∧ p < lo + m) ∧ (∃ t : List Int, xs = t.map PV.int) ∧ StW W0 (n + row.length) μ') ?_ ?_ _ _ _ ⟨[], rfl, by simp, by simp, ⟨(List.range cnt).map fun (r : Nat) => ((0 : Int) + r), by simp⟩, hs⟩
  · rintro x xs acc μ' ⟨row, rfl, hlen, hr, ⟨t, ht⟩, hs'⟩
    simp only [List.length_cons] at hlen
    refine ⟨_, rfl, fun N hN => ?_⟩
    walk_at "ev"
    rw [List.getElem?_set_ne ne, hi]
    walk_at "ev"
    refine draw_ok hT hs' (by omega) h0 (Nat.lt_of_le_of_lt (show m.natAbs ≤ 2 ^ 62 by omega) (Nat.pow_lt_pow_right (by decide) (by decide))) fun v μ1 v0 v1 hs1 => ?_
    walk_at "ev"
    refine ⟨lt_size (by simp; omega), hN _ _ ⟨row ++ [lo + v], by simp, by simp; omega, fun q hq => ?_, ?_, hs1.mono (by simp; omega)⟩⟩
    · rcases List.mem_append.mp hq with hq | hq
      · exact hr q hq
      · rw [List.mem_singleton.mp hq]; omega
    · cases t with
      | nil => cases ht
      | cons a t => simp only [List.map_cons, List.cons.injEq] at ht; exact ⟨t, ht.2⟩
  · rintro acc μ' ⟨row, rfl, hlen, hr, _, hs'⟩
    simp at hlen
    exact hk row μ' hlen hr (by rw [← hlen]; exact hs')
theorem natAbs_lt {m : Int} {k : Nat} (h : m.natAbs < 2 ^ k) (hk : k ≤ 8000) : m.natAbs < 2 ^ 8999 := Nat.lt_of_lt_of_le h (Nat.pow_le_pow_right (by decide) (by omega))
theorem lc_append (row : List Int) (p : Int) : Lc (row ++ [p]) = Nat.lcm (Lc row) p.toNat := by
  simp [Lc, List.foldl_append]
theorem lc_more {row : List Int} (h : ∀ p ∈ row, 1 ≤ p) {p : Int} (hp : p ∈ row) : Lc (row ++ [p]) = Lc row := by
  rw [lc_append]
  exact Nat.lcm_eq_left ((Lc_fold row 1 (by decide) h).2.2.1 p hp)
theorem need_round_most {T : Tab} (hT : HasQu T) (hf : T.fld.lookup ("TooMany" : Str) = some "most") {μ : Mu} {row : List Int} {d : Nat} {k kx : KE} (h : RowOk row) (hr : 60 < Lc row) (hk : kx (.exc "TooMany" ["most"] [.int 60]) μ) : (gam T (d + 5)).call "need_round" [.tup (row.map PV.int)] μ k kx := by
  refine call_fn hT.pr hT.need_round (d + 4) ⟨rfl, ?_⟩
  simp only [B_need_round, need_round_0]
  walk_at "ev"
  refine need_row_ok hT.cn h ?_
  walk_at "ev"
  simp only [need_round_1]
  walk_at "ev"
  refine round_ok hT (fun p hp => by have := h.part p hp; omega) ?_
  simp only [cst_of hT.MOST_ROUND]
  walk_at "ev"
  rw [if_pos (by simp; omega)]
  simp only [need_round_2]
  walk_at "ev"
  simp only [cst_of hT.MOST_ROUND]
  walk_at "ev"
  rw [gam_fld]
  simp only [hf, Option.getD_some]
  exact hk
theorem quasi_of_most {T : Tab} (hT : HasQu T) (hf : T.fld.lookup ("TooMany" : Str) = some "most") {μ : Mu} {row : List Int} {d : Nat} {k kx : KE} (h : RowOk row) (hr : 60 < Lc row) (hk : kx (.exc "TooMany" ["most"] [.int 60]) μ) : (gam T (d + 6)).call "quasi_of" [.tup (row.map PV.int)] μ k kx := by
  refine call_fn hT.pr hT.quasi_of (d + 5) ⟨rfl, ?_⟩
  simp only [B_quasi_of, quasi_of_0]
  walk_at "ev"
  exact need_round_most hT hf h hr hk
theorem least_round_bad {T : Tab} (hT : HasAt T) (hx : T.fn.lookup ("least_round" : Str) = some B_least_round) {μ : Mu} {v : PV} {d : Nat} {k kx : KE} (hv : plB v = true) (hq : isQ v = false) (hk : kx (.exc "BadQuasi" [] []) μ) : (gam T (d + 4)).call "least_round" [v] μ k kx := by
  refine call_fn hT.pr hx (d + 3) ⟨rfl, ?_⟩
  simp only [B_least_round, least_round_0]
  walk_at "ev"
  simp only [vr_any (plB_own hv), fz_any (plB_own hv)]
  refine is_quasi_any hT hv ?_
  rw [hq]
  walk_at "ev"
  simp only [least_round_1]
  walk_at "ev"
  exact hk
theorem fr_times_ok {T : Tab} (hT : HasQx T) {μ : Mu} {a b : Rat} {d m1 n1 m2 n2 : Nat} {k kx : KE} (ha : Bd m1 n1 a) (hb : Bd m2 n2 b) (hm : m1 ≤ 2 ^ 20 ∧ m2 ≤ 2 ^ 20) (hn : n1 + n2 ≤ 8999) (hk : Bd (m1 + m2) (n1 + n2) (a * b) → k (toP (a * b)) μ) : (gam T (d + 3)).call "_law_fr_times" [toP a, toP b] μ k kx := by
  refine call_fn hT.pr hT.fr_times (d + 2) ⟨rfl, ?_⟩
  have hd : ((a.den : Int) * b.den).natAbs < 2 ^ (n1 + n2) := mul_lt (by exact_mod_cast ha.2) (by exact_mod_cast hb.2)
  have h0 : 0 < (a.den : Int) * b.den := Int.mul_pos (den_pos a) (den_pos b)
  have hu := mul_lt ha.1 hb.1
  simp only [B_law_fr_times, fr_times_0, toP]
  walk_at "ev"
  refine ⟨mulOk_n ha.1 hb.1 hm, mulOk_n (m := n1) (n := n2) (by exact_mod_cast ha.2) (by exact_mod_cast hb.2) (by omega), ?_⟩
  refine lfr_ok hT.lf h0 (lt_mono hd hn) ?_
  rw [mul_divInt]
  exact hk (by rw [← mul_divInt]; exact divInt_Bd (by omega) hu hd)
theorem fr_plus_ok {T : Tab} (hT : HasQx T) {μ : Mu} {a b : Rat} {d m1 n1 m2 n2 m : Nat} {k kx : KE} (ha : Bd m1 n1 a) (hb : Bd m2 n2 b) (hm : m1 + n2 ≤ m ∧ m2 + n1 ≤ m ∧ m ≤ 2 ^ 20) (hn : n1 + n2 ≤ 8999) (hk : Bd (m + 1) (n1 + n2) (a + b) → k (toP (a + b)) μ) : (gam T (d + 3)).call "_law_fr_plus" [toP a, toP b] μ k kx := by
  refine call_fn hT.pr hT.fr_plus (d + 2) ⟨rfl, ?_⟩
  have a2 : (a.den : Int).natAbs < 2 ^ n1 := by exact_mod_cast ha.2
  have b2 : (b.den : Int).natAbs < 2 ^ n2 := by exact_mod_cast hb.2
  have hd : ((a.den : Int) * b.den).natAbs < 2 ^ (n1 + n2) := mul_lt a2 b2
  have h0 : 0 < (a.den : Int) * b.den := Int.mul_pos (den_pos a) (den_pos b)
  have hu := add_lt (lt_mono (mul_lt ha.1 b2) hm.1) (lt_mono (mul_lt hb.1 a2) hm.2.1)
  simp only [B_law_fr_plus, fr_plus_0, toP]
  walk_at "ev"
  refine ⟨mulOk_n ha.1 b2 (by omega), mulOk_n hb.1 a2 (by omega), mulOk_n a2 b2 (by omega), ?_⟩
  refine lfr_ok hT.lf h0 (lt_mono hd hn) ?_
  rw [add_divInt]
  exact hk (by rw [← add_divInt]; exact divInt_Bd (by omega) hu hd)
theorem fr_is_ok {T : Tab} (hT : HasQx T) {μ : Mu} {q : Rat} {d : Nat} {k kx : KE} (hk : k (.bl true) μ) : (gam T (d + 2)).call "_law_fr_is" [toP q] μ k kx := by
  refine call_fn hT.pr hT.fr_is (d + 1) ⟨rfl, ?_⟩
  have hd := den_pos q
  simp only [B_law_fr_is, fr_is_0, toP]
  walk_at "ev"
  simp only [show decide (((0 + 1 + 1 : Nat) : Int) = 2) = true by decide, Bool.not_true]
  walk_at "ev"
  simp only [fr_is_2]
  walk_at "ev"
  refine forE_ind (fun xs ρ μ' => ∃ (l : List Int) (o : Option PV), xs = l.map PV.int ∧ ρ = [some (.tup [.int q.num, .int q.den]), o] ∧ μ' = μ) ?_ ?_ _ _ _ ⟨[q.num, q.den], _, rfl, rfl, rfl⟩
  · rintro x xs ρ μ' ⟨l, o, hx, rfl, rfl⟩
    cases l with
    | nil => cases hx
    | cons i l =>
      simp only [List.map_cons, List.cons.injEq] at hx
      obtain ⟨rfl, rfl⟩ := hx
      refine ⟨_, rfl, fun N hN => ?_⟩
      simp only [fr_is_3]
      walk_at "ev"
      exact hN _ _ ⟨l, _, rfl, rfl, rfl⟩
  · rintro ρ μ' ⟨l, o, hx, rfl, rfl⟩
    simp only [fr_is_5]
    walk_at "ev"
    rw [if_pos (by simp; omega)]
    refine lfr_common_ok hT.lf ?_
    walk_at "ev"
    rw [gcd_one, decide_eq_true (show ((1 : Nat) : Int) = 1 by decide)]
    exact hk
theorem ev_snoc (x q : Rat) : ∀ c : List Rat, Qu.ev (c ++ [q]) x = Qu.ev c x + q * x ^ c.length
  | [] => by simp only [List.nil_append, Qu.ev, List.length_nil, Rat.pow_zero]; grind
  | a :: c => by
    simp only [List.cons_append, Qu.ev, List.length_cons, Rat.pow_succ, ev_snoc x q c]
    grind
theorem cast_pow (a : Int) : ∀ n : Nat, ((a ^ n : Int) : Rat) = (a : Rat) ^ n
  | 0 => by simp
  | n + 1 => by rw [Int.pow_succ, Rat.pow_succ, Rat.intCast_mul, cast_pow a n]
theorem pow_bd {a : Int} {k : Nat} (h : a.natAbs < 2 ^ k) : ∀ n : Nat, (a ^ n).natAbs < 2 ^ (k * n + 1)
  | 0 => by rw [Int.pow_zero]; exact (show (1 : Nat) < 2 ^ (k * 0 + 1) from by rw [Nat.mul_zero]; decide)
  | n + 1 => by
    have := mul_lt (pow_bd h n) h
    rw [Int.pow_succ, show k * (n + 1) + 1 = k * n + 1 + k by rw [Nat.mul_add]; omega]
    exact this
theorem law_qu_at_ok {T : Tab} (hT : HasQx T) {μ : Mu} {m : Nat} {qs : List (List Rat)} {a : Int} {d : Nat} {k kx : KE} (h : QsOk m qs) (ha : a.natAbs < 2 ^ 100) (hk : k (toP (Qu.qat qs a)) μ) : (gam T (d + 4)).call "_law_qu_at" [.tup (polsT qs), .int a] μ k kx := by
  refine call_fn hT.pr hT.qu_at (d + 3) ⟨rfl, ?_⟩
  have l0 : 0 < qs.length := List.length_pos_iff.mpr h.ne
  have ln : (polsT qs).length = qs.length := by simp [polsT]
  simp only [B_law_qu_at, qu_at_0]
  walk_at "ev"
  simp only [qu_at_1]
  walk_at "ev"
  rw [ln]
  refine ⟨by omega, ?_⟩
  have b1 : 0 ≤ a % qs.length := Int.emod_nonneg _ (by omega)
  have b2 : a % qs.length < qs.length := Int.emod_lt_of_pos _ (by omega)
  have hi : (a % qs.length).toNat < qs.length := by omega
  rw [Int.fmod_eq_emod_of_nonneg _ (by omega), atI_of b1 (by rw [ln]; exact b2)]
  obtain ⟨c, hc⟩ : ∃ c, qs[(a % qs.length).toNat]? = some c := ⟨_, List.getElem?_eq_getElem hi⟩
  have hq : Qu.qat qs a = Qu.ev c (a : Rat) := by
    simp only [Qu.qat, List.getD_eq_getElem?_getD, hc, Option.getD_some]
  have hcm := List.mem_of_getElem? hc
  have e0 : (polsT qs)[(a % qs.length).toNat]? = some (.tup (pols c)) := by
    simp only [polsT, List.getElem?_map, hc, Option.map_some]
  rw [e0]
  walk_at "ev"
  have z0 : PV.tup [.int 0, .int 1] = toP 0 := rfl
  rw [z0]
  have m5 := h.m5
  have hcl := h.len c hcm
  refine forE_ind (fun xs ρ μ' => ∃ (c1 c2 : List Rat) (o : Option PV), c = c1 ++ c2 ∧ xs = pols c2 ∧ Bd (8000 * (c1.length + 1)) (1186 * c1.length + 1) (Qu.ev c1 (a : Rat)) ∧ ρ = [some (.tup (polsT qs)), some (.int a), o, some (toP (Qu.ev c1 (a : Rat))), some (.int (a ^ c1.length))] ∧ μ' = μ) ?_ ?_ _ _ _ ⟨[], c, none, rfl, rfl, ⟨(Nat.two_pow_pos _ : 0 < 2 ^ (8000 * (0 + 1))), (by decide : 1 < 2 ^ 1)⟩, by rw [List.length_nil, Int.pow_zero]; rfl, rfl⟩
  · rintro x xs ρ μ' ⟨c1, c2, o, hc12, hx, hb, rfl, rfl⟩
    cases c2 with
    | nil => cases hx
    | cons q c2 =>
      have hx2 : x :: xs = toP q :: pols c2 := hx
      cases hx2
      have hl : c1.length + 1 + c2.length = m := by
        rw [← hcl, hc12]; simp; omega
      have bq : Bd 6400 1184 q := h.bd c hcm q (by rw [hc12]; simp)
      have pb := pow_bd ha c1.length
      refine ⟨_, rfl, fun N hN => ?_⟩
      simp only [qu_at_2]
      walk_at "ev"
      rw [toP_int]
      refine fr_times_ok hT bq (int_Bd pb) (by omega) (by omega) fun b3 => ?_
      walk_at "ev"
      refine fr_plus_ok hT hb b3 (m := 8000 * (c1.length + 1) + 7000) ⟨by omega, by omega, by omega⟩ (by omega) fun b4 => ?_
      walk_at "ev"
      simp only [qu_at_3]
      walk_at "ev"
      have eq : Qu.ev c1 (a : Rat) + q * ((a ^ c1.length : Int) : Rat) = Qu.ev (c1 ++ [q]) (a : Rat) := by
        rw [ev_snoc, cast_pow]
      rw [eq] at b4 ⊢
      have ep : a ^ c1.length * a = a ^ (c1 ++ [q]).length := by
        rw [List.length_append, List.length_singleton, Int.pow_succ]
      refine ⟨mulOk_n pb ha (by omega), ?_⟩
      rw [ep]
      exact hN _ _ ⟨c1 ++ [q], c2, _, by rw [hc12]; simp, rfl, b4.mono (by simp; omega) (by simp; omega), rfl, rfl⟩
  · rintro ρ μ' ⟨c1, c2, o, hc12, hx, hb, rfl, rfl⟩
    have : c2 = [] := by
      have := congrArg List.length hx
      simp [pols] at this
      exact List.eq_nil_of_length_eq_zero this.symm
    subst this
    rw [List.append_nil] at hc12
    subst hc12
    simp only [qu_at_4]
    walk_at "ev"
    rw [← hq]
    exact hk
/-! ### what a round answers is whole -/
theorem N_big {row : List Int} (h : RowOk row) {a : Int} (ha : a ≤ 10 ^ 26) : (Qu.N row a).natAbs < 10 ^ 140 := by
  have k := fold_le (M := 10 ^ 26) (by decide) row Qu.one0 1 (by decide) (fun p hp => (h.part p hp).1) (fun a h => if_neg (by omega)) (fun a _ => by unfold Qu.one0; split <;> omega) a ha
  have e : (10 ^ 26 + 1 : Int) ^ row.length * 1 ≤ (10 ^ 26 + 1) ^ 5 := by
    rw [Int.mul_one]
    exact_mod_cast Nat.pow_le_pow_right (n := 10 ^ 26 + 1) (by decide) h.le
  have r1 : 0 ≤ Qu.N row a := k.1
  have r2 : Qu.N row a ≤ (10 ^ 26 + 1 : Int) ^ row.length * 1 := k.2
  have : (10 ^ 26 + 1 : Int) ^ 5 < 10 ^ 140 := by decide
  omega
theorem round_int {L : Int} {row : List Int} {F : Int → Rat} (h : RowOk row) (R : Qu.Round L row F) {a : Int} (ha : a.natAbs ≤ 10 ^ 26) : ∃ n : Int, F a = (n : Rat) ∧ n.natAbs < 10 ^ 140 := by
  by_cases h0 : 0 ≤ a
  · exact ⟨Qu.N row a, R.up a h0, N_big h (by omega)⟩
  have ps := R.sum0
  have hb := R.back (-a)
  rw [Int.neg_neg] at hb
  by_cases h1 : 0 ≤ -a - row.sum
  · rw [R.up _ h1] at hb
    have nb := N_big h (a := -a - row.sum) (by omega)
    refine ⟨(-1) ^ (row.length + 1) * Qu.N row (-a - row.sum), ?_, ?_⟩
    · rw [hb, Rat.intCast_mul, cast_pow]; rfl
    · rw [Int.natAbs_mul, Int.natAbs_pow]
      simpa using nb
  · rw [R.nought (-a - row.sum) (by omega) (by omega), Rat.mul_zero] at hb
    exact ⟨0, hb, Nat.pos_of_neZero _⟩
theorem shw_whole : ShwB toP (fun q => ∃ n : Int, q = (n : Rat) ∧ n.natAbs < 10 ^ 140) 1 (2 * (140 + 1 + 2) + 3) := ⟨fun q ⟨n, hq, hn⟩ => by
  have := (ShwB.tup (ShwB.int (k := 140) (by decide) (by decide)) 2).ex [n, 1] ⟨Nat.le_refl _, fun x hx => by
    simp only [List.mem_cons, List.not_mem_nil, or_false] at hx
    rcases hx with rfl | rfl
    · exact hn
    · decide⟩
  rw [hq]
  exact this⟩
end Mi
end

section
-- QuH
set_option Elab.async false
set_option linter.all false
set_option maxRecDepth 100000
set_option maxHeartbeats 4000000
/-! gaps of a row -/
namespace Qu
theorem fold_zero : ∀ (row : List Int) (f : Int → Int), (∀ p ∈ row, 0 < p) → (∀ a, a < 0 → f a = 0) → row.foldl (fun f p => S p f) f 0 = f 0
  | [], _, _, _ => rfl
  | p :: r, f, h, hn => by
    rw [List.foldl_cons, fold_zero r _ (fun q hq => h q (List.mem_cons_of_mem _ hq)) fun a h => S_neg h]
    have hp := h p (by simp)
    rw [S_eq hp hn, S_neg (by omega)]; omega
theorem N_zero {row : List Int} (h : ∀ p ∈ row, 0 < p) : N row 0 = 1 := fold_zero row one0 h fun a h => if_neg (by omega)
theorem N_nn {row : List Int} (h : ∀ p ∈ row, 0 < p) (a : Int) : 0 ≤ N row a := by
  by_cases c : a < 0
  · rw [N_neg row c]; exact Int.le_refl _
  · exact (Mi.fold_le (M := a) (by omega) row one0 1 (by decide) (fun p hp => h p hp) (fun a h => if_neg (by omega)) (fun a _ => by unfold one0; split <;> omega) a (Int.le_refl _)).1
theorem N_mono {row : List Int} (h : ∀ p ∈ row, 0 < p) {p : Int} (hp : p ∈ row) (a : Int) : N row (a - p) ≤ N row a := by
  have pm : row.Perm (row.erase p ++ [p]) := (List.perm_cons_erase hp).trans (List.perm_append_singleton p _).symm
  rw [N_perm pm h, N_more _ (h p hp) a]
  have := N_nn (row := row.erase p) (fun q hq => h q (List.mem_of_mem_erase hq)) a
  omega
theorem N_mul {row : List Int} (h : ∀ p ∈ row, 0 < p) {p : Int} (hp : p ∈ row) : ∀ (c : Nat) (a : Int), N row (a - p * c) ≤ N row a
  | 0, a => by simp
  | c + 1, a => by
    have := N_mul h hp c (a - p)
    have := N_mono h hp a
    rw [show a - p * ((c + 1 : Nat) : Int) = a - p - p * c by rw [Int.natCast_succ, Int.mul_add]; omega]
    omega
/-! ### what is reached, by masks -/
def dbl (p : Nat) : Nat → Nat → Nat
  | 0, R => R
  | k + 1, R => dbl p k ((R ||| R <<< (p * 2 ^ k)) % 2 ^ 200)
def mask (l : List Nat) : Nat := l.foldl (fun R p => dbl p 8 R) 1
def Snd (row : List Int) (R : Nat) : Prop := ∀ a : Nat, R.testBit a = true → 0 < N row a
theorem Snd.one {row : List Int} (h : ∀ p ∈ row, 0 < p) : Snd row 1 := fun a ha => by
  have : a = 0 := by
    rcases Nat.eq_zero_or_pos a with z | z
    · exact z
    · obtain ⟨b, rfl⟩ : ∃ b, a = b + 1 := ⟨a - 1, by omega⟩
      rw [Nat.testBit_succ] at ha
      simp at ha
  subst this
  rw [show ((0 : Nat) : Int) = 0 from rfl, N_zero h]; decide
theorem Snd.step {row : List Int} (h : ∀ p ∈ row, 0 < p) {p : Nat} (hp : (p : Int) ∈ row) (c : Nat) {R : Nat} (s : Snd row R) : Snd row ((R ||| R <<< (p * c)) % 2 ^ 200) := fun a ha => by
  rw [Nat.testBit_mod_two_pow, Nat.testBit_or, Nat.testBit_shiftLeft] at ha
  simp only [Bool.and_eq_true, Bool.or_eq_true, decide_eq_true_eq] at ha
  rcases ha.2 with z | ⟨z1, z2⟩
  · exact s a z
  · have := s _ z2
    have k := N_mul h hp c a
    rw [show ((a - p * c : Nat) : Int) = (a : Int) - p * c by rw [Int.natCast_sub z1, Int.natCast_mul]] at this
    omega
theorem Snd.dbl {row : List Int} (h : ∀ p ∈ row, 0 < p) {p : Nat} (hp : (p : Int) ∈ row) : ∀ (k : Nat) {R : Nat}, Snd row R → Snd row (dbl p k R)
  | 0, _, s => s
  | k + 1, _, s => Snd.dbl h hp k (s.step h hp _)
theorem Snd.mask {row : List Int} (h : ∀ p ∈ row, 0 < p) : ∀ (l : List Nat) (R : Nat), (∀ p ∈ l, (p : Int) ∈ row) → Snd row R → Snd row (l.foldl (fun R p => Qu.dbl p 8 R) R)
  | [], _, _, s => s
  | p :: l, _, hl, s => Snd.mask h l _ (fun q hq => hl q (List.mem_cons_of_mem _ hq)) (s.dbl h (hl p (by simp)) 8)
def pB (B : Nat) : List Nat := ((List.range 12).filter fun i => B.testBit i).map (· + 1)
def okB (B : Nat) : Bool := ((List.range 11).any fun d => (pB B).all fun p => p % (d + 2) == 0) || (pB B).all fun m => (pB B).any (fun p => decide (p < m)) || (pB B).all fun M => (pB B).any (fun p => decide (M < p)) || decide ((mask (pB B) >>> (m * M + 1)) % 2 ^ m = 2 ^ m - 1)
theorem all_ok : ((List.range 64).all fun i => (List.range 64).all fun j => okB (64 * i + j)) = true := by decide +kernel
theorem ok_of {B : Nat} (h : B < 4096) : okB B = true := by
  have := List.all_eq_true.mp all_ok (B / 64) (List.mem_range.mpr (by omega))
  have := List.all_eq_true.mp this (B % 64) (List.mem_range.mpr (by omega))
  rwa [Nat.div_add_mod] at this
def bm (row : List Int) : Nat := row.foldl (fun B p => B ||| 2 ^ (p.toNat - 1)) 0
theorem bm_bit : ∀ (row : List Int) (B i : Nat), (row.foldl (fun B p => B ||| 2 ^ (p.toNat - 1)) B).testBit i = true ↔ B.testBit i = true ∨ ∃ p ∈ row, p.toNat - 1 = i
  | [], B, i => by simp
  | p :: row, B, i => by
    rw [List.foldl_cons, bm_bit row, Nat.testBit_or, Nat.testBit_two_pow]
    simp only [Bool.or_eq_true, decide_eq_true_eq, List.mem_cons, exists_eq_or_imp]
    constructor
    · rintro ((h | h) | h)
      · exact .inl h
      · exact .inr (.inl h)
      · exact .inr (.inr h)
    · rintro (h | h | h)
      · exact .inl (.inl h)
      · exact .inl (.inr h)
      · exact .inr h
theorem bm_lt : ∀ (row : List Int) (B : Nat), (∀ p ∈ row, p ≤ 12) → B < 2 ^ 12 → row.foldl (fun B p => B ||| 2 ^ (p.toNat - 1)) B < 2 ^ 12
  | [], _, _, h => h
  | p :: row, B, hp, h => bm_lt row _ (fun q hq => hp q (List.mem_cons_of_mem _ hq)) (Nat.or_lt_two_pow h (Nat.pow_lt_pow_right (by decide) (by have := hp p (by simp); omega)))
theorem pB_mem {row : List Int} (h : ∀ p ∈ row, 1 ≤ p ∧ p ≤ 12) (x : Nat) : x ∈ pB (bm row) ↔ (x : Int) ∈ row := by
  simp only [pB, List.mem_map, List.mem_filter, List.mem_range]
  constructor
  · rintro ⟨i, ⟨_, h2⟩, rfl⟩
    rcases (bm_bit row 0 i).mp h2 with z | ⟨p, hp, z⟩
    · simp at z
    · have := h p hp
      have e : ((i + 1 : Nat) : Int) = p := by omega
      rw [e]; exact hp
  · intro hx
    have := h _ hx
    exact ⟨x - 1, ⟨by omega, (bm_bit row 0 (x - 1)).mpr (.inr ⟨x, hx, by omega⟩)⟩, by omega⟩
theorem dvd_fold : ∀ (row : List Int) (f d : Nat), d ∣ f → (∀ p ∈ row, d ∣ p.toNat) → d ∣ row.foldl (fun f p => Nat.gcd f p.toNat) f
  | [], _, _, h, _ => h
  | p :: r, _, d, h, hr => dvd_fold r _ d (Nat.dvd_gcd h (hr p (by simp))) fun q hq => hr q (List.mem_cons_of_mem _ hq)
/-- beyond least by greatest there is no gap -/
theorem no_gap {row : List Int} (h : ∀ p ∈ row, 1 ≤ p ∧ p ≤ 12) (g : G row = 1) {m M : Nat} (hm : (m : Int) ∈ row) (hM : (M : Int) ∈ row) (h1 : ∀ p ∈ row, (m : Int) ≤ p) (h2 : ∀ p ∈ row, p ≤ (M : Int)) {a : Nat} (ha : m * M < a) : 0 < N row a := by
  have hpos : ∀ p ∈ row, 0 < p := fun p hp => by have := h p hp; omega
  have ok := ok_of (bm_lt row 0 (fun p hp => (h p hp).2) (by decide))
  change okB (bm row) = true at ok
  unfold okB at ok
  rw [Bool.or_eq_true] at ok
  rcases ok with ok | ok
  · obtain ⟨d, _, hd⟩ := List.any_eq_true.mp ok
    have : (d + 2) ∣ G row := dvd_fold row 0 (d + 2) (Nat.dvd_zero _) fun p hp => by
      have h3 := h p hp
      have e : ((p.toNat : Nat) : Int) = p := by omega
      have := List.all_eq_true.mp hd p.toNat ((pB_mem h _).mpr (by rw [e]; exact hp))
      exact Nat.dvd_of_mod_eq_zero (by simpa using this)
    rw [g] at this
    have := Nat.le_of_dvd (by decide) this
    omega
  · have o1 := List.all_eq_true.mp ok m ((pB_mem h m).mpr hm)
    rw [Bool.or_eq_true] at o1
    have no1 : ¬ (pB (bm row)).any (fun p => decide (p < m)) = true := fun z => by
      obtain ⟨p, hp, z⟩ := List.any_eq_true.mp z
      have := h1 p ((pB_mem h p).mp hp)
      have := of_decide_eq_true z
      omega
    have o2 := List.all_eq_true.mp (o1.resolve_left no1) M ((pB_mem h M).mpr hM)
    rw [Bool.or_eq_true] at o2
    have no2 : ¬ (pB (bm row)).any (fun p => decide (M < p)) = true := fun z => by
      obtain ⟨p, hp, z⟩ := List.any_eq_true.mp z
      have := h2 p ((pB_mem h p).mp hp)
      have := of_decide_eq_true z
      omega
    have o3 := of_decide_eq_true (o2.resolve_left no2)
    have snd : Snd row (mask (pB (bm row))) := Snd.mask hpos _ 1 (fun p hp => (pB_mem h p).mp hp) (Snd.one hpos)
    have hm0 := h _ hm
    have m0 : 0 < m := by omega
    have bit : ∀ i, i < m → 0 < N row ((m * M + 1 + i : Nat) : Int) := fun i hi => by
      refine snd _ ?_
      have := congrArg (fun x => Nat.testBit x i) o3
      simp only [Nat.testBit_mod_two_pow, Nat.testBit_shiftRight, Nat.testBit_two_pow_sub_one, decide_eq_true hi, Bool.true_and] at this
      exact this
    have k := bit ((a - (m * M + 1)) % m) (Nat.mod_lt _ m0)
    have k2 := N_mul hpos hm ((a - (m * M + 1)) / m) a
    have e : (a : Int) - (m : Int) * ((a - (m * M + 1)) / m : Nat) = ((m * M + 1 + (a - (m * M + 1)) % m : Nat) : Int) := by
      have := Nat.div_add_mod (a - (m * M + 1)) m
      rw [← Int.natCast_mul]
      omega
    rw [e] at k2
    omega
end Qu
end

section
-- QuI
set_option Elab.async false
set_option linter.all false
set_option maxRecDepth 100000
set_option maxHeartbeats 4000000
/-! firsts with rests, how many gaps, pairs -/
namespace Qu
/-- gaps below n -/
def gapL (row : List Int) (n : Nat) : List Nat := (List.range n).filter fun (a : Nat) => decide (N row (a : Int) = 0)
def fP (row : List Int) (m r a : Nat) : Bool := decide (a % m = r) && decide (0 < N row (a : Int))
def first (row : List Int) (m r : Nat) : Nat := ((List.range 401).find? (fP row m r)).getD 0
/-- what is known of a row's least and greatest -/
structure LG (row : List Int) (m M : Nat) : Prop where
  ok : ∀ p ∈ row, 1 ≤ p ∧ p ≤ 12
  g : G row = 1
  hm : (m : Int) ∈ row
  hM : (M : Int) ∈ row
  le : ∀ p ∈ row, (m : Int) ≤ p
  ge : ∀ p ∈ row, p ≤ (M : Int)
section
variable {row : List Int} {m M : Nat} (L : LG row m M)
include L
theorem LG.m0 : 0 < m ∧ m ≤ 12 := by have := L.ok _ L.hm; omega
theorem LG.M0 : 0 < M ∧ M ≤ 12 := by have := L.ok _ L.hM; omega
theorem LG.most : m * M ≤ 144 := Nat.mul_le_mul L.m0.2 L.M0.2
theorem LG.pos : ∀ p ∈ row, 0 < p := fun p hp => by have := L.ok p hp; omega
theorem LG.no {a : Nat} (h : m * M < a) : 0 < N row a := no_gap L.ok L.g L.hm L.hM L.le L.ge h
theorem LG.gaps {n : Nat} (h : m * M < n) : gapL row n = gapL row (m * M + 1) := by
  obtain ⟨d, rfl⟩ : ∃ d, n = (m * M + 1) + d := ⟨n - (m * M + 1), by omega⟩
  unfold gapL
  rw [List.range_add, List.filter_append]
  have : ((List.range d).map (m * M + 1 + ·)).filter (fun (a : Nat) => decide (N row (a : Int) = 0)) = [] := by
    rw [List.filter_eq_nil_iff]
    intro a ha
    obtain ⟨b, _, rfl⟩ := List.mem_map.mp ha
    have := L.no (a := m * M + 1 + b) (by omega)
    simp only [decide_eq_true_eq]
    omega
  rw [this, List.append_nil]
theorem LG.gap_le {n a : Nat} (h : a ∈ gapL row n) : a ≤ m * M := by
  unfold gapL at h
  have h2 := of_decide_eq_true (List.mem_filter.mp h).2
  rcases Nat.lt_or_ge (m * M) a with z | z
  · have := L.no z; omega
  · exact z
theorem LG.find {n r : Nat} (hr : r < m) (hn : m * M + m + 1 ≤ n) : ∃ x, (List.range n).find? (fP row m r) = some x ∧ x ≤ m * M + m ∧ fP row m r x = true ∧ ∀ j, j < x → fP row m r j = false := by
  have m0 := L.m0
  have hx : fP row m r (m * M + (if r = 0 then m else r)) = true := by
    unfold fP
    simp only [Bool.and_eq_true, decide_eq_true_eq]
    split
    · rename_i z
      exact ⟨by rw [Nat.add_mod, Nat.mul_mod_right, Nat.mod_self]; simp [z], L.no (by omega)⟩
    · exact ⟨by rw [Nat.add_mod, Nat.mul_mod_right, Nat.zero_add, Nat.mod_mod, Nat.mod_eq_of_lt hr], L.no (by omega)⟩
  have hb : m * M + (if r = 0 then m else r) ≤ m * M + m := by split <;> omega
  cases e : (List.range n).find? (fP row m r) with
  | none =>
    have := List.find?_eq_none.mp e _ (List.mem_range.mpr (show m * M + (if r = 0 then m else r) < n by omega))
    rw [hx] at this
    exact absurd rfl this
  | some x =>
    obtain ⟨h1, h2, h3⟩ := List.find?_range_eq_some.mp e
    refine ⟨x, rfl, ?_, h1, fun j hj => by simpa using h3 j hj⟩
    rcases Nat.lt_or_ge (m * M + (if r = 0 then m else r)) x with z | z
    · have := h3 _ z
      rw [hx] at this
      cases this
    · omega
theorem LG.first {r : Nat} (hr : r < m) : first row m r ≤ m * M + m ∧ fP row m r (first row m r) = true ∧ ∀ j, j < first row m r → fP row m r j = false := by
  have := L.most
  have := L.m0
  obtain ⟨x, h1, h2, h3, h4⟩ := L.find hr (n := 401) (by omega)
  have e : Qu.first row m r = x := by unfold Qu.first; rw [h1]; rfl
  rw [e]
  exact ⟨h2, h3, h4⟩
theorem LG.find_eq {n r : Nat} (hr : r < m) (hn : m * M + m + 1 ≤ n) : (List.range n).find? (fP row m r) = some (Qu.first row m r) := by
  obtain ⟨x, h1, h2, h3, h4⟩ := L.find hr hn
  obtain ⟨k1, k2, k3⟩ := L.first hr
  rw [h1]
  congr 1
  rcases Nat.lt_trichotomy x (Qu.first row m r) with z | z | z
  · have := k3 _ z; rw [h3] at this; cases this
  · exact z
  · have := h4 _ z; rw [k2] at this; cases this
theorem LG.gap_iff {r : Nat} (hr : r < m) (q : Nat) : decide (N row ((r + m * q : Nat) : Int) = 0) = decide (q < Qu.first row m r / m) := by
  obtain ⟨_, k2, k3⟩ := L.first hr
  have m0 := L.m0.1
  unfold fP at k2
  simp only [Bool.and_eq_true, decide_eq_true_eq] at k2
  have e : Qu.first row m r = r + m * (Qu.first row m r / m) := by
    have := Nat.mod_add_div (Qu.first row m r) m
    omega
  generalize Qu.first row m r / m = t at e ⊢
  rw [decide_eq_decide]
  have nn := N_nn L.pos ((r + m * q : Nat) : Int)
  constructor
  · intro h
    rcases Nat.lt_or_ge q t with z | z
    · exact z
    · exfalso
      obtain ⟨c, rfl⟩ : ∃ c, q = t + c := ⟨q - t, by omega⟩
      have k := N_mul L.pos L.hm c ((r + m * (t + c) : Nat) : Int)
      have e2 : ((r + m * (t + c) : Nat) : Int) - (m : Int) * c = ((Qu.first row m r : Nat) : Int) := by
        rw [e, Nat.mul_add, ← Int.natCast_mul]; omega
      rw [e2] at k
      omega
  · intro h
    have hlt : r + m * q < Qu.first row m r := by
      rw [e]
      have : m * (q + 1) ≤ m * t := Nat.mul_le_mul_left m h
      rw [Nat.mul_add] at this
      omega
    have := k3 _ hlt
    unfold fP at this
    have e3 : (r + m * q) % m = r := by rw [Nat.add_mul_mod_self_left, Nat.mod_eq_of_lt hr]
    rw [decide_eq_true e3, Bool.true_and] at this
    have := of_decide_eq_false this
    omega
end
theorem min_step (t : Nat → Nat) (K : Nat) : ∀ l : List Nat, (l.map fun r => min (t r) (K + 1)).sum = (l.map fun r => min (t r) K).sum + (l.filter fun r => decide (K < t r)).length
  | [] => rfl
  | r :: l => by
    have := min_step t K l
    rw [List.map_cons, List.sum_cons, List.map_cons, List.sum_cons, List.filter_cons]
    split
    · rename_i h
      have := of_decide_eq_true h
      rw [List.length_cons]; omega
    · rename_i h
      have : ¬ K < t r := fun z => h (decide_eq_true z)
      omega
theorem count_min {m : Nat} {g : Nat → Bool} {t : Nat → Nat} (h : ∀ r, r < m → ∀ q, g (r + m * q) = decide (q < t r)) : ∀ K, ((List.range (m * K)).filter g).length = ((List.range m).map fun r => min (t r) K).sum
  | 0 => by
    have : ∀ l : List Nat, (l.map fun r => min (t r) 0).sum = 0 := by
      intro l
      induction l with
      | nil => rfl
      | cons x l ih => rw [List.map_cons, List.sum_cons, ih]; omega
    rw [this]; rfl
  | K + 1 => by
    rw [min_step, Nat.mul_add, Nat.mul_one, List.range_add, List.filter_append, List.length_append, count_min h K]
    congr 1
    rw [List.filter_map, List.length_map]
    congr 1
    apply List.filter_congr
    intro r hr
    have := h r (List.mem_range.mp hr) K
    simp only [Function.comp]
    rw [Nat.add_comm, this]
theorem LG.count {row : List Int} {m M : Nat} (L : LG row m M) : (gapL row 401).length = ((List.range m).map fun r => Qu.first row m r / m).sum := by
  have m0 := L.m0
  have mm := L.most
  have h1 : gapL row 401 = gapL row (m * 401) := by
    rw [L.gaps (n := 401) (by omega), L.gaps (n := m * 401) (by have := Nat.mul_le_mul_right 401 m0.1; omega)]
  rw [h1]
  unfold gapL
  rw [count_min (fun r hr q => L.gap_iff hr q)]
  congr 1
  apply List.map_congr_left
  intro r hr
  have := (L.first (List.mem_range.mp hr)).1
  have : Qu.first row m r / m ≤ Qu.first row m r := Nat.div_le_self _ _
  omega
/-! ### pairs -/
theorem S_pos {p : Int} (hp : 0 < p) {f : Int → Int} (hn : ∀ a, a < 0 → f a = 0) (h0 : ∀ a, 0 ≤ f a) : ∀ (n : Nat) (a : Int), a.toNat = n → (0 < S p f a ↔ ∃ t : Nat, 0 < f (a - p * t)) ∧ 0 ≤ S p f a := by
  intro n
  induction n using Nat.strongRecOn with
  | ind n ih =>
    intro a hn2
    by_cases c : a < 0
    · rw [S_neg c]
      refine ⟨⟨fun h => absurd h (by decide), fun ⟨t, h⟩ => ?_⟩, Int.le_refl _⟩
      have : 0 ≤ p * t := Int.mul_nonneg (by omega) (by omega)
      rw [hn _ (by omega)] at h
      exact h
    · rw [S_eq hp hn a]
      have hf := h0 a
      have step : ((0 < S p f (a - p) ↔ ∃ t : Nat, 0 < f (a - p - p * t)) ∧ 0 ≤ S p f (a - p)) := by
        by_cases z : a = 0
        · subst z
          rw [S_neg (by omega)]
          refine ⟨⟨fun h => absurd h (by decide), fun ⟨t, h⟩ => ?_⟩, Int.le_refl _⟩
          have : 0 ≤ p * t := Int.mul_nonneg (by omega) (by omega)
          rw [hn _ (by omega)] at h
          exact h
        · exact ih (a - p).toNat (by omega) (a - p) rfl
      refine ⟨⟨fun h => ?_, fun ⟨t, ht⟩ => ?_⟩, by omega⟩
      · by_cases z : 0 < f a
        · exact ⟨0, by simpa using z⟩
        · obtain ⟨t, ht⟩ := step.1.mp (by omega)
          exact ⟨t + 1, by rw [show a - p * ((t + 1 : Nat) : Int) = a - p - p * t by rw [Int.natCast_succ, Int.mul_add]; omega]; exact ht⟩
      · cases t with
        | zero => simp at ht; omega
        | succ t =>
          have := step.1.mpr ⟨t, by rw [show a - p - p * t = a - p * ((t + 1 : Nat) : Int) by rw [Int.natCast_succ, Int.mul_add]; omega]; exact ht⟩
          omega
def rp (x y a : Nat) : Bool := (List.range (a / y + 1)).any fun t => (a - y * t) % x == 0
theorem rp_iff {x y : Nat} (hx : 0 < x) (hy : 0 < y) (a : Nat) : decide (N [(x : Int), (y : Int)] (a : Int) = 0) = !rp x y a := by
  have e : N [(x : Int), (y : Int)] = S y (S x one0) := rfl
  have o0 : ∀ a, 0 ≤ one0 a := fun a => by unfold one0; split <;> omega
  have on : ∀ a, a < 0 → one0 a = 0 := fun a h => if_neg (by omega)
  have s1 := fun b => S_pos (p := (x : Int)) (by omega) on o0 _ b rfl
  have s2 := S_pos (p := (y : Int)) (by omega) (f := S x one0) (fun b h => S_neg h) (fun b => (s1 b).2) _ (a : Int) rfl
  rw [e]
  have key : 0 < S y (S x one0) (a : Int) ↔ rp x y a = true := by
    rw [s2.1]
    unfold rp
    rw [List.any_eq_true]
    constructor
    · rintro ⟨t, ht⟩
      obtain ⟨s, hs⟩ := (s1 _).1.mp ht
      have hz : (a : Int) - y * t - x * s = 0 := by
        unfold one0 at hs
        split at hs
        · assumption
        · omega
      have hz2 : a = y * t + x * s := by
        rw [← Int.natCast_mul, ← Int.natCast_mul] at hz
        omega
      have ht2 : t ≤ a / y := by
        rw [Nat.le_div_iff_mul_le hy, Nat.mul_comm]; omega
      refine ⟨t, List.mem_range.mpr (by omega), ?_⟩
      rw [show a - y * t = x * s by omega, Nat.mul_mod_right]; rfl
    · rintro ⟨t, ht, h⟩
      have ht := List.mem_range.mp ht
      have hle : y * t ≤ a := by
        have : t ≤ a / y := by omega
        rw [Nat.le_div_iff_mul_le hy, Nat.mul_comm] at this
        exact this
      have hd := Nat.div_add_mod (a - y * t) x
      rw [show (a - y * t) % x = 0 by simpa using h] at hd
      refine ⟨t, (s1 _).1.mpr ⟨(a - y * t) / x, ?_⟩⟩
      have : (a : Int) - y * t - x * ((a - y * t) / x : Nat) = 0 := by
        rw [← Int.natCast_mul, ← Int.natCast_mul]
        omega
      rw [this]; decide
  cases hr : rp x y a with
  | true =>
    have := key.mpr hr
    simp only [Bool.not_true, decide_eq_false_iff_not]
    omega
  | false =>
    have h1 : ¬ 0 < S y (S x one0) (a : Int) := fun z => by rw [key.mp z] at hr; cases hr
    have h2 := s2.2
    simp only [Bool.not_false, decide_eq_true_eq]
    omega
def prB (x y : Nat) : Bool := !(Nat.gcd x y == 1) || (((List.range ((x - 1) * (y - 1))).all fun a => rp x y a != rp x y ((x - 1) * (y - 1) - 1 - a)) && (decide (2 * ((List.range (x * y + 1)).filter fun a => !rp x y a).length = (x - 1) * (y - 1)) && ((List.range (x * y + 1)).filter fun a => !rp x y a).all fun a => decide (a < (x - 1) * (y - 1))))
theorem pr_all : ((List.range 12).all fun i => (List.range 12).all fun j => prB (i + 1) (j + 1)) = true := by decide +kernel
theorem pr_ok {x y : Nat} (hx : 1 ≤ x ∧ x ≤ 12) (hy : 1 ≤ y ∧ y ≤ 12) (g : Nat.gcd x y = 1) : (∀ a, a < (x - 1) * (y - 1) → (a ∈ gapL [(x : Int), (y : Int)] (x * y + 1) ↔ (x - 1) * (y - 1) - 1 - a ∉ gapL [(x : Int), (y : Int)] (x * y + 1))) ∧ 2 * (gapL [(x : Int), (y : Int)] (x * y + 1)).length = (x - 1) * (y - 1) ∧ ∀ a ∈ gapL [(x : Int), (y : Int)] (x * y + 1), a < (x - 1) * (y - 1) := by
  have h := List.all_eq_true.mp (List.all_eq_true.mp pr_all (x - 1) (List.mem_range.mpr (by omega))) (y - 1) (List.mem_range.mpr (by omega))
  rw [show x - 1 + 1 = x by omega, show y - 1 + 1 = y by omega] at h
  unfold prB at h
  rw [g] at h
  simp only [beq_self_eq_true, Bool.not_true, Bool.false_or, Bool.and_eq_true, List.all_eq_true, decide_eq_true_eq, List.mem_range] at h
  obtain ⟨h1, h2, h3⟩ := h
  have eg : gapL [(x : Int), (y : Int)] (x * y + 1) = (List.range (x * y + 1)).filter fun a => !rp x y a := by
    unfold gapL
    apply List.filter_congr
    intro a _
    exact rp_iff (by omega) (by omega) a
  have lt : (x - 1) * (y - 1) ≤ x * y := Nat.mul_le_mul (by omega) (by omega)
  rw [eg]
  refine ⟨fun a ha => ?_, h2, h3⟩
  have h4 := h1 a ha
  have h4 : rp x y a ≠ rp x y ((x - 1) * (y - 1) - 1 - a) := by simpa using h4
  rw [List.mem_filter, List.mem_filter, List.mem_range, List.mem_range]
  generalize rp x y a = b1 at *
  generalize rp x y ((x - 1) * (y - 1) - 1 - a) = b2 at *
  cases b1 <;> cases b2 <;> simp at h4 ⊢ <;> omega
end Qu
end

section
-- MiniAE
set_option Elab.async false
set_option linter.all false
set_option maxRecDepth 100000
set_option maxHeartbeats 4000000
/-! Mini, part AE: gaps of rows, rows that are refused -/
namespace Mi
open PySem PySem.Spec PyProof.Rows L2
def shared_part_2 : Ss := (.cons (.asg 1 (.call "common" (.cons (.var 1) (.cons (.var 2) .nil)))) .nil)
def shared_part_3 : Ss := (.cons (.retv 1) .nil)
def shared_part_1 : Ss := (.cons (.fors (.nm 2) (.ex (.var 0))
 shared_part_2) shared_part_3)
def shared_part_0 : Ss := (.cons (.asg 1 (.cint 0)) shared_part_1)
def B_shared_part : Fun := ⟨["row"], 3, shared_part_0⟩
def gaps_of_2 : Ss := (.cons (.rai "NotCoprime") .nil)
def gaps_of_5 : Ss := (.cons (.ret (.bi .tuple (.cons (.comp [("amount", 3)] (.nm 3) (.rng1 (.cons (.bin .add (.pk 1) (.cint 1)) .nil)) (.yes (.cmp .eq (.ix (.pk 2) (.pk 3)) (.cint 0))) (.var 3)) .nil))) .nil)
def gaps_of_4 : Ss := (.cons (.asg 2 (.call "numbers_to" (.cons (.var 0) (.cons (.var 1) .nil)))) gaps_of_5)
def gaps_of_3 : Ss := (.cons (.asg 1 (.bin .mul (.bi .maxl (.cons (.pk 0) .nil)) (.bi .minl (.cons (.pk 0) .nil)))) gaps_of_4)
def gaps_of_1 : Ss := (.cons (.ifs (.cmp .ne (.call "shared_part" (.cons (.var 0) .nil)) (.cint 1))
 gaps_of_2
 .nil) gaps_of_3)
def gaps_of_0 : Ss := (.cons (.ex (.call "need_row" (.cons (.var 0) .nil))) gaps_of_1)
def B_gaps_of : Fun := ⟨["row"], 4, gaps_of_0⟩
def first_with_rests_2 : Ss := (.cons (.rai "NotCoprime") .nil)
def first_with_rests_7 : Ss := (.cons (.setIx 5 (.bin .mod (.pk 1) (.pk 2)) (.var 1)) .nil)
def first_with_rests_6 : Ss := (.cons (.ifs (.and (.cons (.cmp .gt (.ix (.pk 4) (.pk 1)) (.cint 0)) (.cons (.isn (.ix (.pk 5) (.bin .mod (.pk 1) (.pk 2)))) .nil)))
 first_with_rests_7
 .nil) .nil)
def first_with_rests_8 : Ss := (.cons (.ret (.bi .tuple (.cons (.pk 5) .nil))) .nil)
def first_with_rests_5 : Ss := (.cons (.fors (.nm 1) (.rng1 (.cons (.bin .add (.bin .add (.pk 3) (.pk 2)) (.cint 1)) .nil))
 first_with_rests_6) first_with_rests_8)
def first_with_rests_4 : Ss := (.cons (.par [4, 5] (.cons (.call "numbers_to" (.cons (.var 0) (.cons (.bin .add (.pk 3) (.pk 2)) .nil))) (.cons (.bin .mul (.lst (.cons .cnon .nil)) (.pk 2)) .nil))) first_with_rests_5)
def first_with_rests_3 : Ss := (.cons (.par [2, 3] (.cons (.bi .minl (.cons (.pk 0) .nil)) (.cons (.bin .mul (.bi .maxl (.cons (.pk 0) .nil)) (.bi .minl (.cons (.pk 0) .nil))) .nil))) first_with_rests_4)
def first_with_rests_1 : Ss := (.cons (.ifs (.cmp .ne (.call "shared_part" (.cons (.var 0) .nil)) (.cint 1))
 first_with_rests_2
 .nil) first_with_rests_3)
def first_with_rests_0 : Ss := (.cons (.ex (.call "need_row" (.cons (.var 0) .nil))) first_with_rests_1)
def B_first_with_rests : Fun := ⟨["row"], 6, first_with_rests_0⟩
structure HasGp (T : Tab) : Prop where
  pr : ∀ f, T.prim f = none
  cn : HasCnt T
  fr : HasFr T
  shared_part : T.fn.lookup ("shared_part" : Str) = some B_shared_part
  gaps_of : T.fn.lookup ("gaps_of" : Str) = some B_gaps_of
  first_with_rests : T.fn.lookup ("first_with_rests" : Str) = some B_first_with_rests
local macro_rules | `(tactic| walk_at "ev") => `(tactic| try simp only [pk_toP, vr_toP, fz_toP, ev_var, ev_pk, ev_cint, ev_cbl, ev_cstr, ev_cnon, ev_cst, ev_tup, ev_lst, ev_dct0, ev_bin, ev_neg, ev_not, ev_and, ev_or, ev_cmp, ev_chain, ev_isn, ev_nisn, ev_isb, ev_ite, ev_call, ev_callk, ev_mk, ev_mkk, ev_bi, ev_isin, ev_attr, ev_ix, ev_sl, ev_slS, ev_rev, ev_comp, ev_refd, ev_rep, ev_callv, ev_lamv, ev_fnv, calK_fn, calK_clo, ev_sleft, ev_sturn, ev_sgreat,
  els_nil, els_cons, er_nil, er_cons, eo_no, eo_yes, ec_no, ec_yes, sr_ex, sr_cells, sr_rng1, sr_rng2, sr_zip, sr_enum, ea_one, ea_cons, eor_one, eor_cons,
  ss_nil, ss_cons, st_asg, st_asgT, st_par, st_setIx, st_app, st_appPop, st_ex, st_ret, st_retv, st_retN, st_ifs, st_fors, st_whs, st_rai, st_rai1, st_pass, st_brk, st_cnt, st_frz, st_aug, st_setL, st_setT, st_mkst, nlsV_v, intsOf_ints,
  nlsK_v, augK_v, optK_some, optK_none, intK_v, tupK_v, blK_v, trK_bl, trK_int, bin_add, bin_sub, bin_mul, bin_fdiv, bin_mod, bin_pow, bin_addS, bin_addT, bin_addL, bin_mulL, bin_mulT, cmp_lt, cmp_le, cmp_gt, cmp_ge, cmp_eq, cmp_ne,
  bi_lenT, bi_lenL, bi_lenC, bi_lenS, bi_abs, bi_int, bi_max2, bi_min2, bi_sumT, bi_tupL, bi_tupT, bi_lstL, bi_lstT, ix_tup, ix_lst, sl_tup, sl_lst, slS_lst, rev_tup, rev_lst, walk_tup, walk_lst, walk_scr, rng1_v, rng2_v, zip_lst, zip_tup, enum_lst, enum_tup, bi_reprI, eqK_int,
  setAll, freeze, wipeE, bindTg, pk_non, pk_bl, pk_int, pk_str, pk_tup, pk_lst, pk_dct, pk_ins, pk_exc, pk_fn, pk_clo, pk_obj, pk_scr, pk_nls, vr_non, vr_bl, vr_int, vr_str, vr_tup, vr_lst, vr_dct, vr_ins, vr_exc, vr_fn, vr_clo, vr_obj, vr_scr, fz_int, fz_bl, fz_str, fz_obj, fz_tup, fz_lst, fz_nls, fz_non, fz_dct, fz_ins, fz_exc, fz_scr, fz_fn, fz_clo, fz_clo,
  List.map_cons, List.map_nil, List.filterMap_cons, List.filterMap_nil, eqK_str, List.length_cons, List.length_nil, List.replicate_succ, List.replicate_zero, List.cons_append, List.nil_append, List.getElem?_cons_zero, List.getElem?_cons_succ, List.set_cons_zero, List.set_cons_succ, Nat.sub_self, Nat.reduceSub, Nat.reduceAdd, Nat.zero_add, stAt_W, set_W, decide_true, decide_false, if_true, if_false, Bool.false_eq_true, true_and, and_true, List.foldl_cons, List.foldl_nil, List.zip_cons_cons, List.zip_nil_left, List.zip_nil_right, isi_non_bool, isi_non_int, isi_non_str, isi_non_tuple, isi_non_list, isi_non_dict, isi_non_ValueError, isi_bl_bool, isi_bl_int, isi_bl_str, isi_bl_tuple, isi_bl_list, isi_bl_dict, isi_bl_ValueError, isi_int_bool, isi_int_int, isi_int_str, isi_int_tuple, isi_int_list, isi_int_dict, isi_int_ValueError, isi_str_bool, isi_str_int, isi_str_str, isi_str_tuple, isi_str_list, isi_str_dict, isi_str_ValueError, isi_tup_bool, isi_tup_int, isi_tup_str, isi_tup_tuple, isi_tup_list, isi_tup_dict, isi_tup_ValueError, isi_lst_bool, isi_lst_int, isi_lst_str, isi_lst_tuple, isi_lst_list, isi_lst_dict, isi_lst_ValueError, isi_dct_bool, isi_dct_int, isi_dct_str, isi_dct_tuple, isi_dct_list, isi_dct_dict, isi_dct_ValueError, Bool.not_true, Bool.not_false, atI_0, atI_1, atI_2, le_sizeT, lt_sizeT, Nat.reduceLeDiff])
theorem bi_minT {row : List Int} {K : PV → Prop} : biK .minl [.tup (row.map PV.int)] K = (0 < row.length ∧ ∀ m, isMin row m → K (.int m)) := by simp only [biK, intsOf_ints]
theorem bi_maxT {row : List Int} {K : PV → Prop} : biK .maxl [.tup (row.map PV.int)] K = (0 < row.length ∧ ∀ m, isMax row m → K (.int m)) := by simp only [biK, intsOf_ints]
theorem bi_minL {row : List Int} {K : PV → Prop} : biK .minl [.lst (row.map PV.int)] K = (0 < row.length ∧ ∀ m, isMin row m → K (.int m)) := by simp only [biK, intsOf_ints]
/-- counted rows -/
def isRow : PV → Bool
  | .tup vs => decide (1 ≤ vs.length ∧ vs.length ≤ 5) && vs.all (isN 1 12)
  | _ => false
theorem is_counted_any {T : Tab} (hT : HasCnt T) {μ : Mu} {v : PV} {d : Nat} {k kx : KE} (hv : plB v = true) (hk : k (.bl (isRow v)) μ) : (gam T (d + 3)).call "is_counted_row" [v] μ k kx := by
  refine call_fn hT.pr hT.is_counted_row (d + 2) ⟨rfl, ?_⟩
  simp only [B_is_counted_row, is_counted_row_0]
  have no : ∀ {A : EndP} {ρ : Env} {μ : Mu}, A.rt (.bl false) μ → exSs (gam T (d + 2)) is_counted_row_1 ρ μ A := fun h => by
    simp only [is_counted_row_1]
    walk_at "ev"
    exact h
  cases v with
  | tup vs =>
    walk_at "ev"
    simp only [cst_of hT.MOST_PARTS]
    walk_at "ev"
    by_cases a1 : 1 ≤ vs.length
    · rw [if_pos (by simp; omega)]
      by_cases a2 : vs.length ≤ 5
      · rw [decide_eq_true (show ((vs.length : Nat) : Int) ≤ 5 by omega)]
        walk_at "ev"
        simp only [is_counted_row_2]
        walk_at "ev"
        refine compE_mapV (fun v => PV.bl (isN 1 12 v)) vs (le_size (by omega)) (fun x hx => ⟨_, rfl, fun N hN => ?_⟩) ?_
        · have hx := plBs_mem (vs := vs) hv x hx
          walk_at "ev"
          simp only [vr_any (plB_own hx), fz_any (plB_own hx), cst_of hT.MOST_PART]
          walk_at "ev"
          exact is_number_any hT hx (by decide) (by decide) (hN _ rfl)
        · walk_at "ev"
          rw [bi_allV]
          have e : isRow (.tup vs) = vs.all (isN 1 12) := by simp [isRow, a1, a2]
          rw [← e]; exact hk
      · rw [decide_eq_false (show ¬ ((vs.length : Nat) : Int) ≤ 5 by omega)]
        walk_at "ev"
        have : isRow (.tup vs) = false := by simp [isRow, a2]
        rw [this] at hk
        exact no hk
    · rw [if_neg (by simp; omega)]
      walk_at "ev"
      have : isRow (.tup vs) = false := by simp [isRow, a1]
      rw [this] at hk
      exact no hk
  | int i => walk_at "ev"; exact no hk
  | non => walk_at "ev"; exact no hk
  | bl b => walk_at "ev"; exact no hk
  | str x => walk_at "ev"; exact no hk
  | lst vs => walk_at "ev"; exact no hk
  | dct ks vs => walk_at "ev"; exact no hk
  | _ => simp [plB] at hv
theorem need_row_bad {T : Tab} (hT : HasCnt T) {μ : Mu} {v : PV} {d : Nat} {k kx : KE} (hv : plB v = true) (hr : isRow v = false) (hk : kx (.exc "BadRow" [] []) μ) : (gam T (d + 4)).call "need_row" [v] μ k kx := by
  refine call_fn hT.pr hT.need_row (d + 3) ⟨rfl, ?_⟩
  simp only [B_need_row, need_row_0]
  walk_at "ev"
  simp only [vr_any (plB_own hv), fz_any (plB_own hv)]
  refine is_counted_any hT hv ?_
  rw [hr]
  walk_at "ev"
  simp only [need_row_1]
  walk_at "ev"
  exact hk
theorem plans_number_badrow {T : Tab} (hT : HasPn T) {μ : Mu} {v w : PV} {d : Nat} {k kx : KE} (hv : plB v = true) (hr : isRow v = false) (hk : kx (.exc "BadRow" [] []) μ) : (gam T (d + 5)).call "plans_number" [v, w] μ k kx := by
  refine call_fn hT.pr hT.plans_number (d + 4) ⟨rfl, ?_⟩
  simp only [B_plans_number, plans_number_0]
  walk_at "ev"
  simp only [vr_any (plB_own hv), fz_any (plB_own hv)]
  exact need_row_bad hT.cn hv hr hk
theorem quasi_of_bad {T : Tab} (hT : HasQu T) {μ : Mu} {v : PV} {d : Nat} {k kx : KE} (hv : plB v = true) (hr : isRow v = false) (hk : kx (.exc "BadRow" [] []) μ) : (gam T (d + 6)).call "quasi_of" [v] μ k kx := by
  refine call_fn hT.pr hT.quasi_of (d + 5) ⟨rfl, ?_⟩
  simp only [B_quasi_of, quasi_of_0]
  walk_at "ev"
  simp only [vr_any (plB_own hv), fz_any (plB_own hv)]
  refine call_fn hT.pr hT.need_round (d + 4) ⟨rfl, ?_⟩
  simp only [B_need_round, need_round_0]
  walk_at "ev"
  simp only [vr_any (plB_own hv), fz_any (plB_own hv)]
  exact need_row_bad hT.cn hv hr hk
theorem shared_part_ok {T : Tab} (hT : HasGp T) {μ : Mu} {row : List Int} {d : Nat} {k kx : KE} (h : ∀ p ∈ row, 1 ≤ p) (hk : k (.int (Qu.G row)) μ) : (gam T (d + 2)).call "shared_part" [.tup (row.map PV.int)] μ k kx := by
  refine call_fn hT.pr hT.shared_part (d + 1) ⟨rfl, ?_⟩
  simp only [B_shared_part, shared_part_0]
  walk_at "ev"
  simp only [shared_part_1]
  walk_at "ev"
  refine forE_ind (fun xs ρ μ' => ∃ (l1 l2 : List Int) (a : Option PV), row = l1 ++ l2 ∧ xs = l2.map PV.int ∧ ρ = [some (.tup (row.map PV.int)), some (.int (Qu.G l1)), a] ∧ μ' = μ) ?_ ?_ _ _ _ ⟨[], row, _, rfl, rfl, rfl, rfl⟩
  · rintro x xs ρ μ' ⟨l1, l2, a, hr, hx, rfl, rfl⟩
    cases l2 with
    | nil => cases hx
    | cons p l2 =>
      simp only [List.map_cons, List.cons.injEq] at hx
      obtain ⟨rfl, rfl⟩ := hx
      refine ⟨_, rfl, fun N hN => ?_⟩
      simp only [shared_part_2]
      walk_at "ev"
      refine common_ok hT.fr ?_
      walk_at "ev"
      refine hN _ _ ⟨l1 ++ [p], l2, some (.int p), by simp [hr], rfl, ?_, rfl⟩
      have : Qu.G (l1 ++ [p]) = Int.gcd (Qu.G l1) p := by
        have h1 := h p (by rw [hr]; simp)
        simp only [Qu.G, List.foldl_append, List.foldl_cons, List.foldl_nil]
        unfold Int.gcd
        congr 1
        omega
      rw [this]
  · rintro ρ μ' ⟨l1, l2, a, hr, hx, rfl, rfl⟩
    obtain rfl : l2 = [] := by simpa using hx.symm
    simp only [shared_part_3]
    walk_at "ev"
    rw [List.append_nil] at hr
    rw [← hr]; exact hk
theorem LG_of {row : List Int} (h : RowOk row) (g : Qu.G row = 1) {m M : Int} (hm : isMin row m) (hM : isMax row M) : ∃ a b : Nat, m = (a : Int) ∧ M = (b : Int) ∧ Qu.LG row a b := by
  have h1 := h.part _ hm.1
  have h2 := h.part _ hM.1
  obtain ⟨a, rfl⟩ : ∃ a : Nat, m = (a : Int) := ⟨m.toNat, by omega⟩
  obtain ⟨b, rfl⟩ : ∃ b : Nat, M = (b : Int) := ⟨M.toNat, by omega⟩
  exact ⟨a, b, rfl, rfl, h.part, g, hm.1, hM.1, hm.2, hM.2⟩
theorem gaps_of_cop {T : Tab} (hT : HasGp T) {μ : Mu} {row : List Int} {d : Nat} {k kx : KE} (h : RowOk row) (g : Qu.G row ≠ 1) (hk : kx (.exc "NotCoprime" [] []) μ) : (gam T (d + 5)).call "gaps_of" [.tup (row.map PV.int)] μ k kx := by
  refine call_fn hT.pr hT.gaps_of (d + 4) ⟨rfl, ?_⟩
  simp only [B_gaps_of, gaps_of_0]
  walk_at "ev"
  refine need_row_ok hT.cn h ?_
  walk_at "ev"
  simp only [gaps_of_1]
  walk_at "ev"
  refine shared_part_ok hT (fun p hp => (h.part p hp).1) ?_
  walk_at "ev"
  rw [decide_eq_false (show ¬ ((Qu.G row : Nat) : Int) = 1 by omega)]
  walk_at "ev"
  simp only [gaps_of_2]
  walk_at "ev"
  exact hk
theorem gaps_of_bad {T : Tab} (hT : HasGp T) {μ : Mu} {v : PV} {d : Nat} {k kx : KE} (hv : plB v = true) (hr : isRow v = false) (hk : kx (.exc "BadRow" [] []) μ) : (gam T (d + 5)).call "gaps_of" [v] μ k kx := by
  refine call_fn hT.pr hT.gaps_of (d + 4) ⟨rfl, ?_⟩
  simp only [B_gaps_of, gaps_of_0]
  walk_at "ev"
  simp only [vr_any (plB_own hv), fz_any (plB_own hv)]
  exact need_row_bad hT.cn hv hr hk
theorem first_with_rests_cop {T : Tab} (hT : HasGp T) {μ : Mu} {row : List Int} {d : Nat} {k kx : KE} (h : RowOk row) (g : Qu.G row ≠ 1) (hk : kx (.exc "NotCoprime" [] []) μ) : (gam T (d + 5)).call "first_with_rests" [.tup (row.map PV.int)] μ k kx := by
  refine call_fn hT.pr hT.first_with_rests (d + 4) ⟨rfl, ?_⟩
  simp only [B_first_with_rests, first_with_rests_0]
  walk_at "ev"
  refine need_row_ok hT.cn h ?_
  walk_at "ev"
  simp only [first_with_rests_1]
  walk_at "ev"
  refine shared_part_ok hT (fun p hp => (h.part p hp).1) ?_
  walk_at "ev"
  rw [decide_eq_false (show ¬ ((Qu.G row : Nat) : Int) = 1 by omega)]
  walk_at "ev"
  simp only [first_with_rests_2]
  walk_at "ev"
  exact hk
theorem first_with_rests_bad {T : Tab} (hT : HasGp T) {μ : Mu} {v : PV} {d : Nat} {k kx : KE} (hv : plB v = true) (hr : isRow v = false) (hk : kx (.exc "BadRow" [] []) μ) : (gam T (d + 5)).call "first_with_rests" [v] μ k kx := by
  refine call_fn hT.pr hT.first_with_rests (d + 4) ⟨rfl, ?_⟩
  simp only [B_first_with_rests, first_with_rests_0]
  walk_at "ev"
  simp only [vr_any (plB_own hv), fz_any (plB_own hv)]
  exact need_row_bad hT.cn hv hr hk

def natsP (l : List Nat) : List PV := l.map fun (a : Nat) => PV.int (a : Int)
theorem gaps_of_ok {T : Tab} (hT : HasGp T) {μ : Mu} {row : List Int} {d : Nat} {k kx : KE} (h : RowOk row) (g : Qu.G row = 1) (hk : ∀ m M : Nat, Qu.LG row m M → k (.tup (natsP (Qu.gapL row (m * M + 1)))) μ) : (gam T (d + 5)).call "gaps_of" [.tup (row.map PV.int)] μ k kx := by
  refine call_fn hT.pr hT.gaps_of (d + 4) ⟨rfl, ?_⟩
  have hp : ∀ p ∈ row, 1 ≤ p ∧ p ≤ 1000000 := fun p hp => by have := h.part p hp; omega
  have l0 : 0 < row.length := List.length_pos_iff.mpr h.ne
  simp only [B_gaps_of, gaps_of_0]
  walk_at "ev"
  refine need_row_ok hT.cn h ?_
  walk_at "ev"
  simp only [gaps_of_1]
  walk_at "ev"
  refine shared_part_ok hT (fun p hp => (h.part p hp).1) ?_
  walk_at "ev"
  rw [decide_eq_true (show ((Qu.G row : Nat) : Int) = 1 by omega)]
  walk_at "ev"
  simp only [gaps_of_3]
  walk_at "ev"
  rw [bi_maxT]
  refine ⟨l0, fun M hM => ?_⟩
  walk_at "ev"
  rw [bi_minT]
  refine ⟨l0, fun m hm => ?_⟩
  obtain ⟨a, b, rfl, rfl, L⟩ := LG_of h g hm hM
  walk_at "ev"
  have mm := L.most
  have a0 := L.m0
  have b0 := L.M0
  refine ⟨mulOk_r (by omega) (by omega), ?_⟩
  have eab : (b : Int) * (a : Int) = ((a * b : Nat) : Int) := by rw [Nat.mul_comm, Int.natCast_mul]
  rw [eab]
  generalize hab : a * b = ab at *
  simp only [gaps_of_4]
  walk_at "ev"
  refine numbers_to_ok hT.cn hp (by omega) (by omega) ?_
  walk_at "ev"
  simp only [gaps_of_5]
  walk_at "ev"
  refine ⟨by omega, ?_⟩
  rw [show ((ab : Int) + 1).toNat = ab + 1 by omega, rngL_map]
  refine compE_filter (fun c : Nat => decide (Qu.N row (c : Int) = 0)) (fun c : Nat => PV.int (0 + (c : Int))) (fun c : Nat => PV.int (c : Int)) _ (le_size (by simp; omega)) (fun c hc => ⟨_, rfl, fun N hN => ⟨?_, fun hx N2 hN2 => ?_⟩⟩) ?_
  · have hc := List.mem_range.mp hc
    walk_at "ev"
    rw [tabI_get (n := ab + 1) (by omega) (by omega)]
    walk_at "ev"
    rw [Int.zero_add]
    exact hN
  · walk_at "ev"
    refine hN2 _ ?_
    rw [Int.zero_add]; rfl
  · walk_at "ev"
    have := hk a b L
    rw [hab] at this
    exact this
/-- firsts that are found below j -/
def fdV (row : List Int) (m j : Nat) : List PV := (List.range m).map fun r => match (List.range j).find? (Qu.fP row m r) with
  | none => PV.non
  | some a => PV.int (a : Int)
theorem fdV_len (row : List Int) (m j : Nat) : (fdV row m j).length = m := by simp [fdV]
theorem fdV_zero (row : List Int) (m : Nat) : fdV row m 0 = (List.replicate m [PV.non]).flatten := by
  have : ∀ m, (List.replicate m [PV.non]).flatten = List.replicate m PV.non := fun m => by
    induction m with
    | zero => rfl
    | succ m ih => rw [List.replicate_succ, List.flatten_cons, ih]; rfl
  rw [this]
  apply List.ext_getElem
  · simp [fdV]
  · intro i h1 h2
    simp [fdV]
theorem find_succ (p : Nat → Bool) (j : Nat) : (List.range (j + 1)).find? p = ((List.range j).find? p).or (if p j then some j else none) := by
  rw [List.range_succ, List.find?_append]
  congr 1
  rw [List.find?_cons]
  split <;> simp_all
theorem fdV_no {row : List Int} {m j : Nat} (h : ¬ 0 < Qu.N row (j : Int)) : fdV row m (j + 1) = fdV row m j := by
  unfold fdV
  apply List.map_congr_left
  intro r _
  rw [find_succ, if_neg (by unfold Qu.fP; simp [h]), Option.or_none]
theorem fdV_old {row : List Int} {m j a : Nat} (h : (List.range j).find? (Qu.fP row m (j % m)) = some a) : fdV row m (j + 1) = fdV row m j := by
  unfold fdV
  apply List.map_congr_left
  intro r _
  rw [find_succ]
  by_cases e : j % m = r
  · subst e
    rw [h]; rfl
  · rw [if_neg (by unfold Qu.fP; simp [e]), Option.or_none]
theorem fdV_new {row : List Int} {m j : Nat} (h0 : 0 < Qu.N row (j : Int)) (h : (List.range j).find? (Qu.fP row m (j % m)) = none) : (fdV row m j).set (j % m) (PV.int (j : Int)) = fdV row m (j + 1) := by
  apply List.ext_getElem
  · simp [fdV]
  · intro r h1 h2
    simp only [fdV, List.getElem_set, List.getElem_map, List.getElem_range]
    rw [find_succ]
    by_cases e : j % m = r
    · subst e
      rw [if_pos rfl, h, if_pos (by unfold Qu.fP; simp [h0])]
      rfl
    · rw [if_neg e, if_neg (by unfold Qu.fP; simp [e]), Option.or_none]
theorem fdV_get {row : List Int} {m j : Nat} {i : Nat} (hi : i < m) : atI (fdV row m j) (i : Int) = some (match (List.range j).find? (Qu.fP row m i) with
  | none => PV.non
  | some a => PV.int (a : Int)) := by
  rw [atI_of (by omega) (by rw [fdV_len]; omega)]
  simp only [fdV, Int.toNat_natCast, List.getElem?_map, List.getElem?_range hi, Option.map_some]
theorem fdV_end {row : List Int} {m M : Nat} (L : Qu.LG row m M) : fdV row m (m * M + m + 1) = natsP ((List.range m).map (Qu.first row m)) := by
  unfold fdV natsP
  rw [List.map_map]
  apply List.map_congr_left
  intro r hr
  rw [L.find_eq (List.mem_range.mp hr) (Nat.le_refl _)]
  rfl
theorem first_with_rests_ok {T : Tab} (hT : HasGp T) {μ : Mu} {row : List Int} {d : Nat} {k kx : KE} (h : RowOk row) (g : Qu.G row = 1) (hk : ∀ m M : Nat, Qu.LG row m M → k (.tup (natsP ((List.range m).map (Qu.first row m)))) μ) : (gam T (d + 5)).call "first_with_rests" [.tup (row.map PV.int)] μ k kx := by
  refine call_fn hT.pr hT.first_with_rests (d + 4) ⟨rfl, ?_⟩
  have hp : ∀ p ∈ row, 1 ≤ p ∧ p ≤ 1000000 := fun p hp => by have := h.part p hp; omega
  have l0 : 0 < row.length := List.length_pos_iff.mpr h.ne
  simp only [B_first_with_rests, first_with_rests_0]
  walk_at "ev"
  refine need_row_ok hT.cn h ?_
  walk_at "ev"
  simp only [first_with_rests_1]
  walk_at "ev"
  refine shared_part_ok hT (fun p hp => (h.part p hp).1) ?_
  walk_at "ev"
  rw [decide_eq_true (show ((Qu.G row : Nat) : Int) = 1 by omega)]
  walk_at "ev"
  simp only [first_with_rests_3]
  walk_at "ev"
  rw [bi_minT]
  refine ⟨l0, fun m hm => ?_⟩
  walk_at "ev"
  rw [bi_maxT]
  refine ⟨l0, fun M hM => ?_⟩
  walk_at "ev"
  rw [bi_minT]
  refine ⟨l0, fun m2 hm2 => ?_⟩
  obtain ⟨a, b, rfl, rfl, L⟩ := LG_of h g hm hM
  obtain rfl : m2 = (a : Int) := Int.le_antisymm (hm2.2 _ hm.1) (hm.2 _ hm2.1)
  walk_at "ev"
  have mm := L.most
  have a0 := L.m0
  have b0 := L.M0
  refine ⟨mulOk_r (by omega) (by omega), ?_⟩
  have eab : (b : Int) * (a : Int) = ((a * b : Nat) : Int) := by rw [Nat.mul_comm, Int.natCast_mul]
  rw [eab]
  generalize hab : a * b = ab at *
  simp only [first_with_rests_4]
  walk_at "ev"
  refine numbers_to_ok hT.cn hp (by omega) (by omega) ?_
  walk_at "ev"
  refine ⟨by omega, by omega, le_size (by omega), ?_⟩
  rw [Int.toNat_natCast, ← fdV_zero row a, show ((ab : Int) + a + 1).toNat = ab + a + 1 by omega]
  simp only [first_with_rests_5]
  walk_at "ev"
  refine ⟨by omega, ?_⟩
  rw [show ((ab : Int) + a + 1).toNat = ab + a + 1 by omega]
  refine forE_rng (fun j ρ μ' => ∃ o1, ρ = [some (.tup (row.map PV.int)), o1, some (.int (a : Int)), some (.int (ab : Int)), some (.nls (tabI (Qu.N row) (ab + a + 1))), some (.nls (fdV row a j))] ∧ μ' = μ) ?_ ?_ ⟨_, rfl, rfl⟩
  · rintro j ρ μ' hj ⟨o1, rfl, rfl⟩ N hN
    simp only [first_with_rests_6]
    walk_at "ev"
    rw [Int.zero_add, tabI_get (n := ab + a + 1) (by omega) (by omega)]
    walk_at "ev"
    have em : ((j : Int)).fmod (a : Int) = ((j % a : Nat) : Int) := by rw [Int.fmod_eq_emod_of_nonneg _ (by omega)]; simp
    have lt : j % a < a := Nat.mod_lt _ a0.1
    by_cases h0 : 0 < Qu.N row (j : Int)
    · rw [decide_eq_true h0]
      walk_at "ev"
      rw [em, fdV_get lt]
      walk_at "ev"
      cases hf : (List.range j).find? (Qu.fP row a (j % a)) with
      | none =>
        simp only [isNon]
        walk_at "ev"
        simp only [first_with_rests_7]
        walk_at "ev"
        rw [em, ixN_of (by omega) (by rw [fdV_len]; omega)]
        walk_at "ev"
        rw [Int.toNat_natCast, fdV_new h0 hf]
        exact ⟨by omega, by omega, hN _ _ ⟨_, rfl, rfl⟩⟩
      | some x =>
        simp only [isNon]
        walk_at "ev"
        refine ⟨by omega, hN _ _ ⟨_, by rw [fdV_old hf], rfl⟩⟩
    · rw [decide_eq_false h0]
      walk_at "ev"
      exact hN _ _ ⟨_, by rw [fdV_no h0], rfl⟩
  · rintro ρ μ' ⟨o1, rfl, rfl⟩
    simp only [first_with_rests_8]
    walk_at "ev"
    have e := fdV_end L
    rw [hab] at e
    rw [e]
    exact hk a b L
end Mi
end

section
-- H77
set_option Elab.async false
set_option linter.all false
set_option maxRecDepth 100000
set_option maxHeartbeats 0
namespace Hd
open PySem PySem.Spec PyProof.Rows L2
def topS (i : Nat) : Stmt := PySem.Challenge.pw_wholesteps_k77_whole_gaps_of_a_row.main.body.getD i (.Pass ⟨0, 0, 0, 0⟩)
def is_whole_3 : Mi.Ss := (.cons (.ret (.and (.cons (.isin (.pk 0) (.bi "int")) (.cons (.not (.isin (.pk 0) (.bi "bool"))) (.cons (.chain .lt .lt (.neg (.bin .pow (.cint 10) (.cint 18))) (.pk 0) (.bin .pow (.cint 10) (.cint 18))) .nil))))) .nil)
def n_is_whole : List Str := ["value"]
def F_is_whole : Mi.Fun := ⟨["value"], 1, is_whole_3⟩
def is_number_5 : Mi.Ss := (.cons (.ret (.and (.cons (.call "is_whole" (.cons (.var 0) .nil)) (.cons (.chain .le .le (.pk 1) (.pk 0) (.pk 2)) .nil)))) .nil)
def n_is_number : List Str := ["value", "least", "most"]
def F_is_number : Mi.Fun := ⟨["value", "least", "most"], 3, is_number_5⟩
def common_49 : Mi.Ss := (.cons (.par [0, 1] (.cons (.var 1) (.cons (.bin .mod (.pk 0) (.pk 1)) .nil))) .nil)
def common_50 : Mi.Ss := (.cons (.retv 0) .nil)
def common_48 : Mi.Ss := (.cons (.whs (.cmp .ne (.pk 1) (.cint 0))
 common_49) common_50)
def common_47 : Mi.Ss := (.cons (.par [0, 1] (.cons (.bi .abs (.cons (.pk 0) .nil)) (.cons (.bi .abs (.cons (.pk 1) .nil)) .nil))) common_48)
def n_common : List Str := ["one", "other"]
def F_common : Mi.Fun := ⟨["one", "other"], 2, common_47⟩
def lowest_53 : Mi.Ss := (.cons (.ret (.tup (.cons (.bin .fdiv (.pk 0) (.pk 2)) (.cons (.bin .fdiv (.pk 1) (.pk 2)) .nil)))) .nil)
def lowest_52 : Mi.Ss := (.cons (.asg 2 (.ite (.cmp .gt (.pk 1) (.cint 0)) (.call "common" (.cons (.var 0) (.cons (.var 1) .nil))) (.neg (.call "common" (.cons (.var 0) (.cons (.var 1) .nil)))))) lowest_53)
def n_lowest : List Str := ["upper", "lower", "shared"]
def F_lowest : Mi.Fun := ⟨["upper", "lower"], 3, lowest_52⟩
def summed_55 : Mi.Ss := (.cons (.ret (.call "lowest" (.cons (.bin .add (.bin .mul (.ix (.pk 0) (.cint 0)) (.ix (.pk 1) (.cint 1))) (.bin .mul (.ix (.pk 1) (.cint 0)) (.ix (.pk 0) (.cint 1)))) (.cons (.bin .mul (.ix (.pk 0) (.cint 1)) (.ix (.pk 1) (.cint 1))) .nil)))) .nil)
def n_summed : List Str := ["one", "other"]
def F_summed : Mi.Fun := ⟨["one", "other"], 2, summed_55⟩
def multiplied_57 : Mi.Ss := (.cons (.ret (.call "lowest" (.cons (.bin .mul (.ix (.pk 0) (.cint 0)) (.ix (.pk 1) (.cint 0))) (.cons (.bin .mul (.ix (.pk 0) (.cint 1)) (.ix (.pk 1) (.cint 1))) .nil)))) .nil)
def n_multiplied : List Str := ["one", "other"]
def F_multiplied : Mi.Fun := ⟨["one", "other"], 2, multiplied_57⟩
def is_counted_row_64 : Mi.Ss := (.cons (.ret (.cbl false)) .nil)
def is_counted_row_65 : Mi.Ss := (.cons (.ret (.bi .all (.cons (.comp [("part", 1)] (.nm 1) (.ex (.pk 0)) .no (.call "is_number" (.cons (.var 1) (.cons (.cint 1) (.cons (.cst "MOST_PART") .nil))))) .nil))) .nil)
def is_counted_row_63 : Mi.Ss := (.cons (.ifs (.or (.cons (.not (.isin (.pk 0) (.bi "tuple"))) (.cons (.not (.chain .le .le (.cint 1) (.bi .len (.cons (.pk 0) .nil)) (.cst "MOST_PARTS"))) .nil)))
 is_counted_row_64
 .nil) is_counted_row_65)
def n_is_counted_row : List Str := ["value", "part"]
def F_is_counted_row : Mi.Fun := ⟨["value"], 2, is_counted_row_63⟩
def need_row_68 : Mi.Ss := (.cons (.rai "BadRow") .nil)
def need_row_67 : Mi.Ss := (.cons (.ifs (.not (.call "is_counted_row" (.cons (.var 0) .nil)))
 need_row_68
 .nil) .nil)
def n_need_row : List Str := ["row"]
def F_need_row : Mi.Fun := ⟨["row"], 1, need_row_67⟩
def numbers_to_73 : Mi.Ss := (.cons (.setIx 2 (.pk 4) (.bin .add (.ix (.pk 2) (.pk 4)) (.ix (.pk 2) (.bin .sub (.pk 4) (.pk 3))))) .nil)
def numbers_to_72 : Mi.Ss := (.cons (.fors (.nm 4) (.rng2 (.cons (.pk 3) (.cons (.bin .add (.pk 1) (.cint 1)) .nil)))
 numbers_to_73) .nil)
def numbers_to_74 : Mi.Ss := (.cons (.retv 2) .nil)
def numbers_to_71 : Mi.Ss := (.cons (.fors (.nm 3) (.ex (.var 0))
 numbers_to_72) numbers_to_74)
def numbers_to_70 : Mi.Ss := (.cons (.asg 2 (.bin .add (.lst (.cons (.cint 1) .nil)) (.bin .mul (.lst (.cons (.cint 0) .nil)) (.pk 1)))) numbers_to_71)
def n_numbers_to : List Str := ["row", "most", "found", "part", "amount"]
def F_numbers_to : Mi.Fun := ⟨["row", "most"], 5, numbers_to_70⟩
def plans_number_78 : Mi.Ss := (.cons (.rai "BadAmount") .nil)
def plans_number_80 : Mi.Ss := (.cons (.rai1 "TooMany" (.cst "MOST_AMOUNT")) .nil)
def plans_number_81 : Mi.Ss := (.cons (.ret (.ite (.cmp .ge (.pk 1) (.cint 0)) (.ix (.call "numbers_to" (.cons (.var 0) (.cons (.var 1) .nil))) (.pk 1)) (.cint 0))) .nil)
def plans_number_79 : Mi.Ss := (.cons (.ifs (.cmp .gt (.pk 1) (.cst "MOST_AMOUNT"))
 plans_number_80
 .nil) plans_number_81)
def plans_number_77 : Mi.Ss := (.cons (.ifs (.or (.cons (.not (.isin (.pk 1) (.bi "int"))) (.cons (.isin (.pk 1) (.bi "bool")) .nil)))
 plans_number_78
 .nil) plans_number_79)
def plans_number_76 : Mi.Ss := (.cons (.ex (.call "need_row" (.cons (.var 0) .nil))) plans_number_77)
def n_plans_number : List Str := ["row", "amount"]
def F_plans_number : Mi.Fun := ⟨["row", "amount"], 2, plans_number_76⟩
def shared_part_85 : Mi.Ss := (.cons (.asg 1 (.call "common" (.cons (.var 1) (.cons (.var 2) .nil)))) .nil)
def shared_part_86 : Mi.Ss := (.cons (.retv 1) .nil)
def shared_part_84 : Mi.Ss := (.cons (.fors (.nm 2) (.ex (.var 0))
 shared_part_85) shared_part_86)
def shared_part_83 : Mi.Ss := (.cons (.asg 1 (.cint 0)) shared_part_84)
def n_shared_part : List Str := ["row", "found", "part"]
def F_shared_part : Mi.Fun := ⟨["row"], 3, shared_part_83⟩
def gaps_of_90 : Mi.Ss := (.cons (.rai "NotCoprime") .nil)
def gaps_of_93 : Mi.Ss := (.cons (.ret (.bi .tuple (.cons (.comp [("amount", 3)] (.nm 3) (.rng1 (.cons (.bin .add (.pk 1) (.cint 1)) .nil)) (.yes (.cmp .eq (.ix (.pk 2) (.pk 3)) (.cint 0))) (.var 3)) .nil))) .nil)
def gaps_of_92 : Mi.Ss := (.cons (.asg 2 (.call "numbers_to" (.cons (.var 0) (.cons (.var 1) .nil)))) gaps_of_93)
def gaps_of_91 : Mi.Ss := (.cons (.asg 1 (.bin .mul (.bi .maxl (.cons (.pk 0) .nil)) (.bi .minl (.cons (.pk 0) .nil)))) gaps_of_92)
def gaps_of_89 : Mi.Ss := (.cons (.ifs (.cmp .ne (.call "shared_part" (.cons (.var 0) .nil)) (.cint 1))
 gaps_of_90
 .nil) gaps_of_91)
def gaps_of_88 : Mi.Ss := (.cons (.ex (.call "need_row" (.cons (.var 0) .nil))) gaps_of_89)
def n_gaps_of : List Str := ["row", "most", "numbers", "amount"]
def F_gaps_of : Mi.Fun := ⟨["row"], 4, gaps_of_88⟩
def first_with_rests_97 : Mi.Ss := (.cons (.rai "NotCoprime") .nil)
def first_with_rests_102 : Mi.Ss := (.cons (.setIx 5 (.bin .mod (.pk 1) (.pk 2)) (.var 1)) .nil)
def first_with_rests_101 : Mi.Ss := (.cons (.ifs (.and (.cons (.cmp .gt (.ix (.pk 4) (.pk 1)) (.cint 0)) (.cons (.isn (.ix (.pk 5) (.bin .mod (.pk 1) (.pk 2)))) .nil)))
 first_with_rests_102
 .nil) .nil)
def first_with_rests_103 : Mi.Ss := (.cons (.ret (.bi .tuple (.cons (.pk 5) .nil))) .nil)
def first_with_rests_100 : Mi.Ss := (.cons (.fors (.nm 1) (.rng1 (.cons (.bin .add (.bin .add (.pk 3) (.pk 2)) (.cint 1)) .nil))
 first_with_rests_101) first_with_rests_103)
def first_with_rests_99 : Mi.Ss := (.cons (.par [4, 5] (.cons (.call "numbers_to" (.cons (.var 0) (.cons (.bin .add (.pk 3) (.pk 2)) .nil))) (.cons (.bin .mul (.lst (.cons .cnon .nil)) (.pk 2)) .nil))) first_with_rests_100)
def first_with_rests_98 : Mi.Ss := (.cons (.par [2, 3] (.cons (.bi .minl (.cons (.pk 0) .nil)) (.cons (.bin .mul (.bi .maxl (.cons (.pk 0) .nil)) (.bi .minl (.cons (.pk 0) .nil))) .nil))) first_with_rests_99)
def first_with_rests_96 : Mi.Ss := (.cons (.ifs (.cmp .ne (.call "shared_part" (.cons (.var 0) .nil)) (.cint 1))
 first_with_rests_97
 .nil) first_with_rests_98)
def first_with_rests_95 : Mi.Ss := (.cons (.ex (.call "need_row" (.cons (.var 0) .nil))) first_with_rests_96)
def n_first_with_rests : List Str := ["row", "amount", "least", "most", "numbers", "found"]
def F_first_with_rests : Mi.Fun := ⟨["row"], 6, first_with_rests_95⟩
def round_of_109 : Mi.Ss := (.cons (.asg 1 (.bin .mul (.bin .fdiv (.pk 1) (.call "common" (.cons (.var 1) (.cons (.var 2) .nil)))) (.pk 2))) .nil)
def round_of_110 : Mi.Ss := (.cons (.retv 1) .nil)
def round_of_108 : Mi.Ss := (.cons (.fors (.nm 2) (.ex (.var 0))
 round_of_109) round_of_110)
def round_of_107 : Mi.Ss := (.cons (.asg 1 (.cint 1)) round_of_108)
def n_round_of : List Str := ["row", "found", "part"]
def F_round_of : Mi.Fun := ⟨["row"], 3, round_of_107⟩
def need_round_114 : Mi.Ss := (.cons (.rai1 "TooMany" (.cst "MOST_ROUND")) .nil)
def need_round_113 : Mi.Ss := (.cons (.ifs (.cmp .gt (.call "round_of" (.cons (.var 0) .nil)) (.cst "MOST_ROUND"))
 need_round_114
 .nil) .nil)
def need_round_112 : Mi.Ss := (.cons (.ex (.call "need_row" (.cons (.var 0) .nil))) need_round_113)
def n_need_round : List Str := ["row"]
def F_need_round : Mi.Fun := ⟨["row"], 1, need_round_112⟩
def poly_sum_116 : Mi.Ss := (.cons (.ret (.comp [("first", 2), ("second", 3)] (.tp [2, 3]) (.zip (.cons (.pk 0) (.cons (.pk 1) .nil))) .no (.call "summed" (.cons (.var 2) (.cons (.var 3) .nil))))) .nil)
def n_poly_sum : List Str := ["one", "other", "first", "second"]
def F_poly_sum : Mi.Fun := ⟨["one", "other"], 4, poly_sum_116⟩
def poly_times_120 : Mi.Ss := (.cons (.setIx 3 (.pk 4) (.call "summed" (.cons (.ix (.pk 3) (.pk 4)) (.cons (.call "multiplied" (.cons (.ix (.pk 0) (.bin .sub (.pk 4) (.cint 1))) (.cons (.var 2) .nil))) .nil)))) .nil)
def poly_times_121 : Mi.Ss := (.cons (.retv 3) .nil)
def poly_times_119 : Mi.Ss := (.cons (.fors (.nm 4) (.rng2 (.cons (.cint 1) (.cons (.bi .len (.cons (.pk 0) .nil)) .nil)))
 poly_times_120) poly_times_121)
def poly_times_118 : Mi.Ss := (.cons (.asg 3 (.comp [("part", 5)] (.nm 5) (.ex (.pk 0)) .no (.call "multiplied" (.cons (.var 5) (.cons (.var 1) .nil))))) poly_times_119)
def n_poly_times : List Str := ["poly", "first", "second", "found", "at", "part"]
def F_poly_times : Mi.Fun := ⟨["poly", "first", "second"], 6, poly_times_118⟩
def poly_through_129 : Mi.Ss := (.cons (.asg 7 (.comp [("one", 9), ("other", 10)] (.tp [9, 10]) (.zip (.cons (.pk 7) (.cons (.sl (.pk 7) (.yes (.cint 1)) .no) .nil))) .no (.bin .sub (.pk 10) (.pk 9)))) .nil)
def poly_through_128 : Mi.Ss := (.cons (.asg 3 (.call "poly_times" (.cons (.var 3) (.cons (.call "lowest" (.cons (.bin .sub (.neg (.pk 0)) (.bin .mul (.pk 1) (.pk 4))) (.cons (.var 8) .nil))) (.cons (.call "lowest" (.cons (.cint 1) (.cons (.var 8) .nil))) .nil))))) poly_through_129)
def poly_through_128x : Mi.Ss := (.cons (.frz [3]) poly_through_128)
def poly_through_127 : Mi.Ss := (.cons (.asg 8 (.bin .mul (.pk 1) (.bin .add (.pk 4) (.cint 1)))) poly_through_128x)
def poly_through_126 : Mi.Ss := (.cons (.asg 6 (.call "poly_sum" (.cons (.var 6) (.cons (.comp [("one", 9)] (.nm 9) (.ex (.pk 3)) .no (.call "multiplied" (.cons (.var 9) (.cons (.tup (.cons (.ix (.pk 7) (.cint 0)) (.cons (.cint 1) .nil))) .nil)))) .nil)))) poly_through_127)
def poly_through_126x : Mi.Ss := (.cons (.frz [6]) poly_through_126)
def poly_through_130 : Mi.Ss := (.cons (.ret (.bi .tuple (.cons (.pk 6) .nil))) .nil)
def poly_through_125 : Mi.Ss := (.cons (.fors (.nm 4) (.rng1 (.cons (.pk 5) .nil))
 poly_through_126x) poly_through_130)
def poly_through_124 : Mi.Ss := (.cons (.asg 3 (.bin .add (.lst (.cons (.tup (.cons (.cint 1) (.cons (.cint 1) .nil))) .nil)) (.bin .mul (.lst (.cons (.tup (.cons (.cint 0) (.cons (.cint 1) .nil))) .nil)) (.bin .sub (.pk 5) (.cint 1))))) poly_through_125)
def poly_through_123 : Mi.Ss := (.cons (.par [5, 6, 7] (.cons (.bi .len (.cons (.pk 2) .nil)) (.cons (.bin .mul (.lst (.cons (.tup (.cons (.cint 0) (.cons (.cint 1) .nil))) .nil)) (.bi .len (.cons (.pk 2) .nil))) (.cons (.bi .list (.cons (.pk 2) .nil)) .nil)))) poly_through_124)
def n_poly_through : List Str := ["start", "step", "numbers", "part", "turn", "many", "found", "differences", "below", "one", "other"]
def F_poly_through : Mi.Fun := ⟨["start", "step", "numbers"], 11, poly_through_123⟩
def quasi_of_135 : Mi.Ss := (.cons (.ret (.bi .tuple (.cons (.comp [("rest", 4)] (.nm 4) (.rng1 (.cons (.pk 3) .nil)) .no (.call "poly_through" (.cons (.var 4) (.cons (.var 3) (.cons (.slS (.pk 1) (.yes (.pk 4)) (.yes (.bin .mul (.pk 3) (.pk 2))) (.var 3)) .nil))))) .nil))) .nil)
def quasi_of_134 : Mi.Ss := (.cons (.asg 1 (.call "numbers_to" (.cons (.var 0) (.cons (.bin .mul (.pk 3) (.pk 2)) .nil)))) quasi_of_135)
def quasi_of_133 : Mi.Ss := (.cons (.par [2, 3] (.cons (.bi .len (.cons (.pk 0) .nil)) (.cons (.call "round_of" (.cons (.var 0) .nil)) .nil))) quasi_of_134)
def quasi_of_132 : Mi.Ss := (.cons (.ex (.call "need_round" (.cons (.var 0) .nil))) quasi_of_133)
def n_quasi_of : List Str := ["row", "numbers", "many", "size", "rest"]
def F_quasi_of : Mi.Fun := ⟨["row"], 5, quasi_of_132⟩
def _law_begun_139 : Mi.Ss := (.cons (.mkst 1 (.comp [("cell", 2)] (.nm 2) (.ex (.pk 0)) .no (.bi .abs (.cons (.pk 2) .nil)))) .nil)
def _law_begun_138 : Mi.Ss := (.cons (.asg 1 (.comp [("cell", 2)] (.nm 2) (.ex (.pk 0)) (.yes (.cmp .ge (.bi .abs (.cons (.pk 2) .nil)) (.bin .pow (.cint 10) (.cint 18)))) (.bin .sub (.bi .abs (.cons (.pk 2) .nil)) (.bin .pow (.cint 10) (.cint 18))))) _law_begun_139)
def n__law_begun : List Str := ["script", "great", "cell"]
def F__law_begun : Mi.Fun := ⟨["script"], 3, _law_begun_138⟩
def _law_blended_146 : Mi.Ss := (.cons (.asg 4 (.bin .mod (.bi .int (.cons (.bin .add (.bin .add (.bin .mul (.pk 4) (.cint 69621)) (.pk 5)) (.pk 2)) .nil)) (.pk 1))) .nil)
def _law_blended_147 : Mi.Ss := (.cons (.asg 3 (.bin .add (.bin .mul (.pk 3) (.cint 2147483647)) (.bin .mod (.bi .int (.cons (.bin .pow (.pk 4) (.cint 5)) .nil)) (.pk 1)))) .nil)
def _law_blended_145 : Mi.Ss := (.cons (.fors (.nm 5) (.cells 0)
 _law_blended_146) _law_blended_147)
def _law_blended_144 : Mi.Ss := (.cons (.asg 4 (.bin .add (.bin .mul (.cint 39373) (.pk 2)) (.bin .fdiv (.pk 1) (.cint 67)))) _law_blended_145)
def _law_blended_148 : Mi.Ss := (.cons (.retv 3) .nil)
def _law_blended_143 : Mi.Ss := (.cons (.fors (.nm 1) (.ex (.lst (.cons (.cint 2147482367) (.cons (.cint 2147482361) (.cons (.cint 2147482349) .nil)))))
 _law_blended_144) _law_blended_148)
def _law_blended_142 : Mi.Ss := (.cons (.setT 0 (.pk 2)) _law_blended_143)
def _law_blended_141 : Mi.Ss := (.cons (.par [2, 3] (.cons (.bin .add (.sturn 0) (.cint 1)) (.cons (.cint 0) .nil))) _law_blended_142)
def n__law_blended : List Str := ["state", "prime", "turn", "found", "blend", "cell"]
def F__law_blended : Mi.Fun := ⟨["state"], 6, _law_blended_141⟩
def _law_draw_151 : Mi.Ss := (.cons (.setL 0 (.ite (.sgreat 0) (.spop 0) (.call "_law_blended" (.cons (.var 0) .nil)))) .nil)
def _law_draw_154 : Mi.Ss := (.cons (.retv 2) .nil)
def _law_draw_153 : Mi.Ss := (.cons (.setL 0 (.bin .fdiv (.sleft 0) (.pk 1))) _law_draw_154)
def _law_draw_152 : Mi.Ss := (.cons (.asg 2 (.bin .mod (.bi .int (.cons (.sleft 0) .nil)) (.pk 1))) _law_draw_153)
def _law_draw_150 : Mi.Ss := (.cons (.ifs (.cmp .eq (.sleft 0) (.cint 0))
 _law_draw_151
 .nil) _law_draw_152)
def n__law_draw : List Str := ["state", "size_here", "found"]
def F__law_draw : Mi.Fun := ⟨["state", "size_here"], 3, _law_draw_150⟩
def _law_pick_156 : Mi.Ss := (.cons (.ret (.ix (.pk 1) (.call "_law_draw" (.cons (.var 0) (.cons (.bi .len (.cons (.pk 1) .nil)) .nil))))) .nil)
def n__law_pick : List Str := ["state", "several"]
def F__law_pick : Mi.Fun := ⟨["state", "several"], 2, _law_pick_156⟩
def _law_caught_163 : Mi.Ss := (.cons (.retv 1) .nil)
def _law_caught_159 : Mi.Ss := (.cons .nev _law_caught_163)
def _law_caught_158 : Mi.Ss := (.cons (.asg 1 .cnon) _law_caught_159)
def n__law_caught : List Str := ["work", "caught", "error"]
def F__law_caught : Mi.Fun := ⟨["work"], 3, _law_caught_158⟩
def _law_fr_common_167 : Mi.Ss := (.cons (.par [0, 1] (.cons (.var 1) (.cons (.bin .mod (.bi .int (.cons (.pk 0) .nil)) (.pk 1)) .nil))) .nil)
def _law_fr_common_168 : Mi.Ss := (.cons (.retv 0) .nil)
def _law_fr_common_166 : Mi.Ss := (.cons (.whs (.cmp .ne (.pk 1) (.cint 0))
 _law_fr_common_167) _law_fr_common_168)
def _law_fr_common_165 : Mi.Ss := (.cons (.par [0, 1] (.cons (.bi .abs (.cons (.pk 0) .nil)) (.cons (.bi .abs (.cons (.pk 1) .nil)) .nil))) _law_fr_common_166)
def n__law_fr_common : List Str := ["one", "other"]
def F__law_fr_common : Mi.Fun := ⟨["one", "other"], 2, _law_fr_common_165⟩
def _law_re_kind_172 : Mi.Ss := (.cons (.ret (.ite (.cmp .eq (.bi .len (.cons (.pk 2) .nil)) (.cint 1)) (.ix (.pk 2) (.cint 0)) (.cstr "other"))) .nil)
def _law_re_kind_171 : Mi.Ss := (.cons (.asg 2 (.comp [("word", 3), ("hit", 4)] (.tp [3, 4]) (.ex (.pk 1)) (.yes (.pk 4)) (.var 3))) _law_re_kind_172)
def _law_re_kind_170 : Mi.Ss := (.cons (.asg 1 (.lst (.cons (.tup (.cons (.cstr "base") (.cons (.isin (.pk 0) (.cl "BadBase")) .nil))) (.cons (.tup (.cons (.cstr "point") (.cons (.isin (.pk 0) (.cl "BadPoint")) .nil))) (.cons (.tup (.cons (.cstr "most") (.cons (.isin (.pk 0) (.cl "TooMany")) .nil))) (.cons (.tup (.cons (.cstr "columns") (.cons (.isin (.pk 0) (.cl "BadColumns")) .nil))) (.cons (.tup (.cons (.cstr "costs") (.cons (.isin (.pk 0) (.cl "BadCosts")) .nil))) (.cons (.tup (.cons (.cstr "many") (.cons (.isin (.pk 0) (.cl "BadMany")) .nil))) (.cons (.tup (.cons (.cstr "corners") (.cons (.isin (.pk 0) (.cl "BadCorners")) .nil))) (.cons (.tup (.cons (.cstr "table") (.cons (.isin (.pk 0) (.cl "BadTable")) .nil))) (.cons (.tup (.cons (.cstr "end") (.cons (.isin (.pk 0) (.cl "NoEnd")) .nil))) (.cons (.tup (.cons (.cstr "right") (.cons (.isin (.pk 0) (.cl "BadRight")) .nil))) (.cons (.tup (.cons (.cstr "within") (.cons (.isin (.pk 0) (.cl "NotWithin")) .nil))) (.cons (.tup (.cons (.cstr "row") (.cons (.isin (.pk 0) (.cl "BadRow")) .nil))) (.cons (.tup (.cons (.cstr "amount") (.cons (.isin (.pk 0) (.cl "BadAmount")) .nil))) (.cons (.tup (.cons (.cstr "coprime") (.cons (.isin (.pk 0) (.cl "NotCoprime")) .nil))) (.cons (.tup (.cons (.cstr "quasi") (.cons (.isin (.pk 0) (.cl "BadQuasi")) .nil))) .nil))))))))))))))))) _law_re_kind_171)
def n__law_re_kind : List Str := ["caught", "hits", "found", "word", "hit"]
def F__law_re_kind : Mi.Fun := ⟨["caught"], 5, _law_re_kind_170⟩
def _law_re_refused_174 : Mi.Ss := (.cons .nev .nil)
def n__law_re_refused : List Str := ["word", "work"]
def F__law_re_refused : Mi.Fun := ⟨["word", "work"], 2, _law_re_refused_174⟩
def _law_qu_numbers_179 : Mi.Ss := (.cons (.setIx 2 (.pk 4) (.bin .add (.ix (.pk 2) (.pk 4)) (.ix (.pk 2) (.bin .sub (.pk 4) (.pk 3))))) .nil)
def _law_qu_numbers_178 : Mi.Ss := (.cons (.fors (.nm 4) (.rng2 (.cons (.pk 3) (.cons (.bin .add (.pk 1) (.cint 1)) .nil)))
 _law_qu_numbers_179) .nil)
def _law_qu_numbers_180 : Mi.Ss := (.cons (.retv 2) .nil)
def _law_qu_numbers_177 : Mi.Ss := (.cons (.fors (.nm 3) (.ex (.var 0))
 _law_qu_numbers_178) _law_qu_numbers_180)
def _law_qu_numbers_176 : Mi.Ss := (.cons (.asg 2 (.bin .add (.lst (.cons (.cint 1) .nil)) (.bin .mul (.lst (.cons (.cint 0) .nil)) (.pk 1)))) _law_qu_numbers_177)
def n__law_qu_numbers : List Str := ["parts", "most", "found", "part", "amount"]
def F__law_qu_numbers : Mi.Fun := ⟨["parts", "most"], 5, _law_qu_numbers_176⟩
def _law_qu_shared_184 : Mi.Ss := (.cons (.asg 1 (.call "_law_fr_common" (.cons (.var 1) (.cons (.var 2) .nil)))) .nil)
def _law_qu_shared_185 : Mi.Ss := (.cons (.retv 1) .nil)
def _law_qu_shared_183 : Mi.Ss := (.cons (.fors (.nm 2) (.ex (.var 0))
 _law_qu_shared_184) _law_qu_shared_185)
def _law_qu_shared_182 : Mi.Ss := (.cons (.asg 1 (.cint 0)) _law_qu_shared_183)
def n__law_qu_shared : List Str := ["parts", "found", "part"]
def F__law_qu_shared : Mi.Fun := ⟨["parts"], 3, _law_qu_shared_182⟩
def _law_k77_pair_189 : Mi.Ss := (.cons (.ret (.cbl true)) .nil)
def _law_k77_pair_193 : Mi.Ss := (.cons (.ret (.cbl false)) .nil)
def _law_k77_pair_192 : Mi.Ss := (.cons (.ifs (.cmp .eq (.cmp .inn (.pk 1) (.pk 4)) (.cmp .inn (.bin .sub (.pk 5) (.pk 1)) (.pk 4)))
 _law_k77_pair_193
 .nil) .nil)
def _law_k77_pair_194 : Mi.Ss := (.cons (.ret (.and (.cons (.cmp .eq (.bin .mul (.cint 2) (.bi .len (.cons (.pk 4) .nil))) (.bin .mul (.bin .sub (.pk 2) (.cint 1)) (.bin .sub (.pk 3) (.cint 1)))) (.cons (.cmp .eq (.comp [("gap", 6)] (.nm 6) (.ex (.pk 4)) (.yes (.cmp .gt (.pk 6) (.pk 5))) (.cint 1)) (.lst .nil)) .nil)))) .nil)
def _law_k77_pair_191 : Mi.Ss := (.cons (.fors (.nm 1) (.rng1 (.cons (.bin .add (.pk 5) (.cint 1)) .nil))
 _law_k77_pair_192) _law_k77_pair_194)
def _law_k77_pair_190 : Mi.Ss := (.cons (.par [4, 5] (.cons (.call "gaps_of" (.cons (.tup (.cons (.var 2) (.cons (.var 3) .nil))) .nil)) (.cons (.bin .sub (.bin .sub (.bin .mul (.pk 2) (.pk 3)) (.pk 2)) (.pk 3)) .nil))) _law_k77_pair_191)
def _law_k77_pair_188 : Mi.Ss := (.cons (.ifs (.cmp .ne (.call "_law_fr_common" (.cons (.var 2) (.cons (.var 3) .nil))) (.cint 1))
 _law_k77_pair_189
 .nil) _law_k77_pair_190)
def _law_k77_pair_187 : Mi.Ss := (.cons (.par [2, 3] (.cons (.bin .add (.cint 1) (.call "_law_draw" (.cons (.var 0) (.cons (.cint 12) .nil)))) (.cons (.bin .add (.cint 1) (.call "_law_draw" (.cons (.var 0) (.cons (.cint 12) .nil)))) .nil))) _law_k77_pair_188)
def n__law_k77_pair : List Str := ["state", "amount", "one", "other", "gaps", "top", "gap"]
def F__law_k77_pair : Mi.Fun := ⟨["state"], 7, _law_k77_pair_187⟩
def law_201 : Mi.Ss := (.cons (.ret (.cbl false)) .nil)
def law_202 : Mi.Ss := (.cons .cnt .nil)
def law_200 : Mi.Ss := (.cons (.ifs (.or (.cons (.not (.refd "coprime" (.call "gaps_of" (.cons (.var 3) .nil)))) (.cons (.not (.refd "coprime" (.call "first_with_rests" (.cons (.var 3) .nil)))) .nil)))
 law_201
 .nil) law_202)
def law_206 : Mi.Ss := (.cons (.ret (.cbl false)) .nil)
def law_210 : Mi.Ss := (.cons (.ret (.cbl false)) .nil)
def law_212 : Mi.Ss := (.cons (.ret (.cbl false)) .nil)
def law_216 : Mi.Ss := (.cons (.ret (.cbl false)) .nil)
def law_215 : Mi.Ss := (.cons (.ifs (.not (.refd "row" (.callv 9 (.cons (.var 8) .nil))))
 law_216
 .nil) .nil)
def law_214 : Mi.Ss := (.cons (.fors (.nm 9) (.ex (.lst (.cons (.fnv "gaps_of") (.cons (.fnv "first_with_rests") (.cons (.fnv "quasi_of") (.cons (.lamv 0) .nil))))))
 law_215) .nil)
def law_213 : Mi.Ss := (.cons (.asg 8 (.call "_law_pick" (.cons (.var 1) (.cons (.lst (.cons .cnon (.cons (.tup .nil) (.cons (.lst (.cons (.cint 2) (.cons (.cint 3) .nil))) (.cons (.tup (.cons (.cint 0) .nil)) (.cons (.tup (.cons (.cint 13) .nil)) (.cons (.tup (.cons (.cbl true) .nil)) (.cons (.bin .mul (.tup (.cons (.cint 1) .nil)) (.cint 6)) (.cons (.tup (.cons (.cint 2) (.cons .cnon .nil))) (.cons (.cint 5) .nil)))))))))) .nil)))) law_214)
def law_211 : Mi.Ss := (.cons (.ifs (.not (.call "_law_k77_pair" (.cons (.var 1) .nil)))
 law_212
 .nil) law_213)
def law_209 : Mi.Ss := (.cons (.ifs (.or (.cons (.cmp .ne (.rep (.callk "first_with_rests" .nil ["row"] (.cons (.var 3) .nil) [0])) (.rep (.bi .tuple (.cons (.pk 7) .nil)))) (.cons (.cmp .ne (.bi .sum (.cons (.comp [("first", 14)] (.nm 14) (.ex (.pk 7)) .no (.bin .fdiv (.pk 14) (.pk 6))) .nil)) (.bi .len (.cons (.pk 5) .nil))) .nil)))
 law_210
 .nil) law_211)
def law_208 : Mi.Ss := (.cons (.asg 7 (.comp [("rest", 11)] (.nm 11) (.rng1 (.cons (.pk 6) .nil)) .no (.bi .minl (.cons (.comp [("amount", 10)] (.nm 10) (.rng1 (.cons (.cint 401) .nil)) (.yes (.and (.cons (.cmp .eq (.bin .mod (.bi .int (.cons (.pk 10) .nil)) (.pk 6)) (.pk 11)) (.cons (.cmp .gt (.ix (.pk 4) (.pk 10)) (.cint 0)) .nil)))) (.var 10)) .nil)))) law_209)
def law_207 : Mi.Ss := (.cons (.asg 6 (.bi .minl (.cons (.pk 3) .nil))) law_208)
def law_205 : Mi.Ss := (.cons (.ifs (.or (.cons (.cmp .ne (.rep (.callk "gaps_of" .nil ["row"] (.cons (.var 3) .nil) [0])) (.rep (.bi .tuple (.cons (.pk 5) .nil)))) (.cons (.cmp .ne (.comp [("gap", 13)] (.nm 13) (.ex (.pk 5)) (.yes (.cmp .gt (.pk 13) (.bin .mul (.bi .minl (.cons (.pk 3) .nil)) (.bi .maxl (.cons (.pk 3) .nil))))) (.cint 1)) (.lst .nil)) .nil)))
 law_206
 .nil) law_207)
def law_204 : Mi.Ss := (.cons (.asg 5 (.comp [("amount", 10)] (.nm 10) (.rng1 (.cons (.cint 401) .nil)) (.yes (.cmp .eq (.ix (.pk 4) (.pk 10)) (.cint 0))) (.var 10))) law_205)
def law_203 : Mi.Ss := (.cons (.asg 4 (.call "_law_qu_numbers" (.cons (.var 3) (.cons (.cint 400) .nil)))) law_204)
def law_199 : Mi.Ss := (.cons (.ifs (.cmp .ne (.call "_law_qu_shared" (.cons (.var 3) .nil)) (.cint 1))
 law_200
 .nil) law_203)
def law_198 : Mi.Ss := (.cons (.asg 3 (.bi .tuple (.cons (.comp [("at", 12)] (.nm 12) (.rng1 (.cons (.bin .add (.cint 1) (.call "_law_draw" (.cons (.var 1) (.cons (.cint 5) .nil)))) .nil)) .no (.bin .add (.cint 1) (.call "_law_draw" (.cons (.var 1) (.cons (.cint 12) .nil))))) .nil))) law_199)
def law_217 : Mi.Ss := (.cons (.ret (.cbl true)) .nil)
def law_197 : Mi.Ss := (.cons (.fors (.nm 2) (.rng1 (.cons (.cint 6) .nil))
 law_198) law_217)
def law_196 : Mi.Ss := (.cons (.asg 1 (.call "_law_begun" (.cons (.var 0) .nil))) law_197)
def n_law : List Str := ["script", "state", "turn", "parts", "numbers", "due", "least", "firsts", "bad", "ask", "amount", "rest", "at", "gap", "first"]
def F_law : Mi.Fun := ⟨["script"], 15, law_196⟩
def o_is_whole : Mi.Own := ⟨"is_whole", ⟨("is_whole", none), "is_whole", "is_whole", defArgs (topS 1), defBody (topS 1), defScope (topS 1), [], []⟩, n_is_whole, F_is_whole, false⟩
def o_is_number : Mi.Own := ⟨"is_number", ⟨("is_number", none), "is_number", "is_number", defArgs (topS 2), defBody (topS 2), defScope (topS 2), [], []⟩, n_is_number, F_is_number, false⟩
def o_common : Mi.Own := ⟨"common", ⟨("common", none), "common", "common", defArgs (topS 21), defBody (topS 21), defScope (topS 21), [], []⟩, n_common, F_common, false⟩
def o_lowest : Mi.Own := ⟨"lowest", ⟨("lowest", none), "lowest", "lowest", defArgs (topS 22), defBody (topS 22), defScope (topS 22), [], []⟩, n_lowest, F_lowest, false⟩
def o_summed : Mi.Own := ⟨"summed", ⟨("summed", none), "summed", "summed", defArgs (topS 23), defBody (topS 23), defScope (topS 23), [], []⟩, n_summed, F_summed, false⟩
def o_multiplied : Mi.Own := ⟨"multiplied", ⟨("multiplied", none), "multiplied", "multiplied", defArgs (topS 24), defBody (topS 24), defScope (topS 24), [], []⟩, n_multiplied, F_multiplied, false⟩
def o_is_counted_row : Mi.Own := ⟨"is_counted_row", ⟨("is_counted_row", none), "is_counted_row", "is_counted_row", defArgs (topS 29), defBody (topS 29), defScope (topS 29), [], []⟩, n_is_counted_row, F_is_counted_row, false⟩
def o_need_row : Mi.Own := ⟨"need_row", ⟨("need_row", none), "need_row", "need_row", defArgs (topS 30), defBody (topS 30), defScope (topS 30), [], []⟩, n_need_row, F_need_row, false⟩
def o_numbers_to : Mi.Own := ⟨"numbers_to", ⟨("numbers_to", none), "numbers_to", "numbers_to", defArgs (topS 31), defBody (topS 31), defScope (topS 31), [], []⟩, n_numbers_to, F_numbers_to, false⟩
def o_plans_number : Mi.Own := ⟨"plans_number", ⟨("plans_number", none), "plans_number", "plans_number", defArgs (topS 32), defBody (topS 32), defScope (topS 32), [], []⟩, n_plans_number, F_plans_number, false⟩
def o_shared_part : Mi.Own := ⟨"shared_part", ⟨("shared_part", none), "shared_part", "shared_part", defArgs (topS 33), defBody (topS 33), defScope (topS 33), [], []⟩, n_shared_part, F_shared_part, false⟩
def o_gaps_of : Mi.Own := ⟨"gaps_of", ⟨("gaps_of", none), "gaps_of", "gaps_of", defArgs (topS 34), defBody (topS 34), defScope (topS 34), [], []⟩, n_gaps_of, F_gaps_of, false⟩
def o_first_with_rests : Mi.Own := ⟨"first_with_rests", ⟨("first_with_rests", none), "first_with_rests", "first_with_rests", defArgs (topS 35), defBody (topS 35), defScope (topS 35), [], []⟩, n_first_with_rests, F_first_with_rests, false⟩
def o_round_of : Mi.Own := ⟨"round_of", ⟨("round_of", none), "round_of", "round_of", defArgs (topS 38), defBody (topS 38), defScope (topS 38), [], []⟩, n_round_of, F_round_of, false⟩
def o_need_round : Mi.Own := ⟨"need_round", ⟨("need_round", none), "need_round", "need_round", defArgs (topS 39), defBody (topS 39), defScope (topS 39), [], []⟩, n_need_round, F_need_round, false⟩
def o_poly_sum : Mi.Own := ⟨"poly_sum", ⟨("poly_sum", none), "poly_sum", "poly_sum", defArgs (topS 40), defBody (topS 40), defScope (topS 40), [], []⟩, n_poly_sum, F_poly_sum, false⟩
def o_poly_times : Mi.Own := ⟨"poly_times", ⟨("poly_times", none), "poly_times", "poly_times", defArgs (topS 41), defBody (topS 41), defScope (topS 41), [], []⟩, n_poly_times, F_poly_times, false⟩
def o_poly_through : Mi.Own := ⟨"poly_through", ⟨("poly_through", none), "poly_through", "poly_through", defArgs (topS 42), defBody (topS 42), defScope (topS 42), [], []⟩, n_poly_through, F_poly_through, false⟩
def o_quasi_of : Mi.Own := ⟨"quasi_of", ⟨("quasi_of", none), "quasi_of", "quasi_of", defArgs (topS 43), defBody (topS 43), defScope (topS 43), [], []⟩, n_quasi_of, F_quasi_of, false⟩
def o__law_begun : Mi.Own := ⟨"_law_begun", ⟨("_law_begun", none), "_law_begun", "_law_begun", defArgs (topS 45), defBody (topS 45), defScope (topS 45), [], []⟩, n__law_begun, F__law_begun, false⟩
def o__law_blended : Mi.Own := ⟨"_law_blended", ⟨("_law_blended", none), "_law_blended", "_law_blended", defArgs (topS 46), defBody (topS 46), defScope (topS 46), [], []⟩, n__law_blended, F__law_blended, false⟩
def o__law_draw : Mi.Own := ⟨"_law_draw", ⟨("_law_draw", none), "_law_draw", "_law_draw", defArgs (topS 47), defBody (topS 47), defScope (topS 47), [], []⟩, n__law_draw, F__law_draw, false⟩
def o__law_pick : Mi.Own := ⟨"_law_pick", ⟨("_law_pick", none), "_law_pick", "_law_pick", defArgs (topS 48), defBody (topS 48), defScope (topS 48), [], []⟩, n__law_pick, F__law_pick, false⟩
def d_caught : He.DefD := ⟨("_law_caught", none), "_law_caught", "_law_caught", defArgs (topS 49), defBody (topS 49), defScope (topS 49), [], []⟩
def o__law_fr_common : Mi.Own := ⟨"_law_fr_common", ⟨("_law_fr_common", none), "_law_fr_common", "_law_fr_common", defArgs (topS 50), defBody (topS 50), defScope (topS 50), [], []⟩, n__law_fr_common, F__law_fr_common, false⟩
def o__law_re_kind : Mi.Own := ⟨"_law_re_kind", ⟨("_law_re_kind", none), "_law_re_kind", "_law_re_kind", defArgs (topS 51), defBody (topS 51), defScope (topS 51), [], []⟩, n__law_re_kind, F__law_re_kind, false⟩
def d_re_refused : He.DefD := ⟨("_law_re_refused", none), "_law_re_refused", "_law_re_refused", defArgs (topS 52), defBody (topS 52), defScope (topS 52), [], []⟩
def o__law_qu_numbers : Mi.Own := ⟨"_law_qu_numbers", ⟨("_law_qu_numbers", none), "_law_qu_numbers", "_law_qu_numbers", defArgs (topS 53), defBody (topS 53), defScope (topS 53), [], []⟩, n__law_qu_numbers, F__law_qu_numbers, false⟩
def o__law_qu_shared : Mi.Own := ⟨"_law_qu_shared", ⟨("_law_qu_shared", none), "_law_qu_shared", "_law_qu_shared", defArgs (topS 54), defBody (topS 54), defScope (topS 54), [], []⟩, n__law_qu_shared, F__law_qu_shared, false⟩
def o__law_k77_pair : Mi.Own := ⟨"_law_k77_pair", ⟨("_law_k77_pair", none), "_law_k77_pair", "_law_k77_pair", defArgs (topS 55), defBody (topS 55), defScope (topS 55), [], []⟩, n__law_k77_pair, F__law_k77_pair, false⟩
def o_law : Mi.Own := ⟨"law", ⟨("law", none), "law", "law", defArgs (topS 56), defBody (topS 56), defScope (topS 56), [], []⟩, n_law, F_law, true⟩
def owns_0 : List Mi.Own := [o_is_whole, o_is_number, o_common, o_lowest, o_summed, o_multiplied, o_is_counted_row, o_need_row, o_numbers_to, o_plans_number, o_shared_part, o_gaps_of]
def owns_1 : List Mi.Own := [o_first_with_rests, o_round_of, o_need_round, o_poly_sum, o_poly_times, o_poly_through, o_quasi_of, o__law_begun, o__law_blended, o__law_draw, o__law_pick, o__law_fr_common]
def owns_2 : List Mi.Own := [o__law_re_kind, o__law_qu_numbers, o__law_qu_shared, o__law_k77_pair]
def owns : List Mi.Own := owns_0 ++ owns_1 ++ owns_2
def subs_0 : List ((Str × Str) × Bool) := [(("BadAmount", "StepError"), true), (("BadAmount", "BadAmount"), true), (("BadAmount", "BadBase"), false), (("BadAmount", "BadColumns"), false), (("BadAmount", "BadCorners"), false), (("BadAmount", "BadCosts"), false), (("BadAmount", "BadMany"), false), (("BadAmount", "BadPoint"), false), (("BadAmount", "BadQuasi"), false), (("BadAmount", "BadRight"), false), (("BadAmount", "BadRow"), false), (("BadAmount", "BadTable"), false)]
def subs_1 : List ((Str × Str) × Bool) := [(("BadAmount", "NoEnd"), false), (("BadAmount", "NotCoprime"), false), (("BadAmount", "NotWithin"), false), (("BadAmount", "TooMany"), false), (("BadRow", "StepError"), true), (("BadRow", "BadAmount"), false), (("BadRow", "BadBase"), false), (("BadRow", "BadColumns"), false), (("BadRow", "BadCorners"), false), (("BadRow", "BadCosts"), false), (("BadRow", "BadMany"), false), (("BadRow", "BadPoint"), false)]
def subs_2 : List ((Str × Str) × Bool) := [(("BadRow", "BadQuasi"), false), (("BadRow", "BadRight"), false), (("BadRow", "BadRow"), true), (("BadRow", "BadTable"), false), (("BadRow", "NoEnd"), false), (("BadRow", "NotCoprime"), false), (("BadRow", "NotWithin"), false), (("BadRow", "TooMany"), false), (("NotCoprime", "StepError"), true), (("NotCoprime", "BadAmount"), false), (("NotCoprime", "BadBase"), false), (("NotCoprime", "BadColumns"), false)]
def subs_3 : List ((Str × Str) × Bool) := [(("NotCoprime", "BadCorners"), false), (("NotCoprime", "BadCosts"), false), (("NotCoprime", "BadMany"), false), (("NotCoprime", "BadPoint"), false), (("NotCoprime", "BadQuasi"), false), (("NotCoprime", "BadRight"), false), (("NotCoprime", "BadRow"), false), (("NotCoprime", "BadTable"), false), (("NotCoprime", "NoEnd"), false), (("NotCoprime", "NotCoprime"), true), (("NotCoprime", "NotWithin"), false), (("NotCoprime", "TooMany"), false)]
def subs_4 : List ((Str × Str) × Bool) := [(("TooMany", "StepError"), true), (("TooMany", "BadAmount"), false), (("TooMany", "BadBase"), false), (("TooMany", "BadColumns"), false), (("TooMany", "BadCorners"), false), (("TooMany", "BadCosts"), false), (("TooMany", "BadMany"), false), (("TooMany", "BadPoint"), false), (("TooMany", "BadQuasi"), false), (("TooMany", "BadRight"), false), (("TooMany", "BadRow"), false), (("TooMany", "BadTable"), false)]
def subs_5 : List ((Str × Str) × Bool) := [(("TooMany", "NoEnd"), false), (("TooMany", "NotCoprime"), false), (("TooMany", "NotWithin"), false), (("TooMany", "TooMany"), true)]
def subs : List ((Str × Str) × Bool) := subs_0 ++ subs_1 ++ subs_2 ++ subs_3 ++ subs_4 ++ subs_5
def lamsT_0 : List (List Str × Mi.E) := [(["one"], (.call "plans_number" (.cons (.var 0) (.cons .cnon .nil))))]
def lamsT : List (List Str × Mi.E) := lamsT_0
def T00 : Mi.Tab := { prim := fun _ => none, fn := owns.map fun o => (o.nm, o.F), ini := [], met := [], free := ["ValueError", "abs", "all", "bool", "int", "isinstance", "len", "list", "max", "min", "range", "repr", "sum", "super", "tuple", "zip"], cints := [("MOST_PARTS", 5), ("MOST_PART", 12), ("MOST_AMOUNT", 5000), ("MOST_ROUND", 60)], exc := ["BadAmount", "BadBase", "BadColumns", "BadCorners", "BadCosts", "BadMany", "BadPoint", "BadQuasi", "BadRight", "BadRow", "BadTable", "NotCoprime", "NotWithin"], fld := [("TooMany", "most")], flds := [], xflds := [("TooMany", ["most"])], tgt := ["BadAmount", "BadBase", "BadColumns", "BadCorners", "BadCosts", "BadMany", "BadPoint", "BadQuasi", "BadRight", "BadRow", "BadTable", "NoEnd", "NotCoprime", "NotWithin", "TooMany"], subs := subs, clss := [], cau := true, rfd := true, gl := ["_law_caught", "StepError", "_law_re_refused", "TooMany"], lams := lamsT }
def T0 : Mi.Tab := { T00 with lfit := fun k a b sc => Mi.lamFit T00 k a b sc }
def L0 : Mi.Law := ⟨T0, owns, o_law, [("law", none)], [Mi.lamQ "law"], "/claim/cut.py", [d_caught, d_re_refused], []⟩
theorem own_ok : (owns.all fun o => Mi.ownB T0 L0.tf L0.quals false o) = true := by kernel_rfl
theorem ini_ok : (L0.inis.all fun o => Mi.ownIB T0 o) = true := by kernel_rfl
theorem top_ok : Mi.ownB T0 L0.tf L0.quals true o_law = true := by kernel_rfl
theorem lf_0 (a : Arguments) (b : Expr) (sc : Scope) : Mi.lamFit T0 0 a b sc = Mi.lamFit T00 0 a b sc := by kernel_rfl
theorem ok0 : L0.Ok := ⟨rfl, fun _ => rfl, fun o ho => List.all_eq_true.mp own_ok o ho, (fun _ => ⟨⟨d_caught, by simp [L0], by kernel_rfl⟩, by decide +kernel, by decide +kernel⟩), (fun _ => ⟨⟨d_re_refused, by simp [L0], by kernel_rfl⟩, by decide +kernel⟩), .inr (by decide +kernel), by decide +kernel, (fun k a b sc h => match k with | 0 => (lf_0 a b sc).trans h | k + 1 => nomatch h), rfl, fun o ho => List.all_eq_true.mp ini_ok o ho, rfl, top_ok, rfl, rfl⟩
def loose : List Str := (["BadAmount", "BadBase", "BadColumns", "BadCorners", "BadCosts", "BadMany", "BadPoint", "BadQuasi", "BadRight", "BadRow", "BadTable", "MOST_AMOUNT", "MOST_PART", "MOST_PARTS", "MOST_ROUND", "NoEnd", "NotCoprime", "NotWithin", "StepError", "TooMany", "_law_begun", "_law_blended", "_law_caught", "_law_draw", "_law_fr_common", "_law_k77_pair", "_law_pick", "_law_qu_numbers", "_law_qu_shared", "_law_re_kind"] : List Str) ++ (["_law_re_refused", "common", "first_with_rests", "gaps_of", "is_counted_row", "is_number", "is_whole", "lowest", "multiplied", "need_round", "need_row", "numbers_to", "plans_number", "poly_sum", "poly_through", "poly_times", "quasi_of", "round_of", "shared_part", "summed"] : List Str)
abbrev R : PySem.W.OpenRow := PySem.W.OpenLaw.row PySem.Challenge.rw_wholesteps_k77_whole_gaps_of_a_row
theorem run (w : World) : HandSHeadRun.RunEq R (PySem.W.view R.prog [56]) L0.hk L0.ob 6000 loose w := by
  intro os
  kernel_rfl
end Hd
open PySem PySem.W PySem.Calls PyProof.Rows
theorem Hd.holds (sem : ∀ (ns : List Int) (tb : List (Addr × Str)), tb.map (·.2) = Hd.L0.quals → ns.length ≤ 63 → (∀ z ∈ ns, Builtin.Int.intBits z ≤ 1048576) → Mi.fnSem (Mi.gam Hd.T0 99) Hd.F_law [.scr ns] (Mi.mu0 tb) (fun v _ => v = .bl true) Mi.noX) : PySem.Challenge.rw_wholesteps_k77_whole_gaps_of_a_row.Holds := by
  w_on; o_law
  refine HandSHeadRun.head_any (r := OpenLaw.row PySem.Challenge.rw_wholesteps_k77_whole_gaps_of_a_row) (q := view (OpenLaw.row PySem.Challenge.rw_wholesteps_k77_whole_gaps_of_a_row).prog [56]) (H := Hd.L0.hk) (ob := Hd.L0.ob) (M := 6000) (loose := Hd.loose) (d := HandSHeadRun.topDef (OpenLaw.row PySem.Challenge.rw_wholesteps_k77_whole_gaps_of_a_row).prog 56) (kwd := []) Hd.L0.ob_eq
    (by kernel_rfl) (fun s => by kernel_rfl) Hd.run (by kernel_rfl) (by kernel_rfl) (by kernel_rfl) (by rfl) (by first | assumption | decide +kernel) (by decide +kernel) ⟨rfl, rfl, rfl, rfl, rfl, by decide +kernel⟩ ?hw ?hc
  case hw => w_witness2
  case hc =>
    refine Mi.walk_top (l := PySem.Challenge.rw_wholesteps_k77_whole_gaps_of_a_row) (n := 63) (CX := fun w => L2.CX PySem.Challenge.rw_wholesteps_k77_whole_gaps_of_a_row.prog w) rfl (by decide) (by kernel_rfl) ?F (fun _ _ _ _ _ z => ?Z)
    case Z => exact Mi.cx_none z
    case F =>
      intro w mg fa h Y G hm
      obtain ⟨K, hK, c⟩ := Y
      exact ⟨K, hK, Mi.law_at Hd.ok0 (.inr ⟨by kernel_rfl, by kernel_rfl⟩) c hK G hm fun ns hl hz => sem ns _ (Mi.tb_quals Hd.ok0 K) hl hz⟩
end

section
-- K77
set_option Elab.async false
set_option linter.all false
set_option maxRecDepth 100000
set_option maxHeartbeats 4000000
/-! law k77, the walk -/
namespace Mi
open PySem PySem.Spec PyProof.Rows L2
local macro_rules | `(tactic| walk_at "ev") => `(tactic| try simp only [pk_toP, vr_toP, fz_toP, ev_var, ev_pk, ev_cint, ev_cbl, ev_cstr, ev_cnon, ev_cst, ev_tup, ev_lst, ev_dct0, ev_bin, ev_neg, ev_not, ev_and, ev_or, ev_cmp, ev_chain, ev_isn, ev_nisn, ev_isb, ev_ite, ev_call, ev_callk, ev_mk, ev_mkk, ev_bi, ev_isin, ev_attr, ev_ix, ev_sl, ev_slS, ev_rev, ev_comp, ev_refd, ev_rep, ev_callv, ev_lamv, ev_fnv, calK_fn, calK_clo, ev_sleft, ev_sturn, ev_sgreat,
  els_nil, els_cons, er_nil, er_cons, eo_no, eo_yes, ec_no, ec_yes, sr_ex, sr_cells, sr_rng1, sr_rng2, sr_zip, sr_enum, ea_one, ea_cons, eor_one, eor_cons,
  ss_nil, ss_cons, st_asg, st_asgT, st_par, st_setIx, st_app, st_appPop, st_ex, st_ret, st_retv, st_retN, st_ifs, st_fors, st_whs, st_rai, st_rai1, st_pass, st_brk, st_cnt, st_frz, st_aug, st_setL, st_setT, st_mkst, nlsV_v, intsOf_ints,
  nlsK_v, augK_v, optK_some, optK_none, intK_v, tupK_v, blK_v, trK_bl, trK_int, bin_add, bin_sub, bin_mul, bin_fdiv, bin_mod, bin_pow, bin_addS, bin_addT, bin_addL, bin_mulL, bin_mulT, cmp_lt, cmp_le, cmp_gt, cmp_ge, cmp_eq, cmp_ne,
  bi_lenT, bi_lenL, bi_lenC, bi_lenS, bi_abs, bi_int, bi_max2, bi_min2, bi_sumT, bi_tupL, bi_tupT, bi_lstL, bi_lstT, ix_tup, ix_lst, sl_tup, sl_lst, slS_lst, rev_tup, rev_lst, walk_tup, walk_lst, walk_scr, rng1_v, rng2_v, zip_lst, zip_tup, enum_lst, enum_tup, bi_reprI, eqK_int,
  setAll, freeze, wipeE, bindTg, pk_non, pk_bl, pk_int, pk_str, pk_tup, pk_lst, pk_dct, pk_ins, pk_exc, pk_fn, pk_clo, pk_obj, pk_scr, pk_nls, vr_non, vr_bl, vr_int, vr_str, vr_tup, vr_lst, vr_dct, vr_ins, vr_exc, vr_fn, vr_clo, vr_obj, vr_scr, fz_int, fz_bl, fz_str, fz_obj, fz_tup, fz_lst, fz_nls, fz_non, fz_dct, fz_ins, fz_exc, fz_scr, fz_fn, fz_clo, fz_clo,
  List.map_cons, List.map_nil, List.filterMap_cons, List.filterMap_nil, eqK_str, List.length_cons, List.length_nil, List.replicate_succ, List.replicate_zero, List.cons_append, List.nil_append, List.getElem?_cons_zero, List.getElem?_cons_succ, List.set_cons_zero, List.set_cons_succ, Nat.sub_self, Nat.reduceSub, Nat.reduceAdd, Nat.zero_add, stAt_W, set_W, decide_true, decide_false, if_true, if_false, Bool.false_eq_true, true_and, and_true, List.foldl_cons, List.foldl_nil, List.zip_cons_cons, List.zip_nil_left, List.zip_nil_right, isi_non_bool, isi_non_int, isi_non_str, isi_non_tuple, isi_non_list, isi_non_dict, isi_non_ValueError, isi_bl_bool, isi_bl_int, isi_bl_str, isi_bl_tuple, isi_bl_list, isi_bl_dict, isi_bl_ValueError, isi_int_bool, isi_int_int, isi_int_str, isi_int_tuple, isi_int_list, isi_int_dict, isi_int_ValueError, isi_str_bool, isi_str_int, isi_str_str, isi_str_tuple, isi_str_list, isi_str_dict, isi_str_ValueError, isi_tup_bool, isi_tup_int, isi_tup_str, isi_tup_tuple, isi_tup_list, isi_tup_dict, isi_tup_ValueError, isi_lst_bool, isi_lst_int, isi_lst_str, isi_lst_tuple, isi_lst_list, isi_lst_dict, isi_lst_ValueError, isi_dct_bool, isi_dct_int, isi_dct_str, isi_dct_tuple, isi_dct_list, isi_dct_dict, isi_dct_ValueError, Bool.not_true, Bool.not_false, atI_0, atI_1, atI_2, le_sizeT, lt_sizeT, Nat.reduceLeDiff])
theorem h77_dr : HasDraw Hd.T0 := ⟨fun _ => rfl, by rfl, by rfl, by rfl, by rfl⟩
theorem h77_fr : HasFr Hd.T0 := ⟨fun _ => rfl, by rfl, by rfl, by rfl, by rfl⟩
theorem h77_cn : HasCnt Hd.T0 := ⟨fun _ => rfl, by rfl, by rfl, by rfl, by rfl, by rfl, by rfl, by rfl⟩
theorem h77_qu : HasQu Hd.T0 := ⟨h77_fr, h77_cn, fun _ => rfl, by rfl, by rfl, by rfl, by rfl, by rfl, by rfl, by rfl⟩
theorem h77_lc : Hd.T0.fn.lookup ("_law_fr_common" : Str) = some B_lfr_common := by rfl
theorem h77_ls : Hd.T0.fn.lookup ("_law_qu_shared" : Str) = some B_lqs := by rfl
theorem h77_pn : HasPn Hd.T0 := ⟨h77_cn, fun _ => rfl, by rfl, by rfl, by rfl⟩
theorem h77_gp : HasGp Hd.T0 := ⟨fun _ => rfl, h77_cn, h77_fr, by rfl, by rfl, by rfl⟩
theorem h77_kd : HasKind Hd.T0 := ⟨fun _ => rfl, by rfl, by rfl⟩
theorem h77_nu : Hd.T0.fn.lookup ("_law_qu_numbers" : Str) = some ⟨["parts", "most"], 5, numbers_to_0⟩ := by rfl
theorem h77_nc : ErrOk Hd.T0 "NotCoprime" "coprime" "NotCoprime" := ⟨by decide +kernel, by decide +kernel, by decide +kernel⟩
theorem h77_ro : ErrOk Hd.T0 "BadRow" "row" "BadRow" := ⟨by decide +kernel, by decide +kernel, by decide +kernel⟩

theorem eqK_bl {a b : Bool} {K : Bool → Prop} : eqK (.bl a) (.bl b) K = K (decide (a = b)) := by
  cases a <;> cases b <;> simp [eqK, toPD, SeqAt.shaped, PyData.canLay0, PyData.depth, PyData.eqv]
theorem gaps_any {row : List Int} {m M : Nat} (L : Qu.LG row m M) : Qu.gapL row (m * M + 1) = Qu.gapL row 401 := (L.gaps (by have := L.most; omega)).symm
theorem k77_pair_ok {W0 μ : Mu} {n d : Nat} {k kx : KE} (hs : StW W0 n μ) (hn : n + 2 < 2 ^ 40) (hk : ∀ μ', StW W0 (n + 2) μ' → k (.bl true) μ') : (gam Hd.T0 (d + 6)).call "_law_k77_pair" [.obj W0.length] μ k kx := by
  refine call_fn (fun _ => rfl) (show Hd.T0.fn.lookup ("_law_k77_pair" : Str) = some Hd.F__law_k77_pair by rfl) (d + 5) ⟨rfl, ?_⟩
  simp only [Hd.F__law_k77_pair, Hd._law_k77_pair_187]
  walk_at "ev"
  refine draw_ok h77_dr hs (by omega) (by decide) (natAbs_lt (k := 10) (by decide) (by decide)) fun i μ1 i0 i1 hs1 => ?_
  walk_at "ev"
  refine draw_ok h77_dr hs1 (by omega) (by decide) (natAbs_lt (k := 10) (by decide) (by decide)) fun j μ2 j0 j1 hs2 => ?_
  walk_at "ev"
  simp only [Hd._law_k77_pair_188]
  walk_at "ev"
  obtain ⟨x, ex, x0, x1⟩ : ∃ x : Nat, 1 + i = (x : Int) ∧ 1 ≤ x ∧ x ≤ 12 := ⟨(1 + i).toNat, by omega, by omega, by omega⟩
  obtain ⟨y, ey, y0, y1⟩ : ∃ y : Nat, 1 + j = (y : Int) ∧ 1 ≤ y ∧ y ≤ 12 := ⟨(1 + j).toNat, by omega, by omega, by omega⟩
  rw [ex, ey]
  refine lfr_common_of (fun _ => rfl) h77_lc ?_
  have eg : Int.gcd (x : Int) (y : Int) = Nat.gcd x y := rfl
  rw [eg]
  walk_at "ev"
  by_cases g : Nat.gcd x y = 1
  · rw [decide_eq_true (show ((Nat.gcd x y : Nat) : Int) = 1 by omega)]
    walk_at "ev"
    simp only [Hd._law_k77_pair_190]
    walk_at "ev"
    have hR : RowOk [(x : Int), (y : Int)] := ⟨by simp, by simp, fun p hp => by
      simp only [List.mem_cons, List.not_mem_nil, or_false] at hp
      rcases hp with rfl | rfl <;> omega⟩
    have hG : Qu.G [(x : Int), (y : Int)] = 1 := by
      show Nat.gcd (Nat.gcd 0 x) y = 1
      rw [Nat.gcd_zero_left]; exact g
    have er : ([PV.int (x : Int), PV.int (y : Int)] : List PV) = [(x : Int), (y : Int)].map PV.int := rfl
    rw [er]
    refine gaps_of_ok h77_gp hR hG fun m M L => ?_
    walk_at "ev"
    refine ⟨mulOk_r (by omega) (by omega), ?_⟩
    rw [gaps_any L]
    have exy : Qu.gapL [(x : Int), (y : Int)] 401 = Qu.gapL [(x : Int), (y : Int)] (x * y + 1) := by
      have mM : m * M ≤ x * y := by
        have h1 := L.le x (by simp)
        have h2 := L.le y (by simp)
        have h3 := L.hM
        have h4 := L.hm
        simp only [List.mem_cons, List.not_mem_nil, or_false] at h3 h4
        rcases h3 with h3 | h3
        · have : M = x := by omega
          rw [this, Nat.mul_comm]
          exact Nat.mul_le_mul_left x (by omega)
        · have : M = y := by omega
          rw [this]
          exact Nat.mul_le_mul_right y (by omega)
      have xy : x * y ≤ 144 := Nat.mul_le_mul x1 y1
      rw [L.gaps (n := 401) (by omega), L.gaps (n := x * y + 1) (by omega)]
    rw [exy]
    obtain ⟨p1, p2, p3⟩ := Qu.pr_ok ⟨x0, x1⟩ ⟨y0, y1⟩ g
    generalize Qu.gapL [(x : Int), (y : Int)] (x * y + 1) = gs at p1 p2 p3 ⊢
    have etop : (x : Int) * y - x - y = (((x - 1) * (y - 1) : Nat) : Int) - 1 := by
      rw [Int.natCast_mul, Int.natCast_sub x0, Int.natCast_sub y0]
      simp only [Int.sub_mul, Int.mul_sub]
      omega
    rw [etop]
    have nb : (x - 1) * (y - 1) ≤ 121 := Nat.mul_le_mul (show x - 1 ≤ 11 by omega) (show y - 1 ≤ 11 by omega)
    generalize hN : (x - 1) * (y - 1) = nn at p1 p2 p3 nb ⊢
    simp only [Hd._law_k77_pair_191]
    walk_at "ev"
    refine ⟨by omega, ?_⟩
    have inn : ∀ a : Nat, ∀ K : Bool → Prop, K (decide (a ∈ gs)) → cmpK .inn (.int (a : Int)) (.tup (natsP gs)) K := fun a K hK => by
      refine ⟨⟨rfl, ?_⟩, ?_⟩
      · simp only [natsP, List.all_map, List.all_eq_true]
        intro z _; rfl
      · have : ((natsP gs).any fun y => eqP y (.int (a : Int))) = decide (a ∈ gs) := by
          rw [Bool.eq_iff_iff]
          simp only [natsP, List.any_map, List.any_eq_true, decide_eq_true_eq, Function.comp, eqP, beq_iff_eq]
          constructor
          · rintro ⟨z, hz, e⟩
            have : z = a := by omega
            rw [← this]; exact hz
          · intro hz; exact ⟨a, hz, rfl⟩
        rw [this]; exact hK
    refine forE_rng (fun j ρ μ' => ∃ o1, ρ = [some (.obj W0.length), o1, some (.int (x : Int)), some (.int (y : Int)), some (.tup (natsP gs)), some (.int ((nn : Int) - 1)), none] ∧ μ' = μ2) ?_ ?_ ⟨_, rfl, rfl⟩
    · rintro j ρ μ' hj ⟨o1, rfl, rfl⟩ N hN
      have hj : j < nn := by omega
      simp only [Hd._law_k77_pair_192]
      walk_at "ev"
      rw [Int.zero_add]
      refine inn j _ ?_
      have ej : (nn : Int) - 1 - j = ((nn - 1 - j : Nat) : Int) := by omega
      walk_at "ev"
      rw [ej]
      refine inn _ _ ?_
      walk_at "ev"
      rw [eqK_bl, decide_eq_false (show ¬ decide (j ∈ gs) = decide (nn - 1 - j ∈ gs) from fun z => by
        have h := p1 j hj
        rw [decide_eq_decide] at z
        by_cases c : j ∈ gs
        · exact h.mp c (z.mp c)
        · exact c (h.mpr fun c2 => c (z.mpr c2)))]
      walk_at "ev"
      exact hN _ _ ⟨_, rfl, rfl⟩
    · rintro ρ μ' ⟨o1, rfl, rfl⟩
      simp only [Hd._law_k77_pair_194]
      walk_at "ev"
      have lg : (natsP gs).length = gs.length := by simp [natsP]
      rw [lg]
      refine ⟨mulOk_l (by omega) (by omega), mulOk_l (by omega) (by omega), ?_⟩
      have e2 : (2 : Int) * (gs.length : Nat) = ((x : Int) - 1) * ((y : Int) - 1) := by
        rw [show ((x : Int) - 1) = ((x - 1 : Nat) : Int) by omega, show ((y : Int) - 1) = ((y - 1 : Nat) : Int) by omega, ← Int.natCast_mul, hN]
        omega
      rw [decide_eq_true e2]
      walk_at "ev"
      refine compE_filter (fun _ => false) (fun a : Nat => PV.int (a : Int)) (fun _ => PV.int 1) gs (le_size (by omega)) (fun a ha => ⟨_, rfl, fun N3 hN3 => ⟨?_, fun hx => nomatch hx⟩⟩) ?_
      · have := p3 a ha
        walk_at "ev"
        rw [decide_eq_false (by omega)]
        exact hN3
      · rw [show gs.filter (fun _ => false) = [] by simp, List.map_nil]
        refine nil_ints (ns := []) [] (by simp) _ ?_
        exact hk _ hs2
  · rw [decide_eq_false (show ¬ ((Nat.gcd x y : Nat) : Int) = 1 by omega)]
    walk_at "ev"
    simp only [Hd._law_k77_pair_189]
    walk_at "ev"
    exact hk _ hs2
theorem shw_nats : ShwB (fun l : List Nat => PV.tup (natsP l)) (fun l => l.length ≤ 401 ∧ ∀ a ∈ l, a < 1000) 1 (401 * (4 + 1 + 2) + 3) := ⟨fun l ⟨h1, h2⟩ => by
  have := (ShwB.tup (ShwB.int (k := 4) (by decide) (by decide)) 401).ex (l.map fun (a : Nat) => (a : Int)) ⟨by simpa using h1, fun x hx => by
    obtain ⟨a, ha, rfl⟩ := List.mem_map.mp hx
    have := h2 a ha
    omega⟩
  rw [List.map_map] at this
  exact this⟩
theorem natsP_ints (l : List Nat) : natsP l = (l.map fun (a : Nat) => (a : Int)).map PV.int := by
  rw [List.map_map]; rfl
theorem min_first {row : List Int} {m M r : Nat} (L : Qu.LG row m M) (hr : r < m) {x : Int} (h : isMin (((List.range 401).filter (Qu.fP row m r)).map fun (a : Nat) => (a : Int)) x) : x = (Qu.first row m r : Nat) := by
  obtain ⟨k1, k2, k3⟩ := L.first hr
  have := L.most
  have := L.m0
  obtain ⟨a, ha, rfl⟩ := List.mem_map.mp h.1
  have ha := (List.mem_filter.mp ha).2
  have hf := h.2 (Qu.first row m r : Nat) (List.mem_map.mpr ⟨_, List.mem_filter.mpr ⟨List.mem_range.mpr (by omega), k2⟩, rfl⟩)
  have : ¬ a < Qu.first row m r := fun z => by rw [k3 a z] at ha; cases ha
  omega
theorem sum_nats (f : Nat → Nat) : ∀ l : List Nat, (l.map fun r => ((f r : Nat) : Int)).sum = ((l.map f).sum : Nat)
  | [] => rfl
  | r :: l => by rw [List.map_cons, List.sum_cons, List.map_cons, List.sum_cons, sum_nats f l]; omega
theorem bad_row {v : PV} (hv : v ∈ ([.non, .tup [], .lst [.int 2, .int 3], .tup [.int 0], .tup [.int 13], .tup [.bl true], .tup (List.replicate (6 : Int).toNat [PV.int 1]).flatten, .tup [.int 2, .non], .int 5] : List PV)) : plB v = true ∧ isRow v = false := by
  simp only [List.mem_cons, List.not_mem_nil, or_false] at hv
  rcases hv with rfl | rfl | rfl | rfl | rfl | rfl | rfl | rfl | rfl
  all_goals exact ⟨by decide +kernel, by decide +kernel⟩
theorem k77_law {W0 : Mu} {ns : List Int} (hl : ns.length ≤ 63) : fnSem (gam Hd.T0 (96 + 3)) Hd.F_law [.scr ns] W0 (fun v _ => v = .bl true) noX := by
  refine ⟨rfl, ?_⟩
  simp only [Hd.F_law, Hd.law_196]
  walk_at "ev"
  refine begun_ok h77_dr hl fun μ1 hs => ?_
  walk_at "ev"
  simp only [Hd.law_197]
  walk_at "ev"
  refine ⟨by omega, ?_⟩
  refine forE_rng (fun j ρ μ => ∃ o2 o3 o4 o5 o6 o7 o8 o9 oa ob oc od oe, ρ = [some (.scr ns), some (.obj W0.length), o2, o3, o4, o5, o6, o7, o8, o9, oa, ob, oc, od, oe] ∧ StW W0 (100 * j) μ) ?_ ?_ ⟨_, _, _, _, _, _, _, _, _, _, _, _, _, rfl, hs⟩
  · rintro j ρ μ hj ⟨o2, o3, o4, o5, o6, o7, o8, o9, oa, ob, oc, od, oe, rfl, hs⟩ N hN
    have hj6 : j < 6 := hj
    simp only [Hd.law_198]
    walk_at "ev"
    refine draw_ok h77_dr hs (by omega) (by decide) (natAbs_lt (k := 10) (by decide) (by decide)) fun i μ2 i0 i1 hs2 => ?_
    walk_at "ev"
    refine ⟨by omega, ?_⟩
    refine comp_draws h77_dr (own := []) hs2 (by omega) (by decide) (by decide) (by omega) rfl (by decide) fun row μ3 hlen hp hs3 => ?_
    have hR : RowOk row := ⟨by intro z; subst z; simp at hlen; omega, by omega, fun p h => by have := hp p h; omega⟩
    have h1 : ∀ p ∈ row, 1 ≤ p := fun p hp => (hR.part p hp).1
    have hp2 : ∀ p ∈ row, 1 ≤ p ∧ p ≤ 1000000 := fun p hp => by have := hR.part p hp; omega
    walk_at "ev"
    simp only [Hd.law_199]
    walk_at "ev"
    refine lqs_of (fun _ => rfl) h77_lc h77_ls h1 ?_
    walk_at "ev"
    by_cases g : Qu.G row = 1
    · rw [decide_eq_true (show ((Qu.G row : Nat) : Int) = 1 by omega)]
      walk_at "ev"
      simp only [Hd.law_203]
      walk_at "ev"
      refine call_fn (fun _ => rfl) h77_nu _ (numbers_sem _ _ hp2 (by omega) (by omega) ?_)
      walk_at "ev"
      simp only [Hd.law_204]
      walk_at "ev"
      refine ⟨by omega, ?_⟩
      rw [rngL_map]
      refine compE_filter (fun c : Nat => decide (Qu.N row (c : Int) = 0)) (fun c : Nat => PV.int (0 + (c : Int))) (fun c : Nat => PV.int (c : Int)) _ (le_size (by simp)) (fun c hc => ⟨_, rfl, fun N hN => ⟨?_, fun hx N2 hN2 => ?_⟩⟩) ?_
      · have hc := List.mem_range.mp hc
        have hc : c < 401 := hc
        walk_at "ev"
        rw [tabI_get (n := (400 + 1 : Int).toNat) (by omega) (by omega)]
        walk_at "ev"
        rw [Int.zero_add]
        exact hN
      · walk_at "ev"
        refine hN2 _ ?_
        rw [Int.zero_add]; rfl
      have edue : (List.range (401 : Int).toNat).filter (fun c : Nat => decide (Qu.N row (c : Int) = 0)) = Qu.gapL row 401 := rfl
      rw [edue, show ((Qu.gapL row 401).map fun c : Nat => PV.int (c : Int)) = natsP (Qu.gapL row 401) from rfl]
      walk_at "ev"
      simp only [Hd.law_205]
      walk_at "ev"
      refine gaps_of_ok h77_gp hR g fun m M L => ?_
      rw [gaps_any L]
      have mm := L.most
      have m0 := L.m0
      have hgl : (Qu.gapL row 401).length ≤ 401 ∧ ∀ a ∈ Qu.gapL row 401, a < 1000 := ⟨by
        have := List.length_filter_le (fun (a : Nat) => decide (Qu.N row (a : Int) = 0)) (List.range 401)
        rw [List.length_range] at this; exact this, fun a ha => by have := L.gap_le ha; omega⟩
      refine shw_nats.rep (by decide) (by decide) hgl ?_
      walk_at "ev"
      refine shw_nats.rep (by decide) (by decide) hgl ?_
      walk_at "ev"
      refine shw_nats.same hgl ?_
      walk_at "ev"
      have l0 : 0 < row.length := List.length_pos_iff.mpr hR.ne
      refine compE_filter (fun _ => false) (fun a : Nat => PV.int (a : Int)) (fun _ => PV.int 1) (Qu.gapL row 401) (le_size (by omega)) (fun a ha => ⟨_, rfl, fun N3 hN3 => ⟨?_, fun hx => nomatch hx⟩⟩) ?_
      · walk_at "ev"
        rw [bi_minT]
        refine ⟨l0, fun x hx => ?_⟩
        walk_at "ev"
        rw [bi_maxT]
        refine ⟨l0, fun y hy => ?_⟩
        obtain ⟨m2, M2, rfl, rfl, L2⟩ := LG_of hR g hx hy
        have := L2.gap_le ha
        have := L2.m0
        walk_at "ev"
        refine ⟨mulOk_l (by omega) (by omega), ?_⟩
        rw [← Int.natCast_mul, decide_eq_false (by omega)]
        exact hN3
      rw [show (Qu.gapL row 401).filter (fun _ => false) = [] by simp, List.map_nil]
      refine nil_ints (ns := []) [] (by simp) _ ?_
      simp only [List.isEmpty_nil]
      walk_at "ev"
      simp only [Hd.law_207]
      walk_at "ev"
      rw [bi_minT]
      refine ⟨l0, fun x hx => ?_⟩
      obtain rfl : x = (m : Int) := Int.le_antisymm (hx.2 _ L.hm) (L.le _ hx.1)
      walk_at "ev"
      simp only [Hd.law_208]
      walk_at "ev"
      refine ⟨by omega, ?_⟩
      rw [rngL_map, Int.toNat_natCast]
      refine compE_map (fun c : Nat => PV.int (0 + (c : Int))) (fun r : Nat => PV.int (Qu.first row m r : Nat)) _ (le_size (by simp; omega)) (fun r hr => ⟨_, rfl, fun N hN => ?_⟩) ?_
      · have hr := List.mem_range.mp hr
        walk_at "ev"
        refine ⟨by omega, ?_⟩
        rw [rngL_map]
        refine compE_filter (Qu.fP row m r) (fun c : Nat => PV.int (0 + (c : Int))) (fun c : Nat => PV.int (c : Int)) _ (le_size (by simp)) (fun c hc => ⟨_, rfl, fun N hN => ⟨?_, fun hx N2 hN2 => ?_⟩⟩) ?_
        · have hc := List.mem_range.mp hc
          have hc : c < 401 := hc
          walk_at "ev"
          have em : (0 + (c : Int)).fmod (m : Int) = ((c % m : Nat) : Int) := by rw [Int.fmod_eq_emod_of_nonneg _ (by omega)]; simp
          refine ⟨by omega, ?_⟩
          rw [em]
          have hb : decide (((c % m : Nat) : Int) = 0 + (r : Int)) = decide (c % m = r) := decide_eq_decide.mpr (by omega)
          rw [hb]
          unfold Qu.fP at hN
          by_cases z : c % m = r
          · rw [decide_eq_true z] at hN ⊢
            walk_at "ev"
            rw [tabI_get (n := (400 + 1 : Int).toNat) (by omega) (by omega)]
            walk_at "ev"
            rw [Int.zero_add]
            exact hN
          · rw [decide_eq_false z] at hN ⊢
            exact hN
        · walk_at "ev"
          refine hN2 _ ?_
          rw [Int.zero_add]; rfl
        · walk_at "ev"
          have e : ((List.range (401 : Int).toNat).filter (Qu.fP row m r)).map (fun c : Nat => PV.int (c : Int)) = (((List.range 401).filter (Qu.fP row m r)).map fun (a : Nat) => (a : Int)).map PV.int := by rw [List.map_map]; rfl
          rw [e, bi_minL]
          refine ⟨?_, fun x hx => ?_⟩
          · obtain ⟨k1, k2, k3⟩ := L.first hr
            refine List.length_pos_of_mem (a := ((Qu.first row m r : Nat) : Int)) (List.mem_map.mpr ⟨_, List.mem_filter.mpr ⟨List.mem_range.mpr (by omega), k2⟩, rfl⟩)
          · rw [min_first L hr hx]
            exact hN _ rfl
      walk_at "ev"
      have ef : ((List.range m).map fun r : Nat => PV.int (Qu.first row m r : Nat)) = natsP ((List.range m).map (Qu.first row m)) := by unfold natsP; rw [List.map_map]; rfl
      rw [ef]
      simp only [Hd.law_209]
      walk_at "ev"
      refine first_with_rests_ok h77_gp hR g fun m2 M2 L2 => ?_
      obtain rfl : m2 = m := by
        have := L.le _ L2.hm
        have := L2.le _ L.hm
        omega
      have hfl : ((List.range m2).map (Qu.first row m2)).length ≤ 401 ∧ ∀ a ∈ (List.range m2).map (Qu.first row m2), a < 1000 := ⟨by simp; omega, fun a ha => by
        obtain ⟨r, hr, rfl⟩ := List.mem_map.mp ha
        have := (L.first (List.mem_range.mp hr)).1
        omega⟩
      refine shw_nats.rep (by decide) (by decide) hfl ?_
      walk_at "ev"
      refine shw_nats.rep (by decide) (by decide) hfl ?_
      walk_at "ev"
      refine shw_nats.same hfl ?_
      walk_at "ev"
      refine compE_map (fun c : Nat => PV.int (c : Int)) (fun c : Nat => PV.int ((c / m2 : Nat) : Int)) ((List.range m2).map (Qu.first row m2)) (le_size (by simp; omega)) (fun c hc => ⟨_, rfl, fun N3 hN3 => ?_⟩) ?_
      · have hc := hfl.2 c hc
        walk_at "ev"
        have em : (c : Int).fdiv (m2 : Int) = ((c / m2 : Nat) : Int) := by rw [Int.fdiv_eq_ediv_of_nonneg _ (by omega)]; simp
        refine ⟨by omega, noPyS (by omega), hN3 _ ?_⟩
        rw [em]; rfl
      have es : (((List.range m2).map (Qu.first row m2)).map fun c : Nat => PV.int ((c / m2 : Nat) : Int)) = ((List.range m2).map fun r => ((Qu.first row m2 r / m2 : Nat) : Int)).map PV.int := by rw [List.map_map, List.map_map]; rfl
      rw [es]
      walk_at "ev"
      rw [bi_sumL]
      walk_at "ev"
      rw [sum_nats (fun r => Qu.first row m2 r / m2), ← L.count]
      have lg : (natsP (Qu.gapL row 401)).length = (Qu.gapL row 401).length := by simp [natsP]
      rw [lg, decide_eq_true rfl]
      walk_at "ev"
      simp only [Hd.law_211]
      walk_at "ev"
      refine k77_pair_ok hs3 (by omega) fun μ4 hs4 => ?_
      walk_at "ev"
      simp only [Hd.law_213]
      walk_at "ev"
      refine ⟨⟨by simp, by decide, by decide⟩, ?_⟩
      refine pick_ok h77_dr hs4 (by omega) (by simp) (by simp) fun v μ5 hv hs5 => ?_
      obtain ⟨hv1, hv2⟩ := bad_row hv
      have ho := plB_own hv1
      walk_at "ev"
      simp only [Hd.law_214]
      walk_at "ev"
      refine forE_ind (fun xs ρ μ => ∃ o9, (∀ x ∈ xs, x = PV.fn "gaps_of" ∨ x = PV.fn "first_with_rests" ∨ x = PV.fn "quasi_of" ∨ x = PV.clo 0 []) ∧ ρ = [some (.scr ns), some (.obj W0.length), some (.int (0 + (j : Int))), some (.tup (row.map PV.int)), some (.nls (tabI (Qu.N row) (400 + 1 : Int).toNat)), some (.nls (natsP (Qu.gapL row 401))), some (.int (m2 : Int)), some (.nls (natsP ((List.range m2).map (Qu.first row m2)))), some v, o9, oa, ob, oc, od, oe] ∧ μ = μ5) ?_ ?_ _ _ _ ⟨_, by simp, rfl, rfl⟩
      · rintro x xs ρ μ ⟨o9, hx, rfl, rfl⟩
        refine ⟨_, rfl, fun N2 hN2 => ?_⟩
        have hn := hN2 _ _ ⟨some x, fun y hy => hx y (List.mem_cons_of_mem _ hy), rfl, rfl⟩
        simp only [Hd.law_215]
        walk_at "ev"
        refine refd_ok (d := 96) h77_kd fun N3 X3 hX => ?_
        rcases hx x (by simp) with rfl | rfl | rfl | rfl
        · simp only [ev_callv, List.set_cons_succ, List.set_cons_zero, List.getElem?_cons_succ, List.getElem?_cons_zero, vr_fn, calK_fn, gam_isf, els_cons, els_nil, ev_var, vr_any ho, fz_any ho]
          refine ⟨by decide +kernel, ?_⟩
          refine gaps_of_bad h77_gp hv1 hv2 (hX _ _ _ _ _ h77_ro ?_)
          walk_at "ev"
          exact hn
        · simp only [ev_callv, List.set_cons_succ, List.set_cons_zero, List.getElem?_cons_succ, List.getElem?_cons_zero, vr_fn, calK_fn, gam_isf, els_cons, els_nil, ev_var, vr_any ho, fz_any ho]
          refine ⟨by decide +kernel, ?_⟩
          refine first_with_rests_bad h77_gp hv1 hv2 (hX _ _ _ _ _ h77_ro ?_)
          walk_at "ev"
          exact hn
        · simp only [ev_callv, List.set_cons_succ, List.set_cons_zero, List.getElem?_cons_succ, List.getElem?_cons_zero, vr_fn, calK_fn, gam_isf, els_cons, els_nil, ev_var, vr_any ho, fz_any ho]
          refine ⟨by decide +kernel, ?_⟩
          refine quasi_of_bad h77_qu hv1 hv2 (hX _ _ _ _ _ h77_ro ?_)
          walk_at "ev"
          exact hn
        · simp only [ev_callv, List.set_cons_succ, List.set_cons_zero, List.getElem?_cons_succ, List.getElem?_cons_zero, vr_clo, calK_clo, els_cons, els_nil, ev_var, vr_any ho, fz_any ho]
          rw [gam_clo Hd.T0 95]
          refine ⟨rfl, ?_⟩
          simp only [List.map_cons, List.map_nil]
          walk_at "ev"
          simp only [vr_any ho, fz_any ho]
          refine plans_number_badrow h77_pn hv1 hv2 (hX _ _ _ _ _ h77_ro ?_)
          walk_at "ev"
          exact hn
      · rintro ρ μ ⟨o9, hx, rfl, rfl⟩
        exact hN _ _ ⟨_, _, _, _, _, _, _, _, _, _, _, _, _, rfl, hs5.mono (by omega)⟩
    · rw [decide_eq_false (show ¬ ((Qu.G row : Nat) : Int) = 1 by omega)]
      walk_at "ev"
      simp only [Hd.law_200]
      walk_at "ev"
      refine refd_ok (d := 96) h77_kd fun N2 X2 hX => ?_
      simp only [ev_call, els_cons, els_nil, ev_var, List.getElem?_cons_zero, List.getElem?_cons_succ, vr_tup, fz_tup]
      refine gaps_of_cop h77_gp hR g (hX _ _ _ _ _ h77_nc ?_)
      walk_at "ev"
      refine refd_ok (d := 96) h77_kd fun N2 X2 hX => ?_
      simp only [ev_call, els_cons, els_nil, ev_var, List.getElem?_cons_zero, List.getElem?_cons_succ, vr_tup, fz_tup]
      refine first_with_rests_cop h77_gp hR g (hX _ _ _ _ _ h77_nc ?_)
      walk_at "ev"
      simp only [Hd.law_202]
      walk_at "ev"
      exact hN _ _ ⟨_, _, _, _, _, _, _, _, _, _, _, _, _, rfl, hs3.mono (by omega)⟩
  · rintro ρ μ ⟨o2, o3, o4, o5, o6, o7, o8, o9, oa, ob, oc, od, oe, rfl, hs⟩
    simp only [Hd.law_217]
    walk_at "ev"
end Mi
end

theorem PySem.Challenge.cw_wholesteps_k77_whole_gaps_of_a_row_holds : PySem.Challenge.rw_wholesteps_k77_whole_gaps_of_a_row.Holds := by
  exact Hd.holds fun ns tb _ hl _ => Mi.k77_law hl
