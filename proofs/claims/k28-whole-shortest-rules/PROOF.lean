import PyProof.Rows.All
import Wide.All
import OpenK.AllK
import Wide.FinOn
import HandS.ForMost
import PySem.Challenge.RW_weakestpass_k28_whole_shortest_rules
import KE.SortData
import HandS.ForExc
import HandS.TupAny
import HandS.TupMul
import HandS.Deep
import HandS.IsInst
import HandS.Wide
import HandS.Style
import HandS.SortInts
import HandS.Conv
import PyProof.Rows.IntBool
import KE.KTupSum
import HandS.SortOrd
import KE.GoesNew
import KE.GoesEnum
import HandS.Zip
import HandS.RaiseMore
import KE.KRevSl
import HandS.WordsExc
import HandS.SetFor
set_option Elab.async false
set_option linter.all false
set_option maxRecDepth 100000
/-! WA: a small language of data, its terms and what they compute -/
namespace Wk
open PySem
abbrev D := PyData
structure SV where
  a : Int
  b : Int
  c : Int
def sv0 : SV := ⟨0, 0, 0⟩
inductive Res (α : Type) where
  | ok (x : α) (s : SV)
  | er (c : Str) (s : SV)
  | no
abbrev M (α : Type) := SV → Res α
def ret {α : Type} (x : α) : M α := fun s => .ok x s
def stuck {α : Type} : M α := fun _ => .no
def rai {α : Type} (c : Str) : M α := fun s => .er c s
def bnd {α β : Type} (m : M α) (f : α → M β) : M β := fun s => match m s with
  | .ok x s' => f x s'
  | .er c s' => .er c s'
  | .no => .no
/-- nothing may be raised within -/
def noer {α : Type} (m : M α) : M α := fun s => match m s with
  | .er _ _ => .no
  | r => r
/-- a call that has no part in the source -/
def pcall {α : Type} (m : M α) : M α := fun s => match m sv0 with
  | .ok x _ => .ok x s
  | .er c _ => .er c s
  | .no => .no
section
variable {α β γ : Type}
@[simp] theorem bnd_ret (x : α) (f : α → M β) : bnd (ret x) f = f x := rfl
@[simp] theorem bnd_stuck (f : α → M β) : bnd stuck f = stuck := rfl
@[simp] theorem bnd_rai (c : Str) (f : α → M β) : bnd (rai c) f = rai c := rfl
@[simp] theorem pcall_ret (x : α) : pcall (ret x) = ret x := rfl
@[simp] theorem pcall_rai (c : Str) : pcall (rai c : M α) = rai c := rfl
@[simp] theorem noer_ret (x : α) : noer (ret x) = ret x := rfl
theorem bnd_assoc (m : M α) (f : α → M β) (g : β → M γ) : bnd (bnd m f) g = bnd m fun x => bnd (f x) g := by
  funext s
  show (match bnd m f s with | .ok x s' => g x s' | .er c s' => .er c s' | .no => .no) = (match m s with | .ok x s' => bnd (f x) g s' | .er c s' => .er c s' | .no => .no)
  unfold bnd
  cases m s <;> rfl
end
/-! ### operators on data -/
def sizeOk (n : Nat) : Bool := decide (n ≤ 16777216)
def mulOk (i j : Int) : Bool := decide ((-(2 ^ 64) < i ∧ i < 2 ^ 64) ∨ (-(2 ^ 64) < j ∧ j < 2 ^ 64)) || decide (i.natAbs.log2 + j.natAbs.log2 < 1000000)
def divOk (j : Int) : Bool := decide (0 < j) && (decide (j < 1073741824) || decide (j.natAbs.log2 < 9000))
def powOk (i j : Int) : Bool := decide (0 ≤ j ∧ j ≤ 1000000 ∧ i.natAbs < 2 ^ 64)
def repOk (n : Nat) (k : Int) : Bool := decide (-(2 ^ 63) ≤ k ∧ k < 2 ^ 63 ∧ n * k.toNat ≤ 16777216)
def repTOk (n : Nat) (k : Int) : Bool := decide (0 ≤ k ∧ k ≤ 1000 ∧ n ≤ 1000)
def bI (b : Bool) : Int := if b = true then 1 else 0
def addD : D → D → M D
  | .int a, .int b => ret (.int (a + b))
  | .bool a, .int b => ret (.int (bI a + b))
  | .list a, .list b => if sizeOk (a.length + b.length) = true then ret (.list (a ++ b)) else stuck
  | .tuple a, .tuple b => if sizeOk (a.length + b.length) = true then ret (.tuple (a ++ b)) else stuck
  | .str a, .str b => if sizeOk (a.length + b.length) = true then ret (.str (a ++ b)) else stuck
  | _, _ => stuck
def subD : D → D → M D
  | .int a, .int b => ret (.int (a - b))
  | .bool a, .int b => ret (.int (bI a - b))
  | _, _ => stuck
def mulD : D → D → M D
  | .int a, .int b => if mulOk a b = true then ret (.int (a * b)) else stuck
  | .tuple a, .int k => if repTOk a.length k = true then ret (.tuple (List.replicate k.toNat a).flatten) else stuck
  | _, _ => stuck
def repD (a : List D) : D → M D
  | .int k => if repOk a.length k = true then ret (.list (List.replicate k.toNat a).flatten) else stuck
  | _ => stuck
def fdivD : D → D → M D
  | .int a, .int b => if divOk b = true then ret (.int (a / b)) else stuck
  | _, _ => stuck
def modD : D → D → M D
  | .int a, .int b => if 0 < b then ret (.int (a % b)) else stuck
  | _, _ => stuck
def powD : D → D → M D
  | .int a, .int b => if powOk a b = true then ret (.int (a ^ b.toNat)) else stuck
  | _, _ => stuck
inductive BOp where
  | add | sub | mul | fdiv | mod | pow
  deriving DecidableEq
def binD : BOp → D → D → M D
  | .add => addD
  | .sub => subD
  | .mul => mulD
  | .fdiv => fdivD
  | .mod => modD
  | .pow => powD
def negD : D → M D
  | .int a => ret (.int (-a))
  | _ => stuck
abbrev bl (b : Bool) : D := .bool b
/-- == -/
def eqD (x y : D) : M D := if (SeqAt.shaped x && SeqAt.shaped y) = true then ret (bl (PyData.eqv x y)) else stuck
def neD (x y : D) : M D := if (SeqAt.shaped x && SeqAt.shaped y) = true then ret (bl (!PyData.eqv x y)) else stuck
def ltD : D → D → M D
  | .int a, .int b => ret (bl (decide (a < b)))
  | _, _ => stuck
def leD : D → D → M D
  | .int a, .int b => ret (bl (decide (a ≤ b)))
  | _, _ => stuck
def gtD : D → D → M D
  | .int a, .int b => ret (bl (decide (b < a)))
  | _, _ => stuck
def geD : D → D → M D
  | .int a, .int b => ret (bl (decide (b ≤ a)))
  | _, _ => stuck
def inD (x : D) : D → M D
  | .list ds => if (SeqAt.shaped x && SeqAt.shaped (.list ds)) = true then ret (bl (ds.any fun z => PyData.eqv z x)) else stuck
  | .tuple ds => if (SeqAt.shaped x && SeqAt.shaped (.tuple ds)) = true then ret (bl (ds.any fun z => PyData.eqv z x)) else stuck
  | _ => stuck
def notInD (x : D) : D → M D
  | .list ds => if (SeqAt.shaped x && SeqAt.shaped (.list ds)) = true then ret (bl (!ds.any fun z => PyData.eqv z x)) else stuck
  | .tuple ds => if (SeqAt.shaped x && SeqAt.shaped (.tuple ds)) = true then ret (bl (!ds.any fun z => PyData.eqv z x)) else stuck
  | _ => stuck
def isNone : D → Bool
  | .none => true
  | _ => false
def isD (x : D) : D → M D
  | .none => ret (bl (isNone x))
  | .bool k => match x with
    | .bool b => ret (bl (decide (b = k)))
    | _ => stuck
  | _ => stuck
def isNotD (x : D) : D → M D
  | .none => ret (bl (!isNone x))
  | .bool k => match x with
    | .bool b => ret (bl (!decide (b = k)))
    | _ => stuck
  | _ => stuck
inductive COp where
  | eq | ne | lt | le | gt | ge | is | isnot | in | notin
  deriving DecidableEq
def cmpD : COp → D → D → M D
  | .eq => eqD
  | .ne => neD
  | .lt => ltD
  | .le => leD
  | .gt => gtD
  | .ge => geD
  | .is => isD
  | .isnot => isNotD
  | .in => inD
  | .notin => notInD
def tst : D → M Bool
  | .bool b => ret b
  | _ => stuck
/-! ### items, slices -/
def ixD : D → D → M D
  | .list ds, .int i => match L2.atI ds i with
    | some d => ret d
    | none => stuck
  | .tuple ds, .int i => match L2.atI ds i with
    | some d => ret d
    | none => stuck
  | _, _ => stuck
def cutD (xs : List D) (lo hi : Option Int) : List D := (xs.drop (HT.sIx xs.length 0 lo)).take (HT.sIx xs.length xs.length hi - HT.sIx xs.length 0 lo)
def slD (x : D) (lo hi : Option Int) : M D := match x with
  | .list ds => ret (.list (cutD ds lo hi))
  | .tuple ds => ret (.tuple (cutD ds lo hi))
  | _ => stuck
def revD : D → M D
  | .list ds => ret (.list ds.reverse)
  | .tuple ds => ret (.tuple ds.reverse)
  | _ => stuck
def partD : D → M (Option Int)
  | .int i => ret (some i)
  | _ => stuck
/-! ### built-in functions -/
def ints? : List D → Option (List Int)
  | [] => some []
  | .int i :: r => (ints? r).map (i :: ·)
  | _ :: _ => none
def bools? : List D → Option (List Bool)
  | [] => some []
  | .bool i :: r => (bools? r).map (i :: ·)
  | _ :: _ => none
def intsD : D → Option (List Int)
  | .list ds => ints? ds
  | .tuple ds => ints? ds
  | _ => none
def maxL : List Int → Int
  | [] => 0
  | [x] => x
  | x :: y :: r => max x (maxL (y :: r))
def minL : List Int → Int
  | [] => 0
  | [x] => x
  | x :: y :: r => min x (minL (y :: r))
inductive B1 where
  | len | sum | max | min | any | all | sorted | tuple | list | int | str
  deriving DecidableEq
def lenD : D → M D
  | .list ds => ret (.int ds.length)
  | .tuple ds => ret (.int ds.length)
  | _ => stuck
def sumD (x : D) : M D := match intsD x with
  | some ns => ret (.int ns.sum)
  | none => stuck
def maxD : D → M D
  | .list ds => match ints? ds with
    | some (n :: ns) => ret (.int (maxL (n :: ns)))
    | _ => stuck
  | _ => stuck
def minD : D → M D
  | .list ds => match ints? ds with
    | some (n :: ns) => ret (.int (minL (n :: ns)))
    | _ => stuck
  | _ => stuck
def anyD : D → M D
  | .list ds => match bools? ds with
    | some bs => ret (bl (bs.any id))
    | none => stuck
  | _ => stuck
def allD : D → M D
  | .list ds => match bools? ds with
    | some bs => ret (bl (bs.all id))
    | none => stuck
  | _ => stuck
def sortI (ns : List Int) : List Int := ns.mergeSort fun a b => decide (a ≤ b)
def sortable (ds : List D) : Bool := ds.all (fun d => ds.all (fun e => W.alike d e)) && ds.all (fun d => decide (PyData.depth d ≤ 60)) && (ds.all (fun d => match d with
    | .tuple (_ :: _) => true
    | _ => false) || ds.all (fun d => match d with
    | .none => false
    | .tuple _ => false
    | _ => true))
def sortT (ds : List D) : List D := ds.mergeSort fun a b => !W.dataLt b a
def seqD : D → Option (List D)
  | .list ds => some ds
  | .tuple ds => some ds
  | _ => none
def sortedD (x : D) : M D := match seqD x with
  | some ds => if sortable ds = true then ret (.list (sortT ds)) else stuck
  | none => stuck
def tupleD : D → M D
  | .list ds => ret (.tuple ds)
  | .tuple ds => ret (.tuple ds)
  | _ => stuck
def listD : D → M D
  | .list ds => ret (.list ds)
  | .tuple ds => ret (.list ds)
  | _ => stuck
def intD : D → M D
  | .int i => ret (.int i)
  | .bool k => ret (.int (if k then 1 else 0))
  | _ => stuck
def strD : D → M D
  | .int i => if i.natAbs.log2 < 1920 then ret (.str (toString i)) else stuck
  | .str s => ret (.str s)
  | .bool b => ret (.str (if b = true then "True" else "False"))
  | _ => stuck
def b1D : B1 → D → M D
  | .len => lenD
  | .sum => sumD
  | .max => maxD
  | .min => minD
  | .any => anyD
  | .all => allD
  | .sorted => sortedD
  | .tuple => tupleD
  | .list => listD
  | .int => intD
  | .str => strD
def max2D : D → D → M D
  | .int i, .int j => ret (.int (max i j))
  | _, _ => stuck
def min2D : D → D → M D
  | .int i, .int j => ret (.int (min i j))
  | _, _ => stuck
def max3D : D → D → D → M D
  | .int i, .int j, .int k => ret (.int (max (max i j) k))
  | _, _, _ => stuck
inductive Ty where
  | int | bool | str | list | tuple
  deriving DecidableEq
def tyIs : D → Ty → Bool
  | .bool _, .bool => true
  | .bool _, .int => true
  | .int _, .int => true
  | .str _, .str => true
  | .list _, .list => true
  | .tuple _, .tuple => true
  | _, _ => false
def rngOk (a b : Int) : Bool := decide (-(2 ^ 62) ≤ a ∧ a < 2 ^ 62 ∧ -(2 ^ 62) ≤ b ∧ b < 2 ^ 62 ∧ b - a ≤ 16777216)
def rngL (a b : Int) : List D := (List.range (b - a).toNat).map fun i => .int (a + (i : Nat))
def rng1 : D → M (List D)
  | .int b => if rngOk 0 b = true then ret (rngL 0 b) else stuck
  | _ => stuck
def rng2 : D → D → M (List D)
  | .int a, .int b => if rngOk a b = true then ret (rngL a b) else stuck
  | _, _ => stuck
def enumL : Nat → List D → List D
  | _, [] => []
  | i, d :: ds => .tuple [.int (i : Nat), d] :: enumL (i + 1) ds
def seqM (x : D) : M (List D) := match seqD x with
  | some ds => ret ds
  | none => stuck
def enumD (x : D) : M (List D) := match seqD x with
  | some ds => ret (enumL 0 ds)
  | none => stuck
def zipD (x y : D) : M (List D) := match seqD x, seqD y with
  | some ds, some es => ret (List.zipWith (fun a b => .tuple [a, b]) ds es)
  | _, _ => stuck
/-! ### slots -/
inductive Slot where
  /-- not known -/
  | un
  /-- data -/
  | im (d : D)
  /-- a list of its own -/
  | ow (ds : List D)
  /-- .. that a loop walks -/
  | ln (ds : List D)
  /-- the source -/
  | sr
abbrev Env := List Slot
def vald (env : Env) (i : Nat) : M D := match env[i]? with
  | some (.im d) => ret d
  | _ => stuck
def valb (env : Env) (i : Nat) : M D := match env[i]? with
  | some (.im d) => ret d
  | some (.ow ds) => ret (.list ds)
  | some (.ln ds) => ret (.list ds)
  | _ => stuck
/-- a slot that may be stored to -/
def free (env : Env) (i : Nat) : Bool := match env[i]? with
  | some (.im _) => true
  | some .un => true
  | some (.ow _) => true
  | _ => false
def wipeE (env : Env) : List Nat → Env
  | [] => env
  | i :: r => (wipeE env r).set i .un
/-! ### terms -/
mutual
inductive Tg where
  | nm (i : Nat)
  | tp (ts : Tgs)
inductive Tgs where
  | nil
  | cons (t : Tg) (ts : Tgs)
end
mutual
inductive IE where
  | var (i : Nat)
  | bv (i : Nat)
  | int (n : Int)
  | bool (b : Bool)
  | non
  | str (s : Str)
  | glob (x : Str) (n : Int)
  | bin (op : BOp) (a b : IE)
  | neg (a : IE)
  | cmp (op : COp) (a b : IE)
  | chain (op op' : COp) (a b c : IE)
  | not (a : IE)
  | and (es : IEs)
  | or (es : IEs)
  | ite (c a b : IE)
  | tup (es : IEs)
  | lst (es : IEs)
  | ix (a i : IE)
  | sl (a : IE) (lo hi : IP)
  | rep (es : IEs) (n : IE)
  | rev (a : IE)
  | call (f : Nat) (es : IEs)
  | callS (f i : Nat) (es : IEs)
  | b1 (b : B1) (a : IE)
  | rngl (it : II)
  | max2 (a b : IE)
  | min2 (a b : IE)
  | max3 (a b c : IE)
  | isi (a : IE) (t : Ty)
  | isi2 (a : IE) (t u : Ty)
  | lc (t : Tg) (it : II) (ifs : IEs) (e : IE) (own : List Nat)
  | lc2 (t : Tg) (it : II) (t2 : Tg) (it2 : II) (e : IE) (own own2 : List Nat)
  | callB (f : Nat) (a b : IE)
  | mcnt (a b : IE)
  | midx (a b : IE)
  | src (i k : Nat)
inductive IEs where
  | nil
  | cons (e : IE) (es : IEs)
/-- a part of a slice -/
inductive IP where
  | no
  | at (e : IE)
/-- what is walked -/
inductive II where
  | seq (e : IE)
  | rng1 (a : IE)
  | rng2 (a b : IE)
  | enm (a : IE)
  | zip (a b : IE)
end
abbrev Sems := Nat → List D → M D
mutual
def bindT : Tg → D → Env → Option Env
  | .nm i, d, env => if free env i = true then some (env.set i (.im d)) else none
  | .tp ts, .tuple ds, env => bindTs ts ds env
  | .tp _, _, _ => none
def bindTs : Tgs → List D → Env → Option Env
  | .nil, [], env => some env
  | .nil, _ :: _, _ => none
  | .cons _ _, [], _ => none
  | .cons t ts, d :: ds, env => (bindT t d env).bind fun env' => bindTs ts ds env'
end
/-- a comprehension's turns -/
def lcRun (g : D → M (Option D)) : List D → M (List D)
  | [] => ret []
  | d :: ds => bnd (g d) fun o => bnd (lcRun g ds) fun ys => ret (match o with
    | some y => y :: ys
    | none => ys)
/-- two walks -/
def lcRun2 (g : D → M (List D)) : List D → M (List D)
  | [] => ret []
  | d :: ds => bnd (g d) fun l => bnd (lcRun2 g ds) fun ys => ret (l ++ ys)
def fitM (ys : List D) : M D := if sizeOk ys.length = true then ret (.list ys) else stuck
def scal : D → Bool
  | .int _ => true
  | .bool _ => true
  | .none => true
  | .str _ => true
  | _ => false
def scalM (d : D) : M D := if scal d = true then ret d else stuck
def lisM : D → M D
  | .list ds => ret (.list ds)
  | _ => stuck
def cntD : D → D → M D
  | .list ds, .int k => match ints? ds with
    | some ns => ret (.int (ns.count k : Nat))
    | none => stuck
  | _, _ => stuck
def idxD : D → D → M D
  | .list ds, d => if (SeqAt.shaped (.list ds) && SeqAt.shaped d) = true then (match ds.findIdx? (fun z => PyData.eqv z d) with
    | some j => ret (.int (j : Nat))
    | none => stuck) else stuck
  | _, _ => stuck
def srcAt (s : SV) : Nat → Int
  | 0 => s.a
  | 1 => s.b
  | _ => s.c
def srcD (env : Env) (i k : Nat) : M D := match env[i]? with
  | some .sr => if k < 3 then fun s => .ok (.int (srcAt s k)) s else stuck
  | _ => stuck
mutual
def ev (G : Sems) : IE → Env → M D
  | .var i, env => vald env i
  | .bv i, env => valb env i
  | .int n, _ => ret (.int n)
  | .bool b, _ => ret (bl b)
  | .non, _ => ret .none
  | .str s, _ => ret (.str s)
  | .glob _ n, _ => ret (.int n)
  | .bin op a b, env => bnd (ev G a env) fun x => bnd (ev G b env) fun y => binD op x y
  | .neg a, env => bnd (ev G a env) fun x => negD x
  | .cmp op a b, env => bnd (ev G a env) fun x => bnd (ev G b env) fun y => cmpD op x y
  | .chain op op' a b c, env => bnd (ev G a env) fun x => bnd (ev G b env) fun y => bnd (cmpD op x y) fun r => bnd (tst r) fun k => if k = true then bnd (ev G c env) fun z => cmpD op' y z else ret (bl false)
  | .not a, env => bnd (ev G a env) fun x => bnd (tst x) fun k => ret (bl (!k))
  | .and es, env => evAnd G es env
  | .or es, env => evOr G es env
  | .ite c a b, env => bnd (ev G c env) fun x => bnd (tst x) fun k => if k = true then ev G a env else ev G b env
  | .tup es, env => bnd (evs G es env) fun ds => ret (.tuple ds)
  | .lst es, env => bnd (evs G es env) fun ds => ret (.list ds)
  | .ix a i, env => bnd (ev G a env) fun x => bnd (ev G i env) fun y => ixD x y
  | .sl a lo hi, env => bnd (ev G a env) fun x => bnd (evP G lo env) fun l => bnd (evP G hi env) fun h => slD x l h
  | .rep es n, env => bnd (evs G es env) fun ds => bnd (ev G n env) fun k => repD ds k
  | .rev a, env => bnd (ev G a env) fun x => revD x
  | .call f es, env => bnd (evs G es env) fun ds => pcall (G f ds)
  | .callS f i es, env => match env[i]? with
    | some .sr => bnd (evs G es env) fun ds => G f ds
    | _ => stuck
  | .b1 b a, env => bnd (ev G a env) fun x => b1D b x
  | .rngl it, env => bnd (evI G it env) fun ds => ret (.list ds)
  | .max2 a b, env => bnd (ev G a env) fun x => bnd (ev G b env) fun y => max2D x y
  | .min2 a b, env => bnd (ev G a env) fun x => bnd (ev G b env) fun y => min2D x y
  | .max3 a b c, env => bnd (ev G a env) fun x => bnd (ev G b env) fun y => bnd (ev G c env) fun z => max3D x y z
  | .isi a t, env => bnd (ev G a env) fun x => ret (bl (tyIs x t))
  | .isi2 a t u, env => bnd (ev G a env) fun x => ret (bl (tyIs x t || tyIs x u))
  | .lc t it ifs e own, env => bnd (evI G it env) fun ds => bnd (noer (lcRun (fun d => match bindT t d (wipeE env own) with
    | some env' => bnd (evIf G ifs env') fun k => if k = true then bnd (ev G e env') fun y => ret (some y) else ret none
    | none => stuck) ds)) fun ys => ret (.list ys)
  | .src i k, env => srcD env i k
  | .lc2 t it t2 it2 e own own2, env => bnd (evI G it env) fun ds => bnd (noer (lcRun2 (fun d => match bindT t d (wipeE env own) with
    | some env' => bnd (evI G it2 env') fun ds2 => lcRun (fun d2 => match bindT t2 d2 (wipeE env' own2) with
      | some env2 => bnd (ev G e env2) fun y => ret (some y)
      | none => stuck) ds2
    | none => stuck) ds)) fitM
  | .callB f a b, env => bnd (ev G a env) fun x => bnd (ev G b env) fun y => bnd (pcall (G f [x, y])) scalM
  | .mcnt a b, env => bnd (ev G a env) fun x => bnd (lisM x) fun l => bnd (ev G b env) fun y => cntD l y
  | .midx a b, env => bnd (ev G a env) fun x => bnd (lisM x) fun l => bnd (ev G b env) fun y => idxD l y
def evs (G : Sems) : IEs → Env → M (List D)
  | .nil, _ => ret []
  | .cons e es, env => bnd (ev G e env) fun x => bnd (evs G es env) fun xs => ret (x :: xs)
def evAnd (G : Sems) : IEs → Env → M D
  | .nil, _ => stuck
  | .cons e es, env => match es with
    | .nil => ev G e env
    | .cons _ _ => bnd (ev G e env) fun x => bnd (tst x) fun k => if k = true then evAnd G es env else ret (bl false)
def evOr (G : Sems) : IEs → Env → M D
  | .nil, _ => stuck
  | .cons e es, env => match es with
    | .nil => ev G e env
    | .cons _ _ => bnd (ev G e env) fun x => bnd (tst x) fun k => if k = true then ret (bl true) else evOr G es env
def evIf (G : Sems) : IEs → Env → M Bool
  | .nil, _ => ret true
  | .cons e es, env => match es with
    | .nil => bnd (ev G e env) tst
    | .cons _ _ => stuck
def evP (G : Sems) : IP → Env → M (Option Int)
  | .no, _ => ret none
  | .at e, env => bnd (ev G e env) partD
def evI (G : Sems) : II → Env → M (List D)
  | .seq e, env => bnd (ev G e env) seqM
  | .rng1 a, env => bnd (ev G a env) rng1
  | .rng2 a b, env => bnd (ev G a env) fun x => bnd (ev G b env) fun y => rng2 x y
  | .enm a, env => bnd (ev G a env) enumD
  | .zip a b, env => bnd (ev G a env) fun x => bnd (ev G b env) fun y => zipD x y
end
/-! ### statements -/
mutual
inductive IS where
  | set (i : Nat) (e : IE)
  | setL (i : Nat) (e : IE)
  | setT (t : Tg) (e : IE)
  | par (i j : Nat) (fa fb : Bool) (a b : IE)
  | aug (i : Nat) (e : IE)
  | augL (i : Nat) (e : IE)
  | store (i : Nat) (k e : IE)
  | app (i : Nat) (e : IE)
  | rem (i : Nat) (e : IE)
  | srcSet (i k : Nat) (e : IE)
  | ifs (c : IE) (a b : ISs)
  | forr (t : Tg) (it : II) (body : ISs)
  | forL (t : Tg) (i : Nat) (body : ISs)
  | whl (c : IE) (body : ISs)
  | ret (e : IE)
  | retL (e : IE)
  | retO (i : Nat)
  | rai (c : Str)
  | ex (e : IE)
inductive ISs where
  | nil
  | cons (s : IS) (r : ISs)
  | frz (is : List Nat) (r : ISs)
  | wipe (is : List Nat) (r : ISs)
  | src (i : Nat) (r : ISs)
end
inductive Fl where
  | nx (env : Env)
  | rt (d : D)
  | bk (env : Env)
  | ct (env : Env)
def frzS : Slot → Slot
  | .ow ds => .im (.list ds)
  | x => x
def frzE (env : Env) : List Nat → Env
  | [] => env
  | i :: r => (frzE env r).set i (match (frzE env r)[i]? with
    | some x => frzS x
    | none => .un)
def setI (env : Env) (i : Nat) (d : D) : M Env := if free env i = true then ret (env.set i (.im d)) else stuck
def setO (env : Env) (i : Nat) : D → M Env
  | .list ds => if free env i = true then ret (env.set i (.ow ds)) else stuck
  | _ => stuck
def owM (env : Env) (i : Nat) : M (List D) := match env[i]? with
  | some (.ow ds) => ret ds
  | _ => stuck
def inM (env : Env) (i : Nat) : M Int := match env[i]? with
  | some (.im (.int n)) => ret n
  | _ => stuck
def augD (env : Env) (i : Nat) (x : D) : M Env := match env[i]?, x with
  | some (.im (.int a)), .int b => ret (env.set i (.im (.int (a + b))))
  | _, _ => stuck
def augLD (env : Env) (i : Nat) (x : D) : M Env := match env[i]?, x with
  | some (.ow ds), .list es => if sizeOk (ds.length + es.length) = true then ret (env.set i (.ow (ds ++ es))) else stuck
  | _, _ => stuck
def storeD (env : Env) (i : Nat) (x k : D) : M Env := match env[i]?, k with
  | some (.ow ds), .int n => match L2.ixN ds.length n with
    | some j => ret (env.set i (.ow (ds.set j x)))
    | none => stuck
  | _, _ => stuck
def appD (env : Env) (i : Nat) (x : D) : M Env := match env[i]? with
  | some (.ow ds) => if ds.length < 16777216 then ret (env.set i (.ow (ds ++ [x]))) else stuck
  | _ => stuck
def remD (env : Env) (i : Nat) (x : D) : M Env := match env[i]?, x with
  | some (.ow ds), .int n => match ints? ds with
    | some ns => if n ∈ ns then ret (env.set i (.ow ((ns.erase n).map .int))) else stuck
    | none => stuck
  | _, _ => stuck
def srcUpd (s : SV) : Nat → Int → SV
  | 0, x => ⟨x, s.b, s.c⟩
  | 1, x => ⟨s.a, x, s.c⟩
  | _, x => ⟨s.a, s.b, x⟩
def srcSetD (env : Env) (i k : Nat) (x : D) : M Env := match env[i]?, x with
  | some .sr, .int n => if k < 3 then fun s => .ok env (srcUpd s k n) else stuck
  | _, _ => stuck
def unln (i : Nat) (env : Env) : M Fl := match env[i]? with
  | some (.ln ds) => ret (.nx (env.set i (.ow ds)))
  | _ => stuck
def endL (i : Nat) : Fl → M Fl
  | .nx env => unln i env
  | .rt d => ret (.rt d)
  | _ => stuck
def noSr : Slot → Bool
  | .sr => false
  | _ => true
def backE (i : Nat) (s : SV) (env : Env) : Option Env := match env[i]? with
  | some .sr => if ((env.set i .un).all noSr) = true then some (env.set i (.ow [.int s.a, .int s.b, .int s.c])) else none
  | _ => none
def backF (i : Nat) (s : SV) : Fl → Option Fl
  | .nx env => (backE i s env).map .nx
  | .bk env => (backE i s env).map .bk
  | .ct env => (backE i s env).map .ct
  | .rt d => some (.rt d)
def forRun (body : Env → M Fl) (bind : D → Env → Option Env) : List D → Env → M Fl
  | [], env => ret (.nx env)
  | d :: ds, env => match bind d env with
    | none => stuck
    | some env1 => bnd (body env1) fun f => match f with
      | .nx e => forRun body bind ds e
      | .ct e => forRun body bind ds e
      | .bk e => ret (.nx e)
      | .rt d => ret (.rt d)
def whRun (c : Env → M Bool) (body : Env → M Fl) : Nat → Env → M Fl
  | 0, _ => stuck
  | n + 1, env => bnd (c env) fun k => if k = true then bnd (body env) fun f => match f with
      | .nx e => whRun c body n e
      | .ct e => whRun c body n e
      | .bk e => ret (.nx e)
      | .rt d => ret (.rt d)
    else ret (.nx env)
open Classical in
noncomputable def whl (c : Env → M Bool) (body : Env → M Fl) (env : Env) : M Fl := fun s =>
  if h : ∃ n, whRun c body n env s ≠ .no then whRun c body (choose h) env s else .no
/-- the rest under the source at slot i -/
def srcInts : Option Slot → Option SV
  | some (.ow [.int a, .int b, .int c]) => some ⟨a, b, c⟩
  | _ => none
def srcRun (i : Nat) (env : Env) (r : Env → M Fl) : M Fl := match srcInts env[i]? with
  | some z => fun s => match r (env.set i .sr) z with
    | .ok f s' => match backF i s' f with
      | some f' => .ok f' s
      | none => .no
    | .er c _ => .er c s
    | .no => .no
  | none => stuck
mutual
noncomputable def exec (G : Sems) : IS → Env → M Fl
  | .set i e, env => bnd (ev G e env) fun x => bnd (setI env i x) fun env' => ret (.nx env')
  | .setL i e, env => bnd (ev G e env) fun x => bnd (setO env i x) fun env' => ret (.nx env')
  | .setT t e, env => bnd (ev G e env) fun x => match bindT t x env with
    | some env' => ret (.nx env')
    | none => stuck
  | .par i j fa fb a b, env => bnd (ev G a env) fun x => bnd (ev G b env) fun y => bnd (if fa = true then setO env i x else setI env i x) fun env1 => bnd (if fb = true then setO env1 j y else setI env1 j y) fun env2 => ret (.nx env2)
  | .aug i e, env => bnd (inM env i) fun _ => bnd (ev G e env) fun x => bnd (augD env i x) fun env' => ret (.nx env')
  | .augL i e, env => bnd (owM env i) fun _ => bnd (ev G e env) fun x => bnd (augLD env i x) fun env' => ret (.nx env')
  | .store i k e, env => bnd (ev G e env) fun x => bnd (owM env i) fun _ => bnd (ev G k env) fun y => bnd (storeD env i x y) fun env' => ret (.nx env')
  | .app i e, env => bnd (owM env i) fun _ => bnd (ev G e env) fun x => bnd (appD env i x) fun env' => ret (.nx env')
  | .rem i e, env => bnd (owM env i) fun _ => bnd (ev G e env) fun x => bnd (remD env i x) fun env' => ret (.nx env')
  | .srcSet i k e, env => bnd (ev G e env) fun x => bnd (srcSetD env i k x) fun env' => ret (.nx env')
  | .ifs c a b, env => bnd (ev G c env) fun x => bnd (tst x) fun k => if k = true then execs G a env else execs G b env
  | .forr t it body, env => bnd (evI G it env) fun ds => forRun (execs G body) (bindT t) ds env
  | .forL t i body, env => bnd (owM env i) fun ds => bnd (forRun (execs G body) (bindT t) ds (env.set i (.ln ds))) (endL i)
  | .whl c body, env => whl (fun env => bnd (ev G c env) tst) (execs G body) env
  | .ret e, env => bnd (ev G e env) fun x => ret (.rt x)
  | .retL e, env => bnd (ev G e env) fun x => ret (.rt x)
  | .retO i, env => bnd (owM env i) fun ds => ret (.rt (.list ds))
  | .rai c, _ => rai c
  | .ex e, env => bnd (ev G e env) fun _ => ret (.nx env)
noncomputable def execs (G : Sems) : ISs → Env → M Fl
  | .nil, env => ret (.nx env)
  | .cons st r, env => bnd (exec G st env) fun f => match f with
    | .nx env' => execs G r env'
    | .rt d => ret (.rt d)
    | .bk e => ret (.bk e)
    | .ct e => ret (.ct e)
  | .frz is r, env => execs G r (frzE env is)
  | .wipe is r, env => execs G r (wipeE env is)
  | .src i r, env => srcRun i env (execs G r)
end
/-- a def: its names, how many parameters, has it the source as the first one, is what it returns a list of the caller's own -/
structure FnIR where
  N : List Str
  np : Nat
  src : Bool
  fresh : Bool
  body : ISs
def initE (f : FnIR) (ds : List D) : Env := (if f.src = true then [Slot.sr] else []) ++ ds.map .im ++ List.replicate (f.N.length - f.np) .un
def endF (fr : Bool) : Fl → M D
  | .rt d => ret d
  | .nx _ => if fr = true then stuck else ret .none
  | _ => stuck
noncomputable def runFn (G : Sems) (f : FnIR) (ds : List D) : M D := if (if f.src = true then ds.length + 1 else ds.length) = f.np then bnd (execs G f.body (initE f ds)) (endF f.fresh) else stuck
end Wk
set_option maxRecDepth 100000
set_option maxHeartbeats 4000000
/-! WB1: what a reading says of data -/
namespace Wk
open PySem PySem.Spec PyProof.Rows L2
abbrev St := L2.St
variable {K : PySem.W.Frag}
/-! ### heaps: F is the part that stays, H the whole -/
structure Ext (sa : Option Addr) (F H : Hp) (s : SV) (F' H' : Hp) (s' : SV) : Prop where
  ff : Same F F'
  sub : Same F' H'
  cell : ∀ a o, F a = none → H a = some o → F' a = none ∧ (sa ≠ some a → H' a = some o)
  src : match sa with
    | some a => H' a = some (.lst [.int s'.a, .int s'.b, .int s'.c]) ∧ F' a = none
    | none => s' = s
def SrcOk (sa : Option Addr) (F H : Hp) (s : SV) : Prop := match sa with
  | some a => H a = some (.lst [.int s.a, .int s.b, .int s.c]) ∧ F a = none
  | none => True
theorem Ext.refl {sa : Option Addr} {F H : Hp} {s : SV} (h : Same F H) (c : SrcOk sa F H s) : Ext sa F H s F H s :=
  ⟨Same.refl F, h, fun a o e1 e2 => ⟨e1, fun _ => e2⟩, by cases sa <;> first | rfl | exact c⟩
theorem Ext.srcOk {sa : Option Addr} {F H F' H' : Hp} {s s' : SV} (x : Ext sa F H s F' H' s') : SrcOk sa F' H' s' := by
  have := x.src
  cases sa with
  | none => trivial
  | some a => exact this
theorem Ext.trans {sa : Option Addr} {F H F1 H1 F2 H2 : Hp} {s s1 s2 : SV} (x : Ext sa F H s F1 H1 s1) (y : Ext sa F1 H1 s1 F2 H2 s2) : Ext sa F H s F2 H2 s2 where
  ff := x.ff.trans y.ff
  sub := y.sub
  cell := fun a o e1 e2 => by
    obtain ⟨f1, g1⟩ := x.cell a o e1 e2
    by_cases hs : sa = some a
    · have z : SrcOk sa F1 H1 s1 := x.srcOk
      rw [hs] at z
      exact ⟨(y.cell a _ f1 z.1).1, fun n => absurd hs n⟩
    · obtain ⟨f2, g2⟩ := y.cell a o f1 (g1 hs)
      exact ⟨f2, fun n => g2 n⟩
  src := by
    have z := y.src
    have z1 := x.src
    cases sa with
    | none => exact Eq.trans z z1
    | some a => exact z
/-- a new frozen object -/
theorem Ext.new {sa : Option Addr} {F H : Hp} {s : SV} {p : Addr} {o : HO} (h : Same F H) (c : SrcOk sa F H s) (hp : H p = none) : Ext sa F H s (upd F p o) (upd H p o) s where
  ff := fun a u e => by
    rw [upd_ne (ne_of_none (h _ _ e) hp)]
    exact e
  sub := fun a u e => by
    by_cases ha : a = p
    · subst ha
      rw [upd_same] at e ⊢
      exact e
    · rw [upd_ne ha] at e ⊢
      exact h _ _ e
  cell := fun a u e1 e2 => by
    have ha : a ≠ p := ne_of_none e2 hp
    rw [upd_ne ha, upd_ne ha]
    exact ⟨e1, fun _ => e2⟩
  src := by
    cases sa with
    | none => rfl
    | some a =>
      have ha : a ≠ p := ne_of_none c.1 hp
      exact ⟨by rw [upd_ne ha]; exact c.1, by rw [upd_ne ha]; exact c.2⟩
/-- a new object that is no frozen one -/
theorem Ext.newO {sa : Option Addr} {F H : Hp} {s : SV} {p : Addr} {o : HO} (h : Same F H) (c : SrcOk sa F H s) (hp : H p = none) : Ext sa F H s F (upd H p o) s where
  ff := Same.refl F
  sub := fun a u e => by
    rw [upd_ne (ne_of_none (h _ _ e) hp)]
    exact h _ _ e
  cell := fun a u e1 e2 => by
    have ha : a ≠ p := ne_of_none e2 hp
    rw [upd_ne ha]
    exact ⟨e1, fun _ => e2⟩
  src := by
    cases sa with
    | none => rfl
    | some a =>
      have ha : a ≠ p := ne_of_none c.1 hp
      exact ⟨by rw [upd_ne ha]; exact c.1, c.2⟩
end Wk
namespace L2
open PySem PySem.Spec PyProof.Rows Wk
variable {K : PySem.W.Frag}
/-! ### data in heaps -/
theorem Same.seqT {F H : Hp} {a : Addr} {xs : List V} (e : Same F H) (h : SqT K F a xs) : SqT K H a xs := by
  rcases h with (h | ⟨o, h⟩) | h
  · exact .inl (.inl (e _ _ h))
  · exact .inl (.inr ⟨o, e _ _ h⟩)
  · exact .inr h
mutual
theorem Dp.mono {F H : Hp} (e : Same F H) : ∀ {v : V} {d : D}, Dp K F v d → Dp K H v d
  | _, _, .non => .non
  | _, _, .bl b => .bl b
  | _, _, .int i => .int i
  | _, _, .str x => .str x
  | _, _, .lst h t => .lst (e.seq h) (DpAll.mono e t)
  | _, _, .tup h t => .tup (e.seqT h) (DpAll.mono e t)
theorem DpAll.mono {F H : Hp} (e : Same F H) : ∀ {vs : List V} {ds : List D}, DpAll K F vs ds → DpAll K H vs ds
  | _, _, .nil => .nil
  | _, _, .cons h t => .cons (Dp.mono e h) (DpAll.mono e t)
end
theorem DpAll.length {F : Hp} : ∀ {vs : List V} {ds : List D}, DpAll K F vs ds → vs.length = ds.length
  | _, _, .nil => rfl
  | _, _, .cons _ t => congrArg (· + 1) (DpAll.length t)
theorem DpAll.get {F : Hp} : ∀ {vs : List V} {ds : List D} {i : Nat} {d : D}, DpAll K F vs ds → ds[i]? = some d → ∃ v, vs[i]? = some v ∧ Dp K F v d
  | _, _, _, _, .nil, e => by simp at e
  | _, _, 0, _, .cons h _, e => by
    simp at e
    subst e
    exact ⟨_, rfl, h⟩
  | _, _, i + 1, d, .cons _ t, e => by
    obtain ⟨v, h1, h2⟩ := DpAll.get (i := i) (d := d) t (by simpa using e)
    exact ⟨v, by simpa using h1, h2⟩
theorem DpAll.getV {F : Hp} : ∀ {vs : List V} {ds : List D} {i : Nat} {v : V}, DpAll K F vs ds → vs[i]? = some v → ∃ d, ds[i]? = some d ∧ Dp K F v d
  | _, _, _, _, .nil, e => by simp at e
  | _, _, 0, _, .cons h _, e => by
    simp at e
    subst e
    exact ⟨_, rfl, h⟩
  | _, _, i + 1, d, .cons _ t, e => by
    obtain ⟨v, h1, h2⟩ := DpAll.getV (i := i) (v := d) t (by simpa using e)
    exact ⟨v, by simpa using h1, h2⟩
theorem DpAll.append {F : Hp} : ∀ {vs ws : List V} {ds es : List D}, DpAll K F vs ds → DpAll K F ws es → DpAll K F (vs ++ ws) (ds ++ es)
  | _, _, _, _, .nil, s => s
  | _, _, _, _, .cons h t, s => .cons h (DpAll.append t s)
theorem DpAll.take {F : Hp} : ∀ {vs : List V} {ds : List D} (n : Nat), DpAll K F vs ds → DpAll K F (vs.take n) (ds.take n)
  | _, _, 0, _ => .nil
  | _, _, _ + 1, .nil => .nil
  | _, _, n + 1, .cons h t => .cons h (DpAll.take n t)
theorem DpAll.drop {F : Hp} : ∀ {vs : List V} {ds : List D} (n : Nat), DpAll K F vs ds → DpAll K F (vs.drop n) (ds.drop n)
  | _, _, 0, r => r
  | _, _, _ + 1, .nil => .nil
  | _, _, n + 1, .cons _ t => DpAll.drop n t
theorem DpAll.reverse {F : Hp} : ∀ {vs : List V} {ds : List D}, DpAll K F vs ds → DpAll K F vs.reverse ds.reverse
  | _, _, .nil => .nil
  | _, _, .cons h t => by
    rw [List.reverse_cons, List.reverse_cons]
    exact DpAll.append (DpAll.reverse t) (.cons h .nil)
theorem DpAll.set {F : Hp} {x : V} {d : D} (r : Dp K F x d) : ∀ {vs : List V} {ds : List D} (i : Nat), DpAll K F vs ds → DpAll K F (vs.set i x) (ds.set i d)
  | _, _, _, .nil => .nil
  | _, _, 0, .cons _ t => .cons r t
  | _, _, i + 1, .cons q t => .cons q (DpAll.set r i t)
theorem DpAll.rep {F : Hp} {vs : List V} {ds : List D} (h : DpAll K F vs ds) : ∀ k : Nat, DpAll K F (List.replicate k vs).flatten (List.replicate k ds).flatten
  | 0 => .nil
  | k + 1 => by
    rw [List.replicate_succ, List.replicate_succ, List.flatten_cons, List.flatten_cons]
    exact DpAll.append h (DpAll.rep h k)
theorem DpAll.ints {F : Hp} : ∀ {vs : List V} {ds : List D} {ns : List Int}, DpAll K F vs ds → ints? ds = some ns → vs = ns.map V.int
  | _, _, _, .nil, e => by
    simp [ints?] at e
    subst e
    rfl
  | _, _, ns, .cons h t, e => by
    cases h with
    | int i =>
      simp only [ints?] at e
      rename_i ds0 
      cases q : ints? ds0 with
      | none =>
        rw [q] at e
        cases e
      | some ms =>
        rw [q] at e
        cases e
        rw [DpAll.ints t q]
        rfl
    | non => simp [ints?] at e
    | bl b => simp [ints?] at e
    | str x => simp [ints?] at e
    | lst _ _ => simp [ints?] at e
    | tup _ _ => simp [ints?] at e
theorem DpAll.bools {F : Hp} : ∀ {vs : List V} {ds : List D} {ns : List Bool}, DpAll K F vs ds → bools? ds = some ns → vs = ns.map V.bl
  | _, _, _, .nil, e => by
    simp [bools?] at e
    subst e
    rfl
  | _, _, ns, .cons h t, e => by
    cases h with
    | bl i =>
      simp only [bools?] at e
      rename_i ds0 
      cases q : bools? ds0 with
      | none =>
        rw [q] at e
        cases e
      | some ms =>
        rw [q] at e
        cases e
        rw [DpAll.bools t q]
        rfl
    | non => simp [bools?] at e
    | int b => simp [bools?] at e
    | str x => simp [bools?] at e
    | lst _ _ => simp [bools?] at e
    | tup _ _ => simp [bools?] at e
theorem dpAll_ints {F : Hp} : ∀ ns : List Int, DpAll K F (ns.map V.int) (ns.map PyData.int)
  | [] => .nil
  | n :: ns => .cons (.int n) (dpAll_ints ns)
end L2
namespace Wk
open PySem PySem.Spec PyProof.Rows L2
variable {K : PySem.W.Frag}
/-- a value that is read: data, or a list of somebody's own -/
def Bp (K : PySem.W.Frag) (sa : Option Addr) (F H : Hp) (v : V) (d : D) : Prop :=
  Dp K F v d ∨ ∃ a vs ds, v = .ref a ∧ d = .list ds ∧ F a = none ∧ H a = some (.lst vs) ∧ sa ≠ some a ∧ DpAll K F vs ds
theorem Bp.ext {sa : Option Addr} {F H F' H' : Hp} {s s' : SV} {v : V} {d : D} (x : Ext sa F H s F' H' s') (h : Bp K sa F H v d) : Bp K sa F' H' v d := by
  rcases h with h | ⟨a, vs, ds, e1, e2, f, g, n, t⟩
  · exact .inl (h.mono x.ff)
  · obtain ⟨f', g'⟩ := x.cell a _ f g
    exact .inr ⟨a, vs, ds, e1, e2, f', g' n, n, t.mono x.ff⟩
/-- as data of the whole heap -/
theorem Bp.dp {sa : Option Addr} {F H : Hp} {v : V} {d : D} (e : Same F H) (h : Bp K sa F H v d) : Dp K H v d := by
  rcases h with h | ⟨a, vs, ds, rfl, rfl, f, g, n, t⟩
  · exact h.mono e
  · exact .lst (SqL.of g) (t.mono e)
/-- a list that is read -/
theorem Bp.lst {sa : Option Addr} {F H : Hp} {v : V} {ds : List D} (e : Same F H) (h : Bp K sa F H v (.list ds)) : ∃ a vs, v = .ref a ∧ SqL K H a vs ∧ DpAll K F vs ds := by
  rcases h with h | ⟨a, vs, ds', rfl, e2, f, g, n, t⟩
  · cases h with
    | lst q t => exact ⟨_, _, rfl, e.seq q, t⟩
  · cases e2
    exact ⟨a, vs, rfl, SqL.of g, t⟩
theorem Bp.tup {sa : Option Addr} {F H : Hp} {v : V} {ds : List D} (h : Bp K sa F H v (.tuple ds)) : ∃ a vs, v = .ref a ∧ SqT K F a vs ∧ DpAll K F vs ds := by
  rcases h with h | ⟨a, vs, ds', rfl, e2, _⟩
  · cases h with
    | tup q t => exact ⟨_, _, rfl, q, t⟩
  · cases e2
theorem Bp.int {sa : Option Addr} {F H : Hp} {v : V} {i : Int} (h : Bp K sa F H v (.int i)) : v = .int i := by
  rcases h with h | ⟨a, vs, ds', rfl, e2, _⟩
  · cases h
    rfl
  · cases e2
theorem Bp.bl {sa : Option Addr} {F H : Hp} {v : V} {i : Bool} (h : Bp K sa F H v (.bool i)) : v = .bl i := by
  rcases h with h | ⟨a, vs, ds', rfl, e2, _⟩
  · cases h
    rfl
  · cases e2
theorem Bp.str {sa : Option Addr} {F H : Hp} {v : V} {i : Str} (h : Bp K sa F H v (.str i)) : v = .str i := by
  rcases h with h | ⟨a, vs, ds', rfl, e2, _⟩
  · cases h
    rfl
  · cases e2
theorem Bp.non {sa : Option Addr} {F H : Hp} {v : V} (h : Bp K sa F H v .none) : v = .non := by
  rcases h with h | ⟨a, vs, ds', rfl, e2, _⟩
  · cases h
    rfl
  · cases e2
/-! ### slots -/
def SlotOk (K : PySem.W.Frag) (sa : Option Addr) (H0 : Hp) (L : List (Nat × Addr × List V)) (F H : Hp) (i : Nat) (v : Option (Option V)) : Slot → Prop
  | .un => True
  | .im d => ∃ x, v = some (some x) ∧ Dp K F x d
  | .ow ds => ∃ a vs, v = some (some (.ref a)) ∧ F a = none ∧ H a = some (.lst vs) ∧ DpAll K F vs ds ∧ sa ≠ some a ∧ (∀ p ∈ L, p.2.1 ≠ a) ∧ H0 a = none
  | .ln ds => ∃ a vs, v = some (some (.ref a)) ∧ L.lookup i = some (a, vs) ∧ DpAll K F vs ds
  | .sr => ∃ a, sa = some a ∧ v = some (some (.ref a))
structure Rel (K : PySem.W.Frag) (sa : Option Addr) (H0 : Hp) (L : List (Nat × Addr × List V)) (env : Env) (s : SV) (σ : St) (F H : Hp) : Prop where
  sub : Same F H
  src : SrcOk sa F H s
  len : env.length = σ.length
  lent : ∀ p ∈ L, F p.2.1 = none ∧ H p.2.1 = some (.lst p.2.2) ∧ sa ≠ some p.2.1 ∧ H0 p.2.1 = none
  slot : ∀ (i : Nat) (x : Slot), env[i]? = some x → SlotOk K sa H0 L F H i σ[i]? x
  apart : ∀ (i j : Nat) (a : Addr) (ds es : List D), i ≠ j → env[i]? = some (.ow ds) → env[j]? = some (.ow es) → σ[i]? = some (some (.ref a)) → σ[j]? ≠ some (some (.ref a))
theorem SlotOk.ext {sa : Option Addr} {H0 : Hp} {L : List (Nat × Addr × List V)} {F H F' H' : Hp} {s s' : SV} (x : Ext sa F H s F' H' s') {i : Nat} {v : Option (Option V)} {y : Slot} (h : SlotOk K sa H0 L F H i v y) : SlotOk K sa H0 L F' H' i v y := by
  cases y with
  | un => trivial
  | im d =>
    obtain ⟨z, e, q⟩ := h
    exact ⟨z, e, q.mono x.ff⟩
  | ow ds =>
    obtain ⟨a, vs, e, f, g, q, n, l, h0⟩ := h
    obtain ⟨f', g'⟩ := x.cell a _ f g
    exact ⟨a, vs, e, f', g' n, q.mono x.ff, n, l, h0⟩
  | ln ds =>
    obtain ⟨a, vs, e, m, q⟩ := h
    exact ⟨a, vs, e, m, q.mono x.ff⟩
  | sr => exact h
theorem Rel.ext {sa : Option Addr} {H0 : Hp} {L : List (Nat × Addr × List V)} {env : Env} {σ : St} {F H F' H' : Hp} {s s' : SV} (x : Ext sa F H s F' H' s') (R : Rel K sa H0 L env s σ F H) : Rel K sa H0 L env s' σ F' H' :=
  ⟨x.sub, x.srcOk, R.len, fun p hp => by
    obtain ⟨f, g, n, z⟩ := R.lent p hp
    obtain ⟨f', g'⟩ := x.cell _ _ f g
    exact ⟨f', g' n, n, z⟩, fun i y e => (R.slot i y e).ext x, R.apart⟩
/-! ### what is wanted of a result -/
/-- the values of the names of exceptions -/
abbrev ExV := Str → Value
def Cn {α β : Type} (ex : ExV) (E : XK) (sa : Option Addr) (F H : Hp) (s : SV) (r : Res α) (Rep : Hp → Hp → β → α → Prop) (Q : β → Hp → Prop) : Prop := match r with
  | .ok d s' => ∀ v F' H', Ext sa F H s F' H' s' → Rep F' H' v d → Q v H'
  | .er c s' => ∀ F' H', Ext sa F H s F' H' s' → E (ex c) none H'
  | .no => False
theorem Cn.after {α β : Type} {ex : ExV} {E : XK} {sa : Option Addr} {F H F1 H1 : Hp} {s s1 : SV} {r : Res α} {Rep : Hp → Hp → β → α → Prop} {Q : β → Hp → Prop} (x : Ext sa F H s F1 H1 s1) (c : Cn ex E sa F H s r Rep Q) : Cn ex E sa F1 H1 s1 r Rep Q := by
  cases r with
  | ok d s' => exact fun v F' H' y rp => c v F' H' (x.trans y) rp
  | er e s' => exact fun F' H' y => c F' H' (x.trans y)
  | no => exact c
theorem Cn.bnd {α γ β δ : Type} {ex : ExV} {E : XK} {sa : Option Addr} {F H : Hp} {s : SV} {m : M α} {k : α → M γ} {Rep : Hp → Hp → β → γ → Prop} {Q : β → Hp → Prop} {Rm : Hp → Hp → δ → α → Prop} {Q1 : δ → Hp → Prop}
    (c : Cn ex E sa F H s (bnd m k s) Rep Q) (h : ∀ v F1 H1 s1 d, Ext sa F H s F1 H1 s1 → Rm F1 H1 v d → Cn ex E sa F1 H1 s1 (k d s1) Rep Q → Q1 v H1) : Cn ex E sa F H s (m s) Rm Q1 := by
  unfold Wk.bnd at c
  cases e : m s with
  | ok d s' =>
    rw [e] at c
    exact fun v F' H' y rp => h v F' H' s' d y rp (Cn.after y c)
  | er e' s' =>
    rw [e] at c
    exact c
  | no =>
    rw [e] at c
    exact c
theorem Cn.ret {α β : Type} {ex : ExV} {E : XK} {sa : Option Addr} {F H : Hp} {s : SV} {d : α} {Rep : Hp → Hp → β → α → Prop} {Q : β → Hp → Prop} (c : Cn ex E sa F H s (ret d s) Rep Q) {v : β} {F' H' : Hp} (x : Ext sa F H s F' H' s) (rp : Rep F' H' v d) : Q v H' := c v F' H' x rp
/-- data; what is read; a new list of one's own -/
def RD (K : PySem.W.Frag) : Hp → Hp → V → D → Prop := fun F _ v d => Dp K F v d
def RB (K : PySem.W.Frag) (sa : Option Addr) : Hp → Hp → V → D → Prop := fun F H v d => Bp K sa F H v d
def RF (K : PySem.W.Frag) (sa : Option Addr) (H : Hp) : Hp → Hp → V → D → Prop := fun F' H' v d => ∃ a vs ds, v = .ref a ∧ d = .list ds ∧ H a = none ∧ F' a = none ∧ H' a = some (.lst vs) ∧ sa ≠ some a ∧ DpAll K F' vs ds
def RL (K : PySem.W.Frag) : Hp → Hp → List V → List D → Prop := fun F _ vs ds => DpAll K F vs ds
/-- a reading: the state is told by an Env, the answer by m -/
def tE {α β : Type} (K : PySem.W.Frag) (ex : ExV) (E : XK) (m : Env → M α) (Rep : Option Addr → Hp → Hp → Hp → β → α → Prop) : St → Hp → (β → Hp → Prop) → Prop := fun σ H Q =>
  ∃ (F : Hp) (sa : Option Addr) (H0 : Hp) (L : List (Nat × Addr × List V)) (env : Env) (s : SV), Rel K sa H0 L env s σ F H ∧ Cn ex E sa F H s (m env s) (Rep sa H) Q
abbrev qD (K : PySem.W.Frag) : Option Addr → Hp → Hp → Hp → V → D → Prop := fun _ _ => RD K
abbrev qB (K : PySem.W.Frag) : Option Addr → Hp → Hp → Hp → V → D → Prop := fun sa _ => RB K sa
abbrev qF (K : PySem.W.Frag) : Option Addr → Hp → Hp → Hp → V → D → Prop := fun sa H => RF K sa H
abbrev qL (K : PySem.W.Frag) : Option Addr → Hp → Hp → Hp → List V → List D → Prop := fun _ _ => RL K
abbrev qT : Option Addr → Hp → Hp → Hp → Bool → Bool → Prop := fun _ _ _ _ b k => b = k
end Wk
namespace L2
open PySem PySem.Spec PyProof.Rows Wk
variable {K : PySem.W.Frag}
/-! ### weaker readings -/
section
variable {X : Cx}
theorem PE.imp {e : Expr} {t t' : TE} (h : PE X e t) (i : ∀ σ H Q, t' σ H Q → t σ H Q) : PE X e t' := ⟨fun pins s σ H Q I q => h.run pins s σ H Q I (i σ H Q q)⟩
theorem PT.imp {e : Expr} {t t' : TT} (h : PT X e t) (i : ∀ σ H Q, t' σ H Q → t σ H Q) : PT X e t' := ⟨fun pins s σ H Q I q => h.run pins s σ H Q I (i σ H Q q)⟩
theorem PA.imp {es : List Expr} {t t' : TA} (h : PA X es t) (i : ∀ σ H Q, t' σ H Q → t σ H Q) : PA X es t' := ⟨fun pos pins s σ H Q I q => h.run pos pins s σ H Q I (i σ H Q q)⟩
theorem PS.imp {st : Stmt} {t t' : TS} (h : PS X st t) (i : ∀ D σ H, t' D σ H → t D σ H) : PS X st t' := ⟨fun pins s σ H D I q => h.run pins s σ H D I (i D σ H q)⟩
theorem PSs.imp {st : List Stmt} {t t' : TS} (h : PSs X st t) (i : ∀ D σ H, t' D σ H → t D σ H) : PSs X st t' := ⟨fun pins s σ H D I q => h.run pins s σ H D I (i D σ H q)⟩
/-- lists and tuples have a largest length -/
def Sz (K : PySem.W.Frag) (H : Hp) : Prop := ∀ a xs, (SqL K H a xs ∨ SqT K H a xs) → xs.length ≤ 16777216
theorem Inv.szs {pins : List (Addr × Obj)} {σ : St} {H : Hp} {s : Shared} (I : Inv X pins σ H s) : Sz X.K H := fun a xs h => by
  have e := sizeLine_eq
  rcases h with h | h
  · obtain ⟨_, _, _, z⟩ := I.list h
    rw [e] at z
    exact z
  · obtain ⟨_, _, _, z⟩ := I.tuple h
    rw [e] at z
    exact z
theorem OpR.sz {f : Value → Value → Sem Value} {r : R2} (h : OpR X f r) : OpR X f (fun x y H Q => Sz X.K H → r x y H Q) := fun pins s σ H x y v u Q I rx ry q => h pins s σ H x y v u Q I rx ry (q (Inv.szs I))
theorem CallR.sz {f : Value} {r : List V → Hp → VK → Prop} (h : CallR X f r) : CallR X f (fun xs H Q => Sz X.K H → r xs H Q) := fun pins s σ H vs us Q I rx q => h pins s σ H vs us Q I rx (q (Inv.szs I))
theorem IxR.sz {r : R2} (h : IxR X r) : IxR X (fun x y H Q => Sz X.K H → r x y H Q) := fun value slice pins s σ H x y v u Q I rx ry q => h value slice pins s σ H x y v u Q I rx ry (q (Inv.szs I))
theorem SlR.sz {r : V → Option Int → Option Int → Hp → VK → Prop} (h : SlR X r) : SlR X (fun x lo hi H Q => Sz X.K H → r x lo hi H Q) := fun pins s σ H x v vl vu lo hi sl Q I rx hs pl pu q => h pins s σ H x v vl vu lo hi sl Q I rx hs pl pu (q (Inv.szs I))
end
end L2
set_option maxRecDepth 100000
set_option maxHeartbeats 4000000
/-! WB2: operators over data -/
namespace Wk
open PySem PySem.Spec PyProof.Rows L2
variable {K : PySem.W.Frag} {ex : ExV} {E : XK}
theorem Ext.none {sa : Option Addr} {F H F' H' : Hp} {s s' : SV} (x : Ext sa F H s F' H' s') (hs : Same F H) {p : Addr} (h : H' p = none) : H p = none := by
  cases e : H p with
  | none => rfl
  | some o =>
    cases f : F p with
    | some u =>
      have := x.sub _ _ (x.ff _ _ f)
      rw [h] at this
      cases this
    | none =>
      obtain ⟨f', g'⟩ := x.cell _ _ f e
      by_cases hs : sa = some p
      · have z : SrcOk sa F' H' s' := x.srcOk
        rw [hs] at z
        have z1 := z.1
        rw [h] at z1
        cases z1
      · have := g' hs
        rw [h] at this
        cases this
theorem Same.none {F H : Hp} (hs : Same F H) {p : Addr} (h : H p = none) : F p = none := by
  cases f : F p with
  | none => rfl
  | some u =>
    have := hs _ _ f
    rw [h] at this
    cases this
structure Stt (K : PySem.W.Frag) (sa : Option Addr) (Hs F H : Hp) (s : SV) : Prop where
  sub : Same F H
  src : SrcOk sa F H s
  new : ∀ p, H p = none → Hs p = none
  sz : Sz K H
theorem Stt.mk' {sa : Option Addr} {H0 : Hp} {L : List (Nat × Addr × List V)} {env : Env} {s : SV} {σ : St} {F H : Hp} (R : Rel K sa H0 L env s σ F H) (z : Sz K H) : Stt K sa H F H s := ⟨R.sub, R.src, fun _ h => h, z⟩
theorem Stt.ext {sa : Option Addr} {Hs F H F' H' : Hp} {s s' : SV} (t : Stt K sa Hs F H s) (x : Ext sa F H s F' H' s') (z : Sz K H') : Stt K sa Hs F' H' s' :=
  ⟨x.sub, x.srcOk, fun p h => t.new p (x.none t.sub h), z⟩
theorem Cn.rep {α β : Type} {sa : Option Addr} {F H : Hp} {s : SV} {r : Res α} {R1 R2 : Hp → Hp → β → α → Prop} {Q : β → Hp → Prop} (h : ∀ F H v d, R1 F H v d → R2 F H v d) (c : Cn ex E sa F H s r R2 Q) : Cn ex E sa F H s r R1 Q := by
  cases r with
  | ok d s' => exact fun v F' H' x rp => c v F' H' x (h _ _ _ _ rp)
  | er e s' => exact c
  | no => exact c
theorem RF.frz {sa : Option Addr} {F H : Hp} {s : SV} (hs : Same F H) {r : Res D} {Q : V → Hp → Prop} (c : Cn ex E sa F H s r (RD K) Q) : Cn ex E sa F H s r (RF K sa H) Q := by
  cases r with
  | er e s' => exact c
  | no => exact c
  | ok d s' =>
    rintro v F' H' x ⟨a, vs, ds, rfl, rfl, h0, f', g', n, t⟩
    have f0 : F a = Option.none := Same.none hs h0
    refine c _ (upd F' a (.lst vs)) H' ⟨?_, ?_, ?_, ?_⟩ (.lst (SqL.of upd_same) (t.mono ?_))
    · intro b o e
      have hb : b ≠ a := ne_of_none e f0
      rw [upd_ne hb]
      exact x.ff _ _ e
    · intro b o e
      by_cases hb : b = a
      · subst hb
        rw [upd_same] at e
        rw [g']
        exact e
      · rw [upd_ne hb] at e
        exact x.sub _ _ e
    · intro b o e1 e2
      have hb : b ≠ a := ne_of_none e2 h0
      rw [upd_ne hb]
      exact x.cell b o e1 e2
    · have := x.src
      cases sa with
      | none => exact this
      | some b =>
        have hb : b ≠ a := fun z => n (by rw [z])
        exact ⟨this.1, by rw [upd_ne hb]; exact this.2⟩
    · intro b o e
      have hb : b ≠ a := ne_of_none e f'
      rw [upd_ne hb]
      exact e
/-! ### operators by values -/
section
variable {X : Cx}
def rCatL (K : PySem.W.Frag) : R2 := fun x y H Q => ∃ l b xs zs, x = .ref l ∧ y = .ref b ∧ SqL K H l xs ∧ SqL K H b zs ∧ xs.length + zs.length ≤ sizeLine ∧ ∀ p, H p = none → Q (.ref p) (upd H p (.lst (xs ++ zs)))
theorem op_catL : OpR X (binaryOp .Add) (rCatL X.K) := by
  intro pins s σ H x y v u Q I rx ry h
  obtain ⟨l, b, xs, zs, rfl, rfl, hH, hB, hz, q⟩ := h
  cases rx
  cases ry
  obtain ⟨its, r, p1, hl⟩ := I.list hH
  obtain ⟨its2, r2, p2, hl2⟩ := I.list hB
  have e1 := r.length
  have e2 := r2.length
  obtain ⟨⟨cls, dd, data, sl⟩, n, ho, hc, hd0, hd⟩ := p1
  obtain ⟨⟨cls2, dd2, data2, sl2⟩, n2, ho2, hc2, hd02, hd2⟩ := p2
  simp only at hc hd hc2 hd2 hd0 hd02
  subst hc hd hc2 hd2 hd0 hd02
  refine concat_meets ⟨_, ho, rfl⟩ ⟨_, ho2, rfl⟩ noFill_list_add seq_list_add PySem.F.slot_list_add PySem.F.entry_list_add (PySem.F.args_list_add_2 _ _) (list_addW l b its.toArray its2.toArray n n2 _ _ sl sl2 (by rw [List.size_toArray, List.size_toArray]; omega)) ⟨ho, ho2, ?_⟩
  have ea : its.toArray ++ its2.toArray = (its ++ its2).toArray := by simp
  rw [ea]
  exact ⟨.ref _, _, I.lnew (t' := s.toks) (r.append r2) (by rw [List.length_append]; omega), rfl, q _ I.fresh⟩
/-- g over data is what f does -/
def Op2 (X : Cx) (ex : ExV) (E : XK) (f : Value → Value → Sem Value) (g : D → D → M D) (Rep : Option Addr → Hp → Hp → Hp → V → D → Prop) : Prop :=
  ∃ r : R2, OpR X f r ∧ ∀ (sa : Option Addr) (Hs F H : Hp) (s : SV) (x y : V) (d e : D) (Q : VK), Stt X.K sa Hs F H s → Bp X.K sa F H x d → Bp X.K sa F H y e → Cn ex E sa F H s (g d e s) (Rep sa Hs) Q → r x y H Q
theorem Cn.value {sa : Option Addr} {F H : Hp} {s : SV} {d : D} {R : Hp → Hp → V → D → Prop} {Q : VK} (c : Cn ex E sa F H s (Wk.ret d s) R Q) (hs : Same F H) (h : SrcOk sa F H s) {v : V} (r : R F H v d) : Q v H := c v F H (Ext.refl hs h) r
theorem Cn.no {α β : Type} {sa : Option Addr} {F H : Hp} {s : SV} {R : Hp → Hp → β → α → Prop} {Q : β → Hp → Prop} (c : Cn ex E sa F H s (stuck s) R Q) : False := c
theorem Cn.ite {α β : Type} {sa : Option Addr} {F H : Hp} {s : SV} {b : Bool} {m : M α} {R : Hp → Hp → β → α → Prop} {Q : β → Hp → Prop} (c : Cn ex E sa F H s ((if b = true then m else stuck) s) R Q) : b = true ∧ Cn ex E sa F H s (m s) R Q := by
  cases b with
  | true => exact ⟨rfl, c⟩
  | false => exact (Cn.no c).elim
theorem Cn.iteP {α β : Type} {sa : Option Addr} {F H : Hp} {s : SV} {p : Prop} [Decidable p] {m : M α} {R : Hp → Hp → β → α → Prop} {Q : β → Hp → Prop} (c : Cn ex E sa F H s ((if p then m else stuck) s) R Q) : p ∧ Cn ex E sa F H s (m s) R Q := by
  by_cases h : p
  · rw [if_pos h] at c
    exact ⟨h, c⟩
  · rw [if_neg h] at c
    exact (Cn.no c).elim
theorem sz_of {n : Nat} (h : sizeOk n = true) : n ≤ sizeLine := by
  have := of_decide_eq_true h
  rw [sizeLine_eq]
  exact this
/-- a new tuple -/
theorem Cn.newT {sa : Option Addr} {F H : Hp} {s : SV} {ds : List D} {vs : List V} {Q : VK} (c : Cn ex E sa F H s (Wk.ret (PyData.tuple ds) s) (RD K) Q) (hs : Same F H) (h : SrcOk sa F H s) (t : DpAll K F vs ds) {p : Addr} (hp : H p = none) : Q (.ref p) (upd H p (.tup vs)) :=
  c _ (upd F p (.tup vs)) _ (Ext.new hs h hp) (.tup (SqT.of upd_same) (t.mono fun a u e => by
    rw [upd_ne (ne_of_none (hs _ _ e) hp)]
    exact e))
/-- a new list, one's own -/
theorem Cn.newL {sa : Option Addr} {Hs F H : Hp} {s : SV} {ds : List D} {vs : List V} {Q : VK} (c : Cn ex E sa F H s (Wk.ret (PyData.list ds) s) (RF K sa Hs) Q) (hs : Same F H) (h : SrcOk sa F H s) (t : DpAll K F vs ds) {p : Addr} (hp : H p = none) (h0 : Hs p = none) : Q (.ref p) (upd H p (.lst vs)) := by
  refine c _ F _ (Ext.newO hs h hp) ⟨p, vs, ds, rfl, rfl, h0, Same.none hs hp, upd_same, fun z => ?_, t⟩
  rw [z] at h
  have z1 := h.1
  rw [hp] at z1
  cases z1
theorem Cn.newLD {sa : Option Addr} {F H : Hp} {s : SV} {ds : List D} {vs : List V} {Q : VK} (c : Cn ex E sa F H s (Wk.ret (PyData.list ds) s) (RD K) Q) (hs : Same F H) (h : SrcOk sa F H s) (t : DpAll K F vs ds) {p : Addr} (hp : H p = none) : Q (.ref p) (upd H p (.lst vs)) :=
  Cn.newL (RF.frz hs c) hs h t hp hp
/-- the data that is a list, a tuple -/
theorem Bp.seqL {sa : Option Addr} {F H : Hp} {v : V} {ds : List D} (hs : Same F H) (h : Bp K sa F H v (.list ds)) : ∃ a vs, v = .ref a ∧ SqL K H a vs ∧ DpAll K F vs ds := h.lst hs
theorem Bp.seqT {sa : Option Addr} {F H : Hp} {v : V} {ds : List D} (hs : Same F H) (h : Bp K sa F H v (.tuple ds)) : ∃ a vs, v = .ref a ∧ SqT K H a vs ∧ DpAll K F vs ds := by
  obtain ⟨a, vs, e, q, t⟩ := h.tup
  exact ⟨a, vs, e, hs.seqT q, t⟩
theorem op_addBI : OpR X (binaryOp .Add) (fun x y H Q => ∃ k i, x = .bl k ∧ y = .int i ∧ Q (.int (bI k + i)) H) := by
  intro pins s σ H x y v u Q I rx ry h
  obtain ⟨k, i, rfl, rfl, q⟩ := h
  obtain ⟨t, rfl⟩ := ry
  cases rx
  exact PySem.IntBool.add_bool_int ⟨.int (bI k + i), H, I.tok _, ⟨_, rfl⟩, q⟩
theorem op_subBI : OpR X (binaryOp .Sub) (fun x y H Q => ∃ k i, x = .bl k ∧ y = .int i ∧ Q (.int (bI k - i)) H) := by
  intro pins s σ H x y v u Q I rx ry h
  obtain ⟨k, i, rfl, rfl, q⟩ := h
  obtain ⟨t, rfl⟩ := ry
  cases rx
  exact PySem.IntBool.sub_bool_int ⟨.int (bI k - i), H, I.tok _, ⟨_, rfl⟩, q⟩
theorem o_add : Op2 X ex E (binaryOp .Add) addD (qD X.K) := by
  refine ⟨_, op_addBI.or (op_add.or (op_catL.or (op_catA.or op_add_str))), ?_⟩
  intro sa Hs F H s x y d e Q t bx by_ c
  cases d <;> cases e <;> try exact (Cn.no c).elim
  · cases bx.bl
    cases by_.int
    exact .inl ⟨_, _, rfl, rfl, c.value t.sub t.src (.int _)⟩
  · cases bx.int
    cases by_.int
    exact .inr (.inl ⟨_, _, rfl, rfl, c.value t.sub t.src (.int _)⟩)
  · cases bx.str
    cases by_.str
    obtain ⟨hz, c⟩ := c.ite
    exact .inr (.inr (.inr (.inr ⟨_, _, rfl, rfl, sz_of hz, c.value t.sub t.src (.str _)⟩)))
  · obtain ⟨a, vs, rfl, q1, t1⟩ := bx.seqL t.sub
    obtain ⟨b, ws, rfl, q2, t2⟩ := by_.seqL t.sub
    obtain ⟨hz, c⟩ := c.ite
    refine .inr (.inr (.inl ⟨a, b, vs, ws, rfl, rfl, q1, q2, ?_, fun p hp => Cn.newLD c t.sub t.src (t1.append t2) hp⟩))
    rw [t1.length, t2.length]
    exact sz_of hz
  · obtain ⟨a, vs, e1, q1, t1⟩ := bx.tup
    obtain ⟨b, ws, e2, q2, t2⟩ := by_.tup
    subst e1 e2
    obtain ⟨hz, c⟩ := c.ite
    refine .inr (.inr (.inr (.inl ⟨a, b, vs, ws, rfl, rfl, t.sub.seqT q1, t.sub.seqT q2, ?_, fun h => ?_, fun _ h => ?_, fun _ _ p hp => Cn.newT c t.sub t.src (t1.append t2) hp⟩)))
    · rw [t1.length, t2.length]
      exact sz_of hz
    · subst h
      cases t1
      exact c.value t.sub t.src (.tup q2 t2)
    · subst h
      cases t2
      rw [List.append_nil] at c
      exact c.value t.sub t.src (.tup q1 t1)
theorem o_sub : Op2 X ex E (binaryOp .Sub) subD (qD X.K) := by
  refine ⟨_, op_sub.or op_subBI, ?_⟩
  intro sa Hs F H s x y d e Q t bx by_ c
  cases d <;> cases e <;> try exact (Cn.no c).elim
  · cases bx.bl
    cases by_.int
    exact .inr ⟨_, _, rfl, rfl, c.value t.sub t.src (.int _)⟩
  · cases bx.int
    cases by_.int
    exact .inl ⟨_, _, rfl, rfl, c.value t.sub t.src (.int _)⟩
theorem o_mod : Op2 X ex E (binaryOp .Mod) modD (qD X.K) := by
  refine ⟨_, op_mod, ?_⟩
  intro sa Hs F H s x y d e Q t bx by_ c
  cases d <;> cases e <;> try exact (Cn.no c).elim
  cases bx.int
  cases by_.int
  obtain ⟨h, c⟩ := c.iteP
  exact ⟨_, _, rfl, rfl, h, c.value t.sub t.src (.int _)⟩
theorem o_fdiv : Op2 X ex E (binaryOp .FloorDiv) fdivD (qD X.K) := by
  refine ⟨_, op_fdiv.or op_fdivW, ?_⟩
  intro sa Hs F H s x y d e Q t bx by_ c
  cases d <;> cases e <;> try exact (Cn.no c).elim
  cases bx.int
  cases by_.int
  obtain ⟨h, c⟩ := c.ite
  unfold divOk at h
  rw [Bool.and_eq_true, Bool.or_eq_true] at h
  obtain ⟨h1, h2⟩ := h
  have h1 := of_decide_eq_true h1
  rcases h2 with h2 | h2
  · exact .inl ⟨_, _, rfl, rfl, ⟨h1, of_decide_eq_true h2⟩, c.value t.sub t.src (.int _)⟩
  · exact .inr ⟨_, _, rfl, rfl, ⟨h1, of_decide_eq_true h2⟩, c.value t.sub t.src (.int _)⟩
theorem o_pow : Op2 X ex E (binaryOp .Pow) powD (qD X.K) := by
  refine ⟨_, op_pow, ?_⟩
  intro sa Hs F H s x y d e Q t bx by_ c
  cases d <;> cases e <;> try exact (Cn.no c).elim
  cases bx.int
  cases by_.int
  obtain ⟨h, c⟩ := c.ite
  unfold powOk at h
  have h := of_decide_eq_true h
  exact ⟨_, _, rfl, rfl, h, c.value t.sub t.src (.int _)⟩
end
end Wk
set_option maxRecDepth 100000
set_option maxHeartbeats 4000000
/-! WB3: operators over data, further -/
namespace L2
open PySem PySem.Spec PyProof.Rows
/-! ### a tuple times an int: once, or nothing -/
theorem tuple_mul1 (l : Addr) (items : Array Value) (n : Nat) (sl : Array (Option Value)) (x : Int) (u : Tok) (dd : Option Addr) (c0 : (decide (x < -(2 ^ 63)) || decide (x ≥ 2 ^ 63)) = false) (c1 : (items.isEmpty || x == 1) = true) :
    Meets (Builtin.«tuple.__mul__» ⟨[.ref l, .int x u], []⟩) (fun _ R s => s.heap.get? l = some { cls := .type "tuple", dict := dd, data := .seq items n, slots := sl } ∧ R (.ok (.ret (Value.ref l))) s) :=
  .of_wp fun prog w A R s h => by
    obtain ⟨hp, g, d, tk, os⟩ := s
    obtain ⟨hl, h⟩ := h
    have f1 := AutoSeq1.idx_int
    wp_walk using wpAny_loadPart' hl
    repeat (first
      | (refine wpAny_ite_false (decide_eq_false (by rw [c0]; exact Bool.false_ne_true)) ?_; wp_walk using wpAny_loadPart' hl)
      | (refine wpAny_ite_true (decide_eq_true c1) ?_; wp_walk using wpAny_loadPart' hl))
    all_goals exact ⟨_, rfl, h⟩
theorem tuple_mul0 (l : Addr) (items : Array Value) (n : Nat) (sl : Array (Option Value)) (x : Int) (u : Tok) (dd : Option Addr) (c0 : (decide (x < -(2 ^ 63)) || decide (x ≥ 2 ^ 63)) = false) (c1 : (items.isEmpty || x == 1) = false) (c2 : (decide (x ≤ 0) || items.isEmpty) = true) :
    Meets (Builtin.«tuple.__mul__» ⟨[.ref l, .int x u], []⟩) (fun _ R s => s.heap.get? l = some { cls := .type "tuple", dict := dd, data := .seq items n, slots := sl } ∧
      R (.ok (.ret (Value.ref s.heap.objs.size))) { s with heap := s.heap.push { cls := Value.type "tuple", data := Data.seq #[] }, toks := s.toks }) :=
  .of_wp fun prog w A R s h => by
    obtain ⟨hp, g, d, tk, os⟩ := s
    obtain ⟨hl, h⟩ := h
    have f1 := AutoSeq1.idx_int
    wp_walk using wpAny_loadPart' hl
    repeat (first
      | (refine wpAny_ite_false (decide_eq_false (by rw [c0]; exact Bool.false_ne_true)) ?_; wp_walk using wpAny_loadPart' hl)
      | (refine wpAny_ite_false (decide_eq_false (by rw [c1]; exact Bool.false_ne_true)) ?_; wp_walk using wpAny_loadPart' hl)
      | (refine wpAny_ite_true (decide_eq_true c2) ?_; wp_walk using wpAny_loadPart' hl))
    all_goals exact ⟨_, rfl, h⟩
def rMulT (K : PySem.W.Frag) : R2 := fun x y H Q => ∃ l k xs, x = .ref l ∧ y = .int k ∧ SqT K H l xs ∧ 0 ≤ k ∧ k ≤ 1000 ∧ xs.length ≤ 1000 ∧
  (((List.replicate k.toNat xs).flatten = xs) → Q (.ref l) H) ∧ ∀ p, H p = none → Q (.ref p) (upd H p (.tup (List.replicate k.toNat xs).flatten))
theorem op_mulT {X : Cx} : OpR X (binaryOp .Mult) (rMulT X.K) := by
  intro pins s σ H x y v u Q I rx ry h
  obtain ⟨l, k, xs, rfl, rfl, hT, h0, h1, hz, q1, q2⟩ := h
  by_cases hx : xs = []
  · subst hx
    have q := q1 (by simp)
    cases rx
    obtain ⟨t, rfl⟩ := ry
    obtain ⟨its, r, ⟨⟨cls, dd, data, sl⟩, ho, hc, n, hd⟩, hs⟩ := I.tuple hT
    simp only at hc hd
    subst hc hd
    cases r
    refine wpAny_binaryOp_repeat_ref (T := "tuple") (U := "int") (by decide) ⟨_, ho, rfl⟩ (fun s' => typeIs_int s' k t) noFill_tuple_mul F.fills_int_mul F.slot_int_rmul repeat_tuple F.slot_int_index.lookup
      (call_meets F.slot_int_rmul (typeIs_int s k t) F.entry_int_rmul (F.args_int_rmul_2 _ _) (int_rmul_tuple k t l _ n dd sl)
        ⟨ho, rfl, ⟨_, ho, rfl⟩, call_meets F.slot_tuple_mul ⟨_, ho, rfl⟩ F.entry_tuple_mul (F.args_tuple_mul_2 _ _) (tuple_mul1 l _ n sl k t dd (by rw [decide_eq_false (by omega), decide_eq_false (by omega)] <;> rfl) rfl) ⟨ho, ?_⟩⟩)
    exact ⟨.ref l, H, I, rfl, q⟩
  · by_cases hk1 : k = 1
    · subst hk1
      have q := q1 (by simp)
      cases rx
      obtain ⟨t, rfl⟩ := ry
      obtain ⟨its, r, ⟨⟨cls, dd, data, sl⟩, ho, hc, n, hd⟩, hs⟩ := I.tuple hT
      simp only at hc hd
      subst hc hd
      refine wpAny_binaryOp_repeat_ref (T := "tuple") (U := "int") (by decide) ⟨_, ho, rfl⟩ (fun s' => typeIs_int s' 1 t) noFill_tuple_mul F.fills_int_mul F.slot_int_rmul repeat_tuple F.slot_int_index.lookup
        (call_meets F.slot_int_rmul (typeIs_int s 1 t) F.entry_int_rmul (F.args_int_rmul_2 _ _) (int_rmul_tuple 1 t l _ n dd sl)
          ⟨ho, rfl, ⟨_, ho, rfl⟩, call_meets F.slot_tuple_mul ⟨_, ho, rfl⟩ F.entry_tuple_mul (F.args_tuple_mul_2 _ _) (tuple_mul1 l _ n sl 1 t dd (by decide) (by simp)) ⟨ho, ?_⟩⟩)
      exact ⟨.ref l, H, I, rfl, q⟩
    · by_cases hk0 : k = 0
      · subst hk0
        cases rx
        obtain ⟨t, rfl⟩ := ry
        obtain ⟨its, r, ⟨⟨cls, dd, data, sl⟩, ho, hc, n, hd⟩, hs⟩ := I.tuple hT
        simp only at hc hd
        subst hc hd
        have hi : its.toArray.isEmpty = false := by
          cases r with
          | nil => exact absurd rfl hx
          | cons a b => rfl
        refine wpAny_binaryOp_repeat_ref (T := "tuple") (U := "int") (by decide) ⟨_, ho, rfl⟩ (fun s' => typeIs_int s' 0 t) noFill_tuple_mul F.fills_int_mul F.slot_int_rmul repeat_tuple F.slot_int_index.lookup
          (call_meets F.slot_int_rmul (typeIs_int s 0 t) F.entry_int_rmul (F.args_int_rmul_2 _ _) (int_rmul_tuple 0 t l _ n dd sl)
            ⟨ho, rfl, ⟨_, ho, rfl⟩, call_meets F.slot_tuple_mul ⟨_, ho, rfl⟩ F.entry_tuple_mul (F.args_tuple_mul_2 _ _) (tuple_mul0 l _ n sl 0 t dd (by decide) (by rw [hi]; rfl) rfl) ⟨ho, ?_⟩⟩)
        refine ⟨.ref s.heap.objs.size, _, I.laid (t' := s.toks) (o := .tup []) (fun b ob q => Heap.get?_push_of_some _ q) (Nat.le_refl _) ?_, rfl, q2 _ (I.hok.fresh (Nat.le_refl _))⟩
        exact ⟨Nat.zero_le _, [], .nil, IsTup.new _ _⟩
      · exact op_repT pins s σ H _ _ v u Q I rx ry ⟨l, k, xs, rfl, rfl, hT, hx, by omega, h1, hz, q2⟩
end L2
namespace Wk
open PySem PySem.Spec PyProof.Rows L2
variable {ex : ExV} {E : XK} {X : Cx}
theorem o_mul : Op2 X ex E (binaryOp .Mult) mulD (qD X.K) := by
  refine ⟨_, op_mul.or (op_mulW.or op_mulT), ?_⟩
  intro sa Hs F H s x y d e Q t bx by_ c
  cases d <;> cases e <;> try exact (Cn.no c).elim
  · cases bx.int
    cases by_.int
    obtain ⟨h, c⟩ := c.ite
    unfold mulOk at h
    rw [Bool.or_eq_true] at h
    rcases h with h | h
    · have h := of_decide_eq_true h
      exact .inl ⟨_, _, rfl, rfl, h, c.value t.sub t.src (.int _)⟩
    · have h := of_decide_eq_true h
      exact .inr (.inl ⟨_, _, rfl, rfl, h, c.value t.sub t.src (.int _)⟩)
  · cases by_.int
    obtain ⟨a, vs, e1, q1, t1⟩ := bx.tup
    subst e1
    obtain ⟨h, c⟩ := c.ite
    unfold repTOk at h
    have h := of_decide_eq_true h
    refine .inr (.inr (⟨a, _, vs, rfl, rfl, t.sub.seqT q1, h.1, h.2.1, ?_, fun he => ?_, fun p hp => Cn.newT c t.sub t.src (t1.rep _) hp⟩))
    · rw [t1.length]
      exact h.2.2
    · have t2 := t1.rep (Int.toNat ‹Int›)
      rw [he] at t2
      exact c.value t.sub t.src (.tup q1 t2)
/-! ### comparisons -/
theorem o_lt : Op2 X ex E (compareOp .Lt) ltD (qD X.K) := by
  refine ⟨_, op_lt, ?_⟩
  intro sa Hs F H s x y d e Q t bx by_ c
  cases d <;> cases e <;> try exact (Cn.no c).elim
  cases bx.int
  cases by_.int
  exact ⟨_, _, rfl, rfl, c.value t.sub t.src (.bl _)⟩
theorem o_le : Op2 X ex E (compareOp .LtE) leD (qD X.K) := by
  refine ⟨_, op_le, ?_⟩
  intro sa Hs F H s x y d e Q t bx by_ c
  cases d <;> cases e <;> try exact (Cn.no c).elim
  cases bx.int
  cases by_.int
  exact ⟨_, _, rfl, rfl, c.value t.sub t.src (.bl _)⟩
theorem o_gt : Op2 X ex E (compareOp .Gt) gtD (qD X.K) := by
  refine ⟨_, op_gt, ?_⟩
  intro sa Hs F H s x y d e Q t bx by_ c
  cases d <;> cases e <;> try exact (Cn.no c).elim
  cases bx.int
  cases by_.int
  exact ⟨_, _, rfl, rfl, c.value t.sub t.src (.bl _)⟩
theorem o_ge : Op2 X ex E (compareOp .GtE) geD (qD X.K) := by
  refine ⟨_, op_ge, ?_⟩
  intro sa Hs F H s x y d e Q t bx by_ c
  cases d <;> cases e <;> try exact (Cn.no c).elim
  cases bx.int
  cases by_.int
  exact ⟨_, _, rfl, rfl, c.value t.sub t.src (.bl _)⟩
theorem o_eq (hu : X.A.units + 65 < cLine) : Op2 X ex E (compareOp .Eq) eqD (qD X.K) := by
  refine ⟨_, op_eqD (Nat.lt_of_succ_lt hu), ?_⟩
  intro sa Hs F H s x y d e Q t bx by_ c
  obtain ⟨h, c⟩ := c.ite
  rw [Bool.and_eq_true] at h
  exact ⟨d, e, bx.dp t.sub, by_.dp t.sub, h.1, h.2, c.value t.sub t.src (.bl _)⟩
theorem o_ne (hu : X.A.units + 65 < cLine) : Op2 X ex E (compareOp .NotEq) neD (qD X.K) := by
  refine ⟨_, op_neD (Nat.lt_of_succ_lt hu), ?_⟩
  intro sa Hs F H s x y d e Q t bx by_ c
  obtain ⟨h, c⟩ := c.ite
  rw [Bool.and_eq_true] at h
  exact ⟨d, e, bx.dp t.sub, by_.dp t.sub, h.1, h.2, c.value t.sub t.src (.bl _)⟩
theorem Bp.isNone {K : PySem.W.Frag} {sa : Option Addr} {F H : Hp} {v : V} {d : D} (h : Bp K sa F H v d) : decide (v = .non) = isNone d := by
  rcases h with h | ⟨a, vs, ds', rfl, rfl, _⟩
  · cases h <;> rfl
  · rfl
theorem o_is : Op2 X ex E (compareOp .Is) isD (qD X.K) := by
  refine ⟨_, op_isN.or op_isBl, ?_⟩
  intro sa Hs F H s x y d e Q t bx by_ c
  cases e <;> try exact (Cn.no c).elim
  · cases by_.non
    refine .inl ⟨rfl, ?_⟩
    rw [bx.isNone]
    exact c.value t.sub t.src (.bl _)
  · cases d <;> try exact (Cn.no c).elim
    cases by_.bl
    cases bx.bl
    exact .inr ⟨_, _, rfl, rfl, c.value t.sub t.src (.bl _)⟩
theorem o_isnot : Op2 X ex E (compareOp .IsNot) isNotD (qD X.K) := by
  refine ⟨_, op_notN.or op_notBl, ?_⟩
  intro sa Hs F H s x y d e Q t bx by_ c
  cases e <;> try exact (Cn.no c).elim
  · cases by_.non
    refine .inl ⟨rfl, ?_⟩
    rw [bx.isNone]
    exact c.value t.sub t.src (.bl _)
  · cases d <;> try exact (Cn.no c).elim
    cases by_.bl
    cases bx.bl
    exact .inr ⟨_, _, rfl, rfl, c.value t.sub t.src (.bl _)⟩
end Wk
set_option maxRecDepth 100000
set_option maxHeartbeats 4000000
/-! WB4: built-in functions, items, slices over data -/
namespace L2
open PySem PySem.Spec PyProof.Rows
section
variable {X : Cx}
def rSumT (K : PySem.W.Frag) : List V → Hp → VK → Prop := fun vs H Q => ∃ (a : Addr) (ns : List Int), vs = [V.ref a] ∧ SqT K H a (ns.map V.int) ∧ Q (.int ns.sum) H
theorem cr_sumT (hc : X.calm = true) : CallR X (.builtin "sum") (rSumT X.K) := by
  intro pins s σ H vs us Q I r h
  obtain ⟨a, ns, rfl, hs, q⟩ := h
  obtain ⟨its, rv, ht, _⟩ := I.tuple hs
  rw [Vals.ref1 r]
  have hi := rv.ints
  obtain ⟨xs, hx⟩ := hi.allInts.items
  have hn : numsOf its.toArray.toList = ns := hi.numsOf
  have ht' : s.heap.IsTuple a its.toArray := ht
  rw [hx] at ht' hn
  rw [nums_intItems] at hn
  refine PySem.W.ktm_sumG (I.ok.hd hc) ht' fun h' tk t' hk => ?_
  rw [preSum_eq, List.take_of_length_le (by simp), hn]
  exact ⟨.int _, H, I.kept hk, ⟨_, rfl⟩, q⟩
theorem call_max3 (hc : X.calm = true) : CallR X (.builtin "max") (fun xs H Q => ∃ i j k, xs = [.int i, .int j, .int k] ∧ Q (.int (max (max i j) k)) H) := by
  intro pins s σ H xs us Q I r h
  obtain ⟨i, j, k, rfl, q⟩ := h
  cases r with
  | cons r1 r =>
    cases r with
    | cons r2 r =>
      cases r with
      | cons r3 r =>
        cases r
        obtain ⟨t1, rfl⟩ := r1
        obtain ⟨t2, rfl⟩ := r2
        obtain ⟨t3, rfl⟩ := r3
        refine PySem.max_three_ints (I.ok.hd hc) fun h' tk hk => ⟨.int (max (max i j) k), H, I.kept hk, ?_, q⟩
        by_cases h1 : j > i
        · rw [if_pos h1]
          by_cases h2 : k > j
          · rw [if_pos h2]
            exact ⟨_, by congr 1; omega⟩
          · rw [if_neg h2]
            exact ⟨_, by congr 1; omega⟩
        · rw [if_neg h1]
          by_cases h2 : k > i
          · rw [if_pos h2]
            exact ⟨_, by congr 1; omega⟩
          · rw [if_neg h2]
            exact ⟨_, by congr 1; omega⟩
/-- sorted of a list, a tuple of data of one kind -/
def rSortD (K : PySem.W.Frag) : List V → Hp → VK → Prop := fun vs H Q => ∃ (F : Hp) (a : Addr) (xs : List V) (ds : List PyData), Same F H ∧ vs = [V.ref a] ∧ (SqL K H a xs ∨ SqT K H a xs) ∧ DpAll K F xs ds ∧ Wk.sortable ds = true ∧
  ∀ (p : Addr) (ws : List V), H p = none → DpAll K F ws (Wk.sortT ds) → Q (.ref p) (upd H p (.lst ws))
theorem each_of {K : PySem.W.Frag} {H : Hp} : ∀ {xs : List V} {us : List Value} {ds : List PyData}, Vals xs us → DpAll K H xs ds → PySem.W.EachIs (fun u d => ∃ x, RelV x u ∧ Dp K H x d) us ds
  | _, _, _, .nil, .nil => .nil
  | _, _, _, .cons r t, .cons h q => .cons ⟨_, r, h⟩ (each_of t q)
theorem of_each {K : PySem.W.Frag} {H : Hp} : ∀ {us : List Value} {ds : List PyData}, PySem.W.EachIs (fun u d => ∃ x, RelV x u ∧ Dp K H x d) us ds → ∃ xs, Vals xs us ∧ DpAll K H xs ds
  | _, _, .nil => ⟨[], .nil, .nil⟩
  | _, _, .cons ⟨x, r, h⟩ t => by
    obtain ⟨xs, r', h'⟩ := of_each t
    exact ⟨x :: xs, .cons r r', .cons h h'⟩
theorem cr_sortD (hu : X.A.units + 65 < cLine) : CallR X (.builtin "sorted") (rSortD X.K) := by
  intro pins s σ H vs us Q I r h
  obtain ⟨F, a, xs, ds, sm, rfl, hs, hd, hok, q⟩ := h
  rw [Vals.ref1 r]
  have src : ∃ (T : String) (o : Obj) (its : List Value) (n : Nat), (T = "list" ∨ T = "tuple") ∧ s.heap.get? a = some o ∧ o.cls = .type T ∧ o.data = .seq its.toArray n ∧ Vals xs its ∧ xs.length ≤ sizeLine := by
    rcases hs with hs | hs
    · obtain ⟨its, rv, ⟨o, n, ho, hc, _, hdt⟩, z⟩ := I.list hs
      exact ⟨"list", o, its, n, .inl rfl, ho, hc, hdt, rv, z⟩
    · obtain ⟨its, rv, ⟨o, ho, hc, n, hdt⟩, z⟩ := I.tuple hs
      exact ⟨"tuple", o, its, n, .inr rfl, ho, hc, hdt, rv, z⟩
  obtain ⟨T, o, its, n, hT, ho, hc, hdt, rv, hz⟩ := src
  have hlen := rv.length
  have ea := each_of rv hd
  unfold Wk.sortable at hok
  rw [Bool.and_eq_true, Bool.and_eq_true] at hok
  obtain ⟨⟨k1, k2⟩, k3⟩ := hok
  have al : PySem.W.AllAlike ds := fun d h1 e h2 => List.all_eq_true.mp (List.all_eq_true.mp k1 d h1) e h2
  have so : PySem.W.Sortable ds := by
    rw [Bool.or_eq_true] at k3
    rcases k3 with k3 | k3
    · refine .inl fun d hm => ?_
      have z := List.all_eq_true.mp k3 d hm
      cases d with
      | tuple l =>
        cases l with
        | nil => exact absurd z (by simp)
        | cons x r => exact ⟨x, r, rfl⟩
      | none => exact absurd z (by simp)
      | bool _ => exact absurd z (by simp)
      | int _ => exact absurd z (by simp)
      | str _ => exact absurd z (by simp)
      | list _ => exact absurd z (by simp)
      | dict _ => exact absurd z (by simp)
    · refine .inr fun d hm => ?_
      have z := List.all_eq_true.mp k3 d hm
      cases d with
      | tuple l => exact absurd z (by simp)
      | none => exact absurd z (by simp)
      | bool _ => exact ⟨by simp, by simp⟩
      | int _ => exact ⟨by simp, by simp⟩
      | str _ => exact ⟨by simp, by simp⟩
      | list _ => exact ⟨by simp, by simp⟩
      | dict _ => exact ⟨by simp, by simp⟩
  refine PySem.Calls.call_function_entry kind_sorted plain_sorted entry_sorted (args_sorted1 _) ?_
  unfold Builtin.«sorted»
  refine wpAny_bind (m := checkCount "sorted" 1 1 _) (wpAny_pure ?_)
  refine wpAny_bind (PySem.wpAny_collect_seq a hT ho hc hdt (fun h1 kp1 => ?_) (by rw [List.size_toArray, ← hlen]; exact hz))
  refine wpAny_bind (wpAny_newList ?_ (by show its.length ≤ sizeLine; rw [← hlen]; exact hz))
  generalize hh2 : h1.push (seqObj "list" its.toArray 0) = h2
  have at2 : h2.get? h1.objs.size = some (seqObj "list" its.toArray 0) := by
    rw [← hh2]
    exact Heap.get?_push_size _ rfl
  have kp2 : ∀ b u, s.heap.get? b = some u → h2.get? b = some u ∧ b ≠ h1.objs.size := fun b u e => by
    have e1 := kp1 b u e
    refine ⟨?_, Nat.ne_of_lt (Heap.lt_size e1)⟩
    rw [← hh2]
    exact Heap.get?_push_of_some _ e1
  have er : PySem.W.EachIs (fun v d => ∃ as, Reads (PySem.W.sortingHeap h2 h1.objs.size its) v d as) its ds := by
    refine ea.mono fun u d hx => ?_
    obtain ⟨x, rx, hdx⟩ := hx
    obtain ⟨as, rd⟩ := Dp.reads I d x u (hdx.mono sm) rx
    refine ⟨as, PyProof.Rows.Reads.keeps (fun b o e => ?_) rd⟩
    obtain ⟨e2, n2⟩ := kp2 b o e
    exact PySem.W.sortingHeap_old n2 e2
  have S : PySem.W.SortsAt X.prog X.w X.A.in1.in1 { s with heap := PySem.W.sortingHeap h2 h1.objs.size its } (PySem.W.dataKind (PySem.W.sortingHeap h2 h1.objs.size its) ds) its := by
    refine PySem.W.SortsAt.data (s := { s with heap := PySem.W.sortingHeap h2 h1.objs.size its }) er al so fun d hm => ?_
    have z := of_decide_eq_true (List.all_eq_true.mp k2 d hm)
    have u2 : X.A.in1.in1.units = X.A.units + 2 := rfl
    rw [u2]
    omega
  have out := PySem.W.sortVals_data (enc := fun d => d) false ea (by simpa using er) (by simpa using al)
  refine wpAny_bind (wpAny_holding (wpAny_call_entry slot_list_sort ⟨_, at2, rfl⟩ entry_list_sort (PySem.W.list_sort_vals (s := { s with heap := h2 }) at2 S (by rw [← hlen]; exact hz) ⟨_, rfl, ?_⟩) (args_list_sort _)))
  refine wpAny_pure ⟨_, rfl, ?_⟩
  have el : List.map (fun d : PyData => d) ds = ds := List.map_id' ds
  rw [el] at out
  obtain ⟨ws, rw', dw⟩ := of_each out
  have I1 : Inv X pins σ H { s with heap := h1 } := I.kept (t' := s.toks) kp1
  have hn : H h1.objs.size = none := I1.hok.fresh (Nat.le_refl _)
  obtain ⟨ep, e2⟩ := sortedHeap_at (out := (PySem.W.sortVals (PySem.W.dataKind (PySem.W.sortingHeap h2 h1.objs.size its) ds) false its its).toArray) at2
  have wl : ws.length = xs.length := by
    rw [rw'.length, PySem.W.sortVals_length false rfl, hlen]
  refine ⟨.ref _, upd H h1.objs.size (.lst ws), I1.laid (t' := s.toks) (fun b u e => ?_) (Nat.le_refl _) ⟨by rw [wl]; exact hz, _, ep, rw', e2⟩, rfl, q _ ws hn dw⟩
  have lt := Heap.lt_size e
  have e3 : h2.get? b = some u := by
    rw [← hh2]
    exact Heap.get?_push_of_some _ e
  rw [sortedHeap_old (Nat.ne_of_lt lt) (Heap.lt_size e3)]
  exact e3
end
end L2
namespace Wk
open PySem PySem.Spec PyProof.Rows L2
variable {ex : ExV} {E : XK} {X : Cx}
/-- g over data is what the call of f does -/
def Op1 (X : Cx) (ex : ExV) (E : XK) (f : Value) (g : D → M D) (Rep : Option Addr → Hp → Hp → Hp → V → D → Prop) : Prop :=
  ∃ r : List V → Hp → VK → Prop, CallR X f r ∧ ∀ (sa : Option Addr) (Hs F H : Hp) (s : SV) (x : V) (d : D) (Q : VK), Stt X.K sa Hs F H s → Bp X.K sa F H x d → Cn ex E sa F H s (g d s) (Rep sa Hs) Q → r [x] H Q
theorem intsD_lt {ds : List D} {F H : Hp} {K : PySem.W.Frag} {vs : List V} {ns : List Int} (t : DpAll K F vs ds) (e : ints? ds = some ns) : vs = ns.map V.int := DpAll.ints t e
theorem u_len : Op1 X ex E (.builtin "len") lenD (qD X.K) := by
  refine ⟨_, call_len_seq, ?_⟩
  intro sa Hs F H s x d Q t bx c
  cases d <;> try exact (Cn.no c).elim
  · obtain ⟨a, vs, rfl, q1, t1⟩ := bx.seqL t.sub
    refine ⟨a, vs, rfl, .inl q1, ?_⟩
    rw [t1.length]
    exact c.value t.sub t.src (.int _)
  · obtain ⟨a, vs, rfl, q1, t1⟩ := bx.seqT t.sub
    refine ⟨a, vs, rfl, .inr q1, ?_⟩
    rw [t1.length]
    exact c.value t.sub t.src (.int _)
theorem u_sum (hc : X.calm = true) : Op1 X ex E (.builtin "sum") sumD (qD X.K) := by
  refine ⟨_, (cr_sum hc).or (cr_sumT hc), ?_⟩
  intro sa Hs F H s x d Q t bx c
  unfold sumD at c
  cases d <;> try exact (Cn.no c).elim
  · rename_i ds
    obtain ⟨a, vs, rfl, q1, t1⟩ := bx.seqL t.sub
    simp only [intsD] at c
    cases e : ints? ds with
    | none =>
      rw [e] at c
      exact (Cn.no c).elim
    | some ns =>
      rw [e] at c
      rw [t1.ints e] at q1
      exact .inl ⟨a, ns, rfl, q1, c.value t.sub t.src (.int _)⟩
  · rename_i ds
    obtain ⟨a, vs, rfl, q1, t1⟩ := bx.seqT t.sub
    simp only [intsD] at c
    cases e : ints? ds with
    | none =>
      rw [e] at c
      exact (Cn.no c).elim
    | some ns =>
      rw [e] at c
      rw [t1.ints e] at q1
      exact .inr ⟨a, ns, rfl, q1, c.value t.sub t.src (.int _)⟩
theorem maxL_spec : ∀ (n : Int) (ns : List Int), maxL (n :: ns) ∈ n :: ns ∧ ∀ y ∈ n :: ns, y ≤ maxL (n :: ns)
  | n, [] => by simp [maxL]
  | n, m :: r => by
    obtain ⟨h1, h2⟩ := maxL_spec m r
    have e : maxL (n :: m :: r) = max n (maxL (m :: r)) := rfl
    rw [e]
    refine ⟨?_, fun y hy => ?_⟩
    · by_cases h : n ≤ maxL (m :: r)
      · rw [Int.max_eq_right h]
        exact List.mem_cons_of_mem _ h1
      · rw [Int.max_eq_left (by omega)]
        exact List.mem_cons_self
    · rcases List.mem_cons.mp hy with rfl | hy
      · exact Int.le_max_left _ _
      · exact Int.le_trans (h2 y hy) (Int.le_max_right _ _)
theorem minL_spec : ∀ (n : Int) (ns : List Int), minL (n :: ns) ∈ n :: ns ∧ ∀ y ∈ n :: ns, minL (n :: ns) ≤ y
  | n, [] => by simp [minL]
  | n, m :: r => by
    obtain ⟨h1, h2⟩ := minL_spec m r
    have e : minL (n :: m :: r) = min n (minL (m :: r)) := rfl
    rw [e]
    refine ⟨?_, fun y hy => ?_⟩
    · by_cases h : n ≤ minL (m :: r)
      · rw [Int.min_eq_left h]
        exact List.mem_cons_self
      · rw [Int.min_eq_right (by omega)]
        exact List.mem_cons_of_mem _ h1
    · rcases List.mem_cons.mp hy with rfl | hy
      · exact Int.min_le_left _ _
      · exact Int.le_trans (Int.min_le_right _ _) (h2 y hy)
theorem u_max (hc : X.calm = true) : Op1 X ex E (.builtin "max") maxD (qD X.K) := by
  refine ⟨_, cr_max hc, ?_⟩
  intro sa Hs F H s x d Q t bx c
  unfold maxD at c
  cases d <;> try exact (Cn.no c).elim
  rename_i ds
  obtain ⟨a, vs, rfl, q1, t1⟩ := bx.seqL t.sub
  simp only at c
  cases e : ints? ds with
  | none =>
    rw [e] at c
    exact (Cn.no c).elim
  | some ns =>
    rw [e] at c
    cases ns with
    | nil => exact (Cn.no c).elim
    | cons n ns =>
      rw [t1.ints e] at q1
      refine ⟨a, n :: ns, rfl, q1, Nat.succ_pos _, fun m h1 h2 => ?_⟩
      obtain ⟨g1, g2⟩ := maxL_spec n ns
      have em : m = maxL (n :: ns) := Int.le_antisymm (g2 m h1) (h2 _ g1)
      rw [em]
      exact c.value t.sub t.src (.int _)
theorem u_min (hc : X.calm = true) : Op1 X ex E (.builtin "min") minD (qD X.K) := by
  refine ⟨_, cr_min hc, ?_⟩
  intro sa Hs F H s x d Q t bx c
  unfold minD at c
  cases d <;> try exact (Cn.no c).elim
  rename_i ds
  obtain ⟨a, vs, rfl, q1, t1⟩ := bx.seqL t.sub
  simp only at c
  cases e : ints? ds with
  | none =>
    rw [e] at c
    exact (Cn.no c).elim
  | some ns =>
    rw [e] at c
    cases ns with
    | nil => exact (Cn.no c).elim
    | cons n ns =>
      rw [t1.ints e] at q1
      refine ⟨a, n :: ns, rfl, q1, Nat.succ_pos _, fun m h1 h2 => ?_⟩
      obtain ⟨g1, g2⟩ := minL_spec n ns
      have em : m = minL (n :: ns) := Int.le_antisymm (h2 _ g1) (g2 m h1)
      rw [em]
      exact c.value t.sub t.src (.int _)
theorem u_any (hc : X.calm = true) : Op1 X ex E (.builtin "any") anyD (qD X.K) := by
  refine ⟨_, cr_any hc, ?_⟩
  intro sa Hs F H s x d Q t bx c
  unfold anyD at c
  cases d <;> try exact (Cn.no c).elim
  rename_i ds
  obtain ⟨a, vs, rfl, q1, t1⟩ := bx.seqL t.sub
  simp only at c
  cases e : bools? ds with
  | none =>
    rw [e] at c
    exact (Cn.no c).elim
  | some ns =>
    rw [e] at c
    rw [t1.bools e] at q1
    exact ⟨a, ns, rfl, q1, c.value t.sub t.src (.bl _)⟩
theorem u_all (hc : X.calm = true) : Op1 X ex E (.builtin "all") allD (qD X.K) := by
  refine ⟨_, cr_all hc, ?_⟩
  intro sa Hs F H s x d Q t bx c
  unfold allD at c
  cases d <;> try exact (Cn.no c).elim
  rename_i ds
  obtain ⟨a, vs, rfl, q1, t1⟩ := bx.seqL t.sub
  simp only at c
  cases e : bools? ds with
  | none =>
    rw [e] at c
    exact (Cn.no c).elim
  | some ns =>
    rw [e] at c
    rw [t1.bools e] at q1
    exact ⟨a, ns, rfl, q1, c.value t.sub t.src (.bl _)⟩
/-- a new list whose items lie in the whole heap is one's own over the part that stays -/
theorem Bp.items {K : PySem.W.Frag} {sa : Option Addr} {F H : Hp} {v : V} {d : D} {ds : List D} (hs : Same F H) (h : Bp K sa F H v d) (e : seqD d = some ds) : ∃ a vs, v = .ref a ∧ (SqL K H a vs ∨ SqT K H a vs) ∧ DpAll K F vs ds := by
  cases d <;> cases e
  · obtain ⟨a, vs, e, q, t⟩ := h.seqL hs
    exact ⟨a, vs, e, .inl q, t⟩
  · obtain ⟨a, vs, e, q, t⟩ := h.seqT hs
    exact ⟨a, vs, e, .inr q, t⟩
theorem u_listF : Op1 X ex E (.type "list") listD (qF X.K) := by
  refine ⟨_, call_list_of, ?_⟩
  intro sa Hs F H s x d Q t bx c
  cases d <;> try exact (Cn.no c).elim
  · obtain ⟨a, vs, rfl, q1, t1⟩ := bx.seqL t.sub
    exact ⟨a, vs, rfl, .inl q1, fun p hp => Cn.newL c t.sub t.src t1 hp (t.new p hp)⟩
  · obtain ⟨a, vs, rfl, q1, t1⟩ := bx.seqT t.sub
    exact ⟨a, vs, rfl, .inr q1, fun p hp => Cn.newL c t.sub t.src t1 hp (t.new p hp)⟩
theorem u_sortF (hu : X.A.units + 65 < cLine) : Op1 X ex E (.builtin "sorted") sortedD (qF X.K) := by
  refine ⟨_, cr_sortD hu, ?_⟩
  intro sa Hs F H s x d Q t bx c
  unfold sortedD at c
  cases e : seqD d with
  | none =>
    rw [e] at c
    exact (Cn.no c).elim
  | some ds =>
    rw [e] at c
    obtain ⟨h, c⟩ := c.ite
    obtain ⟨a, vs, rfl, q1, t1⟩ := bx.items t.sub e
    exact ⟨F, a, vs, ds, t.sub, rfl, q1, t1, h, fun p ws hp dw => Cn.newL c t.sub t.src dw hp (t.new p hp)⟩
theorem u_tuple : Op1 X ex E (.type "tuple") tupleD (qD X.K) := by
  refine ⟨_, call_tuple_of, ?_⟩
  intro sa Hs F H s x d Q t bx c
  cases d <;> try exact (Cn.no c).elim
  · obtain ⟨a, vs, rfl, q1, t1⟩ := bx.seqL t.sub
    exact ⟨a, vs, rfl, .inl ⟨q1, fun p hp => Cn.newT c t.sub t.src t1 hp⟩⟩
  · obtain ⟨a, vs, e1, q1, t1⟩ := bx.tup
    subst e1
    exact ⟨a, vs, rfl, .inr ⟨t.sub.seqT q1, c.value t.sub t.src (.tup q1 t1)⟩⟩
theorem u_int : Op1 X ex E (.type "int") intD (qD X.K) := by
  refine ⟨_, call_int1, ?_⟩
  intro sa Hs F H s x d Q t bx c
  cases d <;> try exact (Cn.no c).elim
  · cases bx.bl
    exact .inr ⟨_, rfl, c.value t.sub t.src (.int _)⟩
  · cases bx.int
    exact .inl ⟨_, rfl, c.value t.sub t.src (.int _)⟩
/-! ### of two, three ints -/
theorem max2_if (i j : Int) : (if j > i then j else i) = max i j := by
  by_cases h : j > i
  · rw [if_pos h, Int.max_eq_right (by omega)]
  · rw [if_neg h, Int.max_eq_left (by omega)]
theorem min2_if (i j : Int) : (if j < i then j else i) = min i j := by
  by_cases h : j < i
  · rw [if_pos h, Int.min_eq_right (by omega)]
  · rw [if_neg h, Int.min_eq_left (by omega)]
/-! ### in -/
theorem in_tup (hu : X.A.units + 65 < cLine) : OpR X (compareOp .In) (fun x y H Q => ∃ d ds, Dp X.K H x d ∧ Dp X.K H y (.tuple ds) ∧ SeqAt.shaped d = true ∧ SeqAt.shaped (.tuple ds) = true ∧ Q (.bl (ds.any fun z => PyData.eqv z d)) H) := by
  intro pins s σ H x y v u Q I rx ry h
  obtain ⟨d, ds, hd, he, sd, se, q⟩ := h
  obtain ⟨as, r1⟩ := Dp.reads I d x v hd rx
  obtain ⟨bs, r2⟩ := Dp.reads I (.tuple ds) y u he ry
  exact SeqAt.in_tuple_reads r2 r1 (SeqAt.canLay_of_shaped se) (SeqAt.canLay_of_shaped sd) (room_in_shaped sd hu) ⟨.bl _, H, I, rfl, q⟩
theorem notin_tup (hu : X.A.units + 65 < cLine) : OpR X (compareOp .NotIn) (fun x y H Q => ∃ d ds, Dp X.K H x d ∧ Dp X.K H y (.tuple ds) ∧ SeqAt.shaped d = true ∧ SeqAt.shaped (.tuple ds) = true ∧ Q (.bl (!ds.any fun z => PyData.eqv z d)) H) := by
  intro pins s σ H x y v u Q I rx ry h
  obtain ⟨d, ds, hd, he, sd, se, q⟩ := h
  obtain ⟨as, r1⟩ := Dp.reads I d x v hd rx
  obtain ⟨bs, r2⟩ := Dp.reads I (.tuple ds) y u he ry
  exact SeqAt.notIn_tuple_reads r2 r1 (SeqAt.canLay_of_shaped se) (SeqAt.canLay_of_shaped sd) (room_in_shaped sd hu) ⟨.bl _, H, I, rfl, q⟩
theorem o_in (hu : X.A.units + 65 < cLine) : Op2 X ex E (compareOp .In) inD (qD X.K) := by
  refine ⟨_, (op_inD hu).or (in_tup hu), ?_⟩
  intro sa Hs F H s x y d e Q t bx by_ c
  cases e <;> try exact (Cn.no c).elim
  · obtain ⟨h, c⟩ := c.ite
    rw [Bool.and_eq_true] at h
    exact .inl ⟨d, _, bx.dp t.sub, by_.dp t.sub, h.1, h.2, c.value t.sub t.src (.bl _)⟩
  · obtain ⟨h, c⟩ := c.ite
    rw [Bool.and_eq_true] at h
    exact .inr ⟨d, _, bx.dp t.sub, by_.dp t.sub, h.1, h.2, c.value t.sub t.src (.bl _)⟩
theorem o_notin (hu : X.A.units + 65 < cLine) : Op2 X ex E (compareOp .NotIn) notInD (qD X.K) := by
  refine ⟨_, (op_notInD hu).or (notin_tup hu), ?_⟩
  intro sa Hs F H s x y d e Q t bx by_ c
  cases e <;> try exact (Cn.no c).elim
  · obtain ⟨h, c⟩ := c.ite
    rw [Bool.and_eq_true] at h
    exact .inl ⟨d, _, bx.dp t.sub, by_.dp t.sub, h.1, h.2, c.value t.sub t.src (.bl _)⟩
  · obtain ⟨h, c⟩ := c.ite
    rw [Bool.and_eq_true] at h
    exact .inr ⟨d, _, bx.dp t.sub, by_.dp t.sub, h.1, h.2, c.value t.sub t.src (.bl _)⟩
/-! ### items -/
theorem atI_dp {K : PySem.W.Frag} {F : Hp} {vs : List V} {ds : List D} {i : Int} {d : D} (t : DpAll K F vs ds) (e : atI ds i = some d) : ∃ v, atI vs i = some v ∧ Dp K F v d := by
  unfold atI at e ⊢
  rw [t.length]
  cases h : ixN ds.length i with
  | none =>
    rw [h] at e
    cases e
  | some j =>
    rw [h] at e
    exact t.get e
def OpI (X : Cx) (ex : ExV) (E : XK) : Prop :=
  ∃ r : R2, IxR X r ∧ ∀ (sa : Option Addr) (Hs F H : Hp) (s : SV) (x y : V) (d e : D) (Q : VK), Stt X.K sa Hs F H s → Bp X.K sa F H x d → Bp X.K sa F H y e → Cn ex E sa F H s (ixD d e s) (RD X.K) Q → r x y H Q
theorem o_ix : OpI X ex E := by
  refine ⟨_, ix_list.or ix_tup, ?_⟩
  intro sa Hs F H s x y d e Q t bx by_ c
  cases d <;> cases e <;> try exact (Cn.no c).elim
  · rename_i ds i
    cases by_.int
    obtain ⟨a, vs, rfl, q1, t1⟩ := bx.seqL t.sub
    unfold ixD at c
    cases h : atI ds i with
    | none =>
      simp only [h] at c
      exact (Cn.no c).elim
    | some d =>
      simp only [h] at c
      obtain ⟨v, e1, e2⟩ := atI_dp t1 h
      exact .inl ⟨a, vs, i, v, rfl, rfl, q1, e1, c.value t.sub t.src e2⟩
  · rename_i ds i
    cases by_.int
    obtain ⟨a, vs, rfl, q1, t1⟩ := bx.seqT t.sub
    unfold ixD at c
    cases h : atI ds i with
    | none =>
      simp only [h] at c
      exact (Cn.no c).elim
    | some d =>
      simp only [h] at c
      obtain ⟨v, e1, e2⟩ := atI_dp t1 h
      exact .inr ⟨a, vs, i, v, rfl, rfl, q1, e1, c.value t.sub t.src e2⟩
/-! ### slices -/
theorem cut_dp {K : PySem.W.Frag} {F : Hp} {vs : List V} {ds : List D} (t : DpAll K F vs ds) (lo hi : Option Int) : DpAll K F (cutV vs lo hi) (cutD ds lo hi) := by
  unfold cutV cutD
  rw [t.length]
  exact (t.drop _).take _
theorem cut_whole {ds : List D} {lo hi : Option Int} (h : HT.sIx ds.length 0 lo = 0 ∧ HT.sIx ds.length ds.length hi = ds.length) : cutD ds lo hi = ds := by
  unfold cutD
  rw [h.1, h.2, List.drop_zero, Nat.sub_zero, List.take_length]
def OpS (X : Cx) (ex : ExV) (E : XK) : Prop :=
  ∃ r : V → Option Int → Option Int → Hp → VK → Prop, SlR X r ∧ ∀ (sa : Option Addr) (Hs F H : Hp) (s : SV) (x : V) (lo hi : Option Int) (d : D) (Q : VK), Stt X.K sa Hs F H s → Bp X.K sa F H x d → Cn ex E sa F H s (slD d lo hi s) (RD X.K) Q → r x lo hi H Q
theorem o_sl : OpS X ex E := by
  refine ⟨_, sl_list.or sl_tupA, ?_⟩
  intro sa Hs F H s x lo hi d Q t bx c
  cases d <;> try exact (Cn.no c).elim
  · obtain ⟨a, vs, rfl, q1, t1⟩ := bx.seqL t.sub
    exact .inl ⟨a, vs, rfl, q1, fun p hp => Cn.newLD c t.sub t.src (cut_dp t1 lo hi) hp⟩
  · obtain ⟨a, vs, e1, q1, t1⟩ := bx.tup
    subst e1
    refine .inr ⟨a, vs, rfl, t.sub.seqT q1, fun h => ?_, fun _ p hp => Cn.newT c t.sub t.src (cut_dp t1 lo hi) hp⟩
    rw [t1.length] at h
    have c' : Cn ex E sa F H s (ret (PyData.tuple (cutD _ lo hi)) s) (RD X.K) Q := c
    rw [cut_whole h] at c'
    exact c'.value t.sub t.src (.tup q1 t1)
/-! ### isinstance -/
def nmTy : Ty → String
  | .int => "int"
  | .bool => "bool"
  | .str => "str"
  | .list => "list"
  | .tuple => "tuple"
def nmD : D → String
  | .none => "NoneType"
  | .bool _ => "bool"
  | .int _ => "int"
  | .str _ => "str"
  | .list _ => "list"
  | .tuple _ => "tuple"
  | .dict _ => "dict"
theorem kit_d (d : D) (t : Ty) : kitB (nmD d) (nmTy t) = some (tyIs d t) := by
  cases d <;> cases t <;> (simp only [nmD, nmTy, tyIs]; decide +kernel)
theorem tyx_l {K : PySem.W.Frag} {H : Hp} {a : Addr} {xs : List V} (h : SqL K H a xs) : TyX K H (.ref a) (.type "list") := by
  rcases h with (h | ⟨o, h⟩) | ⟨o, its, n, hk, hc, _⟩
  · exact .base (.lst h)
  · exact .base (.frz h)
  · exact .kList hk hc
theorem tyx_t {K : PySem.W.Frag} {H : Hp} {a : Addr} {xs : List V} (h : SqT K H a xs) : TyX K H (.ref a) (.type "tuple") := by
  rcases h with (h | ⟨o, h⟩) | ⟨o, its, n, hk, hc, _⟩
  · exact .base (.tup h)
  · exact .fTuple h
  · exact .kTuple hk hc
theorem Bp.tyx {K : PySem.W.Frag} {sa : Option Addr} {F H : Hp} {v : V} {d : D} (hs : Same F H) (h : Bp K sa F H v d) : TyX K H v (.type (nmD d)) := by
  cases h.dp hs with
  | non => exact .base .non
  | bl b => exact .base (.bl b)
  | int i => exact .base (.int i)
  | str x => exact .base (.str x)
  | lst q t => exact tyx_l q
  | tup q t => exact tyx_t q
end Wk
set_option maxRecDepth 100000
set_option maxHeartbeats 4000000
/-! WB5: what is walked: lists and tuples, one by one, counted, in pairs -/
namespace Wk
open PySem PySem.Spec PyProof.Rows L2
/-- which of the two -/
inductive SK where
  | l
  | t
def SqA (k : SK) (K : PySem.W.Frag) (H : Hp) (a : Addr) (xs : List V) : Prop := match k with
  | .l => SqL K H a xs
  | .t => SqT K H a xs
def IsA (k : SK) (h : Heap) (a : Addr) (items : Array Value) : Prop := match k with
  | .l => h.IsList a items
  | .t => h.IsTuple a items
def ItA (k : SK) (h : Heap) (it a : Addr) (i : Nat) : Prop := match k with
  | .l => h.IsListIter it a i
  | .t => h.IsTupleIter it a i
def itO (k : SK) (a : Addr) : Obj := match k with
  | .l => { cls := .type "list_iterator", data := .fields #[.ref a, .int 0 0] }
  | .t => { cls := .type "tuple_iterator", data := .fields #[.ref a, .int 0 0] }
section
variable {X : Cx} {pins : List (Addr × Obj)} {σ : St} {H : Hp} {s : Shared}
theorem sqa_of (I : Inv X pins σ H s) {k : SK} {a : Addr} {xs : List V} (h : SqA k X.K H a xs) : ∃ its : List Value, Vals xs its ∧ IsA k s.heap a its.toArray ∧ xs.length ≤ sizeLine := by
  cases k with
  | l =>
    obtain ⟨its, r, p, z⟩ := I.list h
    exact ⟨its, r, p.isList, z⟩
  | t =>
    obtain ⟨its, r, p, z⟩ := I.tuple h
    exact ⟨its, r, p, z⟩
theorem sqa_inj (I : Inv X pins σ H s) {k : SK} {a : Addr} {xs ys : List V} (h : SqA k X.K H a xs) (h' : SqA k X.K H a ys) : xs = ys := by
  cases k with
  | l => exact I.list_inj h h'
  | t => exact I.tuple_inj h h'
theorem isA_lt {k : SK} {h : Heap} {a : Addr} {items : Array Value} (x : IsA k h a items) : a < h.objs.size := by
  cases k with
  | l =>
    obtain ⟨_, e, _⟩ := x
    exact Heap.lt_size e
  | t =>
    obtain ⟨_, e, _⟩ := x
    exact Heap.lt_size e
theorem itA_get {k : SK} {h : Heap} {it a : Addr} {i : Nat} (x : ItA k h it a i) : ∃ o, h.get? it = some o ∧ ∀ v, o.data ≠ .cell v := by
  cases k with
  | l =>
    obtain ⟨o, e, _, d⟩ := x
    exact ⟨o, e, fun v z => by rw [d] at z; cases z⟩
  | t =>
    obtain ⟨o, e, _, d⟩ := x
    exact ⟨o, e, fun v z => by rw [d] at z; cases z⟩
theorem itA_at {k : SK} {h h' : Heap} {it a : Addr} {i : Nat} (x : ItA k h it a i) (e : ∀ o, h.get? it = some o → h'.get? it = some o) : ItA k h' it a i := by
  cases k with
  | l => exact Heap.IsListIter.at x e
  | t => exact Heap.IsTupleIter.at x e
theorem itA_new {k : SK} {h : Heap} {it a : Addr} (e : h.get? it = some (itO k a)) : ItA k h it a 0 := by
  cases k with
  | l => exact ⟨_, e, rfl, rfl⟩
  | t => exact ⟨_, e, rfl, rfl⟩
theorem begA (k : SK) (a : Addr) (items : Array Value) : Begins (.ref a) (itO k a) fun h => IsA k h a items := by
  cases k with
  | l => exact begins_list a items
  | t => exact begins_tuple a items
theorem drawA {prog : Program} {w : World} {A : Around} (hh : A.handled = none) (k : SK) (it a : Addr) (hne : a ≠ it) (items : Array Value) :
    Draws prog w A it [it, a] items.size (fun i v => items[i]? = some v) (fun i h => ItA k h it a i ∧ IsA k h a items) := by
  cases k with
  | l => exact Draws.list hh it a hne items
  | t => exact Draws.tuple hh it a hne items
/-- iter(v) is walked -/
theorem iterA {tg : Expr} {k : SK} {a : Addr} {xs : List V} {R : It → Hp → Prop} {E : Value → Shared → Prop} (I : Inv X pins σ H s) (hq : SqA k X.K H a xs) (q : R (match k with | .l => Itl X.K a | .t => Itt X.K a) H) :
    wpAny (model X.prog X.w) X.A (pyIter (.ref a)) (PIE X pins σ tg R) E s := by
  obtain ⟨its, r, p, z⟩ := sqa_of I hq
  have new : ∀ o : Obj, Inv X pins σ H { s with heap := s.heap.push o } := fun o => I.kept (t' := s.toks) fun b u e => Heap.get?_push_of_some _ e
  have fp : ∀ b ∈ [s.heap.objs.size], FpOk X pins H b := fun b hb => by
    rw [List.mem_singleton.mp hb]
    exact I.fpOk (Nat.le_refl _) (I.hok.fresh (Nat.le_refl _))
  cases k with
  | l => exact wpAny_pyIter_list p ⟨_, [_], _, _, H, rfl, new _, turn_list a _, ⟨_, Heap.get?_push_size _ rfl, rfl, rfl⟩, fp, q⟩
  | t => exact wpAny_pyIter_tuple p ⟨_, [_], _, _, H, rfl, new _, turn_tuple a _, ⟨_, Heap.get?_push_size _ rfl, rfl, rfl⟩, fp, q⟩
end
/-! ### in pairs with the places -/
def IteA (k : SK) (K : PySem.W.Frag) (a : Addr) : It where
  go := fun i H => ∃ (xs : List V) (x : V), SqA k K H a xs ∧ xs[i]? = some x
  yld := fun i H v H' => ∃ T x, v = .ref T ∧ H T = none ∧ H' = upd H T (.tup [.int (i : Nat), x]) ∧ ∀ xs, SqA k K H a xs → xs[i]? = some x
  stop := fun i H => ∃ xs : List V, SqA k K H a xs ∧ xs.length = i
theorem turn_enumA {P : Program} {w : World} {K : PySem.W.Frag} {elts : List Expr} {kk : Nat} {tpos : Pos} (k : SK) (a e it : Addr) :
    Turn P w K (.Tuple elts kk tpos) (IteA k K a) [e, it] e (fun i h => (∃ old, IsEnum h e it ((i : Nat) : Int) old) ∧ ItA k h it a i ∧ e ≠ it ∧ a ≠ it ∧ a ≠ e) where
  mem := by simp
  obj := fun i h st b hb => by
    obtain ⟨⟨old, he⟩, hi, _⟩ := st
    rcases List.mem_cons.mp hb with z | hb
    · subst z
      exact ⟨_, he, fun v q => nomatch q⟩
    · rw [List.mem_singleton.mp hb]
      exact itA_get hi
  keep := fun i h h' st kp => by
    obtain ⟨⟨old, he⟩, hi, ne⟩ := st
    exact ⟨⟨old, kp e (by simp) _ he⟩, itA_at hi fun o q => kp it (by simp) o q, ne⟩
  item := by
    intro X hP hw hK hc i pins s σ H E I hf st hg
    subst hP hw hK
    obtain ⟨⟨old, he⟩, hit, hne, ha1, ha2⟩ := st
    obtain ⟨xs, x, hq, hx⟩ := hg
    obtain ⟨its, rv, p, hz⟩ := sqa_of I hq
    obtain ⟨u, hu, ru⟩ := rv.get hx
    have hi : i < its.toArray.size := by
      rw [List.size_toArray]
      exact (List.getElem?_eq_some_iff.mp hu).1
    have hh : X.A.in1.handled = none := I.ok.hd hc
    have G := GoesN.enumFrom (prog := X.prog) (w := X.w) (A := X.A) (elts := elts) (x1 := kk) (pos := tpos) 0 (drawA hh k it a ha1 its.toArray) e hne (by
      intro z
      rcases List.mem_cons.mp z with z | z
      · exact hne z
      · exact ha2 (List.mem_singleton.mp z).symm) (by simp)
    have e0 : (0 : Int) + (i : Int) = ((i : Nat) : Int) := by omega
    refine wpAny_mono (G.goes i s (fun v s2 => ∃ x H', Inv X pins σ H' s2 ∧ RelV x v ∧ (IteA k X.K a).yld i H x H' ∧ ((∃ old, IsEnum s2.heap e it ((i + 1 : Nat) : Int) old) ∧ ItA k s2.heap it a (i + 1) ∧ e ≠ it ∧ a ≠ it ∧ a ≠ e) ∧ ∀ b ∈ [e, it], H' b = none) E hi ⟨⟨old, by rw [e0]; exact he⟩, hit, p⟩ fun v h' tk hY st' kp _ => ?_) (fun r s1 hr => ?_) fun _ _ z => z
    · obtain ⟨T, t, y, rfl, hT, hy, isT⟩ := hY
      have ey : y = u := by
        have q : its.toArray[i]? = some u := by simpa using hu
        rw [q] at hy
        exact (Option.some.inj hy).symm
      subst ey
      rw [e0] at isT
      have hn : H T = none := I.hok.fresh hT
      have new : ObjOk X.prog X.w (upd H T (.tup [.int (i : Nat), x])) h' T (.tup [.int (i : Nat), x]) :=
        ⟨by show 2 ≤ sizeLine; decide, [.int (i : Nat) t, y], .cons ⟨_, rfl⟩ (.cons ru .nil), isT⟩
      have I1 : Inv X pins σ (upd H T (.tup [.int (i : Nat), x])) { s with heap := h', toks := tk } := I.turnedNew (ch := [e, it]) kp hf hT new
      obtain ⟨⟨old', he'⟩, hit', _⟩ := st'
      have e1 : (0 : Int) + ((i + 1 : Nat) : Int) = ((i + 1 : Nat) : Int) := by omega
      rw [e1] at he'
      refine ⟨.ref T, _, I1, rfl, ⟨T, x, rfl, hn, rfl, fun ys hys => by rw [sqa_inj I hys hq]; exact hx⟩, ⟨⟨old', he'⟩, hit', hne, ha1, ha2⟩, fun b hb => ?_⟩
      have hb0 := (hf b hb).1
      have hbT : b ≠ T := by
        intro z
        subst z
        have lt : b < s.heap.objs.size := by
          rcases List.mem_cons.mp hb with z | z
          · rw [z]
            exact Heap.lt_size he
          · rw [List.mem_singleton.mp z]
            obtain ⟨o, ho, _⟩ := itA_get hit
            exact Heap.lt_size ho
        exact absurd hT (Nat.not_le.mpr lt)
      rw [upd_ne hbT]
      exact hb0
    · obtain ⟨v, hv, hw⟩ := hr
      exact ⟨v, hv, hw⟩
  done := by
    intro X hP hw hK hc i pins s σ H E I hf st hg
    subst hP hw hK
    obtain ⟨⟨old, he⟩, hit, hne, ha1, ha2⟩ := st
    obtain ⟨xs, hq, hx⟩ := hg
    obtain ⟨its, rv, p, hz⟩ := sqa_of I hq
    have hn : i = its.toArray.size := by rw [List.size_toArray, ← rv.length, hx]
    subst hn
    have hh : X.A.in1.handled = none := I.ok.hd hc
    have G := GoesN.enumFrom (prog := X.prog) (w := X.w) (A := X.A) (elts := elts) (x1 := kk) (pos := tpos) 0 (drawA hh k it a ha1 its.toArray) e hne (by
      intro z
      rcases List.mem_cons.mp z with z | z
      · exact hne z
      · exact ha2 (List.mem_singleton.mp z).symm) (by simp)
    have e0 : (0 : Int) + (its.toArray.size : Int) = ((its.toArray.size : Nat) : Int) := by omega
    refine wpAny_mono (G.stops s (fun s2 => Inv X pins σ H s2) E ⟨⟨old, by rw [e0]; exact he⟩, hit, p⟩ fun h' tk kp _ => I.turnedL kp hf) (fun r s1 hr => hr) fun _ _ z => z
  self := fun A i s Q E st h => by
    obtain ⟨⟨_, he⟩, _⟩ := st
    exact wpAny_pyIter_enum he h
set_option maxHeartbeats 4000000 in
theorem meets_enum1 {v : Value} {o : Obj} {B : Heap → Prop} (b : Begins v o B) :
    Meets (Builtin.«enumerate.__new__» ⟨[.type "enumerate", v], []⟩) (fun _ R s => B s.heap ∧
      R (.ok (.ret (.ref (s.heap.push o).objs.size))) { s with heap := (s.heap.push o).push { cls := .type "enumerate", data := .fields #[.none, .bool false, .ref s.heap.objs.size, rawInt 0, .none, .none] } }) :=
  .of_wp fun prog w A R s h => by
    obtain ⟨hp, g, d, tk, os⟩ := s
    obtain ⟨h1, h⟩ := h
    have hsub := sub_enumerate
    have it1 : ∀ {A' : Around} {E : Value → Shared → Prop} {Q : Value → Shared → Prop}, Q (.ref hp.objs.size) ⟨hp.push o, g, d, tk, os⟩ → wpAny (model prog w) A' (pyIter v) Q E ⟨hp, g, d, tk, os⟩ :=
      fun q => b.iter prog w _ _ ⟨hp, g, d, tk, os⟩ _ h1 q
    wp_walk using it1
    refine wpAny_stack_any fun st => wpAny_pure ?_
    split
    · rename_i c _ _ _ _ _
      cases (c == Value.type "enumerate")
      all_goals (wp_walk using it1; exact ⟨_, rfl, h⟩)
    · wp_walk using it1
      exact ⟨_, rfl, h⟩
theorem call_enum1 {prog : Program} {w : World} {A : Around} {E : Value → Shared → Prop} {s : Shared} {v : Value} {o : Obj} {B : Heap → Prop} {Q : Value → Shared → Prop} (b : Begins v o B) (h1 : B s.heap)
    (h : ∀ h', IsEnum h' (s.heap.objs.size + 1) s.heap.objs.size 0 .none → h'.get? s.heap.objs.size = some o → (∀ c u, s.heap.get? c = some u → h'.get? c = some u) → Q (.ref (s.heap.objs.size + 1)) { s with heap := h' }) :
    wpAny (model prog w) A (call (.type "enumerate") [v]) Q E s := by
  refine callType_new F.called_enumerate (by decide) (F.typeCall_enumerate_1 _) (F.newCall_enumerate_1 _) (fun obj => F.args_object_init_2 obj _) F.entry_enumerate_new (meets_enum1 b) ⟨h1, ?_⟩
  have hz : (s.heap.push o).objs.size = s.heap.objs.size + 1 := Heap.size_push ..
  rw [hz]
  have he := Heap.get?_push_size (s.heap.push o) (o := { cls := .type "enumerate", data := .fields #[.none, .bool false, .ref s.heap.objs.size, rawInt 0, .none, .none] }) rfl
  rw [hz] at he
  exact ⟨⟨_, he, rfl⟩, h _ he (Heap.get?_push_of_some _ (Heap.get?_push_size _ b.free)) fun c u x => Heap.get?_push_of_some _ (Heap.get?_push_of_some _ x)⟩
def iEnumA (k : SK) (K : PySem.W.Frag) (ta : TA) : TI := fun σ H R => ta σ H fun vs H1 => ∃ a xs, vs = [.ref a] ∧ SqA k K H1 a xs ∧ R (IteA k K a) H1
theorem pi_enumA {X : Cx} (k : SK) {e : Expr} {ta : TA} {p pos tpos : Pos} {elts : List Expr} {kk : Nat} (hg : Gl X "enumerate") (hm : X.mg "enumerate" = none) (ha : PA X [e] ta) (hs : starEach [e] X.env = [(false, eval e X.env)]) :
    PI X (.Tuple elts kk tpos) (.Call (.Name "enumerate" p) [e] [] pos) (iEnumA k X.K ta) := by
  refine ⟨fun pins s σ H R I h => ?_⟩
  refine Call_ (ld_blt I hg hm boot_enumerate (PyProof.Rows.callWith_type1 (thn (ha.run pos pins s σ H _ I h) fun us s1 ⟨vs, H1, I1, r1, q1⟩ => ?_) hs rfl))
  obtain ⟨a, xs, ev, hq, q⟩ := q1
  subst ev
  rw [Vals.ref1 r1]
  obtain ⟨its, rv, p', hz⟩ := sqa_of I1 hq
  refine call_enum1 (begA k a its.toArray) p' fun h' he hit hk => wpAny_pyIter_enum he ?_
  have lt := isA_lt p'
  refine ⟨s1.heap.objs.size + 1, [s1.heap.objs.size + 1, s1.heap.objs.size], _, _, H1, rfl, I1.kept (t' := s1.toks) hk, turn_enumA k a (s1.heap.objs.size + 1) s1.heap.objs.size, ⟨⟨.none, he⟩, itA_new hit, Nat.succ_ne_self _, Nat.ne_of_lt lt, Nat.ne_of_lt (Nat.lt_succ_of_lt lt)⟩, fun b hb => ?_, q⟩
  have hle : s1.heap.objs.size ≤ b := by
    rcases List.mem_cons.mp hb with z | z
    · rw [z]
      exact Nat.le_succ _
    · rw [List.mem_singleton.mp z]
      exact Nat.le_refl _
  exact I1.fpOk hle (I1.hok.fresh hle)
/-! ### zip of two, in any mix -/
def ItzA (k j : SK) (K : PySem.W.Frag) (a b : Addr) : It where
  go := fun i H => ∃ (xs ys : List V) (x y : V), SqA k K H a xs ∧ SqA j K H b ys ∧ xs[i]? = some x ∧ ys[i]? = some y
  yld := fun i H v H' => ∃ T x y, v = .ref T ∧ H T = none ∧ H' = upd H T (.tup [x, y]) ∧ (∀ xs, SqA k K H a xs → xs[i]? = some x) ∧ ∀ ys, SqA j K H b ys → ys[i]? = some y
  stop := fun i H => ∃ xs ys : List V, SqA k K H a xs ∧ SqA j K H b ys ∧ min xs.length ys.length = i
theorem turn_zipA {P : Program} {w : World} {K : PySem.W.Frag} {elts : List Expr} {kk : Nat} {tpos : Pos} (k j : SK) {a b z TI TO i1 i2 : Addr} (S : ZipSep2 z TI TO i1 i2 [i1, a] [i2, b]) (n1 : a ≠ i1) (n2 : b ≠ i2) :
    Turn P w K (.Tuple elts kk tpos) (ItzA k j K a b) [z, TI, TO, i1, i2] z (fun i h => IsZip h z TI TO .none ∧ IsTupOf2 h TI (.ref i1) (.ref i2) ∧ (∃ x y, IsTupOf2 h TO x y) ∧ ItA k h i1 a i ∧ ItA j h i2 b i) where
  mem := by simp
  obj := fun i h st c hc => by
    obtain ⟨hz, hTI, ⟨x, y, hTO⟩, h1, h2⟩ := st
    rcases List.mem_cons.mp hc with q | hc
    · rw [q]
      exact ⟨_, hz, fun v q => nomatch q⟩
    rcases List.mem_cons.mp hc with q | hc
    · rw [q]
      exact ⟨_, hTI, fun v q => nomatch q⟩
    rcases List.mem_cons.mp hc with q | hc
    · rw [q]
      exact ⟨_, hTO, fun v q => nomatch q⟩
    rcases List.mem_cons.mp hc with q | hc
    · rw [q]
      exact itA_get h1
    · rw [List.mem_singleton.mp hc]
      exact itA_get h2
  keep := fun i h h' st kp => by
    obtain ⟨hz, hTI, ⟨x, y, hTO⟩, h1, h2⟩ := st
    exact ⟨kp z (by simp) _ hz, kp TI (by simp) _ hTI, ⟨x, y, kp TO (by simp) _ hTO⟩, itA_at h1 fun o q => kp i1 (by simp) o q, itA_at h2 fun o q => kp i2 (by simp) o q⟩
  item := by
    intro X hP hw hK hc i pins s σ H E I hf st hg
    subst hP hw hK
    obtain ⟨hz, hTI, ⟨x0, y0, hTO⟩, h1, h2⟩ := st
    obtain ⟨xs, ys, x, y, hqx, hqy, hx, hy⟩ := hg
    obtain ⟨its, rv, p, _⟩ := sqa_of I hqx
    obtain ⟨its2, rv2, p2, _⟩ := sqa_of I hqy
    obtain ⟨u, hu, ru⟩ := rv.get hx
    obtain ⟨u2, hu2, ru2⟩ := rv2.get hy
    have hh : X.A.in1.handled = none := I.ok.hd hc
    have G := GoesN.zip2 (prog := X.prog) (w := X.w) (A := X.A) (elts := elts) (x1 := kk) (pos := tpos) S (drawA hh k i1 a n1 its.toArray) (drawA hh j i2 b n2 its2.toArray)
    have l1 : i < its.toArray.size := by
      rw [List.size_toArray]
      exact (List.getElem?_eq_some_iff.mp hu).1
    have l2 : i < its2.toArray.size := by
      rw [List.size_toArray]
      exact (List.getElem?_eq_some_iff.mp hu2).1
    refine wpAny_mono (G.goes i s (fun v s2 => ∃ x H', Inv X pins σ H' s2 ∧ RelV x v ∧ (ItzA k j X.K a b).yld i H x H' ∧ (IsZip s2.heap z TI TO .none ∧ IsTupOf2 s2.heap TI (.ref i1) (.ref i2) ∧ (∃ x y, IsTupOf2 s2.heap TO x y) ∧ ItA k s2.heap i1 a (i + 1) ∧ ItA j s2.heap i2 b (i + 1)) ∧ ∀ c ∈ [z, TI, TO, i1, i2], H' c = none) E (by omega) ⟨hz, hTI, ⟨x0, y0, hTO⟩, ⟨h1, p⟩, ⟨h2, p2⟩⟩ fun v h' tk hY st' kp _ => ?_) (fun r s1 hr => hr) fun _ _ z => z
    obtain ⟨T, y1, y2, rfl, hT, hy1, hy2, isT⟩ := hY
    have e1 : y1 = u := by
      have q : its.toArray[i]? = some u := by simpa using hu
      rw [q] at hy1
      exact (Option.some.inj hy1).symm
    have e2 : y2 = u2 := by
      have q : its2.toArray[i]? = some u2 := by simpa using hu2
      rw [q] at hy2
      exact (Option.some.inj hy2).symm
    subst e1 e2
    have hn : H T = none := I.hok.fresh hT
    have new : ObjOk X.prog X.w (upd H T (.tup [x, y])) h' T (.tup [x, y]) := ⟨by show 2 ≤ sizeLine; decide, [y1, y2], .cons ru (.cons ru2 .nil), isT⟩
    have kp' : ∀ c o, c ∉ [z, TI, TO, i1, i2] → s.heap.get? c = some o → h'.get? c = some o := fun c o hb q => kp c o (fun m => hb (by simp at m ⊢; rcases m with m | m | m | m <;> simp [m])) q
    have I1 : Inv X pins σ (upd H T (.tup [x, y])) { s with heap := h', toks := tk } := I.turnedNew (ch := [z, TI, TO, i1, i2]) kp' hf hT new
    obtain ⟨z', TI', TO', ⟨h1', _⟩, ⟨h2', _⟩⟩ := st'
    refine ⟨.ref T, _, I1, rfl, ⟨T, x, y, rfl, hn, rfl, fun l hl => by rw [sqa_inj I hl hqx]; exact hx, fun l hl => by rw [sqa_inj I hl hqy]; exact hy⟩, ⟨z', TI', TO', h1', h2'⟩, fun c hcm => ?_⟩
    have hc0 := (hf c hcm).1
    have hcT : c ≠ T := by
      intro e
      subst e
      have lt : c < s.heap.objs.size := by
        simp only [List.mem_cons, List.not_mem_nil, or_false] at hcm
        rcases hcm with q | q | q | q | q
        · rw [q]
          exact Heap.lt_size hz
        · rw [q]
          exact Heap.lt_size hTI
        · rw [q]
          exact Heap.lt_size hTO
        · rw [q]
          obtain ⟨o, ho, _⟩ := itA_get h1
          exact Heap.lt_size ho
        · rw [q]
          obtain ⟨o, ho, _⟩ := itA_get h2
          exact Heap.lt_size ho
      exact absurd hT (Nat.not_le.mpr lt)
    rw [upd_ne hcT]
    exact hc0
  done := by
    intro X hP hw hK hc i pins s σ H E I hf st hg
    subst hP hw hK
    obtain ⟨hz, hTI, ⟨x0, y0, hTO⟩, h1, h2⟩ := st
    obtain ⟨xs, ys, hqx, hqy, hend⟩ := hg
    obtain ⟨its, rv, p, _⟩ := sqa_of I hqx
    obtain ⟨its2, rv2, p2, _⟩ := sqa_of I hqy
    have hh : X.A.in1.handled = none := I.ok.hd hc
    have G := GoesN.zip2 (prog := X.prog) (w := X.w) (A := X.A) (elts := elts) (x1 := kk) (pos := tpos) S (drawA hh k i1 a n1 its.toArray) (drawA hh j i2 b n2 its2.toArray)
    have en : min its.toArray.size its2.toArray.size = i := by rw [List.size_toArray, List.size_toArray, ← rv.length, ← rv2.length, hend]
    rw [en] at G
    refine wpAny_mono (G.stops s (fun s2 => Inv X pins σ H s2) E ⟨hz, hTI, ⟨x0, y0, hTO⟩, ⟨h1, p⟩, ⟨h2, p2⟩⟩ fun h' tk kp _ => I.turnedL (fun c o hb q => kp c o (fun m => hb (by simp at m ⊢; rcases m with m | m | m | m <;> simp [m])) q) hf) (fun r s1 hr => hr) fun _ _ z => z
  self := fun A i s Q E st h => wpAny_pyIter_zip st.1 h
def iZipM (k j : SK) (K : PySem.W.Frag) (ta : TA) : TI := fun σ H R => ta σ H fun vs H1 => ∃ a b xs ys, vs = [.ref a, .ref b] ∧ SqA k K H1 a xs ∧ SqA j K H1 b ys ∧ R (ItzA k j K a b) H1
theorem pi_zipM {X : Cx} (k j : SK) {e e2 : Expr} {ta : TA} {p pos tpos : Pos} {elts : List Expr} {kk : Nat} (hg : Gl X "zip") (hm : X.mg "zip" = none) (ha : PA X [e, e2] ta)
    (hs : starEach [e, e2] X.env = (false, eval e X.env) :: starEach [e2] X.env) (hpl : (backTo pos (starEach [e2] X.env)).any (·.1) = false) :
    PI X (.Tuple elts kk tpos) (.Call (.Name "zip" p) [e, e2] [] pos) (iZipM k j X.K ta) := by
  refine ⟨fun pins s σ H R I h => ?_⟩
  refine Call_ (ld_blt I hg hm PyProof.Rows.boot_zip (PyProof.Rows.callWith_type1 (thn (ha.run pos pins s σ H _ I h) fun us s1 ⟨vs, H1, I1, r1, q1⟩ => ?_) hs hpl))
  obtain ⟨a, b, xs, ys, ev, hqx, hqy, q⟩ := q1
  subst ev
  obtain ⟨u1, u2, eu, ra, rb⟩ := vals2 r1
  subst eu
  cases ra
  cases rb
  obtain ⟨its, rv, p1, _⟩ := sqa_of I1 hqx
  obtain ⟨its2, rv2, p2, _⟩ := sqa_of I1 hqy
  have la := isA_lt p1
  have lb := isA_lt p2
  refine zip_begins2 (begA k a its.toArray) (begA j b its2.toArray) p1 p2 fun h' hz hTI hTO h1 h2 hsz hk => wpAny_pyIter_zip hz ?_
  refine ⟨s1.heap.objs.size + 4, [s1.heap.objs.size + 4, s1.heap.objs.size + 2, s1.heap.objs.size + 3, s1.heap.objs.size, s1.heap.objs.size + 1], _, _, H1, rfl, I1.kept (t' := s1.toks) hk,
    turn_zipA k j (zip_sep2 (fp1 := [a]) (fp2 := [b]) (fun c m => by rw [List.mem_singleton.mp m]; exact la) fun c m => by rw [List.mem_singleton.mp m]; exact lb) (Nat.ne_of_lt la) (Nat.ne_of_lt (Nat.lt_succ_of_lt lb)),
    ⟨hz, hTI, ⟨_, _, hTO⟩, itA_new h1, itA_new h2⟩, fun c hcm => ?_, q⟩
  have hle : s1.heap.objs.size ≤ c := by
    simp only [List.mem_cons, List.not_mem_nil, or_false] at hcm
    rcases hcm with z | z | z | z | z <;> (rw [z]; first | exact Nat.le_refl _ | exact Nat.le_add_right _ _)
  exact I1.fpOk hle (I1.hok.fresh hle)
end Wk
set_option maxRecDepth 100000
set_option maxHeartbeats 4000000
/-! WB6: the terms' readings, one construct at a time -/
namespace Wk
open PySem PySem.Spec PyProof.Rows L2
/-- a def as its callers see it -/
structure FnI where
  name : Str
  np : Nat
  src : Bool
  fresh : Bool
  sem : List D → M D
/-- its promise -/
def spI (K : PySem.W.Frag) (ex : ExV) (I : FnI) : Sp := fun vs H Q E => vs.length = I.np ∧ ∃ (F : Hp) (ds : List D) (sa : Option Addr) (s : SV), Same F H ∧ SrcOk sa F H s ∧
  (if I.src = true then ∃ a ws, sa = some a ∧ vs = .ref a :: ws ∧ DpAll K F ws ds else sa = none ∧ s = sv0 ∧ DpAll K F vs ds) ∧ Cn ex E sa F H s (I.sem ds s) (if I.fresh = true then RF K sa H else RD K) Q
/-- it stands at its name, and keeps its promise at the depth k -/
structure FnAt (P : Program) (w : World) (K : PySem.W.Frag) (mg : Str → Option Value) (base : Heap) (ex : ExV) (k : Nat) (I : FnI) : Prop where
  ok : ∃ (f : Addr) (fd : FuncData) (ps : List Str), FnOk P w K mg base (L2.CX P w) k f fd ps (spI K ex I) ∧ mg I.name = some (.ref f) ∧ PySem.W.keepIn K (.ref f) = true ∧ Binds K fd ps []
structure Blt (mg : Str → Option Value) : Prop where
  len : mg "len" = none
  sum : mg "sum" = none
  max : mg "max" = none
  min : mg "min" = none
  any : mg "any" = none
  all : mg "all" = none
  sorted : mg "sorted" = none
  tuple : mg "tuple" = none
  list : mg "list" = none
  int : mg "int" = none
  str : mg "str" = none
  bool : mg "bool" = none
  range : mg "range" = none
  enumerate : mg "enumerate" = none
  zip : mg "zip" = none
  isinstance : mg "isinstance" = none
/-- names that may be stored to -/
def stB (st : Scope) (x : Str) : Bool := match st.names.lookup x with
  | some .local => true
  | some .cell => true
  | _ => false
/-- what a context gives -/
structure Fx (T : List FnI) (ex : ExV) (cs : List (Str × Int)) (N : List Str) (X : Cx) (E : XK) (sc st : Scope) : Prop where
  nm : X.N = N
  sc : X.env.scope = sc
  sto : ∀ x, stB st x = true → Loc X.env.scope x ∧ (X.fn x = true ∨ X.env.scope.names.lookup x = some .local)
  nd : N.Nodup
  calm : X.calm = true
  units : X.A.units + 65 < cLine
  blt : Blt X.mg
  glob : ∀ p ∈ cs, ∃ t, X.mg p.1 = some (.int p.2 t)
  fns : ∀ (f : Nat) (I : FnI), T[f]? = some I → ∃ k, Room k X.A ∧ FnAt X.prog X.w X.K X.mg X.base ex k I
  pass : Passes (L2.CX X.prog X.w) X E
def semsOf (T : List FnI) : Sems := fun f => match T[f]? with
  | some I => I.sem
  | none => fun _ => stuck
variable {ex : ExV} {E : XK} {X : Cx}
/-! ### names, constants -/
theorem mem_lk {α β : Type} [BEq α] [LawfulBEq α] {k : α} {v : β} : ∀ {l : List (α × β)}, l.lookup k = some v → (k, v) ∈ l
  | [], h => by simp at h
  | (k', v') :: r, h => by
    rw [List.lookup_cons] at h
    by_cases e : (k == k') = true
    · rw [e] at h
      cases h
      have := eq_of_beq e
      subst this
      exact List.mem_cons_self
    · have e : (k == k') = false := by simpa using e
      rw [e] at h
      exact List.mem_cons_of_mem _ (mem_lk h)
theorem de_var {i : Nat} {x : Str} {pos : Pos} (hN : X.N[i]? = some x) (hv : Vis X.env.scope x) (hd : (x == ("__debug__" : Str)) = false) (hcd : (x == ("__classdict__" : Str)) = false) : PE X (.Name x pos) (tE X.K ex E (fun env => vald env i) (qD X.K)) := by
  refine PE.imp (pe_var hN hv hd hcd) fun σ H Q h => ?_
  obtain ⟨F, sa, H0, L, env, s, R, c⟩ := h
  have sl := R.slot i
  replace c : Cn ex E sa F H s (vald env i s) (RD X.K) Q := c
  unfold vald at c
  cases e : env[i]? with
  | none =>
    rw [e] at c
    exact (Cn.no c).elim
  | some y =>
    rw [e] at c
    cases y with
    | im d =>
      obtain ⟨v, e1, e2⟩ := sl _ e
      exact ⟨v, e1, c.value R.sub R.src e2⟩
    | un => exact (Cn.no c).elim
    | ow ds => exact (Cn.no c).elim
    | ln ds => exact (Cn.no c).elim
    | sr => exact (Cn.no c).elim
theorem de_bv {i : Nat} {x : Str} {pos : Pos} (hN : X.N[i]? = some x) (hv : Vis X.env.scope x) (hd : (x == ("__debug__" : Str)) = false) (hcd : (x == ("__classdict__" : Str)) = false) : PE X (.Name x pos) (tE X.K ex E (fun env => valb env i) (qB X.K)) := by
  refine PE.imp (pe_var hN hv hd hcd) fun σ H Q h => ?_
  obtain ⟨F, sa, H0, L, env, s, R, c⟩ := h
  have sl := R.slot i
  replace c : Cn ex E sa F H s (valb env i s) (RB X.K sa) Q := c
  unfold valb at c
  cases e : env[i]? with
  | none =>
    rw [e] at c
    exact (Cn.no c).elim
  | some y =>
    rw [e] at c
    cases y with
    | im d =>
      obtain ⟨v, e1, e2⟩ := sl _ e
      exact ⟨v, e1, c.value R.sub R.src (.inl e2)⟩
    | un => exact (Cn.no c).elim
    | ow ds =>
      obtain ⟨a, vs, e1, f, g, t, n, _⟩ := sl _ e
      exact ⟨_, e1, c.value R.sub R.src (.inr ⟨a, vs, ds, rfl, rfl, f, g, n, t⟩)⟩
    | ln ds =>
      obtain ⟨a, vs, e1, m, t⟩ := sl _ e
      obtain ⟨f, g, n, _⟩ := R.lent (i, a, vs) (mem_lk m)
      exact ⟨_, e1, c.value R.sub R.src (.inr ⟨a, vs, ds, rfl, rfl, f, g, n, t⟩)⟩
    | sr => exact (Cn.no c).elim
theorem de_c {e : Expr} {v : V} {d : D} (h : PE X e (tC v)) (hd : ∀ F, Dp X.K F v d) : PE X e (tE X.K ex E (fun _ => ret d) (qD X.K)) :=
  PE.imp h fun σ H Q ⟨F, sa, H0, L, env, s, R, c⟩ => c.value R.sub R.src (hd F)
/-- what is read where data stand -/
theorem de_b {e : Expr} {m : Env → M D} (h : PE X e (tE X.K ex E m (qD X.K))) : PE X e (tE X.K ex E m (qB X.K)) :=
  PE.imp h fun σ H Q ⟨F, sa, H0, L, env, s, R, c⟩ => ⟨F, sa, H0, L, env, s, R, c.rep fun _ _ _ _ z => .inl z⟩
theorem de_f {e : Expr} {m : Env → M D} (h : PE X e (tE X.K ex E m (qF X.K))) : PE X e (tE X.K ex E m (qD X.K)) :=
  PE.imp h fun σ H Q ⟨F, sa, H0, L, env, s, R, c⟩ => ⟨F, sa, H0, L, env, s, R, RF.frz R.sub c⟩
/-! ### two operands -/
theorem rd_two {ma mb : Env → M D} {g : D → D → M D} {Rep : Option Addr → Hp → Hp → Hp → V → D → Prop} {r : R2} {σ : St} {H : Hp} {Q : VK}
    (hr : ∀ (sa : Option Addr) (Hs F H : Hp) (s : SV) (x y : V) (d e : D) (Q : VK), Stt X.K sa Hs F H s → Bp X.K sa F H x d → Bp X.K sa F H y e → Cn ex E sa F H s (g d e s) (Rep sa Hs) Q → r x y H Q)
    (h : tE X.K ex E (fun env => bnd (ma env) fun x => bnd (mb env) fun y => g x y) Rep σ H Q) : tOp (fun x y H Q => Sz X.K H → r x y H Q) (tE X.K ex E ma (qB X.K)) (tE X.K ex E mb (qB X.K)) σ H Q := by
  obtain ⟨F, sa, H0, L, env, s, R, c⟩ := h
  refine ⟨F, sa, H0, L, env, s, R, c.bnd fun x F1 H1 s1 d x1 b1 c1 => ?_⟩
  refine ⟨F1, sa, H0, L, env, s1, R.ext x1, c1.bnd fun y F2 H2 s2 e x2 b2 c2 => fun z => ?_⟩
  exact hr sa H F2 H2 s2 x y d e Q ⟨x2.sub, x2.srcOk, fun p hp => x1.none R.sub (x2.none x1.sub hp), z⟩ (Bp.ext x2 b1) b2 c2
theorem de_bin {a b : Expr} {pos : Pos} {op : Operator} {ma mb : Env → M D} {g : D → D → M D} {Rep : Option Addr → Hp → Hp → Hp → V → D → Prop} (o : Op2 X ex E (binaryOp op) g Rep) (ha : PE X a (tE X.K ex E ma (qB X.K))) (hb : PE X b (tE X.K ex E mb (qB X.K))) :
    PE X (.BinOp a op b pos) (tE X.K ex E (fun env => bnd (ma env) fun x => bnd (mb env) fun y => g x y) Rep) := by
  obtain ⟨r, ho, hr⟩ := o
  exact PE.imp (pe_op ho.sz ha hb) fun σ H Q h => rd_two hr h
theorem de_cmp {a b : Expr} {pos : Pos} {op : CmpOp} {ma mb : Env → M D} {g : D → D → M D} {Rep : Option Addr → Hp → Hp → Hp → V → D → Prop} (o : Op2 X ex E (compareOp op) g Rep) (ha : PE X a (tE X.K ex E ma (qB X.K))) (hb : PE X b (tE X.K ex E mb (qB X.K))) (hm : behindInMarks op b = false) :
    PE X (.Compare a [op] [b] pos) (tE X.K ex E (fun env => bnd (ma env) fun x => bnd (mb env) fun y => g x y) Rep) := by
  obtain ⟨r, ho, hr⟩ := o
  exact PE.imp (pe_cmpR ho.sz ha hb hm) fun σ H Q h => rd_two hr h
/-- a value that is a truth value -/
theorem tst_cn {sa : Option Addr} {F H : Hp} {s : SV} {d : D} {Q : Bool → Hp → Prop} (c : Cn ex E sa F H s (tst d s) (fun _ _ b k => b = k) Q) (hs : Same F H) (h : SrcOk sa F H s) {v : V} (r : Bp X.K sa F H v d) : ∃ k, v = .bl k ∧ d = .bool k ∧ Q k H := by
  cases d <;> try exact (Cn.no c).elim
  cases r.bl
  exact ⟨_, rfl, rfl, c _ F H (Ext.refl hs h) rfl⟩
theorem dt_of {e : Expr} {m : Env → M D} (h : PE X e (tE X.K ex E m (qB X.K))) (he : ∀ whole, isTrue e X.env whole = (do let v ← whole; standAt e.pos; holding [v] (truthy v))) : PT X e (tE X.K ex E (fun env => bnd (m env) tst) qT) := by
  refine PT.imp (pt_val h he) fun σ H Q hh => ?_
  obtain ⟨F, sa, H0, L, env, s, R, c⟩ := hh
  refine ⟨F, sa, H0, L, env, s, R, c.bnd fun x F1 H1 s1 d x1 b1 c1 => ?_⟩
  obtain ⟨k, e1, _, q⟩ := tst_cn (X := X) c1 x1.sub x1.srcOk b1
  exact ⟨k, e1, q⟩
theorem dt_cmp {a b : Expr} {pos : Pos} {op : CmpOp} {ma mb : Env → M D} {g : D → D → M D} (o : Op2 X ex E (compareOp op) g (qD X.K)) (ha : PE X a (tE X.K ex E ma (qB X.K))) (hb : PE X b (tE X.K ex E mb (qB X.K))) (hm : behindInMarks op b = false) :
    PT X (.Compare a [op] [b] pos) (tE X.K ex E (fun env => bnd (bnd (ma env) fun x => bnd (mb env) fun y => g x y) tst) qT) := by
  obtain ⟨r, ho, hr⟩ := o
  refine PT.imp (pt_cmpR ho.sz ha hb hm) fun σ H Q h => ?_
  refine rd_two (Rep := qD X.K) hr ?_
  obtain ⟨F, sa, H0, L, env, s, R, c⟩ := h
  refine ⟨F, sa, H0, L, env, s, R, c.bnd fun x F1 H1 s1 d x1 b1 c1 => ?_⟩
  obtain ⟨k, e1, _, q⟩ := tst_cn (X := X) c1 x1.sub x1.srcOk (.inl b1)
  exact ⟨k, e1, q⟩
/-! ### not, and, or -/
theorem de_not {a : Expr} {pos : Pos} {m : Env → M D} (ha : PE X a (tE X.K ex E m (qB X.K))) : PE X (.UnaryOp .Not a pos) (tE X.K ex E (fun env => bnd (m env) fun x => bnd (tst x) fun k => ret (bl (!k))) (qD X.K)) := by
  refine PE.imp (pe_not ha) fun σ H Q h => ?_
  obtain ⟨F, sa, H0, L, env, s, R, c⟩ := h
  refine ⟨F, sa, H0, L, env, s, R, c.bnd fun x F1 H1 s1 d x1 b1 c1 => ?_⟩
  cases d <;> try exact (Cn.no c1).elim
  cases Bp.bl b1
  exact ⟨_, rfl, c1.value x1.sub x1.srcOk (.bl _)⟩
theorem dt_not {a : Expr} {pos : Pos} {m : Env → M D} (ha : PT X a (tE X.K ex E (fun env => bnd (m env) tst) qT)) : PT X (.UnaryOp .Not a pos) (tE X.K ex E (fun env => bnd (bnd (m env) fun x => bnd (tst x) fun k => ret (bl (!k))) tst) qT) := by
  refine PT.imp (pt_not ha) fun σ H Q h => ?_
  obtain ⟨F, sa, H0, L, env, s, R, c⟩ := h
  refine ⟨F, sa, H0, L, env, s, R, ?_⟩
  have e : (bnd (bnd (m env) fun x => bnd (tst x) fun k => ret (bl (!k))) tst) = bnd (bnd (m env) tst) fun k => ret (!k) := by
    rw [bnd_assoc, bnd_assoc]
    congr
    funext x
    rw [bnd_assoc]
    rfl
  replace c : Cn ex E sa F H s ((bnd (bnd (m env) fun x => bnd (tst x) fun k => ret (bl (!k))) tst) s) (qT sa H) Q := c
  rw [e] at c
  exact c.bnd fun b F1 H1 s1 k x1 e1 c1 => by
    have e1 : b = k := e1
    subst e1
    exact c1 _ F1 H1 (Ext.refl x1.sub x1.srcOk) rfl
/-! ### a if c else b -/
theorem de_ite {c a b : Expr} {pos : Pos} {mc ma mb : Env → M D} {Rep : Option Addr → Hp → Hp → Hp → V → D → Prop} (hc : PT X c (tE X.K ex E (fun env => bnd (mc env) tst) qT)) (ha : PE X a (tE X.K ex E ma (qD X.K))) (hb : PE X b (tE X.K ex E mb (qD X.K))) :
    PE X (.IfExp c a b pos) (tE X.K ex E (fun env => bnd (mc env) fun x => bnd (tst x) fun k => if k = true then ma env else mb env) (qD X.K)) := by
  refine PE.imp (pe_ifExp hc ha hb) fun σ H Q h => ?_
  obtain ⟨F, sa, H0, L, env, s, R, c⟩ := h
  refine ⟨F, sa, H0, L, env, s, R, ?_⟩
  have c' : Cn ex E sa F H s ((bnd (bnd (mc env) tst) fun k => if k = true then ma env else mb env) s) (RD X.K) Q := by
    rw [bnd_assoc]
    exact c
  exact c'.bnd fun b F1 H1 s1 k x1 e1 c1 => by
    have e1 : b = k := e1
    subst e1
    cases b with
    | true => exact ⟨F1, sa, H0, L, env, s1, R.ext x1, c1⟩
    | false => exact ⟨F1, sa, H0, L, env, s1, R.ext x1, c1⟩
/-! ### displays -/
theorem da_nil {m : Env → M (List D)} (e : ∀ env, m env = ret []) : PA X [] (tE X.K ex E m (qL X.K)) := by
  refine PA.imp pa_nil fun σ H Q h => ?_
  obtain ⟨F, sa, H0, L, env, s, R, c⟩ := h
  rw [e] at c
  exact c [] F H (Ext.refl R.sub R.src) .nil
theorem da_cons {e : Expr} {es : List Expr} {m : Env → M D} {ms : Env → M (List D)} (h : PE X e (tE X.K ex E m (qD X.K))) (hs : PA X es (tE X.K ex E ms (qL X.K))) (hst : starEach (e :: es) X.env = (false, eval e X.env) :: starEach es X.env) :
    PA X (e :: es) (tE X.K ex E (fun env => bnd (m env) fun x => bnd (ms env) fun xs => ret (x :: xs)) (qL X.K)) := by
  refine PA.imp (pa_cons h hs hst) fun σ H Q hh => ?_
  obtain ⟨F, sa, H0, L, env, s, R, c⟩ := hh
  refine ⟨F, sa, H0, L, env, s, R, c.bnd fun x F1 H1 s1 d x1 b1 c1 => ?_⟩
  refine ⟨F1, sa, H0, L, env, s1, R.ext x1, c1.bnd fun xs F2 H2 s2 ds x2 b2 c2 => ?_⟩
  exact c2 _ F2 H2 (Ext.refl x2.sub x2.srcOk) (.cons (Dp.mono x2.ff b1) b2)
/-- .. with items that are only read -/
theorem da_consB {e : Expr} {es : List Expr} {R1 : Option Addr → Hp → Hp → Hp → List V → List D → Prop} {m : Env → M D} {ms : Env → M (List D)} (h : PE X e (tE X.K ex E m (qB X.K))) (hs : PA X es (tE X.K ex E ms (fun sa _ F H vs ds => ∃ x d, vs = [x] ∧ ds = [d] ∧ Bp X.K sa F H x d))) (hst : starEach (e :: es) X.env = (false, eval e X.env) :: starEach es X.env) :
    PA X (e :: es) (tE X.K ex E (fun env => bnd (m env) fun x => bnd (ms env) fun xs => ret (x :: xs)) (fun sa _ F H vs ds => ∃ x d y e, vs = [x, y] ∧ ds = [d, e] ∧ Bp X.K sa F H x d ∧ Bp X.K sa F H y e)) := by
  refine PA.imp (pa_cons h hs hst) fun σ H Q hh => ?_
  obtain ⟨F, sa, H0, L, env, s, R, c⟩ := hh
  refine ⟨F, sa, H0, L, env, s, R, c.bnd fun x F1 H1 s1 d x1 b1 c1 => ?_⟩
  refine ⟨F1, sa, H0, L, env, s1, R.ext x1, c1.bnd fun xs F2 H2 s2 ds x2 b2 c2 => ?_⟩
  obtain ⟨y, e, e1, e2, b3⟩ := b2
  subst e1 e2
  exact c2 _ F2 H2 (Ext.refl x2.sub x2.srcOk) ⟨x, d, y, e, rfl, rfl, Bp.ext x2 b1, b3⟩
theorem da_one {e : Expr} {m : Env → M D} (h : PE X e (tE X.K ex E m (qB X.K))) (hst : starEach [e] X.env = (false, eval e X.env) :: starEach [] X.env) :
    PA X [e] (tE X.K ex E (fun env => bnd (m env) fun x => ret [x]) (fun sa _ F H vs ds => ∃ x d, vs = [x] ∧ ds = [d] ∧ Bp X.K sa F H x d)) := by
  refine PA.imp (pa_cons h pa_nil hst) fun σ H Q hh => ?_
  obtain ⟨F, sa, H0, L, env, s, R, c⟩ := hh
  refine ⟨F, sa, H0, L, env, s, R, c.bnd fun x F1 H1 s1 d x1 b1 c1 => ?_⟩
  exact c1 _ F1 H1 (Ext.refl x1.sub x1.srcOk) ⟨x, d, rfl, rfl, b1⟩
theorem de_tup {es : List Expr} {k : Nat} {pos : Pos} {ms : Env → M (List D)} (hs : PA X es (tE X.K ex E ms (qL X.K))) (hn : es.length ≤ 1000) (hl : ∀ env s ds s', ms env s = .ok ds s' → ds.length = es.length) : PE X (.Tuple es k pos) (tE X.K ex E (fun env => bnd (ms env) fun ds => ret (.tuple ds)) (qD X.K)) := by
  refine PE.imp (pe_tup hs) fun σ H Q hh => ?_
  obtain ⟨F, sa, H0, L, env, s, R, c⟩ := hh
  refine ⟨F, sa, H0, L, env, s, R, ?_⟩
  replace c : Cn ex E sa F H s ((bnd (ms env) fun ds => ret (PyData.tuple ds)) s) (RD X.K) Q := c
  unfold bnd at c
  cases e : ms env s with
  | ok ds s' =>
    rw [e] at c
    intro vs F1 H1 x1 b1
    have len : vs.length = es.length := (DpAll.length b1).trans (hl _ _ _ _ e)
    refine ⟨by rw [len, sizeLine_eq]; omega, fun p hp => ?_⟩
    exact Cn.newT (Cn.after x1 c) x1.sub x1.srcOk b1 hp
  | er e' s' =>
    rw [e] at c
    exact c
  | no =>
    rw [e] at c
    exact c
theorem de_lst {es : List Expr} {pos : Pos} {ms : Env → M (List D)} (hs : PA X es (tE X.K ex E ms (qL X.K))) (hn : es.length ≤ 1000) (hl : ∀ env s ds s', ms env s = .ok ds s' → ds.length = es.length) : PE X (.List es pos) (tE X.K ex E (fun env => bnd (ms env) fun ds => ret (.list ds)) (qF X.K)) := by
  refine PE.imp (pe_lst hs) fun σ H Q hh => ?_
  obtain ⟨F, sa, H0, L, env, s, R, c⟩ := hh
  refine ⟨F, sa, H0, L, env, s, R, ?_⟩
  replace c : Cn ex E sa F H s ((bnd (ms env) fun ds => ret (PyData.list ds)) s) (RF X.K sa H) Q := c
  unfold bnd at c
  cases e : ms env s with
  | ok ds s' =>
    rw [e] at c
    intro vs F1 H1 x1 b1
    have len : vs.length = es.length := (DpAll.length b1).trans (hl _ _ _ _ e)
    refine ⟨by rw [len, sizeLine_eq]; omega, fun p hp => ?_⟩
    exact Cn.newL (Cn.after x1 c) x1.sub x1.srcOk b1 hp (x1.none R.sub hp)
  | er e' s' =>
    rw [e] at c
    exact c
  | no =>
    rw [e] at c
    exact c
/-- [..] * n -/
theorem de_rep {es : List Expr} {b : Expr} {pos pos' : Pos} {ms : Env → M (List D)} {mb : Env → M D} (hs : PA X es (tE X.K ex E ms (qL X.K))) (hb : PE X b (tE X.K ex E mb (qB X.K))) (hn : es.length ≤ 1000) (hl : ∀ env s ds s', ms env s = .ok ds s' → ds.length = es.length) :
    PE X (.BinOp (.List es pos') .Mult b pos) (tE X.K ex E (fun env => bnd (ms env) fun ds => bnd (mb env) fun k => repD ds k) (qF X.K)) := by
  refine PE.imp (pe_op op_rep (pe_lst hs) hb) fun σ H Q hh => ?_
  obtain ⟨F, sa, H0, L, env, s, R, c⟩ := hh
  refine ⟨F, sa, H0, L, env, s, R, ?_⟩
  replace c : Cn ex E sa F H s ((bnd (ms env) fun ds => bnd (mb env) fun k => repD ds k) s) (RF X.K sa H) Q := c
  unfold bnd at c
  cases e : ms env s with
  | er e' s' =>
    rw [e] at c
    exact c
  | no =>
    rw [e] at c
    exact c
  | ok ds s' =>
    rw [e] at c
    intro vs F1 H1 x1 b1
    have len : vs.length = es.length := (DpAll.length b1).trans (hl _ _ _ _ e)
    refine ⟨by rw [len, sizeLine_eq]; omega, fun p hp => ?_⟩
    have n0 := x1.none R.sub hp
    have x2 : Ext sa F1 H1 s' F1 (upd H1 p (.lst vs)) s' := Ext.newO x1.sub x1.srcOk hp
    have np : sa ≠ some p := fun z => by
      have so : SrcOk sa F1 H1 s' := x1.srcOk
      rw [z] at so
      have z1 := so.1
      rw [hp] at z1
      cases z1
    have c1 : Cn ex E sa F1 (upd H1 p (.lst vs)) s' ((bnd (mb env) fun k => repD ds k) s') (RF X.K sa H) Q := Cn.after (x1.trans x2) c
    refine ⟨F1, sa, H0, L, env, s', (R.ext x1).ext x2, c1.bnd fun y F3 H3 s3 d x3 b3 c3 => ?_⟩
    cases d <;> try exact (Cn.no c3).elim
    cases Bp.int b3
    obtain ⟨h, c3⟩ := c3.ite
    unfold repOk at h
    have h := of_decide_eq_true h
    have g3 := (x3.cell p _ (Same.none x1.sub hp) upd_same).2 np
    refine ⟨p, _, vs, rfl, rfl, g3, h.1, h.2.1, ?_, fun q hq => Cn.newL c3 x3.sub x3.srcOk ((DpAll.mono x3.ff b1).rep _) hq (x1.none R.sub (x2.none x1.sub (x3.none x2.sub hq)))⟩
    have dl := DpAll.length b1
    rw [dl, sizeLine_eq]
    exact h.2.2
end Wk
set_option maxRecDepth 100000
set_option maxHeartbeats 4000000
/-! WB7: items, slices, calls, truth -/
namespace HT
open PySem PySem.Spec PyProof.Rows
section
variable {prog : Program} {w : World} {A : Around} {E : Value → Shared → Prop} {s : Shared}
theorem adjust_rev (n : Nat) : Builtin.Slice.sliceAdjust none none (-1) (n : Int) = ((n : Int) - 1, -1) := by
  unfold Builtin.Slice.sliceAdjust
  simp
theorem places_rev (n : Nat) : Builtin.Slice.slicePlaces ((n : Int) - 1) (-1) (-1) = n := by
  unfold Builtin.Slice.slicePlaces
  have h1 : ¬ ((-1 : Int) > 0) := by omega
  rw [if_neg h1]
  simp
  split <;> omega
theorem sliceApplied_rev {sl : Addr} {tk : Tok} {n : Nat} {Q : Int × Int × Nat → Shared → Prop} (hs : s.heap.IsSliceOf sl .none .none (.int (-1) tk)) (h : Q (((n : Int) - 1), -1, n) s) : wpAny (model prog w) A (Builtin.Slice.sliceApplied (.ref sl) (pure (n : Int))) Q E s := by
  obtain ⟨os, hos, hcs, hds⟩ := id hs
  unfold Builtin.Slice.sliceApplied Builtin.Slice.sliceFields
  refine wpAny_bind (wpAny_bind (wpAny_field hos hds (x := .none) rfl (wpAny_bind (wpAny_field hos hds (x := .none) rfl (wpAny_bind (wpAny_field hos hds (x := .int (-1) tk) rfl (wpAny_pure ?_)))))))
  refine wpAny_bind (slicePart_int ?_)
  show wpAny _ _ (if ((-1 : Int) == 0) = true then _ else _) _ _ s
  rw [if_neg (by decide)]
  refine wpAny_bind (slicePart_none (wpAny_bind (slicePart_none (wpAny_bind (wpAny_pure ?_)))))
  show wpAny _ _ (match Builtin.Slice.sliceAdjust none none (-1) (n : Int) with | (lo, hi) => pure (lo, (-1 : Int), Builtin.Slice.slicePlaces lo hi (-1))) _ _ s
  rw [adjust_rev n]
  show wpAny _ _ (pure ((n : Int) - 1, (-1 : Int), Builtin.Slice.slicePlaces ((n : Int) - 1) (-1) (-1))) _ _ s
  rw [places_rev]
  exact wpAny_pure h
theorem pick_rev (xs : Array Value) : ((List.range xs.size).filterMap fun (m : Nat) => xs[(((xs.size : Int) - 1) + (m : Int) * -1).toNat]?).toArray = xs.toList.reverse.toArray := by
  congr 1
  have key : ∀ k, k ≤ xs.size → ((List.range k).filterMap fun (m : Nat) => xs[(((xs.size : Int) - 1) + (m : Int) * -1).toNat]?) = xs.toList.reverse.take k := by
    intro k hk
    induction k with
    | zero => rfl
    | succ k ih =>
      rw [List.range_succ, List.filterMap_append, ih (by omega), List.take_succ]
      congr 1
      have e : ((((xs.size : Int) - 1) + (k : Int) * -1).toNat) = xs.size - 1 - k := by omega
      have hlt : xs.size - 1 - k < xs.size := by omega
      rw [List.filterMap_cons, List.filterMap_nil, e, List.getElem?_reverse (by simpa using (by omega : k < xs.size))]
      simp [Array.getElem?_eq_getElem hlt, hlt]
  have := key xs.size (Nat.le_refl _)
  rw [this, List.take_of_length_le (by simp)]
theorem getItem_tuple_rev {t sl : Addr} {items : Array Value} {tk : Tok} {Q : Value → Shared → Prop} (ht : IsTup s.heap t items) (hs : s.heap.IsSliceOf sl .none .none (.int (-1) tk))
    (h : Q (.ref s.heap.objs.size) { s with heap := s.heap.push { cls := .type "tuple", data := .seq items.toList.reverse.toArray } })
    (hsz : items.size ≤ sizeLine) : wpAny (model prog w) A (getItem (.ref t) (.ref sl)) Q E s := by
  have htake : sizeOk (.seq items.toList.reverse.toArray) := by
    show items.toList.reverse.toArray.size ≤ sizeLine
    rw [List.size_toArray, List.length_reverse, Array.length_toList]
    exact hsz
  obtain ⟨os, hos, hcs, hds⟩ := id hs
  have hTs : s.TypeIs (.ref sl) "slice" := ⟨os, hos, hcs⟩
  unfold getItem
  try with_reducible refine wpAny_holding ?_
  first | refine wpAny_bind (wpAny_pure ?_) | skip
  refine wpAny_bind (wpAny_sequenceKey ht.typeIs (by decide) ?_)
  refine wpAny_bind (wpAny_callSpecial?_slot (name := Str.ofString "__getitem__") ht.typeIs PyProof.Rows.slot_tuple_getitem
    (wpAny_call_entry PyProof.Rows.slot_tuple_getitem ht.typeIs entry_tuple_getitem ?_ (args_tuple_getitem _ _)))
  show wpAny _ _ (Builtin.Tuple.tupleItemsOf (.ref t) >>= _) _ _ s
  refine wpAny_bind (tupleItemsOf_ ht ?_)
  refine wpAny_bind (wpAny_typeOf hTs ?_)
  rw [if_pos (by decide)]
  refine wpAny_bind (sliceApplied_rev (n := items.size) hs ?_)
  show wpAny _ _ (if (((items.size : Int) - 1) == 0 && (-1 : Int) == 1 && items.size == items.size) = true then _ else _) _ _ s
  rw [if_neg (by simp), pick_rev]
  first
    | exact wpAny_bind (m := Builtin.Tuple.tupleExact _) (wpAny_newObj_type (wpAny_pure ⟨_, rfl, wpAny_pure h⟩) htake)
    | exact wpAny_bind (m := Builtin.Tuple.tupleExact _) (wpAny_newObj_type (wpAny_bind (wpAny_pure (wpAny_pure ⟨_, rfl, wpAny_pure h⟩))) htake)
    | exact wpAny_bind (wpAny_bind (m := Builtin.Tuple.tupleExact _) (wpAny_newObj_type (wpAny_pure (wpAny_pure ⟨_, rfl, wpAny_pure h⟩)) htake))
    | exact wpAny_bind (wpAny_bind (m := Builtin.Tuple.tupleExact _) (wpAny_newObj_type (wpAny_pure ⟨_, rfl, wpAny_pure h⟩) htake))
end
end HT
namespace L2
open PySem PySem.Spec PyProof.Rows
section
variable {X : Cx}
/-- x[::-1], a list or a tuple -/
def tRevA (K : PySem.W.Frag) (te : TE) : TE := fun σ H Q => te σ H fun x H1 => ∃ a xs, x = .ref a ∧ ((SqL K H1 a xs ∧ ∀ p, H1 p = none → Q (.ref p) (upd H1 p (.lst xs.reverse))) ∨ (SqT K H1 a xs ∧ ∀ p, H1 p = none → Q (.ref p) (upd H1 p (.tup xs.reverse))))
theorem pe_revA {e : Expr} {te : TE} {k : Nat} {p1 p2 p3 pos : Pos} (he : PE X e te) : PE X (.Subscript e (.Slice none none (some (.UnaryOp .USub (.Constant (.int 1) k p1) p2)) p3) pos) (tRevA X.K te) := by
  refine ⟨fun pins s σ H Q I h => ?_⟩
  refine Subscript_ (thn (he.run pins s σ H _ I h) fun v s1 ⟨x, H1, I1, r1, q1⟩ => ?_)
  obtain ⟨a, xs, ex, q⟩ := q1
  subst ex
  cases r1
  have hst : PO X (some (.UnaryOp .USub (.Constant (.int 1) k p1) p2)) (tPart (tUn (rU fun i => .int (-i)) (tC (.int 1)))) := po_some (pe_un un_neg pe_int)
  refine wpAny_Slice (thn (po_none.run pins s1 σ H1 (fun o H2 => o = none ∧ H2 = H1) I1 ⟨rfl, rfl⟩) fun vl s2 ⟨l, H2, I2, pl, el, e2⟩ => ?_)
  subst el e2
  refine thn (po_none.run pins s2 σ H2 (fun o H3 => o = none ∧ H3 = H2) I2 ⟨rfl, rfl⟩) fun vu s3 ⟨u, H3, I3, pu, eu, e3⟩ => ?_
  subst eu e3
  refine thn (hst.run pins s3 σ H3 (fun o H4 => o = some (-1) ∧ H4 = H3) I3 ⟨1, rfl, -1, rfl, rfl, rfl⟩) fun vs s4 ⟨o, H4, I4, ps, eo, e4⟩ => ?_
  subst eo e4
  have I5 : Inv X pins σ H4 { s4 with heap := s4.heap.push { cls := .type "slice", data := .fields #[vl, vu, vs] } } := I4.kept (t' := s4.toks) fun b ob q => Heap.get?_push_of_some _ q
  show wpAny (model X.prog X.w) X.A (subscriptTail e (.Slice none none (some (.UnaryOp .USub (.Constant (.int 1) k p1) p2)) p3) (.ref a) (.ref s4.heap.objs.size)) (EP X pins σ Q) X.xe { s4 with heap := s4.heap.push { cls := .type "slice", data := .fields #[vl, vu, vs] } }
  rcases q with ⟨hx, q⟩ | ⟨hx, q⟩
  · obtain ⟨its, r, ht, hz⟩ := I5.list hx
    have hlen := r.length
    refine tail_any (ops := [.ref a, .ref s4.heap.objs.size]) ht.isList.typeIs (PySem.slot_list_getitem.lookup) ?_ (by with_unfolding_all rfl)
    refine wpAny_getItem_list_slice ht.isList (Heap.IsSliceOf.new _ vl vu vs) pl pu ps (by decide) ?_ (by rw [List.size_toArray]; omega)
    rw [PySem.W.krv_pick]
    refine ⟨.ref _, _, I5.laid (t' := s4.toks) (o := .lst xs.reverse) (fun b ob q => Heap.get?_push_of_some _ q) (Nat.le_refl _) ?_, rfl, q _ (I5.hok.fresh (Nat.le_refl _))⟩
    exact ⟨by rw [List.length_reverse]; exact hz, _, 0, r.reverse, Heap.get?_push_size _ rfl⟩
  · obtain ⟨its, r, ht, hz⟩ := I5.tuple hx
    have hlen := r.length
    cases pl
    cases pu
    cases ps with
    | int i tk =>
      refine tail_any (ops := [.ref a, .ref s4.heap.objs.size]) ht.typeIs PyProof.Rows.slot_tuple_getitem.lookup ?_ (by with_unfolding_all rfl)
      refine HT.getItem_tuple_rev ht (Heap.IsSliceOf.new _ _ _ _) ?_ (by rw [List.size_toArray]; omega)
      refine ⟨.ref _, _, I5.laid (t' := s4.toks) (o := .tup xs.reverse) (fun b ob q => Heap.get?_push_of_some _ q) (Nat.le_refl _) ?_, rfl, q _ (I5.hok.fresh (Nat.le_refl _))⟩
      exact ⟨by rw [List.length_reverse]; exact hz, _, r.reverse, IsTup.new _ _⟩
end
end L2
namespace Wk
open PySem PySem.Spec PyProof.Rows L2
variable {ex : ExV} {E : XK} {X : Cx}
theorem de_ix {a b : Expr} {pos : Pos} {ma mb : Env → M D} (ha : PE X a (tE X.K ex E ma (qB X.K))) (hb : PE X b (tE X.K ex E mb (qB X.K))) (hs : PlainIx b) :
    PE X (.Subscript a b pos) (tE X.K ex E (fun env => bnd (ma env) fun x => bnd (mb env) fun y => ixD x y) (qD X.K)) := by
  obtain ⟨r, ho, hr⟩ := (o_ix : OpI X ex E)
  exact PE.imp (pe_ix ho.sz ha hb hs) fun σ H Q h => rd_two (Rep := qD X.K) hr h
/-! ### slices -/
abbrev qO : Option Addr → Hp → Hp → Hp → Option Int → Option Int → Prop := fun _ _ _ _ a b => a = b
theorem PO.imp {e : Option Expr} {t t' : TO} (h : PO X e t) (i : ∀ σ H Q, t' σ H Q → t σ H Q) : PO X e t' := ⟨fun pins s σ H Q I q => h.run pins s σ H Q I (i σ H Q q)⟩
/-- a part of a slice -/
theorem do_no : PO X none (tE X.K ex E (fun _ => ret none) qO) :=
  PO.imp po_none fun σ H Q h => by
    obtain ⟨F, sa, H0, L, env, s, R, c⟩ := h
    exact c none F H (Ext.refl R.sub R.src) rfl
theorem do_at {e : Expr} {m : Env → M D} (h : PE X e (tE X.K ex E m (qB X.K))) : PO X (some e) (tE X.K ex E (fun env => bnd (m env) partD) qO) :=
  PO.imp (po_some h) fun σ H Q h => by
    obtain ⟨F, sa, H0, L, env, s, R, c⟩ := h
    refine ⟨F, sa, H0, L, env, s, R, c.bnd fun x F1 H1 s1 d x1 b1 c1 => ?_⟩
    cases d <;> try exact (Cn.no c1).elim
    cases Bp.int b1
    exact ⟨_, rfl, c1 _ F1 H1 (Ext.refl x1.sub x1.srcOk) rfl⟩
theorem de_sl {a : Expr} {lo hi : Option Expr} {p2 pos : Pos} {ma : Env → M D} {ml mh : Env → M (Option Int)} (ha : PE X a (tE X.K ex E ma (qB X.K))) (hl : PO X lo (tE X.K ex E ml qO)) (hh : PO X hi (tE X.K ex E mh qO)) :
    PE X (.Subscript a (.Slice lo hi none p2) pos) (tE X.K ex E (fun env => bnd (ma env) fun x => bnd (ml env) fun l => bnd (mh env) fun h => slD x l h) (qD X.K)) := by
  obtain ⟨r, ho, hr⟩ := (o_sl : OpS X ex E)
  refine PE.imp (pe_slice ho.sz ha hl hh) fun σ H Q h => ?_
  obtain ⟨F, sa, H0, L, env, s, R, c⟩ := h
  refine ⟨F, sa, H0, L, env, s, R, c.bnd fun x F1 H1 s1 d x1 b1 c1 => ?_⟩
  refine ⟨F1, sa, H0, L, env, s1, R.ext x1, c1.bnd fun l F2 H2 s2 l' x2 e2 c2 => ?_⟩
  have e2 : l = l' := e2
  subst e2
  refine ⟨F2, sa, H0, L, env, s2, (R.ext x1).ext x2, c2.bnd fun u F3 H3 s3 u' x3 e3 c3 => fun z => ?_⟩
  have e3 : u = u' := e3
  subst e3
  exact hr sa H F3 H3 s3 x l u d Q ⟨x3.sub, x3.srcOk, fun p hp => x1.none R.sub (x2.none x1.sub (x3.none x2.sub hp)), z⟩ (Bp.ext x3 (Bp.ext x2 b1)) c3
theorem de_rev {e : Expr} {k : Nat} {p1 p2 p3 pos : Pos} {m : Env → M D} (h : PE X e (tE X.K ex E m (qB X.K))) : PE X (.Subscript e (.Slice none none (some (.UnaryOp .USub (.Constant (.int 1) k p1) p2)) p3) pos) (tE X.K ex E (fun env => bnd (m env) fun x => revD x) (qD X.K)) := by
  refine PE.imp (pe_revA h) fun σ H Q hh => ?_
  obtain ⟨F, sa, H0, L, env, s, R, c⟩ := hh
  refine ⟨F, sa, H0, L, env, s, R, c.bnd fun x F1 H1 s1 d x1 b1 c1 => ?_⟩
  cases d <;> try exact (Cn.no c1).elim
  · obtain ⟨a, vs, rfl, q1, t1⟩ := Bp.seqL x1.sub b1
    exact ⟨a, vs, rfl, .inl ⟨q1, fun p hp => Cn.newLD c1 x1.sub x1.srcOk t1.reverse hp⟩⟩
  · obtain ⟨a, vs, rfl, q1, t1⟩ := Bp.seqT x1.sub b1
    exact ⟨a, vs, rfl, .inr ⟨q1, fun p hp => Cn.newT c1 x1.sub x1.srcOk t1.reverse hp⟩⟩
/-! ### arguments -/
def notStar : Expr → Bool
  | .Starred _ _ => false
  | _ => true
def notStars : List Expr → Bool
  | [] => true
  | e :: es => notStar e && notStars es
theorem star_cons {e : Expr} {es : List Expr} {env : PySem.Env} (h : notStar e = true) : starEach (e :: es) env = (false, eval e env) :: starEach es env := by
  cases e <;> first | rfl | cases h
theorem star_any {env : PySem.Env} {pos : Pos} : ∀ {es : List Expr}, notStars es = true → (backTo pos (starEach es env)).any (·.1) = false
  | [], _ => rfl
  | e :: es, h => by
    unfold notStars at h
    rw [Bool.and_eq_true] at h
    rw [star_cons h.1]
    exact star_any h.2
/-! ### built-in functions -/
theorem ca_one {a : Expr} {r : List V → Hp → VK → Prop} {f : Value} {g : D → M D} {Rep : Option Addr → Hp → Hp → Hp → V → D → Prop} {ma : Env → M D} {σ : St} {H : Hp} {Q : VK}
    (hr : ∀ (sa : Option Addr) (Hs F H : Hp) (s : SV) (x : V) (d : D) (Q : VK), Stt X.K sa Hs F H s → Bp X.K sa F H x d → Cn ex E sa F H s (g d s) (Rep sa Hs) Q → r [x] H Q)
    (h : tE X.K ex E (fun env => bnd (ma env) fun x => g x) Rep σ H Q) : tCB (fun xs H Q => Sz X.K H → r xs H Q) (tE X.K ex E (fun env => bnd (ma env) fun x => ret [x]) (fun sa _ F H vs ds => ∃ x d, vs = [x] ∧ ds = [d] ∧ Bp X.K sa F H x d)) σ H Q := by
  obtain ⟨F, sa, H0, L, env, s, R, c⟩ := h
  refine ⟨F, sa, H0, L, env, s, R, ?_⟩
  have key := c.bnd (Rm := RB X.K sa) (Q1 := fun x H1 => Sz X.K H1 → r [x] H1 Q) fun x F1 H1 s1 d x1 b1 c1 z => hr sa H F1 H1 s1 x d Q ⟨x1.sub, x1.srcOk, fun p hp => x1.none R.sub hp, z⟩ b1 c1
  show Cn ex E sa F H s ((bnd (ma env) fun x => ret [x]) s) _ _
  unfold bnd
  cases e : ma env s with
  | ok d s' =>
    rw [e] at key
    rintro vs F1 H1 x1 ⟨x, d', rfl, e2, b⟩
    cases e2
    exact key x F1 H1 x1 b
  | er e' s' =>
    rw [e] at key
    exact key
  | no =>
    rw [e] at key
    exact key
theorem de_b1B {x : Str} {id : String} {a : Expr} {p pos : Pos} {g : D → M D} {Rep : Option Addr → Hp → Hp → Hp → V → D → Prop} {ma : Env → M D} (o : Op1 X ex E (.builtin id) g Rep) (hg : Gl X x) (hm : X.mg x = none) (hv : bootBuiltins x = some (.builtin id)) (ha : PE X a (tE X.K ex E ma (qB X.K)))
    (hst : notStar a = true) (hn : x ≠ "__name__") (hdb : (x == ("__debug__" : Str)) = false) : PE X (.Call (.Name x p) [a] [] pos) (tE X.K ex E (fun env => bnd (ma env) fun x => g x) Rep) := by
  obtain ⟨r, hc, hr⟩ := o
  exact PE.imp (pe_callB hc.sz hg hm hv (da_one ha (star_cons hst)) hn hdb (star_cons hst)) fun σ H Q h => ca_one (f := .builtin id) (a := a) hr h
theorem de_b1T {x : Str} {id : String} {a : Expr} {p pos : Pos} {g : D → M D} {Rep : Option Addr → Hp → Hp → Hp → V → D → Prop} {ma : Env → M D} (o : Op1 X ex E (.type id) g Rep) (hg : Gl X x) (hm : X.mg x = none) (hv : bootBuiltins x = some (.type id)) (ha : PE X a (tE X.K ex E ma (qB X.K)))
    (hst : notStar a = true) (hn : x ≠ "__name__") (hdb : (x == ("__debug__" : Str)) = false) : PE X (.Call (.Name x p) [a] [] pos) (tE X.K ex E (fun env => bnd (ma env) fun x => g x) Rep) := by
  obtain ⟨r, hc, hr⟩ := o
  exact PE.imp (pe_callTy hc.sz hg hm hv (da_one ha (star_cons hst)) hn hdb (star_cons hst)) fun σ H Q h => ca_one (f := .type id) (a := a) hr h
theorem call_str_bl : CallR X (.type "str") (fun xs H Q => ∃ k, xs = [.bl k] ∧ Q (.str (if k = true then "True" else "False")) H) := by
  intro pins s σ H xs us Q I r h
  obtain ⟨k, rfl, q⟩ := h
  obtain ⟨u, rfl, r2⟩ := vals1 r
  cases (show u = Value.bool k from r2)
  refine PySem.P.str_of_bool ?_
  exact ⟨.str (if k = true then "True" else "False"), H, I.tok _, ⟨_, rfl⟩, q⟩
theorem u_str : Op1 X ex E (.type "str") strD (qD X.K) := by
  refine ⟨_, call_str_bl.or (call_str_int.or SkE.call_str_str), ?_⟩
  intro sa Hs F H s x d Q t bx c
  cases d <;> try exact (Cn.no c).elim
  · cases bx.bl
    exact .inl ⟨_, rfl, c.value t.sub t.src (.str _)⟩
  · cases bx.int
    obtain ⟨h, c⟩ := c.iteP
    exact .inr (.inl ⟨_, rfl, h, c.value t.sub t.src (.str _)⟩)
  · cases bx.str
    exact .inr (.inr ⟨_, rfl, c.value t.sub t.src (.str _)⟩)
/-- arguments that are data -/
theorem de_bL {x : Str} {id : String} {r : List V → Hp → VK → Prop} {g : List D → M D} {e : Expr} {es : List Expr} {p pos : Pos} {ms : Env → M (List D)} (hc : CallR X (.builtin id) r)
    (hr : ∀ (sa : Option Addr) (F H : Hp) (s : SV) (vs : List V) (ds : List D) (Q : VK), Same F H → SrcOk sa F H s → DpAll X.K F vs ds → Cn ex E sa F H s (g ds s) (RD X.K) Q → r vs H Q)
    (hg : Gl X x) (hm : X.mg x = none) (hv : bootBuiltins x = some (.builtin id)) (ha : PA X (e :: es) (tE X.K ex E ms (qL X.K))) (hst : notStars (e :: es) = true) (hn : x ≠ "__name__") (hdb : (x == ("__debug__" : Str)) = false) :
    PE X (.Call (.Name x p) (e :: es) [] pos) (tE X.K ex E (fun env => bnd (ms env) fun ds => g ds) (qD X.K)) := by
  simp only [notStars, Bool.and_eq_true] at hst
  refine PE.imp (pe_callB hc hg hm hv ha hn hdb (star_cons hst.1) (star_any hst.2)) fun σ H Q h => ?_
  obtain ⟨F, sa, H0, L, env, s, R, c⟩ := h
  exact ⟨F, sa, H0, L, env, s, R, c.bnd fun vs F1 H1 s1 ds x1 t c1 => hr sa F1 H1 s1 vs ds Q x1.sub x1.srcOk t c1⟩
def gMax2 : List D → M D
  | [x, y] => max2D x y
  | _ => stuck
def gMin2 : List D → M D
  | [x, y] => min2D x y
  | _ => stuck
def gMax3 : List D → M D
  | [x, y, z] => max3D x y z
  | _ => stuck
theorem two_ints {K : PySem.W.Frag} {F : Hp} {vs : List V} {i j : Int} (t : DpAll K F vs [.int i, .int j]) : vs = [.int i, .int j] := DpAll.ints (ns := [i, j]) t rfl
theorem r_max2 {sa : Option Addr} {F H : Hp} {s : SV} {vs : List V} {ds : List D} {Q : VK} (hs : Same F H) (h : SrcOk sa F H s) (t : DpAll X.K F vs ds) (c : Cn ex E sa F H s (gMax2 ds s) (RD X.K) Q) : ∃ i j, vs = [.int i, .int j] ∧ Q (.int (if j > i then j else i)) H := by
  unfold gMax2 at c
  split at c
  · rename_i d e
    cases d <;> cases e <;> try exact (Cn.no c).elim
    refine ⟨_, _, two_ints t, ?_⟩
    rw [max2_if]
    exact Cn.value (d := .int _) c hs h (.int _)
  · exact (Cn.no c).elim
theorem r_min2 {sa : Option Addr} {F H : Hp} {s : SV} {vs : List V} {ds : List D} {Q : VK} (hs : Same F H) (h : SrcOk sa F H s) (t : DpAll X.K F vs ds) (c : Cn ex E sa F H s (gMin2 ds s) (RD X.K) Q) : ∃ i j, vs = [.int i, .int j] ∧ Q (.int (if j < i then j else i)) H := by
  unfold gMin2 at c
  split at c
  · rename_i d e
    cases d <;> cases e <;> try exact (Cn.no c).elim
    refine ⟨_, _, two_ints t, ?_⟩
    rw [min2_if]
    exact Cn.value (d := .int _) c hs h (.int _)
  · exact (Cn.no c).elim
theorem r_max3 {sa : Option Addr} {F H : Hp} {s : SV} {vs : List V} {ds : List D} {Q : VK} (hs : Same F H) (h : SrcOk sa F H s) (t : DpAll X.K F vs ds) (c : Cn ex E sa F H s (gMax3 ds s) (RD X.K) Q) : ∃ i j k, vs = [.int i, .int j, .int k] ∧ Q (.int (max (max i j) k)) H := by
  unfold gMax3 at c
  split at c
  · rename_i d e f
    cases d <;> cases e <;> cases f <;> try exact (Cn.no c).elim
    rename_i i j k
    exact ⟨i, j, k, DpAll.ints (ns := [i, j, k]) t rfl, Cn.value (d := .int _) c hs h (.int _)⟩
  · exact (Cn.no c).elim
/-! ### isinstance -/
def gIsi (t : Ty) : D → M D := fun d => ret (bl (tyIs d t))
theorem pe_tyN {t : Ty} {p : Pos} (hg : Gl X (Str.ofString (nmTy t))) (hm : X.mg (Str.ofString (nmTy t)) = none) : PE X (.Name (Str.ofString (nmTy t)) p) (tC (.ty (nmTy t))) := by
  cases t <;> exact pe_bltn hg hm (by decide +kernel) rfl (by decide) (by decide)
theorem de_isi {a : Expr} {t : Ty} {p p2 pos : Pos} {ma : Env → M D} (hg : Gl X "isinstance") (hm : X.mg "isinstance" = none) (hgt : Gl X (Str.ofString (nmTy t))) (hmt : X.mg (Str.ofString (nmTy t)) = none) (ha : PE X a (tE X.K ex E ma (qB X.K))) (hst : notStar a = true) :
    PE X (.Call (.Name "isinstance" p) [a, .Name (Str.ofString (nmTy t)) p2] [] pos) (tE X.K ex E (fun env => bnd (ma env) fun x => ret (bl (tyIs x t))) (qD X.K)) := by
  refine PE.imp (pe_callB call_isi hg hm boot_isinstance (pa_cons ha (pa_cons (pe_tyN hgt hmt) pa_nil rfl) (star_cons hst)) (by decide) (by decide) (star_cons hst) (star_any rfl)) fun σ H Q h => ?_
  obtain ⟨F, sa, H0, L, env, s, R, c⟩ := h
  refine ⟨F, sa, H0, L, env, s, R, c.bnd fun x F1 H1 s1 d x1 b1 c1 => ?_⟩
  exact ⟨x, .ty (nmTy t), .type (nmD d), .type (nmTy t), _, rfl, .ty _, Bp.tyx x1.sub b1, kit_ty (kit_d d t), c1.value x1.sub x1.srcOk (.bl _)⟩
theorem de_isi2 {a : Expr} {t u : Ty} {k : Nat} {p p2 p3 p4 pos : Pos} {ma : Env → M D} (hg : Gl X "isinstance") (hm : X.mg "isinstance" = none) (hgt : Gl X (Str.ofString (nmTy t))) (hmt : X.mg (Str.ofString (nmTy t)) = none) (hgu : Gl X (Str.ofString (nmTy u))) (hmu : X.mg (Str.ofString (nmTy u)) = none) (ha : PE X a (tE X.K ex E ma (qB X.K))) (hst : notStar a = true) :
    PE X (.Call (.Name "isinstance" p) [a, .Tuple [.Name (Str.ofString (nmTy t)) p2, .Name (Str.ofString (nmTy u)) p3] k p4] [] pos) (tE X.K ex E (fun env => bnd (ma env) fun x => ret (bl (tyIs x t || tyIs x u))) (qD X.K)) := by
  refine PE.imp (pe_callB call_isiT hg hm boot_isinstance (pa_cons ha (pa_cons (pe_tup (pa_cons (pe_tyN hgt hmt) (pa_cons (pe_tyN hgu hmu) pa_nil rfl) rfl)) pa_nil rfl) (star_cons hst)) (by decide) (by decide) (star_cons hst) (star_any rfl)) fun σ H Q h => ?_
  obtain ⟨F, sa, H0, L, env, s, R, c⟩ := h
  refine ⟨F, sa, H0, L, env, s, R, c.bnd fun x F1 H1 s1 d x1 b1 c1 => ?_⟩
  refine ⟨by rw [sizeLine_eq]; exact Nat.le_of_ble_eq_true rfl, fun pp hp => ⟨x, pp, [.ty (nmTy t), .ty (nmTy u)], .type (nmD d), [.type (nmTy t), .type (nmTy u)], (tyIs d t || tyIs d u), rfl, upd_same, .cons (.ty _) (.cons (.ty _) .nil), ?_, ?_, ?_⟩⟩
  · exact Bp.tyx (F := F1) (Ext.newO x1.sub x1.srcOk hp).sub (Bp.ext (Ext.newO x1.sub x1.srcOk hp) b1)
  · refine kitAny_cons (kit_ty (kit_d d t)) (fun h1 => ?_) (fun h1 => by rw [h1]; rfl)
    rw [h1, Bool.false_or]
    refine kitAny_cons (kit_ty (kit_d d u)) (fun h2 => ?_) (fun h2 => h2)
    rw [h2]
    exact kitAny_nil
  · exact c1 _ _ _ (Ext.newO x1.sub x1.srcOk hp) (.bl _)
/-! ### and, or, a < b < c -/
theorem PW.imp {e : Expr} {t t' : TT} (h : PW X e t) (i : ∀ σ H Q, t' σ H Q → t σ H Q) : PW X e t' := ⟨fun w pins s σ H Q I q => h.run w pins s σ H Q I (i σ H Q q)⟩
abbrev mT (m : Env → M D) : Env → M Bool := fun env => bnd (m env) tst
theorem de_and {a b : Expr} {rest : List Expr} {pos : Pos} {ma mb : Env → M D} (ha : PE X a (tE X.K ex E ma (qB X.K))) (hb : PE X (.BoolOp .And (b :: rest) pos) (tE X.K ex E mb (qD X.K))) :
    PE X (.BoolOp .And (a :: b :: rest) pos) (tE X.K ex E (fun env => bnd (ma env) fun x => bnd (tst x) fun k => if k = true then mb env else ret (bl false)) (qD X.K)) := by
  refine PE.imp (pe_and ha hb) fun σ H Q h => ?_
  obtain ⟨F, sa, H0, L, env, s, R, c⟩ := h
  refine ⟨F, sa, H0, L, env, s, R, c.bnd fun x F1 H1 s1 d x1 b1 c1 => ?_⟩
  cases d <;> try exact (Cn.no c1).elim
  rename_i k
  cases Bp.bl b1
  refine ⟨k, rfl, ?_⟩
  cases k with
  | true => exact ⟨F1, sa, H0, L, env, s1, R.ext x1, c1⟩
  | false => exact Cn.value (d := .bool false) c1 x1.sub x1.srcOk (.bl _)
theorem de_or {a b : Expr} {rest : List Expr} {pos : Pos} {ma mb : Env → M D} (ha : PE X a (tE X.K ex E ma (qB X.K))) (hb : PE X (.BoolOp .Or (b :: rest) pos) (tE X.K ex E mb (qD X.K))) :
    PE X (.BoolOp .Or (a :: b :: rest) pos) (tE X.K ex E (fun env => bnd (ma env) fun x => bnd (tst x) fun k => if k = true then ret (bl true) else mb env) (qD X.K)) := by
  refine PE.imp (pe_or ha hb) fun σ H Q h => ?_
  obtain ⟨F, sa, H0, L, env, s, R, c⟩ := h
  refine ⟨F, sa, H0, L, env, s, R, c.bnd fun x F1 H1 s1 d x1 b1 c1 => ?_⟩
  cases d <;> try exact (Cn.no c1).elim
  rename_i k
  cases Bp.bl b1
  refine ⟨k, rfl, ?_⟩
  cases k with
  | true => exact Cn.value (d := .bool true) c1 x1.sub x1.srcOk (.bl _)
  | false => exact ⟨F1, sa, H0, L, env, s1, R.ext x1, c1⟩
theorem dw_and {a b : Expr} {rest : List Expr} {pos : Pos} {ma mb : Env → M D} (ha : PT X a (tE X.K ex E (mT ma) qT)) (hb : PW X (.BoolOp .And (b :: rest) pos) (tE X.K ex E (mT mb) qT)) :
    PW X (.BoolOp .And (a :: b :: rest) pos) (tE X.K ex E (mT fun env => bnd (ma env) fun x => bnd (tst x) fun k => if k = true then mb env else ret (bl false)) qT) := by
  refine PW.imp (pw_and ha hb) fun σ H Q h => ?_
  obtain ⟨F, sa, H0, L, env, s, R, c⟩ := h
  refine ⟨F, sa, H0, L, env, s, R, ?_⟩
  have c' : Cn ex E sa F H s ((bnd (bnd (ma env) tst) fun k => if k = true then bnd (mb env) tst else ret false) s) (qT sa H) Q := by
    have e : (bnd (bnd (ma env) fun x => bnd (tst x) fun k => if k = true then mb env else ret (bl false)) tst) = bnd (bnd (ma env) tst) fun k => if k = true then bnd (mb env) tst else ret false := by
      rw [bnd_assoc, bnd_assoc]
      congr
      funext x
      rw [bnd_assoc]
      congr
      funext k
      cases k <;> rfl
    rw [← e]
    exact c
  exact c'.bnd fun b F1 H1 s1 k x1 e1 c1 => by
    have e1 : b = k := e1
    subst e1
    cases b with
    | true => exact ⟨F1, sa, H0, L, env, s1, R.ext x1, c1⟩
    | false => exact c1 _ F1 H1 (Ext.refl x1.sub x1.srcOk) rfl
theorem dw_or {a b : Expr} {rest : List Expr} {pos : Pos} {ma mb : Env → M D} (ha : PT X a (tE X.K ex E (mT ma) qT)) (hb : PW X (.BoolOp .Or (b :: rest) pos) (tE X.K ex E (mT mb) qT)) :
    PW X (.BoolOp .Or (a :: b :: rest) pos) (tE X.K ex E (mT fun env => bnd (ma env) fun x => bnd (tst x) fun k => if k = true then ret (bl true) else mb env) qT) := by
  refine PW.imp (pw_or ha hb) fun σ H Q h => ?_
  obtain ⟨F, sa, H0, L, env, s, R, c⟩ := h
  refine ⟨F, sa, H0, L, env, s, R, ?_⟩
  have c' : Cn ex E sa F H s ((bnd (bnd (ma env) tst) fun k => if k = true then ret true else bnd (mb env) tst) s) (qT sa H) Q := by
    have e : (bnd (bnd (ma env) fun x => bnd (tst x) fun k => if k = true then ret (bl true) else mb env) tst) = bnd (bnd (ma env) tst) fun k => if k = true then ret true else bnd (mb env) tst := by
      rw [bnd_assoc, bnd_assoc]
      congr
      funext x
      rw [bnd_assoc]
      congr
      funext k
      cases k <;> rfl
    rw [← e]
    exact c
  exact c'.bnd fun b F1 H1 s1 k x1 e1 c1 => by
    have e1 : b = k := e1
    subst e1
    cases b with
    | true => exact c1 _ F1 H1 (Ext.refl x1.sub x1.srcOk) rfl
    | false => exact ⟨F1, sa, H0, L, env, s1, R.ext x1, c1⟩
theorem rd_chain {ma mb mc : Env → M D} {g g' : D → D → M D} {r r' : R2} {σ : St} {H : Hp} {Q : VK}
    (hr : ∀ (sa : Option Addr) (Hs F H : Hp) (s : SV) (x y : V) (d e : D) (Q : VK), Stt X.K sa Hs F H s → Bp X.K sa F H x d → Bp X.K sa F H y e → Cn ex E sa F H s (g d e s) (qD X.K sa Hs) Q → r x y H Q)
    (hr' : ∀ (sa : Option Addr) (Hs F H : Hp) (s : SV) (x y : V) (d e : D) (Q : VK), Stt X.K sa Hs F H s → Bp X.K sa F H x d → Bp X.K sa F H y e → Cn ex E sa F H s (g' d e s) (qD X.K sa Hs) Q → r' x y H Q)
    (h : tE X.K ex E (fun env => bnd (ma env) fun x => bnd (mb env) fun y => bnd (g x y) fun r => bnd (tst r) fun k => if k = true then bnd (mc env) fun z => g' y z else ret (bl false)) (qD X.K) σ H Q) :
    tChain (fun x y H Q => Sz X.K H → r x y H Q) (fun x y H Q => Sz X.K H → r' x y H Q) (tE X.K ex E ma (qB X.K)) (tE X.K ex E mb (qB X.K)) (tE X.K ex E mc (qB X.K)) σ H Q := by
  obtain ⟨F, sa, H0, L, env, s, R, c⟩ := h
  refine ⟨F, sa, H0, L, env, s, R, c.bnd fun x F1 H1 s1 d x1 b1 c1 => ?_⟩
  refine ⟨F1, sa, H0, L, env, s1, R.ext x1, c1.bnd fun y F2 H2 s2 e x2 b2 c2 => fun z => ?_⟩
  refine hr sa H F2 H2 s2 x y d e _ ⟨x2.sub, x2.srcOk, fun p hp => x1.none R.sub (x2.none x1.sub hp), z⟩ (Bp.ext x2 b1) b2 ?_
  refine c2.bnd fun w F3 H3 s3 dw x3 b3 c3 => ?_
  have b3 : Dp X.K F3 w dw := b3
  cases dw <;> try exact (Cn.no c3).elim
  rename_i k b3'
  have ew : w = .bl k := by cases b3'; rfl
  subst ew
  refine ⟨k, rfl, ?_⟩
  cases k with
  | false => exact Cn.value (d := .bool false) c3 x3.sub x3.srcOk (.bl _)
  | true =>
    have R3 := ((R.ext x1).ext x2).ext x3
    refine ⟨F3, sa, H0, L, env, s3, R3, Cn.bnd (m := mc env) c3 fun u F4 H4 s4 f x4 b4 c4 => fun z4 => ?_⟩
    exact hr' sa H F4 H4 s4 y u e f Q ⟨x4.sub, x4.srcOk, fun p hp => x1.none R.sub (x2.none x1.sub (x3.none x2.sub (x4.none x3.sub hp))), z4⟩ (Bp.ext x4 (Bp.ext x3 b2)) b4 c4
theorem de_chain {a b c : Expr} {pos : Pos} {op op' : CmpOp} {ma mb mc : Env → M D} {g g' : D → D → M D} (o : Op2 X ex E (compareOp op) g (qD X.K)) (o' : Op2 X ex E (compareOp op') g' (qD X.K)) (ha : PE X a (tE X.K ex E ma (qB X.K))) (hb : PE X b (tE X.K ex E mb (qB X.K))) (hc : PE X c (tE X.K ex E mc (qB X.K)))
    (hm : lastMarks [op, op'] [b, c] = false) : PE X (.Compare a [op, op'] [b, c] pos) (tE X.K ex E (fun env => bnd (ma env) fun x => bnd (mb env) fun y => bnd (g x y) fun r => bnd (tst r) fun k => if k = true then bnd (mc env) fun z => g' y z else ret (bl false)) (qD X.K)) := by
  obtain ⟨r, ho, hr⟩ := o
  obtain ⟨r', ho', hr'⟩ := o'
  exact PE.imp (pe_chain ho.sz ho'.sz ha hb hc hm) fun σ H Q h => rd_chain hr hr' h
theorem dt_chain {a b c : Expr} {pos : Pos} {op op' : CmpOp} {ma mb mc : Env → M D} {g g' : D → D → M D} (o : Op2 X ex E (compareOp op) g (qD X.K)) (o' : Op2 X ex E (compareOp op') g' (qD X.K)) (ha : PE X a (tE X.K ex E ma (qB X.K))) (hb : PE X b (tE X.K ex E mb (qB X.K))) (hc : PE X c (tE X.K ex E mc (qB X.K)))
    (hm : lastMarks [op, op'] [b, c] = false) : PT X (.Compare a [op, op'] [b, c] pos) (tE X.K ex E (mT fun env => bnd (ma env) fun x => bnd (mb env) fun y => bnd (g x y) fun r => bnd (tst r) fun k => if k = true then bnd (mc env) fun z => g' y z else ret (bl false)) qT) := by
  obtain ⟨r, ho, hr⟩ := o
  obtain ⟨r', ho', hr'⟩ := o'
  refine PT.imp (pt_chain ho.sz ho'.sz ha hb hc hm) fun σ H Q h => ?_
  refine rd_chain hr hr' ?_
  obtain ⟨F, sa, H0, L, env, s, R, c⟩ := h
  refine ⟨F, sa, H0, L, env, s, R, c.bnd fun x F1 H1 s1 d x1 b1 c1 => ?_⟩
  obtain ⟨k, e1, _, q⟩ := tst_cn (X := X) c1 x1.sub x1.srcOk (.inl b1)
  exact ⟨k, e1, q⟩
end Wk
set_option maxRecDepth 100000
set_option maxHeartbeats 4000000
/-! WB8: calls, targets, walks, comprehensions -/
namespace Wk
open PySem PySem.Spec PyProof.Rows L2
variable {ex : ExV} {E : XK} {X : Cx}
/-! ### calls -/
theorem Ext.frame {sa : Option Addr} {F H F' H' : Hp} {s s' : SV} (hs : Same F H) (h : SrcOk sa F H s) (x : Ext Option.none F H sv0 F' H' s') : Ext sa F H s F' H' s := by
  refine ⟨x.ff, x.sub, fun a o e1 e2 => ?_, ?_⟩
  · obtain ⟨f, g⟩ := x.cell a o e1 e2
    exact ⟨f, fun _ => g (fun z => by cases z)⟩
  · cases sa with
    | none => rfl
    | some a =>
      obtain ⟨f, g⟩ := x.cell a _ h.2 h.1
      exact ⟨g (fun z => by cases z), f⟩
theorem Cn.pc {K : PySem.W.Frag} {sa : Option Addr} {F H : Hp} {s : SV} {m : M D} {fr : Bool} {Hs : Hp} (hn : ∀ p, H p = Option.none → Hs p = Option.none) {Q : VK} (hs : Same F H) (h : SrcOk sa F H s) (c : Cn ex E sa F H s (pcall m s) (if fr = true then RF K sa Hs else RD K) Q) : Cn ex E Option.none F H sv0 (m sv0) (if fr = true then RF K Option.none H else RD K) Q := by
  unfold pcall at c
  cases e : m sv0 with
  | no =>
    rw [e] at c
    exact c
  | er e' s' =>
    rw [e] at c
    exact fun F' H' x => c F' H' (x.frame hs h)
  | ok d s' =>
    rw [e] at c
    intro v F' H' x rp
    refine c v F' H' (x.frame hs h) ?_
    cases fr with
    | false => exact rp
    | true =>
      obtain ⟨a, vs, ds, e1, e2, h0, f', g', n, t⟩ := rp
      refine ⟨a, vs, ds, e1, e2, hn a h0, f', g', fun z => ?_, t⟩
      rw [z] at h
      have z1 := h.1
      rw [h0] at z1
      cases z1
abbrev qFr (K : PySem.W.Frag) (fr : Bool) : Option Addr → Hp → Hp → Hp → V → D → Prop := fun sa H => if fr = true then RF K sa H else RD K
theorem de_call {I : FnI} {k : Nat} {e : Expr} {es : List Expr} {p pos : Pos} {ms : Env → M (List D)} (hF : FnAt X.prog X.w X.K X.mg X.base ex k I) (hr : Room k X.A) (hx : Passes (L2.CX X.prog X.w) X E) (hg : Gl X I.name) (hd : (I.name == ("__debug__" : Str)) = false) (hsrc : I.src = false)
    (ha : PA X (e :: es) (tE X.K ex E ms (qL X.K))) (hst : notStars (e :: es) = true) (hl : ∀ env s ds s', ms env s = .ok ds s' → ds.length = I.np) :
    PE X (.Call (.Name I.name p) (e :: es) [] pos) (tE X.K ex E (fun env => bnd (ms env) fun ds => pcall (I.sem ds)) (qFr X.K I.fresh)) := by
  obtain ⟨f, fd, ps, ok, hm, hk, hb⟩ := hF.ok
  simp only [notStars, Bool.and_eq_true] at hst
  refine PE.imp (pe_call ok hr hg hm hk hb .nil hx ha hd (star_cons hst.1) (star_any hst.2)) fun σ H Q h => ?_
  obtain ⟨F, sa, H0, L, env, s, R, c⟩ := h
  refine ⟨F, sa, H0, L, env, s, R, ?_⟩
  have hl' := hl env s
  replace c : Cn ex E sa F H s ((bnd (ms env) fun ds => pcall (I.sem ds)) s) (qFr X.K I.fresh sa H) Q := c
  unfold bnd at c
  cases e1 : ms env s with
  | er e' s' =>
    rw [e1] at c
    exact c
  | no =>
    rw [e1] at c
    exact c
  | ok ds s1 =>
    rw [e1] at c
    intro vs F1 H1 x1 t
    rw [List.append_nil]
    have len : vs.length = I.np := (DpAll.length t).trans (hl' _ _ e1)
    refine ⟨len, F1, ds, none, sv0, x1.sub, trivial, ?_, ?_⟩
    · rw [hsrc]
      exact ⟨rfl, rfl, t⟩
    · exact Cn.pc (fun p hp => x1.none R.sub hp) x1.sub x1.srcOk (Cn.after x1 c)
/-- the source, as an argument -/
theorem da_src {i : Nat} {x : Str} {p : Pos} {es : List Expr} {ms : Env → M (List D)} (hN : X.N[i]? = some x) (hv : Vis X.env.scope x) (hd : (x == ("__debug__" : Str)) = false) (hcd : (x == ("__classdict__" : Str)) = false) (ha : PA X es (tE X.K ex E ms (qL X.K))) :
    PA X (.Name x p :: es) (tE X.K ex E (fun env => match env[i]? with
      | some .sr => ms env
      | _ => stuck) (fun sa _ F _ vs ds => ∃ a ws, sa = some a ∧ vs = .ref a :: ws ∧ DpAll X.K F ws ds)) := by
  refine PA.imp (pa_cons (pe_var hN hv hd hcd) ha (star_cons rfl)) fun σ H Q h => ?_
  obtain ⟨F, sa, H0, L, env, s, R, c⟩ := h
  have sl := R.slot i
  dsimp only at c
  cases e : env[i]? with
  | none =>
    rw [e] at c
    exact (Cn.no c).elim
  | some y =>
    rw [e] at c
    cases y with
    | sr =>
      obtain ⟨a, e1, e2⟩ := sl _ e
      refine ⟨.ref a, e2, F, sa, H0, L, env, s, R, ?_⟩
      dsimp only at c
      cases e3 : ms env s with
      | er e' s' =>
        rw [e3] at c
        exact c
      | no =>
        rw [e3] at c
        exact c
      | ok ds s1 =>
        rw [e3] at c
        exact fun vs F1 H1 x1 t => c _ F1 H1 x1 ⟨a, vs, e1, rfl, t⟩
    | im d => exact (Cn.no c).elim
    | un => exact (Cn.no c).elim
    | ow ds => exact (Cn.no c).elim
    | ln ds => exact (Cn.no c).elim
theorem de_callS {I : FnI} {k i : Nat} {x : Str} {es : List Expr} {p p2 pos : Pos} {ms : Env → M (List D)} (hF : FnAt X.prog X.w X.K X.mg X.base ex k I) (hr : Room k X.A) (hx : Passes (L2.CX X.prog X.w) X E) (hg : Gl X I.name) (hd : (I.name == ("__debug__" : Str)) = false) (hsrc : I.src = true)
    (hN : X.N[i]? = some x) (hv : Vis X.env.scope x) (hxd : (x == ("__debug__" : Str)) = false) (hcd : (x == ("__classdict__" : Str)) = false)
    (ha : PA X es (tE X.K ex E ms (qL X.K))) (hst : notStars es = true) (hl : ∀ env s ds s', ms env s = .ok ds s' → ds.length + 1 = I.np) :
    PE X (.Call (.Name I.name p) (.Name x p2 :: es) [] pos) (tE X.K ex E (fun env => match env[i]? with
      | some .sr => bnd (ms env) fun ds => I.sem ds
      | _ => stuck) (qFr X.K I.fresh)) := by
  obtain ⟨f, fd, ps, ok, hm, hk, hb⟩ := hF.ok
  refine PE.imp (pe_call ok hr hg hm hk hb .nil hx (da_src hN hv hxd hcd ha) hd (star_cons rfl) (star_any hst)) fun σ H Q h => ?_
  obtain ⟨F, sa, H0, L, env, s, R, c⟩ := h
  refine ⟨F, sa, H0, L, env, s, R, ?_⟩
  have hl' := hl env s
  dsimp only at c
  have e0 : env[i]? = some .sr := by
    cases e : env[i]? with
    | none =>
      rw [e] at c
      exact (Cn.no c).elim
    | some y =>
      rw [e] at c
      cases y <;> first | rfl | exact (Cn.no c).elim
  dsimp only
  rw [e0] at c ⊢
  dsimp only at c ⊢
  replace c : Cn ex E sa F H s ((bnd (ms env) fun ds => I.sem ds) s) (qFr X.K I.fresh sa H) Q := c
  unfold bnd at c
  cases e1 : ms env s with
  | er e' s' =>
    rw [e1] at c
    exact c
  | no =>
    rw [e1] at c
    exact c
  | ok ds s1 =>
    rw [e1] at c
    rintro vs F1 H1 x1 ⟨a, ws, ea, rfl, t⟩
    rw [List.append_nil]
    have len : ws.length + 1 = I.np := by
      rw [DpAll.length t]
      exact hl' _ _ e1
    refine ⟨len, F1, ds, sa, s1, x1.sub, x1.srcOk, ?_, ?_⟩
    · rw [hsrc]
      exact ⟨a, ws, ea, rfl, t⟩
    · have c1 := Cn.after x1 c
      cases hf : I.fresh with
      | false =>
        rw [hf] at c1
        exact c1
      | true =>
        rw [hf] at c1
        refine Cn.rep (fun F' H' v d rp => ?_) c1
        obtain ⟨a', vs', ds', e1, e2, h0, f', g', n, t'⟩ := rp
        exact ⟨a', vs', ds', e1, e2, x1.none R.sub h0, f', g', n, t'⟩
end Wk
set_option maxRecDepth 100000
set_option maxHeartbeats 4000000
/-! WB9: walks -/
namespace Wk
open PySem PySem.Spec PyProof.Rows L2
variable {ex : ExV} {E : XK} {X : Cx}
def BsOk (sa : Option Addr) (F H : Hp) (bs : List (Addr × List V)) : Prop := ∀ p ∈ bs, F p.1 = none ∧ H p.1 = some (.lst p.2) ∧ sa ≠ some p.1
/-- J walks ds -/
structure Wlk (K : PySem.W.Frag) (sa : Option Addr) (F : Hp) (bs : List (Addr × List V)) (J : It) (ds : List D) : Prop where
  go : ∀ i F' H', Same F F' → Same F' H' → BsOk sa F' H' bs → i < ds.length → J.go i H'
  yld : ∀ i F' H' s x H'' d, Same F F' → Same F' H' → SrcOk sa F' H' s → BsOk sa F' H' bs → J.yld i H' x H'' → ds[i]? = some d → ∃ F'', Ext sa F' H' s F'' H'' s ∧ Dp K F'' x d
  stop : ∀ F' H', Same F F' → Same F' H' → BsOk sa F' H' bs → J.stop ds.length H'
def qI (K : PySem.W.Frag) (bb : Bool) : Option Addr → Hp → Hp → Hp → It → List D → Prop := fun sa _ F H J ds => ∃ bs : List (Addr × List V), (bb = false → bs = []) ∧ BsOk sa F H bs ∧ ds.length ≤ 16777216 ∧ Wlk K sa F bs J ds
def qX (K : PySem.W.Frag) (bb : Bool) : Option Addr → Hp → Hp → Hp → V → D → Prop := fun sa _ F H v d => Bp K sa F H v d ∧ (bb = false → Dp K F v d)
theorem de_x {e : Expr} {m : Env → M D} (bb : Bool) (h1 : PE X e (tE X.K ex E m (qB X.K))) (h2 : bb = false → PE X e (tE X.K ex E m (qD X.K))) : PE X e (tE X.K ex E m (qX X.K bb)) := by
  cases bb with
  | true => exact PE.imp h1 fun σ H Q ⟨F, sa, H0, L, env, s, R, c⟩ => ⟨F, sa, H0, L, env, s, R, c.rep fun _ _ _ _ z => ⟨z, (nomatch ·)⟩⟩
  | false => exact PE.imp (h2 rfl) fun σ H Q ⟨F, sa, H0, L, env, s, R, c⟩ => ⟨F, sa, H0, L, env, s, R, c.rep fun _ _ _ _ z => ⟨.inl z, fun _ => z⟩⟩
theorem qX.ext {K : PySem.W.Frag} {bb : Bool} {sa : Option Addr} {Hs F H F' H' : Hp} {s s' : SV} {v : V} {d : D} (x : Ext sa F H s F' H' s') (h : qX K bb sa Hs F H v d) : qX K bb sa Hs F' H' v d := ⟨Bp.ext x h.1, fun e => (h.2 e).mono x.ff⟩
/-- where its items are, and stay -/
theorem items_of {K : PySem.W.Frag} {bb : Bool} {sa : Option Addr} {Hs F H : Hp} {v : V} {d : D} {ds : List D} (hs : Same F H) (h : qX K bb sa Hs F H v d) (e : seqD d = some ds) :
    ∃ k a vs bs, d = (match k with | SK.l => PyData.list ds | SK.t => .tuple ds) ∧ v = .ref a ∧ SqA k K H a vs ∧ DpAll K F vs ds ∧ (bb = false → bs = []) ∧ BsOk sa F H bs ∧ ∀ F' H', Same F F' → Same F' H' → BsOk sa F' H' bs → SqA k K H' a vs := by
  cases d <;> try cases e
  · rcases h.1 with h1 | ⟨a, vs, ds', rfl, e2, f, g, n, t⟩
    · cases h1 with
      | lst q t => exact ⟨.l, _, _, [], rfl, rfl, hs.seq q, t, fun _ => rfl, fun p hp => (nomatch hp), fun F' H' f1 f2 _ => f2.seq (f1.seq q)⟩
    · cases e2
      cases bb with
      | true => exact ⟨.l, a, vs, [(a, vs)], rfl, rfl, SqL.of g, t, (nomatch ·), fun p hp => by rw [List.mem_singleton.mp hp]; exact ⟨f, g, n⟩, fun F' H' f1 f2 b => SqL.of (b (a, vs) (by simp)).2.1⟩
      | false =>
        cases h.2 rfl with
        | lst q t => exact ⟨.l, _, _, [], rfl, rfl, hs.seq q, t, fun _ => rfl, fun p hp => (nomatch hp), fun F' H' f1 f2 _ => f2.seq (f1.seq q)⟩
  · obtain ⟨a, vs, rfl, q, t⟩ := h.1.tup
    exact ⟨.t, a, vs, [], rfl, rfl, hs.seqT q, t, fun _ => rfl, fun p hp => (nomatch hp), fun F' H' f1 f2 _ => f2.seqT (f1.seqT q)⟩
abbrev itA (k : SK) (K : PySem.W.Frag) (a : Addr) : It := match k with
  | .l => Itl K a
  | .t => Itt K a
theorem wlk_seq {K : PySem.W.Frag} {k : SK} {sa : Option Addr} {F : Hp} {bs : List (Addr × List V)} {a : Addr} {vs : List V} {ds : List D} (t : DpAll K F vs ds) (h : ∀ F' H', Same F F' → Same F' H' → BsOk sa F' H' bs → SqA k K H' a vs) : Wlk K sa F bs (itA k K a) ds where
  go := fun i F' H' f1 f2 b lt => by
    obtain ⟨x, hx⟩ : ∃ x, vs[i]? = some x := ⟨vs[i]'(by rw [t.length]; exact lt), List.getElem?_eq_getElem _⟩
    cases k with
    | l => exact ⟨vs, x, h F' H' f1 f2 b, hx⟩
    | t => exact ⟨vs, x, h F' H' f1 f2 b, hx⟩
  yld := fun i F' H' s x H'' d f1 f2 so b y hd => by
    obtain ⟨v, hv, r⟩ := t.get hd
    have key : H'' = H' ∧ vs[i]? = some x := by
      cases k with
      | l => exact ⟨y.1, y.2 _ (h F' H' f1 f2 b)⟩
      | t => exact ⟨y.1, y.2 _ (h F' H' f1 f2 b)⟩
    obtain ⟨rfl, hx⟩ := key
    rw [hv] at hx
    cases hx
    exact ⟨F', Ext.refl f2 so, r.mono f1⟩
  stop := fun F' H' f1 f2 b => by
    cases k with
    | l => exact ⟨vs, h F' H' f1 f2 b, Nat.le_of_eq t.length⟩
    | t => exact ⟨vs, h F' H' f1 f2 b, Nat.le_of_eq t.length⟩
theorem enumL_get : ∀ (ds : List D) (n i : Nat), (enumL n ds)[i]? = (ds[i]?).map fun d => PyData.tuple [.int ((n + i : Nat) : Int), d]
  | [], n, i => by simp [enumL]
  | d :: ds, n, 0 => by simp [enumL]
  | d :: ds, n, i + 1 => by
    simp only [enumL, List.getElem?_cons_succ]
    rw [enumL_get ds (n + 1) i, Nat.add_assoc, Nat.add_comm 1 i]
theorem enumL_len : ∀ (ds : List D) (n : Nat), (enumL n ds).length = ds.length
  | [], _ => rfl
  | d :: ds, n => congrArg (· + 1) (enumL_len ds (n + 1))
theorem wlk_enum {K : PySem.W.Frag} {k : SK} {sa : Option Addr} {F : Hp} {bs : List (Addr × List V)} {a : Addr} {vs : List V} {ds : List D} (t : DpAll K F vs ds) (h : ∀ F' H', Same F F' → Same F' H' → BsOk sa F' H' bs → SqA k K H' a vs) : Wlk K sa F bs (IteA k K a) (enumL 0 ds) where
  go := fun i F' H' f1 f2 b lt => by
    rw [enumL_len] at lt
    exact ⟨vs, vs[i]'(by rw [t.length]; exact lt), h F' H' f1 f2 b, List.getElem?_eq_getElem _⟩
  yld := fun i F' H' s x H'' d f1 f2 so b y hd => by
    rw [enumL_get] at hd
    obtain ⟨d', hd', rfl⟩ := Option.map_eq_some_iff.mp hd
    obtain ⟨v, hv, r⟩ := t.get hd'
    obtain ⟨T, w, rfl, hT, rfl, hw⟩ := y
    have e := hw _ (h F' H' f1 f2 b)
    rw [hv] at e
    cases e
    refine ⟨upd F' T _, Ext.new f2 so hT, .tup (SqT.of upd_same) (.cons ?_ (.cons ?_ .nil))⟩
    · rw [Nat.zero_add]
      exact .int _
    · exact (r.mono f1).mono (Ext.new f2 so hT).ff
  stop := fun F' H' f1 f2 b => ⟨vs, h F' H' f1 f2 b, by rw [enumL_len]; exact t.length⟩
theorem zip_get : ∀ (ds es : List D) (i : Nat), (List.zipWith (fun a b => PyData.tuple [a, b]) ds es)[i]? = (ds[i]?).bind fun d => (es[i]?).map fun e => PyData.tuple [d, e] := by
  intro ds es i
  rw [List.getElem?_zipWith]
  cases ds[i]? <;> cases es[i]? <;> rfl
theorem wlk_zip {K : PySem.W.Frag} {k j : SK} {sa : Option Addr} {F : Hp} {bs bs2 : List (Addr × List V)} {a b : Addr} {vs ws : List V} {ds es : List D} (t : DpAll K F vs ds) (t2 : DpAll K F ws es) (h : ∀ F' H', Same F F' → Same F' H' → BsOk sa F' H' bs → SqA k K H' a vs) (h2 : ∀ F' H', Same F F' → Same F' H' → BsOk sa F' H' bs2 → SqA j K H' b ws) :
    Wlk K sa F (bs ++ bs2) (ItzA k j K a b) (List.zipWith (fun a b => .tuple [a, b]) ds es) where
  go := fun i F' H' f1 f2 bo lt => by
    rw [List.length_zipWith] at lt
    refine ⟨vs, ws, vs[i]'(by rw [t.length]; omega), ws[i]'(by rw [t2.length]; omega), h F' H' f1 f2 fun p hp => bo p (List.mem_append_left _ hp), h2 F' H' f1 f2 fun p hp => bo p (List.mem_append_right _ hp), List.getElem?_eq_getElem _, List.getElem?_eq_getElem _⟩
  yld := fun i F' H' s x H'' d f1 f2 so bo y hd => by
    rw [zip_get] at hd
    obtain ⟨d1, hd1, hd⟩ := Option.bind_eq_some_iff.mp hd
    obtain ⟨d2, hd2, rfl⟩ := Option.map_eq_some_iff.mp hd
    obtain ⟨v1, hv1, r1⟩ := t.get hd1
    obtain ⟨v2, hv2, r2⟩ := t2.get hd2
    obtain ⟨T, w1, w2, rfl, hT, rfl, hw1, hw2⟩ := y
    have e1 := hw1 _ (h F' H' f1 f2 fun p hp => bo p (List.mem_append_left _ hp))
    have e2 := hw2 _ (h2 F' H' f1 f2 fun p hp => bo p (List.mem_append_right _ hp))
    rw [hv1] at e1
    rw [hv2] at e2
    cases e1
    cases e2
    exact ⟨upd F' T _, Ext.new f2 so hT, .tup (SqT.of upd_same) (.cons ((r1.mono f1).mono (Ext.new f2 so hT).ff) (.cons ((r2.mono f1).mono (Ext.new f2 so hT).ff) .nil))⟩
  stop := fun F' H' f1 f2 bo => ⟨vs, ws, h F' H' f1 f2 fun p hp => bo p (List.mem_append_left _ hp), h2 F' H' f1 f2 fun p hp => bo p (List.mem_append_right _ hp), by rw [List.length_zipWith, t.length, t2.length]⟩
theorem wlk_rng {K : PySem.W.Frag} {sa : Option Addr} {F : Hp} (a b : Int) : Wlk K sa F [] (Itr a (b - a).toNat) (rngL a b) where
  go := fun i F' H' f1 f2 bo lt => by
    unfold rngL at lt
    rw [List.length_map, List.length_range] at lt
    exact lt
  yld := fun i F' H' s x H'' d f1 f2 so bo y hd => by
    obtain ⟨rfl, rfl⟩ := y
    unfold rngL at hd
    rw [List.getElem?_map] at hd
    obtain ⟨j, hj, rfl⟩ := Option.map_eq_some_iff.mp hd
    have ej : j = i := by
      rw [List.getElem?_range (by
        have := (List.getElem?_eq_some_iff.mp hj).1
        rw [List.length_range] at this
        exact this)] at hj
      exact (Option.some.inj hj).symm
    subst ej
    exact ⟨F', Ext.refl f2 so, .int _⟩
  stop := fun F' H' f1 f2 bo => by
    unfold rngL
    rw [List.length_map, List.length_range]
    exact Nat.le_refl _
/-! ### readings -/
theorem PI.imp {tg it : Expr} {w w' : TI} (h : PI X tg it w) (i : ∀ σ H R, w' σ H R → w σ H R) : PI X tg it w' := ⟨fun pins s σ H R I q => h.run pins s σ H R I (i σ H R q)⟩
theorem PI.pick {ι : Type} {tg it : Expr} {w' : TI} {w : ι → TI} (h : ∀ k, PI X tg it (w k)) (i : ∀ σ H R, w' σ H R → ∃ k, w k σ H R) : PI X tg it w' := ⟨fun pins s σ H R I q => by
  obtain ⟨k, q⟩ := i σ H R q
  exact (h k).run pins s σ H R I q⟩
def tSeqA (K : PySem.W.Frag) (tl : TE) : TI := fun σ H R => tl σ H fun x H1 => ∃ k a xs, x = .ref a ∧ SqA k K H1 a xs ∧ (xs.length ≤ sizeLine → R (itA k K a) H1)
theorem pi_seqA {tg l : Expr} {tl : TE} (hl : PE X l tl) : PI X tg l (tSeqA X.K tl) := by
  refine ⟨fun pins s σ H R I h => thn (hl.run pins s σ H _ I h) fun v s1 ⟨x, H1, I1, r1, k, a, xs, e, hq, q⟩ => ?_⟩
  subst e
  cases r1
  obtain ⟨its, rv, p, hz⟩ := sqa_of I1 hq
  cases k with
  | l => exact iterA (k := .l) I1 hq (q hz)
  | t => exact iterA (k := .t) I1 hq (q hz)
theorem di_seq {tg e : Expr} {m : Env → M D} {bb : Bool} (h : PE X e (tE X.K ex E m (qX X.K bb))) : PI X tg e (tE X.K ex E (fun env => bnd (m env) seqM) (qI X.K bb)) := by
  refine PI.imp (pi_seqA h) fun σ H R hh => ?_
  obtain ⟨F, sa, H0, L, env, s, Rl, c⟩ := hh
  refine ⟨F, sa, H0, L, env, s, Rl, c.bnd fun x F1 H1 s1 d x1 b1 c1 => ?_⟩
  unfold seqM at c1
  cases e1 : seqD d with
  | none =>
    rw [e1] at c1
    exact (Cn.no c1).elim
  | some ds =>
    rw [e1] at c1
    obtain ⟨k, a, vs, bs, _, rfl, q, t, h1, h2, h3⟩ := items_of x1.sub b1 e1
    refine ⟨k, a, vs, rfl, q, fun len => ?_⟩
    rw [sizeLine_eq, t.length] at len
    exact c1 _ F1 H1 (Ext.refl x1.sub x1.srcOk) ⟨bs, h1, h2, len, wlk_seq t h3⟩
/-- one argument -/
theorem da_1 {e : Expr} {m : Env → M D} {R1 : Option Addr → Hp → Hp → Hp → V → D → Prop} (h : PE X e (tE X.K ex E m R1)) (hst : starEach [e] X.env = (false, eval e X.env) :: starEach [] X.env) :
    PA X [e] (tE X.K ex E m (fun sa Hs F H vs d => ∃ x, vs = [x] ∧ R1 sa Hs F H x d)) := by
  refine PA.imp (pa_cons h pa_nil hst) fun σ H Q hh => ?_
  obtain ⟨F, sa, H0, L, env, s, R, c⟩ := hh
  refine ⟨F, sa, H0, L, env, s, R, ?_⟩
  cases e1 : m env s with
  | er e' s' =>
    rw [e1] at c
    exact c
  | no =>
    rw [e1] at c
    exact c
  | ok d s1 =>
    rw [e1] at c
    exact fun v F1 H1 x1 b1 => c _ F1 H1 x1 ⟨v, rfl, b1⟩
/-- the length of a walked thing -/
theorem PA.sz {es : List Expr} {t : TA} (h : PA X es t) : PA X es (fun σ H Q => t σ H fun vs H1 => Sz X.K H1 → Q vs H1) := ⟨fun pos pins s σ H Q I q => thn (h.run pos pins s σ H _ I q) fun us s1 ⟨vs, H1, I1, r1, q1⟩ => ⟨vs, H1, I1, r1, q1 (Inv.szs I1)⟩⟩
theorem len_of {K : PySem.W.Frag} {H : Hp} {k : SK} {a : Addr} {vs : List V} (z : Sz K H) (h : SqA k K H a vs) : vs.length ≤ 16777216 := by
  cases k with
  | l => exact z a vs (.inl h)
  | t => exact z a vs (.inr h)
def SK.of : D → SK
  | .tuple _ => .t
  | _ => .l
theorem SK.of_eq {k : SK} {d : D} {ds : List D} (e : d = (match k with | SK.l => PyData.list ds | SK.t => .tuple ds)) : SK.of d = k := by
  subst e
  cases k <;> rfl
theorem di_enum {elts : List Expr} {kk : Nat} {tpos : Pos} {e : Expr} {p pos : Pos} {m : Env → M D} {bb : Bool} (hg : Gl X "enumerate") (hm : X.mg "enumerate" = none) (h : PE X e (tE X.K ex E m (qX X.K bb))) (hst : notStar e = true) :
    PI X (.Tuple elts kk tpos) (.Call (.Name "enumerate" p) [e] [] pos) (tE X.K ex E (fun env => bnd (m env) enumD) (qI X.K bb)) := by
  refine PI.pick (fun k => pi_enumA k hg hm (PA.sz (da_1 h (star_cons hst))) (star_cons hst)) fun σ H R hh => ?_
  obtain ⟨F, sa, H0, L, env, s, Rl, c⟩ := hh
  cases e0 : m env s with
  | no =>
    unfold bnd at c
    dsimp only at c
    rw [e0] at c
    exact c.elim
  | er e' s' =>
    unfold bnd at c
    dsimp only at c
    rw [e0] at c
    refine ⟨.l, F, sa, H0, L, env, s, Rl, ?_⟩
    rw [e0]
    exact c
  | ok d s' =>
    unfold bnd at c
    dsimp only at c
    rw [e0] at c
    dsimp only at c
    refine ⟨SK.of d, F, sa, H0, L, env, s, Rl, ?_⟩
    rw [e0]
    rintro vs F1 H1 x1 ⟨x, rfl, b1⟩ sz
    have c1 := Cn.after x1 c
    unfold enumD at c1
    cases e1 : seqD d with
    | none =>
      rw [e1] at c1
      exact (Cn.no c1).elim
    | some ds =>
      rw [e1] at c1
      obtain ⟨k, a, vs, bs, ed, rfl, q, t, h1, h2, h3⟩ := items_of x1.sub b1 e1
      have ek := SK.of_eq ed
      rw [ek]
      refine ⟨a, vs, rfl, q, c1 _ F1 H1 (Ext.refl x1.sub x1.srcOk) ⟨bs, h1, h2, ?_, wlk_enum t h3⟩⟩
      rw [enumL_len, ← t.length]
      exact len_of sz q
theorem da_2 {e f : Expr} {m m2 : Env → M D} {R1 R2 : Option Addr → Hp → Hp → Hp → V → D → Prop} (hR : ∀ (sa : Option Addr) (Hs Ht F H F' H' : Hp) (s s' : SV) (v : V) (d : D), Ext sa F H s F' H' s' → R1 sa Hs F H v d → R1 sa Ht F' H' v d) (h : PE X e (tE X.K ex E m R1)) (h2 : PE X f (tE X.K ex E m2 R2)) (hst : notStars [e, f] = true) :
    PA X [e, f] (tE X.K ex E (fun env => bnd (m env) fun x => bnd (m2 env) fun y => ret (x, y)) (fun sa Hs F H vs d => ∃ x y Ht, vs = [x, y] ∧ R1 sa Hs F H x d.1 ∧ R2 sa Ht F H y d.2)) := by
  simp only [notStars, Bool.and_true, Bool.and_eq_true] at hst
  refine PA.imp (pa_cons h (da_1 h2 (star_cons hst.2)) (star_cons hst.1)) fun σ H Q hh => ?_
  obtain ⟨F, sa, H0, L, env, s, R, c⟩ := hh
  refine ⟨F, sa, H0, L, env, s, R, c.bnd fun x F1 H1 s1 d x1 b1 c1 => ?_⟩
  refine ⟨F1, sa, H0, L, env, s1, R.ext x1, c1.bnd fun vs F2 H2 s2 d2 x2 b2 c2 => ?_⟩
  obtain ⟨y, rfl, b2⟩ := b2
  exact c2 _ F2 H2 (Ext.refl x2.sub x2.srcOk) ⟨x, y, H1, rfl, hR _ _ _ _ _ _ _ _ _ _ _ x2 b1, b2⟩
theorem di_zip {elts : List Expr} {kk : Nat} {tpos : Pos} {e f : Expr} {p pos : Pos} {m m2 : Env → M D} {bb : Bool} (hg : Gl X "zip") (hm : X.mg "zip" = none) (h : PE X e (tE X.K ex E m (qX X.K bb))) (h2 : PE X f (tE X.K ex E m2 (qX X.K bb))) (hst : notStars [e, f] = true) :
    PI X (.Tuple elts kk tpos) (.Call (.Name "zip" p) [e, f] [] pos) (tE X.K ex E (fun env => bnd (m env) fun x => bnd (m2 env) fun y => zipD x y) (qI X.K bb)) := by
  have hst' := hst
  simp only [notStars, Bool.and_true, Bool.and_eq_true] at hst'
  refine PI.pick (ι := SK × SK) (fun k => pi_zipM k.1 k.2 hg hm (PA.sz (da_2 (R1 := qX X.K bb) (fun _ _ _ _ _ _ _ _ _ _ _ x b => ⟨Bp.ext x b.1, fun e => (b.2 e).mono x.ff⟩) h h2 hst)) (star_cons hst'.1) (star_any (by simp [notStars, hst'.2]))) fun σ H R hh => ?_
  obtain ⟨F, sa, H0, L, env, s, Rl, c⟩ := hh
  have c' : Cn ex E sa F H s ((bnd (bnd (m env) fun x => bnd (m2 env) fun y => ret (x, y)) fun q => zipD q.1 q.2) s) (qI X.K bb sa H) R := by
    rw [bnd_assoc]
    have e : (fun x => bnd (bnd (m2 env) fun y => ret (x, y)) fun q => zipD q.1 q.2) = fun x => bnd (m2 env) fun y => zipD x y := by
      funext x
      rw [bnd_assoc]
      rfl
    rw [e]
    exact c
  clear c
  cases e0 : (bnd (m env) fun x => bnd (m2 env) fun y => ret (x, y)) s with
  | no =>
    unfold bnd at c' e0
    rw [e0] at c'
    exact c'.elim
  | er e' s' =>
    refine ⟨(.l, .l), F, sa, H0, L, env, s, Rl, ?_⟩
    dsimp only
    rw [e0]
    unfold bnd at c' e0
    rw [e0] at c'
    exact c'
  | ok d s' =>
    refine ⟨(SK.of d.1, SK.of d.2), F, sa, H0, L, env, s, Rl, ?_⟩
    dsimp only
    rw [e0]
    have c2 : Cn ex E sa F H s (zipD d.1 d.2 s') (qI X.K bb sa H) R := by
      unfold bnd at c' e0
      rw [e0] at c'
      exact c'
    rintro vs F1 H1 x1 ⟨x, y, Ht, rfl, b1, b2⟩ sz
    have c1 := Cn.after x1 c2
    unfold zipD at c1
    cases e1 : seqD d.1 with
    | none =>
      rw [e1] at c1
      exact (Cn.no c1).elim
    | some ds =>
      cases e2 : seqD d.2 with
      | none =>
        rw [e1, e2] at c1
        exact (Cn.no c1).elim
      | some es =>
        rw [e1, e2] at c1
        obtain ⟨k, a, vs, bs, ed, rfl, q, t, h1, h2, h3⟩ := items_of x1.sub b1 e1
        obtain ⟨j, b, ws, bs2, ed2, rfl, q2, t2, h12, h22, h32⟩ := items_of x1.sub b2 e2
        have ek := SK.of_eq ed
        have ek2 := SK.of_eq ed2
        rw [ek, ek2]
        refine ⟨a, b, vs, ws, rfl, q, q2, c1 _ F1 H1 (Ext.refl x1.sub x1.srcOk) ⟨bs ++ bs2, fun z => by rw [h1 z, h12 z]; rfl, fun p hp => ?_, ?_, wlk_zip t t2 h3 h32⟩⟩
        · rcases List.mem_append.mp hp with hp | hp
          · exact h2 p hp
          · exact h22 p hp
        · rw [List.length_zipWith, ← t.length]
          have := len_of sz q
          omega
theorem di_rng1 {tg a : Expr} {p pos : Pos} {m : Env → M D} {bb : Bool} (hg : Gl X "range") (hm : X.mg "range" = none) (h : PE X a (tE X.K ex E m (qB X.K))) (hst : notStar a = true) :
    PI X tg (.Call (.Name "range" p) [a] [] pos) (tE X.K ex E (fun env => bnd (m env) rng1) (qI X.K bb)) := by
  refine PI.imp (pi_range1 hg hm (da_1 h (star_cons hst)) (star_cons hst)) fun σ H R hh => ?_
  obtain ⟨F, sa, H0, L, env, s, Rl, c⟩ := hh
  refine ⟨F, sa, H0, L, env, s, Rl, c.bnd fun vs F1 H1 s1 d x1 b1 c1 => ?_⟩
  obtain ⟨x, rfl, b1⟩ := b1
  cases d <;> try exact (Cn.no c1).elim
  rename_i b
  cases Bp.int b1
  obtain ⟨h, c1⟩ := c1.ite
  have h := of_decide_eq_true h
  have w := wlk_rng (K := X.K) (sa := sa) (F := F1) 0 b
  rw [Int.sub_zero] at w
  refine ⟨b, rfl, h.2.2.1, h.2.2.2.1, c1 _ F1 H1 (Ext.refl x1.sub x1.srcOk) ⟨[], fun _ => rfl, fun p hp => (nomatch hp), ?_, w⟩⟩
  unfold rngL
  rw [List.length_map, List.length_range]
  have := h.2.2.2.2
  omega
theorem di_rng2 {tg a b : Expr} {p pos : Pos} {m m2 : Env → M D} {bb : Bool} (hg : Gl X "range") (hm : X.mg "range" = none) (h : PE X a (tE X.K ex E m (qB X.K))) (h2 : PE X b (tE X.K ex E m2 (qB X.K))) (hst : notStars [a, b] = true) :
    PI X tg (.Call (.Name "range" p) [a, b] [] pos) (tE X.K ex E (fun env => bnd (m env) fun x => bnd (m2 env) fun y => rng2 x y) (qI X.K bb)) := by
  have hst' := hst
  simp only [notStars, Bool.and_true, Bool.and_eq_true] at hst'
  have s1 := star_cons (env := X.env) (es := [b]) hst'.1
  have s2 := star_cons (env := X.env) (es := []) hst'.2
  refine PI.imp (pi_range2 hg hm (da_2 (R1 := qB X.K) (fun _ _ _ _ _ _ _ _ _ _ _ x b => Bp.ext x b) h h2 hst) (by rw [s1, s2]; rfl) s2) fun σ H R hh => ?_
  obtain ⟨F, sa, H0, L, env, s, Rl, c⟩ := hh
  have c' : Cn ex E sa F H s ((bnd (bnd (m env) fun x => bnd (m2 env) fun y => ret (x, y)) fun q => rng2 q.1 q.2) s) (qI X.K bb sa H) R := by
    rw [bnd_assoc]
    have e : (fun x => bnd (bnd (m2 env) fun y => ret (x, y)) fun q => rng2 q.1 q.2) = fun x => bnd (m2 env) fun y => rng2 x y := by
      funext x
      rw [bnd_assoc]
      rfl
    rw [e]
    exact c
  refine ⟨F, sa, H0, L, env, s, Rl, c'.bnd fun vs F1 H1 s1 d x1 b1 c1 => ?_⟩
  obtain ⟨x, y, Ht, rfl, b1, b2⟩ := b1
  obtain ⟨d1, d2⟩ := d
  cases d1 <;> cases d2 <;> try exact (Cn.no c1).elim
  rename_i i j
  cases Bp.int b1
  cases Bp.int b2
  obtain ⟨h, c1⟩ := c1.ite
  have h := of_decide_eq_true h
  refine ⟨i, j, rfl, ⟨h.1, h.2.1, h.2.2.1, h.2.2.2.1⟩, c1 _ F1 H1 (Ext.refl x1.sub x1.srcOk) ⟨[], fun _ => rfl, fun p hp => (nomatch hp), ?_, wlk_rng i j⟩⟩
  unfold rngL
  rw [List.length_map, List.length_range]
  have := h.2.2.2.2
  omega
/-! ### list(range(..)) -/
theorem rgV_dp {K : PySem.W.Frag} {F : Hp} (a b : Int) : DpAll K F (rgV a b) (rngL a b) := by
  unfold rgV rngL
  generalize (List.range (b - a).toNat) = l
  induction l with
  | nil => exact .nil
  | cons i l ih => exact .cons (.int _) ih
theorem rg_ok {a b : Int} (h : rngOk a b = true) : RgOk a b := by
  have h := of_decide_eq_true h
  exact ⟨h.1, h.2.1, h.2.2.1, h.2.2.2.1, by have := h.2.2.2.2; omega⟩
theorem de_rngl1 {a : Expr} {p p2 pos pos2 : Pos} {m : Env → M D} (hc : X.calm = true) (hg : Gl X "range") (hm : X.mg "range" = none) (hgl : Gl X "list") (hml : X.mg "list" = none) (h : PE X a (tE X.K ex E m (qB X.K))) (hst : notStar a = true) :
    PE X (.Call (.Name "list" p) [.Call (.Name "range" p2) [a] [] pos2] [] pos) (tE X.K ex E (fun env => bnd (bnd (m env) rng1) fun ds => ret (.list ds)) (qF X.K)) := by
  refine PE.imp (pe_listRg hc hgl hml (prg_1 hg hm h (star_cons hst)) (star_cons rfl)) fun σ H Q hh => ?_
  obtain ⟨F, sa, H0, L, env, s, R, c⟩ := hh
  have c' : Cn ex E sa F H s ((bnd (m env) fun d => bnd (rng1 d) fun ds => ret (.list ds)) s) (RF X.K sa H) Q := by
    rw [← bnd_assoc]
    exact c
  refine ⟨F, sa, H0, L, env, s, R, c'.bnd fun x F1 H1 s1 d x1 b1 c1 => ?_⟩
  cases d <;> try exact (Cn.no c1).elim
  rename_i b
  cases Bp.int b1
  replace c1 : Cn ex E sa F1 H1 s1 (bnd (if rngOk 0 b = true then ret (rngL 0 b) else stuck) (fun ds => ret (PyData.list ds)) s1) (RF X.K sa H) Q := c1
  by_cases hk : rngOk 0 b = true
  · rw [if_pos hk] at c1
    exact ⟨b, rfl, rg_ok hk, fun p hp => Cn.newL c1 x1.sub x1.srcOk (rgV_dp 0 b) hp (x1.none R.sub hp)⟩
  · rw [if_neg hk] at c1
    exact (Cn.no c1).elim
theorem de_rngl2 {a b : Expr} {p p2 pos pos2 : Pos} {m m2 : Env → M D} (hc : X.calm = true) (hg : Gl X "range") (hm : X.mg "range" = none) (hgl : Gl X "list") (hml : X.mg "list" = none) (h : PE X a (tE X.K ex E m (qB X.K))) (h2 : PE X b (tE X.K ex E m2 (qB X.K))) (hst : notStars [a, b] = true) :
    PE X (.Call (.Name "list" p) [.Call (.Name "range" p2) [a, b] [] pos2] [] pos) (tE X.K ex E (fun env => bnd (bnd (m env) fun x => bnd (m2 env) fun y => rng2 x y) fun ds => ret (.list ds)) (qF X.K)) := by
  simp only [notStars, Bool.and_true, Bool.and_eq_true] at hst
  refine PE.imp (pe_listRg hc hgl hml (prg_2 hg hm h h2 (star_cons hst.1) (star_cons hst.2) (star_any (by simp [notStars, hst.2]))) (star_cons rfl)) fun σ H Q hh => ?_
  obtain ⟨F, sa, H0, L, env, s, R, c⟩ := hh
  have c' : Cn ex E sa F H s ((bnd (m env) fun x => bnd (m2 env) fun y => bnd (rng2 x y) fun ds => ret (.list ds)) s) (RF X.K sa H) Q := by
    have e : (bnd (bnd (m env) fun x => bnd (m2 env) fun y => rng2 x y) fun ds => ret (PyData.list ds)) = bnd (m env) fun x => bnd (m2 env) fun y => bnd (rng2 x y) fun ds => ret (.list ds) := by
      rw [bnd_assoc]
      congr
      funext x
      rw [bnd_assoc]
    rw [← e]
    exact c
  refine ⟨F, sa, H0, L, env, s, R, c'.bnd fun x F1 H1 s1 d x1 b1 c1 => ?_⟩
  refine ⟨F1, sa, H0, L, env, s1, R.ext x1, c1.bnd fun y F2 H2 s2 d2 x2 b2 c2 => ?_⟩
  cases d <;> cases d2 <;> try exact (Cn.no c2).elim
  rename_i i j
  cases Bp.int b1
  cases Bp.int b2
  replace c2 : Cn ex E sa F2 H2 s2 (bnd (if rngOk i j = true then ret (rngL i j) else stuck) (fun ds => ret (PyData.list ds)) s2) (RF X.K sa H) Q := c2
  by_cases hk : rngOk i j = true
  · rw [if_pos hk] at c2
    exact ⟨i, j, rfl, rfl, rg_ok hk, fun p hp => Cn.newL c2 x2.sub x2.srcOk (rgV_dp i j) hp (x1.none R.sub (x2.none x1.sub hp))⟩
  · rw [if_neg hk] at c2
    exact (Cn.no c2).elim
end Wk
set_option maxRecDepth 100000
set_option maxHeartbeats 4000000
/-! WB10: targets, comprehensions -/
namespace Wk
open PySem PySem.Spec PyProof.Rows L2
variable {ex : ExV} {E : XK} {X : Cx}
/-! ### slots change -/
section
variable {K : PySem.W.Frag} {sa : Option Addr} {H0 : Hp} {L : List (Nat × Addr × List V)} {env : Env} {s : SV} {σ : St} {F H : Hp}
theorem get_set {α : Type} {l : List α} {i j : Nat} {x y : α} (h : (l.set i x)[j]? = some y) : (i = j ∧ y = x ∧ i < l.length) ∨ (i ≠ j ∧ l[j]? = some y) := by
  by_cases e : i = j
  · subst e
    by_cases hl : i < l.length
    · rw [List.getElem?_set_self hl] at h
      exact .inl ⟨rfl, (Option.some.inj h).symm, hl⟩
    · rw [List.getElem?_set_self'] at h
      have : l[i]? = none := List.getElem?_eq_none (by omega)
      rw [this] at h
      cases h
  · rw [List.getElem?_set_ne e] at h
    exact .inr ⟨e, h⟩
theorem Rel.put (R : Rel K sa H0 L env s σ F H) {i : Nat} {x : V} {y : Slot} (hy : SlotOk K sa H0 L F H i (some (some x)) y) (ha : ∀ ds, y = .ow ds → ∀ j a es, j ≠ i → env[j]? = some (.ow es) → x = .ref a → σ[j]? ≠ some (some (.ref a))) : Rel K sa H0 L (env.set i y) s (σ.set i (some x)) F H where
  sub := R.sub
  src := R.src
  len := by rw [List.length_set, List.length_set]; exact R.len
  lent := R.lent
  slot := fun j z e => by
    rcases get_set e with ⟨rfl, rfl, hl⟩ | ⟨hj, e⟩
    · rw [List.getElem?_set_self (by rw [← R.len]; exact hl)]
      exact hy
    · rw [List.getElem?_set_ne hj]
      exact R.slot j z e
  apart := fun j k a ds es hjk e1 e2 v1 => by
    rcases get_set e1 with ⟨rfl, rfl, hl⟩ | ⟨hj, e3⟩
    · rcases get_set e2 with ⟨rfl, _, _⟩ | ⟨hk, e2⟩
      · exact absurd rfl hjk
      · rw [List.getElem?_set_self (by rw [← R.len]; exact hl)] at v1
        rw [List.getElem?_set_ne hk]
        exact ha ds rfl k a es (fun z => hk z.symm) e2 (by injection v1 with v1; injection v1)
    · rcases get_set e2 with ⟨rfl, rfl, hl⟩ | ⟨hk, e2⟩
      · rw [List.getElem?_set_ne hj] at v1
        intro v2
        rw [List.getElem?_set_self (by rw [← R.len]; exact hl)] at v2
        exact ha es rfl j a ds (fun z => hj z.symm) e3 (by injection v2 with v2; injection v2) v1
      · rw [List.getElem?_set_ne hj] at v1
        rw [List.getElem?_set_ne hk]
        exact R.apart j k a ds es hjk e3 e2 v1
theorem Rel.un (R : Rel K sa H0 L env s σ F H) (i : Nat) (y : Option V) : Rel K sa H0 L (env.set i .un) s (σ.set i y) F H where
  sub := R.sub
  src := R.src
  len := by rw [List.length_set, List.length_set]; exact R.len
  lent := R.lent
  slot := fun j z e => by
    rcases get_set e with ⟨rfl, rfl, hl⟩ | ⟨hj, e⟩
    · trivial
    · rw [List.getElem?_set_ne hj]
      exact R.slot j z e
  apart := fun j k a ds es hjk e1 e2 v1 => by
    rcases get_set e1 with ⟨_, z, _⟩ | ⟨hj, e1⟩
    · cases z
    · rcases get_set e2 with ⟨_, z, _⟩ | ⟨hk, e2⟩
      · cases z
      · rw [List.getElem?_set_ne hj] at v1
        rw [List.getElem?_set_ne hk]
        exact R.apart j k a ds es hjk e1 e2 v1
theorem Rel.wipe (R : Rel K sa H0 L env s σ F H) : ∀ own : List Nat, Rel K sa H0 L (wipeE env own) s (L2.wipe σ own) F H
  | [] => R
  | i :: r => (Rel.wipe R r).un i none
theorem wipe_out {σ : St} {v : Option V} {i : Nat} : ∀ {vs : List Nat}, i ∉ vs → L2.wipe (σ.set i v) vs = (L2.wipe σ vs).set i v
  | [], _ => rfl
  | j :: r, h => by
    unfold L2.wipe
    rw [wipe_out (vs := r) fun z => h (List.mem_cons_of_mem _ z)]
    exact List.set_comm _ _ fun z => h (by rw [z]; exact List.mem_cons_self)
theorem wipe_in {σ : St} {v : Option V} {i : Nat} : ∀ {vs : List Nat}, i ∈ vs → L2.wipe (σ.set i v) vs = L2.wipe σ vs
  | j :: r, h => by
    unfold L2.wipe
    by_cases hr : i ∈ r
    · rw [wipe_in hr]
    · rw [wipe_out hr]
      have e : i = j := by
        rcases List.mem_cons.mp h with z | z
        · exact z
        · exact absurd z hr
      subst e
      rw [List.set_set]
theorem wipe_wipe {σ : St} {vs : List Nat} : ∀ ws : List Nat, (∀ i ∈ ws, i ∈ vs) → L2.wipe (L2.wipe σ ws) vs = L2.wipe σ vs
  | [], _ => rfl
  | i :: r, h => by
    show L2.wipe ((L2.wipe σ r).set i none) vs = _
    rw [wipe_in (h i (List.mem_cons_self))]
    exact wipe_wipe r fun j hj => h j (List.mem_cons_of_mem _ hj)
end
/-! ### targets -/
mutual
def tgv : Tg → List Nat
  | .nm i => [i]
  | .tp ts => tgvs ts
def tgvs : Tgs → List Nat
  | .nil => []
  | .cons t ts => tgv t ++ tgvs ts
end
def tGr (K : PySem.W.Frag) (t : Tg) : TG := fun v σ H Q => ∃ (F : Hp) (sa : Option Addr) (H0 : Hp) (L : List (Nat × Addr × List V)) (env : Env) (s : SV) (d : D) (env' : Env), Rel K sa H0 L env s σ F H ∧ Dp K F v d ∧ bindT t d env = some env' ∧
  ∀ σ', Rel K sa H0 L env' s σ' F H → (∀ vs, (∀ i ∈ tgv t, i ∈ vs) → L2.wipe σ' vs = L2.wipe σ vs) → Q σ' H
def tGrs (K : PySem.W.Frag) (ts : Tgs) : TGs := fun vs σ H Q => ∃ (F : Hp) (sa : Option Addr) (H0 : Hp) (L : List (Nat × Addr × List V)) (env : Env) (s : SV) (ds : List D) (env' : Env), Rel K sa H0 L env s σ F H ∧ DpAll K F vs ds ∧ bindTs ts ds env = some env' ∧
  ∀ σ', Rel K sa H0 L env' s σ' F H → (∀ ws, (∀ i ∈ tgvs ts, i ∈ ws) → L2.wipe σ' ws = L2.wipe σ ws) → Q σ' H
mutual
def ckT (N : List Str) (st : Scope) : Tg → Expr → Bool
  | .nm i, .Name x _ => decide (N[i]? = some x) && stB st x
  | .tp ts, .Tuple es _ _ => ckTs N st ts es
  | _, _ => false
def ckTs (N : List Str) (st : Scope) : Tgs → List Expr → Bool
  | .nil, [] => true
  | .cons t ts, e :: es => ckT N st t e && ckTs N st ts es
  | _, _ => false
end
theorem PG.imp {e : Expr} {t t' : TG} (h : PG X e t) (i : ∀ v σ H Q, t' v σ H Q → t v σ H Q) : PG X e t' := ⟨fun pins s σ H v u Q I r q => h.run pins s σ H v u Q I r (i v σ H Q q)⟩
theorem PGs.imp {e : List Expr} {t t' : TGs} (h : PGs X e t) (i : ∀ v σ H Q, t' v σ H Q → t v σ H Q) : PGs X e t' := ⟨fun pins s σ H v u Q I r q => h.run pins s σ H v u Q I r (i v σ H Q q)⟩
theorem ckT_star {N : List Str} {st : Scope} {t : Tg} {e : Expr} (h : ckT N st t e = true) : notStar e = true := by
  cases t <;> cases e <;> first | rfl | (unfold ckT at h; cases h)
theorem asg_cons {e : Expr} {es : List Expr} {env : PySem.Env} (h : notStar e = true) : assignEach (e :: es) env = (false, assign e env) :: assignEach es env := by
  cases e <;> first | rfl | cases h
theorem bindTs_len : ∀ {ts : Tgs} {ds : List D} {env env' : Env} {es : List Expr} {N : List Str} {st : Scope}, bindTs ts ds env = some env' → ckTs N st ts es = true → ds.length = es.length
  | .nil, [], _, _, [], _, _, _, _ => rfl
  | .nil, [], _, _, _ :: _, _, _, _, h => by simp [ckTs] at h
  | .nil, _ :: _, _, _, _, _, _, h, _ => by simp [bindTs] at h
  | .cons _ _, [], _, _, _, _, _, h, _ => by simp [bindTs] at h
  | .cons _ _, _ :: _, _, _, [], _, _, _, h => by simp [ckTs] at h
  | .cons t ts, d :: ds, env, env', e :: es, N, st, h, h2 => by
    simp only [bindTs] at h
    obtain ⟨env1, h1, h3⟩ := Option.bind_eq_some_iff.mp h
    simp only [ckTs, Bool.and_eq_true] at h2
    exact congrArg (· + 1) (bindTs_len h3 h2.2)
theorem asg_ok {N : List Str} {st : Scope} {env : PySem.Env} : ∀ {ts : Tgs} {es : List Expr}, ckTs N st ts es = true → (assignEach es env).length = es.length ∧ (assignEach es env).findIdx? (·.1) = none
  | _, [], _ => ⟨rfl, rfl⟩
  | .nil, _ :: _, h => by simp [ckTs] at h
  | .cons t ts, e :: es, h => by
    simp only [ckTs, Bool.and_eq_true] at h
    rw [asg_cons (ckT_star h.1)]
    obtain ⟨a, b⟩ := asg_ok (env := env) h.2
    refine ⟨by rw [List.length_cons, List.length_cons, a], ?_⟩
    rw [List.findIdx?_cons, b]
    rfl
section
variable {T : List FnI} {cs : List (Str × Int)} {N : List Str} {sc st : Scope}
mutual
theorem dg_tg (fx : Fx T ex cs N X E sc st) : ∀ (t : Tg) (e : Expr), ckT N st t e = true → PG X e (tGr X.K t)
  | .nm i, e, h => by
    cases e <;> try (simp [ckT] at h; done)
    rename_i x p
    simp only [ckT, Bool.and_eq_true, decide_eq_true_eq] at h
    obtain ⟨l1, l2⟩ := fx.sto x h.2
    refine PG.imp (pg_name (by rw [fx.nm]; exact fx.nd) (by rw [fx.nm]; exact h.1) l1 l2) fun v σ H Q hh => ?_
    obtain ⟨F, sa, H0, L, env, s, d, env', R, r, b, k⟩ := hh
    unfold bindT at b
    by_cases hf : free env i = true
    · rw [if_pos hf] at b
      cases b
      exact k _ (R.put ⟨v, rfl, r⟩ fun _ z => by cases z) fun vs hv => wipe_in (hv i (by unfold tgv; exact List.mem_singleton.mpr rfl))
    · rw [if_neg hf] at b
      cases b
  | .tp ts, e, h => by
    cases e <;> try (simp [ckT] at h; done)
    rename_i es kk p
    unfold ckT at h
    have hs := dg_tgs fx ts es h
    have ok := asg_ok (env := X.env) h
    refine PG.imp (pg_tup fx.calm hs ok.1 ok.2) fun v σ H Q hh => ?_
    obtain ⟨F, sa, H0, L, env, s, d, env', R, r, b, k⟩ := hh
    cases d <;> try (simp [bindT] at b; done)
    rename_i ds
    unfold bindT at b
    cases r with
    | tup q t =>
      refine ⟨_, _, rfl, R.sub.seqT q, ?_, F, sa, H0, L, env, s, ds, env', R, t, b, fun σ' R' w => k σ' R' fun vs hv => w vs fun i hi => hv i (by unfold tgv; exact hi)⟩
      rw [t.length]
      exact bindTs_len b h
theorem dg_tgs (fx : Fx T ex cs N X E sc st) : ∀ (ts : Tgs) (es : List Expr), ckTs N st ts es = true → PGs X es (tGrs X.K ts)
  | .nil, [], h => PGs.imp pgs_nil fun vs σ H Q hh => by
    obtain ⟨F, sa, H0, L, env, s, ds, env', R, r, b, k⟩ := hh
    cases ds with
    | nil =>
      cases r
      simp only [bindTs, Option.some.injEq] at b
      subst b
      exact ⟨rfl, k σ R fun _ _ => rfl⟩
    | cons d ds => simp [bindTs] at b
  | .nil, _ :: _, h => by simp [ckTs] at h
  | .cons _ _, [], h => by simp [ckTs] at h
  | .cons t ts, e :: es, h => by
    simp only [ckTs, Bool.and_eq_true] at h
    have h1 := dg_tg fx t e h.1
    have h2 := dg_tgs fx ts es h.2
    refine PGs.imp (pgs_cons h1 h2 (by rw [asg_cons (ckT_star h.1)]; rfl)) fun vs σ H Q hh => ?_
    obtain ⟨F, sa, H0, L, env, s, ds, env', R, r, b, k⟩ := hh
    cases ds with
    | nil => simp [bindTs] at b
    | cons d ds =>
      simp only [bindTs] at b
      obtain ⟨env1, b1, b2⟩ := Option.bind_eq_some_iff.mp b
      cases r with
      | cons r rr =>
        refine ⟨_, _, rfl, F, sa, H0, L, env, s, d, env1, R, r, b1, fun σ1 R1 w1 => ?_⟩
        refine ⟨F, sa, H0, L, env1, s, ds, env', R1, rr, b2, fun σ2 R2 w2 => k σ2 R2 fun vs hv => ?_⟩
        rw [w2 vs fun i hi => hv i (by unfold tgvs; exact List.mem_append_right _ hi)]
        exact w1 vs fun i hi => hv i (by unfold tgvs; exact List.mem_append_left _ hi)
end
end
end Wk
set_option maxRecDepth 100000
set_option maxHeartbeats 4000000
/-! WB11: comprehensions -/
namespace Wk
open PySem PySem.Spec PyProof.Rows L2
variable {ex : ExV} {E : XK} {X : Cx}
theorem fx_blk {T : List FnI} {cs : List (Str × Int)} {N : List Str} {sc st : Scope} (fx : Fx T ex cs N X E sc st) (scope : Scope) (s : Shared) (H : Hp) (C : Addr) (cl : List (Str × Addr)) (fp : List Addr) :
    Fx T ex cs N (X.blk s H scope (compEnvC scope cl C X.env) fp) E0 (relS scope sc) scope where
  nm := fx.nm
  sc := by
    rw [← fx.sc]
    rfl
  sto := fun x h => by
    have e : (X.blk s H scope (compEnvC scope cl C X.env) fp).env.scope = relS scope X.env.scope := rfl
    rw [e]
    unfold stB at h
    cases q : scope.names.lookup x with
    | none =>
      rw [q] at h
      cases h
    | some k =>
      rw [q] at h
      cases k <;> try cases h
      · exact ⟨.inl (lookup_relS_keep (by decide) q), .inr (lookup_relS_keep (by decide) q)⟩
      · refine ⟨.inr (lookup_relS_keep (by decide) q), .inl ?_⟩
        show (scope.names.lookup x == some .cell) = true
        rw [q]
        rfl
  nd := fx.nd
  calm := fx.calm
  units := fx.units
  blt := fx.blt
  glob := fx.glob
  fns := fx.fns
  pass := passL
theorem Ext.own {sa : Option Addr} {F H F' H' : Hp} {s s' : SV} (x : Ext sa F H s F' H' s') {a : Addr} {o : HO} (h0 : H a = Option.none) (h1 : F' a = Option.none) (n : sa ≠ some a) : Ext sa F H s F' (upd H' a o) s' where
  ff := x.ff
  sub := fun b u e => by
    have hb : b ≠ a := ne_of_none e h1
    rw [upd_ne hb]
    exact x.sub _ _ e
  cell := fun b u e1 e2 => by
    have hb : b ≠ a := ne_of_none e2 h0
    rw [upd_ne hb]
    exact x.cell b u e1 e2
  src := by
    have := x.src
    cases sa with
    | none => exact this
    | some b =>
      have hb : b ≠ a := fun z => n (by rw [z])
      exact ⟨by rw [upd_ne hb]; exact this.1, this.2⟩
theorem BsOk.ext {sa : Option Addr} {F H F' H' : Hp} {s s' : SV} {bs : List (Addr × List V)} (x : Ext sa F H s F' H' s') (h : BsOk sa F H bs) : BsOk sa F' H' bs := fun p hp => by
  obtain ⟨f, g, n⟩ := h p hp
  obtain ⟨f', g'⟩ := x.cell _ _ f g
  exact ⟨f', g' n, n⟩
def lcG (t : Tg) (own : List Nat) (mif : Env → M Bool) (me : Env → M D) (env : Env) : D → M (Option D) := fun d => match bindT t d (wipeE env own) with
  | some env' => bnd (mif env') fun k => if k = true then bnd (me env') fun y => ret (some y) else ret none
  | none => stuck
theorem lc_cn {σ : St} {H : Hp} {Q : VK} {F : Hp} {sa : Option Addr} {H0 : Hp} {L : List (Nat × Addr × List V)} {env : Env} {s : SV} {t : Tg} {own : List Nat} {mif : Env → M Bool} {me : Env → M D} {ds : List D} {J : It} (hown : ∀ i ∈ tgv t, i ∈ own) (Hs : Hp) (hn : ∀ p, H p = none → Hs p = none)
    (R : Rel X.K sa H0 L env s σ F H) (qi : qI X.K true sa Hs F H J ds) (c : Cn ex E sa F H s (bnd (noer (lcRun (lcG t own mif me env) ds)) (fun ys => ret (.list ys)) s) (RF X.K sa Hs) Q) :
    ∀ D, H D = none → ∃ W : Nat → Nat → Hp → Prop, (∃ m, W 0 m (upd H D (.lst []))) ∧ ∀ i m H, W i m H →
  (J.stop i H ∧ Q (.ref D) H) ∨ (J.go i H ∧ ∃ Nx : Hp → Prop, (∀ H', Nx H' → ∃ m', m' < m ∧ W (i + 1) m' H') ∧ ∀ x H', J.yld i H x H' → tGr X.K t x (L2.wipe σ own) H' fun σ2 H2 => L2.wipe σ2 own = L2.wipe σ own ∧ tE X.K ex E0 mif qT σ2 H2 fun b H3 =>
    if b = true then tE X.K ex E0 me (qD X.K) σ2 H3 fun y H4 => ∃ acc, H4 D = some (.lst acc) ∧ acc.length < sizeLine ∧ Nx (upd H4 D (.lst (acc ++ [y]))) else Nx H3) := by
  intro D hD
  obtain ⟨bs, _, hbs, hlen, wk⟩ := qi
  -- what it comes to
  have hr : ∃ total sf, lcRun (lcG t own mif me env) ds s = .ok total sf ∧ Cn ex E sa F H s (.ok (PyData.list total) sf) (RF X.K sa Hs) Q := by
    unfold bnd noer at c
    cases e : lcRun (lcG t own mif me env) ds s with
    | ok total sf =>
      rw [e] at c
      exact ⟨total, sf, rfl, c⟩
    | er e' s' =>
      rw [e] at c
      exact c.elim
    | no =>
      rw [e] at c
      exact c.elim
  obtain ⟨total, sf, hrun, cf⟩ := hr
  have hFD : F D = none := Same.none R.sub hD
  have hsD : sa ≠ some D := fun z => by
    have so := R.src
    rw [z] at so
    have z1 := so.1
    rw [hD] at z1
    cases z1
  refine ⟨fun i m H' => i + m = ds.length ∧ ∃ (F' : Hp) (s' : SV) (acc : List V) (accd : List Wk.D), Ext sa F H s F' H' s' ∧ F' D = none ∧ H' D = some (.lst acc) ∧ DpAll X.K F' acc accd ∧ accd.length ≤ i ∧ ∃ ys, lcRun (lcG t own mif me env) (ds.drop i) s' = .ok ys sf ∧ accd ++ ys = total,
    ⟨ds.length, by omega, F, s, [], [], Ext.newO R.sub R.src hD, hFD, upd_same, .nil, Nat.le_refl _, total, by rw [List.drop_zero]; exact hrun, rfl⟩, ?_⟩
  rintro i m H' ⟨him, F', s', acc, accd, x1, f1, h1, t1, l1, ys, hy, et⟩
  have bo := BsOk.ext x1 hbs
  by_cases hi : i = ds.length
  · left
    subst hi
    refine ⟨wk.stop F' H' x1.ff x1.sub bo, ?_⟩
    rw [List.drop_length] at hy
    have hy : Res.ok [] s' = Res.ok ys sf := hy
    cases hy
    rw [List.append_nil] at et
    subst et
    exact cf _ F' H' x1 ⟨D, acc, accd, rfl, rfl, hn _ hD, f1, h1, hsD, t1⟩
  · right
    have lt : i < ds.length := by omega
    refine ⟨wk.go i F' H' x1.ff x1.sub bo lt, fun H'' => (i + 1) + (m - 1) = ds.length ∧ ∃ (F' : Hp) (s' : SV) (acc : List V) (accd : List Wk.D), Ext sa F H s F' H'' s' ∧ F' D = none ∧ H'' D = some (.lst acc) ∧ DpAll X.K F' acc accd ∧ accd.length ≤ i + 1 ∧ ∃ ys, lcRun (lcG t own mif me env) (ds.drop (i + 1)) s' = .ok ys sf ∧ accd ++ ys = total,
      fun H'' w => ⟨m - 1, by omega, w⟩, fun x H2 yl => ?_⟩
    have hd : ds[i]? = some ds[i] := List.getElem?_eq_getElem lt
    obtain ⟨F2, x2, rx⟩ := wk.yld i F' H' s' x H2 _ x1.ff x1.sub x1.srcOk bo yl hd
    rw [List.drop_eq_getElem_cons lt] at hy
    have x12 := x1.trans x2
    have g2 : F2 D = none ∧ H2 D = some (.lst acc) := ⟨(x2.cell D _ f1 h1).1, (x2.cell D _ f1 h1).2 hsD⟩
    have hy : bnd (lcG t own mif me env ds[i]) (fun o => bnd (lcRun (lcG t own mif me env) (ds.drop (i + 1))) fun ys => ret (match o with
      | some y => y :: ys
      | none => ys)) s' = .ok ys sf := hy
    cases eb : bindT t ds[i] (wipeE env own) with
    | none =>
      unfold bnd lcG at hy
      rw [eb] at hy
      cases hy
    | some env' =>
      have eg : lcG t own mif me env ds[i] = bnd (mif env') fun k => if k = true then bnd (me env') fun y => ret (some y) else ret none := by
        unfold lcG
        rw [eb]
      rw [eg] at hy
      have R2 : Rel X.K sa H0 L (wipeE env own) s' (L2.wipe σ own) F2 H2 := (R.ext x12).wipe own
      refine ⟨F2, sa, H0, L, _, s', _, env', R2, rx, eb, fun σ2 R3 w2 => ⟨?_, ?_⟩⟩
      · rw [w2 own hown]
        exact wipe_wipe own fun i hi => hi
      · refine ⟨F2, sa, H0, L, env', s', R3, ?_⟩
        cases ek : mif env' s' with
        | no =>
          unfold bnd at hy
          rw [ek] at hy
          cases hy
        | er e' s'' =>
          unfold bnd at hy
          rw [ek] at hy
          cases hy
        | ok k s3 =>
          intro b F3 H3 x3 eb2
          have eb2 : b = k := eb2
          subst eb2
          have g3 : F3 D = none ∧ H3 D = some (.lst acc) := ⟨(x3.cell D _ g2.1 g2.2).1, (x3.cell D _ g2.1 g2.2).2 hsD⟩
          have x13 := x12.trans x3
          cases b with
          | false =>
            rw [if_neg (by decide)]
            have hy2 : (bnd (lcRun (lcG t own mif me env) (ds.drop (i + 1))) fun ys => ret ys) s3 = .ok ys sf := by
              unfold bnd at hy
              rw [ek] at hy
              exact hy
            have hy3 : lcRun (lcG t own mif me env) (ds.drop (i + 1)) s3 = .ok ys sf := by
              unfold bnd at hy2
              cases e : lcRun (lcG t own mif me env) (ds.drop (i + 1)) s3 <;> rw [e] at hy2 <;> first | exact hy2 | cases hy2
            exact ⟨by omega, F3, s3, acc, accd, x13, g3.1, g3.2, (t1.mono x2.ff).mono x3.ff, by omega, ys, hy3, et⟩
          | true =>
            rw [if_pos rfl]
            refine ⟨F3, sa, H0, L, env', s3, R3.ext x3, ?_⟩
            cases ey : me env' s3 with
            | no =>
              unfold bnd at hy
              rw [ek] at hy
              dsimp only at hy
              rw [if_pos rfl, ey] at hy
              cases hy
            | er e' s'' =>
              unfold bnd at hy
              rw [ek] at hy
              dsimp only at hy
              rw [if_pos rfl, ey] at hy
              cases hy
            | ok y s4 =>
              intro v F4 H4 x4 rv
              have g4 : F4 D = none ∧ H4 D = some (.lst acc) := ⟨(x4.cell D _ g3.1 g3.2).1, (x4.cell D _ g3.1 g3.2).2 hsD⟩
              have hy2 : (bnd (lcRun (lcG t own mif me env) (ds.drop (i + 1))) fun ys => ret (y :: ys)) s4 = .ok ys sf := by
                unfold bnd at hy
                rw [ek] at hy
                dsimp only at hy
                rw [if_pos rfl, ey] at hy
                exact hy
              have tt := ((t1.mono x2.ff).mono x3.ff).mono x4.ff
              have la : acc.length < sizeLine := by
                rw [tt.length, sizeLine_eq]
                omega
              refine ⟨acc, g4.2, la, by omega, F4, s4, acc ++ [v], accd ++ [y], (x13.trans x4).own hD g4.1 hsD, g4.1, upd_same, tt.append (.cons rv .nil), by rw [List.length_append]; exact Nat.succ_le_succ l1, ?_⟩
              unfold bnd at hy2
              cases e : lcRun (lcG t own mif me env) (ds.drop (i + 1)) s4 with
              | no =>
                rw [e] at hy2
                cases hy2
              | er e' s'' =>
                rw [e] at hy2
                cases hy2
              | ok zs s5 =>
                rw [e] at hy2
                have hy2 : Res.ok (y :: zs) s5 = Res.ok ys sf := hy2
                cases hy2
                exact ⟨zs, rfl, by rw [List.append_assoc]; exact et⟩
theorem de_lc {elt tg iter : Expr} {ifs : List Expr} {scope : Scope} {ow : List (Str × Nat)} {pos : Pos} {t : Tg} {own : List Nat} {mi : Env → M (List D)} {mif : Env → M Bool} {me : Env → M D} (hc : X.calm = true) (hN : X.N.Nodup) (hi : PI X tg iter (tE X.K ex E mi (qI X.K true))) (ok : BlkOk X.N X.env.scope scope ow) (ho : ow.map (·.2) = own) (hown : ∀ i ∈ tgv t, i ∈ own)
    (hg : ∀ (s : Shared) (H : Hp) (C : Addr) (cl : List (Str × Addr)) (fp : List Addr), PG (X.blk s H scope (compEnvC scope cl C X.env) fp) tg (tGr X.K t)) (ht : ∀ (s : Shared) (H : Hp) (C : Addr) (cl : List (Str × Addr)) (fp : List Addr), PTs (X.blk s H scope (compEnvC scope cl C X.env) fp) ifs (tE X.K ex E0 mif qT))
    (he : ∀ (s : Shared) (H : Hp) (C : Addr) (cl : List (Str × Addr)) (fp : List Addr), PE (X.blk s H scope (compEnvC scope cl C X.env) fp) elt (tE X.K ex E0 me (qD X.K))) (hs : ∀ x, foldedSetIterable iter X.env x = pure x) :
    PE X (.ListComp elt [⟨tg, iter, ifs, 0⟩] scope pos) (tE X.K ex E (fun env => bnd (mi env) fun ds => bnd (noer (lcRun (lcG t own mif me env) ds)) fun ys => ret (.list ys)) (qF X.K)) := by
  refine PE.imp (pe_lc hc hN hi ok hg ht he hs) fun σ H Q hh => ?_
  obtain ⟨F, sa, H0, L, env, s, R, c⟩ := hh
  refine ⟨F, sa, H0, L, env, s, R, c.bnd fun J F1 H1 s1 ds x1 qi c1 => ?_⟩
  rw [ho]
  obtain ⟨bs, a, b, d, w⟩ := qi
  exact lc_cn (X := X) hown H (fun p hp => x1.none R.sub hp) (R.ext x1) ⟨bs, a, b, d, w⟩ c1
/-- y = [..], y a plain local -/
theorem ds_setLc {i : Nat} {y : Str} {py : Pos} {elt tg iter : Expr} {ifs : List Expr} {scope : Scope} {ow : List (Str × Nat)} {pos spos : Pos} {t : Tg} {own : List Nat} {mi : Env → M (List D)} {mif : Env → M Bool} {me : Env → M D} (hc : X.calm = true) (hN : X.N.Nodup) (hy : X.N[i]? = some y) (hyl : X.env.scope.names.lookup y = some .local)
    (hsw : swapsWith (.ListComp elt [⟨tg, iter, ifs, 0⟩] scope pos) (some (.Name y py)) spos.line X.env = pure true) (hi : PI X tg iter (tE X.K ex E mi (qI X.K true))) (ok : BlkOk X.N X.env.scope scope ow) (ho : ow.map (·.2) = own) (hown : ∀ i ∈ tgv t, i ∈ own)
    (hg : ∀ (s : Shared) (H : Hp) (C : Addr) (cl : List (Str × Addr)) (fp : List Addr), PG (X.blk s H scope (compEnvC scope cl C X.env) fp) tg (tGr X.K t)) (ht : ∀ (s : Shared) (H : Hp) (C : Addr) (cl : List (Str × Addr)) (fp : List Addr), PTs (X.blk s H scope (compEnvC scope cl C X.env) fp) ifs (tE X.K ex E0 mif qT))
    (he : ∀ (s : Shared) (H : Hp) (C : Addr) (cl : List (Str × Addr)) (fp : List Addr), PE (X.blk s H scope (compEnvC scope cl C X.env) fp) elt (tE X.K ex E0 me (qD X.K))) (hs : ∀ x, foldedSetIterable iter X.env x = pure x) :
    PS X (.Assign [.Name y py] (.ListComp elt [⟨tg, iter, ifs, 0⟩] scope pos) spos) (tAsg (tE X.K ex E (fun env => bnd (mi env) fun ds => bnd (noer (lcRun (lcG t own mif me env) ds)) fun ys => ret (.list ys)) (qF X.K)) (gName i)) := by
  refine PS.imp (ps_setLc hc hN hy hyl hsw hi ok hg ht he hs) fun D σ H hh => ?_
  obtain ⟨F, sa, H0, L, env, s, R, c⟩ := hh
  refine ⟨F, sa, H0, L, env, s, R, c.bnd fun J F1 H1 s1 ds x1 qi c1 => ?_⟩
  rw [ho]
  obtain ⟨bs, a, b, d, w⟩ := qi
  exact lc_cn (X := X) hown H (fun p hp => x1.none R.sub hp) (R.ext x1) ⟨bs, a, b, d, w⟩ c1
end Wk
set_option maxRecDepth 100000
set_option maxHeartbeats 4000000
/-! WB12: calls that only borrow, calls without arguments, list.count, list.index -/
namespace Wk
open PySem PySem.Spec PyProof.Rows L2
variable {ex : ExV} {E : XK} {X : Cx}
/-! ### what is lent for a call -/
open Classical in
noncomputable def lift (F H : Hp) (B : List Addr) : Hp := fun a => if a ∈ B then H a else F a
open Classical in
noncomputable def unlift (F : Hp) (B : List Addr) : Hp := fun a => if a ∈ B then Option.none else F a
theorem lift_in {F H : Hp} {B : List Addr} {a : Addr} (h : a ∈ B) : lift F H B a = H a := if_pos h
theorem lift_out {F H : Hp} {B : List Addr} {a : Addr} (h : a ∉ B) : lift F H B a = F a := if_neg h
theorem unlift_in {F : Hp} {B : List Addr} {a : Addr} (h : a ∈ B) : unlift F B a = Option.none := if_pos h
theorem unlift_out {F : Hp} {B : List Addr} {a : Addr} (h : a ∉ B) : unlift F B a = F a := if_neg h
def LentOk (F H : Hp) (B : List Addr) : Prop := ∀ a ∈ B, F a = Option.none ∧ ∃ o, H a = some o
theorem Same.lift {F H : Hp} {B : List Addr} (hB : LentOk F H B) : Same F (lift F H B) := fun b u e => by
  have : b ∉ B := fun z => by
    rw [(hB b z).1] at e
    cases e
  rw [lift_out this]
  exact e
theorem lift_same {F H : Hp} {B : List Addr} (hs : Same F H) : Same (lift F H B) H := fun b u e => by
  by_cases h : b ∈ B
  · rw [lift_in h] at e
    exact e
  · rw [lift_out h] at e
    exact hs _ _ e
theorem Ext.unlift {sa : Option Addr} {F H F' H' : Hp} {s : SV} {B : List Addr} (hs : Same F H) (h : SrcOk sa F H s) (hB : LentOk F H B) (x : Ext Option.none (lift F H B) H sv0 F' H' sv0) : Ext sa F H s (unlift F' B) H' s := by
  have cell : ∀ a o, F a = Option.none → H a = some o → Wk.unlift F' B a = Option.none ∧ H' a = some o := fun a o e1 e2 => by
    by_cases ha : a ∈ B
    · refine ⟨unlift_in ha, ?_⟩
      have e3 : lift F H B a = some o := by rw [lift_in ha]; exact e2
      exact x.sub _ _ (x.ff _ _ e3)
    · have e3 : lift F H B a = Option.none := by rw [lift_out ha]; exact e1
      obtain ⟨f, g⟩ := x.cell a o e3 e2
      exact ⟨by rw [unlift_out ha]; exact f, g (fun z => by cases z)⟩
  refine ⟨fun b u e => ?_, fun b u e => ?_, fun a o e1 e2 => ⟨(cell a o e1 e2).1, fun _ => (cell a o e1 e2).2⟩, ?_⟩
  · have hb : b ∉ B := fun z => by
      rw [(hB b z).1] at e
      cases e
    rw [unlift_out hb]
    exact x.ff _ _ (Same.lift hB _ _ e)
  · by_cases hb : b ∈ B
    · rw [unlift_in hb] at e
      cases e
    · rw [unlift_out hb] at e
      exact x.sub _ _ e
  · cases sa with
    | none => rfl
    | some a => exact ⟨(cell a _ h.2 h.1).2, (cell a _ h.2 h.1).1⟩
/-- what is looked at is data while it is lent -/
theorem Bp.lent {K : PySem.W.Frag} {sa : Option Addr} {F H : Hp} {v : V} {d : D} (b : Bp K sa F H v d) : ∃ B : List Addr, LentOk F H B ∧ ∀ B', (∀ a ∈ B, a ∈ B') → LentOk F H B' → Dp K (lift F H B') v d := by
  rcases b with b | ⟨a, vs, ds, rfl, rfl, f, g, n, t⟩
  · exact ⟨[], fun a ha => (nomatch ha), fun B' _ h => b.mono (Same.lift h)⟩
  · refine ⟨[a], fun p hp => ?_, fun B' hs h => ?_⟩
    · rw [List.mem_singleton.mp hp]
      exact ⟨f, _, g⟩
    · exact .lst (SqL.of (by rw [lift_in (hs a (List.mem_singleton.mpr rfl))]; exact g)) (t.mono (Same.lift h))
theorem Dp.scal {K : PySem.W.Frag} {F F' : Hp} {v : V} {d : D} (h : Wk.scal d = true) (r : Dp K F v d) : Dp K F' v d := by
  cases r with
  | non => exact .non
  | bl b => exact .bl b
  | int i => exact .int i
  | str x => exact .str x
  | lst _ _ => cases h
  | tup _ _ => cases h
/-- f(a, b), a and b only lent -/
theorem de_callB {I : FnI} {k : Nat} {a b : Expr} {p pos : Pos} {ma mb : Env → M D} (hF : FnAt X.prog X.w X.K X.mg X.base ex k I) (hr : Room k X.A) (hx : Passes (L2.CX X.prog X.w) X E) (hg : Gl X I.name) (hd : (I.name == ("__debug__" : Str)) = false) (hsrc : I.src = false)
    (ha : PE X a (tE X.K ex E ma (qB X.K))) (hb : PE X b (tE X.K ex E mb (qB X.K))) (hst : notStars [a, b] = true) (hl : I.np = 2) :
    PE X (.Call (.Name I.name p) [a, b] [] pos) (tE X.K ex E (fun env => bnd (ma env) fun x => bnd (mb env) fun y => bnd (pcall (I.sem [x, y])) scalM) (qD X.K)) := by
  obtain ⟨f, fd, ps, ok, hm, hk, hbi⟩ := hF.ok
  have hst' := hst
  simp only [notStars, Bool.and_true, Bool.and_eq_true] at hst'
  refine PE.imp (pe_call ok hr hg hm hk hbi .nil hx (da_2 (R1 := qB X.K) (fun _ _ _ _ _ _ _ _ _ _ _ x b => Bp.ext x b) ha hb hst) hd (star_cons hst'.1) (star_any (by simp [notStars, hst'.2]))) fun σ H Q h => ?_
  obtain ⟨F, sa, H0, L, env, s, R, c⟩ := h
  have c' : Cn ex E sa F H s ((bnd (bnd (ma env) fun x => bnd (mb env) fun y => ret (x, y)) fun q => bnd (pcall (I.sem [q.1, q.2])) scalM) s) (RD X.K) Q := by
    rw [bnd_assoc]
    have e : (fun x => bnd (bnd (mb env) fun y => ret (x, y)) fun q => bnd (pcall (I.sem [q.1, q.2])) scalM) = fun x => bnd (mb env) fun y => bnd (pcall (I.sem [x, y])) scalM := by
      funext x
      rw [bnd_assoc]
      rfl
    rw [e]
    exact c
  refine ⟨F, sa, H0, L, env, s, R, c'.bnd fun vs F1 H1 s1 d x1 b1 c1 => ?_⟩
  obtain ⟨x, y, Ht, rfl, b1, b2⟩ := b1
  obtain ⟨B1, o1, l1⟩ := Bp.lent b1
  obtain ⟨B2, o2, l2⟩ := Bp.lent b2
  have hB : LentOk F1 H1 (B1 ++ B2) := fun a ha => (List.mem_append.mp ha).elim (o1 a) (o2 a)
  rw [List.append_nil]
  refine ⟨hl.symm, lift F1 H1 (B1 ++ B2), [d.1, d.2], Option.none, sv0, lift_same x1.sub, trivial, ?_, ?_⟩
  · rw [hsrc]
    exact ⟨rfl, rfl, .cons (l1 _ (fun a ha => List.mem_append_left _ ha) hB) (.cons (l2 _ (fun a ha => List.mem_append_right _ ha) hB) .nil)⟩
  · have c1 : Cn ex E sa F1 H1 s1 (bnd (pcall (I.sem [d.1, d.2])) scalM s1) (RD X.K) Q := c1
    unfold bnd pcall at c1
    cases e1 : I.sem [d.1, d.2] sv0 with
    | no =>
      rw [e1] at c1
      exact c1
    | er e' s' =>
      rw [e1] at c1
      intro F' H' x2
      have es : s' = sv0 := x2.src
      subst es
      exact c1 _ _ (x2.unlift x1.sub x1.srcOk hB)
    | ok r s' =>
      rw [e1] at c1
      dsimp only at c1
      intro v F' H' x2 rp
      have es : s' = sv0 := x2.src
      subst es
      obtain ⟨hsc, c2⟩ : scal r = true ∧ Cn ex E sa F1 H1 s1 (ret r s1) (RD X.K) Q := by
        unfold scalM at c1
        by_cases h : scal r = true
        · rw [if_pos h] at c1
          exact ⟨h, c1⟩
        · rw [if_neg h] at c1
          exact (Cn.no c1).elim
      refine c2 v _ _ (x2.unlift x1.sub x1.srcOk hB) ?_
      cases hf : I.fresh with
      | false =>
        rw [hf] at rp
        exact Dp.scal hsc rp
      | true =>
        rw [hf] at rp
        obtain ⟨_, _, ds, _, rfl, _⟩ := rp
        cases hsc
/-- f() -/
theorem de_call0 {I : FnI} {k : Nat} {p pos : Pos} (hF : FnAt X.prog X.w X.K X.mg X.base ex k I) (hr : Room k X.A) (hx : Passes (L2.CX X.prog X.w) X E) (hg : Gl X I.name) (hd : (I.name == ("__debug__" : Str)) = false) (hsrc : I.src = false) (hl : 0 = I.np) :
    PE X (.Call (.Name I.name p) [] [] pos) (tE X.K ex E (fun env => bnd (ret []) fun ds => pcall (I.sem ds)) (qFr X.K I.fresh)) := by
  obtain ⟨f, fd, ps, ok, hm, hk, hb⟩ := hF.ok
  refine PE.imp (pe_call0 ok hr hg hm hk hb .nil hx hd) fun σ H Q h => ?_
  obtain ⟨F, sa, H0, L, env, s, R, c⟩ := h
  replace c : Cn ex E sa F H s (pcall (I.sem []) s) (qFr X.K I.fresh sa H) Q := c
  refine ⟨hl, F, [], Option.none, sv0, R.sub, trivial, ?_, ?_⟩
  · rw [hsrc]
    exact ⟨rfl, rfl, .nil⟩
  · exact Cn.pc (fun p hp => hp) R.sub R.src c
/-! ### list.count, list.index -/
theorem ints_vals {K : PySem.W.Frag} {F : Hp} : ∀ {vs : List V} {ds : List D} {ns : List Int}, DpAll K F vs ds → ints? ds = some ns → vs = ns.map V.int
  | _, _, _, .nil, h => by
    cases h
    rfl
  | _, _, _, .cons (d := d) r t, h => by
    cases r <;> try (simp [ints?] at h; done)
    simp only [ints?, Option.map_eq_some_iff] at h
    obtain ⟨ms, h1, rfl⟩ := h
    rw [ints_vals t h1]
    rfl
theorem de_meth {a b : Expr} {name : Str} {id : String} {r : V → List V → Hp → VK → Prop} {g : D → D → M D} {apos cpos : Pos} {ma mb : Env → M D} (slot : PySem.Slot "list" name id) (hty : typeOf (.builtin id) = pure (.type "method_descriptor")) (hm : MtR X id r)
    (hrr : ∀ (sa : Option Addr) (F H : Hp) (s : SV) (x y : V) (ds : List D) (e : D) (Q : VK), Same F H → SrcOk sa F H s → Bp X.K sa F H x (.list ds) → Bp X.K sa F H y e → Cn ex E sa F H s (g (.list ds) e s) (RD X.K) Q → r x [y] H Q)
    (ha : PE X a (tE X.K ex E ma (qB X.K))) (hb : PE X b (tE X.K ex E mb (qB X.K))) (hbase : attributeBase a name X.env (eval a X.env) = eval a X.env) (hst : notStar b = true) (hline : (apos.endLine == cpos.line) = true) :
    PE X (.Call (.Attribute a name apos) [b] [] cpos) (tE X.K ex E (fun env => bnd (ma env) fun x => bnd (lisM x) fun l => bnd (mb env) fun y => g l y) (qD X.K)) := by
  refine PE.imp (pe_bm PySem.F.plainAttrs_list slot hty hm ha (da_1 hb (star_cons hst)) hbase (by rw [star_cons hst]; rfl) hline (star_cons hst) rfl) fun σ H Q h => ?_
  obtain ⟨F, sa, H0, L, env, s, R, c⟩ := h
  refine ⟨F, sa, H0, L, env, s, R, c.bnd fun v F1 H1 s1 d x1 b1 c1 => ?_⟩
  cases d <;> try exact (Cn.no c1).elim
  rename_i ds
  have c1 : Cn ex E sa F1 H1 s1 (bnd (mb env) (fun y => g (.list ds) y) s1) (RD X.K) Q := c1
  obtain ⟨p, vs, rfl, q, t⟩ := Bp.lst x1.sub b1
  refine ⟨.inl ⟨rfl, vs, q⟩, F1, sa, H0, L, env, s1, R.ext x1, c1.bnd fun w F2 H2 s2 e x2 b2 c2 => ?_⟩
  obtain ⟨y, rfl, b2⟩ := b2
  exact hrr sa F2 H2 s2 _ y ds e Q x2.sub x2.srcOk (Bp.ext x2 b1) b2 c2
theorem r_cnt (sa : Option Addr) (F H : Hp) (s : SV) (x y : V) (ds : List D) (e : D) (Q : VK) (hs : Same F H) (so : SrcOk sa F H s) (b1 : Bp X.K sa F H x (.list ds)) (b2 : Bp X.K sa F H y e) (c : Cn ex E sa F H s (cntD (.list ds) e s) (RD X.K) Q) : rCntI X.K x [y] H Q := by
  obtain ⟨p, vs, rfl, q, t⟩ := Bp.lst hs b1
  cases e <;> try exact (Cn.no c).elim
  rename_i k
  cases Bp.int b2
  dsimp only [cntD] at c
  cases e1 : ints? ds with
  | none =>
    rw [e1] at c
    exact (Cn.no c).elim
  | some ns =>
    rw [e1] at c
    have := ints_vals t e1
    subst this
    exact ⟨p, ns, k, rfl, rfl, q, Cn.value (d := .int _) c hs so (.int _)⟩
theorem r_idx (sa : Option Addr) (F H : Hp) (s : SV) (x y : V) (ds : List D) (e : D) (Q : VK) (hs : Same F H) (so : SrcOk sa F H s) (b1 : Bp X.K sa F H x (.list ds)) (b2 : Bp X.K sa F H y e) (c : Cn ex E sa F H s (idxD (.list ds) e s) (RD X.K) Q) : rIndexD X.K x [y] H Q := by
  obtain ⟨p, vs, rfl, q, t⟩ := Bp.lst hs b1
  dsimp only [idxD] at c
  obtain ⟨h, c⟩ := c.ite
  simp only [Bool.and_eq_true] at h
  cases e1 : ds.findIdx? (fun z => PyData.eqv z e) with
  | none =>
    rw [e1] at c
    exact (Cn.no c).elim
  | some j =>
    rw [e1] at c
    obtain ⟨hj, h1, h2⟩ := List.findIdx?_eq_some_iff_getElem.mp e1
    refine ⟨p, y, e, ds, j, ds[j], rfl, rfl, Bp.dp hs b1, Bp.dp hs b2, h.1, h.2, List.getElem?_eq_getElem hj, h1, fun m z hm hz => ?_, Cn.value (d := .int _) c hs so (.int _)⟩
    have hml : m < ds.length := by omega
    rw [List.getElem?_eq_getElem hml] at hz
    cases hz
    have := h2 m hm
    simpa using this
end Wk
set_option maxRecDepth 100000
set_option maxHeartbeats 4000000
/-! WB13: comprehensions with two walks -/
namespace Wk
open PySem PySem.Spec PyProof.Rows L2
variable {ex : ExV} {E : XK} {X : Cx}
def without (H0 : Hp) (D : Addr) : Hp := fun p => if p = D then Option.none else H0 p
theorem without_same {H0 : Hp} {D : Addr} : without H0 D D = Option.none := if_pos rfl
theorem without_none {H0 : Hp} {D p : Addr} (h : H0 p = Option.none) : without H0 D p = Option.none := by
  unfold without
  split
  · rfl
  · exact h
section
variable {K : PySem.W.Frag} {sa : Option Addr} {H0 : Hp} {L : List (Nat × Addr × List V)} {env : Env} {s : SV} {σ : St} {F H : Hp}
/-- the list that is made is lent -/
theorem Rel.lendD (R : Rel K sa H0 L env s σ F H) {D : Addr} (hD : H D = Option.none) {n : Nat} (hn : env.length ≤ n) : Rel K sa (without H0 D) ((n, D, []) :: L) env s σ F (upd H D (.lst [])) := by
  have hsD : sa ≠ some D := fun z => by
    have so := R.src
    rw [z] at so
    have z1 := so.1
    rw [hD] at z1
    cases z1
  refine ⟨fun b u e => ?_, ?_, R.len, fun p hp => ?_, fun i y e => ?_, R.apart⟩
  · have := R.sub _ _ e
    rw [upd_ne (ne_of_none this hD)]
    exact this
  · have so := R.src
    cases sa with
    | none => trivial
    | some c =>
      have hc : c ≠ D := fun z => hsD (by rw [z])
      exact ⟨by rw [upd_ne hc]; exact so.1, so.2⟩
  · rcases List.mem_cons.mp hp with rfl | hp
    · exact ⟨Same.none R.sub hD, upd_same, hsD, without_same⟩
    · obtain ⟨p1, p2, p3, p4⟩ := R.lent p hp
      exact ⟨p1, by rw [upd_ne (ne_of_none p2 hD)]; exact p2, p3, without_none p4⟩
  · have z := R.slot i y e
    cases y with
    | un => trivial
    | im d => exact z
    | ow ds =>
      obtain ⟨a, vs, q1, q2, q3, q4, q5, q6, q7⟩ := z
      have ha : a ≠ D := ne_of_none q3 hD
      refine ⟨a, vs, q1, q2, by rw [upd_ne ha]; exact q3, q4, q5, fun p hp => ?_, without_none q7⟩
      rcases List.mem_cons.mp hp with rfl | hp
      · exact fun w => ha w.symm
      · exact q6 p hp
    | ln ds =>
      obtain ⟨a, vs, q1, q2, q3⟩ := z
      refine ⟨a, vs, q1, ?_, q3⟩
      have hi : i < env.length := (List.getElem?_eq_some_iff.mp e).1
      rw [List.lookup_cons]
      have : (i == n) = false := by simpa using by omega
      rw [this]
      exact q2
    | sr => exact z
/-- .. and grows -/
theorem Rel.accD {D : Addr} {n : Nat} {acc : List V} (hn : env.length ≤ n) (hL : ∀ p ∈ L, p.2.1 ≠ D) (R : Rel K sa H0 ((n, D, acc) :: L) env s σ F H) (acc' : List V) : Rel K sa H0 ((n, D, acc') :: L) env s σ F (upd H D (.lst acc')) := by
  obtain ⟨f0, g0, n0, h0⟩ := R.lent _ List.mem_cons_self
  have f0 : F D = Option.none := f0
  have n0 : sa ≠ some D := n0
  refine ⟨fun b u e => ?_, ?_, R.len, fun p hp => ?_, fun i y e => ?_, R.apart⟩
  · rw [upd_ne (ne_of_none e f0)]
    exact R.sub _ _ e
  · have so := R.src
    cases sa with
    | none => trivial
    | some c =>
      have hc : c ≠ D := fun z => n0 (by rw [z])
      exact ⟨by rw [upd_ne hc]; exact so.1, so.2⟩
  · rcases List.mem_cons.mp hp with rfl | hp
    · exact ⟨f0, upd_same, n0, h0⟩
    · obtain ⟨p1, p2, p3, p4⟩ := R.lent p (List.mem_cons_of_mem _ hp)
      exact ⟨p1, by rw [upd_ne (hL p hp)]; exact p2, p3, p4⟩
  · have z := R.slot i y e
    cases y with
    | un => trivial
    | im d => exact z
    | ow ds =>
      obtain ⟨a, vs, q1, q2, q3, q4, q5, q6, q7⟩ := z
      have ha : a ≠ D := fun w => q6 _ List.mem_cons_self w.symm
      refine ⟨a, vs, q1, q2, by rw [upd_ne ha]; exact q3, q4, q5, fun p hp => ?_, q7⟩
      rcases List.mem_cons.mp hp with rfl | hp
      · exact fun w => ha w.symm
      · exact q6 p (List.mem_cons_of_mem _ hp)
    | ln ds =>
      obtain ⟨a, vs, q1, q2, q3⟩ := z
      have hi : i < env.length := (List.getElem?_eq_some_iff.mp e).1
      have : (i == n) = false := by simpa using by omega
      rw [List.lookup_cons, this] at q2
      refine ⟨a, vs, q1, ?_, q3⟩
      rw [List.lookup_cons, this]
      exact q2
    | sr => exact z
end
mutual
theorem bindT_length : ∀ {t : Tg} {d : D} {env env' : Env}, bindT t d env = some env' → env'.length = env.length
  | .nm i, d, env, env', h => by
    unfold bindT at h
    split at h
    · cases h
      exact List.length_set
    · cases h
  | .tp ts, d, env, env', h => by
    cases d <;> try (simp [bindT] at h; done)
    unfold bindT at h
    exact bindTs_length h
theorem bindTs_length : ∀ {ts : Tgs} {ds : List D} {env env' : Env}, bindTs ts ds env = some env' → env'.length = env.length
  | .nil, [], _, _, h => by
    simp only [bindTs, Option.some.injEq] at h
    rw [h]
  | .nil, _ :: _, _, _, h => by simp [bindTs] at h
  | .cons _ _, [], _, _, h => by simp [bindTs] at h
  | .cons t ts, d :: ds, env, env', h => by
    simp only [bindTs] at h
    obtain ⟨e1, h1, h2⟩ := Option.bind_eq_some_iff.mp h
    rw [bindTs_length h2, bindT_length h1]
end
theorem wipeE_length : ∀ (l : List Nat) (env : Env), (wipeE env l).length = env.length
  | [], _ => rfl
  | i :: r, env => by
    show ((wipeE env r).set i .un).length = _
    rw [List.length_set, wipeE_length r env]
/-- the outer walk -/
def lcI (t2 : Tg) (own2 : List Nat) (me : Env → M D) (env' : Env) : D → M (Option D) := fun d => match bindT t2 d (wipeE env' own2) with
  | some env2 => bnd (me env2) fun y => ret (some y)
  | Option.none => stuck
def lcO (t : Tg) (own : List Nat) (mi2 : Env → M (List D)) (t2 : Tg) (own2 : List Nat) (me : Env → M D) (env : Env) : D → M (List D) := fun d => match bindT t d (wipeE env own) with
  | some env' => bnd (mi2 env') fun ds2 => lcRun (lcI t2 own2 me env') ds2
  | Option.none => stuck
theorem bnd_ok {α β : Type} {m : M α} {f : α → M β} {s s' : SV} {y : β} (h : bnd m f s = .ok y s') : ∃ x s1, m s = .ok x s1 ∧ f x s1 = .ok y s' := by
  unfold bnd at h
  cases e : m s with
  | ok x s1 =>
    rw [e] at h
    exact ⟨x, s1, rfl, h⟩
  | er c s1 =>
    rw [e] at h
    cases h
  | no =>
    rw [e] at h
    cases h
theorem lc2_cn {σ : St} {H : Hp} {Q : VK} {F : Hp} {sa : Option Addr} {H0 : Hp} {L : List (Nat × Addr × List V)} {env : Env} {s : SV} {t t2 : Tg} {own own2 : List Nat} {mi2 : Env → M (List D)} {me : Env → M D} {ds : List D} {J : It} (hown : ∀ i ∈ tgv t, i ∈ own) (hown2 : ∀ i ∈ tgv t2, i ∈ own2) (Hs : Hp) (hn : ∀ p, H p = none → Hs p = none)
    (R : Rel X.K sa H0 L env s σ F H) (qi : qI X.K false sa Hs F H J ds) (c : Cn ex E sa F H s (bnd (noer (lcRun2 (lcO t own mi2 t2 own2 me env) ds)) fitM s) (RF X.K sa Hs) Q) :
    ∀ D, H D = none → ∃ W : Nat → Nat → Hp → Prop, (∃ m, W 0 m (upd H D (.lst []))) ∧ ∀ i m H, W i m H →
  (J.stop i H ∧ Q (.ref D) H) ∨ (J.go i H ∧ ∃ Nx : Hp → Prop, (∀ H', Nx H' → ∃ m', m' < m ∧ W (i + 1) m' H') ∧ ∀ x H', J.yld i H x H' → tGr X.K t x (L2.wipe σ own) H' fun σ2 H2 => L2.wipe σ2 own = L2.wipe σ own ∧ (fun (_ : St) H Q => Q true H : TT) σ2 H2 fun b H3 =>
    if b = true then tE X.K ex E0 mi2 (qI X.K false) σ2 H3 fun J1 H4 => ∃ W1 : Nat → Nat → Hp → Prop, (∃ m, W1 0 m H4) ∧ ∀ j k H, W1 j k H →
      (J1.stop j H ∧ Nx H) ∨ (J1.go j H ∧ ∃ Nx1 : Hp → Prop, (∀ H', Nx1 H' → ∃ k', k' < k ∧ W1 (j + 1) k' H') ∧ ∀ x H', J1.yld j H x H' → tGr X.K t2 x (L2.wipe σ2 own2) H' fun σ3 H5 => L2.wipe σ3 own2 = L2.wipe σ2 own2 ∧ (fun (_ : St) H Q => Q true H : TT) σ3 H5 fun b H6 =>
        if b = true then tE X.K ex E0 me (qD X.K) σ3 H6 fun y H7 => ∃ acc, H7 D = some (.lst acc) ∧ acc.length < sizeLine ∧ Nx1 (upd H7 D (.lst (acc ++ [y]))) else Nx1 H6)
    else Nx H3) := by
  intro D hD
  obtain ⟨bs, hbs0, hbs, hlen, wk⟩ := qi
  obtain rfl := hbs0 rfl
  have noB : ∀ (F H : Hp), BsOk sa F H [] := fun _ _ p hp => (nomatch hp)
  have hr : ∃ total sf, lcRun2 (lcO t own mi2 t2 own2 me env) ds s = .ok total sf ∧ sizeOk total.length = true ∧ Cn ex E sa F H s (.ok (PyData.list total) sf) (RF X.K sa Hs) Q := by
    unfold bnd noer at c
    cases e : lcRun2 (lcO t own mi2 t2 own2 me env) ds s with
    | ok total sf =>
      rw [e] at c
      have c : Cn ex E sa F H s (fitM total sf) (RF X.K sa Hs) Q := c
      unfold fitM at c
      by_cases h : sizeOk total.length = true
      · rw [if_pos h] at c
        exact ⟨total, sf, rfl, h, c⟩
      · rw [if_neg h] at c
        exact (Cn.no c).elim
    | er e' s' =>
      rw [e] at c
      exact c.elim
    | no =>
      rw [e] at c
      exact c.elim
  obtain ⟨total, sf, hrun, hsz, cf⟩ := hr
  have hsz : total.length ≤ sizeLine := by
    rw [sizeLine_eq]
    exact of_decide_eq_true hsz
  have hFD : F D = none := Same.none R.sub hD
  have hsD : sa ≠ some D := fun z => by
    have so := R.src
    rw [z] at so
    have z1 := so.1
    rw [hD] at z1
    cases z1
  have hLD : ∀ p ∈ L, p.2.1 ≠ D := fun p hp => ne_of_none (R.lent p hp).2.1 hD
  let n := env.length
  let st : Hp → Hp → SV → List V → List Wk.D → Prop := fun F' H' s' acc accd => Ext sa F H s F' H' s' ∧ Rel X.K sa (without H0 D) ((n, D, acc) :: L) env s' σ F' H' ∧ DpAll X.K F' acc accd
  have st_ext : ∀ {F' H' s' acc accd F'' H'' s''}, st F' H' s' acc accd → Ext sa F' H' s' F'' H'' s'' → st F'' H'' s'' acc accd := fun h x => ⟨h.1.trans x, h.2.1.ext x, h.2.2.mono x.ff⟩
  have st_at : ∀ {F' H' s' acc accd}, st F' H' s' acc accd → F' D = none ∧ H' D = some (.lst acc) := fun h => by
    obtain ⟨a, b, _⟩ := h.2.1.lent _ List.mem_cons_self
    exact ⟨a, b⟩
  refine ⟨fun i m H' => i + m = ds.length ∧ ∃ (F' : Hp) (s' : SV) (acc : List V) (accd : List Wk.D), st F' H' s' acc accd ∧ ∃ ys, lcRun2 (lcO t own mi2 t2 own2 me env) (ds.drop i) s' = .ok ys sf ∧ accd ++ ys = total,
    ⟨ds.length, by omega, F, s, [], [], ⟨Ext.newO R.sub R.src hD, R.lendD hD (Nat.le_refl _), .nil⟩, total, by rw [List.drop_zero]; exact hrun, rfl⟩, ?_⟩
  rintro i m H' ⟨him, F', s', acc, accd, S1, ys, hy, et⟩
  have x1 := S1.1
  by_cases hi : i = ds.length
  · left
    subst hi
    refine ⟨wk.stop F' H' x1.ff x1.sub (noB _ _), ?_⟩
    rw [List.drop_length] at hy
    have hy : Res.ok [] s' = Res.ok ys sf := hy
    cases hy
    rw [List.append_nil] at et
    subst et
    exact cf _ F' H' x1 ⟨D, acc, accd, rfl, rfl, hn _ hD, (st_at S1).1, (st_at S1).2, hsD, S1.2.2⟩
  · right
    have lt : i < ds.length := by omega
    refine ⟨wk.go i F' H' x1.ff x1.sub (noB _ _) lt, fun H'' => ∃ (F' : Hp) (s' : SV) (acc : List V) (accd : List Wk.D), st F' H'' s' acc accd ∧ ∃ ys, lcRun2 (lcO t own mi2 t2 own2 me env) (ds.drop (i + 1)) s' = .ok ys sf ∧ accd ++ ys = total,
      fun H'' w => ⟨m - 1, by omega, by omega, w⟩, fun x H2 yl => ?_⟩
    have hd : ds[i]? = some ds[i] := List.getElem?_eq_getElem lt
    obtain ⟨F2, x2, rx⟩ := wk.yld i F' H' s' x H2 _ x1.ff x1.sub x1.srcOk (noB _ _) yl hd
    rw [List.drop_eq_getElem_cons lt] at hy
    have S2 := st_ext S1 x2
    have hy : bnd (lcO t own mi2 t2 own2 me env ds[i]) (fun l => bnd (lcRun2 (lcO t own mi2 t2 own2 me env) (ds.drop (i + 1))) fun ys => ret (l ++ ys)) s' = .ok ys sf := hy
    obtain ⟨l1, s5, hg, hy⟩ := bnd_ok hy
    obtain ⟨ys', s6, hrest, hy⟩ := bnd_ok hy
    cases hy
    cases eb : bindT t ds[i] (wipeE env own) with
    | none =>
      unfold lcO at hg
      rw [eb] at hg
      cases hg
    | some env' =>
      unfold lcO at hg
      rw [eb] at hg
      obtain ⟨ds2, s4, hi2, hin⟩ := bnd_ok hg
      have el : env'.length = n := by rw [bindT_length eb, wipeE_length]
      refine ⟨F2, sa, without H0 D, _, _, s', _, env', S2.2.1.wipe own, rx, eb, fun σ2 R3 w2 => ⟨?_, ?_⟩⟩
      · rw [w2 own hown]
        exact wipe_wipe own fun i hi => hi
      · show (if true = true then _ else _)
        rw [if_pos rfl]
        refine ⟨F2, sa, without H0 D, _, env', s', R3, ?_⟩
        rw [hi2]
        rintro J1 F4 H4 x4 ⟨bs1, hb1, hbs1, hlen1, wk1⟩
        obtain rfl := hb1 rfl
        have S4 := st_ext S2 x4
        have R4 := R3.ext x4
        refine ⟨fun j k H' => j + k = ds2.length ∧ ∃ (F' : Hp) (s' : SV) (acc' : List V) (accd' : List Wk.D), st F' H' s' acc' accd' ∧ Rel X.K sa (without H0 D) ((n, D, acc') :: L) env' s' σ2 F' H' ∧ Same F4 F' ∧ ∃ l, lcRun (lcI t2 own2 me env') (ds2.drop j) s' = .ok l s5 ∧ accd' ++ l = accd ++ l1,
          ⟨ds2.length, by omega, F4, s4, acc, accd, S4, R4, Same.refl _, l1, by rw [List.drop_zero]; exact hin, rfl⟩, ?_⟩
        rintro j k H5 ⟨hjk, F5, s5', acc5, accd5, S5, R5, f5, l, hl, el5⟩
        by_cases hj : j = ds2.length
        · left
          subst hj
          rw [List.drop_length] at hl
          have hl : Res.ok [] s5' = Res.ok l s5 := hl
          cases hl
          rw [List.append_nil] at el5
          subst el5
          exact ⟨wk1.stop F5 H5 f5 S5.1.sub (noB _ _), F5, _, acc5, _, S5, ys', hrest, by rw [List.append_assoc]; exact et⟩
        · right
          have ltj : j < ds2.length := by omega
          refine ⟨wk1.go j F5 H5 f5 S5.1.sub (noB _ _) ltj, fun H' => ∃ (F' : Hp) (s' : SV) (acc' : List V) (accd' : List Wk.D), st F' H' s' acc' accd' ∧ Rel X.K sa (without H0 D) ((n, D, acc') :: L) env' s' σ2 F' H' ∧ Same F4 F' ∧ ∃ l, lcRun (lcI t2 own2 me env') (ds2.drop (j + 1)) s' = .ok l s5 ∧ accd' ++ l = accd ++ l1,
            fun H' w => ⟨k - 1, by omega, by omega, w⟩, fun y H6 yl2 => ?_⟩
          have hd2 : ds2[j]? = some ds2[j] := List.getElem?_eq_getElem ltj
          obtain ⟨F6, x6, ry⟩ := wk1.yld j F5 H5 s5' y H6 _ f5 S5.1.sub S5.1.srcOk (noB _ _) yl2 hd2
          rw [List.drop_eq_getElem_cons ltj] at hl
          have hl : bnd (lcI t2 own2 me env' ds2[j]) (fun o => bnd (lcRun (lcI t2 own2 me env') (ds2.drop (j + 1))) fun ys => ret (match o with
            | some y => y :: ys
            | Option.none => ys)) s5' = .ok l s5 := hl
          obtain ⟨o, s7, hgi, hl⟩ := bnd_ok hl
          obtain ⟨lr, s8, hlr, hl⟩ := bnd_ok hl
          cases eb2 : bindT t2 ds2[j] (wipeE env' own2) with
          | none =>
            unfold lcI at hgi
            rw [eb2] at hgi
            cases hgi
          | some env2 =>
            unfold lcI at hgi
            rw [eb2] at hgi
            obtain ⟨yd, s9, hme, hgi⟩ := bnd_ok hgi
            cases hgi
            have hl : Res.ok (yd :: lr) s8 = Res.ok l s5 := hl
            cases hl
            have S6 := st_ext S5 x6
            have R6 := R5.ext x6
            refine ⟨F6, sa, without H0 D, _, _, s5', _, env2, R6.wipe own2, ry, eb2, fun σ3 R7 w3 => ⟨?_, ?_⟩⟩
            · rw [w3 own2 hown2]
              exact wipe_wipe own2 fun i hi => hi
            · show (if true = true then _ else _)
              rw [if_pos rfl]
              refine ⟨F6, sa, without H0 D, _, env2, s5', R7, ?_⟩
              rw [hme]
              intro v F8 H8 x8 rv
              have S8 := st_ext S6 x8
              have R8 := R6.ext x8
              have la : acc5.length < sizeLine := by
                have e1 := congrArg List.length el5
                have e2 := congrArg List.length et
                simp only [List.length_append, List.length_cons] at e1 e2
                rw [S8.2.2.length]
                omega
              have fD := st_at S8
              refine ⟨acc5, fD.2, la, F8, _, acc5 ++ [v], accd5 ++ [yd], ⟨S8.1.own hD fD.1 hsD, ?_, S8.2.2.append (.cons rv .nil)⟩, ?_, f5.trans (x6.ff.trans x8.ff), lr, hlr, by rw [List.append_assoc]; exact el5⟩
              · exact Rel.accD (Nat.le_refl _) hLD S8.2.1 _
              · exact Rel.accD (Nat.le_of_eq el) hLD R8 _
theorem de_lc2 {elt tg iter tg1 iter1 : Expr} {scope : Scope} {ow : List (Str × Nat)} {pos : Pos} {t t2 : Tg} {own own2 : List Nat} {mi mi2 : Env → M (List D)} {me : Env → M D} (hc : X.calm = true) (hN : X.N.Nodup) (hi : PI X tg iter (tE X.K ex E mi (qI X.K false))) (ok : BlkOk X.N X.env.scope scope ow) (ho : ow.map (·.2) = own) (hown : ∀ i ∈ tgv t, i ∈ own) (hown2 : ∀ i ∈ tgv t2, i ∈ own2) (hsub : ∀ i ∈ own2, i ∈ own)
    (hg : ∀ (s : Shared) (H : Hp) (C : Addr) (cl : List (Str × Addr)) (fp : List Addr), PG (X.blk s H scope (compEnvC scope cl C X.env) fp) tg (tGr X.K t))
    (hi1 : ∀ (s : Shared) (H : Hp) (C : Addr) (cl : List (Str × Addr)) (fp : List Addr), PI (X.blk s H scope (compEnvC scope cl C X.env) fp) tg1 iter1 (tE X.K ex E0 mi2 (qI X.K false)))
    (hg1 : ∀ (s : Shared) (H : Hp) (C : Addr) (cl : List (Str × Addr)) (fp : List Addr), PG (X.blk s H scope (compEnvC scope cl C X.env) fp) tg1 (tGr X.K t2))
    (he : ∀ (s : Shared) (H : Hp) (C : Addr) (cl : List (Str × Addr)) (fp : List Addr), PE (X.blk s H scope (compEnvC scope cl C X.env) fp) elt (tE X.K ex E0 me (qD X.K))) (hs : ∀ x, foldedSetIterable iter X.env x = pure x) (hs1 : ∀ env x, foldedSetIterable iter1 env x = pure x) :
    PE X (.ListComp elt [⟨tg, iter, [], 0⟩, ⟨tg1, iter1, [], 0⟩] scope pos) (tE X.K ex E (fun env => bnd (mi env) fun ds => bnd (noer (lcRun2 (lcO t own mi2 t2 own2 me env) ds)) fitM) (qF X.K)) := by
  refine PE.imp (pe_lc2 hc hN hi ok (by rw [ho]; exact hsub) hg (fun s H C cl fp => pts_nil) hi1 hg1 (fun s H C cl fp => pts_nil) he hs hs1) fun σ H Q hh => ?_
  obtain ⟨F, sa, H0, L, env, s, R, c⟩ := hh
  refine ⟨F, sa, H0, L, env, s, R, c.bnd fun J F1 H1 s1 ds x1 qi c1 => ?_⟩
  rw [ho]
  exact lc2_cn (X := X) hown hown2 H (fun p hp => x1.none R.sub hp) (R.ext x1) (by
    obtain ⟨bs, a, b, d, w⟩ := qi
    exact ⟨bs, a, b, d, w⟩) c1
/-- y = [.. for .. for ..], y a plain local -/
theorem ds_setLc2 {i : Nat} {y : Str} {py : Pos} {elt tg iter tg1 iter1 : Expr} {scope : Scope} {ow : List (Str × Nat)} {pos spos : Pos} {t t2 : Tg} {own own2 : List Nat} {mi mi2 : Env → M (List D)} {me : Env → M D} (hc : X.calm = true) (hN : X.N.Nodup) (hy : X.N[i]? = some y) (hyl : X.env.scope.names.lookup y = some .local)
    (hsw : swapsWith (.ListComp elt [⟨tg, iter, [], 0⟩, ⟨tg1, iter1, [], 0⟩] scope pos) (some (.Name y py)) spos.line X.env = pure true) (hi : PI X tg iter (tE X.K ex E mi (qI X.K false))) (ok : BlkOk X.N X.env.scope scope ow) (ho : ow.map (·.2) = own) (hown : ∀ i ∈ tgv t, i ∈ own) (hown2 : ∀ i ∈ tgv t2, i ∈ own2) (hsub : ∀ i ∈ own2, i ∈ own)
    (hg : ∀ (s : Shared) (H : Hp) (C : Addr) (cl : List (Str × Addr)) (fp : List Addr), PG (X.blk s H scope (compEnvC scope cl C X.env) fp) tg (tGr X.K t))
    (hi1 : ∀ (s : Shared) (H : Hp) (C : Addr) (cl : List (Str × Addr)) (fp : List Addr), PI (X.blk s H scope (compEnvC scope cl C X.env) fp) tg1 iter1 (tE X.K ex E0 mi2 (qI X.K false)))
    (hg1 : ∀ (s : Shared) (H : Hp) (C : Addr) (cl : List (Str × Addr)) (fp : List Addr), PG (X.blk s H scope (compEnvC scope cl C X.env) fp) tg1 (tGr X.K t2))
    (he : ∀ (s : Shared) (H : Hp) (C : Addr) (cl : List (Str × Addr)) (fp : List Addr), PE (X.blk s H scope (compEnvC scope cl C X.env) fp) elt (tE X.K ex E0 me (qD X.K))) (hs : ∀ x, foldedSetIterable iter X.env x = pure x) (hs1 : ∀ env x, foldedSetIterable iter1 env x = pure x) :
    PS X (.Assign [.Name y py] (.ListComp elt [⟨tg, iter, [], 0⟩, ⟨tg1, iter1, [], 0⟩] scope pos) spos) (tAsg (tE X.K ex E (fun env => bnd (mi env) fun ds => bnd (noer (lcRun2 (lcO t own mi2 t2 own2 me env) ds)) fitM) (qF X.K)) (gName i)) := by
  refine PS.imp (ps_setLc2 hc hN hy hyl hsw hi ok (by rw [ho]; exact hsub) hg (fun s H C cl fp => pts_nil) hi1 hg1 (fun s H C cl fp => pts_nil) he hs hs1) fun D σ H hh => ?_
  obtain ⟨F, sa, H0, L, env, s, R, c⟩ := hh
  refine ⟨F, sa, H0, L, env, s, R, c.bnd fun J F1 H1 s1 ds x1 qi c1 => ?_⟩
  rw [ho]
  exact lc2_cn (X := X) hown hown2 H (fun p hp => x1.none R.sub hp) (R.ext x1) (by
    obtain ⟨bs, a, b, d, w⟩ := qi
    exact ⟨bs, a, b, d, w⟩) c1
end Wk
set_option maxRecDepth 100000
set_option maxHeartbeats 4000000
/-! WC1: when a term is what an expression says -/
namespace Wk
open PySem PySem.Spec PyProof.Rows L2
def lineEq (a b : Pos) : Bool := a.endLine == b.line
def baseOk : Expr → Bool
  | .Call (.Name _ _) [] [] _ => false
  | _ => true
theorem base_of {o : Expr} (h : baseOk o = true) (attr : Str) (env : PySem.Env) (w : Sem Value) : attributeBase o attr env w = w := by
  unfold attributeBase
  split
  · cases h
  · rfl
def opOf : BOp → Operator
  | .add => .Add
  | .sub => .Sub
  | .mul => .Mult
  | .fdiv => .FloorDiv
  | .mod => .Mod
  | .pow => .Pow
def copOf : COp → CmpOp
  | .eq => .Eq
  | .ne => .NotEq
  | .lt => .Lt
  | .le => .LtE
  | .gt => .Gt
  | .ge => .GtE
  | .is => .Is
  | .isnot => .IsNot
  | .in => .In
  | .notin => .NotIn
def nmB : B1 → Str
  | .len => "len"
  | .sum => "sum"
  | .max => "max"
  | .min => "min"
  | .any => "any"
  | .all => "all"
  | .sorted => "sorted"
  | .tuple => "tuple"
  | .list => "list"
  | .int => "int"
  | .str => "str"
def notDbg (x : Str) : Bool := !(x == ("__debug__" : Str)) && !(x == ("__classdict__" : Str))
def visK (sc : Scope) (x : Str) : Bool := match sc.names.lookup x with
  | some .local => true
  | some .cell => true
  | some .free => true
  | _ => false
def visB (N : List Str) (sc : Scope) (i : Nat) (x : Str) : Bool := decide (N[i]? = some x) && (visK sc x && notDbg x)
def glB (sc : Scope) (x : Str) : Bool := match sc.names.lookup x with
  | some .globalImplicit => true
  | _ => false
def noSet : Expr → Bool
  | .Set _ _ _ => false
  | _ => true
def plainIx : Expr → Bool
  | .Slice _ _ _ _ => false
  | _ => true
def isTup : Expr → Bool
  | .Tuple _ _ _ => true
  | _ => false
def notBv : IE → Bool
  | .bv _ => false
  | _ => true
/-- what a caller's check looks at -/
structure Sg where
  name : Str
  np : Nat
  src : Bool
  fresh : Bool
def FnI.sg (I : FnI) : Sg := ⟨I.name, I.np, I.src, I.fresh⟩
abbrev sgs (T : List FnI) : List Sg := T.map FnI.sg
theorem sgs_get {T : List FnI} {f : Nat} {I : FnI} (h : T[f]? = some I) : (sgs T)[f]? = some I.sg := by
  rw [List.getElem?_map, h]
  rfl
theorem sgs_none {T : List FnI} {f : Nat} (h : T[f]? = none) : (sgs T)[f]? = none := by
  rw [List.getElem?_map, h]
  rfl
def isFr (T : List Sg) : IE → Bool
  | .lst _ => true
  | .rep _ _ => true
  | .rngl _ => true
  | .lc _ _ _ _ _ => true
  | .lc2 _ _ _ _ _ _ _ => true
  | .call f _ => match T[f]? with
    | some I => I.fresh
    | none => false
  | .callS f _ _ => match T[f]? with
    | some I => I.fresh
    | none => false
  | .b1 .sorted _ => true
  | .b1 .list _ => true
  | _ => false
def tstOk : IE → Bool
  | .ite _ _ _ => false
  | _ => true
def tsts : IEs → Bool
  | .nil => true
  | .cons e es => tstOk e && tsts es
def owOf (N : List Str) (own : List Nat) : List (Str × Nat) := own.filterMap fun i => N[i]?.map fun x => (x, i)
def nonil {α : Type} : List α → Bool
  | [] => false
  | _ => true
def subB (a b : List Nat) : Bool := a.all fun i => b.contains i
mutual
def ckE (T : List Sg) (cs : List (Str × Int)) (N : List Str) (sc : Scope) : IE → Expr → Bool
  | .var i, x => match x with
    | .Name y _ => visB N sc i y
    | _ => false
  | .bv i, x => match x with
    | .Name y _ => visB N sc i y
    | _ => false
  | .int n, x => match x with
    | .Constant (.int m) _ _ => decide (n = m)
    | _ => false
  | .bool b, x => match x with
    | .Constant (.bool c) _ _ => decide (b = c)
    | _ => false
  | .non, x => match x with
    | .Constant .none _ _ => true
    | _ => false
  | .str s, x => match x with
    | .Constant (.str t) _ _ => decide (s = t)
    | _ => false
  | .glob y n, x => match x with
    | .Name z _ => decide (y = z) && (glB sc z && (cs.contains (y, n) && notDbg z))
    | _ => false
  | .bin op a b, x => match x with
    | .BinOp l o r _ => decide (o = opOf op) && (ckE T cs N sc a l && ckE T cs N sc b r)
    | _ => false
  | .neg a, x => match x with
    | .UnaryOp .USub l _ => ckE T cs N sc a l
    | _ => false
  | .cmp op a b, x => match x with
    | .Compare l [o] [r] _ => decide (o = copOf op) && (noSet r && (ckE T cs N sc a l && ckE T cs N sc b r))
    | _ => false
  | .chain op op' a b c, x => match x with
    | .Compare l [o, o'] [r, z] _ => (decide (o = copOf op) && decide (o' = copOf op')) && (noSet z && (ckE T cs N sc a l && (ckE T cs N sc b r && ckE T cs N sc c z)))
    | _ => false
  | .not a, x => match x with
    | .UnaryOp .Not l _ => tstOk a && ckE T cs N sc a l
    | _ => false
  | .and es, x => match x with
    | .BoolOp .And xs _ => nonil xs && (tsts es && ckEs T cs N sc es xs)
    | _ => false
  | .or es, x => match x with
    | .BoolOp .Or xs _ => nonil xs && (tsts es && ckEs T cs N sc es xs)
    | _ => false
  | .ite c a b, x => match x with
    | .IfExp z l r _ => (tstOk c && (notBv a && notBv b)) && (ckE T cs N sc c z && (ckE T cs N sc a l && ckE T cs N sc b r))
    | _ => false
  | .tup es, x => match x with
    | .Tuple xs _ _ => decide (xs.length ≤ 1000) && ckEs T cs N sc es xs
    | _ => false
  | .lst es, x => match x with
    | .List xs _ => decide (xs.length ≤ 1000) && ckEs T cs N sc es xs
    | _ => false
  | .ix a i, x => match x with
    | .Subscript l r _ => plainIx r && (ckE T cs N sc a l && ckE T cs N sc i r)
    | _ => false
  | .sl a lo hi, x => match x with
    | .Subscript l (.Slice p q none _) _ => ckE T cs N sc a l && (ckP T cs N sc lo p && ckP T cs N sc hi q)
    | _ => false
  | .rep es n, x => match x with
    | .BinOp (.List xs _) .Mult r _ => decide (xs.length ≤ 1000) && (ckEs T cs N sc es xs && ckE T cs N sc n r)
    | _ => false
  | .rev a, x => match x with
    | .Subscript l (.Slice none none (some (.UnaryOp .USub (.Constant (.int 1) _ _) _)) _) _ => ckE T cs N sc a l
    | _ => false
  | .call f es, x => match x with
    | .Call (.Name y _) xs [] _ => (match T[f]? with
      | some I => decide (y = I.name) && (!I.src && decide (xs.length = I.np))
      | none => false) && ((glB sc y && (notDbg y && notStars xs)) && ckEs T cs N sc es xs)
    | _ => false
  | .callS f i es, x => match x with
    | .Call (.Name y _) (.Name z _ :: xs) [] _ => (match T[f]? with
      | some I => decide (y = I.name) && (I.src && decide (xs.length + 1 = I.np))
      | none => false) && ((glB sc y && (notDbg y && (visB N sc i z && notStars xs))) && ckEs T cs N sc es xs)
    | _ => false
  | .b1 b a, x => match x with
    | .Call (.Name y _) [z] [] _ => decide (y = nmB b) && (glB sc y && (notStar z && ckE T cs N sc a z))
    | _ => false
  | .rngl it, x => match x with
    | .Call (.Name y _) [.Call (.Name z _) xs [] _] [] _ => (decide (y = "list") && (decide (z = "range") && (glB sc y && glB sc z))) && (match it with
      | .rng1 a => match xs with
        | [u] => notStar u && ckE T cs N sc a u
        | _ => false
      | .rng2 a b => match xs with
        | [u, v] => notStars [u, v] && (ckE T cs N sc a u && ckE T cs N sc b v)
        | _ => false
      | _ => false)
    | _ => false
  | .max2 a b, x => match x with
    | .Call (.Name y _) [u, v] [] _ => (decide (y = "max") && (glB sc y && (notStars [u, v] && (notBv a && notBv b)))) && (ckE T cs N sc a u && ckE T cs N sc b v)
    | _ => false
  | .min2 a b, x => match x with
    | .Call (.Name y _) [u, v] [] _ => (decide (y = "min") && (glB sc y && (notStars [u, v] && (notBv a && notBv b)))) && (ckE T cs N sc a u && ckE T cs N sc b v)
    | _ => false
  | .max3 a b c, x => match x with
    | .Call (.Name y _) [u, v, w] [] _ => (decide (y = "max") && (glB sc y && (notStars [u, v, w] && (notBv a && (notBv b && notBv c))))) && (ckE T cs N sc a u && (ckE T cs N sc b v && ckE T cs N sc c w))
    | _ => false
  | .isi a t, x => match x with
    | .Call (.Name y _) [u, .Name v _] [] _ => (decide (y = "isinstance") && (decide (v = Str.ofString (nmTy t)) && (glB sc y && (glB sc v && notStar u)))) && ckE T cs N sc a u
    | _ => false
  | .isi2 a t t', x => match x with
    | .Call (.Name y _) [u, .Tuple [.Name v _, .Name w _] _ _] [] _ => (decide (y = "isinstance") && (decide (v = Str.ofString (nmTy t)) && (decide (w = Str.ofString (nmTy t')) && (glB sc y && (glB sc v && (glB sc w && notStar u)))))) && ckE T cs N sc a u
    | _ => false
  | .lc t it ifs e own, x => match x with
    | .ListComp elt [⟨tg, iter, xs, 0⟩] scope _ => (noSet iter && (decide ((owOf N own).map (·.2) = own) && (blkC N sc scope (owOf N own) && (subB (tgv t) own && (ckT N scope t tg && notBv e))))) && (ckI T cs N sc true it tg iter && (((tsts ifs && decide (xs.length ≤ 1)) && ckEs T cs N (relS scope sc) ifs xs) && ckE T cs N (relS scope sc) e elt))
    | _ => false
  | .lc2 t it t2 it2 e own own2, x => match x with
    | .ListComp elt [⟨tg, iter, [], 0⟩, ⟨tg1, iter1, [], 0⟩] scope _ => ((noSet iter && noSet iter1) && (decide ((owOf N own).map (·.2) = own) && (blkC N sc scope (owOf N own) && ((subB (tgv t) own && (subB (tgv t2) own2 && subB own2 own)) && ((ckT N scope t tg && ckT N scope t2 tg1) && notBv e))))) && (ckI T cs N sc false it tg iter && (ckI T cs N (relS scope sc) false it2 tg1 iter1 && ckE T cs N (relS scope sc) e elt))
    | _ => false
  | .callB f a b, x => match x with
    | .Call (.Name y _) [u, v] [] _ => (match T[f]? with
      | some I => decide (y = I.name) && (!I.src && decide (I.np = 2))
      | none => false) && ((glB sc y && (notDbg y && notStars [u, v])) && (ckE T cs N sc a u && ckE T cs N sc b v))
    | _ => false
  | .mcnt a b, x => match x with
    | .Call (.Attribute o y ap) [v] [] cp => (decide (y = "count") && (baseOk o && (lineEq ap cp && notStar v))) && (ckE T cs N sc a o && ckE T cs N sc b v)
    | _ => false
  | .midx a b, x => match x with
    | .Call (.Attribute o y ap) [v] [] cp => (decide (y = "index") && (baseOk o && (lineEq ap cp && notStar v))) && (ckE T cs N sc a o && ckE T cs N sc b v)
    | _ => false
  | .src i k, x => match x with
    | .Subscript (.Name y _) (.Constant (.int m) _ _) _ => visB N sc i y && decide (m = (k : Nat))
    | _ => false
def ckEs (T : List Sg) (cs : List (Str × Int)) (N : List Str) (sc : Scope) : IEs → List Expr → Bool
  | .nil, xs => match xs with
    | [] => true
    | _ => false
  | .cons e es, xs => match xs with
    | [] => false
    | x :: xs => (notStar x && notBv e) && (ckE T cs N sc e x && ckEs T cs N sc es xs)
def ckP (T : List Sg) (cs : List (Str × Int)) (N : List Str) (sc : Scope) : IP → Option Expr → Bool
  | .no, x => match x with
    | none => true
    | some _ => false
  | .at e, x => match x with
    | none => false
    | some x => ckE T cs N sc e x
def ckI (T : List Sg) (cs : List (Str × Int)) (N : List Str) (sc : Scope) (bb : Bool) : II → Expr → Expr → Bool
  | .seq e, _, x => (bb || notBv e) && (noSet x && ckE T cs N sc e x)
  | .rng1 a, _, x => match x with
    | .Call (.Name y _) [u] [] _ => decide (y = "range") && (glB sc y && (notStar u && ckE T cs N sc a u))
    | _ => false
  | .rng2 a b, _, x => match x with
    | .Call (.Name y _) [u, v] [] _ => decide (y = "range") && (glB sc y && (notStars [u, v] && (ckE T cs N sc a u && ckE T cs N sc b v)))
    | _ => false
  | .enm a, tg, x => match x with
    | .Call (.Name y _) [u] [] _ => (isTup tg && (bb || notBv a)) && (decide (y = "enumerate") && (glB sc y && (notStar u && ckE T cs N sc a u)))
    | _ => false
  | .zip a b, tg, x => match x with
    | .Call (.Name y _) [u, v] [] _ => (isTup tg && ((bb || notBv a) && (bb || notBv b))) && (decide (y = "zip") && (glB sc y && (notStars [u, v] && (ckE T cs N sc a u && ckE T cs N sc b v))))
    | _ => false
end
def lenEs : IEs → Nat
  | .nil => 0
  | .cons _ es => lenEs es + 1
theorem evs_len (G : Sems) : ∀ (es : IEs) (env : Env) (s : SV) (ds : List D) (s' : SV), evs G es env s = .ok ds s' → ds.length = lenEs es
  | .nil, _, _, _, _, h => by
    simp only [evs] at h
    cases h
    rfl
  | .cons e es, env, s, ds, s', h => by
    simp only [evs] at h
    unfold bnd at h
    cases e1 : ev G e env s with
    | no =>
      rw [e1] at h
      cases h
    | er e' s'' =>
      rw [e1] at h
      cases h
    | ok x s1 =>
      rw [e1] at h
      dsimp only at h
      cases e2 : evs G es env s1 with
      | no =>
        rw [e2] at h
        cases h
      | er e' s'' =>
        rw [e2] at h
        cases h
      | ok xs s2 =>
        rw [e2] at h
        cases h
        exact congrArg (· + 1) (evs_len G es env s1 xs s' e2)
theorem ckEs_len {T : List Sg} {cs : List (Str × Int)} {N : List Str} {sc : Scope} : ∀ {es : IEs} {xs : List Expr}, ckEs T cs N sc es xs = true → lenEs es = xs.length
  | .nil, [], _ => rfl
  | .nil, _ :: _, h => by simp [ckEs] at h
  | .cons _ _, [], h => by simp [ckEs] at h
  | .cons e es, x :: xs, h => by
    simp only [ckEs, Bool.and_eq_true] at h
    exact congrArg (· + 1) (ckEs_len h.2.2)
section
variable {ex : ExV} {E : XK} {X : Cx} {T : List FnI} {cs : List (Str × Int)} {N : List Str} {sc st : Scope}
theorem Fx.gl (fx : Fx T ex cs N X E sc st) {x : Str} (h : glB sc x = true) : Gl X x := by
  show X.env.scope.names.lookup x = _
  rw [fx.sc]
  unfold glB at h
  split at h
  · assumption
  · cases h
theorem Fx.vis (fx : Fx T ex cs N X E sc st) {i : Nat} {x : Str} (h : visB N sc i x = true) : X.N[i]? = some x ∧ Vis X.env.scope x ∧ (x == ("__debug__" : Str)) = false ∧ (x == ("__classdict__" : Str)) = false := by
  unfold visB notDbg visK at h
  simp only [Bool.and_eq_true, decide_eq_true_eq, Bool.not_eq_true'] at h
  refine ⟨by rw [fx.nm]; exact h.1, ?_, h.2.2.1, h.2.2.2⟩
  unfold Vis
  rw [fx.sc]
  have q := h.2.1
  split at q <;> first | (rename_i e; exact .inl e) | (rename_i e; exact .inr (.inl e)) | (rename_i e; exact .inr (.inr e)) | cases q
theorem noSet_mark {op : CmpOp} {e : Expr} (h : noSet e = true) : behindInMarks op e = false := by
  cases e <;> first | rfl | cases h
theorem noSet_fold {e : Expr} {env : PySem.Env} (h : noSet e = true) : ∀ x, foldedSetIterable e env x = pure x := by
  intro x
  cases e <;> first | rfl | cases h
theorem plain_ix {e : Expr} (h : plainIx e = true) : PlainIx e := by
  cases e <;> first | (intro o i; rfl) | cases h
end
end Wk
set_option maxRecDepth 100000
set_option maxHeartbeats 4000000
/-! WC2: the terms tell the expressions -/
namespace Wk
open PySem PySem.Spec PyProof.Rows L2
section
variable {ex : ExV} {E : XK} {X : Cx} {T : List FnI} {cs : List (Str × Int)} {N : List Str} {sc st : Scope}
/-! ### the source read -/
theorem de_src {i k : Nat} {y : Str} {kk : Nat} {p p2 pos : Pos} (hv : X.N[i]? = some y ∧ Vis X.env.scope y ∧ (y == ("__debug__" : Str)) = false ∧ (y == ("__classdict__" : Str)) = false) :
    PE X (.Subscript (.Name y p) (.Constant (.int (k : Nat)) kk p2) pos) (tE X.K ex E (fun env => srcD env i k) (qD X.K)) := by
  refine PE.imp (pe_ix ix_list (pe_var hv.1 hv.2.1 hv.2.2.1 hv.2.2.2) pe_int (plain_ix rfl)) fun σ H Q h => ?_
  obtain ⟨F, sa, H0, L, env, s, R, c⟩ := h
  have sl := R.slot i
  replace c : Cn ex E sa F H s (srcD env i k s) (RD X.K) Q := c
  unfold srcD at c
  cases e : env[i]? with
  | none =>
    rw [e] at c
    exact (Cn.no c).elim
  | some y =>
    rw [e] at c
    cases y with
    | sr =>
      obtain ⟨a, e1, e2⟩ := sl _ e
      have so := R.src
      rw [e1] at so
      dsimp only at c
      by_cases hk : k < 3
      · rw [if_pos hk] at c
        refine ⟨_, e2, a, _, _, _, rfl, rfl, SqL.of so.1, ?_, c (.int (srcAt s k)) F H (Ext.refl R.sub R.src) (.int _)⟩
        refine atI_nat ?_
        match k, hk with
        | 0, _ => rfl
        | 1, _ => rfl
        | 2, _ => rfl
      · rw [if_neg hk] at c
        exact (Cn.no c).elim
    | im d => exact (Cn.no c).elim
    | un => exact (Cn.no c).elim
    | ow ds => exact (Cn.no c).elim
    | ln ds => exact (Cn.no c).elim
/-! ### what is known of a term and its expression -/
structure OkE (T : List FnI) (ex : ExV) (X : Cx) (E : XK) (e : IE) (x : Expr) : Prop where
  b : PE X x (tE X.K ex E (ev (semsOf T) e) (qB X.K))
  d : notBv e = true → PE X x (tE X.K ex E (ev (semsOf T) e) (qD X.K))
  f : isFr (sgs T) e = true → PE X x (tE X.K ex E (ev (semsOf T) e) (qF X.K))
  t : tstOk e = true → PT X x (tE X.K ex E (mT (ev (semsOf T) e)) qT)
abbrev PlainT (X : Cx) (x : Expr) : Prop := ∀ whole, isTrue x X.env whole = (do let v ← whole; standAt x.pos; holding [v] (truthy v))
theorem OkE.ofD {e : IE} {x : Expr} {m : Env → M D} (hm : ∀ env, ev (semsOf T) e env = m env) (h : PE X x (tE X.K ex E m (qD X.K))) (hf : isFr (sgs T) e = false) (ht : PlainT X x) : OkE T ex X E e x := by
  have hm : ev (semsOf T) e = m := funext hm
  refine ⟨?_, fun _ => ?_, fun z => ?_, fun _ => ?_⟩
  · rw [hm]
    exact de_b h
  · rw [hm]
    exact h
  · rw [hf] at z
    cases z
  · rw [hm]
    exact dt_of (de_b h) ht
theorem OkE.ofDT {e : IE} {x : Expr} {m : Env → M D} (hm : ∀ env, ev (semsOf T) e env = m env) (h : PE X x (tE X.K ex E m (qD X.K))) (hf : isFr (sgs T) e = false) (ht : tstOk e = true → PT X x (tE X.K ex E (mT m) qT)) : OkE T ex X E e x := by
  have hm : ev (semsOf T) e = m := funext hm
  refine ⟨?_, fun _ => ?_, fun z => ?_, fun z => ?_⟩
  · rw [hm]
    exact de_b h
  · rw [hm]
    exact h
  · rw [hf] at z
    cases z
  · rw [hm]
    exact ht z
theorem OkE.ofF {e : IE} {x : Expr} {m : Env → M D} (hm : ∀ env, ev (semsOf T) e env = m env) (h : PE X x (tE X.K ex E m (qF X.K))) (ht : PlainT X x) : OkE T ex X E e x := by
  have hm : ev (semsOf T) e = m := funext hm
  refine ⟨?_, fun _ => ?_, fun z => ?_, fun _ => ?_⟩
  · rw [hm]
    exact de_b (de_f h)
  · rw [hm]
    exact de_f h
  · rw [hm]
    exact h
  · rw [hm]
    exact dt_of (de_b (de_f h)) ht
theorem OkE.ofB {e : IE} {x : Expr} {m : Env → M D} (hm : ∀ env, ev (semsOf T) e env = m env) (h : PE X x (tE X.K ex E m (qB X.K))) (hb : notBv e = false) (hf : isFr (sgs T) e = false) (ht : PlainT X x) : OkE T ex X E e x := by
  have hm : ev (semsOf T) e = m := funext hm
  refine ⟨?_, fun z => ?_, fun z => ?_, fun _ => ?_⟩
  · rw [hm]
    exact h
  · rw [hb] at z
    cases z
  · rw [hf] at z
    cases z
  · rw [hm]
    exact dt_of h ht
theorem OkE.ofFr {e : IE} {x : Expr} {m : Env → M D} {fr : Bool} (hm : ∀ env, ev (semsOf T) e env = m env) (h : PE X x (tE X.K ex E m (qFr X.K fr))) (hf : isFr (sgs T) e = fr) (ht : PlainT X x) : OkE T ex X E e x := by
  cases fr with
  | true => exact .ofF hm h ht
  | false => exact .ofD hm h hf ht
/-- .. of several -/
structure OkEs (T : List FnI) (ex : ExV) (X : Cx) (E : XK) (es : IEs) (xs : List Expr) : Prop where
  a : PA X xs (tE X.K ex E (evs (semsOf T) es) (qL X.K))
  an : nonil xs = true → ∀ pos, PE X (.BoolOp .And xs pos) (tE X.K ex E (evAnd (semsOf T) es) (qD X.K))
  or : nonil xs = true → ∀ pos, PE X (.BoolOp .Or xs pos) (tE X.K ex E (evOr (semsOf T) es) (qD X.K))
  anT : nonil xs = true → tsts es = true → ∀ pos, PW X (.BoolOp .And xs pos) (tE X.K ex E (mT (evAnd (semsOf T) es)) qT)
  orT : nonil xs = true → tsts es = true → ∀ pos, PW X (.BoolOp .Or xs pos) (tE X.K ex E (mT (evOr (semsOf T) es)) qT)
  one : ∀ x, xs = [x] → tsts es = true → PT X x (tE X.K ex E (evIf (semsOf T) es) qT)
theorem semsOf_get {f : Nat} {I : FnI} (h : T[f]? = some I) : semsOf T f = I.sem := by
  unfold semsOf
  rw [h]
theorem o_bin (fx : Fx T ex cs N X E sc st) (op : BOp) : Op2 X ex E (binaryOp (opOf op)) (binD op) (qD X.K) := by
  cases op
  · exact o_add
  · exact o_sub
  · exact o_mul
  · exact o_fdiv
  · exact o_mod
  · exact o_pow
theorem o_cmpD (fx : Fx T ex cs N X E sc st) (op : COp) : Op2 X ex E (compareOp (copOf op)) (cmpD op) (qD X.K) := by
  cases op
  · exact o_eq fx.units
  · exact o_ne fx.units
  · exact o_lt
  · exact o_le
  · exact o_gt
  · exact o_ge
  · exact o_is
  · exact o_isnot
  · exact o_in fx.units
  · exact o_notin fx.units
theorem Blt.ty {mg : Str → Option Value} (b : Blt mg) (t : Ty) : mg (Str.ofString (nmTy t)) = none := by
  cases t
  · exact b.int
  · exact b.bool
  · exact b.str
  · exact b.list
  · exact b.tuple
theorem dbg1 {x : Str} (h : notDbg x = true) : (x == ("__debug__" : Str)) = false := by
  unfold notDbg at h
  simp only [Bool.and_eq_true, Bool.not_eq_true'] at h
  exact h.1
theorem de_neg {a : Expr} {pos : Pos} {m : Env → M D} (ha : PE X a (tE X.K ex E m (qB X.K))) : PE X (.UnaryOp .USub a pos) (tE X.K ex E (fun env => bnd (m env) fun x => negD x) (qD X.K)) := by
  refine PE.imp (pe_un un_neg ha) fun σ H Q h => ?_
  obtain ⟨F, sa, H0, L, env, s, R, c⟩ := h
  refine ⟨F, sa, H0, L, env, s, R, c.bnd fun x F1 H1 s1 d x1 b1 c1 => ?_⟩
  cases d <;> try exact (Cn.no c1).elim
  cases Bp.int b1
  exact ⟨_, rfl, Cn.value (d := .int _) c1 x1.sub x1.srcOk (.int _)⟩
theorem de_b1 (fx : Fx T ex cs N X E sc st) (b : B1) {a : Expr} {p pos : Pos} {ma : Env → M D} (ha : PE X a (tE X.K ex E ma (qB X.K))) (hg : Gl X (nmB b)) (hst : notStar a = true) :
    PE X (.Call (.Name (nmB b) p) [a] [] pos) (tE X.K ex E (fun env => bnd (ma env) fun x => b1D b x) (if isFr (sgs T) (.b1 b (.non)) = true then qF X.K else qD X.K)) := by
  cases b
  · exact de_b1B u_len hg fx.blt.len (by decide +kernel) ha hst (by decide) (by decide)
  · exact de_b1B (u_sum fx.calm) hg fx.blt.sum (by decide +kernel) ha hst (by decide) (by decide)
  · exact de_b1B (u_max fx.calm) hg fx.blt.max (by decide +kernel) ha hst (by decide) (by decide)
  · exact de_b1B (u_min fx.calm) hg fx.blt.min (by decide +kernel) ha hst (by decide) (by decide)
  · exact de_b1B (u_any fx.calm) hg fx.blt.any (by decide +kernel) ha hst (by decide) (by decide)
  · exact de_b1B (u_all fx.calm) hg fx.blt.all (by decide +kernel) ha hst (by decide) (by decide)
  · exact de_b1B (u_sortF fx.units) hg fx.blt.sorted (by decide +kernel) ha hst (by decide) (by decide)
  · exact de_b1T u_tuple hg fx.blt.tuple (by decide +kernel) ha hst (by decide) (by decide)
  · exact de_b1T u_listF hg fx.blt.list (by decide +kernel) ha hst (by decide) (by decide)
  · exact de_b1T u_int hg fx.blt.int (by decide +kernel) ha hst (by decide) (by decide)
  · exact de_b1T u_str hg fx.blt.str (by decide +kernel) ha hst (by decide) (by decide)
end
end Wk
set_option maxRecDepth 100000
set_option maxHeartbeats 8000000
/-! WC3: the terms tell the expressions, all of them -/
namespace Wk
open PySem PySem.Spec PyProof.Rows L2
variable {ex : ExV} {T : List FnI} {cs : List (Str × Int)} {N : List Str}
theorem okx {bb : Bool} {X : Cx} {E : XK} {e : IE} {x : Expr} (o : OkE T ex X E e x) (h : (bb || notBv e) = true) : PE X x (tE X.K ex E (ev (semsOf T) e) (qX X.K bb)) :=
  de_x bb o.b fun hb => o.d (by rw [hb, Bool.false_or] at h; exact h)
theorem subB_mem {a b : List Nat} (h : subB a b = true) : ∀ i ∈ a, i ∈ b := fun i hi => by
  unfold subB at h
  have := List.all_eq_true.mp h i hi
  simpa using this
mutual
theorem okE : ∀ (e : IE) (x : Expr) {X : Cx} {E : XK} {sc st : Scope}, Fx T ex cs N X E sc st → ckE (sgs T) cs N sc e x = true → OkE T ex X E e x
  | .var i, x, X, E, sc, st, fx, h => by
    unfold ckE at h
    split at h
    rotate_left
    · cases h
    have v := fx.vis h
    exact .ofD (fun env => by simp only [ev]) (de_var v.1 v.2.1 v.2.2.1 v.2.2.2) rfl (fun _ => rfl)
  | .bv i, x, X, E, sc, st, fx, h => by
    unfold ckE at h
    split at h
    rotate_left
    · cases h
    have v := fx.vis h
    exact .ofB (fun env => by simp only [ev]) (de_bv v.1 v.2.1 v.2.2.1 v.2.2.2) rfl rfl (fun _ => rfl)
  | .int n, x, X, E, sc, st, fx, h => by
    unfold ckE at h
    split at h
    rotate_left
    · cases h
    have h := of_decide_eq_true h
    subst h
    exact .ofD (fun env => by simp only [ev]) (de_c pe_int fun _ => .int _) rfl (fun _ => rfl)
  | .bool n, x, X, E, sc, st, fx, h => by
    unfold ckE at h
    split at h
    rotate_left
    · cases h
    have h := of_decide_eq_true h
    subst h
    exact .ofD (fun env => by simp only [ev]) (de_c pe_bl fun _ => .bl _) rfl (fun _ => rfl)
  | .non, x, X, E, sc, st, fx, h => by
    unfold ckE at h
    split at h
    rotate_left
    · cases h
    exact .ofD (fun env => by simp only [ev]) (de_c pe_non fun _ => .non) rfl (fun _ => rfl)
  | .str n, x, X, E, sc, st, fx, h => by
    unfold ckE at h
    split at h
    rotate_left
    · cases h
    have h := of_decide_eq_true h
    subst h
    exact .ofD (fun env => by simp only [ev]) (de_c pe_str fun _ => .str _) rfl (fun _ => rfl)
  | .glob y n, x, X, E, sc, st, fx, h => by
    unfold ckE at h
    split at h
    rotate_left
    · cases h
    simp only [Bool.and_eq_true, decide_eq_true_eq] at h
    obtain ⟨e1, e2, e3, e4⟩ := h
    subst e1
    obtain ⟨t, ht⟩ := fx.glob (y, n) (by simpa using e3)
    exact .ofD (fun env => by simp only [ev]) (m := fun _ => ret (.int n)) (de_c (v := .int n) (pe_glob (fx.gl e2) ht (show RelV (.int n) (.int n t) from ⟨t, rfl⟩) (dbg1 e4)) fun _ => .int _) rfl (fun _ => rfl)
  | .bin op a b, x, X, E, sc, st, fx, h => by
    unfold ckE at h
    split at h
    rotate_left
    · cases h
    simp only [Bool.and_eq_true, decide_eq_true_eq] at h
    obtain ⟨e1, e2, e3⟩ := h
    subst e1
    exact .ofD (fun env => by simp only [ev]) (de_bin (o_bin fx op) (okE a _ fx e2).b (okE b _ fx e3).b) rfl (fun _ => rfl)
  | .neg a, x, X, E, sc, st, fx, h => by
    unfold ckE at h
    split at h
    rotate_left
    · cases h
    exact .ofD (fun env => by simp only [ev]) (de_neg (okE a _ fx h).b) rfl (fun _ => rfl)
  | .cmp op a b, x, X, E, sc, st, fx, h => by
    unfold ckE at h
    split at h
    rotate_left
    · cases h
    simp only [Bool.and_eq_true, decide_eq_true_eq] at h
    obtain ⟨e1, e2, e3, e4⟩ := h
    subst e1
    have oa := okE a _ fx e3
    have ob := okE b _ fx e4
    exact .ofDT (fun env => by simp only [ev]) (de_cmp (o_cmpD fx op) oa.b ob.b (noSet_mark e2)) rfl (fun _ => dt_cmp (o_cmpD fx op) oa.b ob.b (noSet_mark e2))
  | .chain op op' a b c, x, X, E, sc, st, fx, h => by
    unfold ckE at h
    split at h
    rotate_left
    · cases h
    simp only [Bool.and_eq_true, decide_eq_true_eq] at h
    obtain ⟨⟨e1, e1'⟩, e2, e3, e4, e5⟩ := h
    subst e1 e1'
    have oa := okE a _ fx e3
    have ob := okE b _ fx e4
    have oc := okE c _ fx e5
    exact .ofDT (fun env => by simp only [ev]) (de_chain (o_cmpD fx op) (o_cmpD fx op') oa.b ob.b oc.b (noSet_mark e2)) rfl (fun _ => dt_chain (o_cmpD fx op) (o_cmpD fx op') oa.b ob.b oc.b (noSet_mark e2))
  | .not a, x, X, E, sc, st, fx, h => by
    unfold ckE at h
    split at h
    rotate_left
    · cases h
    simp only [Bool.and_eq_true] at h
    have oa := okE a _ fx h.2
    exact .ofDT (fun env => by simp only [ev]) (de_not oa.b) rfl (fun _ => dt_not (oa.t h.1))
  | .and es, x, X, E, sc, st, fx, h => by
    unfold ckE at h
    split at h
    rotate_left
    · cases h
    simp only [Bool.and_eq_true] at h
    have o := okEs es _ fx h.2.2
    exact .ofDT (fun env => by simp only [ev]) (o.an h.1 _) rfl (fun _ => (o.anT h.1 h.2.1 _).pt)
  | .or es, x, X, E, sc, st, fx, h => by
    unfold ckE at h
    split at h
    rotate_left
    · cases h
    simp only [Bool.and_eq_true] at h
    have o := okEs es _ fx h.2.2
    exact .ofDT (fun env => by simp only [ev]) (o.or h.1 _) rfl (fun _ => (o.orT h.1 h.2.1 _).pt)
  | .ite c a b, x, X, E, sc, st, fx, h => by
    unfold ckE at h
    split at h
    rotate_left
    · cases h
    simp only [Bool.and_eq_true] at h
    obtain ⟨⟨e1, e2, e3⟩, e4, e5, e6⟩ := h
    exact .ofDT (fun env => by simp only [ev]) (de_ite (Rep := qD X.K) ((okE c _ fx e4).t e1) ((okE a _ fx e5).d e2) ((okE b _ fx e6).d e3)) rfl (fun z => nomatch z)
  | .tup es, x, X, E, sc, st, fx, h => by
    unfold ckE at h
    split at h
    rotate_left
    · cases h
    simp only [Bool.and_eq_true, decide_eq_true_eq] at h
    have o := okEs es _ fx h.2
    exact .ofD (fun env => by simp only [ev]) (de_tup o.a h.1 fun env s ds s' z => (evs_len _ es env s ds s' z).trans (ckEs_len h.2)) rfl (fun _ => rfl)
  | .lst es, x, X, E, sc, st, fx, h => by
    unfold ckE at h
    split at h
    rotate_left
    · cases h
    simp only [Bool.and_eq_true, decide_eq_true_eq] at h
    have o := okEs es _ fx h.2
    exact .ofF (fun env => by simp only [ev]) (de_lst o.a h.1 fun env s ds s' z => (evs_len _ es env s ds s' z).trans (ckEs_len h.2)) (fun _ => rfl)
  | .ix a i, x, X, E, sc, st, fx, h => by
    unfold ckE at h
    split at h
    rotate_left
    · cases h
    simp only [Bool.and_eq_true] at h
    exact .ofD (fun env => by simp only [ev]) (de_ix (okE a _ fx h.2.1).b (okE i _ fx h.2.2).b (plain_ix h.1)) rfl (fun _ => rfl)
  | .sl a lo hi, x, X, E, sc, st, fx, h => by
    unfold ckE at h
    split at h
    rotate_left
    · cases h
    simp only [Bool.and_eq_true] at h
    exact .ofD (fun env => by simp only [ev]) (de_sl (okE a _ fx h.1).b (okP lo _ fx h.2.1) (okP hi _ fx h.2.2)) rfl (fun _ => rfl)
  | .rep es n, x, X, E, sc, st, fx, h => by
    unfold ckE at h
    split at h
    rotate_left
    · cases h
    simp only [Bool.and_eq_true, decide_eq_true_eq] at h
    have o := okEs es _ fx h.2.1
    exact .ofF (fun env => by simp only [ev]) (de_rep o.a (okE n _ fx h.2.2).b h.1 fun env s ds s' z => (evs_len _ es env s ds s' z).trans (ckEs_len h.2.1)) (fun _ => rfl)
  | .rev a, x, X, E, sc, st, fx, h => by
    unfold ckE at h
    split at h
    rotate_left
    · cases h
    exact .ofD (fun env => by simp only [ev]) (de_rev (okE a _ fx h).b) rfl (fun _ => rfl)
  | .call f es, x, X, E, sc, st, fx, h => by
    unfold ckE at h
    split at h
    rotate_left
    · cases h
    simp only [Bool.and_eq_true] at h
    obtain ⟨h1, ⟨h2, h3, h5⟩, h6⟩ := h
    cases ei : T[f]? with
    | none =>
      rw [sgs_none ei] at h1
      cases h1
    | some I =>
      rw [sgs_get ei] at h1
      replace h1 : (decide (_ = I.name) && (!I.src && decide (_ = I.np))) = true := h1
      simp only [Bool.and_eq_true, decide_eq_true_eq, Bool.not_eq_true'] at h1
      obtain ⟨e1, e2, e3⟩ := h1
      subst e1
      obtain ⟨k, hr, hF⟩ := fx.fns f I ei
      have o := okEs es _ fx h6
      rename_i xs _
      cases xs with
      | nil =>
        cases es with
        | cons _ _ => simp [ckEs] at h6
        | nil =>
          refine .ofFr (fun env => ?_) (de_call0 hF hr fx.pass (fx.gl h2) (dbg1 h3) e2 e3) (by show (match (sgs T)[f]? with | some I => I.fresh | none => false) = _; rw [sgs_get ei]; rfl) (fun _ => rfl)
          simp only [ev, evs]
          rw [semsOf_get ei]
      | cons y ys =>
        refine .ofFr (fun env => ?_) (de_call hF hr fx.pass (fx.gl h2) (dbg1 h3) e2 o.a h5 fun env s ds s' z => ((evs_len _ es env s ds s' z).trans (ckEs_len h6)).trans e3) (by show (match (sgs T)[f]? with | some I => I.fresh | none => false) = _; rw [sgs_get ei]; rfl) (fun _ => rfl)
        simp only [ev]
        rw [semsOf_get ei]
  | .callS f i es, x, X, E, sc, st, fx, h => by
    unfold ckE at h
    split at h
    rotate_left
    · cases h
    simp only [Bool.and_eq_true] at h
    obtain ⟨h1, ⟨h2, h3, h4, h5⟩, h6⟩ := h
    cases ei : T[f]? with
    | none =>
      rw [sgs_none ei] at h1
      cases h1
    | some I =>
      rw [sgs_get ei] at h1
      replace h1 : (decide (_ = I.name) && (I.src && decide (_ + 1 = I.np))) = true := h1
      simp only [Bool.and_eq_true, decide_eq_true_eq] at h1
      obtain ⟨e1, e2, e3⟩ := h1
      subst e1
      obtain ⟨k, hr, hF⟩ := fx.fns f I ei
      have o := okEs es _ fx h6
      have v := fx.vis h4
      refine .ofFr (fun env => ?_) (de_callS hF hr fx.pass (fx.gl h2) (dbg1 h3) e2 v.1 v.2.1 v.2.2.1 v.2.2.2 o.a h5 fun env s ds s' z => by rw [(evs_len _ es env s ds s' z).trans (ckEs_len h6)]; exact e3) (by show (match (sgs T)[f]? with | some I => I.fresh | none => false) = _; rw [sgs_get ei]; rfl) (fun _ => rfl)
      simp only [ev]
      rw [semsOf_get ei]
      all_goals (cases env[i]? with
        | none => rfl
        | some y => cases y <;> rfl)
  | .b1 b a, x, X, E, sc, st, fx, h => by
    unfold ckE at h
    split at h
    rotate_left
    · cases h
    simp only [Bool.and_eq_true, decide_eq_true_eq] at h
    obtain ⟨e1, e2, e3, e4⟩ := h
    subst e1
    refine .ofFr (m := fun env => bnd (ev (semsOf T) a env) fun x => b1D b x) (fr := isFr (sgs T) (.b1 b .non)) (fun env => by simp only [ev]) ?_ (by cases b <;> rfl) (fun _ => rfl)
    have := fun p pos => de_b1 (X := X) fx b (okE a _ fx e4).b (fx.gl e2) e3 (p := p) (pos := pos)
    cases hb : isFr (sgs T) (.b1 b .non) with
    | true =>
      simp only [hb] at this
      exact this _ _
    | false =>
      simp only [hb] at this
      exact this _ _
  | .rngl it, x, X, E, sc, st, fx, h => by
    unfold ckE at h
    split at h
    rotate_left
    · cases h
    simp only [Bool.and_eq_true, decide_eq_true_eq] at h
    obtain ⟨⟨e1, e2, e3, e4⟩, h5⟩ := h
    subst e1 e2
    cases it with
    | rng1 a =>
      dsimp only at h5
      split at h5
      rotate_left
      · cases h5
      simp only [Bool.and_eq_true] at h5
      exact .ofF (fun env => by simp only [ev, evI]) (de_rngl1 fx.calm (fx.gl e4) fx.blt.range (fx.gl e3) fx.blt.list (okE a _ fx h5.2).b h5.1) (fun _ => rfl)
    | rng2 a b =>
      dsimp only at h5
      split at h5
      rotate_left
      · cases h5
      simp only [Bool.and_eq_true] at h5
      exact .ofF (fun env => by simp only [ev, evI]) (de_rngl2 fx.calm (fx.gl e4) fx.blt.range (fx.gl e3) fx.blt.list (okE a _ fx h5.2.1).b (okE b _ fx h5.2.2).b h5.1) (fun _ => rfl)
    | seq e => cases h5
    | enm e => cases h5
    | zip a b => cases h5
  | .max2 a b, x, X, E, sc, st, fx, h => by
    unfold ckE at h
    split at h
    rotate_left
    · cases h
    simp only [Bool.and_eq_true, decide_eq_true_eq] at h
    obtain ⟨⟨e1, e2, e3, e4, e5⟩, e6, e7⟩ := h
    subst e1
    have s3 := e3
    simp only [notStars, Bool.and_true, Bool.and_eq_true] at s3
    have pa := da_cons ((okE a _ fx e6).d e4) (da_cons ((okE b _ fx e7).d e5) (da_nil (E := E) (ex := ex) (m := fun _ => ret []) fun _ => rfl) (star_cons s3.2)) (star_cons s3.1)
    refine .ofD (fun env => ?_) (de_bL (g := gMax2) (call_max2 fx.calm) (fun sa F H s vs ds Q hs so t c => r_max2 (X := X) hs so t c) (fx.gl e2) fx.blt.max (by decide +kernel) pa e3 (by decide) (by decide)) rfl (fun _ => rfl)
    simp only [ev, bnd_assoc, bnd_ret, gMax2]
  | .min2 a b, x, X, E, sc, st, fx, h => by
    unfold ckE at h
    split at h
    rotate_left
    · cases h
    simp only [Bool.and_eq_true, decide_eq_true_eq] at h
    obtain ⟨⟨e1, e2, e3, e4, e5⟩, e6, e7⟩ := h
    subst e1
    have s3 := e3
    simp only [notStars, Bool.and_true, Bool.and_eq_true] at s3
    have pa := da_cons ((okE a _ fx e6).d e4) (da_cons ((okE b _ fx e7).d e5) (da_nil (E := E) (ex := ex) (m := fun _ => ret []) fun _ => rfl) (star_cons s3.2)) (star_cons s3.1)
    refine .ofD (fun env => ?_) (de_bL (g := gMin2) (call_min2 fx.calm) (fun sa F H s vs ds Q hs so t c => r_min2 (X := X) hs so t c) (fx.gl e2) fx.blt.min (by decide +kernel) pa e3 (by decide) (by decide)) rfl (fun _ => rfl)
    simp only [ev, bnd_assoc, bnd_ret, gMin2]
  | .max3 a b c, x, X, E, sc, st, fx, h => by
    unfold ckE at h
    split at h
    rotate_left
    · cases h
    simp only [Bool.and_eq_true, decide_eq_true_eq] at h
    obtain ⟨⟨e1, e2, e3, e4, e5, e5'⟩, e6, e7, e8⟩ := h
    subst e1
    have s3 := e3
    simp only [notStars, Bool.and_true, Bool.and_eq_true] at s3
    have pa := da_cons ((okE a _ fx e6).d e4) (da_cons ((okE b _ fx e7).d e5) (da_cons ((okE c _ fx e8).d e5') (da_nil (E := E) (ex := ex) (m := fun _ => ret []) fun _ => rfl) (star_cons s3.2.2)) (star_cons s3.2.1)) (star_cons s3.1)
    refine .ofD (fun env => ?_) (de_bL (g := gMax3) (call_max3 fx.calm) (fun sa F H s vs ds Q hs so t c => r_max3 (X := X) hs so t c) (fx.gl e2) fx.blt.max (by decide +kernel) pa e3 (by decide) (by decide)) rfl (fun _ => rfl)
    simp only [ev, bnd_assoc, bnd_ret, gMax3]
  | .isi a t, x, X, E, sc, st, fx, h => by
    unfold ckE at h
    split at h
    rotate_left
    · cases h
    simp only [Bool.and_eq_true, decide_eq_true_eq] at h
    obtain ⟨⟨e1, e2, e3, e4, e5⟩, e6⟩ := h
    subst e1 e2
    exact .ofD (fun env => by simp only [ev]) (de_isi (fx.gl e3) fx.blt.isinstance (fx.gl e4) (fx.blt.ty t) (okE a _ fx e6).b e5) rfl (fun _ => rfl)
  | .isi2 a t t', x, X, E, sc, st, fx, h => by
    unfold ckE at h
    split at h
    rotate_left
    · cases h
    simp only [Bool.and_eq_true, decide_eq_true_eq] at h
    obtain ⟨⟨e1, e2, e2', e3, e4, e4', e5⟩, e6⟩ := h
    subst e1 e2 e2'
    exact .ofD (fun env => by simp only [ev]) (de_isi2 (fx.gl e3) fx.blt.isinstance (fx.gl e4) (fx.blt.ty t) (fx.gl e4') (fx.blt.ty t') (okE a _ fx e6).b e5) rfl (fun _ => rfl)
  | .lc t it ifs e own, x, X, E, sc, st, fx, h => by
    unfold ckE at h
    split at h
    rotate_left
    · cases h
    simp only [Bool.and_eq_true, decide_eq_true_eq] at h
    obtain ⟨⟨h1, h2, h3, h4, h5, h6⟩, h7, ⟨⟨h8, h8'⟩, h9⟩, h10⟩ := h
    rename_i elt tg iter xs scope pos
    have fb := fun s H C cl fp => fx_blk fx scope s H C cl fp
    refine .ofF (fun env => ?_) (de_lc (mif := evIf (semsOf T) ifs) (me := ev (semsOf T) e) fx.calm (by rw [fx.nm]; exact fx.nd) (okI true it tg iter fx h7) (by rw [fx.nm, fx.sc]; exact blkOk_by h3) h2 (subB_mem h4) (fun s H C cl fp => dg_tg (fb s H C cl fp) t tg h5) (fun s H C cl fp => ?_) (fun s H C cl fp => (okE e _ (fb s H C cl fp) h10).d h6) (noSet_fold h1)) (fun _ => rfl)
    · simp only [ev]
      rfl
    · have o := okEs ifs xs (fb s H C cl fp) h9
      cases ifs with
      | nil =>
        cases xs with
        | cons _ _ => simp [ckEs] at h9
        | nil => exact ⟨fun pins s σ H Q I h => pts_nil.run pins s σ H Q I (by
            obtain ⟨F, sa, H0, L, env, s, R, c⟩ := h
            simp only [evIf] at c
            exact c true F H (Ext.refl R.sub R.src) rfl)⟩
      | cons e1 es =>
        cases xs with
        | nil => simp [ckEs] at h9
        | cons x1 ys =>
          cases ys with
          | nil => exact pts_one (o.one x1 rfl h8)
          | cons x2 ys => simp at h8'
  | .lc2 t it t2 it2 e own own2, x, X, E, sc, st, fx, h => by
    unfold ckE at h
    split at h
    rotate_left
    · cases h
    simp only [Bool.and_eq_true, decide_eq_true_eq] at h
    obtain ⟨⟨⟨h1, h1'⟩, h2, h3, ⟨h4, h4', h4''⟩, ⟨h5, h5'⟩, h6⟩, h7, h8, h9⟩ := h
    rename_i elt tg iter tg1 iter1 scope pos
    have fb := fun s H C cl fp => fx_blk fx scope s H C cl fp
    refine .ofF (fun env => ?_) (de_lc2 (mi2 := evI (semsOf T) it2) (me := ev (semsOf T) e) fx.calm (by rw [fx.nm]; exact fx.nd) (okI false it tg iter fx h7) (by rw [fx.nm, fx.sc]; exact blkOk_by h3) h2 (subB_mem h4) (subB_mem h4') (subB_mem h4'') (fun s H C cl fp => dg_tg (fb s H C cl fp) t tg h5) (fun s H C cl fp => okI false it2 tg1 iter1 (fb s H C cl fp) h8) (fun s H C cl fp => dg_tg (fb s H C cl fp) t2 tg1 h5') (fun s H C cl fp => (okE e _ (fb s H C cl fp) h9).d h6) (noSet_fold h1) (fun env => noSet_fold h1')) (fun _ => rfl)
    simp only [ev]
    rfl
  | .callB f a b, x, X, E, sc, st, fx, h => by
    unfold ckE at h
    split at h
    rotate_left
    · cases h
    simp only [Bool.and_eq_true] at h
    obtain ⟨h1, ⟨h2, h3, h4⟩, h5, h6⟩ := h
    cases ei : T[f]? with
    | none =>
      rw [sgs_none ei] at h1
      cases h1
    | some I =>
      rw [sgs_get ei] at h1
      replace h1 : (decide (_ = I.name) && (!I.src && decide (I.np = 2))) = true := h1
      simp only [Bool.and_eq_true, decide_eq_true_eq, Bool.not_eq_true'] at h1
      obtain ⟨e1, e2, e3⟩ := h1
      subst e1
      obtain ⟨k, hr, hF⟩ := fx.fns f I ei
      refine .ofD (fun env => ?_) (de_callB hF hr fx.pass (fx.gl h2) (dbg1 h3) e2 (okE a _ fx h5).b (okE b _ fx h6).b h4 e3) rfl (fun _ => rfl)
      simp only [ev]
      rw [semsOf_get ei]
  | .mcnt a b, x, X, E, sc, st, fx, h => by
    unfold ckE at h
    split at h
    rotate_left
    · cases h
    simp only [Bool.and_eq_true, decide_eq_true_eq] at h
    obtain ⟨⟨h1, h2, h3, h4⟩, h5, h6⟩ := h
    subst h1
    exact .ofD (fun env => by simp only [ev]) (de_meth PySem.F.slot_list_count PySem.F.type_list_count mt_lcount (fun sa F H s x y ds e Q hs so b1 b2 c => r_cnt (X := X) sa F H s x y ds e Q hs so b1 b2 c) (okE a _ fx h5).b (okE b _ fx h6).b (base_of h2 _ _ _) h4 h3) rfl (fun _ => rfl)
  | .midx a b, x, X, E, sc, st, fx, h => by
    unfold ckE at h
    split at h
    rotate_left
    · cases h
    simp only [Bool.and_eq_true, decide_eq_true_eq] at h
    obtain ⟨⟨h1, h2, h3, h4⟩, h5, h6⟩ := h
    subst h1
    exact .ofD (fun env => by simp only [ev]) (de_meth PySem.F.slot_list_index PySem.F.type_list_index (mt_indexD fx.units) (fun sa F H s x y ds e Q hs so b1 b2 c => r_idx (X := X) sa F H s x y ds e Q hs so b1 b2 c) (okE a _ fx h5).b (okE b _ fx h6).b (base_of h2 _ _ _) h4 h3) rfl (fun _ => rfl)
  | .src i k, x, X, E, sc, st, fx, h => by
    unfold ckE at h
    split at h
    rotate_left
    · cases h
    simp only [Bool.and_eq_true, decide_eq_true_eq] at h
    obtain ⟨h1, h2⟩ := h
    subst h2
    exact .ofD (fun env => by simp only [ev]) (de_src (fx.vis h1)) rfl (fun _ => rfl)
theorem okEs : ∀ (es : IEs) (xs : List Expr) {X : Cx} {E : XK} {sc st : Scope}, Fx T ex cs N X E sc st → ckEs (sgs T) cs N sc es xs = true → OkEs T ex X E es xs
  | .nil, xs, X, E, sc, st, fx, h => by
    unfold ckEs at h
    split at h
    rotate_left
    · cases h
    exact ⟨da_nil fun env => by simp only [evs], (fun z => nomatch z), (fun z => nomatch z), (fun z => nomatch z), (fun z => nomatch z), (fun x z => nomatch z)⟩
  | .cons e es, xs, X, E, sc, st, fx, h => by
    unfold ckEs at h
    split at h
    · cases h
    rename_i x xs
    simp only [Bool.and_eq_true] at h
    obtain ⟨⟨h1, h2⟩, h3, h4⟩ := h
    have o := okE e x fx h3
    have os := okEs es xs fx h4
    refine ⟨?_, fun _ pos => ?_, fun _ pos => ?_, fun _ ht pos => ?_, fun _ ht pos => ?_, fun x' ex' ht => ?_⟩
    · rw [show evs (semsOf T) (.cons e es) = fun env => bnd (ev (semsOf T) e env) fun x => bnd (evs (semsOf T) es env) fun xs => ret (x :: xs) from funext fun env => by simp only [evs]]
      exact da_cons (o.d h2) os.a (star_cons h1)
    · cases es with
      | nil =>
        cases xs with
        | cons _ _ => simp [ckEs] at h4
        | nil =>
          rw [show evAnd (semsOf T) (.cons e .nil) = ev (semsOf T) e from funext fun env => by simp only [evAnd]]
          exact pe_one (o.d h2)
      | cons e2 es =>
        cases xs with
        | nil => simp [ckEs] at h4
        | cons x2 xs =>
          rw [show evAnd (semsOf T) (.cons e (.cons e2 es)) = fun env => bnd (ev (semsOf T) e env) fun x => bnd (tst x) fun k => if k = true then evAnd (semsOf T) (.cons e2 es) env else ret (bl false) from funext fun env => by rw [evAnd]]
          exact de_and o.b (os.an rfl pos)
    · cases es with
      | nil =>
        cases xs with
        | cons _ _ => simp [ckEs] at h4
        | nil =>
          rw [show evOr (semsOf T) (.cons e .nil) = ev (semsOf T) e from funext fun env => by simp only [evOr]]
          exact pe_one (o.d h2)
      | cons e2 es =>
        cases xs with
        | nil => simp [ckEs] at h4
        | cons x2 xs =>
          rw [show evOr (semsOf T) (.cons e (.cons e2 es)) = fun env => bnd (ev (semsOf T) e env) fun x => bnd (tst x) fun k => if k = true then ret (bl true) else evOr (semsOf T) (.cons e2 es) env from funext fun env => by rw [evOr]]
          exact de_or o.b (os.or rfl pos)
    · unfold tsts at ht
      simp only [Bool.and_eq_true] at ht
      cases es with
      | nil =>
        cases xs with
        | cons _ _ => simp [ckEs] at h4
        | nil =>
          rw [show evAnd (semsOf T) (.cons e .nil) = ev (semsOf T) e from funext fun env => by simp only [evAnd]]
          exact pw_and1 (o.t ht.1)
      | cons e2 es =>
        cases xs with
        | nil => simp [ckEs] at h4
        | cons x2 xs =>
          rw [show evAnd (semsOf T) (.cons e (.cons e2 es)) = fun env => bnd (ev (semsOf T) e env) fun x => bnd (tst x) fun k => if k = true then evAnd (semsOf T) (.cons e2 es) env else ret (bl false) from funext fun env => by rw [evAnd]]
          exact dw_and (o.t ht.1) (os.anT rfl ht.2 pos)
    · unfold tsts at ht
      simp only [Bool.and_eq_true] at ht
      cases es with
      | nil =>
        cases xs with
        | cons _ _ => simp [ckEs] at h4
        | nil =>
          rw [show evOr (semsOf T) (.cons e .nil) = ev (semsOf T) e from funext fun env => by simp only [evOr]]
          exact pw_or1 (o.t ht.1)
      | cons e2 es =>
        cases xs with
        | nil => simp [ckEs] at h4
        | cons x2 xs =>
          rw [show evOr (semsOf T) (.cons e (.cons e2 es)) = fun env => bnd (ev (semsOf T) e env) fun x => bnd (tst x) fun k => if k = true then ret (bl true) else evOr (semsOf T) (.cons e2 es) env from funext fun env => by rw [evOr]]
          exact dw_or (o.t ht.1) (os.orT rfl ht.2 pos)
    · cases ex'
      unfold tsts at ht
      simp only [Bool.and_eq_true] at ht
      cases es with
      | nil =>
        rw [show evIf (semsOf T) (.cons e .nil) = mT (ev (semsOf T) e) from funext fun env => by simp only [evIf]]
        exact o.t ht.1
      | cons e2 es => simp [ckEs] at h4
theorem okP : ∀ (p : IP) (x : Option Expr) {X : Cx} {E : XK} {sc st : Scope}, Fx T ex cs N X E sc st → ckP (sgs T) cs N sc p x = true → PO X x (tE X.K ex E (evP (semsOf T) p) qO)
  | .no, x, X, E, sc, st, fx, h => by
    unfold ckP at h
    split at h
    rotate_left
    · cases h
    rw [show evP (semsOf T) .no = fun _ => ret none from funext fun env => by simp only [evP]]
    exact do_no
  | .at e, x, X, E, sc, st, fx, h => by
    unfold ckP at h
    split at h
    · cases h
    rw [show evP (semsOf T) (.at e) = fun env => bnd (ev (semsOf T) e env) partD from funext fun env => by simp only [evP]]
    exact do_at (okE e _ fx h).b
theorem okI : ∀ (bb : Bool) (it : II) (tg x : Expr) {X : Cx} {E : XK} {sc st : Scope}, Fx T ex cs N X E sc st → ckI (sgs T) cs N sc bb it tg x = true → PI X tg x (tE X.K ex E (evI (semsOf T) it) (qI X.K bb))
  | bb, .seq e, tg, x, X, E, sc, st, fx, h => by
    unfold ckI at h
    simp only [Bool.and_eq_true] at h
    rw [show evI (semsOf T) (.seq e) = fun env => bnd (ev (semsOf T) e env) seqM from funext fun env => by simp only [evI]]
    exact di_seq (okx (okE e _ fx h.2.2) h.1)
  | bb, .rng1 a, tg, x, X, E, sc, st, fx, h => by
    unfold ckI at h
    split at h
    rotate_left
    · cases h
    simp only [Bool.and_eq_true, decide_eq_true_eq] at h
    obtain ⟨e1, e2, e3, e4⟩ := h
    subst e1
    rw [show evI (semsOf T) (.rng1 a) = fun env => bnd (ev (semsOf T) a env) rng1 from funext fun env => by simp only [evI]]
    exact di_rng1 (fx.gl e2) fx.blt.range (okE a _ fx e4).b e3
  | bb, .rng2 a b, tg, x, X, E, sc, st, fx, h => by
    unfold ckI at h
    split at h
    rotate_left
    · cases h
    simp only [Bool.and_eq_true, decide_eq_true_eq] at h
    obtain ⟨e1, e2, e3, e4, e5⟩ := h
    subst e1
    rw [show evI (semsOf T) (.rng2 a b) = fun env => bnd (ev (semsOf T) a env) fun x => bnd (ev (semsOf T) b env) fun y => rng2 x y from funext fun env => by simp only [evI]]
    exact di_rng2 (fx.gl e2) fx.blt.range (okE a _ fx e4).b (okE b _ fx e5).b e3
  | bb, .enm a, tg, x, X, E, sc, st, fx, h => by
    unfold ckI at h
    split at h
    rotate_left
    · cases h
    simp only [Bool.and_eq_true, decide_eq_true_eq] at h
    obtain ⟨⟨t1, t2⟩, e1, e2, e3, e4⟩ := h
    subst e1
    cases tg <;> first | cases t1 | skip
    rw [show evI (semsOf T) (.enm a) = fun env => bnd (ev (semsOf T) a env) enumD from funext fun env => by simp only [evI]]
    exact di_enum (fx.gl e2) fx.blt.enumerate (okx (okE a _ fx e4) t2) e3
  | bb, .zip a b, tg, x, X, E, sc, st, fx, h => by
    unfold ckI at h
    split at h
    rotate_left
    · cases h
    simp only [Bool.and_eq_true, decide_eq_true_eq] at h
    obtain ⟨⟨t1, t2, t3⟩, e1, e2, e3, e4, e5⟩ := h
    subst e1
    cases tg <;> first | cases t1 | skip
    rw [show evI (semsOf T) (.zip a b) = fun env => bnd (ev (semsOf T) a env) fun x => bnd (ev (semsOf T) b env) fun y => zipD x y from funext fun env => by simp only [evI]]
    exact di_zip (fx.gl e2) fx.blt.zip (okx (okE a _ fx e4) t2) (okx (okE b _ fx e5) t3) e3
end
end Wk
set_option maxRecDepth 100000
set_option maxHeartbeats 4000000
/-! WC4: states change -/
namespace Wk
open PySem PySem.Spec PyProof.Rows L2
/-- the anchor: what is kept of the def's entry -/
structure Anc (sa0 sa : Option Addr) (H0 : Hp) (G : Hp → Hp → SV → Prop) : Prop where
  ext : ∀ F H s F' H' s', G F H s → Same F H → SrcOk sa F H s → Ext sa F H s F' H' s' → G F' H' s'
  none : ∀ F H s, G F H s → ∀ p, H p = Option.none → H0 p = Option.none
  own : ∀ F H s a o, G F H s → F a = Option.none → H0 a = Option.none → sa ≠ some a → G F (upd H a o) s
  frz : ∀ F H s a o, G F H s → F a = Option.none → H a = some o → H0 a = Option.none → sa ≠ some a → G (upd F a o) H s
  src : ∀ F H s a s', sa = some a → G F H s → SrcOk sa F H s → G F (upd H a (.lst [.int s'.a, .int s'.b, .int s'.c])) s'
  sa : sa0 = sa ∨ sa0 = Option.none
section
variable {K : PySem.W.Frag} {sa sa0 : Option Addr} {H0 : Hp} {L : List (Nat × Addr × List V)} {env : Env} {s : SV} {σ : St} {F H : Hp} {G : Hp → Hp → SV → Prop}
theorem Rel.setI (R : Rel K sa H0 L env s σ F H) (i : Nat) {v : V} {d : D} (r : Dp K F v d) : Rel K sa H0 L (env.set i (.im d)) s (σ.set i (some v)) F H := R.put ⟨v, rfl, r⟩ fun _ z => by cases z
def NewAt (L : List (Nat × Addr × List V)) (env : Env) (σ : St) (p : Addr) : Prop := (∀ (j : Nat) (es : List D) (a : Addr), env[j]? = some (Slot.ow es) → σ[j]? = some (some (V.ref a)) → a ≠ p) ∧ ∀ q ∈ L, q.2.1 ≠ p
theorem Rel.put' {H1 : Hp} {i : Nat} (R : Rel K sa H0 L env s σ F H) (h1 : ∀ p, H1 p = none → H0 p = none) (h2 : ∀ p, H1 p = none → NewAt L env σ p) {v : V} {d : D} (r : RF K sa H1 F H v d) :
    ∃ ds, d = .list ds ∧ Rel K sa H0 L (env.set i (.ow ds)) s (σ.set i (some v)) F H := by
  obtain ⟨a, vs, ds, rfl, rfl, h0, f, g, n, t⟩ := r
  have q := h2 a h0
  refine ⟨ds, rfl, R.put ⟨a, vs, rfl, f, g, t, n, q.2, h1 a h0⟩ fun es _ j b es' hj e1 e2 e3 => ?_⟩
  cases e2
  exact q.1 j es' a e1 e3 rfl
/-- what stood before is no new list -/
theorem Rel.old (R : Rel K sa H0 L env s σ F H) : ∀ p, H p = none → NewAt L env σ p := fun p hp => by
  refine ⟨fun j es a e1 e2 z => ?_, fun q hq z => ?_⟩
  · obtain ⟨a', vs, e3, f, g, _⟩ := R.slot j _ e1
    rw [e2] at e3
    cases e3
    rw [z, hp] at g
    cases g
  · have := (R.lent q hq).2.1
    rw [z, hp] at this
    cases this
theorem Rel.setF (A : Anc sa0 sa H0 G) (g : G F H s) (R : Rel K sa H0 L env s σ F H) {F1 H1 : Hp} {s1 : SV} (x : Ext sa F H s F1 H1 s1) (i : Nat) {v : V} {d : D} (r : RF K sa H F1 H1 v d) :
    ∃ ds, d = .list ds ∧ Rel K sa H0 L (env.set i (.ow ds)) s1 (σ.set i (some v)) F1 H1 := (R.ext x).put' (A.none _ _ _ g) R.old r
/-- one's own list is written -/
theorem Rel.mut (R : Rel K sa H0 L env s σ F H) {i : Nat} {ds ds' : List D} {a : Addr} {vs' : List V} (e : env[i]? = some (.ow ds)) (ev : σ[i]? = some (some (.ref a))) (t : DpAll K F vs' ds') : Rel K sa H0 L (env.set i (.ow ds')) s σ F (upd H a (.lst vs')) := by
  obtain ⟨a', vs, e1, f, g, t0, n, l, h0⟩ := R.slot i _ e
  rw [ev] at e1
  cases e1
  refine ⟨fun b u eb => ?_, ?_, by rw [List.length_set]; exact R.len, fun p hp => ?_, fun j y ej => ?_, fun j k b es fs hjk e1 e2 v1 => ?_⟩
  · have hb : b ≠ a := ne_of_none eb f
    rw [upd_ne hb]
    exact R.sub _ _ eb
  · have so := R.src
    cases sa with
    | none => trivial
    | some c =>
      have hc : c ≠ a := fun z => n (by rw [z])
      exact ⟨by rw [upd_ne hc]; exact so.1, so.2⟩
  · obtain ⟨p1, p2, p3, p4⟩ := R.lent p hp
    exact ⟨p1, by rw [upd_ne (l p hp)]; exact p2, p3, p4⟩
  · rcases get_set ej with ⟨rfl, rfl, hl⟩ | ⟨hj, ej⟩
    · exact ⟨a, vs', ev, f, upd_same, t, n, l, h0⟩
    · have z := R.slot j y ej
      cases y with
      | un => trivial
      | im d => exact z
      | ow es =>
        obtain ⟨b, ws, q1, q2, q3, q4⟩ := z
        have hb : b ≠ a := fun w => by
          rw [w] at q1
          exact R.apart i j a ds es hj e ej ev q1
        exact ⟨b, ws, q1, q2, by rw [upd_ne hb]; exact q3, q4⟩
      | ln es => exact z
      | sr => exact z
  · rcases get_set e1 with ⟨rfl, z1, _⟩ | ⟨h1, e3⟩
    · rcases get_set e2 with ⟨rfl, _, _⟩ | ⟨h2, e4⟩
      · exact absurd rfl hjk
      · exact R.apart _ k b ds fs hjk e e4 v1
    · rcases get_set e2 with ⟨rfl, _, _⟩ | ⟨h2, e4⟩
      · exact R.apart j _ b es ds hjk e3 e v1
      · exact R.apart j k b es fs hjk e3 e4 v1
/-- the source is written -/
theorem Rel.srcU (R : Rel K sa H0 L env s σ F H) {a : Addr} (e : sa = some a) (s' : SV) : Rel K sa H0 L env s' σ F (upd H a (.lst [.int s'.a, .int s'.b, .int s'.c])) := by
  have so := R.src
  subst e
  refine ⟨fun b u eb => ?_, ⟨upd_same, so.2⟩, R.len, fun p hp => ?_, fun j y ej => ?_, R.apart⟩
  · have hb : b ≠ a := ne_of_none eb so.2
    rw [upd_ne hb]
    exact R.sub _ _ eb
  · obtain ⟨p1, p2, p3, p4⟩ := R.lent p hp
    have hp : p.2.1 ≠ a := fun z => p3 (by rw [z])
    exact ⟨p1, by rw [upd_ne hp]; exact p2, p3, p4⟩
  · have z := R.slot j y ej
    cases y with
    | un => trivial
    | im d => exact z
    | ow es =>
      obtain ⟨b, ws, q1, q2, q3, q4, q5, q6⟩ := z
      have hb : b ≠ a := fun w => q5 (by rw [w])
      exact ⟨b, ws, q1, q2, by rw [upd_ne hb]; exact q3, q4, q5, q6⟩
    | ln es => exact z
    | sr => exact z
/-- one's own list is frozen -/
theorem Rel.frz1 (A : Anc sa0 sa H0 G) (g : G F H s) (R : Rel K sa H0 L env s σ F H) {i : Nat} {ds : List D} (e : env[i]? = some (.ow ds)) : ∃ F', G F' H s ∧ Rel K sa H0 L (env.set i (.im (.list ds))) s σ F' H := by
  obtain ⟨a, vs, ev, f, gg, t0, n, l, h0⟩ := R.slot i _ e
  have sub' : Same F (upd F a (.lst vs)) := fun b u eb => by
    rw [upd_ne (ne_of_none eb f)]
    exact eb
  refine ⟨upd F a (.lst vs), A.frz _ _ _ _ _ g f gg h0 n, fun b u eb => ?_, ?_, by rw [List.length_set]; exact R.len, fun p hp => ?_, fun j y ej => ?_, fun j k b es fs hjk e1 e2 v1 => ?_⟩
  · by_cases hb : b = a
    · subst hb
      rw [upd_same] at eb
      rw [gg]
      exact eb
    · rw [upd_ne hb] at eb
      exact R.sub _ _ eb
  · have so := R.src
    cases sa with
    | none => trivial
    | some c =>
      have hc : c ≠ a := fun z => n (by rw [z])
      exact ⟨so.1, by rw [upd_ne hc]; exact so.2⟩
  · obtain ⟨p1, p2, p3, p4⟩ := R.lent p hp
    exact ⟨by rw [upd_ne (l p hp)]; exact p1, p2, p3, p4⟩
  · rcases get_set ej with ⟨rfl, rfl, hl⟩ | ⟨hj, ej⟩
    · exact ⟨.ref a, ev, .lst (SqL.of upd_same) (t0.mono sub')⟩
    · have z := R.slot j y ej
      cases y with
      | un => trivial
      | im d =>
        obtain ⟨v, q1, q2⟩ := z
        exact ⟨v, q1, q2.mono sub'⟩
      | ow es =>
        obtain ⟨b, ws, q1, q2, q3, q4, q5⟩ := z
        have hb : b ≠ a := fun w => by
          rw [w] at q1
          exact R.apart i j a ds es hj e ej ev q1
        exact ⟨b, ws, q1, by rw [upd_ne hb]; exact q2, q3, q4.mono sub', q5⟩
      | ln es =>
        obtain ⟨b, ws, q1, q2, q3⟩ := z
        exact ⟨b, ws, q1, q2, q3.mono sub'⟩
      | sr => exact z
  · rcases get_set e1 with ⟨_, z, _⟩ | ⟨h1, e3⟩
    · cases z
    · rcases get_set e2 with ⟨_, z, _⟩ | ⟨h2, e4⟩
      · cases z
      · exact R.apart j k b es fs hjk e3 e4 v1
theorem set_self {α : Type} : ∀ {l : List α} {i : Nat} {x : α}, l[i]? = some x → l.set i x = l
  | [], _, _, h => by simp at h
  | y :: r, 0, x, h => by
    simp at h
    subst h
    rfl
  | y :: r, i + 1, x, h => by
    simp at h
    show y :: r.set i x = y :: r
    rw [set_self h]
theorem set_none {α : Type} : ∀ {l : List α} {i : Nat} {x : α}, l[i]? = none → l.set i x = l
  | [], _, _, _ => rfl
  | y :: r, 0, x, h => by simp at h
  | y :: r, i + 1, x, h => by
    simp at h
    show y :: r.set i x = y :: r
    rw [set_none (by simpa using h)]
theorem Rel.frz (A : Anc sa0 sa H0 G) (g : G F H s) (R : Rel K sa H0 L env s σ F H) : ∀ is : List Nat, ∃ F', G F' H s ∧ Rel K sa H0 L (frzE env is) s σ F' H
  | [] => ⟨F, g, R⟩
  | i :: r => by
    obtain ⟨F1, g1, R1⟩ := Rel.frz A g R r
    unfold frzE
    cases e : (frzE env r)[i]? with
    | none =>
      dsimp only
      rw [set_none e]
      exact ⟨F1, g1, R1⟩
    | some x =>
      dsimp only
      cases x with
      | ow ds => exact R1.frz1 A g1 e
      | un => exact ⟨F1, g1, by rw [show frzS .un = .un from rfl, set_self e]; exact R1⟩
      | im d => exact ⟨F1, g1, by rw [show frzS (.im d) = .im d from rfl, set_self e]; exact R1⟩
      | ln ds => exact ⟨F1, g1, by rw [show frzS (.ln ds) = .ln ds from rfl, set_self e]; exact R1⟩
      | sr => exact ⟨F1, g1, by rw [show frzS .sr = .sr from rfl, set_self e]; exact R1⟩
theorem Rel.unE (R : Rel K sa H0 L env s σ F H) (i : Nat) : Rel K sa H0 L (env.set i .un) s σ F H := by
  cases e : σ[i]? with
  | none =>
    have : env[i]? = none := List.getElem?_eq_none (by rw [R.len]; exact List.getElem?_eq_none_iff.mp e)
    rw [set_none this]
    exact R
  | some y =>
    have := R.un i y
    rw [set_self e] at this
    exact this
theorem Rel.wipeR (R : Rel K sa H0 L env s σ F H) : ∀ is : List Nat, Rel K sa H0 L (wipeE env is) s σ F H
  | [] => R
  | i :: r => (Rel.wipeR R r).unE i
/-- one's own list is lent to a loop, and comes back -/
theorem Rel.lend (R : Rel K sa H0 L env s σ F H) {i : Nat} {ds : List D} (e : env[i]? = some (.ow ds)) : ∃ a vs, σ[i]? = some (some (.ref a)) ∧ F a = none ∧ H a = some (.lst vs) ∧ sa ≠ some a ∧ DpAll K F vs ds ∧ (∀ p ∈ L, p.2.1 ≠ a) ∧ Rel K sa H0 ((i, a, vs) :: L) (env.set i (.ln ds)) s σ F H := by
  obtain ⟨a, vs, ev, f, g, t0, n, l, h0⟩ := R.slot i _ e
  refine ⟨a, vs, ev, f, g, n, t0, l, R.sub, R.src, by rw [List.length_set]; exact R.len, fun p hp => ?_, fun j y ej => ?_, fun j k b es fs hjk e1 e2 v1 => ?_⟩
  · rcases List.mem_cons.mp hp with rfl | hp
    · exact ⟨f, g, n, h0⟩
    · exact R.lent p hp
  · rcases get_set ej with ⟨rfl, rfl, hl⟩ | ⟨hj, ej⟩
    · exact ⟨a, vs, ev, by simp [List.lookup_cons], t0⟩
    · have z := R.slot j y ej
      cases y with
      | un => trivial
      | im d => exact z
      | ow es =>
        obtain ⟨b, ws, q1, q2, q3, q4, q5, q6, q7⟩ := z
        refine ⟨b, ws, q1, q2, q3, q4, q5, fun p hp => ?_, q7⟩
        rcases List.mem_cons.mp hp with rfl | hp
        · intro w
          have w : a = b := w
          rw [← w] at q1
          exact R.apart i j a ds es hj e ej ev q1
        · exact q6 p hp
      | ln es =>
        obtain ⟨b, ws, q1, q2, q3⟩ := z
        refine ⟨b, ws, q1, ?_, q3⟩
        rw [List.lookup_cons]
        have : (j == i) = false := by simpa using fun z => hj z.symm
        rw [this]
        exact q2
      | sr => exact z
  · rcases get_set e1 with ⟨_, z, _⟩ | ⟨h1, e3⟩
    · cases z
    · rcases get_set e2 with ⟨_, z, _⟩ | ⟨h2, e4⟩
      · cases z
      · exact R.apart j k b es fs hjk e3 e4 v1
theorem Rel.back {i : Nat} {a : Addr} {vs : List V} (hl : ∀ p ∈ L, p.2.1 ≠ a) (R : Rel K sa H0 ((i, a, vs) :: L) env s σ F H) {ds : List D} (e : env[i]? = some (.ln ds)) : Rel K sa H0 L (env.set i (.ow ds)) s σ F H := by
  obtain ⟨a', vs', ev, m, t0⟩ := R.slot i _ e
  have m' : some (a, vs) = some (a', vs') := by
    rw [← m]
    simp [List.lookup_cons]
  cases m'
  obtain ⟨f, g, n, h0⟩ := R.lent (i, a, vs) List.mem_cons_self
  have f : F a = none := f
  have g : H a = some (.lst vs) := g
  refine ⟨R.sub, R.src, by rw [List.length_set]; exact R.len, fun p hp => R.lent p (List.mem_cons_of_mem _ hp), fun j y ej => ?_, fun j k b es fs hjk e1 e2 v1 => ?_⟩
  · rcases get_set ej with ⟨rfl, rfl, hl'⟩ | ⟨hj, ej⟩
    · exact ⟨a, vs, ev, f, g, t0, n, hl, h0⟩
    · have z := R.slot j y ej
      cases y with
      | un => trivial
      | im d => exact z
      | ow es =>
        obtain ⟨b, ws, q1, q2, q3, q4, q5, q6, q7⟩ := z
        exact ⟨b, ws, q1, q2, q3, q4, q5, fun p hp => q6 p (List.mem_cons_of_mem _ hp), q7⟩
      | ln es =>
        obtain ⟨b, ws, q1, q2, q3⟩ := z
        refine ⟨b, ws, q1, ?_, q3⟩
        rw [List.lookup_cons] at q2
        have : (j == i) = false := by simpa using fun z => hj z.symm
        rw [this] at q2
        exact q2
      | sr => exact z
  · rcases get_set e1 with ⟨rfl, z1, _⟩ | ⟨h1, e3⟩
    · rcases get_set e2 with ⟨rfl, _, _⟩ | ⟨h2, e4⟩
      · exact absurd rfl hjk
      · intro v2
        rw [ev] at v1
        cases v1
        obtain ⟨b, ws, q1, q2, q3, q4, q5, q6, q7⟩ := R.slot k _ e4
        rw [v2] at q1
        cases q1
        exact q6 _ List.mem_cons_self rfl
    · rcases get_set e2 with ⟨rfl, z2, _⟩ | ⟨h2, e4⟩
      · intro v2
        rw [ev] at v2
        cases v2
        obtain ⟨b, ws, q1, q2, q3, q4, q5, q6, q7⟩ := R.slot j _ e3
        rw [v1] at q1
        cases q1
        exact q6 _ List.mem_cons_self rfl
      · exact R.apart j k b es fs hjk e3 e4 v1
end
end Wk
set_option maxRecDepth 100000
set_option maxHeartbeats 4000000
/-! WC5: statements, one by one -/
namespace Wk
open PySem PySem.Spec PyProof.Rows L2
/-- what a return gives -/
def Rp (K : PySem.W.Frag) (fr : Bool) (sa0 : Option Addr) (H0 : Hp) : Hp → Hp → V → D → Prop := if fr = true then RF K sa0 H0 else RD K
def CnS (ex : ExV) (E : XK) (K : PySem.W.Frag) (fr : Bool) (sa0 sa : Option Addr) (H0 : Hp) (L : List (Nat × Addr × List V)) (G : Hp → Hp → SV → Prop) (D : Ends) : Res Fl → Prop
  | .ok (.nx env) s => ∀ σ F H, G F H s → Rel K sa H0 L env s σ F H → D.nx σ H
  | .ok (.bk env) s => ∀ σ F H, G F H s → Rel K sa H0 L env s σ F H → D.bk σ H
  | .ok (.ct env) s => ∀ σ F H, G F H s → Rel K sa H0 L env s σ F H → D.ct σ H
  | .ok (.rt d) s => ∀ v F H, G F H s → Same F H → SrcOk sa F H s → Rp K fr sa0 H0 F H v d → D.rt v H
  | .er c s => ∀ F H, G F H s → E (ex c) none H
  | .no => False
/-- a statement's reading -/
def tSt (K : PySem.W.Frag) (ex : ExV) (E : XK) (fr so : Bool) (m : Env → M Fl) : TS := fun D σ H =>
  ∃ (F : Hp) (sa0 sa : Option Addr) (H0 : Hp) (L : List (Nat × Addr × List V)) (env : Env) (s : SV) (G : Hp → Hp → SV → Prop), Anc sa0 sa H0 G ∧ (so = false → sa = none) ∧ G F H s ∧ Rel K sa H0 L env s σ F H ∧ CnS ex E K fr sa0 sa H0 L G D (m env s)
section
variable {ex : ExV} {E : XK} {X : Cx} {K : PySem.W.Frag} {fr so : Bool} {sa0 sa : Option Addr} {H0 : Hp} {L : List (Nat × Addr × List V)} {G : Hp → Hp → SV → Prop} {D : Ends} {F H : Hp} {s : SV}
theorem CnS.no (c : CnS ex E K fr sa0 sa H0 L G D (stuck s)) : False := c
theorem CnS.bnd {α β : Type} {m : M α} {k : α → M Fl} {Rm : Hp → Hp → β → α → Prop} {Q1 : β → Hp → Prop} (A : Anc sa0 sa H0 G) (g : G F H s) (hs : Same F H) (h : SrcOk sa F H s) (c : CnS ex E K fr sa0 sa H0 L G D (bnd m k s))
    (q : ∀ v F1 H1 s1 d, Ext sa F H s F1 H1 s1 → G F1 H1 s1 → Rm F1 H1 v d → CnS ex E K fr sa0 sa H0 L G D (k d s1) → Q1 v H1) : Cn ex E sa F H s (m s) Rm Q1 := by
  unfold Wk.bnd at c
  cases e : m s with
  | ok d s' =>
    rw [e] at c
    exact fun v F' H' x rp => q v F' H' s' d x (A.ext _ _ _ _ _ _ g hs h x) rp c
  | er e' s' =>
    rw [e] at c
    exact fun F' H' x => c F' H' (A.ext _ _ _ _ _ _ g hs h x)
  | no =>
    rw [e] at c
    exact c
/-- a value that is there at once -/
theorem CnS.own {env : Env} {i : Nat} {k : List Wk.D → M Fl} (c : CnS ex E K fr sa0 sa H0 L G D (Wk.bnd (owM env i) k s)) : ∃ ds, env[i]? = some (.ow ds) ∧ CnS ex E K fr sa0 sa H0 L G D (k ds s) := by
  unfold owM at c
  cases e : env[i]? with
  | none =>
    rw [e] at c
    exact False.elim c
  | some y =>
    rw [e] at c
    cases y with
    | ow ds => exact ⟨ds, rfl, c⟩
    | un => exact False.elim c
    | im d => exact False.elim c
    | ln ds => exact False.elim c
    | sr => exact False.elim c
theorem PSs.nilS {m : Env → M Fl} (hm : ∀ env, m env = ret (.nx env)) : PSs X [] (tSt X.K ex E fr so m) := PSs.imp pss_nil fun D σ H h => by
  obtain ⟨F, sa0, sa, H0, L, env, s, G, A, hso, g, R, c⟩ := h
  rw [hm] at c
  exact c σ F H g R
theorem PSs.consS {st : Stmt} {rest : List Stmt} {m1 m2 : Env → M Fl} {m : Env → M Fl} (h1 : PS X st (tSt X.K ex E fr so m1)) (h2 : PSs X rest (tSt X.K ex E fr so m2)) (hm : ∀ env, m env = bnd (m1 env) fun f => match f with
    | .nx env' => m2 env'
    | .rt d => ret (.rt d)
    | .bk e => ret (.bk e)
    | .ct e => ret (.ct e)) : PSs X (st :: rest) (tSt X.K ex E fr so m) := by
  refine PSs.imp (pss_cons h1 h2) fun D σ H h => ?_
  obtain ⟨F, sa0, sa, H0, L, env, s, G, A, hso, g, R, c⟩ := h
  rw [hm] at c
  refine ⟨F, sa0, sa, H0, L, env, s, G, A, hso, g, R, ?_⟩
  unfold bnd at c
  cases e : m1 env s with
  | no =>
    rw [e] at c
    exact c
  | er e' s' =>
    rw [e] at c
    exact c
  | ok f s1 =>
    rw [e] at c
    cases f with
    | nx env' => exact fun σ1 F1 H1 g1 R1 => ⟨F1, sa0, sa, H0, L, env', s1, G, A, hso, g1, R1, c⟩
    | rt d => exact c
    | bk env' => exact c
    | ct env' => exact c
/-- the ghosts -/
theorem PSs.frzS {sts : List Stmt} {m : Env → M Fl} {is : List Nat} (h : PSs X sts (tSt X.K ex E fr so m)) : PSs X sts (tSt X.K ex E fr so fun env => m (frzE env is)) := PSs.imp h fun D σ H h => by
  obtain ⟨F, sa0, sa, H0, L, env, s, G, A, hso, g, R, c⟩ := h
  obtain ⟨F', g', R'⟩ := R.frz A g is
  exact ⟨F', sa0, sa, H0, L, _, s, G, A, hso, g', R', c⟩
theorem PSs.wipeS {sts : List Stmt} {m : Env → M Fl} {is : List Nat} (h : PSs X sts (tSt X.K ex E fr so m)) : PSs X sts (tSt X.K ex E fr so fun env => m (wipeE env is)) := PSs.imp h fun D σ H h => by
  obtain ⟨F, sa0, sa, H0, L, env, s, G, A, hso, g, R, c⟩ := h
  exact ⟨F, sa0, sa, H0, L, _, s, G, A, hso, g, R.wipeR is, c⟩
/-! ### the rest under a source -/
theorem upd_upd {H : Hp} {a : Addr} {o o' : HO} : upd (upd H a o) a o' = upd H a o' := by
  funext b
  by_cases h : b = a
  · subst h
    rw [upd_same, upd_same]
  · rw [upd_ne h, upd_ne h, upd_ne h]
theorem upd_self {H : Hp} {a : Addr} {o : HO} (e : H a = some o) : upd H a o = H := by
  funext b
  by_cases h : b = a
  · subst h
    rw [upd_same, e]
  · rw [upd_ne h]
theorem Anc.inner {a : Addr} {so : SV} (A : Anc sa0 Option.none H0 G) (h0 : H0 a = Option.none) : Anc sa0 (some a) H0 (fun F H _ => G F H so) where
  ext := fun F H s F' H' s' g hs hso x => by
    obtain ⟨h1, h2⟩ := hso
    have hx := x.src
    obtain ⟨h3, h4⟩ := hx
    have y : Ext Option.none F H so F' (upd H' a (.lst [.int s.a, .int s.b, .int s.c])) so := by
      refine ⟨x.ff, fun b o e => ?_, fun b o e1 e2 => ?_, rfl⟩
      · have hb : b ≠ a := ne_of_none e h4
        rw [upd_ne hb]
        exact x.sub _ _ e
      · obtain ⟨z1, z2⟩ := x.cell b o e1 e2
        refine ⟨z1, fun _ => ?_⟩
        by_cases hb : b = a
        · subst hb
          rw [upd_same, ← h1]
          exact e2
        · rw [upd_ne hb]
          exact z2 fun w => hb (Option.some.inj w).symm
    have g1 := A.ext _ _ so _ _ so g hs trivial y
    have g2 := A.own _ _ so a (.lst [.int s'.a, .int s'.b, .int s'.c]) g1 h4 h0 (fun z => nomatch z)
    rw [upd_upd, upd_self h3] at g2
    exact g2
  none := fun F H s g => A.none F H so g
  own := fun F H s b o g f h n => A.own F H so b o g f h (fun z => nomatch z)
  frz := fun F H s b o g f e h n => A.frz F H so b o g f e h (fun z => nomatch z)
  src := fun F H s b s' e g hs => by
    cases e
    exact A.own F H so a _ g hs.2 h0 (fun z => nomatch z)
  sa := .inr (by rcases A.sa with z | z <;> exact z)
theorem Rel.srcIn {env : Env} {σ : St} {i : Nat} {a b c : Int} (R : Rel K none H0 L env s σ F H) (e : env[i]? = some (.ow [.int a, .int b, .int c])) : ∃ p, H0 p = none ∧ (∀ q ∈ L, q.2.1 ≠ p) ∧ Rel K (some p) H0 L (env.set i .sr) ⟨a, b, c⟩ σ F H := by
  obtain ⟨p, vs, ev, f, g, t, n, l, h0⟩ := R.slot i _ e
  have evs : vs = [.int a, .int b, .int c] := DpAll.ints (ns := [a, b, c]) t rfl
  subst evs
  refine ⟨p, h0, l, R.sub, ⟨g, f⟩, by rw [List.length_set]; exact R.len, fun q hq => ?_, fun j y ej => ?_, fun j k x es fs hjk e1 e2 v1 => ?_⟩
  · obtain ⟨z1, z2, z3, z4⟩ := R.lent q hq
    exact ⟨z1, z2, fun w => l q hq (Option.some.inj w).symm, z4⟩
  · rcases get_set ej with ⟨rfl, rfl, hl⟩ | ⟨hj, ej⟩
    · exact ⟨p, rfl, ev⟩
    · have z := R.slot j y ej
      cases y with
      | un => trivial
      | im d => exact z
      | ow es =>
        obtain ⟨x, ws, q1, q2, q3, q4, q5, q6⟩ := z
        refine ⟨x, ws, q1, q2, q3, q4, fun w => ?_, q6⟩
        cases w
        exact R.apart i j p _ es hj e ej ev q1
      | ln es => exact z
      | sr =>
        obtain ⟨x, q, _⟩ := z
        cases q
  · rcases get_set e1 with ⟨_, z, _⟩ | ⟨h1, e3⟩
    · cases z
    · rcases get_set e2 with ⟨_, z, _⟩ | ⟨h2, e4⟩
      · cases z
      · exact R.apart j k x es fs hjk e3 e4 v1
theorem all_get {env : Env} {j : Nat} {y : Slot} (h : env.all noSr = true) (e : env[j]? = some y) : noSr y = true := List.all_eq_true.mp h _ (List.mem_of_getElem? e)
theorem Rel.srcOut {env : Env} {σ : St} {i : Nat} {p : Addr} {so : SV} (h0 : H0 p = none) (hL : ∀ q ∈ L, q.2.1 ≠ p) (R : Rel K (some p) H0 L env s σ F H) (e : env[i]? = some .sr) (hn : (env.set i .un).all noSr = true) : Rel K none H0 L (env.set i (.ow [.int s.a, .int s.b, .int s.c])) so σ F H := by
  obtain ⟨p', e1, ev⟩ := R.slot i _ e
  cases e1
  obtain ⟨g, f⟩ := R.src
  refine ⟨R.sub, trivial, by rw [List.length_set]; exact R.len, fun q hq => ?_, fun j y ej => ?_, fun j k x es fs hjk e1 e2 v1 => ?_⟩
  · obtain ⟨z1, z2, z3, z4⟩ := R.lent q hq
    exact ⟨z1, z2, (fun w => nomatch w), z4⟩
  · rcases get_set ej with ⟨rfl, rfl, hl⟩ | ⟨hj, ej⟩
    · exact ⟨p, _, ev, f, g, .cons (.int _) (.cons (.int _) (.cons (.int _) .nil)), (fun w => nomatch w), hL, h0⟩
    · have z := R.slot j y ej
      cases y with
      | un => trivial
      | im d => exact z
      | ow es =>
        obtain ⟨x, ws, q1, q2, q3, q4, q5, q6⟩ := z
        exact ⟨x, ws, q1, q2, q3, q4, (fun w => nomatch w), q6⟩
      | ln es => exact z
      | sr =>
        have e5 : (env.set i .un)[j]? = some .sr := by
          rw [List.getElem?_set_ne hj]
          exact ej
        have := all_get hn e5
        cases this
  · rcases get_set e1 with ⟨rfl, z1, _⟩ | ⟨h1, e3⟩
    · rcases get_set e2 with ⟨rfl, _, _⟩ | ⟨h2, e4⟩
      · exact absurd rfl hjk
      · intro v2
        rw [ev] at v1
        cases v1
        obtain ⟨b, ws, q1, q2, q3, q4, q5, q6⟩ := R.slot k _ e4
        rw [v2] at q1
        cases q1
        exact q5 rfl
    · rcases get_set e2 with ⟨rfl, z2, _⟩ | ⟨h2, e4⟩
      · intro v2
        rw [ev] at v2
        cases v2
        obtain ⟨b, ws, q1, q2, q3, q4, q5, q6⟩ := R.slot j _ e3
        rw [v1] at q1
        cases q1
        exact q5 rfl
      · exact R.apart j k x es fs hjk e3 e4 v1
theorem backE_spec {i : Nat} {s : SV} {env env' : Env} (h : backE i s env = some env') : env[i]? = some .sr ∧ (env.set i .un).all noSr = true ∧ env' = env.set i (.ow [.int s.a, .int s.b, .int s.c]) := by
  unfold backE at h
  cases e : env[i]? with
  | none =>
    rw [e] at h
    cases h
  | some y =>
    rw [e] at h
    cases y <;> try cases h
    dsimp only at h
    by_cases hn : (env.set i .un).all noSr = true
    · rw [if_pos hn] at h
      cases h
      exact ⟨rfl, hn, rfl⟩
    · rw [if_neg hn] at h
      cases h
theorem srcInts_spec {x : Option Slot} {z : SV} (h : srcInts x = some z) : x = some (.ow [.int z.a, .int z.b, .int z.c]) := by
  unfold srcInts at h
  split at h
  · cases h
    rfl
  · cases h
theorem PSs.srcS {sts : List Stmt} {m : Env → M Fl} {i : Nat} (h : PSs X sts (tSt X.K ex E fr true m)) : PSs X sts (tSt X.K ex E fr false fun env => srcRun i env m) := PSs.imp h fun D σ H h => by
  obtain ⟨F, sa0, sa, H0, L, env, s, G, A, hso, g, R, c⟩ := h
  cases hso rfl
  unfold srcRun at c
  dsimp only at c
  cases e0 : srcInts env[i]? with
  | some z =>
    rw [e0] at c
    have e := srcInts_spec e0
    obtain ⟨p, h0, hL, R1⟩ := R.srcIn e
    refine ⟨F, sa0, some p, H0, L, _, z, _, A.inner (so := s) h0, (fun z => nomatch z), g, R1, ?_⟩
    dsimp only at c
    cases em : m (env.set i .sr) z with
    | no =>
      rw [em] at c
      exact c
    | er e' s' =>
      rw [em] at c
      exact c
    | ok f s' =>
      rw [em] at c
      dsimp only at c
      cases f with
      | rt d => exact fun v F1 H1 g1 hs1 ho1 rp => c v F1 H1 g1 hs1 trivial rp
      | nx env2 =>
        cases eb : backE i s' env2 with
        | none =>
          rw [show backF i s' (.nx env2) = none from by show (backE i s' env2).map Fl.nx = none; rw [eb]; rfl] at c
          exact c.elim
        | some env3 =>
          rw [show backF i s' (.nx env2) = some (.nx env3) from by show (backE i s' env2).map Fl.nx = some (.nx env3); rw [eb]; rfl] at c
          obtain ⟨q1, q2, rfl⟩ := backE_spec eb
          exact fun σ1 F1 H1 g1 R1 => c σ1 F1 H1 g1 (R1.srcOut h0 hL q1 q2)
      | bk env2 =>
        cases eb : backE i s' env2 with
        | none =>
          rw [show backF i s' (.bk env2) = none from by show (backE i s' env2).map Fl.bk = none; rw [eb]; rfl] at c
          exact c.elim
        | some env3 =>
          rw [show backF i s' (.bk env2) = some (.bk env3) from by show (backE i s' env2).map Fl.bk = some (.bk env3); rw [eb]; rfl] at c
          obtain ⟨q1, q2, rfl⟩ := backE_spec eb
          exact fun σ1 F1 H1 g1 R1 => c σ1 F1 H1 g1 (R1.srcOut h0 hL q1 q2)
      | ct env2 =>
        cases eb : backE i s' env2 with
        | none =>
          rw [show backF i s' (.ct env2) = none from by show (backE i s' env2).map Fl.ct = none; rw [eb]; rfl] at c
          exact c.elim
        | some env3 =>
          rw [show backF i s' (.ct env2) = some (.ct env3) from by show (backE i s' env2).map Fl.ct = some (.ct env3); rw [eb]; rfl] at c
          obtain ⟨q1, q2, rfl⟩ := backE_spec eb
          exact fun σ1 F1 H1 g1 R1 => c σ1 F1 H1 g1 (R1.srcOut h0 hL q1 q2)
  | none =>
    rw [e0] at c
    exact False.elim c
end
end Wk
set_option maxRecDepth 100000
set_option maxHeartbeats 4000000
/-! WC6: statements, one by one, second part -/
namespace Wk
open PySem PySem.Spec PyProof.Rows L2
section
variable {ex : ExV} {E : XK} {X : Cx} {fr so : Bool}
/-! ### stores -/
theorem ss_set {st : Stmt} {i : Nat} {me : Env → M D} {m : Env → M Fl} (h : PS X st (tAsg (tE X.K ex E me (qD X.K)) (gName i))) (hm : ∀ env, m env = bnd (me env) fun x => bnd (setI env i x) fun env' => ret (.nx env')) : PS X st (tSt X.K ex E fr so m) := by
  refine PS.imp h fun D σ H hh => ?_
  obtain ⟨F, sa0, sa, H0, L, env, s, G, A, hso, g, R, c⟩ := hh
  rw [hm] at c
  refine ⟨F, sa, H0, L, env, s, R, CnS.bnd A g R.sub R.src c fun v F1 H1 s1 d x1 g1 r c1 => ?_⟩
  unfold setI at c1
  by_cases hf : free env i = true
  · rw [if_pos hf] at c1
    exact c1 _ _ _ g1 ((R.ext x1).setI i r)
  · rw [if_neg hf] at c1
    exact False.elim c1
theorem ss_setL {st : Stmt} {i : Nat} {me : Env → M D} {m : Env → M Fl} (h : PS X st (tAsg (tE X.K ex E me (qF X.K)) (gName i))) (hm : ∀ env, m env = bnd (me env) fun x => bnd (setO env i x) fun env' => ret (.nx env')) : PS X st (tSt X.K ex E fr so m) := by
  refine PS.imp h fun D σ H hh => ?_
  obtain ⟨F, sa0, sa, H0, L, env, s, G, A, hso, g, R, c⟩ := hh
  rw [hm] at c
  refine ⟨F, sa, H0, L, env, s, R, CnS.bnd A g R.sub R.src c fun v F1 H1 s1 d x1 g1 r c1 => ?_⟩
  obtain ⟨ds, rfl, R1⟩ := R.setF A g x1 i r
  unfold setO at c1
  dsimp only at c1
  by_cases hf : free env i = true
  · rw [if_pos hf] at c1
    exact c1 _ _ _ g1 R1
  · rw [if_neg hf] at c1
    exact False.elim c1
theorem ss_setT {st : Stmt} {t : Tg} {me : Env → M D} {m : Env → M Fl} (h : PS X st (tAsg (tE X.K ex E me (qD X.K)) (tGr X.K t))) (hm : ∀ env, m env = bnd (me env) fun x => match bindT t x env with
    | some env' => ret (.nx env')
    | none => stuck) : PS X st (tSt X.K ex E fr so m) := by
  refine PS.imp h fun D σ H hh => ?_
  obtain ⟨F, sa0, sa, H0, L, env, s, G, A, hso, g, R, c⟩ := hh
  rw [hm] at c
  refine ⟨F, sa, H0, L, env, s, R, CnS.bnd A g R.sub R.src c fun v F1 H1 s1 d x1 g1 r c1 => ?_⟩
  cases e : bindT t d env with
  | none =>
    rw [e] at c1
    exact False.elim c1
  | some env' =>
    rw [e] at c1
    exact ⟨F1, sa, H0, L, env, s1, d, env', R.ext x1, r, e, fun σ' R' _ => c1 σ' _ _ g1 R'⟩
/-- a, b = x, y -/
def qFl (K : PySem.W.Frag) (f : Bool) : Option Addr → Hp → Hp → Hp → V → D → Prop := fun sa Hs F H v d => if f = true then RF K sa Hs F H v d else Dp K F v d
theorem qFl.ext {K : PySem.W.Frag} {f : Bool} {sa : Option Addr} {Hs F H F' H' : Hp} {s s' : SV} {v : V} {d : D} (x : Ext sa F H s F' H' s') (h : qFl K f sa Hs F H v d) : qFl K f sa Hs F' H' v d := by
  cases f with
  | false => exact Dp.mono x.ff h
  | true =>
    obtain ⟨a, vs, ds, rfl, rfl, h0, f, g, n, t⟩ := h
    obtain ⟨f', g'⟩ := x.cell a _ f g
    exact ⟨a, vs, ds, rfl, rfl, h0, f', g' n, n, t.mono x.ff⟩
theorem de_fl {e : Expr} {m : Env → M D} (f : Bool) (h1 : f = false → PE X e (tE X.K ex E m (qD X.K))) (h2 : f = true → PE X e (tE X.K ex E m (qF X.K))) : PE X e (tE X.K ex E m (qFl X.K f)) := by
  cases f with
  | true => exact PE.imp (h2 rfl) fun σ H Q ⟨F, sa, H0, L, env, s, R, c⟩ => ⟨F, sa, H0, L, env, s, R, c.rep fun _ _ _ _ z => z⟩
  | false => exact PE.imp (h1 rfl) fun σ H Q ⟨F, sa, H0, L, env, s, R, c⟩ => ⟨F, sa, H0, L, env, s, R, c.rep fun _ _ _ _ z => z⟩
def stI (f : Bool) (env : Env) (i : Nat) (x : D) : M Env := if f = true then setO env i x else setI env i x
theorem stI_rel {sa : Option Addr} {H0 : Hp} {L : List (Nat × Addr × List V)} {env env1 : Env} {s s' s2 : SV} {σ : St} {F H Hs : Hp} {i : Nat} {f : Bool} {v : V} {d : D} {K : PySem.W.Frag} (R : Rel K sa H0 L env s σ F H) (h0 : ∀ p, Hs p = none → H0 p = none) (hn : f = true → ∀ p, Hs p = none → NewAt L env σ p) (r : qFl K f sa Hs F H v d) (e : stI f env i d s' = .ok env1 s2) :
    s2 = s' ∧ Rel K sa H0 L env1 s (σ.set i (some v)) F H ∧ ((f = true ∧ ∃ ds, env1 = env.set i (.ow ds)) ∨ (f = false ∧ env1 = env.set i (.im d))) := by
  cases f with
  | false =>
    have e : setI env i d s' = .ok env1 s2 := e
    unfold setI at e
    by_cases hf : free env i = true
    · rw [if_pos hf] at e
      cases e
      exact ⟨rfl, R.setI i r, .inr ⟨rfl, rfl⟩⟩
    · rw [if_neg hf] at e
      cases e
  | true =>
    have e : setO env i d s' = .ok env1 s2 := e
    obtain ⟨ds, rfl, R1⟩ := R.put' (i := i) h0 (hn rfl) r
    unfold setO at e
    dsimp only at e
    by_cases hf : free env i = true
    · rw [if_pos hf] at e
      cases e
      exact ⟨rfl, R1, .inl ⟨rfl, ds, rfl⟩⟩
    · rw [if_neg hf] at e
      cases e
theorem ss_par {st : Stmt} {i j : Nat} {fa fb : Bool} {a b : Expr} {ma mb : Env → M D} {m : Env → M Fl} {KQ : Ends → St → List V → Hp → Prop} (hij : i ≠ j) (h : ∀ ta, PA X [a, b] ta → PS X st (fun D σ H => ta σ H (KQ D σ))) (hK : ∀ (D : Ends) (σ : St) (v w : V) (H1 : Hp), D.nx ((σ.set i (some v)).set j (some w)) H1 → (∀ p, H1 p = none → D.nx ((σ.set i (some v)).set j (some w)) (upd H1 p (.tup [v, w]))) → KQ D σ [v, w] H1) (ha : PE X a (tE X.K ex E ma (qFl X.K fa))) (hb : PE X b (tE X.K ex E mb (qFl X.K fb))) (hst : notStars [a, b] = true)
    (hm : ∀ env, m env = bnd (ma env) fun x => bnd (mb env) fun y => bnd (stI fa env i x) fun env1 => bnd (stI fb env1 j y) fun env2 => ret (.nx env2)) : PS X st (tSt X.K ex E fr so m) := by
  simp only [notStars, Bool.and_true, Bool.and_eq_true] at hst
  refine PS.imp (h _ (pa_cons ha (pa_cons hb pa_nil (star_cons hst.2)) (star_cons hst.1))) fun D σ H hh => ?_
  obtain ⟨F, sa0, sa, H0, L, env, s, G, A, hso, g, R, c⟩ := hh
  rw [hm] at c
  refine ⟨F, sa, H0, L, env, s, R, CnS.bnd A g R.sub R.src c fun v F1 H1 s1 d x1 g1 r1 c1 => ?_⟩
  refine ⟨F1, sa, H0, L, env, s1, R.ext x1, CnS.bnd A g1 x1.sub x1.srcOk c1 fun w F2 H2 s2 e x2 g2 r2 c2 => ?_⟩
  have R2 := (R.ext x1).ext x2
  have r1b := qFl.ext x2 r1
  have n0 := A.none _ _ _ g
  have n1 := A.none _ _ _ g1
  unfold bnd at c2
  cases e1 : stI fa env i d s2 with
  | no =>
    rw [e1] at c2
    exact False.elim c2
  | er e' s' =>
    cases fa <;> (unfold stI setO setI at e1; simp only [Bool.false_eq_true, if_false, if_true] at e1; split at e1 <;> first | cases e1 | (split at e1 <;> cases e1))
  | ok env1 s3 =>
    rw [e1] at c2
    dsimp only at c2
    obtain ⟨rfl, R3, hk⟩ := stI_rel R2 n0 (fun _ p hp => R.old p hp) r1b e1
    cases e2 : stI fb env1 j e s3 with
    | no =>
      rw [e2] at c2
      exact False.elim c2
    | er e' s' =>
      cases fb <;> (unfold stI setO setI at e2; simp only [Bool.false_eq_true, if_false, if_true] at e2; split at e2 <;> first | cases e2 | (split at e2 <;> cases e2))
    | ok env2 s4 =>
      rw [e2] at c2
      obtain ⟨rfl, R4, _⟩ := stI_rel R3 n1 (fun _ p hp => by
        obtain ⟨q1, q2⟩ := (R.ext x1).old p hp
        refine ⟨fun k es b e3 e4 => ?_, q2⟩
        by_cases hik : i = k
        · subst hik
          rcases hk with ⟨hfa, ds, rfl⟩ | ⟨_, rfl⟩
          · have hr1' : RF X.K sa H F1 H1 v d := by
              have t := r1
              rw [hfa] at t
              exact t
            obtain ⟨a1, vs1, ds1, e51, e61, h01, f1, g1', n1', t1'⟩ := hr1'
            rcases get_set e3 with ⟨_, _, hl⟩ | ⟨hne, _⟩
            · rw [List.getElem?_set_self (by rw [← R2.len]; exact hl), e51] at e4
              cases e4
              intro z
              rw [z, hp] at g1'
              cases g1'
            · exact absurd rfl hne
          · rcases get_set e3 with ⟨_, z, _⟩ | ⟨hne, _⟩
            · cases z
            · exact absurd rfl hne
        · have e3' : env[k]? = some (.ow es) := by
            rcases hk with ⟨_, ds, rfl⟩ | ⟨_, rfl⟩
            · rwa [List.getElem?_set_ne hik] at e3
            · rwa [List.getElem?_set_ne hik] at e3
          rw [List.getElem?_set_ne hik] at e4
          exact q1 k es b e3' e4) r2 e2
      refine hK _ _ _ _ _ (c2 _ _ _ g2 R4) fun p hp => ?_
      have x3 : Ext sa F2 H2 s4 F2 (upd H2 p (.tup [v, w])) s4 := Ext.newO R2.sub R2.src hp
      exact c2 _ _ _ (A.ext _ _ _ _ _ _ g2 R2.sub R2.src x3) (R4.ext x3)
/-! ### own lists changed -/
theorem CnS.inI {K : PySem.W.Frag} {sa0 sa : Option Addr} {H0 : Hp} {L : List (Nat × Addr × List V)} {G : Hp → Hp → SV → Prop} {D : Ends} {s : SV} {env : Env} {i : Nat} {k : Int → M Fl} (c : CnS ex E K fr sa0 sa H0 L G D (Wk.bnd (inM env i) k s)) : ∃ n, env[i]? = some (.im (.int n)) ∧ CnS ex E K fr sa0 sa H0 L G D (k n s) := by
  unfold inM at c
  cases e : env[i]? with
  | none =>
    rw [e] at c
    exact False.elim c
  | some y =>
    rw [e] at c
    cases y with
    | im d =>
      cases d with
      | int n => exact ⟨n, rfl, c⟩
      | none => exact False.elim c
      | bool b => exact False.elim c
      | str b => exact False.elim c
      | list b => exact False.elim c
      | tuple b => exact False.elim c
      | dict b => exact False.elim c
    | un => exact False.elim c
    | ow d => exact False.elim c
    | ln ds => exact False.elim c
    | sr => exact False.elim c
theorem ss_aug {st : Stmt} {i : Nat} {me : Env → M D} {m : Env → M Fl} (h : PS X st (tAug i (tE X.K ex E me (qB X.K)) (ipI fun i j => i + j))) (hm : ∀ env, m env = bnd (inM env i) fun _ => bnd (me env) fun x => bnd (augD env i x) fun env' => ret (.nx env')) : PS X st (tSt X.K ex E fr so m) := by
  refine PS.imp h fun D σ H hh => ?_
  obtain ⟨F, sa0, sa, H0, L, env, s, G, A, hso, g, R, c⟩ := hh
  rw [hm] at c
  obtain ⟨n, e, c⟩ := c.inI
  obtain ⟨v, ev, r⟩ := R.slot i _ e
  cases r
  refine ⟨.int n, ev, F, sa, H0, L, env, s, R, CnS.bnd A g R.sub R.src c fun w F1 H1 s1 d x1 g1 b1 c1 => ?_⟩
  unfold augD at c1
  rw [e] at c1
  cases d <;> try exact False.elim c1
  cases Bp.int b1
  exact ⟨_, _, rfl, rfl, c1 _ _ _ g1 ((R.ext x1).setI i (.int _))⟩
theorem ss_augL {st : Stmt} {i : Nat} {me : Env → M D} {m : Env → M Fl} (h : PS X st (tAug i (tE X.K ex E me (qF X.K)) rExt2)) (hm : ∀ env, m env = bnd (owM env i) fun _ => bnd (me env) fun x => bnd (augLD env i x) fun env' => ret (.nx env')) : PS X st (tSt X.K ex E fr so m) := by
  refine PS.imp h fun D σ H hh => ?_
  obtain ⟨F, sa0, sa, H0, L, env, s, G, A, hso, g, R, c⟩ := hh
  rw [hm] at c
  obtain ⟨ds, e, c⟩ := c.own
  obtain ⟨a, vs, ev, _⟩ := R.slot i _ e
  refine ⟨.ref a, ev, F, sa, H0, L, env, s, R, CnS.bnd A g R.sub R.src c fun w F1 H1 s1 d x1 g1 b1 c1 => ?_⟩
  have R1 := R.ext x1
  obtain ⟨a', vs', ev', f', g', t', n', l', h0'⟩ := R1.slot i _ e
  rw [ev] at ev'
  cases ev'
  unfold augLD at c1
  rw [e] at c1
  obtain ⟨b, ws, es, rfl, rfl, hb0, fb, gb, nb, tb⟩ := b1
  dsimp only at c1
  by_cases hz : sizeOk (ds.length + es.length) = true
  · rw [if_pos hz] at c1
    refine ⟨a, b, vs', ws, rfl, rfl, g', gb, by rw [t'.length, tb.length]; exact sz_of hz, ?_⟩
    show D.nx (σ.set i (some (.ref a))) _
    rw [set_self ev]
    exact c1 _ _ _ (A.own _ _ _ _ _ g1 f' h0' n') (R1.mut e ev (t'.append tb))
  · rw [if_neg hz] at c1
    exact False.elim c1
theorem ss_store {st : Stmt} {i : Nat} {me mk : Env → M D} {m : Env → M Fl} (h : PS X st (tAsg (tE X.K ex E me (qD X.K)) (gSub (tVar i) (tE X.K ex E mk (qB X.K)) rSetL))) (hm : ∀ env, m env = bnd (me env) fun x => bnd (owM env i) fun _ => bnd (mk env) fun y => bnd (storeD env i x y) fun env' => ret (.nx env')) : PS X st (tSt X.K ex E fr so m) := by
  refine PS.imp h fun D σ H hh => ?_
  obtain ⟨F, sa0, sa, H0, L, env, s, G, A, hso, g, R, c⟩ := hh
  rw [hm] at c
  refine ⟨F, sa, H0, L, env, s, R, CnS.bnd A g R.sub R.src c fun w F1 H1 s1 d x1 g1 b1 c1 => ?_⟩
  obtain ⟨ds, e, c1⟩ := c1.own
  have R1 := R.ext x1
  obtain ⟨a, vs, ev, _⟩ := R1.slot i _ e
  refine ⟨.ref a, ev, F1, sa, H0, L, env, s1, R1, CnS.bnd A g1 x1.sub x1.srcOk c1 fun y F2 H2 s2 k x2 g2 b2 c2 => ?_⟩
  have R2 := R1.ext x2
  obtain ⟨a', vs', ev', f', g', t', n', l', h0'⟩ := R2.slot i _ e
  rw [ev] at ev'
  cases ev'
  unfold storeD at c2
  rw [e] at c2
  cases k <;> try exact False.elim c2
  rename_i n
  cases Bp.int b2
  dsimp only at c2
  cases ej : ixN ds.length n with
  | none =>
    rw [ej] at c2
    exact False.elim c2
  | some j =>
    rw [ej] at c2
    refine ⟨a, vs', n, j, rfl, rfl, g', by rw [t'.length]; exact ej, ?_⟩
    exact c2 _ _ _ (A.own _ _ _ _ _ g2 f' h0' n') (R2.mut e ev (t'.set (Dp.mono x2.ff b1) j))
theorem ss_srcSet {st : Stmt} {i k : Nat} {me : Env → M D} {m : Env → M Fl} (h : PS X st (tAsg (tE X.K ex E me (qB X.K)) (gSub (tVar i) (tC (.int (k : Nat))) rSetL))) (hm : ∀ env, m env = bnd (me env) fun x => bnd (srcSetD env i k x) fun env' => ret (.nx env')) : PS X st (tSt X.K ex E fr so m) := by
  refine PS.imp h fun D σ H hh => ?_
  obtain ⟨F, sa0, sa, H0, L, env, s, G, A, hso, g, R, c⟩ := hh
  rw [hm] at c
  refine ⟨F, sa, H0, L, env, s, R, CnS.bnd A g R.sub R.src c fun w F1 H1 s1 d x1 g1 b1 c1 => ?_⟩
  have R1 := R.ext x1
  unfold srcSetD at c1
  cases e : env[i]? with
  | none =>
    rw [e] at c1
    exact False.elim c1
  | some y =>
    rw [e] at c1
    cases y <;> try exact False.elim c1
    cases d <;> try exact False.elim c1
    rename_i n
    cases Bp.int b1
    obtain ⟨a, e1, e2⟩ := R1.slot i _ e
    dsimp only at c1
    by_cases hk : k < 3
    · rw [if_pos hk] at c1
      have so := R1.src
      have so' := so
      rw [e1] at so'
      have c1 : CnS ex E X.K fr sa0 sa H0 L G D (.ok (.nx env) (srcUpd s1 k n)) := c1
      have g2 := A.src _ _ _ a (srcUpd s1 k n) e1 g1 so
      have R2 := R1.srcU e1 (srcUpd s1 k n)
      refine ⟨.ref a, e2, a, _, _, k, rfl, rfl, so'.1, ?_, ?_⟩
      · unfold ixN
        rw [if_pos (Int.natCast_nonneg k), if_pos (by simp; omega)]
        simp
      · match k, hk with
        | 0, _ => exact c1 _ _ _ g2 R2
        | 1, _ => exact c1 _ _ _ g2 R2
        | 2, _ => exact c1 _ _ _ g2 R2
    · rw [if_neg hk] at c1
      exact False.elim c1
theorem ss_app {st : Stmt} {i : Nat} {me : Env → M D} {m : Env → M Fl} (hp : PS X st (tDrop (tBM X.K "list" rAppend (tVar i) (tE X.K ex E me (fun sa _ F H vs d => ∃ x, vs = [x] ∧ Dp X.K F x d))))) (hm : ∀ env, m env = bnd (owM env i) fun _ => bnd (me env) fun x => bnd (appD env i x) fun env' => ret (.nx env')) : PS X st (tSt X.K ex E fr so m) := by
  refine PS.imp hp fun D σ H hh => ?_
  obtain ⟨F, sa0, sa, H0, L, env, s, G, A, hso, g, R, c⟩ := hh
  rw [hm] at c
  obtain ⟨ds, e, c⟩ := c.own
  obtain ⟨a, vs, ev, f, gg, _⟩ := R.slot i _ e
  refine ⟨.ref a, ev, .inl ⟨rfl, _, SqL.of gg⟩, F, sa, H0, L, env, s, R, CnS.bnd A g R.sub R.src c fun w F1 H1 s1 d x1 g1 b1 c1 => ?_⟩
  obtain ⟨x, rfl, r⟩ := b1
  have R1 := R.ext x1
  obtain ⟨a', vs', ev', f', g', t', n', l', h0'⟩ := R1.slot i _ e
  rw [ev] at ev'
  cases ev'
  unfold appD at c1
  rw [e] at c1
  dsimp only at c1
  by_cases hz : ds.length < 16777216
  · rw [if_pos hz] at c1
    refine ⟨a, vs', x, rfl, rfl, g', by rw [t'.length, sizeLine_eq]; exact hz, ?_⟩
    exact c1 _ _ _ (A.own _ _ _ _ _ g1 f' h0' n') (R1.mut e ev (t'.append (.cons r .nil)))
  · rw [if_neg hz] at c1
    exact False.elim c1
theorem ints_map : ∀ ns : List Int, ints? (ns.map PyData.int) = some ns
  | [] => rfl
  | n :: r => by
    show (ints? (r.map PyData.int)).map (n :: ·) = _
    rw [ints_map r]
    rfl
theorem idxOf_le : ∀ (ns : List Int) (j : Nat) (h : j < ns.length), ns.idxOf ns[j] ≤ j
  | [], j, h => by simp at h
  | x :: r, 0, h => by simp [List.idxOf_cons]
  | x :: r, j + 1, h => by
    rw [List.idxOf_cons]
    have := idxOf_le r j (by simpa using h)
    cases (x == (x :: r)[j + 1]) with
    | true => exact Nat.zero_le _
    | false => simpa using this
theorem ss_rem {st : Stmt} {i : Nat} {me : Env → M D} {m : Env → M Fl} (hp : PS X st (tDrop (tBM X.K "list" rRemI (tVar i) (tE X.K ex E me (fun sa _ F H vs d => ∃ x, vs = [x] ∧ Dp X.K F x d))))) (hm : ∀ env, m env = bnd (owM env i) fun _ => bnd (me env) fun x => bnd (remD env i x) fun env' => ret (.nx env')) : PS X st (tSt X.K ex E fr so m) := by
  refine PS.imp hp fun D σ H hh => ?_
  obtain ⟨F, sa0, sa, H0, L, env, s, G, A, hso, g, R, c⟩ := hh
  rw [hm] at c
  obtain ⟨ds, e, c⟩ := c.own
  obtain ⟨a, vs, ev, f, gg, _⟩ := R.slot i _ e
  refine ⟨.ref a, ev, .inl ⟨rfl, _, SqL.of gg⟩, F, sa, H0, L, env, s, R, CnS.bnd A g R.sub R.src c fun w F1 H1 s1 d x1 g1 b1 c1 => ?_⟩
  obtain ⟨x, rfl, r⟩ := b1
  have R1 := R.ext x1
  obtain ⟨a', vs', ev', f', g', t', n', l', h0'⟩ := R1.slot i _ e
  rw [ev] at ev'
  cases ev'
  unfold remD at c1
  rw [e] at c1
  cases d <;> try exact False.elim c1
  rename_i n
  cases r
  dsimp only at c1
  cases ei : ints? ds with
  | none =>
    rw [ei] at c1
    exact False.elim c1
  | some ns =>
    rw [ei] at c1
    dsimp only at c1
    by_cases hn : n ∈ ns
    · rw [if_pos hn] at c1
      have evs := DpAll.ints t' ei
      subst evs
      have hi : ns.idxOf n < ns.length := List.idxOf_lt_length_iff.mpr hn
      refine ⟨a, ns, n, ns.idxOf n, rfl, rfl, g', ?_, fun j hj hjn => ?_, ?_⟩
      · rw [List.getElem?_eq_getElem hi, List.getElem_idxOf hi]
      · have hjl : j < ns.length := Nat.lt_trans hj hi
        rw [List.getElem?_eq_getElem hjl] at hjn
        have hjn := Option.some.inj hjn
        have : ns.idxOf n ≤ j := by
          rw [← hjn]
          exact idxOf_le ns j hjl
        omega
      · rw [show ns.eraseIdx (ns.idxOf n) = ns.erase n from (List.erase_eq_eraseIdx_of_idxOf rfl).symm]
        exact c1 _ _ _ (A.own _ _ _ _ _ g1 f' h0' n') (R1.mut e ev (dpAll_ints _))
    · rw [if_neg hn] at c1
      exact False.elim c1
end
end Wk
set_option maxRecDepth 100000
set_option maxHeartbeats 4000000
/-! WC7: branches, loops, returns -/
namespace Wk
open PySem PySem.Spec PyProof.Rows L2
section
variable {ex : ExV} {E : XK} {X : Cx} {fr so : Bool}
theorem ss_if {c : Expr} {a b : List Stmt} {pos : Pos} {mc : Env → M D} {m1 m2 m : Env → M Fl} (hc : PT X c (tE X.K ex E (mT mc) qT)) (h1 : PSs X a (tSt X.K ex E fr so m1)) (h2 : PSs X b (tSt X.K ex E fr so m2))
    (hm : ∀ env, m env = bnd (mc env) fun x => bnd (tst x) fun k => if k = true then m1 env else m2 env) : PS X (.If c a b pos) (tSt X.K ex E fr so m) := by
  refine PS.imp (ps_if hc h1 h2) fun D σ H hh => ?_
  obtain ⟨F, sa0, sa, H0, L, env, s, G, A, hso, g, R, c⟩ := hh
  rw [hm, ← bnd_assoc] at c
  refine ⟨F, sa, H0, L, env, s, R, CnS.bnd (m := mT mc env) A g R.sub R.src c fun b F1 H1 s1 k x1 g1 e c1 => ?_⟩
  have e : b = k := e
  subst e
  cases b with
  | true => exact ⟨F1, sa0, sa, H0, L, env, s1, G, A, hso, g1, R.ext x1, c1⟩
  | false => exact ⟨F1, sa0, sa, H0, L, env, s1, G, A, hso, g1, R.ext x1, c1⟩
/-- .. and the frozen part only grows -/
theorem Anc.grow {sa0 sa : Option Addr} {H0 : Hp} {G : Hp → Hp → SV → Prop} (A : Anc sa0 sa H0 G) (F0 : Hp) : Anc sa0 sa H0 (fun F H s => G F H s ∧ Same F0 F) where
  ext := fun F H s F' H' s' g hs ho x => ⟨A.ext _ _ _ _ _ _ g.1 hs ho x, g.2.trans x.ff⟩
  none := fun F H s g => A.none F H s g.1
  own := fun F H s a o g f h n => ⟨A.own _ _ _ _ _ g.1 f h n, g.2⟩
  frz := fun F H s a o g f e h n => ⟨A.frz _ _ _ _ _ g.1 f e h n, fun b u eb => by
    rw [upd_ne (ne_of_none (g.2 _ _ eb) f)]
    exact g.2 _ _ eb⟩
  src := fun F H s a s' e g hs => ⟨A.src _ _ _ _ _ e g.1 hs, g.2⟩
  sa := A.sa
/-- a loop's turns -/
theorem for_run {K : PySem.W.Frag} {mb : Env → M Fl} {t : Tg} {tb : TS} {D : Ends} {σ : St} {F H : Hp} {sa0 sa : Option Addr} {H0 : Hp} {L : List (Nat × Addr × List V)} {env : Env} {s : SV} {G : Hp → Hp → SV → Prop} {J : It} {ds : List Wk.D} {bs : List (Addr × List V)}
    (A : Anc sa0 sa H0 G) (hso : so = false → sa = none) (g : G F H s) (R : Rel K sa H0 L env s σ F H) (hbs : ∀ p ∈ bs, ∃ i, (i, p.1, p.2) ∈ L) (wk : Wlk K sa F bs J ds) (c : CnS ex E K fr sa0 sa H0 L G D (forRun mb (bindT t) ds env s))
    (hb : ∀ D σ H, tSt K ex E fr so mb D σ H → tb D σ H) :
    ∃ W : Nat → Nat → St → Hp → Prop, (∃ m, W 0 m σ H) ∧ ∀ i m σ H, W i m σ H →
  (J.stop i H ∧ D.nx σ H) ∨ (J.go i H ∧ ∃ N : St → Hp → Prop, (∀ σ' H', N σ' H' → ∃ m', m' < m ∧ W (i + 1) m' σ' H') ∧ ∀ x H', J.yld i H x H' → tGr K t x σ H' fun σ2 H2 => tb { D with nx := N, ct := N, bk := D.nx } σ2 H2) := by
  refine ⟨fun i m σ' H' => i + m = ds.length ∧ ∃ F' env' s', G F' H' s' ∧ Same F F' ∧ Rel K sa H0 L env' s' σ' F' H' ∧ CnS ex E K fr sa0 sa H0 L G D (forRun mb (bindT t) (ds.drop i) env' s'), ⟨ds.length, by omega, F, env, s, g, Same.refl F, R, by rw [List.drop_zero]; exact c⟩, ?_⟩
  rintro i m σ1 H1 ⟨him, F1, env1, s1, g1, f1, R1, c1⟩
  have bo : BsOk sa F1 H1 bs := fun p hp => by
    obtain ⟨j, hj⟩ := hbs p hp
    obtain ⟨q1, q2, q3, _⟩ := R1.lent _ hj
    exact ⟨q1, q2, q3⟩
  by_cases hi : i = ds.length
  · left
    subst hi
    rw [List.drop_length] at c1
    exact ⟨wk.stop F1 H1 f1 R1.sub bo, c1 σ1 F1 H1 g1 R1⟩
  · right
    have lt : i < ds.length := by omega
    refine ⟨wk.go i F1 H1 f1 R1.sub bo lt, fun σ' H' => i + 1 + (m - 1) = ds.length ∧ ∃ F' env' s', G F' H' s' ∧ Same F F' ∧ Rel K sa H0 L env' s' σ' F' H' ∧ CnS ex E K fr sa0 sa H0 L G D (forRun mb (bindT t) (ds.drop (i + 1)) env' s'), fun σ' H' w => ⟨m - 1, by omega, w⟩, fun x H2 yl => ?_⟩
    have hd : ds[i]? = some ds[i] := List.getElem?_eq_getElem lt
    obtain ⟨F2, x2, rx⟩ := wk.yld i F1 H1 s1 x H2 _ f1 R1.sub R1.src bo yl hd
    have g2 := A.ext _ _ _ _ _ _ g1 R1.sub R1.src x2
    have R2 := R1.ext x2
    rw [List.drop_eq_getElem_cons lt] at c1
    unfold forRun at c1
    cases eb : bindT t ds[i] env1 with
    | none =>
      rw [eb] at c1
      exact False.elim c1
    | some env2 =>
      rw [eb] at c1
      dsimp only at c1
      refine ⟨F2, sa, H0, L, env1, s1, ds[i], env2, R2, rx, eb, fun σ2 R3 _ => hb _ _ _ ⟨F2, sa0, sa, H0, L, env2, s1, _, A.grow F, hso, ⟨g2, f1.trans x2.ff⟩, R3, ?_⟩⟩
      unfold bnd at c1
      cases em : mb env2 s1 with
      | no =>
        rw [em] at c1
        exact c1
      | er e' s' =>
        rw [em] at c1
        exact fun F' H' g' => c1 F' H' g'.1
      | ok f s3 =>
        rw [em] at c1
        cases f with
        | rt d => exact fun v F' H' g' h1 h2 h3 => c1 v F' H' g'.1 h1 h2 h3
        | nx e3 => exact fun σ' F' H' g' R' => ⟨by omega, F', e3, s3, g'.1, g'.2, R', c1⟩
        | ct e3 => exact fun σ' F' H' g' R' => ⟨by omega, F', e3, s3, g'.1, g'.2, R', c1⟩
        | bk e3 => exact fun σ' F' H' g' R' => c1 σ' F' H' g'.1 R'
theorem ss_for {tg iter : Expr} {body : List Stmt} {pos : Pos} {t : Tg} {mi : Env → M (List D)} {mb m : Env → M Fl} (hp : PassesOwn (model X.prog X.w) X.A X.env X.xe) (hc : X.calm = true) (hi : PI X tg iter (tE X.K ex E mi (qI X.K false))) (hg : PG X tg (tGr X.K t)) (hb : PSs X body (tSt X.K ex E fr so mb))
    (hs : ∀ x, foldedSetIterable iter X.env x = pure x) (hm : ∀ env, m env = bnd (mi env) fun ds => forRun mb (bindT t) ds env) : PS X (.For tg iter body [] pos) (tSt X.K ex E fr so m) := by
  refine PS.imp (ps_for hp hc hi hg hb hs) fun D σ H hh => ?_
  obtain ⟨F, sa0, sa, H0, L, env, s, G, A, hso, g, R, c⟩ := hh
  rw [hm] at c
  refine ⟨F, sa, H0, L, env, s, R, CnS.bnd A g R.sub R.src c fun J F1 H1 s1 ds x1 g1 qi c1 => ?_⟩
  obtain ⟨bs, h1, h2, h3, wk⟩ := qi
  cases h1 rfl
  exact for_run (bs := []) A hso g1 (R.ext x1) (fun p hp => by cases hp) wk c1 fun _ _ _ h => h
/-- over one's own list, which is lent -/
theorem ss_forL {tg : Expr} {x : Str} {i : Nat} {p pos : Pos} {body : List Stmt} {t : Tg} {mb m : Env → M Fl} (hp : PassesOwn (model X.prog X.w) X.A X.env X.xe) (hc : X.calm = true) (hv : X.N[i]? = some x ∧ Vis X.env.scope x ∧ (x == ("__debug__" : Str)) = false ∧ (x == ("__classdict__" : Str)) = false) (hg : PG X tg (tGr X.K t)) (hb : PSs X body (tSt X.K ex E fr so mb))
    (hm : ∀ env, m env = bnd (owM env i) fun ds => bnd (forRun mb (bindT t) ds (env.set i (.ln ds))) (endL i)) : PS X (.For tg (.Name x p) body [] pos) (tSt X.K ex E fr so m) := by
  refine PS.imp (ps_for hp hc (pi_seqA (pe_var hv.1 hv.2.1 hv.2.2.1 hv.2.2.2)) hg hb (noSet_fold rfl)) fun D σ H hh => ?_
  obtain ⟨F, sa0, sa, H0, L, env, s, G, A, hso, g, R, c⟩ := hh
  rw [hm] at c
  obtain ⟨ds, e, c⟩ := c.own
  obtain ⟨a, vs, ev, f, gg, n, td, hl, R1⟩ := R.lend e
  refine ⟨.ref a, ev, .l, a, vs, rfl, SqL.of gg, fun _ => ?_⟩
  have wk : Wlk X.K sa F [(a, vs)] (itA .l X.K a) ds := wlk_seq td fun F' H' f1 f2 b => SqL.of (b (a, vs) (by simp)).2.1
  refine for_run (D := D) A hso g R1 (fun p hp => ⟨i, by rw [List.mem_singleton.mp hp]; exact List.mem_cons_self⟩) wk ?_ fun _ _ _ h => h
  unfold bnd at c
  cases ef : forRun mb (bindT t) ds (env.set i (.ln ds)) s with
  | no =>
    rw [ef] at c
    exact c
  | er e' s' =>
    rw [ef] at c
    exact c
  | ok fl s' =>
    rw [ef] at c
    cases fl with
    | rt d => exact c
    | bk e2 => exact False.elim c
    | ct e2 => exact False.elim c
    | nx e2 =>
      intro σ' F' H' g' R'
      have c : CnS ex E X.K fr sa0 sa H0 L G D (unln i e2 s') := c
      unfold unln at c
      cases e3 : e2[i]? with
      | none =>
        rw [e3] at c
        exact False.elim c
      | some y =>
        rw [e3] at c
        cases y with
        | ln es => exact c σ' F' H' g' (R'.back hl e3)
        | un => exact False.elim c
        | im d => exact False.elim c
        | ow d => exact False.elim c
        | sr => exact False.elim c
theorem ss_while {c : Expr} {body : List Stmt} {pos : Pos} {mc : Env → M D} {mb m : Env → M Fl} (hp : PassesOwn (model X.prog X.w) X.A X.env X.xe) (hc : PT X c (tE X.K ex E (mT mc) qT)) (hb : PSs X body (tSt X.K ex E fr so mb)) (hm : ∀ env, m env = whl (fun env => bnd (mc env) tst) mb env) : PS X (.While c body [] pos) (tSt X.K ex E fr so m) := by
  refine PS.imp (ps_while hp hc hb) fun D σ H hh => ?_
  obtain ⟨F, sa0, sa, H0, L, env, s, G, A, hso, g, R, c⟩ := hh
  rw [hm] at c
  unfold whl at c
  by_cases hn : ∃ n, whRun (fun env => bnd (mc env) tst) mb n env s ≠ .no
  · rw [dif_pos hn] at c
    refine ⟨fun m σ' H' => ∃ F' env' s', G F' H' s' ∧ Rel X.K sa H0 L env' s' σ' F' H' ∧ CnS ex E X.K fr sa0 sa H0 L G D (whRun (fun env => bnd (mc env) tst) mb m env' s'), ⟨_, F, env, s, g, R, c⟩, ?_⟩
    rintro m σ1 H1 ⟨F1, env1, s1, g1, R1, c1⟩
    cases m with
    | zero => exact False.elim c1
    | succ m =>
      unfold whRun at c1
      refine ⟨F1, sa, H0, L, env1, s1, R1, CnS.bnd (m := mT mc env1) A g1 R1.sub R1.src c1 fun b F2 H2 s2 k x2 g2 e c2 => ?_⟩
      have e : b = k := e
      subst e
      cases b with
      | false =>
        rw [if_neg (by decide)] at c2 ⊢
        exact c2 _ _ _ g2 (R1.ext x2)
      | true =>
        rw [if_pos rfl] at c2 ⊢
        refine ⟨fun σ' H' => ∃ F' env' s', G F' H' s' ∧ Rel X.K sa H0 L env' s' σ' F' H' ∧ CnS ex E X.K fr sa0 sa H0 L G D (whRun (fun env => bnd (mc env) tst) mb m env' s'), fun σ' H' w => ⟨m, Nat.lt_succ_self m, w⟩, F2, sa0, sa, H0, L, env1, s2, G, A, hso, g2, R1.ext x2, ?_⟩
        unfold bnd at c2
        cases em : mb env1 s2 with
        | no =>
          rw [em] at c2
          exact c2
        | er e' s' =>
          rw [em] at c2
          exact c2
        | ok f s3 =>
          rw [em] at c2
          cases f with
          | rt d => exact c2
          | nx e3 => exact fun σ' F' H' g' R' => ⟨F', e3, s3, g', R', c2⟩
          | ct e3 => exact fun σ' F' H' g' R' => ⟨F', e3, s3, g', R', c2⟩
          | bk e3 => exact c2
  · rw [dif_neg hn] at c
    exact False.elim c
/-! ### returns -/
theorem ss_ret {e : Expr} {pos : Pos} {me : Env → M D} {m : Env → M Fl} (h : PE X e (tE X.K ex E me (qD X.K))) (hm : ∀ env, m env = bnd (me env) fun x => ret (.rt x)) : PS X (.Return (some e) pos) (tSt X.K ex E false so m) := by
  refine PS.imp (ps_ret h) fun D σ H hh => ?_
  obtain ⟨F, sa0, sa, H0, L, env, s, G, A, hso, g, R, c⟩ := hh
  rw [hm] at c
  exact ⟨F, sa, H0, L, env, s, R, CnS.bnd A g R.sub R.src c fun v F1 H1 s1 d x1 g1 r c1 => c1 v F1 H1 g1 x1.sub x1.srcOk r⟩
theorem ss_retL {e : Expr} {pos : Pos} {me : Env → M D} {m : Env → M Fl} (h : PE X e (tE X.K ex E me (qF X.K))) (hm : ∀ env, m env = bnd (me env) fun x => ret (.rt x)) : PS X (.Return (some e) pos) (tSt X.K ex E true so m) := by
  refine PS.imp (ps_ret h) fun D σ H hh => ?_
  obtain ⟨F, sa0, sa, H0, L, env, s, G, A, hso, g, R, c⟩ := hh
  rw [hm] at c
  refine ⟨F, sa, H0, L, env, s, R, CnS.bnd A g R.sub R.src c fun v F1 H1 s1 d x1 g1 r c1 => c1 v F1 H1 g1 x1.sub x1.srcOk ?_⟩
  obtain ⟨a, vs, ds, e1, e2, h0, f, gg, n, t⟩ := r
  refine ⟨a, vs, ds, e1, e2, A.none _ _ _ g a h0, f, gg, ?_, t⟩
  rcases A.sa with z | z
  · rw [z]
    exact n
  · rw [z]
    exact fun w => nomatch w
theorem ss_retO {i : Nat} {x : Str} {p pos : Pos} {m : Env → M Fl} (hv : X.N[i]? = some x ∧ Vis X.env.scope x ∧ (x == ("__debug__" : Str)) = false ∧ (x == ("__classdict__" : Str)) = false) (hm : ∀ env, m env = bnd (owM env i) fun ds => ret (.rt (.list ds))) : PS X (.Return (some (.Name x p)) pos) (tSt X.K ex E fr so m) := by
  refine PS.imp (ps_ret (pe_var hv.1 hv.2.1 hv.2.2.1 hv.2.2.2)) fun D σ H hh => ?_
  obtain ⟨F, sa0, sa, H0, L, env, s, G, A, hso, g, R, c⟩ := hh
  rw [hm] at c
  obtain ⟨ds, e, c⟩ := c.own
  obtain ⟨a, vs, ev, f, gg, t, n, l, h0⟩ := R.slot i _ e
  refine ⟨.ref a, ev, ?_⟩
  cases fr with
  | true =>
    refine c _ F H g R.sub R.src ⟨a, vs, ds, rfl, rfl, h0, f, gg, ?_, t⟩
    rcases A.sa with z | z
    · rw [z]
      exact n
    · rw [z]
      exact fun w => nomatch w
  | false =>
    obtain ⟨F', g', R'⟩ := R.frz1 A g e
    obtain ⟨v, ev', r⟩ := R'.slot i (.im (.list ds)) (by rw [List.getElem?_set_self (List.getElem?_eq_some_iff.mp e).1])
    rw [ev] at ev'
    cases ev'
    exact c _ F' H g' R'.sub R'.src r
theorem ss_ex {e : Expr} {pos : Pos} {me : Env → M D} {m : Env → M Fl} (h : PE X e (tE X.K ex E me (qB X.K))) (hs : swapsWith e none pos.line X.env = pure false) (hm : ∀ env, m env = bnd (me env) fun _ => ret (.nx env)) : PS X (.Expr e pos) (tSt X.K ex E fr so m) := by
  refine PS.imp (ps_expr h hs) fun D σ H hh => ?_
  obtain ⟨F, sa0, sa, H0, L, env, s, G, A, hso, g, R, c⟩ := hh
  rw [hm] at c
  exact ⟨F, sa, H0, L, env, s, R, CnS.bnd A g R.sub R.src c fun v F1 H1 s1 d x1 g1 r c1 => c1 σ F1 H1 g1 (R.ext x1)⟩
theorem ss_rai {st : Stmt} {cn : Str} {C : Addr} {m : Env → M Fl} (h : PS X st (fun _ σ H => E (.ref C) none H)) (he : ex cn = .ref C) (hm : ∀ env, m env = rai cn) : PS X st (tSt X.K ex E fr so m) := by
  refine PS.imp h fun D σ H hh => ?_
  obtain ⟨F, sa0, sa, H0, L, env, s, G, A, hso, g, R, c⟩ := hh
  rw [hm] at c
  rw [← he]
  exact c F H g
end
end Wk
set_option maxRecDepth 100000
set_option maxHeartbeats 8000000
/-! WC8: when a term is what a statement says -/
namespace Wk
open PySem PySem.Spec PyProof.Rows L2
/-- what a def's context gives besides -/
structure Fs (es : List Str) (ex : ExV) (X : Cx) (E : XK) : Prop where
  pass : PassesOwn (model X.prog X.w) X.A X.env X.xe
  tk : Takes X (fun cls d _ H => E cls d H)
  kind : X.env.scope.kind = .function
  exc : ∀ c ∈ es, ∃ (C : Addr) (B newId initId : String) (bmB : List Value), X.mg c = some (.ref C) ∧ ex c = .ref C ∧ PySem.W.keepIn X.K (.ref C) = true ∧ ExcBaseFacts B newId initId bmB ∧ PySem.W.excIn X.K C bmB newId = true ∧ Raises X (.ref C)
/-- a comprehension whose block is swapped with the target's -/
def swL (sc : Scope) (value : Expr) (t : Str) (tp : Pos) : Bool := match value with
  | .ListComp _ _ s _ => decide (sc.names.lookup t = some .local) && (tp.line == value.pos.line && !(s.names.any fun (n, k) => n == t && (k == .local || k == .cell)))
  | _ => false
def noComp : Expr → Bool
  | .ListComp _ _ _ _ => false
  | .SetComp _ _ _ _ => false
  | .DictComp _ _ _ _ _ => false
  | _ => true
def lcOnly : Expr → Bool
  | .SetComp _ _ _ _ => false
  | .DictComp _ _ _ _ _ => false
  | _ => true
theorem sw_name {X : Cx} {sc : Scope} (hs : X.env.scope = sc) (hk : X.env.scope.kind = .function) {value : Expr} (hl : lcOnly value = true) (t : Str) (tp : Pos) (line : Nat) : swapsWith value (some (.Name t tp)) line X.env = pure (swL sc value t tp) := by
  have e1 : (X.env.blockKind == .function) = true := by
    unfold Env.blockKind
    rw [hk]
    rfl
  have e2 : (X.env.kindOf t == some .local) = decide (sc.names.lookup t = some .local) := by
    unfold Env.kindOf
    rw [hs]
    cases sc.names.lookup t with
    | none => rfl
    | some k => cases k <;> rfl
  cases value <;> first | rfl | cases hl | skip
  rename_i elt gens s pos
  show (pure (X.env.blockKind == .function && X.env.kindOf t == some .local && tp.line == pos.line && !(s.names.any fun (n, k) => n == t && (k == .local || k == .cell))) : Sem Bool) = _
  rw [e1, e2, Bool.true_and]
  show _ = (pure (decide (sc.names.lookup t = some .local) && (tp.line == pos.line && !(s.names.any fun (n, k) => n == t && (k == .local || k == .cell)))) : Sem Bool)
  rw [Bool.and_assoc]
theorem sw_none {X : Cx} {value : Expr} (hl : noComp value = true) (line : Nat) : swapsWith value none line X.env = pure false := by
  cases value <;> first | rfl | cases hl
theorem sw_tup {X : Cx} {value tg : Expr} (ht : isTup tg = true) (line : Nat) : swapsWithSole [tg] value line X.env = pure false := by
  cases tg <;> first | cases ht | skip
  cases value <;> rfl
theorem sw_sub {X : Cx} {value a b : Expr} {p : Pos} (line : Nat) : swapsWithSole [.Subscript a b p] value line X.env = pure false := by
  cases value <;> rfl
/-- stores that are not swapped -/
def locN (sc : Scope) (line : Nat) : Expr → Bool
  | .Name id pos => decide (sc.names.lookup id = some .local) && pos.line == line
  | _ => false
def swN (sc : Scope) (ts : List Expr) : Expr → Bool
  | .Tuple vs _ _ => !(ts.length == 2 || ts.length == 3) || (vs.length != ts.length || (!(ts.all (locN sc ((ts.head?.map (·.pos.line)).getD 0))) || vs.all (foldedForSure 8)))
  | _ => true
theorem fm_len {α β : Type} (f : α → Option β) : ∀ (l : List α), (l.filterMap f).length = l.length → ∀ x ∈ l, (f x).isSome = true
  | [], _, _, h => by cases h
  | x :: r, h, y, hy => by
    rw [List.filterMap_cons] at h
    cases e : f x with
    | none =>
      rw [e] at h
      have := List.length_filterMap_le f r
      simp at h
      omega
    | some z =>
      rw [e] at h
      have h : (r.filterMap f).length + 1 = r.length + 1 := h
      have h : (r.filterMap f).length = r.length := Nat.succ.inj h
      rcases List.mem_cons.mp hy with rfl | hy
      · rw [e]
        rfl
      · exact fm_len f r h y hy
theorem st_none {X : Cx} {sc : Scope} (hs : X.env.scope = sc) (hk : X.env.scope.kind = .function) {ts : List Expr} {k : Nat} {p : Pos} {value : Expr} (h : swN sc ts value = true) : swappedStores [.Tuple ts k p] value X.env = pure none := by
  cases value <;> try rfl
  rename_i vs k2 p2
  unfold swN at h
  unfold swappedStores
  simp only [Bool.or_eq_true] at h
  show (if (!(ts.length == 2 || ts.length == 3) || vs.length != ts.length || X.env.blockKind != .function) = true then pure none else _) = (pure none : Sem (Option (List Str)))
  by_cases h1 : (!(ts.length == 2 || ts.length == 3) || vs.length != ts.length || X.env.blockKind != .function) = true
  · rw [if_pos h1]
  · rw [if_neg h1]
    have h1' := h1
    simp only [Bool.or_eq_true, not_or] at h1'
    by_cases h2 : (vs.any fun | .Starred .. => true | _ => false) = true
    · show (if (vs.any fun | .Starred .. => true | _ => false) = true then pure none else _) = _
      rw [if_pos h2]
    · show (if (vs.any fun | .Starred .. => true | _ => false) = true then pure none else _) = _
      rw [if_neg h2]
      rcases h with h | h | h | h
      · exact absurd h h1'.1.1
      · exact absurd h h1'.1.2
      · have hn : ∃ x ∈ ts, locN sc ((ts.head?.map (·.pos.line)).getD 0) x = false := by
          simp only [Bool.not_eq_true', List.all_eq_false] at h
          obtain ⟨x, hx, hx2⟩ := h
          exact ⟨x, hx, by simpa using hx2⟩
        obtain ⟨x, hx, hx2⟩ := hn
        have hl : ((ts.filterMap fun
            | .Name id pos => if (X.env.kindOf id == some .local && pos.line == (ts.head?.map (·.pos.line)).getD 0) = true then some id else none
            | _ => none).length != ts.length) = true := by
          simp only [bne_iff_ne, ne_eq]
          intro e
          have z := fm_len _ ts e x hx
          cases x <;> try (simp at z; done)
          rename_i id pos
          unfold locN at hx2
          dsimp only at z
          split at z
          · rename_i q
            simp only [Bool.and_eq_true] at q
            have q1 := q.1
            unfold Env.kindOf at q1
            rw [hs] at q1
            have : decide (sc.names.lookup id = some .local) = true := by
              cases e2 : sc.names.lookup id with
              | none =>
                rw [e2] at q1
                cases q1
              | some kk =>
                rw [e2] at q1
                cases kk <;> first | rfl | cases q1
            have hx2 : (decide (sc.names.lookup id = some .local) && pos.line == (ts.head?.map (·.pos.line)).getD 0) = false := hx2
            rw [this, q.2] at hx2
            cases hx2
          · cases z
        show (if ((ts.filterMap fun
            | .Name id pos => if (X.env.kindOf id == some .local && pos.line == (ts.head?.map (·.pos.line)).getD 0) = true then some id else none
            | _ => none).length != ts.length || _) = true then pure none else _) = _
        rw [if_pos (by rw [hl]; rfl)]
      · show (if (_ : Bool) = true then pure none else (if vs.all (foldedForSure 8) = true then pure none else _)) = _
        split
        · rfl
        · rfl
/-- a, b = .., by a tuple -/
theorem ps_parN {X : Cx} {i j : Nat} {x y : Str} {a b : Expr} {ta : TA} {px py pt pos : Pos} {kt k2 : Nat} {pt2 : Pos} (hc : X.calm = true) (hN : X.N.Nodup) (hi : X.N[i]? = some x) (hj : X.N[j]? = some y) (hx : Loc X.env.scope x) (hxf : X.fn x = true ∨ X.env.scope.names.lookup x = some .local) (hy : Loc X.env.scope y) (hyf : X.fn y = true ∨ X.env.scope.names.lookup y = some .local) (ha : PA X [a, b] ta)
    (hw : swappedStores [.Tuple [.Name x px, .Name y py] kt pt] (.Tuple [a, b] k2 pt2) X.env = pure none) :
    PS X (.Assign [.Tuple [.Name x px, .Name y py] kt pt] (.Tuple [a, b] k2 pt2) pos) (fun D σ H => ta σ H fun xs H1 => xs.length ≤ sizeLine ∧ ∀ p, H1 p = none → gTup X.K 2 (gCons (gName i) (gCons (gName j) gNil)) (.ref p) σ (upd H1 p (.tup xs)) D.nx) :=
  ps_asg (pe_tup ha) (pg_tup hc (pgs_cons (pg_name hN hi hx hxf) (pgs_cons (pg_name hN hj hy hyf) pgs_nil))) (sw_tup rfl _) hw rfl
/-- two plain locals, stored from the right -/
def swP (sc : Scope) (x : Str) (px : Pos) (y : Str) (py : Pos) (a b : Expr) : Bool := (decide (sc.names.lookup x = some .local) && decide (sc.names.lookup y = some .local)) && ((px.line == py.line && !(x == y)) && (notStars [a, b] && (!(foldedForSure 8 a && foldedForSure 8 b) && !(constantsAlone 8 a && constantsAlone 8 b))))
theorem st_some {X : Cx} {sc : Scope} (hs : X.env.scope = sc) (hk : X.env.scope.kind = .function) {x y : Str} {px py p p2 : Pos} {k k2 : Nat} {a b : Expr} (h : swP sc x px y py a b = true) : swappedStores [.Tuple [.Name x px, .Name y py] k p] (.Tuple [a, b] k2 p2) X.env = pure (some [x, y]) := by
  unfold swP at h
  simp only [Bool.and_eq_true, decide_eq_true_eq, Bool.not_eq_true', beq_iff_eq, notStars, Bool.and_true] at h
  obtain ⟨⟨h1, h2⟩, ⟨h3, h4⟩, ⟨h5, h6⟩, h7, h8⟩ := h
  have eb : X.env.blockKind = .function := by
    unfold Env.blockKind
    rw [hk]
    rfl
  have ex1 : X.env.kindOf x = some .local := by
    unfold Env.kindOf
    rw [hs, h1]
  have ey1 : X.env.kindOf y = some .local := by
    unfold Env.kindOf
    rw [hs, h2]
  have hst : ([a, b].any fun | .Starred .. => true | _ => false) = false := by
    have g : ∀ e : Expr, notStar e = true → (match e with | .Starred .. => true | _ => false) = false := fun e he => by
      cases e <;> first | rfl | cases he
    rw [List.any_cons, List.any_cons, List.any_nil, g a h5, g b h6]
    rfl
  have hnames : ([Expr.Name x px, Expr.Name y py].filterMap fun
      | .Name id pos => if (X.env.kindOf id == some .local && pos.line == px.line) = true then some id else none
      | _ => none) = [x, y] := by
    rw [List.filterMap_cons, List.filterMap_cons, List.filterMap_nil]
    dsimp only
    rw [ex1, ey1, h3]
    simp
  have hdup : ([x, y].eraseDups.length != [x, y].length) = false := by
    have : ¬ y = x := fun z => by
      rw [z] at h4
      simp at h4
    simp [List.eraseDups_cons, this]
  unfold swappedStores
  show (if (!(2 == 2 || 2 == 3) || 2 != 2 || X.env.blockKind != .function) = true then pure none else _) = _
  rw [if_neg (by rw [eb]; decide)]
  show (if ([a, b].any fun | .Starred .. => true | _ => false) = true then pure none else _) = _
  rw [hst, if_neg (by decide)]
  show (if (([Expr.Name x px, Expr.Name y py].filterMap fun
      | .Name id pos => if (X.env.kindOf id == some .local && pos.line == px.line) = true then some id else none
      | _ => none).length != 2 || ([Expr.Name x px, Expr.Name y py].filterMap fun
      | .Name id pos => if (X.env.kindOf id == some .local && pos.line == px.line) = true then some id else none
      | _ => none).eraseDups.length != ([Expr.Name x px, Expr.Name y py].filterMap fun
      | .Name id pos => if (X.env.kindOf id == some .local && pos.line == px.line) = true then some id else none
      | _ => none).length) = true then pure none else if ([a, b].all (foldedForSure 8)) = true then pure none else if ([a, b].all (constantsAlone 8)) = true then _ else pure (some ([Expr.Name x px, Expr.Name y py].filterMap fun
      | .Name id pos => if (X.env.kindOf id == some .local && pos.line == px.line) = true then some id else none
      | _ => none))) = _
  rw [hnames]
  have n1 : ¬ ([x, y].length != 2 || [x, y].eraseDups.length != [x, y].length) = true := by
    rw [hdup]
    show ¬ (false || false) = true
    simp
  rw [if_neg n1, if_neg (by simp only [List.all_cons, List.all_nil, Bool.and_true]; rw [h7]; simp), if_neg (by simp only [List.all_cons, List.all_nil, Bool.and_true]; rw [h8]; simp)]
end Wk
set_option maxRecDepth 100000
set_option maxHeartbeats 8000000
/-! WC9: the terms tell the statements -/
namespace Wk
open PySem PySem.Spec PyProof.Rows L2
mutual
def ckS (T : List Sg) (cs : List (Str × Int)) (es : List Str) (N : List Str) (sc : Scope) (fr so : Bool) : IS → Stmt → Bool
  | .set i e, x => match x with
    | .Assign [.Name y py] v _ => (decide (N[i]? = some y) && stB sc y) && (lcOnly v && (notBv e && ckE T cs N sc e v))
    | _ => false
  | .setL i e, x => match x with
    | .Assign [.Name y py] v _ => (decide (N[i]? = some y) && stB sc y) && (lcOnly v && (isFr T e && ckE T cs N sc e v))
    | _ => false
  | .setT t e, x => match x with
    | .Assign [.Tuple ts k p] v _ => (ckT N sc t (.Tuple ts k p) && swN sc ts v) && (notBv e && ckE T cs N sc e v)
    | _ => false
  | .par i j fa fb a b, x => match x with
    | .Assign [.Tuple [.Name y py, .Name z pz] _ _] (.Tuple [u, v] _ _) _ => ((decide (N[i]? = some y) && decide (N[j]? = some z)) && (!(i == j) && (notStars [u, v] && (swP sc y py z pz u v || (swN sc [.Name y py, .Name z pz] (.Tuple [u, v] 0 py) && (stB sc y && stB sc z)))))) && (((if fa = true then isFr T a else notBv a) && (if fb = true then isFr T b else notBv b)) && (ckE T cs N sc a u && ckE T cs N sc b v))
    | _ => false
  | .aug i e, x => match x with
    | .AugAssign (.Name y _) .Add v _ => (decide (N[i]? = some y) && stB sc y) && ckE T cs N sc e v
    | _ => false
  | .augL i e, x => match x with
    | .AugAssign (.Name y _) .Add v _ => (decide (N[i]? = some y) && stB sc y) && (isFr T e && ckE T cs N sc e v)
    | _ => false
  | .store i k e, x => match x with
    | .Assign [.Subscript (.Name y _) u _] v _ => (visB N sc i y && plainIx u) && (notBv e && (ckE T cs N sc k u && ckE T cs N sc e v))
    | _ => false
  | .srcSet i k e, x => match x with
    | .Assign [.Subscript (.Name y _) (.Constant (.int m) _ _) _] v _ => visB N sc i y && (decide (m = (k : Nat)) && ckE T cs N sc e v)
    | _ => false
  | .app i e, x => match x with
    | .Expr (.Call (.Attribute (.Name y _) a ap) [v] [] cp) _ => (visB N sc i y && (decide (a = "append") && (lineEq ap cp && notStar v))) && (notBv e && ckE T cs N sc e v)
    | _ => false
  | .rem i e, x => match x with
    | .Expr (.Call (.Attribute (.Name y _) a ap) [v] [] cp) _ => (visB N sc i y && (decide (a = "remove") && (lineEq ap cp && notStar v))) && (notBv e && ckE T cs N sc e v)
    | _ => false
  | .ifs c a b, x => match x with
    | .If z xs ys _ => (tstOk c && ckE T cs N sc c z) && (ckSs T cs es N sc fr so a xs && ckSs T cs es N sc fr so b ys)
    | _ => false
  | .forr t it body, x => match x with
    | .For tg iter xs [] _ => (noSet iter && ckT N sc t tg) && (ckI T cs N sc false it tg iter && ckSs T cs es N sc fr so body xs)
    | _ => false
  | .forL t i body, x => match x with
    | .For tg (.Name y _) xs [] _ => (visB N sc i y && ckT N sc t tg) && ckSs T cs es N sc fr so body xs
    | _ => false
  | .whl c body, x => match x with
    | .While z xs [] _ => (tstOk c && ckE T cs N sc c z) && ckSs T cs es N sc fr so body xs
    | _ => false
  | .ret e, x => match x with
    | .Return (some v) _ => !fr && (notBv e && ckE T cs N sc e v)
    | _ => false
  | .retL e, x => match x with
    | .Return (some v) _ => fr && (isFr T e && ckE T cs N sc e v)
    | _ => false
  | .retO i, x => match x with
    | .Return (some (.Name y _)) _ => visB N sc i y
    | _ => false
  | .rai c, x => match x with
    | .Raise (some (.Call (.Name y _) [.Constant (.str _) _ _] [] _)) none _ => (decide (y = c) && es.contains c) && (glB sc y && notDbg y)
    | _ => false
  | .ex e, x => match x with
    | .Expr v _ => noComp v && ckE T cs N sc e v
    | _ => false
def ckSs (T : List Sg) (cs : List (Str × Int)) (es : List Str) (N : List Str) (sc : Scope) (fr so : Bool) : ISs → List Stmt → Bool
  | .nil, xs => match xs with
    | [] => true
    | _ => false
  | .cons s r, xs => match xs with
    | [] => false
    | x :: xs => ckS T cs es N sc fr so s x && ckSs T cs es N sc fr so r xs
  | .frz _ r, xs => ckSs T cs es N sc fr so r xs
  | .wipe _ r, xs => ckSs T cs es N sc fr so r xs
  | .src _ r, xs => !so && ckSs T cs es N sc fr true r xs
end
section
variable {ex : ExV} {T : List FnI} {cs : List (Str × Int)} {es : List Str} {N : List Str} {X : Cx} {E : XK} {sc : Scope}
theorem lc_set2 {i : Nat} {y : Str} {py spos : Pos} {t t2 : Tg} {it it2 : II} {e : IE} {own own2 : List Nat} {x : Expr} (fx : Fx T ex cs N X E sc sc) (h : ckE (sgs T) cs N sc (.lc2 t it t2 it2 e own own2) x = true) (hn : X.N[i]? = some y) (hsw : swL sc x y py = true) (hl : swapsWith x (some (.Name y py)) spos.line X.env = pure true) :
    PS X (.Assign [.Name y py] x spos) (tAsg (tE X.K ex E (ev (semsOf T) (.lc2 t it t2 it2 e own own2)) (qF X.K)) (gName i)) := by
  unfold ckE at h
  split at h
  rotate_left
  · cases h
  rename_i elt tg iter tg1 iter1 scope pos
  simp only [Bool.and_eq_true, decide_eq_true_eq] at h
  obtain ⟨⟨⟨h1, h1'⟩, h2, h3, ⟨h4, h4', h4''⟩, ⟨h5, h5'⟩, h6⟩, h7, h8, h9⟩ := h
  have hy : X.env.scope.names.lookup y = some .local := by
    unfold swL at hsw
    simp only [Bool.and_eq_true, decide_eq_true_eq] at hsw
    rw [fx.sc]
    exact hsw.1
  have fb := fun s H C cl fp => fx_blk fx scope s H C cl fp
  have key := ds_setLc2 (i := i) (y := y) (py := py) (spos := spos) (mi2 := evI (semsOf T) it2) (me := ev (semsOf T) e) fx.calm (by rw [fx.nm]; exact fx.nd) hn hy hl (okI false it tg iter fx h7) (by rw [fx.nm, fx.sc]; exact blkOk_by h3) h2 (subB_mem h4) (subB_mem h4') (subB_mem h4'') (fun s H C cl fp => dg_tg (fb s H C cl fp) t tg h5) (fun s H C cl fp => okI false it2 tg1 iter1 (fb s H C cl fp) h8) (fun s H C cl fp => dg_tg (fb s H C cl fp) t2 tg1 h5') (fun s H C cl fp => (okE e _ (fb s H C cl fp) h9).d h6) (noSet_fold h1) (fun env => noSet_fold h1')
  rw [show ev (semsOf T) (.lc2 t it t2 it2 e own own2) = fun env => bnd (evI (semsOf T) it env) fun ds => bnd (noer (lcRun2 (lcO t own (evI (semsOf T) it2) t2 own2 (ev (semsOf T) e) env) ds)) fitM from funext fun env => by simp only [ev]; rfl]
  exact key
theorem lc_set {i : Nat} {y : Str} {py spos : Pos} {e : IE} {x : Expr} (fx : Fx T ex cs N X E sc sc) (h : ckE (sgs T) cs N sc e x = true) (hn : X.N[i]? = some y) (hsw : swL sc x y py = true) (hl : swapsWith x (some (.Name y py)) spos.line X.env = pure true) :
    PS X (.Assign [.Name y py] x spos) (tAsg (tE X.K ex E (ev (semsOf T) e) (qF X.K)) (gName i)) := by
  cases x <;> try (unfold swL at hsw; cases hsw; done)
  rename_i elt gens scope pos
  cases e <;> try (unfold ckE at h; cases h; done)
  rotate_left
  · exact lc_set2 fx h hn hsw hl
  rename_i t it ifs e own
  unfold ckE at h
  split at h
  rotate_left
  · cases h
  rename_i elt tg iter xs scope pos heq
  cases heq
  simp only [Bool.and_eq_true, decide_eq_true_eq] at h
  obtain ⟨⟨h1, h2, h3, h4, h5, h6⟩, h7, ⟨⟨h8, h8'⟩, h9⟩, h10⟩ := h
  have hy : X.env.scope.names.lookup y = some .local := by
    unfold swL at hsw
    simp only [Bool.and_eq_true, decide_eq_true_eq] at hsw
    rw [fx.sc]
    exact hsw.1
  have fb := fun s H C cl fp => fx_blk fx scope s H C cl fp
  have key := ds_setLc (i := i) (y := y) (py := py) (spos := spos) (mif := evIf (semsOf T) ifs) (me := ev (semsOf T) e) fx.calm (by rw [fx.nm]; exact fx.nd) hn hy hl (okI true it tg iter fx h7) (by rw [fx.nm, fx.sc]; exact blkOk_by h3) h2 (subB_mem h4) (fun s H C cl fp => dg_tg (fb s H C cl fp) t tg h5) (fun s H C cl fp => (show PTs _ xs _ from by
      have o := okEs ifs xs (fb s H C cl fp) h9
      cases ifs with
      | nil =>
        cases xs with
        | cons _ _ => simp [ckEs] at h9
        | nil => exact ⟨fun pins s σ H Q I h => pts_nil.run pins s σ H Q I (by
            obtain ⟨F, sa, H0, L, env, s, R, c⟩ := h
            simp only [evIf] at c
            exact c true F H (Ext.refl R.sub R.src) rfl)⟩
      | cons e1 es =>
        cases xs with
        | nil => simp [ckEs] at h9
        | cons x1 ys =>
          cases ys with
          | nil => exact pts_one (o.one x1 rfl h8)
          | cons x2 ys => simp at h8')) (fun s H C cl fp => (okE e _ (fb s H C cl fp) h10).d h6) (noSet_fold h1)
  rw [show ev (semsOf T) (.lc t it ifs e own) = fun env => bnd (evI (semsOf T) it env) fun ds => bnd (noer (lcRun (lcG t own (evIf (semsOf T) ifs) (ev (semsOf T) e) env) ds)) fun ys => ret (.list ys) from funext fun env => by simp only [ev]; rfl]
  exact key
theorem asg_name {i : Nat} {y : Str} {py spos : Pos} {e : IE} {x : Expr} (fx : Fx T ex cs N X E sc sc) (fs : Fs es ex X E) (hn : N[i]? = some y) (hst : stB sc y = true) (hl : lcOnly x = true) (h : ckE (sgs T) cs N sc e x = true) :
    (notBv e = true → PS X (.Assign [.Name y py] x spos) (tAsg (tE X.K ex E (ev (semsOf T) e) (qD X.K)) (gName i))) ∧ (isFr (sgs T) e = true → PS X (.Assign [.Name y py] x spos) (tAsg (tE X.K ex E (ev (semsOf T) e) (qF X.K)) (gName i))) := by
  obtain ⟨l1, l2⟩ := fx.sto y hst
  have hn' : X.N[i]? = some y := by rw [fx.nm]; exact hn
  have hN : X.N.Nodup := by rw [fx.nm]; exact fx.nd
  have sw := sw_name fx.sc fs.kind hl y py spos.line
  have o := okE e x fx h
  cases hsw : swL sc x y py with
  | false =>
    rw [hsw] at sw
    exact ⟨fun z => ps_set hN hn' l1 (o.d z) sw l2, fun z => ps_set hN hn' l1 (o.f z) sw l2⟩
  | true =>
    rw [hsw] at sw
    have key := lc_set (i := i) (spos := spos) fx h hn' hsw sw
    refine ⟨fun _ => PS.imp key fun D σ H hh => ?_, fun _ => key⟩
    obtain ⟨F, sa, H0, L, env, s, R, c⟩ := hh
    exact ⟨F, sa, H0, L, env, s, R, RF.frz R.sub c⟩
theorem asg_sub {o u : Expr} {pos : Pos} {env : PySem.Env} (h : plainIx u = true) : ∀ v, assign (.Subscript o u pos) env v = (do
    let ov ← holding [v] (eval o env)
    let iv ← holding [v, ov] (eval u env)
    standAt pos
    holding [v, ov, iv] (setItem ov iv v)
    release [v, ov, iv] []) := by
  cases u <;> first | (intro v; rfl) | cases h
theorem asg1 {t : Expr} {env : PySem.Env} (h : notStar t = true) : (assignEach [t] env).map (·.2) = [assign t env] := by
  rw [asg_cons h]
  rfl
mutual
theorem okS : ∀ (st : IS) (x : Stmt) {fr so : Bool}, Fx T ex cs N X E sc sc → Fs es ex X E → ckS (sgs T) cs es N sc fr so st x = true → PS X x (tSt X.K ex E fr so (exec (semsOf T) st))
  | .set i e, x, fr, so, fx, fs, h => by
    unfold ckS at h
    split at h
    rotate_left
    · cases h
    simp only [Bool.and_eq_true, decide_eq_true_eq] at h
    obtain ⟨⟨h1, h2⟩, h3, h4, h5⟩ := h
    exact ss_set ((asg_name fx fs h1 h2 h3 h5).1 h4) fun env => by simp only [exec]
  | .setL i e, x, fr, so, fx, fs, h => by
    unfold ckS at h
    split at h
    rotate_left
    · cases h
    simp only [Bool.and_eq_true, decide_eq_true_eq] at h
    obtain ⟨⟨h1, h2⟩, h3, h4, h5⟩ := h
    exact ss_setL ((asg_name fx fs h1 h2 h3 h5).2 h4) fun env => by simp only [exec]
  | .setT t e, x, fr, so, fx, fs, h => by
    unfold ckS at h
    split at h
    rotate_left
    · cases h
    simp only [Bool.and_eq_true] at h
    obtain ⟨⟨h1, h2⟩, h3, h4⟩ := h
    exact ss_setT (ps_asg ((okE e _ fx h4).d h3) (dg_tg fx t _ h1) (sw_tup rfl _) (st_none fx.sc fs.kind h2) (asg1 rfl)) fun env => by
      simp only [exec]
      all_goals congr 1
  | .par i j fa fb a b, x, fr, so, fx, fs, h => by
    unfold ckS at h
    split at h
    rotate_left
    · cases h
    rename_i y py z pz kt pt u v k2 pt2 spos
    simp only [Bool.and_eq_true, decide_eq_true_eq, Bool.not_eq_true', beq_eq_false_iff_ne] at h
    obtain ⟨⟨⟨h1, h2⟩, h3, h0, h4⟩, ⟨h5, h6⟩, h7, h8⟩ := h
    have oa := okE a _ fx h7
    have ob := okE b _ fx h8
    have A : PE X u (tE X.K ex E (ev (semsOf T) a) (qFl X.K fa)) := de_fl fa (fun z => by
        rw [z, if_neg (by decide)] at h5
        exact oa.d h5) (fun z => by
        rw [z, if_pos rfl] at h5
        exact oa.f h5)
    have B : PE X v (tE X.K ex E (ev (semsOf T) b) (qFl X.K fb)) := de_fl fb (fun z => by
        rw [z, if_neg (by decide)] at h6
        exact ob.d h6) (fun z => by
        rw [z, if_pos rfl] at h6
        exact ob.f h6)
    by_cases hsw : swP sc y py z pz u v = true
    · have h4' := hsw
      unfold swP at h4'
      simp only [Bool.and_eq_true, decide_eq_true_eq] at h4'
      refine ss_par (ma := ev (semsOf T) a) (mb := ev (semsOf T) b) (fa := fa) (fb := fb) (KQ := fun D σ vs H1 => ∃ v w, vs = [v, w] ∧ D.nx ((σ.set i (some v)).set j (some w)) H1) h3 (fun ta pa => ps_par fx.calm (by rw [fx.nm]; exact fx.nd) (by rw [fx.nm]; exact h1) (by rw [fx.nm]; exact h2) h3 (by rw [fx.sc]; exact h4'.1.1) (by rw [fx.sc]; exact h4'.1.2) pa (st_some fx.sc fs.kind hsw) (sw_tup rfl _)) (fun D σ v w H1 q _ => ⟨v, w, rfl, q⟩) A B h0 (fun env => ?_)
      simp only [exec, stI]
    · simp only [Bool.or_eq_true, Bool.and_eq_true] at h4
      obtain ⟨h41, h42, h43⟩ := h4.resolve_left hsw
      obtain ⟨l1, l2⟩ := fx.sto _ h42
      obtain ⟨l3, l4⟩ := fx.sto _ h43
      refine ss_par (ma := ev (semsOf T) a) (mb := ev (semsOf T) b) (fa := fa) (fb := fb) h3 (fun ta pa => ps_parN fx.calm (by rw [fx.nm]; exact fx.nd) (by rw [fx.nm]; exact h1) (by rw [fx.nm]; exact h2) l1 l2 l3 l4 pa (st_none fx.sc fs.kind h41)) (fun D σ v w H1 _ q => ⟨by rw [sizeLine_eq]; exact (by decide : 2 ≤ 16777216), fun p hp => ⟨p, [v, w], rfl, SqT.of upd_same, rfl, v, [w], rfl, w, [], rfl, rfl, q p hp⟩⟩) A B h0 (fun env => ?_)
      simp only [exec, stI]
  | .aug i e, x, fr, so, fx, fs, h => by
    unfold ckS at h
    split at h
    rotate_left
    · cases h
    simp only [Bool.and_eq_true, decide_eq_true_eq] at h
    obtain ⟨⟨h1, h2⟩, h3⟩ := h
    obtain ⟨l1, l2⟩ := fx.sto _ h2
    exact ss_aug (ps_aug (by rw [fx.nm]; exact fx.nd) (by rw [fx.nm]; exact h1) l1 (okE e _ fx h3).b ip_add l2) fun env => by simp only [exec]
  | .augL i e, x, fr, so, fx, fs, h => by
    unfold ckS at h
    split at h
    rotate_left
    · cases h
    simp only [Bool.and_eq_true, decide_eq_true_eq] at h
    obtain ⟨⟨h1, h2⟩, h3, h4⟩ := h
    obtain ⟨l1, l2⟩ := fx.sto _ h2
    exact ss_augL (ps_aug (by rw [fx.nm]; exact fx.nd) (by rw [fx.nm]; exact h1) l1 ((okE e _ fx h4).f h3) iop_ext l2) fun env => by simp only [exec]
  | .store i k e, x, fr, so, fx, fs, h => by
    unfold ckS at h
    split at h
    rotate_left
    · cases h
    simp only [Bool.and_eq_true] at h
    obtain ⟨⟨h1, h1'⟩, h2, h3, h4⟩ := h
    have v := fx.vis h1
    exact ss_store (ps_asg ((okE e _ fx h4).d h2) (pg_sub (pe_var v.1 v.2.1 v.2.2.1 v.2.2.2) (okE k _ fx h3).b set_list (asg_sub h1')) (sw_sub _) rfl (asg1 rfl)) fun env => by simp only [exec]
  | .srcSet i k e, x, fr, so, fx, fs, h => by
    unfold ckS at h
    split at h
    rotate_left
    · cases h
    simp only [Bool.and_eq_true, decide_eq_true_eq] at h
    obtain ⟨h1, h2, h3⟩ := h
    subst h2
    have v := fx.vis h1
    exact ss_srcSet (ps_asg (okE e _ fx h3).b (pg_sub (pe_var v.1 v.2.1 v.2.2.1 v.2.2.2) pe_int set_list (fun _ => rfl)) (sw_sub _) rfl (asg1 rfl)) fun env => by simp only [exec]
  | .app i e, x, fr, so, fx, fs, h => by
    unfold ckS at h
    split at h
    rotate_left
    · cases h
    simp only [Bool.and_eq_true, decide_eq_true_eq] at h
    obtain ⟨⟨h1, h2, h3, h4⟩, h5, h6⟩ := h
    subst h2
    have v := fx.vis h1
    refine ss_app (ps_expr (pe_bm PySem.F.plainAttrs_list PySem.F.slot_list_append PySem.F.type_list_append mt_append (pe_var v.1 v.2.1 v.2.2.1 v.2.2.2) (da_1 ((okE e _ fx h6).d h5) (star_cons h4)) rfl ?_ h3 (star_cons h4) rfl) rfl) fun env => by simp only [exec]
    rw [star_cons h4]
    rfl
  | .rem i e, x, fr, so, fx, fs, h => by
    unfold ckS at h
    split at h
    rotate_left
    · cases h
    simp only [Bool.and_eq_true, decide_eq_true_eq] at h
    obtain ⟨⟨h1, h2, h3, h4⟩, h5, h6⟩ := h
    subst h2
    have v := fx.vis h1
    refine ss_rem (ps_expr (pe_bm PySem.F.plainAttrs_list PySem.F.slot_list_remove PySem.F.type_list_remove mt_remove (pe_var v.1 v.2.1 v.2.2.1 v.2.2.2) (da_1 ((okE e _ fx h6).d h5) (star_cons h4)) rfl ?_ h3 (star_cons h4) rfl) rfl) fun env => by simp only [exec]
    rw [star_cons h4]
    rfl
  | .ifs c a b, x, fr, so, fx, fs, h => by
    unfold ckS at h
    split at h
    rotate_left
    · cases h
    simp only [Bool.and_eq_true] at h
    obtain ⟨⟨h1, h2⟩, h3, h4⟩ := h
    exact ss_if ((okE c _ fx h2).t h1) (okSs a _ fx fs h3) (okSs b _ fx fs h4) fun env => by simp only [exec]
  | .forr t it body, x, fr, so, fx, fs, h => by
    unfold ckS at h
    split at h
    rotate_left
    · cases h
    simp only [Bool.and_eq_true] at h
    obtain ⟨⟨h1, h2⟩, h3, h4⟩ := h
    exact ss_for fs.pass fx.calm (okI false it _ _ fx h3) (dg_tg fx t _ h2) (okSs body _ fx fs h4) (noSet_fold h1) fun env => by simp only [exec]
  | .forL t i body, x, fr, so, fx, fs, h => by
    unfold ckS at h
    split at h
    rotate_left
    · cases h
    simp only [Bool.and_eq_true] at h
    obtain ⟨⟨h1, h2⟩, h3⟩ := h
    exact ss_forL fs.pass fx.calm (fx.vis h1) (dg_tg fx t _ h2) (okSs body _ fx fs h3) fun env => by simp only [exec]
  | .whl c body, x, fr, so, fx, fs, h => by
    unfold ckS at h
    split at h
    rotate_left
    · cases h
    simp only [Bool.and_eq_true] at h
    obtain ⟨⟨h1, h2⟩, h3⟩ := h
    exact ss_while fs.pass ((okE c _ fx h2).t h1) (okSs body _ fx fs h3) fun env => by simp only [exec]
  | .ret e, x, fr, so, fx, fs, h => by
    unfold ckS at h
    split at h
    rotate_left
    · cases h
    simp only [Bool.and_eq_true, Bool.not_eq_true'] at h
    obtain ⟨h1, h2, h3⟩ := h
    subst h1
    exact ss_ret ((okE e _ fx h3).d h2) fun env => by simp only [exec]
  | .retL e, x, fr, so, fx, fs, h => by
    unfold ckS at h
    split at h
    rotate_left
    · cases h
    simp only [Bool.and_eq_true] at h
    obtain ⟨h1, h2, h3⟩ := h
    subst h1
    exact ss_retL ((okE e _ fx h3).f h2) fun env => by simp only [exec]
  | .retO i, x, fr, so, fx, fs, h => by
    unfold ckS at h
    split at h
    rotate_left
    · cases h
    exact ss_retO (fx.vis h) fun env => by simp only [exec]
  | .rai c, x, fr, so, fx, fs, h => by
    unfold ckS at h
    split at h
    rotate_left
    · cases h
    simp only [Bool.and_eq_true, decide_eq_true_eq] at h
    obtain ⟨⟨h1, h2⟩, h3, h4⟩ := h
    subst h1
    obtain ⟨C, B, newId, initId, bmB, q1, q2, q3, q4, q5, q6⟩ := fs.exc _ (by simpa using h2)
    exact ss_rai (ps_raise fx.calm fs.tk (pmk_own q4 q5 q1 q3 q6 (fx.gl h3) (dbg1 h4))) q2 fun env => by simp only [exec]
  | .ex e, x, fr, so, fx, fs, h => by
    unfold ckS at h
    split at h
    rotate_left
    · cases h
    simp only [Bool.and_eq_true] at h
    exact ss_ex (okE e _ fx h.2).b (sw_none h.1 _) fun env => by simp only [exec]
theorem okSs : ∀ (sts : ISs) (xs : List Stmt) {fr so : Bool}, Fx T ex cs N X E sc sc → Fs es ex X E → ckSs (sgs T) cs es N sc fr so sts xs = true → PSs X xs (tSt X.K ex E fr so (execs (semsOf T) sts))
  | .nil, xs, fr, so, fx, fs, h => by
    unfold ckSs at h
    split at h
    rotate_left
    · cases h
    exact PSs.nilS fun env => by simp only [execs]
  | .cons s r, xs, fr, so, fx, fs, h => by
    unfold ckSs at h
    split at h
    · cases h
    simp only [Bool.and_eq_true] at h
    refine PSs.consS (okS s _ fx fs h.1) (okSs r _ fx fs h.2) fun env => ?_
    simp only [execs]
    all_goals rfl
  | .frz is r, xs, fr, so, fx, fs, h => by
    unfold ckSs at h
    rw [show execs (semsOf T) (.frz is r) = fun env => execs (semsOf T) r (frzE env is) from funext fun env => by simp only [execs]]
    exact PSs.frzS (okSs r xs fx fs h)
  | .wipe is r, xs, fr, so, fx, fs, h => by
    unfold ckSs at h
    rw [show execs (semsOf T) (.wipe is r) = fun env => execs (semsOf T) r (wipeE env is) from funext fun env => by simp only [execs]]
    exact PSs.wipeS (okSs r xs fx fs h)
  | .src i r, xs, fr, so, fx, fs, h => by
    unfold ckSs at h
    simp only [Bool.and_eq_true, Bool.not_eq_true'] at h
    obtain ⟨h1, h2⟩ := h
    subst h1
    rw [show execs (semsOf T) (.src i r) = fun env => srcRun i env (execs (semsOf T) r) from funext fun env => by simp only [execs]]
    exact PSs.srcS (okSs r xs fx fs h2)
end
end
end Wk
set_option maxRecDepth 100000
set_option maxHeartbeats 8000000
/-! WD1: a def keeps its promise -/
namespace Wk
open PySem PySem.Spec PyProof.Rows L2
theorem anc_ext {sa : Option Addr} {F H : Hp} {s : SV} (hs : Same F H) : Anc sa sa H (fun F' H' s' => Ext sa F H s F' H' s') where
  ext := fun F1 H1 s1 F2 H2 s2 g h1 h2 x => g.trans x
  none := fun F1 H1 s1 g p hp => g.none hs hp
  own := fun F1 H1 s1 a o g f h n => g.own h f n
  frz := fun F1 H1 s1 a o g f e h n => by
    refine ⟨fun b u eb => ?_, fun b u eb => ?_, fun b u e1 e2 => ?_, ?_⟩
    · have e1 := g.ff _ _ eb
      rw [upd_ne (ne_of_none e1 f)]
      exact e1
    · by_cases hb : b = a
      · subst hb
        rw [upd_same] at eb
        rw [e]
        exact eb
      · rw [upd_ne hb] at eb
        exact g.sub _ _ eb
    · have hb : b ≠ a := ne_of_none e2 h
      rw [upd_ne hb]
      exact g.cell b u e1 e2
    · have := g.src
      cases sa with
      | none => exact this
      | some c =>
        have hc : c ≠ a := fun z => n (by rw [z])
        exact ⟨this.1, by rw [upd_ne hc]; exact this.2⟩
  src := fun F1 H1 s1 a s' e g ho => by
    subst e
    refine ⟨g.ff, fun b u eb => ?_, fun b u e1 e2 => ?_, ⟨upd_same, ho.2⟩⟩
    · have hb : b ≠ a := ne_of_none eb ho.2
      rw [upd_ne hb]
      exact g.sub _ _ eb
    · obtain ⟨z1, z2⟩ := g.cell b u e1 e2
      refine ⟨z1, fun hb => ?_⟩
      have hb' : b ≠ a := fun z => hb (by rw [z])
      rw [upd_ne hb']
      exact z2 hb
  sa := .inl rfl
theorem get_rep {α : Type} {n i : Nat} {x y : α} (h : (List.replicate n x)[i]? = some y) : y = x := by
  rw [List.getElem?_replicate] at h
  split at h
  · exact (Option.some.inj h).symm
  · cases h
theorem rel_im {K : PySem.W.Frag} {F : Hp} : ∀ {vs : List V} {ds : List D} {i : Nat} {y : Slot}, DpAll K F vs ds → (ds.map Slot.im)[i]? = some y → ∃ d v, y = .im d ∧ vs[i]? = some v ∧ Dp K F v d := by
  intro vs ds i y t h
  rw [List.getElem?_map] at h
  obtain ⟨d, hd, rfl⟩ := Option.map_eq_some_iff.mp h
  obtain ⟨v, hv, r⟩ := t.get hd
  exact ⟨d, v, rfl, hv, r⟩
/-- the slots at the entry -/
theorem rel_im2 {K : PySem.W.Frag} {sa : Option Addr} {F H : Hp} {s : SV} (hs : Same F H) (so : SrcOk sa F H s) {vs : List V} {ds : List D} (t : DpAll K F vs ds) (n m : Nat) : Rel K sa H [] (ds.map Slot.im ++ List.replicate n .un) s (vs.map some ++ List.replicate n none) F H where
  sub := hs
  src := so
  len := by rw [List.length_append, List.length_append, List.length_map, List.length_map, List.length_replicate, List.length_replicate, t.length]
  lent := fun p hp => nomatch hp
  slot := fun i y e => by
    rw [List.getElem?_append] at e
    split at e
    · rename_i hl
      obtain ⟨d, v, rfl, hv, r⟩ := rel_im t e
      rw [List.length_map] at hl
      rw [List.getElem?_append_left (by rw [List.length_map, t.length]; exact hl), List.getElem?_map, hv]
      exact ⟨v, rfl, r⟩
    · cases get_rep e
      trivial
  apart := fun i j a ds' es' _ e1 _ _ => by
    rw [List.getElem?_append] at e1
    split at e1
    · obtain ⟨d, v, z, _⟩ := rel_im t e1
      cases z
    · cases get_rep e1
theorem rel_src {K : PySem.W.Frag} {a : Addr} {F H : Hp} {s : SV} {env : Env} {σ : St} (R : Rel K (some a) H [] env s σ F H) (hn : ∀ (i : Nat) (ds : List D), env[i]? ≠ some (Slot.ow ds)) (hl : ∀ (i : Nat) (ds : List D), env[i]? ≠ some (Slot.ln ds)) : Rel K (some a) H [] (.sr :: env) s (some (.ref a) :: σ) F H where
  sub := R.sub
  src := R.src
  len := congrArg (· + 1) R.len
  lent := fun p hp => nomatch hp
  slot := fun i y e => by
    cases i with
    | zero =>
      cases e
      exact ⟨a, rfl, rfl⟩
    | succ i =>
      have e : env[i]? = some y := e
      have z := R.slot i y e
      cases y with
      | un => trivial
      | im d => exact z
      | ow ds => exact absurd e (hn i ds)
      | ln ds => exact absurd e (hl i ds)
      | sr => exact z
  apart := fun i j b ds es _ e1 _ _ => by
    cases i with
    | zero => cases e1
    | succ i => exact absurd e1 (hn i ds)
theorem no_ow {ds : List D} {n i : Nat} {y : Slot} (h : (ds.map Slot.im ++ List.replicate n .un)[i]? = some y) : (∃ d, y = .im d) ∨ y = .un := by
  rw [List.getElem?_append] at h
  split at h
  · rw [List.getElem?_map] at h
    obtain ⟨d, hd, rfl⟩ := Option.map_eq_some_iff.mp h
    exact .inl ⟨d, rfl⟩
  · exact .inr (get_rep h)
section
variable {P : Program} {w : World} {K : PySem.W.Frag} {mg : Str → Option Value} {base : Heap} {ex : ExV}
/-- what the module gives -/
structure MgOk (P : Program) (w : World) (K : PySem.W.Frag) (mg : Str → Option Value) (ex : ExV) (cs : List (Str × Int)) (es : List Str) : Prop where
  blt : Blt mg
  glob : ∀ p ∈ cs, ∃ t, mg p.1 = some (.int p.2 t)
  exc : ∀ c ∈ es, ∃ (C : Addr) (B newId initId : String) (bmB : List Value), mg c = some (.ref C) ∧ ex c = .ref C ∧ PySem.W.keepIn K (.ref C) = true ∧ ExcBaseFacts B newId initId bmB ∧ PySem.W.excIn K C bmB newId = true ∧
    PySem.W.subIn K (.ref C) (.type "BaseException") = some true ∧ PySem.W.typeIn K (.ref C) = some (.type "type")
/-- the bool that is to be decided -/
def ckF (T : List Sg) (cs : List (Str × Int)) (es : List Str) (f : FnIR) (ps : List Str) (st : Stmt) : Bool :=
  (decide (f.np = ps.length) && decide (f.np ≤ f.N.length)) && ckSs T cs es f.N (defScope st) f.fresh f.src f.body (defBody st)
noncomputable def fnI (T : List FnI) (name : Str) (f : FnIR) : FnI := ⟨name, f.np, f.src, f.fresh, runFn (semsOf T) f⟩
theorem fn_ok {T : List FnI} {cs : List (Str × Int)} {es : List Str} {f : FnIR} {name qual : Str} {st : Stmt} {a : Addr} {fd : FuncData} {ps : List Str} {k : Nat} (M : MgOk P w K mg ex cs es) (Fn : Fun K name qual st a fd) (S : FnScope f.N ps (defScope st))
    (hT : ∀ (i : Nat) (I : FnI), T[i]? = some I → FnAt P w K mg base ex k I) (ck : ckF (sgs T) cs es f ps st = true) : FnOk P w K mg base (L2.CX P w) (k + 1) a fd ps (spI K ex (fnI T name f)) := by
  unfold ckF at ck
  simp only [Bool.and_eq_true, decide_eq_true_eq] at ck
  obtain ⟨⟨c1, c2⟩, c3⟩ := ck
  refine Fn.okX S (fun vs H Q E h => h.1.trans c1) (fun cdv A outer s H vs Q E hr h => ?_)
  obtain ⟨hl, F, ds, sa, sv, hs, so, hv, c⟩ := h
  have hl : vs.length = f.np := hl
  have tk : Takes (cxOf (L2.CX P w) P w K mg base f.N qual (defScope st) a cdv A outer s H E) (fun cls d _ H => E cls d H) := takes_of rfl rfl rfl rfl
  have fx : Fx T ex cs f.N (cxOf (L2.CX P w) P w K mg base f.N qual (defScope st) a cdv A outer s H E) E (defScope st) (defScope st) := {
    nm := rfl
    sc := rfl
    sto := fun x hx => by
      refine ⟨?_, .inl rfl⟩
      show (defScope st).names.lookup x = some .local ∨ (defScope st).names.lookup x = some .cell
      unfold stB at hx
      split at hx
      · rename_i e
        exact .inl e
      · rename_i e
        exact .inr e
      · cases hx
    nd := S.nd
    calm := rfl
    units := by
      have := hr.un
      show (A.deeper _).units + 65 < cLine
      omega
    blt := M.blt
    glob := M.glob
    fns := fun i I hi => ⟨k, hr, hT i I hi⟩
    pass := passes_call tk fun _ _ _ _ h => h }
  have fs : Fs es ex (cxOf (L2.CX P w) P w K mg base f.N qual (defScope st) a cdv A outer s H E) E := {
    pass := passes_of rfl
    tk := tk
    kind := S.kind
    exc := fun c hc => by
      obtain ⟨C, B, n1, n2, bm, q1, q2, q3, q4, q5, q6, q7⟩ := M.exc c hc
      exact ⟨C, B, n1, n2, bm, q1, q2, q3, q4, q5, raises_own q6 q7⟩ }
  refine ⟨_, okSs f.body (defBody st) fx fs c3, ?_⟩
  have hR : Rel K sa H [] (initE f ds) sv (L2.start f.N vs) F H ∧ (f.src = false → sa = none) ∧ (if f.src = true then ds.length + 1 else ds.length) = f.np := by
    unfold initE L2.start
    cases hsrc : f.src with
    | false =>
      rw [show (fnI T name f).src = f.src from rfl, hsrc, if_neg (by decide)] at hv
      obtain ⟨rfl, rfl, t⟩ := hv
      refine ⟨?_, fun _ => rfl, by rw [if_neg (by decide), ← t.length]; exact hl⟩
      rw [if_neg (by decide), List.nil_append, hl]
      exact rel_im2 hs so t _ 0
    | true =>
      rw [show (fnI T name f).src = f.src from rfl, hsrc, if_pos rfl] at hv
      obtain ⟨p, ws, rfl, rfl, t⟩ := hv
      refine ⟨?_, (fun z => by cases z), ?_⟩
      · rw [if_pos rfl, hl]
        exact rel_src (rel_im2 hs so t _ 0) (fun i ds' e => by
          rcases no_ow e with ⟨d, z⟩ | z <;> cases z) (fun i ds' e => by
          rcases no_ow e with ⟨d, z⟩ | z <;> cases z)
      · rw [if_pos rfl, ← t.length]
        exact hl
  obtain ⟨R, hso, hlen⟩ := hR
  refine ⟨F, sa, sa, H, [], initE f ds, sv, _, anc_ext hs, hso, Ext.refl hs so, R, ?_⟩
  have c : Cn ex E sa F H sv (runFn (semsOf T) f ds sv) (if f.fresh = true then RF K sa H else RD K) Q := c
  unfold runFn at c
  rw [if_pos hlen] at c
  unfold bnd at c
  cases er : execs (semsOf T) f.body (initE f ds) sv with
  | no =>
    rw [er] at c
    exact c
  | er e' s' =>
    rw [er] at c
    exact fun F' H' x => c F' H' x
  | ok fl s' =>
    rw [er] at c
    dsimp only at c
    cases fl with
    | rt d => exact fun v F' H' x _ _ rp => c v F' H' x rp
    | bk e => exact False.elim c
    | ct e => exact False.elim c
    | nx e =>
      unfold endF at c
      dsimp only at c
      cases hf : f.fresh with
      | true =>
        rw [hf, if_pos rfl] at c
        exact False.elim c
      | false =>
        rw [hf, if_neg (by decide), if_neg (by decide)] at c
        exact fun σ F' H' x _ => c .non F' H' x .non
theorem fn_sound {T : List FnI} {cs : List (Str × Int)} {es : List Str} {f : FnIR} {name qual : Str} {st : Stmt} {a : Addr} {fd : FuncData} {ps : List Str} {k : Nat} (M : MgOk P w K mg ex cs es) (Fn : Fun K name qual st a fd) (S : FnScope f.N ps (defScope st)) (hm : mg name = some (.ref a)) (hb : Binds K fd ps [])
    (hT : ∀ (i : Nat) (I : FnI), T[i]? = some I → FnAt P w K mg base ex k I) (ck : ckF (sgs T) cs es f ps st = true) : FnAt P w K mg base ex (k + 1) (fnI T name f) := ⟨a, fd, ps, fn_ok M Fn S hT ck, hm, Fn.kp, hb⟩
theorem FnAt.mono {j k : Nat} {I : FnI} (h : FnAt P w K mg base ex j I) (hk : j ≤ k) : FnAt P w K mg base ex k I := by
  obtain ⟨a, fd, ps, ok, r⟩ := h.ok
  exact ⟨a, fd, ps, ok.mono hk, r⟩
/-- a def that calls itself -/
theorem fn_rec {T : List FnI} {cs : List (Str × Int)} {es : List Str} {f : FnIR} {name qual : Str} {st : Stmt} {a : Addr} {fd : FuncData} {ps : List Str} {k : Nat} (M : MgOk P w K mg ex cs es) (Fn : Fun K name qual st a fd) (S : FnScope f.N ps (defScope st)) (hm : mg name = some (.ref a)) (hb : Binds K fd ps [])
    (hT : ∀ (i : Nat) (I : FnI), T[i]? = some I → FnAt P w K mg base ex k I) (sem : Nat → List D → Wk.M D) (h0 : sem 0 = fun _ => stuck) (hs : ∀ m, sem (m + 1) = runFn (semsOf (T ++ [⟨name, f.np, f.src, f.fresh, sem m⟩])) f)
    (hnp : f.np = ps.length) (ck : ckF (sgs T ++ [⟨name, f.np, f.src, f.fresh⟩]) cs es f ps st = true) : ∀ m, FnAt P w K mg base ex (k + m + 1) ⟨name, f.np, f.src, f.fresh, sem m⟩
  | 0 => by
    refine ⟨a, fd, ps, Fn.okX S (fun vs H Q E h => h.1.trans hnp) (fun cdv A outer s H vs Q E hr h => ?_), hm, Fn.kp, hb⟩
    obtain ⟨hl, F, ds, sa, sv, hs, so, hv, c⟩ := h
    have c : Cn ex E sa F H sv (sem 0 ds sv) (if f.fresh = true then RF K sa H else RD K) Q := c
    rw [h0] at c
    exact False.elim c
  | m + 1 => by
    have ih := fn_rec M Fn S hm hb hT sem h0 hs hnp ck m
    have key := fn_sound (T := T ++ [⟨name, f.np, f.src, f.fresh, sem m⟩]) (k := k + m + 1) M Fn S hm hb (fun i I hi => by
      rw [List.getElem?_append] at hi
      split at hi
      · exact (hT i I hi).mono (by omega)
      · have : I = ⟨name, f.np, f.src, f.fresh, sem m⟩ := by
          cases hj : i - T.length with
          | zero =>
            rw [hj] at hi
            exact (Option.some.inj hi).symm
          | succ j =>
            rw [hj] at hi
            cases hi
        rw [this]
        exact ih) (by rw [sgs, List.map_append]; exact ck)
    unfold fnI at key
    rw [← hs m] at key
    exact key
/-- the names of exceptions by the written part -/
def exK (K : PySem.W.Frag) : ExV := fun c => match PySem.W.nsIn K mainGlobals c with
  | some (some v) => v
  | _ => .none
theorem exK_eq {c : Str} {v : Value} (h : PySem.W.nsIn K mainGlobals c = some (some v)) : exK K c = v := by
  unfold exK
  rw [h]
/-- the law's promise from what it computes -/
theorem law_sp {I : FnI} {H : Hp} {a : Addr} {ns : List Int} (hnp : I.np = 1) (hsrc : I.src = false) (hfr : I.fresh = false) (hS : SqL K H a (ns.map V.int)) (h : ∃ s, I.sem [.list (ns.map .int)] sv0 = .ok (.bool true) s) : spI K ex I [.ref a] H (fun v _ => v = .bl true) fun _ _ _ => False := by
  obtain ⟨s', h⟩ := h
  refine ⟨by rw [hnp]; rfl, H, [.list (ns.map .int)], none, sv0, Same.refl H, trivial, ?_, ?_⟩
  · rw [hsrc, if_neg (by decide)]
    exact ⟨rfl, rfl, .cons (.lst hS (dpAll_ints ns)) .nil⟩
  · rw [h, hfr, if_neg (by decide)]
    intro v F' H' x rp
    have rp : Dp K F' v (.bool true) := rp
    cases rp
    rfl
theorem hT_nil {k : Nat} : ∀ (i : Nat) (I : FnI), ([] : List FnI)[i]? = some I → FnAt P w K mg base ex k I := fun i I h => by
  cases i <;> cases h
theorem hT_snoc {T : List FnI} {J : FnI} {j k : Nat} (hk : j ≤ k) (hT : ∀ (i : Nat) (I : FnI), T[i]? = some I → FnAt P w K mg base ex j I) (h : FnAt P w K mg base ex k J) : ∀ (i : Nat) (I : FnI), (T ++ [J])[i]? = some I → FnAt P w K mg base ex k I := fun i I hi => by
  rw [List.getElem?_append] at hi
  split at hi
  · exact (hT i I hi).mono hk
  · cases hj : i - T.length with
    | zero =>
      rw [hj] at hi
      cases hi
      exact h
    | succ j =>
      rw [hj] at hi
      cases hi
end
end Wk
set_option maxRecDepth 100000
/-! LF: the defs as terms -/
namespace Wk
open PySem (PyData Str)
def f_law_source : FnIR := ⟨["cell", "turn"], 2, false, true, .cons (.ifs (.cmp .ge (.var 0) (.bin .pow (.int 10) (.int 18))) (.cons (.retL (.lst (.cons (.bin .sub (.var 0) (.bin .pow (.int 10) (.int 18))) (.cons (.bin .mod (.var 0) (.int 2147483579)) (.cons (.var 1) (.nil)))))) (.nil)) (.nil)) (.cons (.retL (.lst (.cons (.int 0) (.cons (.bin .mod (.var 0) (.int 2147483579)) (.cons (.var 1) (.nil)))))) (.nil))⟩
def f_law_draw : FnIR := ⟨["source", "size", "number", "drawn"], 2, true, false, .cons (.ifs (.cmp .gt (.src 0 0) (.int 1)) (.cons (.set 3 (.bin .mod (.src 0 0) (.var 1))) (.cons (.srcSet 0 0 (.bin .fdiv (.src 0 0) (.var 1))) (.cons (.ret (.var 3)) (.nil)))) (.nil)) (.cons (.srcSet 0 2 (.bin .add (.src 0 2) (.int 1))) (.cons (.set 2 (.bin .mod (.bin .pow (.bin .add (.src 0 1) (.bin .mul (.int 15485867) (.src 0 2))) (.int 5)) (.int 2147483647))) (.cons (.set 3 (.bin .fdiv (.bin .mod (.bin .pow (.bin .add (.var 2) (.bin .mul (.int 7919) (.src 0 2))) (.int 3)) (.int 2147483629)) (.int 32))) (.cons (.ret (.bin .mod (.var 3) (.var 1))) (.nil)))))⟩
def f_law_choice (c_law_draw : Nat) : FnIR := ⟨["source", "items"], 2, true, false, .cons (.ret (.ix (.var 1) (.callS c_law_draw 0 (.cons (.b1 .len (.var 1)) (.nil))))) (.nil)⟩
def f_law_rule (c_law_draw c_law_choice : Nat) : FnIR := ⟨["source", "subjects", "top", "count"], 3, true, false, .cons (.ifs (.cmp .eq (.callS c_law_draw 0 (.cons (.int 2) (.nil))) (.int 0)) (.cons (.ret (.tup (.cons (.str (Str.ofString "fails")) (.cons (.callS c_law_draw 0 (.cons (.var 1) (.nil))) (.cons (.callS c_law_draw 0 (.cons (.bin .add (.var 2) (.int 1)) (.nil))) (.nil)))))) (.nil)) (.nil)) (.cons (.set 3 (.bin .add (.int 1) (.callS c_law_draw 0 (.cons (.var 1) (.nil))))) (.cons (.ret (.tup (.cons (.str (Str.ofString "best")) (.cons (.var 3) (.cons (.min2 (.int 72) (.bin .add (.callS c_law_draw 0 (.cons (.bin .add (.bin .mul (.var 3) (.var 2)) (.int 1)) (.nil))) (.callS c_law_choice 0 (.cons (.lst (.cons (.int 0) (.cons (.int 0) (.cons (.int 0) (.cons (.int 0) (.cons (.int 2) (.nil))))))) (.nil))))) (.nil)))))) (.nil)))⟩
def f_law_scheme (c_law_choice c_law_draw c_law_rule : Nat) : FnIR := ⟨["source", "subjects", "top", "many", "count", "high", "turn"], 3, true, false, .cons (.setT (.tp (.cons (.nm 4) (.cons (.nm 5) (.nil)))) (.tup (.cons (.bin .add (.int 1) (.callS c_law_draw 0 (.cons (.var 1) (.nil)))) (.cons (.bin .add (.int 1) (.callS c_law_draw 0 (.cons (.var 2) (.nil)))) (.nil))))) (.cons (.set 3 (.callS c_law_choice 0 (.cons (.lst (.cons (.int 0) (.cons (.int 1) (.cons (.int 2) (.cons (.int 2) (.cons (.int 3) (.cons (.int 4) (.cons (.int 6) (.nil))))))))) (.nil)))) (.cons (.ret (.tup (.cons (.var 4) (.cons (.var 5) (.cons (.b1 .tuple (.lc (.nm 6) (.rng1 (.var 3)) (.nil) (.callS c_law_rule 0 (.cons (.var 4) (.cons (.var 5) (.nil)))) [6])) (.nil)))))) (.nil)))⟩
def f_law_kind : FnIR := ⟨["value"], 1, false, false, .cons (.ifs (.isi (.var 0) .bool) (.cons (.ret (.int 1)) (.nil)) (.nil)) (.cons (.ifs (.isi (.var 0) .int) (.cons (.ret (.int 2)) (.nil)) (.nil)) (.cons (.ifs (.isi (.var 0) .str) (.cons (.ret (.int 3)) (.nil)) (.nil)) (.cons (.ifs (.isi (.var 0) .list) (.cons (.ret (.int 4)) (.nil)) (.nil)) (.cons (.ret (.ite (.isi (.var 0) .tuple) (.int 5) (.int 6))) (.nil)))))⟩
def f_law_equal (c_law_kind self : Nat) : FnIR := ⟨["value", "expected", "k", "piece"], 2, false, false, .cons (.ifs (.cmp .ne (.call c_law_kind (.cons (.var 0) (.nil))) (.call c_law_kind (.cons (.var 1) (.nil)))) (.cons (.ret (.bool false)) (.nil)) (.nil)) (.cons (.ifs (.and (.cons (.cmp .gt (.call c_law_kind (.cons (.var 0) (.nil))) (.int 3)) (.cons (.cmp .lt (.call c_law_kind (.cons (.var 0) (.nil))) (.int 6)) (.nil)))) (.cons (.ifs (.cmp .ne (.b1 .len (.var 0)) (.b1 .len (.var 1))) (.cons (.ret (.bool false)) (.nil)) (.nil)) (.cons (.ret (.cmp .eq (.lc (.tp (.cons (.nm 2) (.cons (.nm 3) (.nil)))) (.enm (.var 0)) (.cons (.not (.call self (.cons (.var 3) (.cons (.ix (.var 1) (.var 2)) (.nil))))) (.nil)) (.var 2) [2, 3]) (.lst (.nil)))) (.nil))) (.nil)) (.cons (.ret (.cmp .eq (.var 0) (.var 1))) (.nil)))⟩
def f_is_between : FnIR := ⟨["value", "low", "high"], 3, false, false, .cons (.ret (.and (.cons (.isi (.var 0) .int) (.cons (.not (.isi (.var 0) .bool)) (.cons (.chain .le .le (.var 1) (.var 0) (.var 2)) (.nil)))))) (.nil)⟩
def f_can_be_rule (c_is_between : Nat) : FnIR := ⟨["subjects", "top", "value"], 3, false, false, .cons (.ifs (.or (.cons (.not (.isi (.var 2) .tuple)) (.cons (.cmp .ne (.b1 .len (.var 2)) (.int 3)) (.cons (.not (.isi (.ix (.var 2) (.int 0)) .str)) (.nil))))) (.cons (.ret (.bool false)) (.nil)) (.nil)) (.cons (.ifs (.cmp .eq (.ix (.var 2) (.int 0)) (.str (Str.ofString "fails"))) (.cons (.ret (.and (.cons (.call c_is_between (.cons (.ix (.var 2) (.int 1)) (.cons (.int 0) (.cons (.bin .sub (.var 0) (.int 1)) (.nil))))) (.cons (.call c_is_between (.cons (.ix (.var 2) (.int 2)) (.cons (.int 0) (.cons (.var 1) (.nil))))) (.nil))))) (.nil)) (.nil)) (.cons (.ret (.and (.cons (.cmp .eq (.ix (.var 2) (.int 0)) (.str (Str.ofString "best"))) (.cons (.call c_is_between (.cons (.ix (.var 2) (.int 1)) (.cons (.int 1) (.cons (.var 0) (.nil))))) (.cons (.call c_is_between (.cons (.ix (.var 2) (.int 2)) (.cons (.int 0) (.cons (.glob (Str.ofString "MAX_SUM") 72) (.nil))))) (.nil)))))) (.nil)))⟩
def f_is_scheme (c_is_between c_can_be_rule : Nat) : FnIR := ⟨["value", "subjects", "top", "rules", "rule"], 1, false, false, .cons (.ifs (.or (.cons (.not (.isi (.var 0) .tuple)) (.cons (.cmp .ne (.b1 .len (.var 0)) (.int 3)) (.cons (.not (.isi (.ix (.var 0) (.int 2)) .tuple)) (.nil))))) (.cons (.ret (.bool false)) (.nil)) (.nil)) (.cons (.setT (.tp (.cons (.nm 1) (.cons (.nm 2) (.cons (.nm 3) (.nil))))) (.var 0)) (.cons (.ifs (.or (.cons (.not (.call c_is_between (.cons (.var 1) (.cons (.int 1) (.cons (.glob (Str.ofString "MAX_SUBJECTS") 6) (.nil)))))) (.cons (.not (.call c_is_between (.cons (.var 2) (.cons (.int 1) (.cons (.glob (Str.ofString "MAX_TOP") 12) (.nil)))))) (.cons (.cmp .gt (.b1 .len (.var 3)) (.glob (Str.ofString "MAX_RULES") 6)) (.nil))))) (.cons (.ret (.bool false)) (.nil)) (.nil)) (.cons (.ret (.b1 .all (.lc (.nm 4) (.seq (.var 3)) (.nil) (.call c_can_be_rule (.cons (.var 1) (.cons (.var 2) (.cons (.var 4) (.nil))))) [4]))) (.nil))))⟩
def f_law_is_int : FnIR := ⟨["value"], 1, false, false, .cons (.ret (.and (.cons (.isi (.var 0) .int) (.cons (.not (.isi (.var 0) .bool)) (.nil))))) (.nil)⟩
def f_check_scheme (c_is_scheme : Nat) : FnIR := ⟨["scheme"], 1, false, false, .cons (.ifs (.not (.call c_is_scheme (.cons (.var 0) (.nil)))) (.cons (.rai (Str.ofString "InvalidScheme")) (.nil)) (.nil)) (.nil)⟩
def f_is_rule (c_check_scheme c_can_be_rule : Nat) : FnIR := ⟨["scheme", "value"], 2, false, false, .cons (.ex (.call c_check_scheme (.cons (.var 0) (.nil)))) (.cons (.ret (.call c_can_be_rule (.cons (.ix (.var 0) (.int 0)) (.cons (.ix (.var 0) (.int 1)) (.cons (.var 1) (.nil)))))) (.nil))⟩
def f_can_be_result (c_is_between : Nat) : FnIR := ⟨["scheme", "value", "mark"], 2, false, false, .cons (.ifs (.or (.cons (.not (.isi (.var 1) .tuple)) (.cons (.cmp .ne (.b1 .len (.var 1)) (.ix (.var 0) (.int 0))) (.nil)))) (.cons (.ret (.bool false)) (.nil)) (.nil)) (.cons (.ret (.b1 .all (.lc (.nm 2) (.seq (.var 1)) (.nil) (.call c_is_between (.cons (.var 2) (.cons (.int 0) (.cons (.ix (.var 0) (.int 1)) (.nil))))) [2]))) (.nil))⟩
def f_check_result (c_check_scheme c_can_be_result : Nat) : FnIR := ⟨["scheme", "result"], 2, false, false, .cons (.ex (.call c_check_scheme (.cons (.var 0) (.nil)))) (.cons (.ifs (.not (.call c_can_be_result (.cons (.var 0) (.cons (.var 1) (.nil))))) (.cons (.rai (Str.ofString "InvalidResult")) (.nil)) (.nil)) (.nil))⟩
def f_holds : FnIR := ⟨["rule", "result", "kind", "count", "number", "mark"], 2, false, false, .cons (.setT (.tp (.cons (.nm 2) (.cons (.nm 3) (.cons (.nm 4) (.nil))))) (.var 0)) (.cons (.ifs (.cmp .eq (.var 2) (.str (Str.ofString "fails"))) (.cons (.ret (.cmp .le (.b1 .len (.lc (.nm 5) (.seq (.var 1)) (.cons (.cmp .lt (.var 5) (.var 4)) (.nil)) (.var 5) [5])) (.var 3))) (.nil)) (.nil)) (.cons (.ret (.cmp .ge (.b1 .sum (.sl (.b1 .sorted (.var 1)) (.at (.bin .sub (.b1 .len (.var 1)) (.var 3))) .no)) (.var 4))) (.nil)))⟩
def f_keeps (c_holds : Nat) : FnIR := ⟨["rules", "result", "rule"], 2, false, false, .cons (.ret (.b1 .all (.lc (.nm 2) (.seq (.var 0)) (.nil) (.call c_holds (.cons (.var 2) (.cons (.var 1) (.nil)))) [2]))) (.nil)⟩
def f_passes (c_check_result c_keeps : Nat) : FnIR := ⟨["scheme", "result"], 2, false, false, .cons (.ex (.call c_check_result (.cons (.var 0) (.cons (.var 1) (.nil))))) (.cons (.ret (.call c_keeps (.cons (.ix (.var 0) (.int 2)) (.cons (.var 1) (.nil))))) (.nil))⟩
def f_law_result (c_law_draw : Nat) : FnIR := ⟨["source", "subjects", "top", "subject"], 3, true, false, .cons (.ret (.b1 .tuple (.lc (.nm 3) (.rng1 (.var 1)) (.nil) (.callS c_law_draw 0 (.cons (.bin .add (.var 2) (.int 1)) (.nil))) [3]))) (.nil)⟩
def f_broken (c_check_result c_holds : Nat) : FnIR := ⟨["scheme", "result", "at", "rule"], 2, false, true, .cons (.ex (.call c_check_result (.cons (.var 0) (.cons (.var 1) (.nil))))) (.cons (.retL (.lc (.tp (.cons (.nm 2) (.cons (.nm 3) (.nil)))) (.enm (.ix (.var 0) (.int 2))) (.cons (.not (.call c_holds (.cons (.var 3) (.cons (.var 1) (.nil))))) (.nil)) (.var 2) [2, 3])) (.nil))⟩
def f_law_holds : FnIR := ⟨["rule", "result", "turn", "kind", "count", "number", "low", "mark", "rest", "total", "best"], 2, false, false, .cons (.setT (.tp (.cons (.nm 3) (.cons (.nm 4) (.cons (.nm 5) (.nil))))) (.var 0)) (.cons (.ifs (.cmp .eq (.var 3) (.str (Str.ofString "fails"))) (.cons (.set 6 (.int 0)) (.wipe [0, 3] (.cons (.forr (.nm 7) (.seq (.var 1)) (.cons (.set 6 (.bin .add (.var 6) (.b1 .int (.cmp .lt (.var 7) (.var 5))))) (.wipe [7] .nil))) (.cons (.ret (.cmp .le (.var 6) (.var 4))) (.nil))))) (.nil)) (.cons (.par 8 9 true false (.b1 .list (.var 1)) (.int 0)) (.wipe [0, 1, 3, 6, 7] (.cons (.forr (.nm 2) (.rng1 (.var 4)) (.cons (.set 10 (.b1 .max (.bv 8))) (.cons (.rem 8 (.var 10)) (.cons (.set 9 (.bin .add (.var 9) (.var 10))) (.wipe [2, 10] .nil))))) (.cons (.ret (.cmp .ge (.var 9) (.var 5))) (.nil))))))⟩
def f_is_result (c_check_scheme c_can_be_result : Nat) : FnIR := ⟨["scheme", "value"], 2, false, false, .cons (.ex (.call c_check_scheme (.cons (.var 0) (.nil)))) (.cons (.ret (.call c_can_be_result (.cons (.var 0) (.cons (.var 1) (.nil))))) (.nil))⟩
def f_bounds_of : FnIR := ⟨["subjects", "rules", "rank", "sums", "marks", "kind", "count", "number"], 2, false, false, .cons (.par 3 4 true true (.rep (.cons (.int 0) (.nil)) (.bin .add (.var 0) (.int 1))) (.rep (.cons (.int 0) (.nil)) (.var 0))) (.cons (.forr (.tp (.cons (.nm 5) (.cons (.nm 6) (.cons (.nm 7) (.nil))))) (.seq (.var 1)) (.cons (.ifs (.cmp .eq (.var 5) (.str (Str.ofString "best"))) (.cons (.store 3 (.var 6) (.max2 (.ix (.bv 3) (.var 6)) (.var 7))) (.nil)) (.cons (.store 4 (.var 6) (.max2 (.ix (.bv 4) (.var 6)) (.var 7))) (.nil))) (.wipe [5, 6, 7] .nil))) (.wipe [1, 5, 6, 7] (.cons (.forr (.nm 2) (.rng2 (.int 1) (.var 0)) (.cons (.store 4 (.var 2) (.max2 (.ix (.bv 4) (.var 2)) (.ix (.bv 4) (.bin .sub (.var 2) (.int 1))))) (.wipe [2] .nil))) (.frz [3, 4] (.cons (.ret (.tup (.cons (.var 3) (.cons (.var 4) (.nil))))) (.nil))))))⟩
def f_least_sums : FnIR := ⟨["top", "sums", "marks", "subjects", "found", "changed", "count", "least"], 3, false, false, .cons (.set 3 (.b1 .len (.var 2))) (.cons (.setL 4 (.b1 .list (.var 1))) (.cons (.set 5 (.bool true)) (.wipe [1] (.cons (.whl (.var 5) (.cons (.set 5 (.bool false)) (.cons (.forr (.nm 6) (.rng2 (.int 1) (.bin .add (.var 3) (.int 1))) (.cons (.set 7 (.bin .add (.ix (.bv 4) (.bin .sub (.var 6) (.int 1))) (.ix (.var 2) (.bin .sub (.var 3) (.var 6))))) (.cons (.ifs (.cmp .lt (.var 6) (.var 3)) (.cons (.set 7 (.max3 (.var 7) (.bin .fdiv (.bin .add (.bin .add (.ix (.bv 4) (.bin .sub (.var 6) (.int 1))) (.ix (.bv 4) (.bin .add (.var 6) (.int 1)))) (.int 1)) (.int 2)) (.bin .sub (.ix (.bv 4) (.bin .add (.var 6) (.int 1))) (.var 0)))) (.nil)) (.nil)) (.cons (.ifs (.cmp .gt (.var 7) (.ix (.bv 4) (.var 6))) (.cons (.store 4 (.var 6) (.var 7)) (.cons (.set 5 (.bool true)) (.nil))) (.nil)) (.cons (.ifs (.cmp .gt (.ix (.bv 4) (.var 6)) (.bin .mul (.var 6) (.var 0))) (.cons (.ret (.non)) (.nil)) (.nil)) (.wipe [6, 7] .nil)))))) (.wipe [6, 7] .nil)))) (.cons (.retO 4) (.nil))))))⟩
def f_row_of : FnIR := ⟨["sums", "steps", "before", "after"], 1, false, false, .cons (.set 1 (.lc (.tp (.cons (.nm 2) (.cons (.nm 3) (.nil)))) (.zip (.var 0) (.sl (.var 0) (.at (.int 1)) .no)) (.nil) (.bin .sub (.var 3) (.var 2)) [2, 3])) (.cons (.ret (.b1 .tuple (.rev (.var 1)))) (.nil))⟩
def f_weakest_of (c_bounds_of c_least_sums c_row_of : Nat) : FnIR := ⟨["subjects", "top", "rules", "floor", "marks", "found", "sums", "mark", "least"], 4, false, false, .cons (.setT (.tp (.cons (.nm 6) (.cons (.nm 4) (.nil)))) (.call c_bounds_of (.cons (.var 0) (.cons (.var 2) (.nil))))) (.cons (.set 4 (.lc (.tp (.cons (.nm 7) (.cons (.nm 8) (.nil)))) (.zip (.var 4) (.var 3)) (.nil) (.max2 (.var 7) (.var 8)) [7, 8])) (.cons (.set 5 (.call c_least_sums (.cons (.var 1) (.cons (.var 6) (.cons (.var 4) (.nil)))))) (.cons (.ret (.ite (.cmp .is (.var 5) (.non)) (.non) (.call c_row_of (.cons (.var 5) (.nil))))) (.nil))))⟩
def f_weakest_row (c_weakest_of : Nat) : FnIR := ⟨["scheme"], 1, false, false, .cons (.ret (.call c_weakest_of (.cons (.ix (.var 0) (.int 0)) (.cons (.ix (.var 0) (.int 1)) (.cons (.ix (.var 0) (.int 2)) (.cons (.rep (.cons (.int 0) (.nil)) (.ix (.var 0) (.int 0))) (.nil))))))) (.nil)⟩
def f_weakest (c_check_scheme c_weakest_row : Nat) : FnIR := ⟨["scheme"], 1, false, false, .cons (.ex (.call c_check_scheme (.cons (.var 0) (.nil)))) (.cons (.ret (.call c_weakest_row (.cons (.var 0) (.nil)))) (.nil))⟩
def f_law_rows : FnIR := ⟨["subjects", "top", "found", "rank", "longer", "row", "mark"], 2, false, false, .cons (.set 2 (.lst (.cons (.tup (.nil)) (.nil)))) (.cons (.forr (.nm 3) (.rng1 (.var 0)) (.cons (.set 4 (.lst (.nil))) (.wipe [3] (.cons (.forr (.nm 5) (.seq (.var 2)) (.cons (.set 4 (.bin .add (.var 4) (.lc (.nm 6) (.rng2 (.ite (.cmp .ne (.var 5) (.tup (.nil))) (.ix (.var 5) (.neg (.int 1))) (.int 0)) (.bin .add (.var 1) (.int 1))) (.nil) (.bin .add (.var 5) (.tup (.cons (.var 6) (.nil)))) [6]))) (.wipe [5] .nil))) (.cons (.set 2 (.var 4)) (.wipe [3, 4, 5] .nil)))))) (.cons (.ret (.var 2)) (.nil)))⟩
def f_law_keeps (c_law_holds : Nat) : FnIR := ⟨["rules", "result", "rule"], 2, false, false, .cons (.ret (.cmp .eq (.lc (.nm 2) (.seq (.var 0)) (.cons (.not (.call c_law_holds (.cons (.var 2) (.cons (.var 1) (.nil))))) (.nil)) (.var 2) [2]) (.lst (.nil)))) (.nil)⟩
def f_law_passing_rows (c_law_rows c_law_keeps : Nat) : FnIR := ⟨["scheme", "row"], 1, false, true, .cons (.retL (.lc (.nm 1) (.seq (.call c_law_rows (.cons (.ix (.var 0) (.int 0)) (.cons (.ix (.var 0) (.int 1)) (.nil))))) (.cons (.call c_law_keeps (.cons (.ix (.var 0) (.int 2)) (.cons (.var 1) (.nil)))) (.nil)) (.var 1) [1])) (.nil)⟩
def f_law_sums : FnIR := ⟨["result", "ranked", "count"], 1, false, false, .cons (.set 1 (.rev (.b1 .sorted (.var 0)))) (.cons (.ret (.b1 .tuple (.lc (.nm 2) (.rng2 (.int 1) (.bin .add (.b1 .len (.var 1)) (.int 1))) (.nil) (.b1 .sum (.sl (.var 1) .no (.at (.var 2)))) [2]))) (.nil))⟩
def f_best_sums : FnIR := ⟨["marks", "ranked", "count"], 1, false, false, .cons (.set 1 (.rev (.b1 .sorted (.var 0)))) (.cons (.ret (.b1 .tuple (.lc (.nm 2) (.rng2 (.int 1) (.bin .add (.b1 .len (.var 1)) (.int 1))) (.nil) (.b1 .sum (.sl (.var 1) .no (.at (.var 2)))) [2]))) (.nil))⟩
def f_marks_of (c_bounds_of c_weakest_row : Nat) : FnIR := ⟨["scheme", "found", "rank", "subjects", "top", "rules", "sums", "marks", "above", "least", "count", "parts"], 1, false, false, .cons (.setT (.tp (.cons (.nm 3) (.cons (.nm 4) (.cons (.nm 5) (.nil))))) (.var 0)) (.cons (.ifs (.cmp .is (.call c_weakest_row (.cons (.var 0) (.nil))) (.non)) (.cons (.ret (.non)) (.nil)) (.nil)) (.cons (.setT (.tp (.cons (.nm 6) (.cons (.nm 7) (.nil)))) (.call c_bounds_of (.cons (.var 3) (.cons (.var 5) (.nil))))) (.cons (.setL 1 (.lst (.nil))) (.wipe [0, 5] (.cons (.forr (.nm 2) (.rng1 (.var 3)) (.cons (.set 8 (.bin .sub (.bin .sub (.var 3) (.var 2)) (.int 1))) (.cons (.set 9 (.ix (.var 7) (.var 2))) (.wipe [2] (.cons (.forr (.nm 10) (.rng2 (.bin .add (.var 8) (.int 1)) (.bin .add (.var 3) (.int 1))) (.cons (.set 11 (.bin .sub (.var 10) (.var 8))) (.cons (.set 9 (.max2 (.var 9) (.bin .fdiv (.bin .sub (.bin .add (.bin .sub (.ix (.var 6) (.var 10)) (.bin .mul (.var 8) (.var 4))) (.var 11)) (.int 1)) (.var 11)))) (.wipe [10, 11] .nil)))) (.cons (.app 1 (.var 9)) (.wipe [2, 8, 9, 10, 11] .nil))))))) (.cons (.ret (.b1 .tuple (.bv 1))) (.nil)))))))⟩
def f_form_of (c_weakest_row c_best_sums c_marks_of : Nat) : FnIR := ⟨["scheme", "row"], 1, false, false, .cons (.set 1 (.call c_weakest_row (.cons (.var 0) (.nil)))) (.cons (.ret (.ite (.cmp .is (.var 1) (.non)) (.non) (.tup (.cons (.call c_best_sums (.cons (.var 1) (.nil))) (.cons (.call c_marks_of (.cons (.var 0) (.nil))) (.nil)))))) (.nil))⟩
def f_normal (c_check_scheme c_form_of : Nat) : FnIR := ⟨["scheme"], 1, false, false, .cons (.ex (.call c_check_scheme (.cons (.var 0) (.nil)))) (.cons (.ret (.call c_form_of (.cons (.var 0) (.nil)))) (.nil))⟩
def f_least_marks (c_check_scheme c_marks_of : Nat) : FnIR := ⟨["scheme"], 1, false, false, .cons (.ex (.call c_check_scheme (.cons (.var 0) (.nil)))) (.cons (.ret (.call c_marks_of (.cons (.var 0) (.nil)))) (.nil))⟩
def f_is_implied (c_weakest_row c_holds c_marks_of : Nat) : FnIR := ⟨["scheme", "rule", "row"], 2, false, false, .cons (.set 2 (.call c_weakest_row (.cons (.var 0) (.nil)))) (.cons (.ifs (.cmp .is (.var 2) (.non)) (.cons (.ret (.bool true)) (.nil)) (.nil)) (.cons (.ret (.ite (.cmp .eq (.ix (.var 1) (.int 0)) (.str (Str.ofString "fails"))) (.cmp .ge (.ix (.call c_marks_of (.cons (.var 0) (.nil))) (.ix (.var 1) (.int 1))) (.ix (.var 1) (.int 2))) (.call c_holds (.cons (.var 1) (.cons (.var 2) (.nil)))))) (.nil)))⟩
def f_follows (c_check_scheme c_is_implied c_can_be_rule : Nat) : FnIR := ⟨["scheme", "rule"], 2, false, false, .cons (.ex (.call c_check_scheme (.cons (.var 0) (.nil)))) (.cons (.ifs (.not (.call c_can_be_rule (.cons (.ix (.var 0) (.int 0)) (.cons (.ix (.var 0) (.int 1)) (.cons (.var 1) (.nil)))))) (.cons (.rai (Str.ofString "InvalidRule")) (.nil)) (.nil)) (.cons (.ret (.call c_is_implied (.cons (.var 0) (.cons (.var 1) (.nil))))) (.nil)))⟩
def f_without : FnIR := ⟨["scheme", "index"], 2, false, false, .cons (.ret (.bin .add (.sl (.var 0) .no (.at (.int 2))) (.tup (.cons (.bin .add (.sl (.ix (.var 0) (.int 2)) .no (.at (.var 1))) (.sl (.ix (.var 0) (.int 2)) (.at (.bin .add (.var 1) (.int 1))) .no)) (.nil))))) (.nil)⟩
def f_needless (c_check_scheme c_is_implied c_without : Nat) : FnIR := ⟨["scheme", "at", "rule"], 1, false, true, .cons (.ex (.call c_check_scheme (.cons (.var 0) (.nil)))) (.cons (.retL (.lc (.tp (.cons (.nm 1) (.cons (.nm 2) (.nil)))) (.enm (.ix (.var 0) (.int 2))) (.cons (.call c_is_implied (.cons (.call c_without (.cons (.var 0) (.cons (.var 1) (.nil)))) (.cons (.var 2) (.nil)))) (.nil)) (.var 1) [1, 2])) (.nil))⟩
def f_fewest_rules (c_check_scheme c_form_of : Nat) : FnIR := ⟨["scheme", "rule", "form", "parts", "part"], 1, false, false, .cons (.ex (.call c_check_scheme (.cons (.var 0) (.nil)))) (.cons (.par 2 3 false true (.call c_form_of (.cons (.var 0) (.nil))) (.lst (.cons (.tup (.nil)) (.nil)))) (.cons (.forr (.nm 1) (.seq (.ix (.var 0) (.int 2))) (.cons (.augL 3 (.lc (.nm 4) (.seq (.bv 3)) (.nil) (.bin .add (.var 4) (.tup (.cons (.var 1) (.nil)))) [4])) (.wipe [1] .nil))) (.cons (.ret (.b1 .min (.lc (.nm 4) (.seq (.bv 3)) (.cons (.cmp .eq (.call c_form_of (.cons (.bin .add (.sl (.var 0) .no (.at (.int 2))) (.tup (.cons (.var 4) (.nil)))) (.nil))) (.var 2)) (.nil)) (.b1 .len (.var 4)) [4]))) (.nil))))⟩
def f_law_parts : FnIR := ⟨["rules", "found", "rule", "chosen"], 1, false, false, .cons (.set 1 (.lst (.cons (.tup (.nil)) (.nil)))) (.cons (.forr (.nm 2) (.seq (.var 0)) (.cons (.set 1 (.bin .add (.var 1) (.lc (.nm 3) (.seq (.var 1)) (.nil) (.bin .add (.var 3) (.tup (.cons (.var 2) (.nil)))) [3]))) (.wipe [2] .nil))) (.cons (.ret (.var 1)) (.nil)))⟩
def f_check_both (c_check_scheme c_is_scheme : Nat) : FnIR := ⟨["first", "second"], 2, false, false, .cons (.ex (.call c_check_scheme (.cons (.var 0) (.nil)))) (.cons (.ifs (.or (.cons (.not (.call c_is_scheme (.cons (.var 1) (.nil)))) (.cons (.cmp .ne (.sl (.var 1) .no (.at (.int 2))) (.sl (.var 0) .no (.at (.int 2)))) (.nil)))) (.cons (.rai (Str.ofString "InvalidScheme")) (.nil)) (.nil)) (.nil))⟩
def f_implies (c_check_both c_is_implied : Nat) : FnIR := ⟨["first", "second", "rule"], 2, false, false, .cons (.ex (.call c_check_both (.cons (.var 0) (.cons (.var 1) (.nil))))) (.cons (.ret (.b1 .all (.lc (.nm 2) (.seq (.ix (.var 1) (.int 2))) (.nil) (.call c_is_implied (.cons (.var 0) (.cons (.var 2) (.nil)))) [2]))) (.nil))⟩
def f_low_row (c_marks_of : Nat) : FnIR := ⟨["scheme", "rank", "subjects", "top"], 2, false, false, .cons (.setT (.tp (.cons (.nm 2) (.cons (.nm 3) (.nil)))) (.sl (.var 0) .no (.at (.int 2)))) (.cons (.ret (.b1 .tuple (.bin .add (.rep (.cons (.ix (.call c_marks_of (.cons (.var 0) (.nil))) (.var 1)) (.nil)) (.bin .add (.var 1) (.int 1))) (.rep (.cons (.var 3) (.nil)) (.bin .sub (.bin .sub (.var 2) (.var 1)) (.int 1)))))) (.nil))⟩
def f_breaker (c_is_implied c_low_row c_weakest_row : Nat) : FnIR := ⟨["first", "second", "rule"], 2, false, false, .cons (.forr (.nm 2) (.seq (.ix (.var 1) (.int 2))) (.cons (.ifs (.not (.call c_is_implied (.cons (.var 0) (.cons (.var 2) (.nil))))) (.cons (.ret (.ite (.cmp .eq (.ix (.var 2) (.int 0)) (.str (Str.ofString "fails"))) (.call c_low_row (.cons (.var 0) (.cons (.ix (.var 2) (.int 1)) (.nil)))) (.call c_weakest_row (.cons (.var 0) (.nil))))) (.nil)) (.nil)) (.wipe [2] .nil))) (.cons (.ret (.non)) (.nil))⟩
def f_difference (c_check_both c_breaker : Nat) : FnIR := ⟨["first", "second", "found"], 2, false, false, .cons (.ex (.call c_check_both (.cons (.var 0) (.cons (.var 1) (.nil))))) (.cons (.set 2 (.call c_breaker (.cons (.var 0) (.cons (.var 1) (.nil))))) (.cons (.ret (.ite (.cmp .is (.var 2) (.non)) (.call c_breaker (.cons (.var 1) (.cons (.var 0) (.nil)))) (.var 2))) (.nil)))⟩
def f_subjects_lacking (c_check_result c_weakest_row c_keeps : Nat) : FnIR := ⟨["scheme", "result", "ranked", "count"], 2, false, false, .cons (.ex (.call c_check_result (.cons (.var 0) (.cons (.var 1) (.nil))))) (.cons (.ifs (.cmp .is (.call c_weakest_row (.cons (.var 0) (.nil))) (.non)) (.cons (.ret (.non)) (.nil)) (.nil)) (.cons (.par 2 3 false false (.b1 .sorted (.var 1)) (.int 0)) (.wipe [1] (.cons (.whl (.not (.call c_keeps (.cons (.ix (.var 0) (.int 2)) (.cons (.bin .add (.sl (.var 2) (.at (.var 3)) .no) (.rep (.cons (.ix (.var 0) (.int 1)) (.nil)) (.var 3))) (.nil))))) (.cons (.aug 3 (.int 1)) (.nil))) (.cons (.ret (.var 3)) (.nil))))))⟩
def f_can_help (c_check_result c_keeps : Nat) : FnIR := ⟨["scheme", "result", "found", "subject"], 2, false, true, .cons (.ex (.call c_check_result (.cons (.var 0) (.cons (.var 1) (.nil))))) (.cons (.setL 2 (.lst (.nil))) (.cons (.forr (.nm 3) (.rng1 (.b1 .len (.var 1))) (.cons (.ifs (.call c_keeps (.cons (.ix (.var 0) (.int 2)) (.cons (.bin .add (.bin .add (.sl (.var 1) .no (.at (.var 3))) (.tup (.cons (.ix (.var 0) (.int 1)) (.nil)))) (.sl (.var 1) (.at (.bin .add (.var 3) (.int 1))) .no)) (.nil)))) (.cons (.app 2 (.var 3)) (.nil)) (.nil)) (.wipe [3] .nil))) (.cons (.retO 2) (.nil))))⟩
def f_law_raised : FnIR := ⟨["result", "chosen", "top", "subject", "mark"], 3, false, false, .cons (.ret (.b1 .tuple (.lc (.tp (.cons (.nm 3) (.cons (.nm 4) (.nil)))) (.enm (.var 0)) (.nil) (.ite (.cmp .in (.var 3) (.var 1)) (.var 2) (.var 4)) [3, 4]))) (.nil)⟩
def f_are_ways (c_is_scheme : Nat) : FnIR := ⟨["value", "way"], 1, false, false, .cons (.ifs (.or (.cons (.not (.isi (.var 0) .tuple)) (.cons (.not (.chain .le .le (.int 1) (.b1 .len (.var 0)) (.glob (Str.ofString "MAX_WAYS") 3))) (.nil)))) (.cons (.ret (.bool false)) (.nil)) (.nil)) (.cons (.ret (.and (.cons (.b1 .all (.lc (.nm 1) (.seq (.var 0)) (.nil) (.call c_is_scheme (.cons (.var 1) (.nil))) [1])) (.cons (.b1 .all (.lc (.nm 1) (.seq (.var 0)) (.nil) (.cmp .eq (.sl (.var 1) .no (.at (.int 2))) (.sl (.ix (.var 0) (.int 0)) .no (.at (.int 2)))) [1])) (.nil))))) (.nil))⟩
def f_check_ways (c_check_scheme c_are_ways : Nat) : FnIR := ⟨["scheme", "ways"], 2, false, false, .cons (.ex (.call c_check_scheme (.cons (.var 0) (.nil)))) (.cons (.ifs (.or (.cons (.not (.call c_are_ways (.cons (.var 1) (.nil)))) (.cons (.cmp .ne (.sl (.ix (.var 1) (.int 0)) .no (.at (.int 2))) (.sl (.var 0) .no (.at (.int 2)))) (.nil)))) (.cons (.rai (Str.ofString "InvalidWays")) (.nil)) (.nil)) (.nil))⟩
def f_all_rows : FnIR := ⟨["subjects", "top", "found", "rank", "longer", "row", "mark"], 2, false, false, .cons (.set 2 (.lst (.cons (.tup (.nil)) (.nil)))) (.cons (.forr (.nm 3) (.rng1 (.var 0)) (.cons (.setL 4 (.lst (.nil))) (.wipe [3] (.cons (.forr (.nm 5) (.seq (.var 2)) (.cons (.augL 4 (.lc (.nm 6) (.rng2 (.ite (.cmp .ne (.var 5) (.tup (.nil))) (.ix (.var 5) (.neg (.int 1))) (.int 0)) (.bin .add (.var 1) (.int 1))) (.nil) (.bin .add (.var 5) (.tup (.cons (.var 6) (.nil)))) [6])) (.wipe [5] .nil))) (.frz [4] (.cons (.set 2 (.var 4)) (.wipe [3, 4, 5] .nil))))))) (.cons (.ret (.var 2)) (.nil)))⟩
def f_find_uncovered (c_all_rows c_keeps : Nat) : FnIR := ⟨["scheme", "ways", "row", "way"], 2, false, false, .cons (.forr (.nm 2) (.seq (.call c_all_rows (.cons (.ix (.var 0) (.int 0)) (.cons (.ix (.var 0) (.int 1)) (.nil))))) (.cons (.ifs (.and (.cons (.call c_keeps (.cons (.ix (.var 0) (.int 2)) (.cons (.var 2) (.nil)))) (.cons (.not (.b1 .any (.lc (.nm 3) (.seq (.var 1)) (.nil) (.call c_keeps (.cons (.ix (.var 3) (.int 2)) (.cons (.var 2) (.nil)))) [3]))) (.nil)))) (.cons (.ret (.var 2)) (.nil)) (.nil)) (.wipe [2] .nil))) (.cons (.ret (.non)) (.nil))⟩
def f_covered (c_check_ways c_find_uncovered : Nat) : FnIR := ⟨["scheme", "ways"], 2, false, false, .cons (.ex (.call c_check_ways (.cons (.var 0) (.cons (.var 1) (.nil))))) (.cons (.ret (.cmp .is (.call c_find_uncovered (.cons (.var 0) (.cons (.var 1) (.nil)))) (.non))) (.nil))⟩
def f_uncovered (c_check_ways c_find_uncovered : Nat) : FnIR := ⟨["scheme", "ways"], 2, false, false, .cons (.ex (.call c_check_ways (.cons (.var 0) (.cons (.var 1) (.nil))))) (.cons (.ret (.call c_find_uncovered (.cons (.var 0) (.cons (.var 1) (.nil))))) (.nil))⟩
def f_passes_any (c_are_ways c_can_be_result c_keeps : Nat) : FnIR := ⟨["ways", "result", "way"], 2, false, false, .cons (.ifs (.not (.call c_are_ways (.cons (.var 0) (.nil)))) (.cons (.rai (Str.ofString "InvalidWays")) (.nil)) (.nil)) (.cons (.ifs (.not (.call c_can_be_result (.cons (.ix (.var 0) (.int 0)) (.cons (.var 1) (.nil))))) (.cons (.rai (Str.ofString "InvalidResult")) (.nil)) (.nil)) (.cons (.ret (.b1 .any (.lc (.nm 2) (.seq (.var 0)) (.nil) (.call c_keeps (.cons (.ix (.var 2) (.int 2)) (.cons (.var 1) (.nil)))) [2]))) (.nil)))⟩
def f_check_small : FnIR := ⟨["scheme"], 1, false, false, .cons (.ifs (.cmp .gt (.ix (.var 0) (.int 0)) (.glob (Str.ofString "MAX_COUNTED") 4)) (.cons (.rai (Str.ofString "TooLarge")) (.nil)) (.nil)) (.nil)⟩
def f_check_list (c_can_be_result : Nat) : FnIR := ⟨["scheme", "results", "good", "result"], 2, false, false, .cons (.set 2 (.and (.cons (.isi (.var 1) .tuple) (.cons (.cmp .le (.b1 .len (.var 1)) (.glob (Str.ofString "MAX_LIST") 20)) (.nil))))) (.cons (.ifs (.or (.cons (.not (.var 2)) (.cons (.not (.b1 .all (.lc (.nm 3) (.seq (.var 1)) (.nil) (.call c_can_be_result (.cons (.var 0) (.cons (.var 3) (.nil)))) [3]))) (.nil)))) (.cons (.rai (Str.ofString "InvalidResults")) (.nil)) (.nil)) (.nil))⟩
def f_with_bonus : FnIR := ⟨["scheme", "result", "bonus", "mark"], 3, false, false, .cons (.ret (.b1 .tuple (.lc (.nm 3) (.seq (.var 1)) (.nil) (.min2 (.ix (.var 0) (.int 1)) (.bin .add (.var 3) (.var 2))) [3]))) (.nil)⟩
def f_least_bonus (c_check_scheme c_check_list c_is_between c_keeps c_with_bonus : Nat) : FnIR := ⟨["scheme", "results", "number", "bonus", "result"], 3, false, false, .cons (.ex (.call c_check_scheme (.cons (.var 0) (.nil)))) (.cons (.ex (.call c_check_list (.cons (.var 0) (.cons (.var 1) (.nil))))) (.cons (.ifs (.not (.call c_is_between (.cons (.var 2) (.cons (.int 0) (.cons (.glob (Str.ofString "MAX_LIST") 20) (.nil)))))) (.cons (.rai (Str.ofString "InvalidNumber")) (.nil)) (.nil)) (.cons (.forr (.nm 3) (.rng1 (.bin .add (.ix (.var 0) (.int 1)) (.int 1))) (.cons (.ifs (.cmp .ge (.b1 .len (.lc (.nm 4) (.seq (.var 1)) (.cons (.call c_keeps (.cons (.ix (.var 0) (.int 2)) (.cons (.call c_with_bonus (.cons (.var 0) (.cons (.var 4) (.cons (.var 3) (.nil))))) (.nil)))) (.nil)) (.int 1) [4])) (.var 2)) (.cons (.ret (.var 3)) (.nil)) (.nil)) (.wipe [3] .nil))) (.cons (.ret (.non)) (.nil)))))⟩
def f_law_source_v2 : FnIR := ⟨["cell", "turn"], 2, false, true, .cons (.ifs (.cmp .ge (.var 0) (.bin .pow (.int 10) (.int 18))) (.cons (.retL (.lst (.cons (.bin .sub (.var 0) (.bin .pow (.int 10) (.int 18))) (.cons (.bin .mod (.b1 .int (.var 0)) (.int 2147483579)) (.cons (.var 1) (.nil)))))) (.nil)) (.nil)) (.cons (.retL (.lst (.cons (.int 0) (.cons (.bin .mod (.b1 .int (.var 0)) (.int 2147483579)) (.cons (.var 1) (.nil)))))) (.nil))⟩
def f_law_draw_v2 : FnIR := ⟨["source", "size", "number", "drawn"], 2, true, false, .cons (.ifs (.cmp .gt (.src 0 0) (.int 1)) (.cons (.set 3 (.bin .mod (.b1 .int (.src 0 0)) (.var 1))) (.cons (.srcSet 0 0 (.bin .fdiv (.src 0 0) (.var 1))) (.cons (.ret (.var 3)) (.nil)))) (.nil)) (.cons (.srcSet 0 2 (.bin .add (.src 0 2) (.int 1))) (.cons (.set 2 (.bin .mod (.b1 .int (.bin .pow (.bin .add (.src 0 1) (.bin .mul (.int 15485867) (.src 0 2))) (.int 5))) (.int 2147483647))) (.cons (.set 3 (.bin .fdiv (.bin .mod (.b1 .int (.bin .pow (.bin .add (.var 2) (.bin .mul (.int 7919) (.src 0 2))) (.int 3))) (.int 2147483629)) (.int 32))) (.cons (.ret (.bin .mod (.b1 .int (.var 3)) (.var 1))) (.nil)))))⟩
def f_check_size (c_is_between : Nat) : FnIR := ⟨["subjects", "top"], 2, false, false, .cons (.ifs (.or (.cons (.not (.call c_is_between (.cons (.var 0) (.cons (.int 1) (.cons (.glob (Str.ofString "MAX_FORM_SUBJECTS") 3) (.nil)))))) (.cons (.not (.call c_is_between (.cons (.var 1) (.cons (.int 1) (.cons (.glob (Str.ofString "MAX_TOP") 12) (.nil)))))) (.nil)))) (.cons (.rai (Str.ofString "InvalidNumber")) (.nil)) (.nil)) (.nil)⟩
def f_are_numbers (c_is_between : Nat) : FnIR := ⟨["value", "many", "one"], 2, false, false, .cons (.ret (.and (.cons (.isi (.var 0) .tuple) (.cons (.cmp .eq (.b1 .len (.var 0)) (.var 1)) (.cons (.b1 .all (.lc (.nm 2) (.seq (.var 0)) (.nil) (.call c_is_between (.cons (.var 2) (.cons (.int 0) (.cons (.glob (Str.ofString "MAX_SUM") 72) (.nil))))) [2])) (.nil)))))) (.nil)⟩
def f_is_reached (c_best_sums : Nat) : FnIR := ⟨["subjects", "top", "sums", "rank", "mark", "row", "own", "least"], 5, false, false, .cons (.set 5 (.bin .add (.bin .mul (.tup (.cons (.var 4) (.nil))) (.bin .add (.var 3) (.int 1))) (.bin .mul (.tup (.cons (.var 1) (.nil))) (.bin .sub (.bin .sub (.var 0) (.var 3)) (.int 1))))) (.cons (.ret (.b1 .all (.lc (.tp (.cons (.nm 6) (.cons (.nm 7) (.nil)))) (.zip (.call c_best_sums (.cons (.var 5) (.nil))) (.var 2)) (.nil) (.cmp .ge (.var 6) (.var 7)) [6, 7]))) (.nil))⟩
def f_can_be_form (c_row_of c_are_numbers c_is_reached : Nat) : FnIR := ⟨["subjects", "top", "value", "row", "rank", "sums", "marks"], 3, false, false, .cons (.ifs (.or (.cons (.not (.isi (.var 2) .tuple)) (.cons (.cmp .ne (.b1 .len (.var 2)) (.int 2)) (.nil)))) (.cons (.ret (.bool false)) (.nil)) (.nil)) (.cons (.setT (.tp (.cons (.nm 5) (.cons (.nm 6) (.nil)))) (.var 2)) (.cons (.ifs (.or (.cons (.not (.call c_are_numbers (.cons (.var 5) (.cons (.var 0) (.nil))))) (.cons (.not (.call c_are_numbers (.cons (.var 6) (.cons (.var 0) (.nil))))) (.nil)))) (.cons (.ret (.bool false)) (.nil)) (.nil)) (.cons (.set 3 (.call c_row_of (.cons (.bin .add (.tup (.cons (.int 0) (.nil))) (.var 5)) (.nil)))) (.cons (.ifs (.or (.cons (.cmp .lt (.ix (.var 3) (.int 0)) (.int 0)) (.cons (.cmp .gt (.ix (.var 3) (.neg (.int 1))) (.var 1)) (.cons (.cmp .ne (.b1 .list (.var 3)) (.b1 .sorted (.var 3))) (.cons (.cmp .ne (.b1 .list (.var 6)) (.b1 .sorted (.var 6))) (.nil)))))) (.cons (.ret (.bool false)) (.nil)) (.nil)) (.wipe [2] (.cons (.forr (.nm 4) (.rng1 (.var 0)) (.cons (.ifs (.or (.cons (.cmp .gt (.ix (.var 6) (.var 4)) (.ix (.var 3) (.var 4))) (.cons (.not (.call c_is_reached (.cons (.var 0) (.cons (.var 1) (.cons (.var 5) (.cons (.var 4) (.cons (.ix (.var 6) (.var 4)) (.nil)))))))) (.nil)))) (.cons (.ret (.bool false)) (.nil)) (.nil)) (.wipe [4] .nil))) (.cons (.ret (.bool true)) (.nil))))))))⟩
def f_is_form (c_check_size c_can_be_form : Nat) : FnIR := ⟨["subjects", "top", "value"], 3, false, false, .cons (.ex (.call c_check_size (.cons (.var 0) (.cons (.var 1) (.nil))))) (.cons (.ret (.call c_can_be_form (.cons (.var 0) (.cons (.var 1) (.cons (.var 2) (.nil)))))) (.nil))⟩
def f_law_least (c_law_sums : Nat) : FnIR := ⟨["rows", "many", "sums", "least", "row", "at", "one"], 1, false, false, .cons (.ifs (.cmp .eq (.var 0) (.lst (.nil))) (.cons (.ret (.non)) (.nil)) (.nil)) (.cons (.set 1 (.b1 .len (.ix (.var 0) (.int 0)))) (.cons (.set 2 (.lc (.nm 4) (.seq (.var 0)) (.nil) (.call c_law_sums (.cons (.var 4) (.nil))) [4])) (.cons (.set 3 (.b1 .tuple (.lc (.nm 5) (.rng1 (.var 1)) (.nil) (.b1 .min (.lc (.nm 6) (.seq (.var 2)) (.nil) (.ix (.var 6) (.var 5)) [6])) [5]))) (.cons (.ret (.tup (.cons (.var 3) (.cons (.b1 .tuple (.lc (.nm 5) (.rng1 (.var 1)) (.nil) (.b1 .min (.lc (.nm 4) (.seq (.var 0)) (.nil) (.ix (.var 4) (.var 5)) [4])) [5])) (.nil))))) (.nil)))))⟩
def f_law_above_v2 (c_law_rows c_law_sums : Nat) : FnIR := ⟨["subjects", "top", "form", "found", "row", "low", "own", "least"], 3, false, true, .cons (.setL 3 (.lst (.nil))) (.cons (.forr (.nm 4) (.seq (.call c_law_rows (.cons (.var 0) (.cons (.var 1) (.nil))))) (.cons (.set 5 (.lc (.tp (.cons (.nm 6) (.cons (.nm 7) (.nil)))) (.zip (.bin .add (.call c_law_sums (.cons (.var 4) (.nil))) (.var 4)) (.bin .add (.ix (.var 2) (.int 0)) (.ix (.var 2) (.int 1)))) (.cons (.cmp .lt (.var 6) (.var 7)) (.nil)) (.int 1) [6, 7])) (.cons (.ifs (.cmp .eq (.var 5) (.lst (.nil))) (.cons (.app 3 (.var 4)) (.nil)) (.nil)) (.wipe [4, 5] .nil)))) (.cons (.retO 3) (.nil)))⟩
def f_law_scheme_for (c_law_choice c_law_rule : Nat) : FnIR := ⟨["source", "subjects", "top", "many", "turn"], 3, true, false, .cons (.set 3 (.callS c_law_choice 0 (.cons (.lst (.cons (.int 0) (.cons (.int 1) (.cons (.int 2) (.cons (.int 2) (.cons (.int 3) (.cons (.int 4) (.cons (.int 5) (.nil))))))))) (.nil)))) (.cons (.ret (.tup (.cons (.var 1) (.cons (.var 2) (.cons (.b1 .tuple (.lc (.nm 4) (.rng1 (.var 3)) (.nil) (.callS c_law_rule 0 (.cons (.var 1) (.cons (.var 2) (.nil)))) [4])) (.nil)))))) (.nil))⟩
def f_both (c_check_both c_form_of : Nat) : FnIR := ⟨["first", "second"], 2, false, false, .cons (.ex (.call c_check_both (.cons (.var 0) (.cons (.var 1) (.nil))))) (.cons (.ret (.call c_form_of (.cons (.bin .add (.sl (.var 0) .no (.at (.int 2))) (.tup (.cons (.bin .add (.ix (.var 0) (.int 2)) (.ix (.var 1) (.int 2))) (.nil)))) (.nil)))) (.nil))⟩
def f_form_of_either (c_form_of : Nat) : FnIR := ⟨["first", "second", "sums", "one", "other", "number", "more", "mark"], 2, false, false, .cons (.par 3 4 false false (.call c_form_of (.cons (.var 0) (.nil))) (.call c_form_of (.cons (.var 1) (.nil)))) (.cons (.ifs (.or (.cons (.cmp .is (.var 3) (.non)) (.cons (.cmp .is (.var 4) (.non)) (.nil)))) (.cons (.ret (.ite (.cmp .is (.var 3) (.non)) (.var 4) (.var 3))) (.nil)) (.nil)) (.cons (.set 2 (.b1 .tuple (.lc (.tp (.cons (.nm 5) (.cons (.nm 6) (.nil)))) (.zip (.ix (.var 3) (.int 0)) (.ix (.var 4) (.int 0))) (.nil) (.min2 (.var 5) (.var 6)) [5, 6]))) (.cons (.ret (.tup (.cons (.var 2) (.cons (.b1 .tuple (.lc (.tp (.cons (.nm 7) (.cons (.nm 6) (.nil)))) (.zip (.ix (.var 3) (.int 1)) (.ix (.var 4) (.int 1))) (.nil) (.min2 (.var 7) (.var 6)) [7, 6])) (.nil))))) (.nil))))⟩
def f_either (c_check_both c_form_of_either : Nat) : FnIR := ⟨["first", "second"], 2, false, false, .cons (.ex (.call c_check_both (.cons (.var 0) (.cons (.var 1) (.nil))))) (.cons (.ret (.call c_form_of_either (.cons (.var 0) (.cons (.var 1) (.nil))))) (.nil))⟩
def f_rules_of : FnIR := ⟨["form", "found", "sums", "marks", "at", "number", "rank", "mark"], 1, false, false, .cons (.setT (.tp (.cons (.nm 2) (.cons (.nm 3) (.nil)))) (.var 0)) (.cons (.set 1 (.b1 .tuple (.lc (.tp (.cons (.nm 4) (.cons (.nm 5) (.nil)))) (.enm (.var 2)) (.nil) (.tup (.cons (.str (Str.ofString "best")) (.cons (.bin .add (.var 4) (.int 1)) (.cons (.var 5) (.nil))))) [4, 5]))) (.cons (.ret (.bin .add (.var 1) (.b1 .tuple (.lc (.tp (.cons (.nm 6) (.cons (.nm 7) (.nil)))) (.enm (.var 3)) (.nil) (.tup (.cons (.str (Str.ofString "fails")) (.cons (.var 6) (.cons (.var 7) (.nil))))) [6, 7])))) (.nil)))⟩
def f_let_in (c_check_both c_form_of_either c_all_rows c_keeps c_rules_of : Nat) : FnIR := ⟨["first", "second", "form", "row"], 2, false, false, .cons (.ex (.call c_check_both (.cons (.var 0) (.cons (.var 1) (.nil))))) (.cons (.set 2 (.call c_form_of_either (.cons (.var 0) (.cons (.var 1) (.nil))))) (.cons (.ifs (.cmp .is (.var 2) (.non)) (.cons (.ret (.non)) (.nil)) (.nil)) (.cons (.forr (.nm 3) (.seq (.call c_all_rows (.cons (.ix (.var 0) (.int 0)) (.cons (.ix (.var 0) (.int 1)) (.nil))))) (.cons (.ifs (.and (.cons (.call c_keeps (.cons (.call c_rules_of (.cons (.var 2) (.nil))) (.cons (.var 3) (.nil)))) (.cons (.not (.call c_keeps (.cons (.ix (.var 0) (.int 2)) (.cons (.var 3) (.nil))))) (.cons (.not (.call c_keeps (.cons (.ix (.var 1) (.int 2)) (.cons (.var 3) (.nil))))) (.nil))))) (.cons (.ret (.var 3)) (.nil)) (.nil)) (.wipe [3] .nil))) (.cons (.ret (.non)) (.nil)))))⟩
def f_shortest_rules (c_form_of c_rules_of : Nat) : FnIR := ⟨["scheme", "form", "parts", "rule", "many", "part"], 1, false, false, .cons (.set 1 (.call c_form_of (.cons (.var 0) (.nil)))) (.cons (.ifs (.cmp .is (.var 1) (.non)) (.cons (.ret (.tup (.cons (.tup (.cons (.str (Str.ofString "best")) (.cons (.int 1) (.cons (.glob (Str.ofString "MAX_SUM") 72) (.nil))))) (.nil)))) (.nil)) (.nil)) (.cons (.setL 2 (.lst (.cons (.tup (.nil)) (.nil)))) (.cons (.forr (.nm 3) (.seq (.call c_rules_of (.cons (.var 1) (.nil)))) (.cons (.augL 2 (.lc (.nm 5) (.seq (.bv 2)) (.nil) (.bin .add (.var 5) (.tup (.cons (.var 3) (.nil)))) [5])) (.wipe [3] .nil))) (.wipe [3] (.cons (.forr (.nm 4) (.rng1 (.b1 .len (.bv 2))) (.cons (.forL (.nm 5) 2 (.cons (.ifs (.and (.cons (.cmp .eq (.b1 .len (.var 5)) (.var 4)) (.cons (.cmp .eq (.call c_form_of (.cons (.bin .add (.sl (.var 0) .no (.at (.int 2))) (.tup (.cons (.var 5) (.nil)))) (.nil))) (.var 1)) (.nil)))) (.cons (.ret (.var 5)) (.nil)) (.nil)) (.wipe [5] .nil))) (.wipe [4, 5] .nil))) (.cons (.ret (.call c_rules_of (.cons (.var 1) (.nil)))) (.nil)))))))⟩
def f_fewest_any (c_check_scheme c_check_small c_shortest_rules : Nat) : FnIR := ⟨["scheme"], 1, false, false, .cons (.ex (.call c_check_scheme (.cons (.var 0) (.nil)))) (.cons (.ex (.call c_check_small (.cons (.var 0) (.nil)))) (.cons (.ret (.b1 .len (.call c_shortest_rules (.cons (.var 0) (.nil))))) (.nil)))⟩
def f_shortest (c_check_scheme c_check_small c_shortest_rules : Nat) : FnIR := ⟨["scheme"], 1, false, false, .cons (.ex (.call c_check_scheme (.cons (.var 0) (.nil)))) (.cons (.ex (.call c_check_small (.cons (.var 0) (.nil)))) (.cons (.ret (.call c_shortest_rules (.cons (.var 0) (.nil)))) (.nil)))⟩
def f_law_k28 (c_law_source c_law_scheme c_shortest c_fewest_any c_law_result c_fewest_rules c_normal c_passes c_law_keeps c_law_equal c_is_rule c_law_choice : Nat) : FnIR := ⟨["script", "cell", "scheme", "source", "turn", "look", "subjects", "top", "rules", "found", "count", "result", "more", "rule"], 1, false, false, .cons (.forr (.nm 1) (.seq (.sl (.bin .add (.lst (.cons (.int 0) (.nil))) (.var 0)) .no (.at (.int 10)))) (.cons (.setL 3 (.call c_law_source (.cons (.var 1) (.cons (.int 28) (.nil))))) (.src 3 (.wipe [1] (.cons (.forr (.nm 4) (.rng1 (.int 3)) (.cons (.set 2 (.callS c_law_scheme 3 (.cons (.int 4) (.cons (.int 12) (.nil))))) (.cons (.setT (.tp (.cons (.nm 6) (.cons (.nm 7) (.cons (.nm 8) (.nil))))) (.var 2)) (.cons (.par 9 10 false false (.call c_shortest (.cons (.var 2) (.nil))) (.call c_fewest_any (.cons (.var 2) (.nil)))) (.cons (.ifs (.or (.cons (.not (.isi (.var 9) .tuple)) (.cons (.cmp .ne (.b1 .len (.var 9)) (.var 10)) (.cons (.cmp .gt (.var 10) (.call c_fewest_rules (.cons (.var 2) (.nil)))) (.nil))))) (.cons (.ret (.bool false)) (.nil)) (.nil)) (.cons (.ifs (.cmp .ne (.lc (.nm 13) (.seq (.var 9)) (.cons (.cmp .isnot (.call c_is_rule (.cons (.var 2) (.cons (.var 13) (.nil)))) (.bool true)) (.nil)) (.var 13) [13]) (.lst (.nil))) (.cons (.ret (.bool false)) (.nil)) (.nil)) (.cons (.ifs (.and (.cons (.cmp .le (.var 10) (.int 6)) (.cons (.cmp .ne (.call c_normal (.cons (.tup (.cons (.var 6) (.cons (.var 7) (.cons (.var 9) (.nil))))) (.nil))) (.call c_normal (.cons (.var 2) (.nil)))) (.nil)))) (.cons (.ret (.bool false)) (.nil)) (.nil)) (.wipe [4] (.cons (.forr (.nm 5) (.rng1 (.int 10)) (.cons (.set 11 (.callS c_law_result 3 (.cons (.var 6) (.cons (.var 7) (.nil))))) (.cons (.ifs (.cmp .ne (.call c_passes (.cons (.var 2) (.cons (.var 11) (.nil)))) (.call c_law_keeps (.cons (.var 9) (.cons (.var 11) (.nil))))) (.cons (.ret (.bool false)) (.nil)) (.nil)) (.wipe [5, 11] .nil)))) (.cons (.ifs (.cmp .lt (.b1 .len (.var 8)) (.int 6)) (.cons (.set 12 (.tup (.cons (.var 6) (.cons (.var 7) (.cons (.bin .add (.var 8) (.tup (.cons (.callS c_law_choice 3 (.cons (.bin .add (.b1 .list (.var 8)) (.lst (.cons (.tup (.cons (.str (Str.ofString "best")) (.cons (.int 1) (.cons (.int 0) (.nil))))) (.nil)))) (.nil))) (.nil)))) (.nil)))))) (.cons (.ifs (.not (.call c_law_equal (.cons (.call c_fewest_any (.cons (.var 12) (.nil))) (.cons (.var 10) (.nil))))) (.cons (.ret (.bool false)) (.nil)) (.nil)) (.nil))) (.nil)) (.cons (.ifs (.and (.cons (.cmp .lt (.var 10) (.int 6)) (.cons (.cmp .ne (.var 9) (.tup (.nil))) (.cons (.cmp .ne (.call c_fewest_any (.cons (.tup (.cons (.var 6) (.cons (.var 7) (.cons (.var 9) (.nil))))) (.nil))) (.var 10)) (.nil))))) (.cons (.ret (.bool false)) (.nil)) (.nil)) (.wipe [2, 4, 5, 6, 7, 8, 9, 10, 11, 12] .nil)))))))))))) (.wipe [1, 2, 4, 5, 6, 7, 8, 9, 10, 11, 12] .nil)))))) (.cons (.set 2 (.tup (.cons (.int 2) (.cons (.int 10) (.cons (.tup (.cons (.tup (.cons (.str (Str.ofString "fails")) (.cons (.int 0) (.cons (.int 5) (.nil))))) (.cons (.tup (.cons (.str (Str.ofString "best")) (.cons (.int 2) (.cons (.int 10) (.nil))))) (.cons (.tup (.cons (.str (Str.ofString "best")) (.cons (.int 1) (.cons (.int 5) (.nil))))) (.nil))))) (.nil)))))) (.cons (.ret (.and (.cons (.cmp .eq (.call c_shortest (.cons (.var 2) (.nil))) (.tup (.cons (.tup (.cons (.str (Str.ofString "fails")) (.cons (.int 0) (.cons (.int 5) (.nil))))) (.nil)))) (.cons (.cmp .eq (.call c_shortest (.cons (.tup (.cons (.int 3) (.cons (.int 4) (.cons (.tup (.nil)) (.nil))))) (.nil))) (.tup (.nil))) (.nil))))) (.nil)))⟩
def f_changed : FnIR := ⟨["row", "at", "change"], 3, false, false, .cons (.ret (.bin .add (.bin .add (.sl (.var 0) .no (.at (.var 1))) (.tup (.cons (.bin .add (.ix (.var 0) (.var 1)) (.var 2)) (.nil)))) (.sl (.var 0) (.at (.bin .add (.var 1) (.int 1))) .no))) (.nil)⟩
def f_lowest_rows (c_check_scheme c_check_small c_all_rows c_changed c_keeps : Nat) : FnIR := ⟨["scheme", "found", "row", "less", "at", "other"], 1, false, true, .cons (.ex (.call c_check_scheme (.cons (.var 0) (.nil)))) (.cons (.ex (.call c_check_small (.cons (.var 0) (.nil)))) (.cons (.setL 1 (.lst (.nil))) (.cons (.forr (.nm 2) (.seq (.call c_all_rows (.cons (.ix (.var 0) (.int 0)) (.cons (.ix (.var 0) (.int 1)) (.nil))))) (.cons (.set 3 (.lc (.nm 4) (.rng1 (.ix (.var 0) (.int 0))) (.cons (.cmp .gt (.ix (.var 2) (.var 4)) (.int 0)) (.nil)) (.call c_changed (.cons (.var 2) (.cons (.var 4) (.cons (.neg (.int 1)) (.nil))))) [4])) (.cons (.ifs (.and (.cons (.call c_keeps (.cons (.ix (.var 0) (.int 2)) (.cons (.var 2) (.nil)))) (.cons (.not (.b1 .any (.lc (.nm 5) (.seq (.var 3)) (.nil) (.call c_keeps (.cons (.ix (.var 0) (.int 2)) (.cons (.var 5) (.nil)))) [5]))) (.nil)))) (.cons (.app 1 (.var 2)) (.nil)) (.nil)) (.wipe [2, 3] .nil)))) (.cons (.retO 1) (.nil)))))⟩
def f_law_reached : FnIR := ⟨["row", "lows", "low", "own", "least"], 2, false, false, .cons (.forr (.nm 2) (.seq (.var 1)) (.cons (.ifs (.cmp .eq (.lc (.tp (.cons (.nm 3) (.cons (.nm 4) (.nil)))) (.zip (.var 0) (.var 2)) (.cons (.cmp .lt (.var 3) (.var 4)) (.nil)) (.int 1) [3, 4]) (.lst (.nil))) (.cons (.ret (.bool true)) (.nil)) (.nil)) (.wipe [2] .nil))) (.cons (.ret (.bool false)) (.nil))⟩
def f_highest_rows (c_check_scheme c_check_small c_all_rows c_changed c_keeps : Nat) : FnIR := ⟨["scheme", "found", "row", "more", "at", "other"], 1, false, true, .cons (.ex (.call c_check_scheme (.cons (.var 0) (.nil)))) (.cons (.ex (.call c_check_small (.cons (.var 0) (.nil)))) (.cons (.setL 1 (.lst (.nil))) (.cons (.forr (.nm 2) (.seq (.call c_all_rows (.cons (.ix (.var 0) (.int 0)) (.cons (.ix (.var 0) (.int 1)) (.nil))))) (.cons (.set 3 (.lc (.nm 4) (.rng1 (.ix (.var 0) (.int 0))) (.cons (.cmp .lt (.ix (.var 2) (.var 4)) (.ix (.var 0) (.int 1))) (.nil)) (.call c_changed (.cons (.var 2) (.cons (.var 4) (.cons (.int 1) (.nil))))) [4])) (.cons (.ifs (.and (.cons (.not (.call c_keeps (.cons (.ix (.var 0) (.int 2)) (.cons (.var 2) (.nil))))) (.cons (.b1 .all (.lc (.nm 5) (.seq (.var 3)) (.nil) (.call c_keeps (.cons (.ix (.var 0) (.int 2)) (.cons (.var 5) (.nil)))) [5])) (.nil)))) (.cons (.app 1 (.var 2)) (.nil)) (.nil)) (.wipe [2, 3] .nil)))) (.cons (.retO 1) (.nil)))))⟩
def f_law_below : FnIR := ⟨["row", "highs", "high", "own", "most"], 2, false, false, .cons (.forr (.nm 2) (.seq (.var 1)) (.cons (.ifs (.cmp .eq (.lc (.tp (.cons (.nm 3) (.cons (.nm 4) (.nil)))) (.zip (.var 0) (.var 2)) (.cons (.cmp .gt (.var 3) (.var 4)) (.nil)) (.int 1) [3, 4]) (.lst (.nil))) (.cons (.ret (.bool true)) (.nil)) (.nil)) (.wipe [2] .nil))) (.cons (.ret (.bool false)) (.nil))⟩
def f_law_known (c_law_choice c_law_draw : Nat) : FnIR := ⟨["source", "subjects", "top", "found", "subject"], 3, true, false, .cons (.setL 3 (.lst (.nil))) (.cons (.forr (.nm 4) (.rng1 (.var 1)) (.cons (.app 3 (.callS c_law_choice 0 (.cons (.lst (.cons (.non) (.cons (.callS c_law_draw 0 (.cons (.bin .add (.var 2) (.int 1)) (.nil))) (.nil)))) (.nil)))) (.wipe [4] .nil))) (.cons (.ret (.b1 .tuple (.bv 3))) (.nil)))⟩
def f_check_known (c_check_scheme c_is_between : Nat) : FnIR := ⟨["scheme", "known", "mark"], 2, false, false, .cons (.ex (.call c_check_scheme (.cons (.var 0) (.nil)))) (.cons (.ifs (.or (.cons (.not (.isi (.var 1) .tuple)) (.cons (.cmp .ne (.b1 .len (.var 1)) (.ix (.var 0) (.int 0))) (.nil)))) (.cons (.rai (Str.ofString "InvalidKnown")) (.nil)) (.nil)) (.cons (.ifs (.not (.b1 .all (.lc (.nm 2) (.seq (.var 1)) (.nil) (.or (.cons (.cmp .is (.var 2) (.non)) (.cons (.call c_is_between (.cons (.var 2) (.cons (.int 0) (.cons (.ix (.var 0) (.int 1)) (.nil))))) (.nil)))) [2]))) (.cons (.rai (Str.ofString "InvalidKnown")) (.nil)) (.nil)) (.nil)))⟩
def f_filled : FnIR := ⟨["known", "marks", "mark", "left", "found"], 2, false, false, .cons (.par 3 4 false false (.var 1) (.tup (.nil))) (.wipe [1] (.cons (.forr (.nm 2) (.seq (.var 0)) (.cons (.set 4 (.bin .add (.var 4) (.tup (.cons (.ite (.cmp .is (.var 2) (.non)) (.ix (.var 3) (.int 0)) (.var 2)) (.nil))))) (.cons (.set 3 (.ite (.cmp .is (.var 2) (.non)) (.sl (.var 3) (.at (.int 1)) .no) (.var 3))) (.wipe [2] .nil)))) (.cons (.ret (.var 4)) (.nil))))⟩
def f_can_pass (c_check_known c_keeps c_filled : Nat) : FnIR := ⟨["scheme", "known"], 2, false, false, .cons (.ex (.call c_check_known (.cons (.var 0) (.cons (.var 1) (.nil))))) (.cons (.ret (.call c_keeps (.cons (.ix (.var 0) (.int 2)) (.cons (.call c_filled (.cons (.var 1) (.cons (.bin .mul (.tup (.cons (.ix (.var 0) (.int 1)) (.nil))) (.ix (.var 0) (.int 0))) (.nil)))) (.nil))))) (.nil))⟩
def f_must_pass_v2 (c_check_known c_keeps c_filled : Nat) : FnIR := ⟨["scheme", "known"], 2, false, false, .cons (.ex (.call c_check_known (.cons (.var 0) (.cons (.var 1) (.nil))))) (.cons (.ret (.call c_keeps (.cons (.ix (.var 0) (.int 2)) (.cons (.call c_filled (.cons (.var 1) (.cons (.bin .mul (.tup (.cons (.int 0) (.nil))) (.ix (.var 0) (.int 0))) (.nil)))) (.nil))))) (.nil))⟩
def f_law_fillings : FnIR := ⟨["known", "top", "found", "mark", "longer", "result", "some", "one"], 2, false, false, .cons (.set 2 (.lst (.cons (.tup (.nil)) (.nil)))) (.cons (.forr (.nm 3) (.seq (.var 0)) (.cons (.set 4 (.lst (.nil))) (.cons (.forr (.nm 5) (.seq (.var 2)) (.cons (.set 6 (.ite (.cmp .is (.var 3) (.non)) (.rngl (.rng1 (.bin .add (.var 1) (.int 1)))) (.lst (.cons (.var 3) (.nil))))) (.cons (.set 4 (.bin .add (.var 4) (.lc (.nm 7) (.seq (.var 6)) (.nil) (.bin .add (.var 5) (.tup (.cons (.var 7) (.nil)))) [7]))) (.wipe [5, 6] .nil)))) (.cons (.set 2 (.var 4)) (.wipe [3, 4, 5, 6] .nil))))) (.cons (.ret (.var 2)) (.nil)))⟩
end Wk
set_option maxRecDepth 100000
set_option maxHeartbeats 4000000
/-! WE0: the steps of a run, for simp -/
namespace Wk
open PySem (PyData Str)
section
variable {a b : Int} {x y : Str} {ds es : List D} {p q : Bool} {d e : D}
def vS : Option Slot → M D
  | some (.im d) => ret d
  | _ => stuck
def bS : Option Slot → M D
  | some (.im d) => ret d
  | some (.ow ds) => ret (.list ds)
  | some (.ln ds) => ret (.list ds)
  | _ => stuck
def frS : Option Slot → Bool
  | some (.im _) => true
  | some .un => true
  | some (.ow _) => true
  | _ => false
def oS : Option Slot → M (List D)
  | some (.ow ds) => ret ds
  | _ => stuck
def sS : Option Slot → Nat → M D
  | some .sr, k => if k < 3 then fun s => .ok (.int (srcAt s k)) s else stuck
  | _, _ => stuck
@[simp] theorem vald_eq {env : Env} {i : Nat} : vald env i = vS env[i]? := by
  unfold vald vS
  rfl
@[simp] theorem valb_eq {env : Env} {i : Nat} : valb env i = bS env[i]? := by
  unfold valb bS
  rfl
@[simp] theorem free_eq {env : Env} {i : Nat} : free env i = frS env[i]? := by
  unfold free frS
  rfl
@[simp] theorem owM_eq {env : Env} {i : Nat} : owM env i = oS env[i]? := by
  unfold owM oS
  rfl
@[simp] theorem srcD_eq {env : Env} {i k : Nat} : srcD env i k = sS env[i]? k := by
  unfold srcD sS
  cases env[i]? with
  | none => rfl
  | some z => cases z <;> rfl
@[simp] theorem vS_im : vS (some (.im d)) = ret d := rfl
@[simp] theorem bS_im : bS (some (.im d)) = ret d := rfl
@[simp] theorem bS_ow : bS (some (.ow ds)) = ret (.list ds) := rfl
@[simp] theorem bS_ln : bS (some (.ln ds)) = ret (.list ds) := rfl
@[simp] theorem frS_im : frS (some (.im d)) = true := rfl
@[simp] theorem frS_un : frS (some .un) = true := rfl
@[simp] theorem frS_ow : frS (some (.ow ds)) = true := rfl
@[simp] theorem oS_ow : oS (some (.ow ds)) = ret ds := rfl
@[simp] theorem sS_0 : sS (some .sr) 0 = fun s => .ok (.int s.a) s := rfl
@[simp] theorem sS_1 : sS (some .sr) 1 = fun s => .ok (.int s.b) s := rfl
@[simp] theorem sS_2 : sS (some .sr) 2 = fun s => .ok (.int s.c) s := rfl
@[simp] theorem setI_eq {env : Env} {i : Nat} : setI env i d = if free env i = true then ret (env.set i (.im d)) else stuck := rfl
@[simp] theorem setO_eq {env : Env} {i : Nat} : setO env i (.list ds) = if free env i = true then ret (env.set i (.ow ds)) else stuck := rfl
/-! targets -/
@[simp] theorem bindT_nm {i : Nat} {env : Env} : bindT (.nm i) d env = if free env i = true then some (env.set i (.im d)) else none := by simp only [bindT]
@[simp] theorem bindT_tp {ts : Tgs} {env : Env} : bindT (.tp ts) (.tuple ds) env = bindTs ts ds env := by simp only [bindT]
@[simp] theorem bindTs_nil {env : Env} : bindTs .nil [] env = some env := by simp only [bindTs]
@[simp] theorem bindTs_cons {t : Tg} {ts : Tgs} {env : Env} : bindTs (.cons t ts) (d :: ds) env = (bindT t d env).bind fun env' => bindTs ts ds env' := by simp only [bindTs]
/-! arithmetic -/
@[simp] theorem bin_add : binD .add = addD := rfl
@[simp] theorem bin_sub : binD .sub = subD := rfl
@[simp] theorem bin_mul : binD .mul = mulD := rfl
@[simp] theorem bin_fdiv : binD .fdiv = fdivD := rfl
@[simp] theorem bin_mod : binD .mod = modD := rfl
@[simp] theorem bin_pow : binD .pow = powD := rfl
@[simp] theorem add_ii : addD (.int a) (.int b) = ret (.int (a + b)) := rfl
@[simp] theorem add_bi : addD (.bool p) (.int b) = ret (.int (bI p + b)) := rfl
@[simp] theorem add_ll : addD (.list ds) (.list es) = if sizeOk (ds.length + es.length) = true then ret (.list (ds ++ es)) else stuck := by rfl
@[simp] theorem add_tt : addD (.tuple ds) (.tuple es) = if sizeOk (ds.length + es.length) = true then ret (.tuple (ds ++ es)) else stuck := by rfl
@[simp] theorem sub_ii : subD (.int a) (.int b) = ret (.int (a - b)) := rfl
@[simp] theorem sub_bi : subD (.bool p) (.int b) = ret (.int (bI p - b)) := rfl
@[simp] theorem mul_ii : mulD (.int a) (.int b) = if mulOk a b = true then ret (.int (a * b)) else stuck := by rfl
@[simp] theorem mul_ti : mulD (.tuple ds) (.int b) = if repTOk ds.length b = true then ret (.tuple (List.replicate b.toNat ds).flatten) else stuck := by rfl
@[simp] theorem rep_i : repD ds (.int b) = if repOk ds.length b = true then ret (.list (List.replicate b.toNat ds).flatten) else stuck := by rfl
@[simp] theorem fdiv_ii : fdivD (.int a) (.int b) = if divOk b = true then ret (.int (a / b)) else stuck := by rfl
@[simp] theorem mod_ii : modD (.int a) (.int b) = if 0 < b then ret (.int (a % b)) else stuck := by rfl
@[simp] theorem pow_ii : powD (.int a) (.int b) = if powOk a b = true then ret (.int (a ^ b.toNat)) else stuck := by rfl
@[simp] theorem neg_i : negD (.int a) = ret (.int (-a)) := rfl
/-! comparisons -/
@[simp] theorem cmp_eq : cmpD .eq = eqD := rfl
@[simp] theorem cmp_ne : cmpD .ne = neD := rfl
@[simp] theorem cmp_lt : cmpD .lt = ltD := rfl
@[simp] theorem cmp_le : cmpD .le = leD := rfl
@[simp] theorem cmp_gt : cmpD .gt = gtD := rfl
@[simp] theorem cmp_ge : cmpD .ge = geD := rfl
@[simp] theorem cmp_is : cmpD .is = isD := rfl
@[simp] theorem cmp_isnot : cmpD .isnot = isNotD := rfl
@[simp] theorem cmp_in : cmpD .in = inD := rfl
@[simp] theorem cmp_notin : cmpD .notin = notInD := rfl
@[simp] theorem lt_ii : ltD (.int a) (.int b) = ret (bl (decide (a < b))) := rfl
@[simp] theorem le_ii : leD (.int a) (.int b) = ret (bl (decide (a ≤ b))) := rfl
@[simp] theorem gt_ii : gtD (.int a) (.int b) = ret (bl (decide (b < a))) := rfl
@[simp] theorem ge_ii : geD (.int a) (.int b) = ret (bl (decide (b ≤ a))) := rfl
@[simp] theorem is_non : isD d .none = ret (bl (isNone d)) := rfl
@[simp] theorem isnot_non : isNotD d .none = ret (bl (!isNone d)) := rfl
@[simp] theorem tst_b : tst (.bool p) = ret p := rfl
/-! items, built-ins -/
@[simp] theorem ix_l : ixD (.list ds) (.int a) = match L2.atI ds a with
    | some d => ret d
    | none => stuck := by rfl
@[simp] theorem ix_t : ixD (.tuple ds) (.int a) = match L2.atI ds a with
    | some d => ret d
    | none => stuck := by rfl
@[simp] theorem atI_lit {n : Nat} : L2.atI ds (no_index (OfNat.ofNat n : Int)) = ds[n]? := by
  unfold L2.atI L2.ixN
  have h0 : (0 : Int) ≤ (OfNat.ofNat n : Int) := Int.natCast_nonneg n
  rw [if_pos h0]
  by_cases h : (OfNat.ofNat n : Int) < (ds.length : Int)
  · rw [if_pos h]
    rfl
  · rw [if_neg h]
    have h1 : ds.length ≤ n := by
      have : ¬ ((n : Int) < (ds.length : Int)) := h
      omega
    rw [List.getElem?_eq_none h1]
    rfl
@[simp] theorem sl_l {lo hi : Option Int} : slD (.list ds) lo hi = ret (.list (cutD ds lo hi)) := rfl
@[simp] theorem sl_t {lo hi : Option Int} : slD (.tuple ds) lo hi = ret (.tuple (cutD ds lo hi)) := rfl
@[simp] theorem part_i : partD (.int a) = ret (some a) := rfl
@[simp] theorem rev_l : revD (.list ds) = ret (.list ds.reverse) := rfl
@[simp] theorem rev_t : revD (.tuple ds) = ret (.tuple ds.reverse) := rfl
@[simp] theorem b1_len : b1D .len = lenD := rfl
@[simp] theorem b1_sum : b1D .sum = sumD := rfl
@[simp] theorem b1_max : b1D .max = maxD := rfl
@[simp] theorem b1_min : b1D .min = minD := rfl
@[simp] theorem b1_any : b1D .any = anyD := rfl
@[simp] theorem b1_all : b1D .all = allD := rfl
@[simp] theorem b1_sorted : b1D .sorted = sortedD := rfl
@[simp] theorem b1_tuple : b1D .tuple = tupleD := rfl
@[simp] theorem b1_list : b1D .list = listD := rfl
@[simp] theorem b1_int : b1D .int = intD := rfl
@[simp] theorem b1_str : b1D .str = strD := rfl
@[simp] theorem len_l : lenD (.list ds) = ret (.int ds.length) := rfl
@[simp] theorem len_t : lenD (.tuple ds) = ret (.int ds.length) := rfl
@[simp] theorem tup_l : tupleD (.list ds) = ret (.tuple ds) := rfl
@[simp] theorem tup_t : tupleD (.tuple ds) = ret (.tuple ds) := rfl
@[simp] theorem lst_l : listD (.list ds) = ret (.list ds) := rfl
@[simp] theorem lst_t : listD (.tuple ds) = ret (.list ds) := rfl
@[simp] theorem int_i : intD (.int a) = ret (.int a) := rfl
@[simp] theorem int_b : intD (.bool p) = ret (.int (if p then 1 else 0)) := rfl
@[simp] theorem str_i : strD (.int a) = if a.natAbs.log2 < 1920 then ret (.str (toString a)) else stuck := by rfl
@[simp] theorem str_s : strD (.str x) = ret (.str x) := rfl
@[simp] theorem str_b : strD (.bool p) = ret (.str (if p = true then "True" else "False")) := rfl
@[simp] theorem max2_ii : max2D (.int a) (.int b) = ret (.int (max a b)) := rfl
@[simp] theorem min2_ii : min2D (.int a) (.int b) = ret (.int (min a b)) := rfl
@[simp] theorem rng1_i : rng1 (.int b) = if rngOk 0 b = true then ret (rngL 0 b) else stuck := by rfl
@[simp] theorem rng2_ii : rng2 (.int a) (.int b) = if rngOk a b = true then ret (rngL a b) else stuck := rfl
@[simp] theorem seqM_l : seqM (.list ds) = ret ds := rfl
@[simp] theorem seqM_t : seqM (.tuple ds) = ret ds := rfl
@[simp] theorem enumD_l : enumD (.list ds) = ret (enumL 0 ds) := rfl
@[simp] theorem enumD_t : enumD (.tuple ds) = ret (enumL 0 ds) := rfl
@[simp] theorem zip_ll : zipD (.list ds) (.list es) = ret (List.zipWith (fun a b => .tuple [a, b]) ds es) := rfl
@[simp] theorem zip_lt : zipD (.list ds) (.tuple es) = ret (List.zipWith (fun a b => .tuple [a, b]) ds es) := rfl
@[simp] theorem zip_tl : zipD (.tuple ds) (.list es) = ret (List.zipWith (fun a b => .tuple [a, b]) ds es) := rfl
@[simp] theorem zip_tt : zipD (.tuple ds) (.tuple es) = ret (List.zipWith (fun a b => .tuple [a, b]) ds es) := rfl
/-! types -/
@[simp] theorem ty_1 {t : Ty} : tyIs .none t = false := by cases t <;> rfl
@[simp] theorem ty_2 {t : Ty} : tyIs (.bool p) t = (match t with
  | .bool => true
  | .int => true
  | _ => false) := by cases t <;> rfl
@[simp] theorem ty_3 {t : Ty} : tyIs (.int a) t = (match t with
  | .int => true
  | _ => false) := by cases t <;> rfl
@[simp] theorem ty_4 {t : Ty} : tyIs (.str x) t = (match t with
  | .str => true
  | _ => false) := by cases t <;> rfl
@[simp] theorem ty_5 {t : Ty} : tyIs (.list ds) t = (match t with
  | .list => true
  | _ => false) := by cases t <;> rfl
@[simp] theorem ty_6 {t : Ty} : tyIs (.tuple ds) t = (match t with
  | .tuple => true
  | _ => false) := by cases t <;> rfl
@[simp] theorem ty_7 {t : Ty} {kv : List (D × D)} : tyIs (.dict kv) t = false := by cases t <;> rfl
/-! the source -/
@[simp] theorem srcSet_0 {env : Env} {i : Nat} {h : env[i]? = some .sr} : srcSetD env i 0 (.int a) = fun s => .ok env ⟨a, s.b, s.c⟩ := by
  unfold srcSetD
  rw [h]
  rfl
@[simp] theorem srcSet_2 {env : Env} {i : Nat} {h : env[i]? = some .sr} : srcSetD env i 2 (.int a) = fun s => .ok env ⟨s.a, s.b, a⟩ := by
  unfold srcSetD
  rw [h]
  rfl
end
end Wk
set_option maxRecDepth 100000
set_option maxHeartbeats 4000000
/-! WE1: what a run comes to -/
namespace Wk
/-- m ends well, with what Q wants -/
def wp {α : Type} (m : M α) (Q : α → SV → Prop) (s : SV) : Prop := ∃ x s', m s = .ok x s' ∧ Q x s'
section
variable {α β : Type} {Q : α → SV → Prop} {s : SV}
@[simp] theorem wp_ret {x : α} : wp (ret x) Q s ↔ Q x s := ⟨fun ⟨y, s', e, q⟩ => by cases e; exact q, fun q => ⟨x, s, rfl, q⟩⟩
@[simp] theorem wp_bnd {m : M β} {f : β → M α} : wp (bnd m f) Q s ↔ wp m (fun x s' => wp (f x) Q s') s := by
  constructor
  · rintro ⟨y, s', e, q⟩
    unfold bnd at e
    cases h : m s with
    | ok x s1 =>
      rw [h] at e
      exact ⟨x, s1, h, y, s', e, q⟩
    | er c s1 =>
      rw [h] at e
      cases e
    | no =>
      rw [h] at e
      cases e
  · rintro ⟨x, s1, h, y, s', e, q⟩
    refine ⟨y, s', ?_, q⟩
    unfold bnd
    rw [h]
    exact e
@[simp] theorem wp_stuck : wp (stuck : M α) Q s ↔ False := ⟨fun ⟨_, _, e, _⟩ => (nomatch e), False.elim⟩
theorem wp_ite {c : Prop} [Decidable c] {m n : M α} : wp (if c then m else n) Q s ↔ (c → wp m Q s) ∧ (¬ c → wp n Q s) := by
  by_cases h : c
  · simp [h]
  · simp [h]
theorem wp_mono {m : M α} {Q' : α → SV → Prop} (h : wp m Q s) (i : ∀ x s', Q x s' → Q' x s') : wp m Q' s := by
  obtain ⟨x, s', e, q⟩ := h
  exact ⟨x, s', e, i x s' q⟩
theorem wp_pcall {m : M α} : wp (pcall m) Q s ↔ wp m (fun x _ => Q x s) sv0 := by
  unfold pcall wp
  constructor
  · rintro ⟨x, s', e, q⟩
    cases h : m sv0 with
    | ok y s1 =>
      rw [h] at e
      cases e
      exact ⟨x, s1, rfl, q⟩
    | er c s1 =>
      rw [h] at e
      cases e
    | no =>
      rw [h] at e
      cases e
  · rintro ⟨x, s', e, q⟩
    exact ⟨x, s, by rw [e], q⟩
@[simp] theorem wp_noer {m : M α} : wp (noer m) Q s ↔ wp m Q s := by
  unfold noer wp
  constructor
  · rintro ⟨x, s', e, q⟩
    dsimp only at e
    cases h : m s with
    | ok y s1 =>
      rw [h] at e
      exact ⟨x, s', e, q⟩
    | er c s1 =>
      rw [h] at e
      cases e
    | no =>
      rw [h] at e
      cases e
  · rintro ⟨x, s', e, q⟩
    exact ⟨x, s', by dsimp only; rw [e], q⟩
end
@[simp] theorem endF_rt {fr : Bool} {d : D} : endF fr (.rt d) = ret d := rfl
@[simp] theorem endF_nx {e : Env} : endF false (.nx e) = ret .none := rfl
@[simp] theorem tst_bl {b : Bool} : tst (bl b) = ret b := rfl
@[simp] theorem wp_lam {α : Type} {f : SV → α} {g : SV → SV} {Q : α → SV → Prop} {s : SV} : wp (fun s => Res.ok (f s) (g s)) Q s ↔ Q (f s) (g s) := ⟨fun ⟨_, _, e, q⟩ => by cases e; exact q, fun q => ⟨_, _, rfl, q⟩⟩
theorem mulOk_l {i j : Int} (h : -(2 ^ 64) < i ∧ i < 2 ^ 64) : mulOk i j = true := by
  unfold mulOk
  simp only [h, true_and, and_self, true_or, decide_true, Bool.true_or]
theorem mulOk_r {i j : Int} (h : -(2 ^ 64) < j ∧ j < 2 ^ 64) : mulOk i j = true := by
  unfold mulOk
  simp only [h, true_and, and_self, or_true, decide_true, Bool.true_or]
theorem powOk_of {i j : Int} (h0 : 0 ≤ j) (h1 : j ≤ 1000000) (h2 : -(2 ^ 64) < i) (h3 : i < 2 ^ 64) : powOk i j = true := by
  unfold powOk
  simp only [decide_eq_true_eq]
  exact ⟨h0, h1, by omega⟩
theorem divOk_of {j : Int} (h : 0 < j) (h1 : j < 1073741824) : divOk j = true := by
  unfold divOk
  simp [h, h1]
open PySem (PyData Str)
/-- the constants of the evaluator, for simp -/
@[simp] theorem eqD_int {a b : Int} : eqD (.int a) (.int b) = ret (bl (decide (a = b))) := by
  have : PyData.eqv (.int a) (.int b) = decide (a = b) := by
    unfold PyData.eqv
    by_cases h : a = b <;> simp [h]
  unfold eqD
  rw [this]
  rfl
@[simp] theorem neD_int {a b : Int} : neD (.int a) (.int b) = ret (bl (!decide (a = b))) := by
  have : PyData.eqv (.int a) (.int b) = decide (a = b) := by
    unfold PyData.eqv
    by_cases h : a = b <;> simp [h]
  unfold neD
  rw [this]
  rfl
@[simp] theorem eqD_bool {a b : Bool} : eqD (.bool a) (.bool b) = ret (bl (decide (a = b))) := by
  have : PyData.eqv (.bool a) (.bool b) = decide (a = b) := by
    unfold PyData.eqv
    by_cases h : a = b <;> simp [h]
  unfold eqD
  rw [this]
  rfl
theorem shaped_str {x : Str} : PySem.SeqAt.shaped (.str x) = PyData.strOk x := by
  simp [PySem.SeqAt.shaped, PyData.canLay0, PyData.depth]
theorem eqD_str {a b : Str} (ha : PyData.strOk a = true) (hb : PyData.strOk b = true) : eqD (.str a) (.str b) = ret (bl (decide (a = b))) := by
  have : PyData.eqv (.str a) (.str b) = decide (a = b) := by
    unfold PyData.eqv
    by_cases h : a = b <;> simp [h]
  unfold eqD
  rw [this, shaped_str, shaped_str, ha, hb]
  rfl
/-- the source is fit for n draws' worth -/
def SI (n : Int) (s : SV) : Prop := 0 ≤ s.b ∧ s.b < 2147483579 ∧ 0 ≤ s.c ∧ s.c ≤ n
theorem SI.le {n m : Int} {s : SV} (h : SI n s) (hm : n ≤ m) : SI m s := ⟨h.1, h.2.1, h.2.2.1, Int.le_trans h.2.2.2 hm⟩
theorem atI_in {ds : List D} {v : Int} (h0 : 0 ≤ v) (h1 : v < ds.length) : ∃ d, L2.atI ds v = some d ∧ ds[v.toNat]? = some d := by
  have h2 : v.toNat < ds.length := by omega
  obtain ⟨j, rfl⟩ : ∃ j : Nat, v = j := ⟨v.toNat, by omega⟩
  exact ⟨ds[j]'(by simpa using h2), L2.atI_nat (List.getElem?_eq_getElem _), by simp⟩
/-- data that is small: ints within B, at most n items, k deep -/
def gd (B : Int) (n : Nat) : Nat → D → Prop
  | _, .none => True
  | _, .bool _ => True
  | _, .int i => -B ≤ i ∧ i ≤ B
  | _, .str x => PyData.strOk x = true
  | k + 1, .list ds => ds.length ≤ n ∧ ∀ d ∈ ds, gd B n k d
  | k + 1, .tuple ds => ds.length ≤ n ∧ ∀ d ∈ ds, gd B n k d
  | _, _ => False
theorem gd.mono {B B' : Int} {n n' : Nat} (hB : B ≤ B') (hn : n ≤ n') : ∀ {k k' : Nat} {d : D}, k ≤ k' → gd B n k d → gd B' n' k' d
  | k, k', .none, _, _ => by simp [gd]
  | k, k', .bool _, _, _ => by simp [gd]
  | k, k', .int i, _, h => by
    simp only [gd] at h ⊢
    omega
  | k, k', .str x, _, h => by
    simp only [gd] at h ⊢
    exact h
  | k + 1, k' + 1, .list ds, hk, h => by
    simp only [gd] at h ⊢
    exact ⟨Nat.le_trans h.1 hn, fun d hd => gd.mono hB hn (Nat.le_of_succ_le_succ hk) (h.2 d hd)⟩
  | k + 1, k' + 1, .tuple ds, hk, h => by
    simp only [gd] at h ⊢
    exact ⟨Nat.le_trans h.1 hn, fun d hd => gd.mono hB hn (Nat.le_of_succ_le_succ hk) (h.2 d hd)⟩
  | 0, k', .list ds, hk, h => by simp [gd] at h
  | 0, k', .tuple ds, hk, h => by simp [gd] at h
  | k + 1, 0, .list ds, hk, h => by omega
  | k + 1, 0, .tuple ds, hk, h => by omega
  | k, k', .dict _, hk, h => by simp [gd] at h
theorem gd.lay {B : Int} {n : Nat} : ∀ {k : Nat} {d : D}, gd B n k d → PyData.canLay0 d = true ∧ PyData.depth d ≤ k
  | k, .none, h => ⟨rfl, Nat.zero_le _⟩
  | k, .bool _, h => ⟨rfl, Nat.zero_le _⟩
  | k, .int i, h => ⟨rfl, Nat.zero_le _⟩
  | k, .str x, h => by
    simp only [gd] at h
    exact ⟨h, Nat.zero_le _⟩
  | k + 1, .list ds, h => by
    simp only [gd] at h
    have key : ∀ l : List D, (∀ d ∈ l, gd B n k d) → PyData.canLayAll0 l = true ∧ PyData.depthAll l ≤ k := by
      intro l
      induction l with
      | nil => exact fun _ => ⟨rfl, Nat.zero_le _⟩
      | cons d r ih =>
        intro hl
        obtain ⟨a, b⟩ := gd.lay (hl d List.mem_cons_self)
        obtain ⟨a', b'⟩ := ih fun x hx => hl x (List.mem_cons_of_mem _ hx)
        exact ⟨by simp [PyData.canLayAll0, a, a'], by simp [PyData.depthAll]; omega⟩
    obtain ⟨a, b⟩ := key ds h.2
    exact ⟨by simpa [PyData.canLay0] using a, by simp [PyData.depth]; omega⟩
  | k + 1, .tuple ds, h => by
    simp only [gd] at h
    have key : ∀ l : List D, (∀ d ∈ l, gd B n k d) → PyData.canLayAll0 l = true ∧ PyData.depthAll l ≤ k := by
      intro l
      induction l with
      | nil => exact fun _ => ⟨rfl, Nat.zero_le _⟩
      | cons d r ih =>
        intro hl
        obtain ⟨a, b⟩ := gd.lay (hl d List.mem_cons_self)
        obtain ⟨a', b'⟩ := ih fun x hx => hl x (List.mem_cons_of_mem _ hx)
        exact ⟨by simp [PyData.canLayAll0, a, a'], by simp [PyData.depthAll]; omega⟩
    obtain ⟨a, b⟩ := key ds h.2
    exact ⟨by simpa [PyData.canLay0] using a, by simp [PyData.depth]; omega⟩
  | 0, .list ds, h => by simp [gd] at h
  | 0, .tuple ds, h => by simp [gd] at h
  | k, .dict _, h => by simp [gd] at h
theorem gd.shaped {B : Int} {n k : Nat} {d : D} (h : gd B n k d) (hk : k ≤ 64) : PySem.SeqAt.shaped d = true := by
  obtain ⟨a, b⟩ := h.lay
  unfold PySem.SeqAt.shaped
  rw [a, Bool.true_and]
  exact decide_eq_true (Nat.le_trans b hk)
/-! ### comprehensions -/
theorem lcRun_ret {g : D → M (Option D)} {h : D → Option D} : ∀ {ds : List D}, (∀ d ∈ ds, g d = ret (h d)) → lcRun g ds = ret (ds.filterMap h)
  | [], _ => rfl
  | d :: ds, e => by
    unfold lcRun
    rw [e d List.mem_cons_self, bnd_ret, lcRun_ret fun x hx => e x (List.mem_cons_of_mem _ hx), bnd_ret]
    congr 1
    rw [List.filterMap_cons]
    cases h d <;> rfl
theorem lcRun_map {g : D → M (Option D)} {h : D → D} {ds : List D} (e : ∀ d ∈ ds, g d = ret (some (h d))) : lcRun g ds = ret (ds.map h) := by
  rw [lcRun_ret (h := fun d => some (h d)) e]
  rw [show (fun d => some (h d)) = some ∘ h from rfl, List.filterMap_eq_map]
theorem wp_lcRun {g : D → M (Option D)} (I : List D → List D → SV → Prop) {Q : List D → SV → Prop} : ∀ {ds : List D} {s : SV}, I ds [] s →
    (∀ d r acc s, I (d :: r) acc s → wp (g d) (fun o s' => I r (acc ++ o.toList) s') s) → (∀ acc s, I [] acc s → Q acc s) → wp (lcRun g ds) Q s := by
  have gen : ∀ (ds acc : List D) (s : SV), I ds acc s → (∀ d r acc s, I (d :: r) acc s → wp (g d) (fun o s' => I r (acc ++ o.toList) s') s) → wp (lcRun g ds) (fun ys s' => I [] (acc ++ ys) s') s := by
    intro ds
    induction ds with
    | nil =>
      intro acc s h _
      unfold lcRun
      rw [wp_ret, List.append_nil]
      exact h
    | cons d r ih =>
      intro acc s h st
      unfold lcRun
      rw [wp_bnd]
      refine wp_mono (st d r acc s h) fun o s1 h1 => ?_
      rw [wp_bnd]
      refine wp_mono (ih _ s1 h1 st) fun ys s2 h2 => ?_
      rw [wp_ret]
      cases o with
      | none => simpa using h2
      | some y => simpa using h2
  intro ds s h st fin
  exact wp_mono (gen ds [] s h st) fun ys s' h' => fin ys s' (by simpa using h')
theorem bools_map {f : D → Bool} : ∀ l : List D, bools? (l.map fun d => PyData.bool (f d)) = some (l.map f)
  | [] => rfl
  | d :: r => by
    show (bools? (r.map fun d => PyData.bool (f d))).map (f d :: ·) = _
    rw [bools_map r]
    rfl
theorem gd.tup {B : Int} {n k : Nat} {ds : List D} (h : gd B n k (.tuple ds)) : ∃ j, k = j + 1 ∧ ds.length ≤ n ∧ ∀ d ∈ ds, gd B n j d := by
  cases k with
  | zero => simp [gd] at h
  | succ j =>
    simp only [gd] at h
    exact ⟨j, rfl, h.1, h.2⟩
theorem gd.lst {B : Int} {n k : Nat} {ds : List D} (h : gd B n k (.list ds)) : ∃ j, k = j + 1 ∧ ds.length ≤ n ∧ ∀ d ∈ ds, gd B n j d := by
  cases k with
  | zero => simp [gd] at h
  | succ j =>
    simp only [gd] at h
    exact ⟨j, rfl, h.1, h.2⟩
theorem eqv_nil {ds : List D} : PyData.eqv (.list ds) (.list []) = ds.isEmpty := by
  cases ds <;> simp [PyData.eqv, PyData.eqvAll]
theorem eqD_nil {ds : List D} {B : Int} {n k : Nat} (h : gd B n k (.list ds)) (hk : k ≤ 64) : eqD (.list ds) (.list []) = ret (bl ds.isEmpty) := by
  unfold eqD
  rw [h.shaped hk, eqv_nil]
  rfl
/-! ### loops -/
theorem wp_for {body : Env → M Fl} {b : D → Env → Option Env} (I : List D → Env → SV → Prop) {Q : Fl → SV → Prop} : ∀ {ds : List D} {env : Env} {s : SV}, I ds env s →
    (∀ d r env s, I (d :: r) env s → ∃ env1, b d env = some env1 ∧ wp (body env1) (fun f s' => match f with
      | .nx e => I r e s'
      | .ct e => I r e s'
      | .bk e => Q (.nx e) s'
      | .rt x => Q (.rt x) s') s) → (∀ env s, I [] env s → Q (.nx env) s) → wp (forRun body b ds env) Q s
  | [], env, s, h, _, fin => by
    unfold forRun
    rw [wp_ret]
    exact fin _ _ h
  | d :: r, env, s, h, st, fin => by
    unfold forRun
    obtain ⟨env1, e, w⟩ := st d r env s h
    rw [e]
    dsimp only
    rw [wp_bnd]
    refine wp_mono w fun f s1 h1 => ?_
    cases f with
    | nx e2 => exact wp_for I h1 st fin
    | ct e2 => exact wp_for I h1 st fin
    | bk e2 =>
      rw [wp_ret]
      exact h1
    | rt x =>
      rw [wp_ret]
      exact h1
end Wk
set_option maxRecDepth 100000
set_option maxHeartbeats 4000000
/-! WE2: a run step by step, what comes first first -/
namespace Wk
open PySem (PyData Str)
variable {G : Sems} {env : Env} {x y : D}
/-! what is done next -/
def kBin (G : Sems) (op : BOp) (b : IE) (env : Env) : D → M D := fun x => bnd (ev G b env) (binD op x)
def kCmp (G : Sems) (op : COp) (b : IE) (env : Env) : D → M D := fun x => bnd (ev G b env) (cmpD op x)
def kCh4 (G : Sems) (op : COp) (c : IE) (env : Env) (y : D) : Bool → M D := fun k => if k = true then bnd (ev G c env) (cmpD op y) else ret (bl false)
def kCh3 (G : Sems) (op : COp) (c : IE) (env : Env) (y : D) : D → M D := fun r => bnd (tst r) (kCh4 G op c env y)
def kCh2 (G : Sems) (op op' : COp) (c : IE) (env : Env) (x : D) : D → M D := fun y => bnd (cmpD op x y) (kCh3 G op' c env y)
def kCh1 (G : Sems) (op op' : COp) (b c : IE) (env : Env) : D → M D := fun x => bnd (ev G b env) (kCh2 G op op' c env x)
def kNot2 : Bool → M D := fun k => ret (bl (!k))
def kNot : D → M D := fun x => bnd (tst x) kNot2
def kAnd2 (G : Sems) (es : IEs) (env : Env) : Bool → M D := fun k => if k = true then evAnd G es env else ret (bl false)
def kAnd (G : Sems) (es : IEs) (env : Env) : D → M D := fun x => bnd (tst x) (kAnd2 G es env)
def kOr2 (G : Sems) (es : IEs) (env : Env) : Bool → M D := fun k => if k = true then ret (bl true) else evOr G es env
def kOr (G : Sems) (es : IEs) (env : Env) : D → M D := fun x => bnd (tst x) (kOr2 G es env)
def kIte2 (G : Sems) (a b : IE) (env : Env) : Bool → M D := fun k => if k = true then ev G a env else ev G b env
def kIte (G : Sems) (a b : IE) (env : Env) : D → M D := fun x => bnd (tst x) (kIte2 G a b env)
def kTup : List D → M D := fun ds => ret (.tuple ds)
def kLst : List D → M D := fun ds => ret (.list ds)
def kIx (G : Sems) (i : IE) (env : Env) : D → M D := fun x => bnd (ev G i env) (ixD x)
def kSl2 (G : Sems) (hi : IP) (env : Env) (x : D) : Option Int → M D := fun l => bnd (evP G hi env) (slD x l)
def kSl1 (G : Sems) (lo hi : IP) (env : Env) : D → M D := fun x => bnd (evP G lo env) (kSl2 G hi env x)
def kRep (G : Sems) (n : IE) (env : Env) : List D → M D := fun ds => bnd (ev G n env) (repD ds)
def kCall (G : Sems) (f : Nat) : List D → M D := fun ds => pcall (G f ds)
def kCallS (G : Sems) (f : Nat) (es : IEs) (env : Env) : Option Slot → M D
  | some .sr => bnd (evs G es env) (G f)
  | _ => stuck
def kMax2 (G : Sems) (b : IE) (env : Env) : D → M D := fun x => bnd (ev G b env) (max2D x)
def kMin2 (G : Sems) (b : IE) (env : Env) : D → M D := fun x => bnd (ev G b env) (min2D x)
def kMx2 (G : Sems) (c : IE) (env : Env) (x : D) : D → M D := fun y => bnd (ev G c env) (max3D x y)
def kMx1 (G : Sems) (b c : IE) (env : Env) : D → M D := fun x => bnd (ev G b env) (kMx2 G c env x)
def kIs (t : Ty) : D → M D := fun x => ret (bl (tyIs x t))
def kIs2 (t u : Ty) : D → M D := fun x => ret (bl (tyIs x t || tyIs x u))
def kSome : D → M (Option D) := fun y => ret (some y)
def lcB3 (G : Sems) (e : IE) (env : Env) : Bool → M (Option D) := fun k => if k = true then bnd (ev G e env) kSome else ret none
def lcB2 (G : Sems) (ifs : IEs) (e : IE) : Option Env → M (Option D)
  | some env => bnd (evIf G ifs env) (lcB3 G e env)
  | none => stuck
def lcB (G : Sems) (t : Tg) (ifs : IEs) (e : IE) (env : Env) : D → M (Option D) := fun d => lcB2 G ifs e (bindT t d env)
def kLc (G : Sems) (t : Tg) (ifs : IEs) (e : IE) (env : Env) : List D → M D := fun ds => bnd (noer (lcRun (lcB G t ifs e env) ds)) kLst
def kCB2 (G : Sems) (f : Nat) (x : D) : D → M D := fun y => bnd (pcall (G f [x, y])) scalM
def kCB1 (G : Sems) (f : Nat) (b : IE) (env : Env) : D → M D := fun x => bnd (ev G b env) (kCB2 G f x)
def kCnt2 (G : Sems) (b : IE) (env : Env) : D → M D := fun l => bnd (ev G b env) (cntD l)
def kCnt1 (G : Sems) (b : IE) (env : Env) : D → M D := fun x => bnd (lisM x) (kCnt2 G b env)
def kIdx2 (G : Sems) (b : IE) (env : Env) : D → M D := fun l => bnd (ev G b env) (idxD l)
def kIdx1 (G : Sems) (b : IE) (env : Env) : D → M D := fun x => bnd (lisM x) (kIdx2 G b env)
def kLci (G : Sems) (t2 : Tg) (own2 : List Nat) (e : IE) (env : Env) : List D → M (List D) := fun ds => lcRun (lcB G t2 .nil e (wipeE env own2)) ds
def lcO2 (G : Sems) (it2 : II) (t2 : Tg) (own2 : List Nat) (e : IE) : Option Env → M (List D)
  | some env => bnd (evI G it2 env) (kLci G t2 own2 e env)
  | none => stuck
def lcOB (G : Sems) (t : Tg) (it2 : II) (t2 : Tg) (own2 : List Nat) (e : IE) (env : Env) : D → M (List D) := fun d => lcO2 G it2 t2 own2 e (bindT t d env)
def kLc2 (G : Sems) (t : Tg) (it2 : II) (t2 : Tg) (own2 : List Nat) (e : IE) (env : Env) : List D → M D := fun ds => bnd (noer (lcRun2 (lcOB G t it2 t2 own2 e env) ds)) fitM
def kCons2 (x : D) : List D → M (List D) := fun xs => ret (x :: xs)
def kCons (G : Sems) (es : IEs) (env : Env) : D → M (List D) := fun x => bnd (evs G es env) (kCons2 x)
def kRng2 (G : Sems) (b : IE) (env : Env) : D → M (List D) := fun x => bnd (ev G b env) (rng2 x)
def kZip (G : Sems) (b : IE) (env : Env) : D → M (List D) := fun x => bnd (ev G b env) (zipD x)
section
variable {op op' : BOp} {co co' : COp} {a b c e i : IE} {es : IEs} {d : D} {ds : List D} {k : Bool} {t : Ty} {tg : Tg} {ifs : IEs} {own : List Nat}
@[simp] theorem kBin_eq : kBin G op b env x = bnd (ev G b env) (binD op x) := rfl
@[simp] theorem kCmp_eq : kCmp G co b env x = bnd (ev G b env) (cmpD co x) := rfl
@[simp] theorem kCh4_eq : kCh4 G co c env y k = if k = true then bnd (ev G c env) (cmpD co y) else ret (bl false) := rfl
@[simp] theorem kCh3_eq : kCh3 G co c env y x = bnd (tst x) (kCh4 G co c env y) := rfl
@[simp] theorem kCh2_eq : kCh2 G co co' c env x y = bnd (cmpD co x y) (kCh3 G co' c env y) := rfl
@[simp] theorem kCh1_eq : kCh1 G co co' b c env x = bnd (ev G b env) (kCh2 G co co' c env x) := rfl
@[simp] theorem kNot2_eq : kNot2 k = ret (bl (!k)) := rfl
@[simp] theorem kNot_eq : kNot x = bnd (tst x) kNot2 := rfl
@[simp] theorem kAnd2_eq : kAnd2 G es env k = if k = true then evAnd G es env else ret (bl false) := rfl
@[simp] theorem kAnd_eq : kAnd G es env x = bnd (tst x) (kAnd2 G es env) := rfl
@[simp] theorem kOr2_eq : kOr2 G es env k = if k = true then ret (bl true) else evOr G es env := rfl
@[simp] theorem kOr_eq : kOr G es env x = bnd (tst x) (kOr2 G es env) := rfl
@[simp] theorem kIte2_eq : kIte2 G a b env k = if k = true then ev G a env else ev G b env := rfl
@[simp] theorem kIte_eq : kIte G a b env x = bnd (tst x) (kIte2 G a b env) := rfl
@[simp] theorem kTup_eq : kTup ds = ret (.tuple ds) := rfl
@[simp] theorem kLst_eq : kLst ds = ret (.list ds) := rfl
@[simp] theorem kIx_eq : kIx G i env x = bnd (ev G i env) (ixD x) := rfl
@[simp] theorem kSl2_eq {hi : IP} {l : Option Int} : kSl2 G hi env x l = bnd (evP G hi env) (slD x l) := rfl
@[simp] theorem kSl1_eq {lo hi : IP} : kSl1 G lo hi env x = bnd (evP G lo env) (kSl2 G hi env x) := rfl
@[simp] theorem kRep_eq : kRep G e env ds = bnd (ev G e env) (repD ds) := rfl
@[simp] theorem kCall_eq {f : Nat} : kCall G f ds = pcall (G f ds) := rfl
@[simp] theorem kCallS_eq {f : Nat} : kCallS G f es env (some .sr) = bnd (evs G es env) (G f) := rfl
@[simp] theorem kMax2_eq : kMax2 G b env x = bnd (ev G b env) (max2D x) := rfl
@[simp] theorem kMin2_eq : kMin2 G b env x = bnd (ev G b env) (min2D x) := rfl
@[simp] theorem kMx2_eq : kMx2 G c env x y = bnd (ev G c env) (max3D x y) := rfl
@[simp] theorem kMx1_eq : kMx1 G b c env x = bnd (ev G b env) (kMx2 G c env x) := rfl
@[simp] theorem kIs_eq : kIs t x = ret (bl (tyIs x t)) := rfl
@[simp] theorem kIs2_eq {u : Ty} : kIs2 t u x = ret (bl (tyIs x t || tyIs x u)) := rfl
@[simp] theorem kSome_eq : kSome y = ret (some y) := rfl
@[simp] theorem lcB3_eq : lcB3 G e env k = if k = true then bnd (ev G e env) kSome else ret none := rfl
@[simp] theorem lcB2_some : lcB2 G ifs e (some env) = bnd (evIf G ifs env) (lcB3 G e env) := rfl
@[simp] theorem lcB_eq : lcB G tg ifs e env d = lcB2 G ifs e (bindT tg d env) := rfl
@[simp] theorem kLc_eq : kLc G tg ifs e env ds = bnd (noer (lcRun (lcB G tg ifs e env) ds)) kLst := rfl
@[simp] theorem kCB2_eq {f : Nat} : kCB2 G f x y = bnd (pcall (G f [x, y])) scalM := rfl
@[simp] theorem kCB1_eq {f : Nat} : kCB1 G f b env x = bnd (ev G b env) (kCB2 G f x) := rfl
@[simp] theorem scalM_b : scalM (.bool k) = ret (.bool k) := rfl
@[simp] theorem scalM_i {n : Int} : scalM (.int n) = ret (.int n) := rfl
@[simp] theorem scalM_n : scalM .none = ret .none := rfl
@[simp] theorem kCnt2_eq : kCnt2 G b env x = bnd (ev G b env) (cntD x) := rfl
@[simp] theorem kCnt1_eq : kCnt1 G b env x = bnd (lisM x) (kCnt2 G b env) := rfl
@[simp] theorem kIdx2_eq : kIdx2 G b env x = bnd (ev G b env) (idxD x) := rfl
@[simp] theorem kIdx1_eq : kIdx1 G b env x = bnd (lisM x) (kIdx2 G b env) := rfl
@[simp] theorem lisM_l : lisM (.list ds) = ret (.list ds) := rfl
@[simp] theorem kLci_eq {t2 : Tg} {own2 : List Nat} : kLci G t2 own2 e env ds = lcRun (lcB G t2 .nil e (wipeE env own2)) ds := rfl
@[simp] theorem lcO2_some {it2 : II} {t2 : Tg} {own2 : List Nat} : lcO2 G it2 t2 own2 e (some env) = bnd (evI G it2 env) (kLci G t2 own2 e env) := rfl
@[simp] theorem lcOB_eq {it2 : II} {t2 : Tg} {own2 : List Nat} : lcOB G tg it2 t2 own2 e env d = lcO2 G it2 t2 own2 e (bindT tg d env) := rfl
@[simp] theorem kLc2_eq {it2 : II} {t2 : Tg} {own2 : List Nat} : kLc2 G tg it2 t2 own2 e env ds = bnd (noer (lcRun2 (lcOB G tg it2 t2 own2 e env) ds)) fitM := rfl
@[simp] theorem kCons2_eq : kCons2 x ds = ret (x :: ds) := rfl
@[simp] theorem kCons_eq : kCons G es env x = bnd (evs G es env) (kCons2 x) := rfl
@[simp] theorem kRng2_eq : kRng2 G b env x = bnd (ev G b env) (rng2 x) := rfl
@[simp] theorem kZip_eq : kZip G b env x = bnd (ev G b env) (zipD x) := rfl
/-! expressions -/
@[simp] theorem ev_var {n : Nat} : ev G (.var n) env = vS env[n]? := by simp only [ev, vald_eq]
@[simp] theorem ev_bv {n : Nat} : ev G (.bv n) env = bS env[n]? := by simp only [ev, valb_eq]
@[simp] theorem ev_int {n : Int} : ev G (.int n) env = ret (.int n) := by simp only [ev]
@[simp] theorem ev_bool : ev G (.bool k) env = ret (bl k) := by simp only [ev]
@[simp] theorem ev_non : ev G .non env = ret .none := by simp only [ev]
@[simp] theorem ev_str {s : Str} : ev G (.str s) env = ret (.str s) := by simp only [ev]
@[simp] theorem ev_glob {s : Str} {n : Int} : ev G (.glob s n) env = ret (.int n) := by simp only [ev]
@[simp] theorem ev_bin : ev G (.bin op a b) env = bnd (ev G a env) (kBin G op b env) := by simp only [ev]; rfl
@[simp] theorem ev_neg : ev G (.neg a) env = bnd (ev G a env) negD := by simp only [ev]
@[simp] theorem ev_cmp : ev G (.cmp co a b) env = bnd (ev G a env) (kCmp G co b env) := by simp only [ev]; rfl
@[simp] theorem ev_chain : ev G (.chain co co' a b c) env = bnd (ev G a env) (kCh1 G co co' b c env) := by simp only [ev]; rfl
@[simp] theorem ev_not : ev G (.not a) env = bnd (ev G a env) kNot := by simp only [ev]; rfl
@[simp] theorem ev_and : ev G (.and es) env = evAnd G es env := by simp only [ev]
@[simp] theorem ev_or : ev G (.or es) env = evOr G es env := by simp only [ev]
@[simp] theorem ev_ite : ev G (.ite c a b) env = bnd (ev G c env) (kIte G a b env) := by simp only [ev]; rfl
@[simp] theorem ev_tup : ev G (.tup es) env = bnd (evs G es env) kTup := by simp only [ev]; rfl
@[simp] theorem ev_lst : ev G (.lst es) env = bnd (evs G es env) kLst := by simp only [ev]; rfl
@[simp] theorem ev_ix : ev G (.ix a i) env = bnd (ev G a env) (kIx G i env) := by simp only [ev]; rfl
@[simp] theorem ev_sl {lo hi : IP} : ev G (.sl a lo hi) env = bnd (ev G a env) (kSl1 G lo hi env) := by simp only [ev]; rfl
@[simp] theorem ev_rep : ev G (.rep es e) env = bnd (evs G es env) (kRep G e env) := by simp only [ev]; rfl
@[simp] theorem ev_rev : ev G (.rev a) env = bnd (ev G a env) revD := by simp only [ev]
@[simp] theorem ev_call {f : Nat} : ev G (.call f es) env = bnd (evs G es env) (kCall G f) := by simp only [ev]; rfl
@[simp] theorem ev_callS {f n : Nat} : ev G (.callS f n es) env = kCallS G f es env env[n]? := by
  simp only [ev]
  unfold kCallS
  rfl
@[simp] theorem ev_b1 {q : B1} : ev G (.b1 q a) env = bnd (ev G a env) (b1D q) := by simp only [ev]
@[simp] theorem ev_rngl {it : II} : ev G (.rngl it) env = bnd (evI G it env) kLst := by simp only [ev]; rfl
@[simp] theorem ev_max2 : ev G (.max2 a b) env = bnd (ev G a env) (kMax2 G b env) := by simp only [ev]; rfl
@[simp] theorem ev_min2 : ev G (.min2 a b) env = bnd (ev G a env) (kMin2 G b env) := by simp only [ev]; rfl
@[simp] theorem ev_max3 : ev G (.max3 a b c) env = bnd (ev G a env) (kMx1 G b c env) := by simp only [ev]; rfl
@[simp] theorem ev_isi : ev G (.isi a t) env = bnd (ev G a env) (kIs t) := by simp only [ev]; rfl
@[simp] theorem ev_isi2 {u : Ty} : ev G (.isi2 a t u) env = bnd (ev G a env) (kIs2 t u) := by simp only [ev]; rfl
@[simp] theorem ev_lc {it : II} : ev G (.lc tg it ifs e own) env = bnd (evI G it env) (kLc G tg ifs e (wipeE env own)) := by
  simp only [ev]
  rfl
@[simp] theorem ev_callB {f : Nat} : ev G (.callB f a b) env = bnd (ev G a env) (kCB1 G f b env) := by simp only [ev]; rfl
@[simp] theorem ev_mcnt : ev G (.mcnt a b) env = bnd (ev G a env) (kCnt1 G b env) := by simp only [ev]; rfl
@[simp] theorem ev_midx : ev G (.midx a b) env = bnd (ev G a env) (kIdx1 G b env) := by simp only [ev]; rfl
@[simp] theorem ev_lc2 {it it2 : II} {t2 : Tg} {own2 : List Nat} : ev G (.lc2 tg it t2 it2 e own own2) env = bnd (evI G it env) (kLc2 G tg it2 t2 own2 e (wipeE env own)) := by
  have h1 : ∀ env', (fun d2 => match bindT t2 d2 (wipeE env' own2) with
      | some env2 => bnd (ev G e env2) fun y => ret (some y)
      | none => stuck) = lcB G t2 .nil e (wipeE env' own2) := fun env' => funext fun d2 => by
    unfold lcB
    cases bindT t2 d2 (wipeE env' own2) with
    | none => rfl
    | some env2 =>
      show bnd (ev G e env2) (fun y => ret (some y)) = bnd (evIf G .nil env2) (lcB3 G e env2)
      simp only [evIf]
      rfl
  have h2 : (fun d => match bindT tg d (wipeE env own) with
      | some env' => bnd (evI G it2 env') fun ds2 => lcRun (fun d2 => match bindT t2 d2 (wipeE env' own2) with
        | some env2 => bnd (ev G e env2) fun y => ret (some y)
        | none => stuck) ds2
      | none => stuck) = lcOB G tg it2 t2 own2 e (wipeE env own) := funext fun d => by
    unfold lcOB
    cases bindT tg d (wipeE env own) with
    | none => rfl
    | some env' =>
      show (bnd (evI G it2 env') fun ds2 => lcRun _ ds2) = bnd (evI G it2 env') (kLci G t2 own2 e env')
      rw [h1 env']
      rfl
  simp only [ev]
  exact congrArg (fun g => bnd (evI G it env) fun ds => bnd (noer (lcRun2 g ds)) fitM) h2
@[simp] theorem ev_src {n m : Nat} : ev G (.src n m) env = sS env[n]? m := by simp only [ev, srcD_eq]
@[simp] theorem evs_nil : evs G .nil env = ret [] := by simp only [evs]
@[simp] theorem evs_cons : evs G (.cons e es) env = bnd (ev G e env) (kCons G es env) := by simp only [evs]; rfl
@[simp] theorem evAnd_1 : evAnd G (.cons e .nil) env = ev G e env := by simp only [evAnd]
@[simp] theorem evAnd_2 : evAnd G (.cons e (.cons a es)) env = bnd (ev G e env) (kAnd G (.cons a es) env) := by
  rw [evAnd]
  rfl
@[simp] theorem evOr_1 : evOr G (.cons e .nil) env = ev G e env := by simp only [evOr]
@[simp] theorem evOr_2 : evOr G (.cons e (.cons a es)) env = bnd (ev G e env) (kOr G (.cons a es) env) := by
  rw [evOr]
  rfl
@[simp] theorem evIf_0 : evIf G .nil env = ret true := by simp only [evIf]
@[simp] theorem evIf_1 : evIf G (.cons e .nil) env = bnd (ev G e env) tst := by simp only [evIf]
@[simp] theorem evP_no : evP G .no env = ret none := by simp only [evP]
@[simp] theorem evP_at : evP G (.at e) env = bnd (ev G e env) partD := by simp only [evP]
@[simp] theorem evI_seq : evI G (.seq e) env = bnd (ev G e env) seqM := by simp only [evI]
@[simp] theorem evI_rng1 : evI G (.rng1 e) env = bnd (ev G e env) rng1 := by simp only [evI]
@[simp] theorem evI_rng2 : evI G (.rng2 a b) env = bnd (ev G a env) (kRng2 G b env) := by simp only [evI]; rfl
@[simp] theorem evI_enm : evI G (.enm e) env = bnd (ev G e env) enumD := by simp only [evI]
@[simp] theorem evI_zip : evI G (.zip a b) env = bnd (ev G a env) (kZip G b env) := by simp only [evI]; rfl
@[simp] theorem wipeE_nil : wipeE env [] = env := rfl
@[simp] theorem wipeE_cons {n : Nat} {r : List Nat} : wipeE env (n :: r) = (wipeE env r).set n .un := rfl
@[simp] theorem max3_iii {p q r : Int} : max3D (.int p) (.int q) (.int r) = ret (.int (max (max p q) r)) := rfl
end
/-! statements -/
def kNx : Env → M Fl := fun e => ret (.nx e)
def kSet (n : Nat) (env : Env) : D → M Fl := fun x => bnd (setI env n x) kNx
def kSetL (n : Nat) (env : Env) : D → M Fl := fun x => bnd (setO env n x) kNx
def oNx : Option Env → M Fl
  | some e => ret (.nx e)
  | none => stuck
def kSetT (t : Tg) (env : Env) : D → M Fl := fun x => oNx (bindT t x env)
def setB : Bool → Env → Nat → D → M Env
  | true => setO
  | false => setI
def kPar3 (j : Nat) (fb : Bool) (y : D) : Env → M Fl := fun env => bnd (setB fb env j y) kNx
def kPar2 (i j : Nat) (fa fb : Bool) (env : Env) (x : D) : D → M Fl := fun y => bnd (setB fa env i x) (kPar3 j fb y)
def kPar1 (G : Sems) (i j : Nat) (fa fb : Bool) (b : IE) (env : Env) : D → M Fl := fun x => bnd (ev G b env) (kPar2 i j fa fb env x)
def iS : Option Slot → M Int
  | some (.im (.int n)) => ret n
  | _ => stuck
def augS (env : Env) (n : Nat) : Option Slot → D → M Env
  | some (.im (.int a)), .int b => ret (env.set n (.im (.int (a + b))))
  | _, _ => stuck
def augLS (env : Env) (n : Nat) : Option Slot → D → M Env
  | some (.ow ds), .list es => if sizeOk (ds.length + es.length) = true then ret (env.set n (.ow (ds ++ es))) else stuck
  | _, _ => stuck
def stoS (env : Env) (n : Nat) : Option Slot → D → D → M Env
  | some (.ow ds), x, .int k => match L2.ixN ds.length k with
    | some j => ret (env.set n (.ow (ds.set j x)))
    | none => stuck
  | _, _, _ => stuck
def appS (env : Env) (n : Nat) : Option Slot → D → M Env
  | some (.ow ds), x => if ds.length < 16777216 then ret (env.set n (.ow (ds ++ [x]))) else stuck
  | _, _ => stuck
def remS (env : Env) (n : Nat) : Option Slot → D → M Env
  | some (.ow ds), .int m => match ints? ds with
    | some ns => if m ∈ ns then ret (env.set n (.ow ((ns.erase m).map .int))) else stuck
    | none => stuck
  | _, _ => stuck
def kAug2 (n : Nat) (env : Env) : D → M Fl := fun x => bnd (augS env n env[n]? x) kNx
def kAug (G : Sems) (n : Nat) (e : IE) (env : Env) : Int → M Fl := fun _ => bnd (ev G e env) (kAug2 n env)
def kAugL2 (n : Nat) (env : Env) : D → M Fl := fun x => bnd (augLS env n env[n]? x) kNx
def kAugL (G : Sems) (n : Nat) (e : IE) (env : Env) : List D → M Fl := fun _ => bnd (ev G e env) (kAugL2 n env)
def kSto3 (n : Nat) (env : Env) (x : D) : D → M Fl := fun y => bnd (stoS env n env[n]? x y) kNx
def kSto2 (G : Sems) (n : Nat) (k : IE) (env : Env) (x : D) : List D → M Fl := fun _ => bnd (ev G k env) (kSto3 n env x)
def kSto (G : Sems) (n : Nat) (k : IE) (env : Env) : D → M Fl := fun x => bnd (oS env[n]?) (kSto2 G n k env x)
def kApp2 (n : Nat) (env : Env) : D → M Fl := fun x => bnd (appS env n env[n]? x) kNx
def kApp (G : Sems) (n : Nat) (e : IE) (env : Env) : List D → M Fl := fun _ => bnd (ev G e env) (kApp2 n env)
def kRem2 (n : Nat) (env : Env) : D → M Fl := fun x => bnd (remS env n env[n]? x) kNx
def kRem (G : Sems) (n : Nat) (e : IE) (env : Env) : List D → M Fl := fun _ => bnd (ev G e env) (kRem2 n env)
def kSrcSet (n k : Nat) (env : Env) : D → M Fl := fun x => bnd (srcSetD env n k x) kNx
noncomputable def kIf2 (G : Sems) (a b : ISs) (env : Env) : Bool → M Fl := fun k => if k = true then execs G a env else execs G b env
noncomputable def kIf (G : Sems) (a b : ISs) (env : Env) : D → M Fl := fun x => bnd (tst x) (kIf2 G a b env)
noncomputable def kFor (G : Sems) (t : Tg) (body : ISs) (env : Env) : List D → M Fl := fun ds => forRun (execs G body) (bindT t) ds env
noncomputable def kForL (G : Sems) (t : Tg) (n : Nat) (body : ISs) (env : Env) : List D → M Fl := fun ds => bnd (forRun (execs G body) (bindT t) ds (env.set n (.ln ds))) (endL n)
def kWc (G : Sems) (c : IE) : Env → M Bool := fun env => bnd (ev G c env) tst
def kRt : D → M Fl := fun x => ret (.rt x)
def kRtL : List D → M Fl := fun ds => ret (.rt (.list ds))
def kEx (env : Env) : D → M Fl := fun _ => ret (.nx env)
noncomputable def kSt (G : Sems) (r : ISs) : Fl → M Fl := fun f => match f with
  | .nx env' => execs G r env'
  | .rt d => ret (.rt d)
  | .bk e => ret (.bk e)
  | .ct e => ret (.ct e)
section
variable {a b c e : IE} {d : D} {ds : List D} {n m : Nat} {t : Tg} {r body p q : ISs} {k fa fb : Bool}
@[simp] theorem kNx_eq : kNx env = ret (.nx env) := rfl
@[simp] theorem kSet_eq : kSet n env x = bnd (setI env n x) kNx := rfl
@[simp] theorem kSetL_eq : kSetL n env x = bnd (setO env n x) kNx := rfl
@[simp] theorem oNx_some : oNx (some env) = ret (.nx env) := rfl
@[simp] theorem kSetT_eq : kSetT t env x = oNx (bindT t x env) := rfl
@[simp] theorem setB_t : setB true = setO := rfl
@[simp] theorem setB_f : setB false = setI := rfl
@[simp] theorem kPar3_eq : kPar3 n fb y env = bnd (setB fb env n y) kNx := rfl
@[simp] theorem kPar2_eq : kPar2 n m fa fb env x y = bnd (setB fa env n x) (kPar3 m fb y) := rfl
@[simp] theorem kPar1_eq : kPar1 G n m fa fb b env x = bnd (ev G b env) (kPar2 n m fa fb env x) := rfl
@[simp] theorem iS_eq {z : Int} : iS (some (.im (.int z))) = ret z := rfl
@[simp] theorem augS_eq {z w : Int} : augS env n (some (.im (.int z))) (.int w) = ret (env.set n (.im (.int (z + w)))) := rfl
@[simp] theorem augLS_eq {es : List D} : augLS env n (some (.ow ds)) (.list es) = if sizeOk (ds.length + es.length) = true then ret (env.set n (.ow (ds ++ es))) else stuck := by rfl
@[simp] theorem stoS_eq {z : Int} : stoS env n (some (.ow ds)) x (.int z) = match L2.ixN ds.length z with
    | some j => ret (env.set n (.ow (ds.set j x)))
    | none => stuck := by rfl
@[simp] theorem appS_eq : appS env n (some (.ow ds)) x = if ds.length < 16777216 then ret (env.set n (.ow (ds ++ [x]))) else stuck := by rfl
@[simp] theorem remS_eq {z : Int} : remS env n (some (.ow ds)) (.int z) = match ints? ds with
    | some ns => if z ∈ ns then ret (env.set n (.ow ((ns.erase z).map .int))) else stuck
    | none => stuck := by rfl
@[simp] theorem kAug2_eq : kAug2 n env x = bnd (augS env n env[n]? x) kNx := rfl
@[simp] theorem kAug_eq {z : Int} : kAug G n e env z = bnd (ev G e env) (kAug2 n env) := rfl
@[simp] theorem kAugL2_eq : kAugL2 n env x = bnd (augLS env n env[n]? x) kNx := rfl
@[simp] theorem kAugL_eq : kAugL G n e env ds = bnd (ev G e env) (kAugL2 n env) := rfl
@[simp] theorem kSto3_eq : kSto3 n env x y = bnd (stoS env n env[n]? x y) kNx := rfl
@[simp] theorem kSto2_eq : kSto2 G n e env x ds = bnd (ev G e env) (kSto3 n env x) := rfl
@[simp] theorem kSto_eq : kSto G n e env x = bnd (oS env[n]?) (kSto2 G n e env x) := rfl
@[simp] theorem kApp2_eq : kApp2 n env x = bnd (appS env n env[n]? x) kNx := rfl
@[simp] theorem kApp_eq : kApp G n e env ds = bnd (ev G e env) (kApp2 n env) := rfl
@[simp] theorem kRem2_eq : kRem2 n env x = bnd (remS env n env[n]? x) kNx := rfl
@[simp] theorem kRem_eq : kRem G n e env ds = bnd (ev G e env) (kRem2 n env) := rfl
@[simp] theorem kSrcSet_eq : kSrcSet n m env x = bnd (srcSetD env n m x) kNx := rfl
@[simp] theorem kIf2_eq : kIf2 G p q env k = if k = true then execs G p env else execs G q env := rfl
@[simp] theorem kIf_eq : kIf G p q env x = bnd (tst x) (kIf2 G p q env) := rfl
@[simp] theorem kFor_eq : kFor G t body env ds = forRun (execs G body) (bindT t) ds env := rfl
@[simp] theorem kForL_eq : kForL G t n body env ds = bnd (forRun (execs G body) (bindT t) ds (env.set n (.ln ds))) (endL n) := rfl
@[simp] theorem kWc_eq : kWc G c env = bnd (ev G c env) tst := rfl
@[simp] theorem kRt_eq : kRt x = ret (.rt x) := rfl
@[simp] theorem kRtL_eq : kRtL ds = ret (.rt (.list ds)) := rfl
@[simp] theorem kEx_eq : kEx env x = ret (.nx env) := rfl
@[simp] theorem kSt_nx : kSt G r (.nx env) = execs G r env := rfl
@[simp] theorem kSt_rt : kSt G r (.rt d) = ret (.rt d) := rfl
@[simp] theorem kSt_bk : kSt G r (.bk env) = ret (.bk env) := rfl
@[simp] theorem kSt_ct : kSt G r (.ct env) = ret (.ct env) := rfl
@[simp] theorem exec_set : exec G (.set n e) env = bnd (ev G e env) (kSet n env) := by simp only [exec]; rfl
@[simp] theorem exec_setL : exec G (.setL n e) env = bnd (ev G e env) (kSetL n env) := by simp only [exec]; rfl
@[simp] theorem exec_setT : exec G (.setT t e) env = bnd (ev G e env) (kSetT t env) := by
  simp only [exec]
  congr 1
@[simp] theorem exec_par : exec G (.par n m fa fb a b) env = bnd (ev G a env) (kPar1 G n m fa fb b env) := by
  simp only [exec]
  cases fa <;> cases fb <;> rfl
theorem inM_eq : inM env n = iS env[n]? := by
  unfold inM iS
  rfl
theorem augD_eq : augD env n x = augS env n env[n]? x := by
  unfold augD augS
  rfl
theorem augLD_eq : augLD env n x = augLS env n env[n]? x := by
  unfold augLD augLS
  rfl
theorem storeD_eq : storeD env n x y = stoS env n env[n]? x y := by
  unfold storeD stoS
  rcases env[n]? with _ | (_ | _ | _ | _ | _) <;> cases y <;> rfl
theorem appD_eq : appD env n x = appS env n env[n]? x := by
  unfold appD appS
  rcases env[n]? with _ | (_ | _ | _ | _ | _) <;> rfl
theorem remD_eq : remD env n x = remS env n env[n]? x := by
  unfold remD remS
  rfl
@[simp] theorem exec_aug : exec G (.aug n e) env = bnd (iS env[n]?) (kAug G n e env) := by
  simp only [exec, inM_eq, augD_eq]
  rfl
@[simp] theorem exec_augL : exec G (.augL n e) env = bnd (oS env[n]?) (kAugL G n e env) := by
  simp only [exec, owM_eq, augLD_eq]
  rfl
@[simp] theorem exec_store : exec G (.store n c e) env = bnd (ev G e env) (kSto G n c env) := by
  simp only [exec, owM_eq, storeD_eq]
  rfl
@[simp] theorem exec_app : exec G (.app n e) env = bnd (oS env[n]?) (kApp G n e env) := by
  simp only [exec, owM_eq, appD_eq]
  rfl
@[simp] theorem exec_rem : exec G (.rem n e) env = bnd (oS env[n]?) (kRem G n e env) := by
  simp only [exec, owM_eq, remD_eq]
  rfl
@[simp] theorem exec_srcSet : exec G (.srcSet n m e) env = bnd (ev G e env) (kSrcSet n m env) := by
  simp only [exec]
  rfl
@[simp] theorem exec_ifs : exec G (.ifs c p q) env = bnd (ev G c env) (kIf G p q env) := by
  simp only [exec]
  rfl
@[simp] theorem exec_forr {it : II} : exec G (.forr t it body) env = bnd (evI G it env) (kFor G t body env) := by
  simp only [exec]
  rfl
@[simp] theorem exec_forL : exec G (.forL t n body) env = bnd (oS env[n]?) (kForL G t n body env) := by
  simp only [exec, owM_eq]
  rfl
@[simp] theorem exec_whl : exec G (.whl c body) env = whl (kWc G c) (execs G body) env := by
  simp only [exec]
  rfl
@[simp] theorem exec_ret : exec G (.ret e) env = bnd (ev G e env) kRt := by
  simp only [exec]
  rfl
@[simp] theorem exec_retL : exec G (.retL e) env = bnd (ev G e env) kRt := by
  simp only [exec]
  rfl
@[simp] theorem exec_retO : exec G (.retO n) env = bnd (oS env[n]?) kRtL := by
  simp only [exec, owM_eq]
  rfl
@[simp] theorem exec_rai {s : Str} : exec G (.rai s) env = rai s := by simp only [exec]
@[simp] theorem exec_ex : exec G (.ex e) env = bnd (ev G e env) (kEx env) := by
  simp only [exec]
  rfl
@[simp] theorem execs_nil : execs G .nil env = ret (.nx env) := by simp only [execs]
@[simp] theorem execs_cons {st : IS} : execs G (.cons st r) env = bnd (exec G st env) (kSt G r) := by
  simp only [execs]
  rfl
@[simp] theorem frzE_nil : frzE env [] = env := rfl
def frzO : Option Slot → Slot
  | some z => frzS z
  | none => .un
@[simp] theorem frzO_ow : frzO (some (.ow ds)) = .im (.list ds) := rfl
@[simp] theorem frzO_im : frzO (some (.im d)) = .im d := rfl
@[simp] theorem frzO_un : frzO (some .un) = .un := rfl
@[simp] theorem frzE_cons {is : List Nat} : frzE env (n :: is) = (frzE env is).set n (frzO (frzE env is)[n]?) := rfl
@[simp] theorem execs_frz {is : List Nat} : execs G (.frz is r) env = execs G r (frzE env is) := by simp only [execs]
@[simp] theorem execs_wipe {is : List Nat} : execs G (.wipe is r) env = execs G r (wipeE env is) := by simp only [execs]
@[simp] theorem execs_src : execs G (.src n r) env = srcRun n env (execs G r) := by simp only [execs]
/-! defs -/
def ini (N : List Str) (np : Nat) (src : Bool) (ds : List D) : Env := (if src = true then [Slot.sr] else []) ++ ds.map .im ++ List.replicate (N.length - np) .un
@[simp] theorem runFn_eq {N : List Str} {src fr : Bool} : runFn G ⟨N, n, src, fr, body⟩ ds = if (if src = true then ds.length + 1 else ds.length) = n then bnd (execs G body (ini N n src ds)) (endF fr) else stuck := by rfl
end
/-- a value without an end of its own -/
theorem pcall_of {α : Type} {m : M α} {v : α} (h : wp m (fun x _ => x = v) sv0) : pcall m = ret v := by
  obtain ⟨x, s, e, rfl⟩ := h
  funext s'
  unfold pcall ret
  rw [e]
theorem of_pcall {α : Type} {m : M α} {v : α} (h : pcall m = ret v) : wp m (fun x _ => x = v) sv0 := by
  have e := congrFun h sv0
  unfold pcall ret at e
  cases h2 : m sv0 with
  | ok x s =>
    rw [h2] at e
    cases e
    exact ⟨_, s, h2, rfl⟩
  | er c s =>
    rw [h2] at e
    cases e
  | no =>
    rw [h2] at e
    cases e
@[simp] theorem pcall_pcall {α : Type} {m : M α} : pcall (pcall m) = pcall m := by
  funext s
  unfold pcall
  cases m sv0 <;> rfl
/-! ### loops -/
open Classical in
theorem wp_whl {c : Env → M Bool} {body : Env → M Fl} (I : Nat → Env → SV → Prop) {Q : Fl → SV → Prop} : ∀ (n : Nat) {env : Env} {s : SV}, I n env s →
    (∀ n env s, I n env s → wp (c env) (fun k s' => if k = true then wp (body env) (fun f s'' => match f with
      | .nx e => ∃ m, m < n ∧ I m e s''
      | .ct e => ∃ m, m < n ∧ I m e s''
      | .bk e => Q (.nx e) s''
      | .rt x => Q (.rt x) s'') s' else Q (.nx env) s') s) → wp (whl c body env) Q s := by
  intro n env s hI st
  have gen : ∀ (n : Nat) (env : Env) (s : SV), I n env s → ∃ N, wp (whRun c body N env) Q s := by
    intro n
    induction n using Nat.strongRecOn with
    | ind n ih =>
      intro env s h
      have w := st n env s h
      obtain ⟨k, s1, e1, q1⟩ := w
      cases k with
      | false =>
        refine ⟨1, ?_⟩
        unfold whRun
        rw [wp_bnd]
        exact ⟨false, s1, e1, by simpa using q1⟩
      | true =>
        rw [if_pos rfl] at q1
        obtain ⟨f, s2, e2, q2⟩ := q1
        have fin : ∀ N, (∀ (m : Nat) (e : Env), (f = .nx e ∨ f = .ct e) → wp (whRun c body N e) Q s2) → wp (whRun c body (N + 1) env) Q s := by
          intro N hN
          unfold whRun
          rw [wp_bnd]
          refine ⟨true, s1, e1, ?_⟩
          dsimp only
          rw [if_pos rfl, wp_bnd]
          refine ⟨f, s2, e2, ?_⟩
          cases f with
          | nx e => exact hN 0 e (.inl rfl)
          | ct e => exact hN 0 e (.inr rfl)
          | bk e =>
            rw [wp_ret]
            exact q2
          | rt d =>
            rw [wp_ret]
            exact q2
        cases f with
        | nx e =>
          obtain ⟨m, hm, hi⟩ := q2
          obtain ⟨N, hN⟩ := ih m hm e s2 hi
          exact ⟨N + 1, fin N fun _ e' h => by
            rcases h with h | h
            · cases h
              exact hN
            · cases h⟩
        | ct e =>
          obtain ⟨m, hm, hi⟩ := q2
          obtain ⟨N, hN⟩ := ih m hm e s2 hi
          exact ⟨N + 1, fin N fun _ e' h => by
            rcases h with h | h
            · cases h
            · cases h
              exact hN⟩
        | bk e => exact ⟨1, fin 0 fun _ e' h => by rcases h with h | h <;> cases h⟩
        | rt d => exact ⟨1, fin 0 fun _ e' h => by rcases h with h | h <;> cases h⟩
  obtain ⟨N, x, s', e, q⟩ := gen n env s hI
  have hex : ∃ n, whRun c body n env s ≠ .no := ⟨N, by rw [e]; exact fun z => by cases z⟩
  unfold whl
  refine ⟨x, s', ?_, q⟩
  show (if h : ∃ n, whRun c body n env s ≠ .no then whRun c body (Classical.choose h) env s else .no) = _
  rw [dif_pos hex]
  have h2 := Classical.choose_spec hex
  have mono : ∀ (n m : Nat), n ≤ m → ∀ env s, whRun c body n env s ≠ .no → whRun c body m env s = whRun c body n env s := by
    intro n
    induction n with
    | zero =>
      intro m _ env s h
      exact absurd rfl h
    | succ n ih =>
      intro m hm env s h
      obtain ⟨m, rfl⟩ : ∃ k, m = k + 1 := ⟨m - 1, by omega⟩
      unfold whRun at h ⊢
      unfold bnd at h ⊢
      dsimp only at h ⊢
      cases hc : c env s with
      | no => rfl
      | er _ _ => rfl
      | ok k s1 =>
        rw [hc] at h
        dsimp only at h ⊢
        cases k with
        | false => rfl
        | true =>
          rw [if_pos rfl] at h ⊢
          rw [if_pos rfl]
          cases hb : body env s1 with
          | no => rfl
          | er _ _ => rfl
          | ok f s2 =>
            rw [hb] at h
            dsimp only at h ⊢
            cases f with
            | nx e => exact ih m (by omega) e s2 h
            | ct e => exact ih m (by omega) e s2 h
            | bk e => rfl
            | rt d => rfl
  have h1 : whRun c body N env s ≠ .no := by
    rw [e]
    exact fun z => by cases z
  rw [← mono _ _ (Nat.le_max_right N _) env s h2, mono _ _ (Nat.le_max_left N _) env s h1, e]
/-- over a range -/
theorem wp_forR {body : Env → M Fl} {b : D → Env → Option Env} (I : Int → Env → SV → Prop) {Q : Fl → SV → Prop} {lo hi : Int} {env : Env} {s : SV} (hle : lo ≤ hi) (h0 : I lo env s)
    (st : ∀ i env s, lo ≤ i → i < hi → I i env s → ∃ env1, b (.int i) env = some env1 ∧ wp (body env1) (fun f s' => match f with
      | .nx e => I (i + 1) e s'
      | .ct e => I (i + 1) e s'
      | .bk e => Q (.nx e) s'
      | .rt x => Q (.rt x) s') s) (fin : ∀ env s, I hi env s → Q (.nx env) s) : wp (forRun body b (rngL lo hi) env) Q s := by
  refine wp_for (fun ds env s => ∃ i, lo ≤ i ∧ i ≤ hi ∧ ds = rngL i hi ∧ I i env s) ⟨lo, Int.le_refl _, hle, rfl, h0⟩ ?_ ?_
  · rintro d r env s ⟨i, h1, h2, e, hI⟩
    have hlt : i < hi := by
      refine Int.not_le.mp fun z => ?_
      unfold rngL at e
      rw [show (hi - i).toNat = 0 by omega] at e
      cases e
    have e2 : rngL i hi = .int i :: rngL (i + 1) hi := by
      unfold rngL
      rw [show (hi - i).toNat = (hi - (i + 1)).toNat + 1 by omega, List.range_succ_eq_map, List.map_cons, List.map_map]
      congr 1
      · simp
      · refine List.map_congr_left fun x _ => ?_
        simp only [Function.comp]
        congr 1
        omega
    rw [e2] at e
    cases e
    obtain ⟨env1, e3, w⟩ := st i env s h1 hlt hI
    refine ⟨env1, e3, wp_mono w fun f s' => ?_⟩
    cases f with
    | nx e => exact fun h => ⟨i + 1, by omega, by omega, rfl, h⟩
    | ct e => exact fun h => ⟨i + 1, by omega, by omega, rfl, h⟩
    | bk e => exact fun h => h
    | rt x => exact fun h => h
  · rintro env s ⟨i, h1, h2, e, hI⟩
    have : i = hi := by
      unfold rngL at e
      have := congrArg List.length e
      simp at this
      omega
    subst this
    exact fin env s hI
end Wk
/-! LM1: rows, rules -/
namespace Wk
/-- in ascending order -/
abbrev srt (r : List Int) : List Int := r.mergeSort fun a b => decide (a ≤ b)
abbrev Asc (r : List Int) : Prop := r.Pairwise (· ≤ ·)
theorem srt_asc (r : List Int) : Asc (srt r) := by
  have h := List.pairwise_mergeSort (le := fun a b : Int => decide (a ≤ b)) (fun a b c h1 h2 => by simp at *; omega) (fun a b => by simp; omega) r
  exact h.imp fun {a b} h => by simpa using h
theorem srt_perm (r : List Int) : (srt r).Perm r := List.mergeSort_perm r _
theorem Asc.eq_of_perm {a b : List Int} (ha : Asc a) (hb : Asc b) (h : a.Perm b) : a = b := h.eq_of_pairwise (fun x y _ _ h1 h2 => Int.le_antisymm h1 h2) ha hb
theorem srt_of_asc {r : List Int} (h : Asc r) : srt r = r := (srt_asc r).eq_of_perm h (srt_perm r)
theorem srt_congr {a b : List Int} (h : a.Perm b) : srt a = srt b := (srt_asc a).eq_of_perm (srt_asc b) ((srt_perm a).trans (h.trans (srt_perm b).symm))
theorem srt_len (r : List Int) : (srt r).length = r.length := (srt_perm r).length_eq
theorem srt_mem {r : List Int} {x : Int} : x ∈ srt r ↔ x ∈ r := (srt_perm r).mem_iff
theorem srt_srt (r : List Int) : srt (srt r) = srt r := srt_of_asc (srt_asc r)
theorem perm_sum {a b : List Int} (h : a.Perm b) : a.sum = b.sum := by
  induction h with
  | nil => rfl
  | cons x _ ih => rw [List.sum_cons, List.sum_cons, ih]
  | swap x y l =>
    simp only [List.sum_cons]
    omega
  | trans _ _ h1 h2 => exact h1.trans h2
theorem srt_sum (r : List Int) : (srt r).sum = r.sum := perm_sum (srt_perm r)
inductive Rl where
  | fails (c : Nat) (k : Int)
  | best (c : Nat) (k : Int)
  deriving DecidableEq
def Rl.ok (n : Nat) (t : Int) : Rl → Prop
  | .fails c k => c < n ∧ 0 ≤ k ∧ k ≤ t
  | .best c k => 1 ≤ c ∧ c ≤ n ∧ 0 ≤ k ∧ k ≤ 72
/-- the best marks' sum -/
def bestSum (c : Nat) (r : List Int) : Int := ((srt r).drop (r.length - c)).sum
def holdsR : Rl → List Int → Bool
  | .fails c k, r => decide ((r.filter fun m => decide (m < k)).length ≤ c)
  | .best c k, r => decide (k ≤ bestSum c r)
def keepsR (rs : List Rl) (r : List Int) : Bool := rs.all fun x => holdsR x r
theorem bestSum_perm {c : Nat} {a b : List Int} (h : a.Perm b) : bestSum c a = bestSum c b := by
  unfold bestSum
  rw [srt_congr h, h.length_eq]
theorem holdsR_perm {x : Rl} {a b : List Int} (h : a.Perm b) : holdsR x a = holdsR x b := by
  cases x with
  | fails c k =>
    show decide ((List.filter _ a).length ≤ c) = decide ((List.filter _ b).length ≤ c)
    rw [(h.filter _).length_eq]
  | best c k =>
    show decide (k ≤ bestSum c a) = decide (k ≤ bestSum c b)
    rw [bestSum_perm h]
theorem keepsR_perm {rs : List Rl} {a b : List Int} (h : a.Perm b) : keepsR rs a = keepsR rs b := by
  unfold keepsR
  congr 1
  funext x
  exact holdsR_perm h
theorem keepsR_srt {rs : List Rl} {a : List Int} : keepsR rs (srt a) = keepsR rs a := keepsR_perm (srt_perm a)
/-! ### all rows -/
def upTo (a t : Int) : List Int := (List.range (t + 1 - a).toNat).map fun i => a + (i : Nat)
theorem upTo_mem {a t x : Int} : x ∈ upTo a t ↔ a ≤ x ∧ x ≤ t := by
  unfold upTo
  simp only [List.mem_map, List.mem_range]
  constructor
  · rintro ⟨i, h, rfl⟩
    omega
  · rintro ⟨h1, h2⟩
    exact ⟨(x - a).toNat, by omega, by omega⟩
def lastOr0 (r : List Int) : Int := r.getLast?.getD 0
def rowsL : Nat → Int → List (List Int)
  | 0, _ => [[]]
  | n + 1, t => (rowsL n t).flatMap fun r => (upTo (lastOr0 r) t).map fun m => r ++ [m]
/-- a row of n ranked marks -/
structure IsRow (n : Nat) (t : Int) (r : List Int) : Prop where
  len : r.length = n
  asc : Asc r
  lo : ∀ m ∈ r, 0 ≤ m
  hi : ∀ m ∈ r, m ≤ t
theorem lastOr0_snoc (r : List Int) (m : Int) : lastOr0 (r ++ [m]) = m := by
  unfold lastOr0
  simp
theorem asc_snoc {r : List Int} {m : Int} : Asc (r ++ [m]) ↔ Asc r ∧ ∀ x ∈ r, x ≤ m := by
  unfold Asc
  rw [List.pairwise_append]
  simp
theorem asc_le_last {r : List Int} (h : Asc r) (h0 : ∀ m ∈ r, 0 ≤ m) : ∀ x ∈ r, x ≤ lastOr0 r := by
  intro x hx
  rcases List.eq_nil_or_concat r with rfl | ⟨l, y, rfl⟩
  · cases hx
  · rw [List.concat_eq_append] at *
    rw [lastOr0_snoc]
    rw [asc_snoc] at h
    rcases List.mem_append.mp hx with hx | hx
    · exact h.2 x hx
    · simp at hx
      omega
theorem rowsL_mem {n : Nat} {t : Int} : ∀ {r : List Int}, r ∈ rowsL n t ↔ IsRow n t r := by
  induction n with
  | zero =>
    intro r
    simp only [rowsL, List.mem_singleton]
    constructor
    · rintro rfl
      exact ⟨rfl, List.Pairwise.nil, fun _ h => (nomatch h), fun _ h => (nomatch h)⟩
    · intro h
      exact List.length_eq_zero_iff.mp h.len
  | succ n ih =>
    intro r
    simp only [rowsL, List.mem_flatMap, List.mem_map, upTo_mem]
    constructor
    · rintro ⟨l, hq, m, ⟨h1, h2⟩, rfl⟩
      have q := ih.mp hq
      have q1 := asc_le_last q.asc q.lo
      have q0 : 0 ≤ lastOr0 l := by
        rcases List.eq_nil_or_concat l with rfl | ⟨l, y, rfl⟩
        · simp [lastOr0]
        · rw [List.concat_eq_append] at *
          rw [lastOr0_snoc]
          exact q.lo y (by simp)
      refine ⟨by rw [List.length_append, q.len]; rfl, asc_snoc.mpr ⟨q.asc, fun x hx => ?_⟩, fun x hx => ?_, fun x hx => ?_⟩
      · have := q1 x hx
        omega
      · rcases List.mem_append.mp hx with hx | hx
        · exact q.lo x hx
        · simp at hx
          omega
      · rcases List.mem_append.mp hx with hx | hx
        · exact q.hi x hx
        · simp at hx
          omega
    · intro h
      rcases List.eq_nil_or_concat r with rfl | ⟨l, y, rfl⟩
      · have := h.len
        cases this
      · rw [List.concat_eq_append] at *
        have ha := asc_snoc.mp h.asc
        refine ⟨l, ih.mpr ⟨?_, ha.1, fun m hm => h.lo m (by simp [hm]), fun m hm => h.hi m (by simp [hm])⟩, y, ⟨?_, h.hi y (by simp)⟩, rfl⟩
        · have := h.len
          rw [List.length_append] at this
          exact Nat.succ.inj this
        · rcases List.eq_nil_or_concat l with rfl | ⟨l, z, rfl⟩
          · simp [lastOr0]
            exact h.lo y (by simp)
          · rw [List.concat_eq_append] at *
            rw [lastOr0_snoc]
            exact ha.2 z (by simp)
theorem IsRow.srt {n : Nat} {t : Int} {r : List Int} (hl : r.length = n) (h0 : ∀ m ∈ r, 0 ≤ m ∧ m ≤ t) : IsRow n t (Wk.srt r) :=
  ⟨by rw [srt_len, hl], srt_asc r, fun m hm => (h0 m (srt_mem.mp hm)).1, fun m hm => (h0 m (srt_mem.mp hm)).2⟩
/-! ### the best mark out -/
theorem srt_max_erase {r : List Int} {m : Int} (hm : m ∈ r) (hx : ∀ x ∈ r, x ≤ m) : srt r = srt (r.erase m) ++ [m] := by
  refine (srt_asc r).eq_of_perm (asc_snoc.mpr ⟨srt_asc _, fun x h => hx x (List.mem_of_mem_erase (srt_mem.mp h))⟩) ?_
  refine (srt_perm r).trans ((List.perm_cons_erase hm).trans ?_)
  exact ((List.perm_append_comm (l₁ := [m]) (l₂ := srt (r.erase m))).symm.trans (List.Perm.cons m (srt_perm _))).symm
theorem bestSum_erase {r : List Int} {m : Int} {c : Nat} (hm : m ∈ r) (hx : ∀ x ∈ r, x ≤ m) (hc : c + 1 ≤ r.length) : bestSum (c + 1) r = m + bestSum c (r.erase m) := by
  unfold bestSum
  have hl : (r.erase m).length = r.length - 1 := List.length_erase_of_mem hm
  rw [srt_max_erase hm hx, hl, List.drop_append_of_le_length (by rw [srt_len, hl]; omega), List.sum_append]
  simp
  rw [show r.length - (c + 1) = r.length - 1 - c by omega]
  omega
theorem bestSum_zero (r : List Int) : bestSum 0 r = 0 := by
  unfold bestSum
  rw [List.drop_eq_nil_of_le (by rw [srt_len]; omega)]
  rfl
end Wk
/-! LM2: the weakest row -/
namespace Wk
def at0 (r : List Int) (i : Nat) : Int := r.getD i 0
theorem at0_mem {r : List Int} {i : Nat} (h : i < r.length) : at0 r i ∈ r := by
  unfold at0
  rw [List.getD_eq_getElem?_getD, List.getElem?_eq_getElem h]
  exact List.getElem_mem h
theorem at0_get {r : List Int} {i : Nat} (h : i < r.length) : at0 r i = r[i] := by
  unfold at0
  rw [List.getD_eq_getElem?_getD, List.getElem?_eq_getElem h]
  rfl
theorem asc_at {r : List Int} (h : Asc r) {i j : Nat} (hij : i ≤ j) (hj : j < r.length) : at0 r i ≤ at0 r j := by
  rw [at0_get (by omega), at0_get hj]
  rcases Nat.eq_or_lt_of_le hij with rfl | hij
  · exact Int.le_refl _
  · exact (List.pairwise_iff_getElem.mp h) i j (by omega) hj hij
theorem ext_at {r q : List Int} (hl : r.length = q.length) (h : ∀ i, i < r.length → at0 r i = at0 q i) : r = q := by
  refine List.ext_getElem hl fun i h1 h2 => ?_
  have := h i h1
  rwa [at0_get h1, at0_get h2] at this
/-- best marks of a row -/
theorem bestSum_row {r : List Int} (h : Asc r) (c : Nat) : bestSum c r = (r.drop (r.length - c)).sum := by
  unfold bestSum
  rw [srt_of_asc h]
theorem sum_drop {r : List Int} {i : Nat} (h : i < r.length) : (r.drop i).sum = at0 r i + (r.drop (i + 1)).sum := by
  rw [List.drop_eq_getElem_cons h, List.sum_cons, at0_get h]
theorem bestSum_succ {n : Nat} {r : List Int} (ha : Asc r) (hl : r.length = n) {c : Nat} (hc : c < n) : bestSum (c + 1) r = bestSum c r + at0 r (n - (c + 1)) := by
  rw [bestSum_row ha, bestSum_row ha, hl, sum_drop (by omega), show n - (c + 1) + 1 = n - c by omega]
  omega
/-! ### when a rule holds -/
theorem fails_iff {n : Nat} {r : List Int} (ha : Asc r) (hl : r.length = n) {c : Nat} (hc : c < n) {k : Int} : holdsR (.fails c k) r = true ↔ k ≤ at0 r c := by
  show decide ((r.filter fun m => decide (m < k)).length ≤ c) = true ↔ _
  rw [decide_eq_true_eq]
  constructor
  · intro h
    refine Int.not_lt.mp fun hk => ?_
    have h1 : ((r.take (c + 1)).filter fun m => decide (m < k)) = r.take (c + 1) := by
      refine List.filter_eq_self.mpr fun x hx => ?_
      obtain ⟨i, hi, rfl⟩ := List.mem_take_iff_getElem.mp hx
      have := asc_at ha (i := i) (j := c) (by omega) (by omega)
      rw [at0_get (by omega), at0_get (by omega)] at this
      rw [at0_get (by omega)] at hk
      simp
      omega
    have h2 : (r.take (c + 1)).length = c + 1 := by rw [List.length_take]; omega
    have h3 : r.filter (fun m => decide (m < k)) = (r.take (c + 1)).filter (fun m => decide (m < k)) ++ (r.drop (c + 1)).filter (fun m => decide (m < k)) := by
      rw [← List.filter_append, List.take_append_drop]
    rw [h3, List.length_append, h1, h2] at h
    omega
  · intro h
    have h1 : ((r.drop c).filter fun m => decide (m < k)) = [] := by
      refine List.filter_eq_nil_iff.mpr fun x hx => ?_
      obtain ⟨i, hi, rfl⟩ := List.mem_drop_iff_getElem.mp hx
      have := asc_at ha (i := c) (j := c + i) (by omega) (by omega)
      rw [at0_get (i := c + i) (by omega)] at this
      simp
      omega
    have h3 : r.filter (fun m => decide (m < k)) = (r.take c).filter (fun m => decide (m < k)) ++ (r.drop c).filter (fun m => decide (m < k)) := by
      rw [← List.filter_append, List.take_append_drop]
    rw [h3, h1, List.append_nil]
    exact Nat.le_trans (List.length_filter_le _ _) (by rw [List.length_take]; omega)
/-! ### the bounds of rules -/
def sumB : List Rl → Nat → Int
  | [], _ => 0
  | .best c' k :: rs, c => if c' = c then max (sumB rs c) k else sumB rs c
  | .fails _ _ :: rs, c => sumB rs c
def markB : List Rl → Nat → Int
  | [], _ => 0
  | .best _ _ :: rs, i => markB rs i
  | .fails c' k :: rs, i => if c' ≤ i then max (markB rs i) k else markB rs i
theorem sumB_nn {rs : List Rl} {c : Nat} : 0 ≤ sumB rs c := by
  induction rs with
  | nil => exact Int.le_refl _
  | cons x rs ih =>
    cases x with
    | fails _ _ => exact ih
    | best c' k =>
      unfold sumB
      split
      · omega
      · exact ih
theorem markB_nn {rs : List Rl} {c : Nat} : 0 ≤ markB rs c := by
  induction rs with
  | nil => exact Int.le_refl _
  | cons x rs ih =>
    cases x with
    | best _ _ => exact ih
    | fails c' k =>
      unfold markB
      split
      · omega
      · exact ih
theorem markB_mono {rs : List Rl} {i j : Nat} (h : i ≤ j) : markB rs i ≤ markB rs j := by
  induction rs with
  | nil => exact Int.le_refl _
  | cons x rs ih =>
    cases x with
    | best _ _ => exact ih
    | fails c' k =>
      unfold markB
      split <;> split <;> omega
def okAll (n : Nat) (t : Int) (rs : List Rl) : Prop := ∀ x ∈ rs, x.ok n t
theorem keeps_iff {n : Nat} {t : Int} {r : List Int} (h : IsRow n t r) : ∀ {rs : List Rl}, okAll n t rs → (keepsR rs r = true ↔ (∀ c, 1 ≤ c → c ≤ n → sumB rs c ≤ bestSum c r) ∧ ∀ i, i < n → markB rs i ≤ at0 r i)
  | [], _ => by
    have hs : ∀ c, c ≤ n → 0 ≤ bestSum c r := by
      intro c
      induction c with
      | zero =>
        intro _
        rw [bestSum_zero]
        exact Int.le_refl _
      | succ c ih =>
        intro hc
        rw [bestSum_succ h.asc h.len (by omega)]
        have := ih (by omega)
        have := h.lo _ (at0_mem (r := r) (i := n - (c + 1)) (by rw [h.len]; omega))
        omega
    refine ⟨fun _ => ⟨fun c _ hc => hs c hc, fun i hi => h.lo _ (at0_mem (by rw [h.len]; exact hi))⟩, fun _ => rfl⟩
  | .fails c k :: rs, ho => by
    have ih := keeps_iff h (rs := rs) fun x hx => ho x (List.mem_cons_of_mem _ hx)
    have hk : c < n ∧ 0 ≤ k ∧ k ≤ t := ho (.fails c k) List.mem_cons_self
    have e : keepsR (.fails c k :: rs) r = (holdsR (.fails c k) r && keepsR rs r) := rfl
    rw [e, Bool.and_eq_true, ih, fails_iff h.asc h.len hk.1]
    constructor
    · rintro ⟨h1, h2, h3⟩
      refine ⟨h2, fun i hi => ?_⟩
      unfold markB
      split
      · rename_i hci
        have := asc_at h.asc hci (by rw [h.len]; exact hi)
        have := h3 i hi
        omega
      · exact h3 i hi
    · rintro ⟨h2, h3⟩
      refine ⟨?_, h2, fun i hi => ?_⟩
      · have := h3 c hk.1
        unfold markB at this
        rw [if_pos (Nat.le_refl _)] at this
        omega
      · have := h3 i hi
        unfold markB at this
        split at this <;> omega
  | .best c k :: rs, ho => by
    have ih := keeps_iff h (rs := rs) fun x hx => ho x (List.mem_cons_of_mem _ hx)
    have hk : 1 ≤ c ∧ c ≤ n ∧ 0 ≤ k ∧ k ≤ 72 := ho (.best c k) List.mem_cons_self
    have e : keepsR (.best c k :: rs) r = (decide (k ≤ bestSum c r) && keepsR rs r) := rfl
    rw [e, Bool.and_eq_true, ih, decide_eq_true_eq]
    constructor
    · rintro ⟨h1, h2, h3⟩
      refine ⟨fun c' h4 h5 => ?_, h3⟩
      unfold sumB
      split
      · rename_i hcc
        subst hcc
        have := h2 c h4 h5
        omega
      · exact h2 c' h4 h5
    · rintro ⟨h2, h3⟩
      refine ⟨?_, fun c' h4 h5 => ?_, h3⟩
      · have := h2 c hk.1 hk.2.1
        unfold sumB at this
        rw [if_pos rfl] at this
        omega
      · have := h2 c' h4 h5
        unfold sumB at this
        split at this <;> omega
/-! ### sums of rows -/
structure Sol (n : Nat) (t : Int) (s m f : Nat → Int) : Prop where
  z : f 0 = 0
  sums : ∀ c, 1 ≤ c → c ≤ n → s c ≤ f c
  step : ∀ c, c < n → f c + m (n - (c + 1)) ≤ f (c + 1)
  hi : ∀ c, 1 ≤ c → c ≤ n → f c ≤ (c : Int) * t
  mid : ∀ c, 1 ≤ c → c < n → f (c - 1) + f (c + 1) ≤ 2 * f c
  lip : ∀ c, 1 ≤ c → c < n → f (c + 1) - t ≤ f c
theorem Sol.min {n : Nat} {t : Int} {s m f g : Nat → Int} (hf : Sol n t s m f) (hg : Sol n t s m g) : Sol n t s m (fun c => Min.min (f c) (g c)) where
  z := by
    have := hf.z
    have := hg.z
    omega
  sums := fun c h1 h2 => by
    have := hf.sums c h1 h2
    have := hg.sums c h1 h2
    omega
  step := fun c h => by
    have := hf.step c h
    have := hg.step c h
    omega
  hi := fun c h1 h2 => by
    have := hf.hi c h1 h2
    have := hg.hi c h1 h2
    omega
  mid := fun c h1 h2 => by
    have := hf.mid c h1 h2
    have := hg.mid c h1 h2
    omega
  lip := fun c h1 h2 => by
    have := hf.lip c h1 h2
    have := hg.lip c h1 h2
    omega
/-- what is asked of a row -/
def Asks (n : Nat) (s m : Nat → Int) (r : List Int) : Prop := (∀ c, 1 ≤ c → c ≤ n → s c ≤ bestSum c r) ∧ ∀ i, i < n → m i ≤ at0 r i
theorem IsRow.sol {n : Nat} {t : Int} {s m : Nat → Int} {r : List Int} (h : IsRow n t r) (ha : Asks n s m r) : Sol n t s m (fun c => bestSum c r) where
  z := bestSum_zero r
  sums := ha.1
  step := fun c hc => by
    rw [bestSum_succ h.asc h.len hc]
    have := ha.2 (n - (c + 1)) (by omega)
    omega
  hi := by
    intro c
    induction c with
    | zero => intro h1; omega
    | succ c ih =>
      intro _ hc
      rw [bestSum_succ h.asc h.len (by omega)]
      have h2 := h.hi _ (at0_mem (r := r) (i := n - (c + 1)) (by rw [h.len]; omega))
      rcases Nat.eq_zero_or_pos c with rfl | hp
      · rw [bestSum_zero, show ((0 + 1 : Nat) : Int) = 1 from rfl, Int.one_mul]
        omega
      · have := ih hp (by omega)
        have e : ((c + 1 : Nat) : Int) * t = (c : Int) * t + t := by
          rw [Int.natCast_add, Int.add_mul]
          simp
        omega
  mid := fun c h1 h2 => by
    obtain ⟨d, rfl⟩ : ∃ d, c = d + 1 := ⟨c - 1, by omega⟩
    rw [bestSum_succ h.asc h.len h2, bestSum_succ h.asc h.len (c := d) (by omega)]
    have := asc_at h.asc (i := n - (d + 1 + 1)) (j := n - (d + 1)) (by omega) (by rw [h.len]; omega)
    rw [show d + 1 - 1 = d from rfl]
    omega
  lip := fun c h1 h2 => by
    rw [bestSum_succ h.asc h.len h2]
    have h2 := h.hi _ (at0_mem (r := r) (i := n - (c + 1)) (by rw [h.len]; omega))
    omega
/-- the row of some sums -/
def rowF (n : Nat) (f : Nat → Int) : List Int := (List.range n).map fun i => f (n - i) - f (n - (i + 1))
theorem rowF_len {n : Nat} {f : Nat → Int} : (rowF n f).length = n := by
  unfold rowF
  rw [List.length_map, List.length_range]
theorem rowF_at {n : Nat} {f : Nat → Int} {i : Nat} (h : i < n) : at0 (rowF n f) i = f (n - i) - f (n - (i + 1)) := by
  rw [at0_get (by rw [rowF_len]; exact h)]
  unfold rowF
  rw [List.getElem_map, List.getElem_range]
theorem Sol.anti {n : Nat} {t : Int} {s m f : Nat → Int} (hf : Sol n t s m f) {a b : Nat} (hab : a ≤ b) (hb : b < n) : f (b + 1) - f b ≤ f (a + 1) - f a := by
  induction b with
  | zero =>
    have : a = 0 := by omega
    subst this
    omega
  | succ b ih =>
    rcases Nat.eq_or_lt_of_le hab with rfl | h
    · omega
    · have := ih (by omega) (by omega)
      have := hf.mid (b + 1) (by omega) hb
      rw [show b + 1 - 1 = b from rfl] at this
      omega
theorem Sol.row {n : Nat} {t : Int} {s m f : Nat → Int} (hf : Sol n t s m f) (hm : ∀ i, i < n → 0 ≤ m i) : IsRow n t (rowF n f) ∧ (∀ c, c ≤ n → bestSum c (rowF n f) = f c) ∧ Asks n s m (rowF n f) := by
  have asc : Asc (rowF n f) := by
    refine List.pairwise_iff_getElem.mpr fun i j hi hj hij => ?_
    rw [rowF_len] at hi hj
    rw [← at0_get, ← at0_get, rowF_at hi, rowF_at hj]
    have := hf.anti (a := n - (j + 1)) (b := n - (i + 1)) (by omega) (by omega)
    rw [show n - (j + 1) + 1 = n - j by omega, show n - (i + 1) + 1 = n - i by omega] at this
    omega
  have row : IsRow n t (rowF n f) := by
    refine ⟨rowF_len, asc, fun x hx => ?_, fun x hx => ?_⟩
    · obtain ⟨i, hi, rfl⟩ := List.mem_iff_getElem.mp hx
      rw [rowF_len] at hi
      rw [← at0_get, rowF_at hi]
      have := hf.step (n - (i + 1)) (by omega)
      have := hm (n - (n - (i + 1) + 1)) (by omega)
      rw [show n - (i + 1) + 1 = n - i by omega] at *
      omega
    · obtain ⟨i, hi, rfl⟩ := List.mem_iff_getElem.mp hx
      rw [rowF_len] at hi
      rw [← at0_get, rowF_at hi]
      have h1 := hf.anti (a := 0) (b := n - (i + 1)) (by omega) (by omega)
      have h2 := hf.hi 1 (by omega) (by omega)
      have h3 := hf.z
      rw [show n - (i + 1) + 1 = n - i by omega] at h1
      simp at h2 h1
      omega
  have sums : ∀ c, c ≤ n → bestSum c (rowF n f) = f c := by
    intro c
    induction c with
    | zero =>
      intro _
      rw [bestSum_zero, hf.z]
    | succ c ih =>
      intro hc
      rw [bestSum_succ asc rowF_len (by omega), ih (by omega), rowF_at (by omega), show n - (n - (c + 1)) = c + 1 by omega, show n - (n - (c + 1) + 1) = c by omega]
      omega
  refine ⟨row, sums, fun c h1 h2 => by rw [sums c h2]; exact hf.sums c h1 h2, fun i hi => ?_⟩
  rw [rowF_at hi]
  have := hf.step (n - (i + 1)) (by omega)
  rw [show n - (n - (i + 1) + 1) = i by omega, show n - (i + 1) + 1 = n - i by omega] at this
  omega
/-- rows with the same sums are the same -/
theorem row_eq {n : Nat} {t : Int} {r q : List Int} (hr : IsRow n t r) (hq : IsRow n t q) (h : ∀ c, c ≤ n → bestSum c r = bestSum c q) : r = q := by
  refine ext_at (hr.len.trans hq.len.symm) fun i hi => ?_
  rw [hr.len] at hi
  have h1 := bestSum_succ hr.asc hr.len (c := n - (i + 1)) (by omega)
  have h2 := bestSum_succ hq.asc hq.len (c := n - (i + 1)) (by omega)
  rw [show n - (n - (i + 1) + 1) = i by omega] at h1 h2
  have h3 := h (n - (i + 1)) (by omega)
  have h4 := h (n - (i + 1) + 1) (by omega)
  omega
/-! ### the weakest one -/
def leS (n : Nat) (r q : List Int) : Bool := (List.range (n + 1)).all fun c => decide (bestSum c r ≤ bestSum c q)
theorem leS_iff {n : Nat} {r q : List Int} : leS n r q = true ↔ ∀ c, c ≤ n → bestSum c r ≤ bestSum c q := by
  unfold leS
  simp only [List.all_eq_true, List.mem_range, decide_eq_true_eq]
  exact ⟨fun h c hc => h c (by omega), fun h c hc => h c (by omega)⟩
def weakP (n : Nat) (t : Int) (P : List Int → Bool) : Option (List Int) := (rowsL n t).find? fun r => P r && (rowsL n t).all fun q => !P q || leS n r q
/-- what the weakest row is, if any -/
def IsWeak (n : Nat) (t : Int) (P : List Int → Bool) : Option (List Int) → Prop
  | none => ∀ r, IsRow n t r → P r = false
  | some r => IsRow n t r ∧ P r = true ∧ ∀ q, IsRow n t q → P q = true → ∀ c, c ≤ n → bestSum c r ≤ bestSum c q
theorem IsWeak.eq {n : Nat} {t : Int} {P : List Int → Bool} {o : Option (List Int)} (h : IsWeak n t P o) : weakP n t P = o := by
  unfold weakP
  cases o with
  | none =>
    refine List.find?_eq_none.mpr fun r hr => ?_
    rw [h r (rowsL_mem.mp hr)]
    simp
  | some r =>
    obtain ⟨h1, h2, h3⟩ := h
    have hp : ∀ x, IsRow n t x → ((P x && (rowsL n t).all fun q => !P q || leS n x q) = true ↔ x = r) := by
      intro x hx
      rw [Bool.and_eq_true, List.all_eq_true]
      constructor
      · rintro ⟨h4, h5⟩
        have h6 := h5 r (rowsL_mem.mpr h1)
        rw [h2] at h6
        simp at h6
        refine row_eq hx h1 fun c hc => Int.le_antisymm (leS_iff.mp h6 c hc) (h3 x hx h4 c hc)
      · rintro rfl
        refine ⟨h2, fun q hq => ?_⟩
        cases hq2 : P q with
        | false => rfl
        | true =>
          simp
          exact leS_iff.mpr (h3 q (rowsL_mem.mp hq) hq2)
    have hsome : ((rowsL n t).find? fun r => P r && (rowsL n t).all fun q => !P q || leS n r q).isSome = true := by
      rw [List.find?_isSome]
      exact ⟨r, rowsL_mem.mpr h1, (hp r h1).mpr rfl⟩
    obtain ⟨x, hx⟩ := Option.isSome_iff_exists.mp hsome
    rw [hx]
    have h7 := List.find?_some hx
    have h8 := List.mem_of_find?_eq_some hx
    rw [(hp x (rowsL_mem.mp h8)).mp h7]
theorem least_exists {n : Nat} {t : Int} {s m : Nat → Int} : ∀ (l : List (List Int)), l ≠ [] → (∀ r ∈ l, IsRow n t r ∧ Asks n s m r) → ∃ f, Sol n t s m f ∧ ∀ r ∈ l, ∀ c, f c ≤ bestSum c r
  | [], h, _ => absurd rfl h
  | [r], _, h => ⟨fun c => bestSum c r, (h r (by simp)).1.sol (h r (by simp)).2, fun q hq c => by
    simp at hq
    subst hq
    exact Int.le_refl _⟩
  | r :: q :: l, _, h => by
    obtain ⟨f, h1, h2⟩ := least_exists (q :: l) (by simp) fun x hx => h x (List.mem_cons_of_mem _ hx)
    refine ⟨_, ((h r (by simp)).1.sol (h r (by simp)).2).min h1, fun x hx c => ?_⟩
    rcases List.mem_cons.mp hx with rfl | hx
    · omega
    · have := h2 x hx c
      omega
theorem isWeak_of {n : Nat} {t : Int} {s m : Nat → Int} {P : List Int → Bool} (hm : ∀ i, i < n → 0 ≤ m i) (hP : ∀ r, IsRow n t r → (P r = true ↔ Asks n s m r)) : IsWeak n t P (weakP n t P) := by
  have key : ∃ o, IsWeak n t P o := by
    by_cases he : (rowsL n t).filter P = []
    · refine ⟨none, fun r hr => ?_⟩
      have := List.filter_eq_nil_iff.mp he r (rowsL_mem.mpr hr)
      simpa using this
    · obtain ⟨f, h1, h2⟩ := least_exists (n := n) (t := t) (s := s) (m := m) _ he fun r hr => by
        obtain ⟨h3, h4⟩ := List.mem_filter.mp hr
        have h3 := rowsL_mem.mp h3
        exact ⟨h3, (hP r h3).mp h4⟩
      obtain ⟨h3, h4, h5⟩ := h1.row hm
      refine ⟨some (rowF n f), h3, (hP _ h3).mpr h5, fun q hq hq2 c hc => ?_⟩
      rw [h4 c hc]
      exact h2 q (List.mem_filter.mpr ⟨rowsL_mem.mpr hq, hq2⟩) c
  obtain ⟨o, h⟩ := key
  rw [h.eq]
  exact h
/-- from the least sums -/
theorem isWeak_some {n : Nat} {t : Int} {s m f : Nat → Int} {P : List Int → Bool} (hm : ∀ i, i < n → 0 ≤ m i) (hP : ∀ r, IsRow n t r → (P r = true ↔ Asks n s m r)) (hf : Sol n t s m f) (hl : ∀ g, Sol n t s m g → ∀ c, c ≤ n → f c ≤ g c) : weakP n t P = some (rowF n f) := by
  obtain ⟨h3, h4, h5⟩ := hf.row hm
  refine IsWeak.eq (o := some _) ⟨h3, (hP _ h3).mpr h5, fun q hq hq2 c hc => ?_⟩
  rw [h4 c hc]
  exact hl _ (hq.sol ((hP q hq).mp hq2)) c hc
theorem isWeak_none {n : Nat} {t : Int} {s m : Nat → Int} {P : List Int → Bool} (hP : ∀ r, IsRow n t r → (P r = true ↔ Asks n s m r)) (hl : ∀ g, ¬ Sol n t s m g) : weakP n t P = none := by
  refine IsWeak.eq (o := none) fun r hr => ?_
  cases h : P r with
  | false => rfl
  | true => exact absurd (hr.sol ((hP r hr).mp h)) (hl _)
theorem row_sum_nn {n : Nat} {t : Int} {r : List Int} (h : IsRow n t r) : ∀ {c : Nat}, c ≤ n → 0 ≤ bestSum c r
  | 0, _ => by rw [bestSum_zero]; exact Int.le_refl _
  | c + 1, hc => by
    rw [bestSum_succ h.asc h.len (by omega)]
    have := row_sum_nn h (c := c) (by omega)
    have := h.lo _ (at0_mem (r := r) (i := n - (c + 1)) (by rw [h.len]; omega))
    omega
theorem row_sum_le {n : Nat} {t : Int} {r : List Int} (h : IsRow n t r) {c : Nat} (hc : c ≤ n) : bestSum c r ≤ (c : Int) * t := by
  rcases Nat.eq_zero_or_pos c with rfl | hp
  · rw [bestSum_zero]
    simp
  · exact (h.sol (s := fun _ => 0) (m := fun _ => 0) ⟨fun c _ h2 => row_sum_nn h h2, fun i hi => h.lo _ (at0_mem (by rw [h.len]; exact hi))⟩).hi c hp hc
end Wk
set_option maxRecDepth 100000
set_option maxHeartbeats 4000000
/-! LS0: data of rows and rules -/
namespace Wk
open PySem (PyData Str)
def iL (r : List Int) : List D := r.map PyData.int
@[simp] theorem iL_nil : iL [] = [] := by rfl
theorem iL_cons {m : Int} {r : List Int} : iL (m :: r) = .int m :: iL r := rfl
@[simp] theorem iL_len {r : List Int} : (iL r).length = r.length := by
  unfold iL
  rw [List.length_map]
@[simp] theorem iL_drop {r : List Int} {k : Nat} : (iL r).drop k = iL (r.drop k) := by
  unfold iL
  rw [List.map_drop]
@[simp] theorem iL_take {r : List Int} {k : Nat} : (iL r).take k = iL (r.take k) := by
  unfold iL
  rw [List.map_take]
@[simp] theorem iL_rev {r : List Int} : (iL r).reverse = iL r.reverse := by
  unfold iL
  rw [List.map_reverse]
@[simp] theorem iL_app {r q : List Int} : iL r ++ iL q = iL (r ++ q) := by
  unfold iL
  rw [List.map_append]
@[simp] theorem iL_snoc {r : List Int} {m : Int} : iL r ++ [.int m] = iL (r ++ [m]) := by
  unfold iL
  rw [List.map_append]
  rfl
@[simp] theorem iL_isNil {r : List Int} : iL r = [] ↔ r = [] := by
  unfold iL
  exact List.map_eq_nil_iff
abbrev tI (r : List Int) : D := .tuple (iL r)
@[simp] theorem bl_bool {b : Bool} : bl b = PyData.bool b := by rfl
abbrev sF : Str := Str.ofString "fails"
abbrev sB : Str := Str.ofString "best"
def Rl.d : Rl → D
  | .fails c k => .tuple [.str sF, .int (c : Nat), .int k]
  | .best c k => .tuple [.str sB, .int (c : Nat), .int k]
def rL (rs : List Rl) : List D := rs.map Rl.d
@[simp] theorem rL_nil : rL [] = [] := by rfl
theorem rL_cons {m : Rl} {r : List Rl} : rL (m :: r) = m.d :: rL r := rfl
@[simp] theorem rL_len {r : List Rl} : (rL r).length = r.length := by
  unfold rL
  rw [List.length_map]
@[simp] theorem rL_drop {r : List Rl} {k : Nat} : (rL r).drop k = rL (r.drop k) := by
  unfold rL
  rw [List.map_drop]
@[simp] theorem rL_tail {r : List Rl} : (rL r).tail = rL r.tail := by
  unfold rL
  rw [List.map_tail]
@[simp] theorem rL_take {r : List Rl} {k : Nat} : (rL r).take k = rL (r.take k) := by
  unfold rL
  rw [List.map_take]
@[simp] theorem rL_rev {r : List Rl} : (rL r).reverse = rL r.reverse := by
  unfold rL
  rw [List.map_reverse]
@[simp] theorem rL_app {r q : List Rl} : rL r ++ rL q = rL (r ++ q) := by
  unfold rL
  rw [List.map_append]
@[simp] theorem rL_snoc {r : List Rl} {m : Rl} : rL r ++ [m.d] = rL (r ++ [m]) := by
  unfold rL
  rw [List.map_append]
  rfl
@[simp] theorem rL_isNil {r : List Rl} : rL r = [] ↔ r = [] := by
  unfold rL
  exact List.map_eq_nil_iff
abbrev rsD (rs : List Rl) : D := .tuple (rL rs)
/-- rows -/
def wL (rows : List (List Int)) : List D := rows.map tI
@[simp] theorem wL_nil : wL [] = [] := by rfl
theorem wL_cons {m : List Int} {r : List (List Int)} : wL (m :: r) = tI m :: wL r := rfl
@[simp] theorem wL_len {r : List (List Int)} : (wL r).length = r.length := by
  unfold wL
  rw [List.length_map]
@[simp] theorem wL_app {r q : List (List Int)} : wL r ++ wL q = wL (r ++ q) := by
  unfold wL
  rw [List.map_append]
@[simp] theorem wL_snoc {r : List (List Int)} {m : List Int} : wL r ++ [tI m] = wL (r ++ [m]) := by
  unfold wL
  rw [List.map_append]
  rfl
@[simp] theorem wL_isNil {r : List (List Int)} : wL r = [] ↔ r = [] := by
  unfold wL
  exact List.map_eq_nil_iff
abbrev schD (n : Nat) (t : Int) (rs : List Rl) : D := .tuple [.int (n : Nat), .int t, rsD rs]
theorem okF : PyData.strOk sF = true := by decide +kernel
theorem okB : PyData.strOk sB = true := by decide +kernel
theorem sB_ne : ¬ sB = sF := by decide +kernel
theorem sF_ne : ¬ sF = sB := by decide +kernel
/-- no bools within, k deep -/
def Tm : Nat → D → Prop
  | _, .none => True
  | _, .int _ => True
  | _, .str x => PyData.strOk x = true
  | k + 1, .list ds => ∀ d ∈ ds, Tm k d
  | k + 1, .tuple ds => ∀ d ∈ ds, Tm k d
  | _, _ => False
@[simp] theorem Tm_none {k : Nat} : Tm k .none := by cases k <;> trivial
@[simp] theorem Tm_int {k : Nat} {i : Int} : Tm k (.int i) := by cases k <;> trivial
@[simp] theorem Tm_str {k : Nat} {x : Str} : Tm k (.str x) ↔ PyData.strOk x = true := by cases k <;> exact Iff.rfl
@[simp] theorem Tm_list {k : Nat} {ds : List D} : Tm (k + 1) (.list ds) ↔ ∀ d ∈ ds, Tm k d := Iff.rfl
@[simp] theorem Tm_tuple {k : Nat} {ds : List D} : Tm (k + 1) (.tuple ds) ↔ ∀ d ∈ ds, Tm k d := Iff.rfl
theorem Tm.mono : ∀ {k j : Nat} {d : D}, Tm k d → k ≤ j → Tm j d
  | k, j, .none, _, _ => by simp
  | k, j, .int _, _, _ => by simp
  | k, j, .str x, h, _ => by simpa using h
  | k, j, .bool _, h, _ => by cases k <;> exact False.elim h
  | k, j, .dict _, h, _ => by cases k <;> exact False.elim h
  | 0, j, .list _, h, _ => False.elim h
  | 0, j, .tuple _, h, _ => False.elim h
  | k + 1, 0, .list ds, h, hk => by omega
  | k + 1, 0, .tuple ds, h, hk => by omega
  | k + 1, j + 1, .list ds, h, hk => fun d hd => (h d hd).mono (by omega)
  | k + 1, j + 1, .tuple ds, h, hk => fun d hd => (h d hd).mono (by omega)
theorem lay_all {k : Nat} : ∀ {l : List D}, (∀ d ∈ l, PyData.canLay0 d = true ∧ PyData.depth d ≤ k) → PyData.canLayAll0 l = true ∧ PyData.depthAll l ≤ k
  | [], _ => ⟨rfl, Nat.zero_le _⟩
  | d :: r, h => by
    obtain ⟨a, b⟩ := h d List.mem_cons_self
    obtain ⟨a', b'⟩ := lay_all fun x hx => h x (List.mem_cons_of_mem _ hx)
    exact ⟨by simp [PyData.canLayAll0, a, a'], by simp [PyData.depthAll]; omega⟩
theorem Tm.lay : ∀ {k : Nat} {d : D}, Tm k d → PyData.canLay0 d = true ∧ PyData.depth d ≤ k
  | k, .none, _ => ⟨rfl, Nat.zero_le _⟩
  | k, .int _, _ => ⟨rfl, Nat.zero_le _⟩
  | k, .str x, h => ⟨Tm_str.mp h, Nat.zero_le _⟩
  | k, .bool _, h => by cases k <;> exact False.elim h
  | k, .dict _, h => by cases k <;> exact False.elim h
  | 0, .list _, h => False.elim h
  | 0, .tuple _, h => False.elim h
  | k + 1, .list ds, h => by
    obtain ⟨a, b⟩ := lay_all fun d hd => (h d hd).lay
    exact ⟨by simpa [PyData.canLay0] using a, by simp [PyData.depth]; omega⟩
  | k + 1, .tuple ds, h => by
    obtain ⟨a, b⟩ := lay_all fun d hd => (h d hd).lay
    exact ⟨by simpa [PyData.canLay0] using a, by simp [PyData.depth]; omega⟩
theorem Tm.shaped {k : Nat} {d : D} (h : Tm k d) (hk : k ≤ 64) : PySem.SeqAt.shaped d = true := by
  obtain ⟨a, b⟩ := h.lay
  unfold PySem.SeqAt.shaped
  rw [a, Bool.true_and]
  exact decide_eq_true (Nat.le_trans b hk)
theorem eqvAll_iff {k : Nat} (ih : ∀ {x y : D}, Tm k x → Tm k y → (PyData.eqv x y = true ↔ x = y)) : ∀ {l m : List D}, (∀ d ∈ l, Tm k d) → (∀ d ∈ m, Tm k d) → (PyData.eqvAll l m = true ↔ l = m)
  | [], [], _, _ => by simp [PyData.eqvAll]
  | [], _ :: _, _, _ => by simp [PyData.eqvAll]
  | _ :: _, [], _, _ => by simp [PyData.eqvAll]
  | x :: l, y :: m, h1, h2 => by
    rw [PyData.eqvAll, Bool.and_eq_true, ih (h1 x List.mem_cons_self) (h2 y List.mem_cons_self), eqvAll_iff ih (fun d hd => h1 d (List.mem_cons_of_mem _ hd)) (fun d hd => h2 d (List.mem_cons_of_mem _ hd))]
    simp
theorem Tm.eqv : ∀ {k : Nat} {x y : D}, Tm k x → Tm k y → (PyData.eqv x y = true ↔ x = y) := by
  intro k
  induction k with
  | zero =>
    intro x y hx hy
    cases x <;> cases y <;> first | exact False.elim hx | exact False.elim hy | simp [PyData.eqv]
  | succ k ih =>
    intro x y hx hy
    cases x <;> cases y <;> first
      | exact False.elim hx
      | exact False.elim hy
      | (simp only [PyData.eqv]; rw [eqvAll_iff ih hx hy]; simp; done)
      | simp [PyData.eqv]
theorem eqD_p {k : Nat} {x y : D} {p : Prop} [Decidable p] (hx : Tm k x) (hy : Tm k y) (hk : k ≤ 64) (h : x = y ↔ p) : eqD x y = ret (bl (decide p)) := by
  unfold eqD
  rw [hx.shaped hk, hy.shaped hk]
  have : PyData.eqv x y = decide p := by
    rw [Bool.eq_iff_iff, hx.eqv hy, h, decide_eq_true_eq]
  rw [this]
  rfl
theorem neD_p {k : Nat} {x y : D} {p : Prop} [Decidable p] (hx : Tm k x) (hy : Tm k y) (hk : k ≤ 64) (h : x = y ↔ p) : neD x y = ret (bl (!decide p)) := by
  unfold neD
  rw [hx.shaped hk, hy.shaped hk]
  have : PyData.eqv x y = decide p := by
    rw [Bool.eq_iff_iff, hx.eqv hy, h, decide_eq_true_eq]
  rw [this]
  rfl
theorem any_eqv {k : Nat} {x : D} {ds : List D} (hx : Tm k x) (hd : ∀ d ∈ ds, Tm k d) : (ds.any fun z => PyData.eqv z x) = true ↔ x ∈ ds := by
  rw [List.any_eq_true]
  constructor
  · rintro ⟨z, h1, h2⟩
    rw [(hd z h1).eqv hx] at h2
    exact h2 ▸ h1
  · exact fun h => ⟨x, h, (hx.eqv hx).mpr rfl⟩
theorem inD_p {k : Nat} {x : D} {ds : List D} {p : Prop} [Decidable p] (hx : Tm k x) (hd : ∀ d ∈ ds, Tm k d) (hk : k < 64) (h : x ∈ ds ↔ p) : inD x (.list ds) = ret (bl (decide p)) := by
  unfold inD
  dsimp only
  rw [hx.shaped (by omega), Tm.shaped (k := k + 1) (d := .list ds) hd (by omega)]
  have : (ds.any fun z => PyData.eqv z x) = decide p := by
    rw [Bool.eq_iff_iff, any_eqv hx hd, h, decide_eq_true_eq]
  rw [this]
  rfl
theorem notInD_p {k : Nat} {x : D} {ds : List D} {p : Prop} [Decidable p] (hx : Tm k x) (hd : ∀ d ∈ ds, Tm k d) (hk : k < 64) (h : x ∈ ds ↔ p) : notInD x (.list ds) = ret (bl (!decide p)) := by
  unfold notInD
  dsimp only
  rw [hx.shaped (by omega), Tm.shaped (k := k + 1) (d := .list ds) hd (by omega)]
  have : (ds.any fun z => PyData.eqv z x) = decide p := by
    rw [Bool.eq_iff_iff, any_eqv hx hd, h, decide_eq_true_eq]
  rw [this]
  rfl
theorem Tm_iL {k : Nat} {r : List Int} : ∀ d ∈ iL r, Tm k d := by
  intro d hd
  obtain ⟨i, _, rfl⟩ := List.mem_map.mp hd
  simp
@[simp high] theorem Tm_tI {k : Nat} {r : List Int} : Tm (k + 1) (tI r) := Tm_iL
@[simp high] theorem Tm_lI {k : Nat} {r : List Int} : Tm (k + 1) (.list (iL r)) := Tm_iL
theorem Tm_rl {k : Nat} {x : Rl} : Tm (k + 1) x.d := by
  cases x <;> simp [Rl.d, okF, okB]
theorem Tm_rs {k : Nat} {rs : List Rl} : ∀ d ∈ rL rs, Tm (k + 1) d := by
  intro d hd
  obtain ⟨x, _, rfl⟩ := List.mem_map.mp hd
  exact Tm_rl
theorem Tm_rows {k : Nat} {rows : List (List Int)} : ∀ d ∈ wL rows, Tm (k + 1) d := by
  intro d hd
  obtain ⟨x, _, rfl⟩ := List.mem_map.mp hd
  exact Tm_tI
theorem map_inj {α β : Type} {f : α → β} (hf : ∀ a b, f a = f b → a = b) : ∀ {l m : List α}, l.map f = m.map f ↔ l = m
  | [], [] => by simp
  | [], _ :: _ => by simp
  | _ :: _, [] => by simp
  | x :: l, y :: m => by
    rw [List.map_cons, List.map_cons, List.cons.injEq, List.cons.injEq, map_inj hf]
    exact ⟨fun h => ⟨hf _ _ h.1, h.2⟩, fun h => ⟨h.1 ▸ rfl, h.2⟩⟩
@[simp] theorem iL_inj {r q : List Int} : iL r = iL q ↔ r = q := map_inj fun a b h => by cases h; rfl
theorem tI_inj {r q : List Int} : tI r = tI q ↔ r = q := by
  rw [PyData.tuple.injEq, iL_inj]
@[simp] theorem rows_inj {r q : List (List Int)} : wL r = wL q ↔ r = q := map_inj fun a b h => tI_inj.mp h
theorem Rl.d_inj {x y : Rl} : x.d = y.d ↔ x = y := by
  cases x <;> cases y <;> simp [Rl.d, sB_ne, sF_ne]
  all_goals
    intro _
    omega
@[simp] theorem rs_inj {r q : List Rl} : rL r = rL q ↔ r = q := map_inj fun a b h => Rl.d_inj.mp h
theorem mem_rows {r : List Int} {rows : List (List Int)} : tI r ∈ wL rows ↔ r ∈ rows := by
  constructor
  · intro h
    obtain ⟨q, hq, e⟩ := List.mem_map.mp h
    exact tI_inj.mp e ▸ hq
  · exact fun h => List.mem_map_of_mem h
@[simp] theorem ints_iL {r : List Int} : ints? (iL r) = some r := by
  induction r with
  | nil => rfl
  | cons x r ih =>
    show (ints? (iL r)).map (x :: ·) = _
    rw [ih]
    rfl
@[simp] theorem sum_l {r : List Int} : sumD (.list (iL r)) = ret (.int r.sum) := by
  unfold sumD intsD
  dsimp only
  rw [ints_iL]
@[simp] theorem sum_t {r : List Int} : sumD (tI r) = ret (.int r.sum) := by
  unfold sumD intsD
  dsimp only
  rw [ints_iL]
theorem min_l {r : List Int} (h : r ≠ []) : minD (.list (iL r)) = ret (.int (minL r)) := by
  cases r with
  | nil => exact absurd rfl h
  | cons x r =>
    unfold minD
    dsimp only
    rw [ints_iL]
theorem max_l {r : List Int} (h : r ≠ []) : maxD (.list (iL r)) = ret (.int (maxL r)) := by
  cases r with
  | nil => exact absurd rfl h
  | cons x r =>
    unfold maxD
    dsimp only
    rw [ints_iL]
theorem minL_mem : ∀ {r : List Int}, r ≠ [] → minL r ∈ r
  | [], h => absurd rfl h
  | [x], _ => by simp [minL]
  | x :: y :: r, _ => by
    have := minL_mem (r := y :: r) (by simp)
    unfold minL
    by_cases h : x ≤ minL (y :: r)
    · rw [Int.min_eq_left h]
      simp
    · rw [Int.min_eq_right (by omega)]
      exact List.mem_cons_of_mem _ this
theorem minL_le : ∀ {r : List Int} {z : Int}, z ∈ r → minL r ≤ z
  | [x], z, h => by
    simp at h
    subst h
    simp [minL]
  | x :: y :: r, z, h => by
    unfold minL
    rcases List.mem_cons.mp h with rfl | h
    · omega
    · have := minL_le h
      omega
theorem maxL_mem : ∀ {r : List Int}, r ≠ [] → maxL r ∈ r
  | [], h => absurd rfl h
  | [x], _ => by simp [maxL]
  | x :: y :: r, _ => by
    have := maxL_mem (r := y :: r) (by simp)
    unfold maxL
    by_cases h : x ≤ maxL (y :: r)
    · rw [Int.max_eq_right h]
      exact List.mem_cons_of_mem _ this
    · rw [Int.max_eq_left (by omega)]
      simp
theorem maxL_ge : ∀ {r : List Int} {z : Int}, z ∈ r → z ≤ maxL r
  | [x], z, h => by
    simp at h
    subst h
    simp [maxL]
  | x :: y :: r, z, h => by
    unfold maxL
    rcases List.mem_cons.mp h with rfl | h
    · omega
    · have := maxL_ge h
      omega
/-! ### sorted -/
theorem mem_iL {r : List Int} {d : D} (h : d ∈ iL r) : ∃ i, i ∈ r ∧ d = .int i := by
  obtain ⟨i, h1, rfl⟩ := List.mem_map.mp h
  exact ⟨i, h1, rfl⟩
theorem sortable_iL {r : List Int} : sortable (iL r) = true := by
  unfold sortable
  have h1 : ((iL r).all fun d => (iL r).all fun e => PySem.W.alike d e) = true := by
    simp only [List.all_eq_true]
    intro d hd e he
    obtain ⟨i, _, rfl⟩ := mem_iL hd
    obtain ⟨j, _, rfl⟩ := mem_iL he
    simp [PySem.W.alike]
  have h2 : ((iL r).all fun d => decide (PyData.depth d ≤ 60)) = true := by
    simp only [List.all_eq_true]
    intro d hd
    obtain ⟨i, _, rfl⟩ := mem_iL hd
    simp [PyData.depth]
  have h3 : ((iL r).all fun d => match d with
    | .none => false
    | .tuple _ => false
    | _ => true) = true := by
    simp only [List.all_eq_true]
    intro d hd
    obtain ⟨i, _, rfl⟩ := mem_iL hd
    rfl
  rw [h1, h2]
  simp only [Bool.and_self, Bool.true_and, Bool.or_eq_true]
  exact .inr h3
theorem sortT_iL {r : List Int} : sortT (iL r) = iL (srt r) := by
  unfold sortT srt
  have h := List.map_mergeSort (r := fun a b : Int => decide (a ≤ b)) (s := fun a b : D => !PySem.W.dataLt b a) (f := PyData.int) (l := r) (fun a _ b _ => by
    rw [PySem.W.dataLt_int]
    by_cases h : a ≤ b
    · have : ¬ b < a := by omega
      simp [h, this]
    · have : b < a := by omega
      simp [h, this])
  exact h.symm
@[simp] theorem sorted_l {r : List Int} : sortedD (.list (iL r)) = ret (.list (iL (srt r))) := by
  show (if sortable (iL r) = true then ret (PyData.list (sortT (iL r))) else stuck) = _
  rw [if_pos sortable_iL, sortT_iL]
@[simp] theorem sorted_t {r : List Int} : sortedD (tI r) = ret (.list (iL (srt r))) := by
  show (if sortable (iL r) = true then ret (PyData.list (sortT (iL r))) else stuck) = _
  rw [if_pos sortable_iL, sortT_iL]
/-! ### slices, items -/
theorem cut_from {ds : List D} {i : Int} (h : 0 ≤ i) : cutD ds (some i) none = ds.drop i.toNat := by
  unfold cutD HT.sIx
  dsimp only
  rw [if_neg (by omega)]
  by_cases hi : i.toNat ≤ ds.length
  · rw [Nat.min_eq_left hi]
    exact List.take_of_length_le (by rw [List.length_drop]; omega)
  · rw [Nat.min_eq_right (by omega), List.drop_eq_nil_of_le (Nat.le_refl _), List.drop_eq_nil_of_le (by omega)]
    simp
theorem cut_to {ds : List D} {i : Int} (h : 0 ≤ i) : cutD ds none (some i) = ds.take i.toNat := by
  unfold cutD HT.sIx
  dsimp only
  rw [if_neg (by omega), List.drop_zero]
  by_cases hi : i.toNat ≤ ds.length
  · rw [Nat.min_eq_left hi, Nat.sub_zero]
  · rw [Nat.min_eq_right (by omega), Nat.sub_zero, List.take_length, List.take_of_length_le (by omega)]
theorem atI_of {ds : List D} {i : Int} {d : D} (h0 : 0 ≤ i) (h : ds[i.toNat]? = some d) : L2.atI ds i = some d := by
  obtain ⟨j, rfl⟩ : ∃ j : Nat, i = j := ⟨i.toNat, by omega⟩
  exact L2.atI_nat (by simpa using h)
theorem atI_iL {r : List Int} {i : Int} (h0 : 0 ≤ i) (h : i < r.length) : L2.atI (iL r) i = some (.int (at0 r i.toNat)) := by
  refine atI_of h0 ?_
  unfold iL
  rw [List.getElem?_map, List.getElem?_eq_getElem (by omega), at0_get (by omega)]
  rfl
theorem ixl_iL {r : List Int} {i : Int} (h0 : 0 ≤ i) (h : i < r.length) : ixD (.list (iL r)) (.int i) = ret (.int (at0 r i.toNat)) := by
  rw [ix_l, atI_iL h0 h]
theorem ixt_iL {r : List Int} {i : Int} (h0 : 0 ≤ i) (h : i < r.length) : ixD (tI r) (.int i) = ret (.int (at0 r i.toNat)) := by
  rw [ix_t, atI_iL h0 h]
@[simp] theorem isNone_none : isNone .none = true := rfl
@[simp] theorem isNone_tuple {ds : List D} : isNone (.tuple ds) = false := rfl
@[simp] theorem isNone_list {ds : List D} : isNone (.list ds) = false := rfl
@[simp] theorem isNone_int {i : Int} : isNone (.int i) = false := rfl
@[simp] theorem isNone_bool {i : Bool} : isNone (.bool i) = false := rfl
@[simp] theorem isNone_str {i : Str} : isNone (.str i) = false := rfl
theorem bools_mapA {α : Type} (f : α → Bool) (ds : List α) : bools? (ds.map fun d => PyData.bool (f d)) = some (ds.map f) := by
  induction ds with
  | nil => rfl
  | cons d ds ih =>
    show (bools? (ds.map fun d => PyData.bool (f d))).map (f d :: ·) = _
    rw [ih]
    rfl
theorem all_b {α : Type} {f : α → Bool} {ds : List α} : allD (.list (ds.map fun d => PyData.bool (f d))) = ret (bl (ds.all f)) := by
  unfold allD
  dsimp only
  rw [bools_mapA]
  dsimp only
  rw [List.all_map]
  rfl
theorem any_b {α : Type} {f : α → Bool} {ds : List α} : anyD (.list (ds.map fun d => PyData.bool (f d))) = ret (bl (ds.any f)) := by
  unfold anyD
  dsimp only
  rw [bools_mapA]
  dsimp only
  rw [List.any_map]
  rfl
/-! ### comprehensions over what is mapped -/
theorem lc_fm {α : Type} {g : D → M (Option D)} {f : α → D} {xs : List α} (h : α → Option D) (e : ∀ x ∈ xs, g (f x) = ret (h x)) : lcRun g (xs.map f) = ret (xs.filterMap h) := by
  induction xs with
  | nil => rfl
  | cons x xs ih =>
    rw [List.map_cons]
    unfold lcRun
    rw [e x List.mem_cons_self, bnd_ret, ih fun y hy => e y (List.mem_cons_of_mem _ hy), bnd_ret, List.filterMap_cons]
    cases h x <;> rfl
theorem lc_map {α : Type} {g : D → M (Option D)} {f : α → D} {xs : List α} (h : α → D) (e : ∀ x ∈ xs, g (f x) = ret (some (h x))) : lcRun g (xs.map f) = ret (xs.map h) := by
  rw [lc_fm (fun x => some (h x)) e, ← List.filterMap_eq_map]
  rfl
theorem lc_filter {α : Type} {g : D → M (Option D)} {f : α → D} {xs : List α} (p : α → Bool) (e : ∀ x ∈ xs, g (f x) = ret (if p x = true then some (f x) else none)) : lcRun g (xs.map f) = ret ((xs.filter p).map f) := by
  rw [lc_fm (fun x => if p x = true then some (f x) else none) e]
  congr 1
  clear e
  induction xs with
  | nil => rfl
  | cons x xs ih =>
    rw [List.filterMap_cons, List.filter_cons]
    cases p x <;> simp [ih]
theorem lci_fm {g : D → M (Option D)} {xs : List Int} (h : Int → Option D) (e : ∀ x ∈ xs, g (.int x) = ret (h x)) : lcRun g (iL xs) = ret (xs.filterMap h) := lc_fm h e
theorem lci_map {g : D → M (Option D)} {xs : List Int} (h : Int → D) (e : ∀ x ∈ xs, g (.int x) = ret (some (h x))) : lcRun g (iL xs) = ret (xs.map h) := lc_map h e
theorem lci_filter {g : D → M (Option D)} {xs : List Int} (p : Int → Bool) (e : ∀ x ∈ xs, g (.int x) = ret (if p x = true then some (.int x) else none)) : lcRun g (iL xs) = ret (iL (xs.filter p)) := lc_filter p e
theorem lcr_fm {g : D → M (Option D)} {xs : List Rl} (h : Rl → Option D) (e : ∀ x ∈ xs, g x.d = ret (h x)) : lcRun g (rL xs) = ret (xs.filterMap h) := lc_fm h e
theorem lcr_map {g : D → M (Option D)} {xs : List Rl} (h : Rl → D) (e : ∀ x ∈ xs, g x.d = ret (some (h x))) : lcRun g (rL xs) = ret (xs.map h) := lc_map h e
theorem lcr_filter {g : D → M (Option D)} {xs : List Rl} (p : Rl → Bool) (e : ∀ x ∈ xs, g x.d = ret (if p x = true then some x.d else none)) : lcRun g (rL xs) = ret (rL (xs.filter p)) := lc_filter p e
theorem lcw_fm {g : D → M (Option D)} {xs : List (List Int)} (h : List Int → Option D) (e : ∀ x ∈ xs, g (tI x) = ret (h x)) : lcRun g (wL xs) = ret (xs.filterMap h) := lc_fm h e
theorem lcw_map {g : D → M (Option D)} {xs : List (List Int)} (h : List Int → D) (e : ∀ x ∈ xs, g (tI x) = ret (some (h x))) : lcRun g (wL xs) = ret (xs.map h) := lc_map h e
theorem lcw_filter {g : D → M (Option D)} {xs : List (List Int)} (p : List Int → Bool) (e : ∀ x ∈ xs, g (tI x) = ret (if p x = true then some (tI x) else none)) : lcRun g (wL xs) = ret (wL (xs.filter p)) := lc_filter p e
theorem rngL_eq {a b : Int} : rngL a b = iL (upTo a (b - 1)) := by
  unfold rngL upTo iL
  rw [List.map_map, show b - 1 + 1 - a = b - a by omega]
  rfl
theorem rngL_nat {n : Nat} : rngL 0 (n : Int) = (List.range n).map fun i => PyData.int ((i : Nat) : Int) := by
  unfold rngL
  simp
theorem rngOk_of {a b : Int} (h1 : -1000000 ≤ a) (h2 : a ≤ 1000000) (h3 : -1000000 ≤ b) (h4 : b ≤ 1000000) : rngOk a b = true := by
  unfold rngOk
  simp
  omega
end Wk
set_option maxRecDepth 100000
set_option maxHeartbeats 4000000
/-! LS1: draws; kinds and equality -/
namespace Wk
open PySem (PyData Str)
abbrev Fn := List D → M D
def S_law_source (F : Fn) : Prop := ∀ cell turn : Int, ∃ a b, pcall (F [.int cell, .int turn]) = ret (.list [.int a, .int b, .int turn]) ∧ 0 ≤ b ∧ b < 2147483579
theorem law_source_spec {G : Sems} : S_law_source (runFn G f_law_source) := by
  intro cell turn
  have hp : powOk 10 18 = true := by decide +kernel
  by_cases h : (10 : Int) ^ 18 ≤ cell
  · refine ⟨cell - 10 ^ 18, cell % 2147483579, ?_, Int.emod_nonneg _ (by omega), Int.emod_lt_of_pos _ (by omega)⟩
    simp at h
    simp [f_law_source, ini, hp, h]
  · refine ⟨0, cell % 2147483579, ?_, Int.emod_nonneg _ (by omega), Int.emod_lt_of_pos _ (by omega)⟩
    simp at h
    have h' : ¬ (1000000000000000000 ≤ cell) := by omega
    simp [f_law_source, ini, hp, h']
abbrev S_law_source_v2 := S_law_source
theorem law_source_v2_spec {G : Sems} : S_law_source_v2 (runFn G f_law_source_v2) := by
  intro cell turn
  have hp : powOk 10 18 = true := by decide +kernel
  by_cases h : (10 : Int) ^ 18 ≤ cell
  · refine ⟨cell - 10 ^ 18, cell % 2147483579, ?_, Int.emod_nonneg _ (by omega), Int.emod_lt_of_pos _ (by omega)⟩
    simp at h
    simp [f_law_source_v2, ini, hp, h]
  · refine ⟨0, cell % 2147483579, ?_, Int.emod_nonneg _ (by omega), Int.emod_lt_of_pos _ (by omega)⟩
    simp at h
    have h' : ¬ (1000000000000000000 ≤ cell) := by omega
    simp [f_law_source_v2, ini, hp, h']
def S_law_draw (F : Fn) : Prop := ∀ (N size : Int) (s : SV), 0 < size → size < 1073741824 → N ≤ 1000000000 → SI N s → wp (F [.int size]) (fun x s' => ∃ v : Int, x = .int v ∧ 0 ≤ v ∧ v < size ∧ SI (N + 1) s') s
theorem law_draw_spec {G : Sems} : S_law_draw (runFn G f_law_draw) := by
  intro N size s hs h2 hn h
  obtain ⟨b0, b1, c0, c1⟩ := h
  simp [f_law_draw, ini, hs, wp_ite]
  have m0 := Int.emod_nonneg (b := 2147483647) ((s.b + 15485867 * (s.c + 1)) ^ 5) (by omega)
  have m1 := Int.emod_lt_of_pos (b := 2147483647) ((s.b + 15485867 * (s.c + 1)) ^ 5) (by omega)
  refine ⟨fun ha => ⟨fun _ => ⟨Int.emod_nonneg _ (by omega), Int.emod_lt_of_pos _ hs, b0, b1, c0, by show s.c ≤ N + 1; omega⟩, divOk_of hs h2⟩, fun ha => ⟨fun _ => ⟨fun _ => ⟨fun _ => ⟨fun _ => ⟨fun _ => ⟨Int.emod_nonneg _ (by omega), Int.emod_lt_of_pos _ hs, b0, b1, ?_, ?_⟩, divOk_of (by omega) (by omega)⟩, ?_⟩, mulOk_l (by omega)⟩, ?_⟩, mulOk_l (by omega)⟩⟩
  · show 0 ≤ s.c + 1
    omega
  · show s.c + 1 ≤ N + 1
    omega
  · exact powOk_of (by omega) (by omega) (by omega) (by omega)
  · exact powOk_of (by omega) (by omega) (by omega) (by omega)
abbrev S_law_draw_v2 := S_law_draw
theorem law_draw_v2_spec {G : Sems} : S_law_draw_v2 (runFn G f_law_draw_v2) := by
  intro N size s hs h2 hn h
  obtain ⟨b0, b1, c0, c1⟩ := h
  simp [f_law_draw_v2, ini, hs, wp_ite]
  have m0 := Int.emod_nonneg (b := 2147483647) ((s.b + 15485867 * (s.c + 1)) ^ 5) (by omega)
  have m1 := Int.emod_lt_of_pos (b := 2147483647) ((s.b + 15485867 * (s.c + 1)) ^ 5) (by omega)
  refine ⟨fun ha => ⟨fun _ => ⟨Int.emod_nonneg _ (by omega), Int.emod_lt_of_pos _ hs, b0, b1, c0, by show s.c ≤ N + 1; omega⟩, divOk_of hs h2⟩, fun ha => ⟨fun _ => ⟨fun _ => ⟨fun _ => ⟨fun _ => ⟨fun _ => ⟨Int.emod_nonneg _ (by omega), Int.emod_lt_of_pos _ hs, b0, b1, ?_, ?_⟩, divOk_of (by omega) (by omega)⟩, ?_⟩, mulOk_l (by omega)⟩, ?_⟩, mulOk_l (by omega)⟩⟩
  · show 0 ≤ s.c + 1
    omega
  · show s.c + 1 ≤ N + 1
    omega
  · exact powOk_of (by omega) (by omega) (by omega) (by omega)
  · exact powOk_of (by omega) (by omega) (by omega) (by omega)
def S_law_choice (F : Fn) : Prop := ∀ (N : Int) (items : List D) (s : SV), items ≠ [] → items.length < 1073741824 → N ≤ 1000000000 → SI N s → wp (F [.list items]) (fun x s' => x ∈ items ∧ SI (N + 1) s') s ∧ wp (F [.tuple items]) (fun x s' => x ∈ items ∧ SI (N + 1) s') s
theorem law_choice_spec {G : Sems} {c_law_draw : Nat} (h_draw : S_law_draw (G c_law_draw)) : S_law_choice (runFn G (f_law_choice c_law_draw)) := by
  intro N items s h0 h2 hn h
  have hl : 0 < items.length := List.length_pos_iff.mpr h0
  constructor
  all_goals
    simp [f_law_choice, ini]
    refine wp_mono (h_draw N _ s (by omega) (by omega) hn h) fun x s' hx => ?_
    obtain ⟨v, rfl, h3, h4, h5⟩ := hx
    obtain ⟨d, e1, e2⟩ := atI_in h3 h4
    simp [e1]
    exact ⟨List.mem_of_getElem? e2, h5⟩
def S_law_rule (F : Fn) : Prop := ∀ (N : Int) (n : Nat) (t : Int) (s : SV), 1 ≤ n → n ≤ 100 → 1 ≤ t → t ≤ 100 → N ≤ 100000000 → SI N s → wp (F [.int (n : Nat), .int t]) (fun x s' => ∃ r : Rl, x = r.d ∧ r.ok n t ∧ SI (N + 4) s') s
theorem law_rule_spec {G : Sems} {c_law_draw c_law_choice : Nat} (h_draw : S_law_draw (G c_law_draw)) (h_choice : S_law_choice (G c_law_choice)) : S_law_rule (runFn G (f_law_rule c_law_draw c_law_choice)) := by
  intro N n t s h1 h2 h3 h4 hn h
  simp [f_law_rule, ini]
  refine wp_mono (h_draw N 2 s (by omega) (by omega) (by omega) h) fun x s1 hx => ?_
  obtain ⟨v, rfl, h5, h6, h7⟩ := hx
  simp [wp_ite]
  refine ⟨fun hv => ?_, fun hv => ?_⟩
  · refine wp_mono (h_draw _ n s1 (by omega) (by omega) (by omega) h7) fun x s2 hx => ?_
    obtain ⟨w, rfl, h8, h9, h10⟩ := hx
    refine wp_mono (h_draw _ (t + 1) s2 (by omega) (by omega) (by omega) h10) fun x s3 hx => ?_
    obtain ⟨u, rfl, h11, h12, h13⟩ := hx
    obtain ⟨c, rfl⟩ := Int.eq_ofNat_of_zero_le h8
    exact ⟨.fails c u, by simp [Rl.d], ⟨by omega, h11, by omega⟩, h13.le (by omega)⟩
  · refine wp_mono (h_draw _ n s1 (by omega) (by omega) (by omega) h7) fun x s2 hx => ?_
    obtain ⟨w, rfl, h8, h9, h10⟩ := hx
    simp
    have hm : mulOk (1 + w) t = true := mulOk_r (by omega)
    have hp : 0 ≤ (1 + w) * t := Int.mul_nonneg (by omega) (by omega)
    have hq : (1 + w) * t ≤ 100 * 100 := Int.mul_le_mul (by omega) h4 (by omega) (by omega)
    rw [if_pos hm, wp_ret, add_ii, wp_ret]
    refine wp_mono (h_draw _ _ s2 (by omega) (by omega) (by omega) h10) fun x s3 hx => ?_
    obtain ⟨u, rfl, h11, h12, h13⟩ := hx
    refine wp_mono (h_choice _ _ s3 (by simp) (by simp) (by omega) h13).1 fun x s4 hx => ?_
    obtain ⟨hx, h14⟩ := hx
    have hx : ∃ z : Int, x = .int z ∧ 0 ≤ z := by
      simp at hx
      rcases hx with rfl | rfl
      · exact ⟨0, rfl, by omega⟩
      · exact ⟨2, rfl, by omega⟩
    obtain ⟨z, rfl, hz⟩ := hx
    simp
    obtain ⟨c, rfl⟩ := Int.eq_ofNat_of_zero_le h8
    refine ⟨.best (c + 1) (min 72 (u + z)), ?_, ⟨by omega, by omega, by omega, by omega⟩, h14.le (by omega)⟩
    simp [Rl.d]
    omega
def S_law_scheme (F : Fn) : Prop := ∀ (N : Int) (a b : Int) (s : SV), 1 ≤ a → a ≤ 100 → 1 ≤ b → b ≤ 100 → N ≤ 10000000 → SI N s → wp (F [.int a, .int b]) (fun x s' => ∃ (n : Nat) (t : Int) (rs : List Rl), x = schD n t rs ∧ 1 ≤ n ∧ (n : Int) ≤ a ∧ 1 ≤ t ∧ t ≤ b ∧ rs.length ≤ 6 ∧ okAll n t rs ∧ SI (N + 40) s') s
theorem rng_len (m : Int) : (rngL 0 m).length = m.toNat := by
  unfold rngL
  rw [List.length_map, List.length_range, Int.sub_zero]
/-- a list of rules is drawn -/
theorem rules_wp {G : Sems} {g : D → M (Option D)} {n : Nat} {t m N : Int} {s : SV} {K : Int} {Q : List D → SV → Prop} (hg : ∀ d N s, N ≤ 100000000 → SI N s → wp (g d) (fun o s' => ∃ r : Rl, o = some r.d ∧ r.ok n t ∧ SI (N + 4) s') s) (hm0 : 0 ≤ m) (hm : m ≤ K) (hK : K ≤ 100) (hN : N ≤ 20000000) (h : SI N s)
    (q : ∀ rs s', (rs.length : Int) ≤ m → okAll n t rs → SI (N + 4 * K) s' → Q (rL rs) s') : wp (lcRun g (rngL 0 m)) Q s := by
  refine wp_lcRun (fun ds acc s => ∃ rs : List Rl, acc = rL rs ∧ (rs.length : Int) + ds.length ≤ m ∧ okAll n t rs ∧ SI (N + 4 * (rs.length : Int)) s) ⟨[], rfl, by rw [rng_len]; simp; omega, fun _ h => (nomatch h), h.le (by simp)⟩ (fun d r acc s hI => ?_) (fun acc s hI => ?_)
  · obtain ⟨rs, rfl, q1, q2, q3⟩ := hI
    simp at q1
    refine wp_mono (hg d _ s (by omega) q3) fun o s' hx => ?_
    obtain ⟨x, rfl, r2, r3⟩ := hx
    refine ⟨rs ++ [x], by simp, by simp; omega, fun y hy => ?_, r3.le (by simp; omega)⟩
    rcases List.mem_append.mp hy with hy | hy
    · exact q2 y hy
    · simp at hy
      exact hy ▸ r2
  · obtain ⟨rs, rfl, q1, q2, q3⟩ := hI
    simp at q1
    exact q rs s q1 q2 (q3.le (by omega))
theorem law_scheme_spec {G : Sems} {c_law_draw c_law_choice c_law_rule : Nat} (h_choice : S_law_choice (G c_law_choice)) (h_draw : S_law_draw (G c_law_draw)) (h_rule : S_law_rule (G c_law_rule)) : S_law_scheme (runFn G (f_law_scheme c_law_choice c_law_draw c_law_rule)) := by
  intro N a b s h1 h2 h3 h4 hN h
  simp [f_law_scheme, ini]
  refine wp_mono (h_draw N a s (by omega) (by omega) (by omega) h) fun x s1 hx => ?_
  obtain ⟨u, rfl, u0, u1, hs1⟩ := hx
  simp
  refine wp_mono (h_draw _ b s1 (by omega) (by omega) (by omega) hs1) fun x s2 hx => ?_
  obtain ⟨w, rfl, w0, w1, hs2⟩ := hx
  simp
  refine wp_mono (h_choice _ _ s2 (by simp) (by simp) (by omega) hs2).1 fun x s3 hx => ?_
  obtain ⟨hx, hs3⟩ := hx
  have hm : ∃ m : Int, x = .int m ∧ 0 ≤ m ∧ m ≤ 6 := by
    simp at hx
    rcases hx with rfl | rfl | rfl | rfl | rfl | rfl <;> exact ⟨_, rfl, by omega, by omega⟩
  obtain ⟨m, rfl, m0, m1⟩ := hm
  simp [rngOk_of (a := 0) (b := m) (by omega) (by omega) (by omega) (by omega)]
  obtain ⟨c, rfl⟩ := Int.eq_ofNat_of_zero_le u0
  refine rules_wp (G := G) (n := c + 1) (t := 1 + w) (K := 6) (fun d N s hN hs => ?_) m0 m1 (by omega) (N := N + 3) (by omega) (hs3.le (by omega)) fun rs s' h1 h2 h3 => ?_
  · simp
    rw [show (1 : Int) + (c : Int) = ((c + 1 : Nat) : Int) by omega]
    refine wp_mono (h_rule N (c + 1) (1 + w) s (by omega) (by omega) (by omega) (by omega) hN hs) fun x s' hx => ?_
    obtain ⟨r, rfl, r1, r2⟩ := hx
    exact ⟨r, rfl, r1, r2⟩
  · exact ⟨c + 1, 1 + w, rs, by simp [schD]; omega, by omega, by omega, by omega, by omega, by omega, h2, h3.le (by omega)⟩
def S_law_scheme_for (F : Fn) : Prop := ∀ (N : Int) (n : Nat) (t : Int) (s : SV), 1 ≤ n → n ≤ 100 → 1 ≤ t → t ≤ 100 → N ≤ 10000000 → SI N s → wp (F [.int (n : Nat), .int t]) (fun x s' => ∃ (rs : List Rl), x = schD n t rs ∧ rs.length ≤ 5 ∧ okAll n t rs ∧ SI (N + 40) s') s
theorem law_scheme_for_spec {G : Sems} {c_law_choice c_law_rule : Nat} (h_choice : S_law_choice (G c_law_choice)) (h_rule : S_law_rule (G c_law_rule)) : S_law_scheme_for (runFn G (f_law_scheme_for c_law_choice c_law_rule)) := by
  intro N n t s h1 h2 h3 h4 hN h
  simp [f_law_scheme_for, ini]
  refine wp_mono (h_choice _ _ s (by simp) (by simp) (by omega) h).1 fun x s3 hx => ?_
  obtain ⟨hx, hs3⟩ := hx
  have hm : ∃ m : Int, x = .int m ∧ 0 ≤ m ∧ m ≤ 5 := by
    simp at hx
    rcases hx with rfl | rfl | rfl | rfl | rfl | rfl <;> exact ⟨_, rfl, by omega, by omega⟩
  obtain ⟨m, rfl, m0, m1⟩ := hm
  simp [rngOk_of (a := 0) (b := m) (by omega) (by omega) (by omega) (by omega)]
  refine rules_wp (G := G) (n := n) (t := t) (K := 5) (fun d N s hN hs => ?_) m0 m1 (by omega) (N := N + 1) (by omega) (hs3.le (by omega)) fun rs s' h1 h2 h3 => ?_
  · simp
    refine wp_mono (h_rule N n t s (by omega) (by omega) (by omega) (by omega) hN hs) fun x s' hx => ?_
    obtain ⟨r, rfl, r1, r2⟩ := hx
    exact ⟨r, rfl, r1, r2⟩
  · exact ⟨rs, by simp [schD], by omega, h2, h3.le (by omega)⟩
/-- marks of a result -/
def Mk (n : Nat) (t : Int) (r : List Int) : Prop := r.length = n ∧ ∀ m ∈ r, 0 ≤ m ∧ m ≤ t
theorem Mk.srt {n : Nat} {t : Int} {r : List Int} (h : Mk n t r) : IsRow n t (Wk.srt r) := IsRow.srt h.1 h.2
theorem IsRow.mk' {n : Nat} {t : Int} {r : List Int} (h : IsRow n t r) : Mk n t r := ⟨h.len, fun m hm => ⟨h.lo m hm, h.hi m hm⟩⟩
def S_law_result (F : Fn) : Prop := ∀ (N : Int) (n : Nat) (t : Int) (s : SV), n ≤ 100 → 0 ≤ t → t ≤ 100 → N ≤ 10000000 → SI N s → wp (F [.int (n : Nat), .int t]) (fun x s' => ∃ r : List Int, x = tI r ∧ Mk n t r ∧ SI (N + n) s') s
theorem law_result_spec {G : Sems} {c_law_draw : Nat} (h_draw : S_law_draw (G c_law_draw)) : S_law_result (runFn G (f_law_result c_law_draw)) := by
  intro N n t s h2 h3 h4 hN h
  simp -implicitDefEqProofs [f_law_result, ini, rngOk_of (a := 0) (b := n) (by omega) (by omega) (by omega) (by omega)]
  refine wp_lcRun (fun ds acc s => ∃ r : List Int, acc = iL r ∧ r.length + ds.length = n ∧ (∀ m ∈ r, 0 ≤ m ∧ m ≤ t) ∧ SI (N + (r.length : Int)) s) ⟨[], rfl, by rw [rng_len]; simp, fun _ h => (nomatch h), h.le (by simp)⟩ (fun d r acc s hI => ?_) (fun acc s hI => ?_)
  · obtain ⟨rs, rfl, q1, q2, q3⟩ := hI
    simp at q1
    simp
    refine wp_mono (h_draw _ (t + 1) s (by omega) (by omega) (by omega) q3) fun o s' hx => ?_
    obtain ⟨v, rfl, v0, v1, hs'⟩ := hx
    refine ⟨rs ++ [v], by simp, by simp; omega, fun y hy => ?_, hs'.le (by simp; omega)⟩
    rcases List.mem_append.mp hy with hy | hy
    · exact q2 y hy
    · simp at hy
      omega
  · obtain ⟨rs, rfl, q1, q2, q3⟩ := hI
    simp at q1
    refine ⟨rs, rfl, ⟨q1, q2⟩, q3.le (by omega)⟩
/-! ### kinds, equality -/
def kd (v : D) : Int := match v with
  | .bool _ => 1
  | .int _ => 2
  | .str _ => 3
  | .list _ => 4
  | .tuple _ => 5
  | _ => 6
def S_law_kind (F : Fn) : Prop := ∀ v, pcall (F [v]) = ret (.int (kd v))
theorem law_kind_spec {G : Sems} : S_law_kind (runFn G f_law_kind) := by
  intro v
  cases v <;> simp [f_law_kind, ini, kd]
def S_law_equal (F : Fn) : Prop := (∀ b : Bool, pcall (F [.bool b, .bool b]) = ret (.bool true)) ∧ ∀ v, Tm 10 v → pcall (F [v, v]) = ret (.bool true)
theorem enumL_eq : ∀ (i : Nat) (ds : List D), enumL i ds = (List.range ds.length).map fun j => .tuple [.int ((i + j : Nat) : Int), ds.getD j .none]
  | _, [] => rfl
  | i, d :: ds => by
    show _ :: enumL (i + 1) ds = _
    rw [enumL_eq (i + 1) ds, List.length_cons, List.range_succ_eq_map, List.map_cons, List.map_map]
    congr 1
    refine List.map_congr_left fun j _ => ?_
    show PyData.tuple _ = PyData.tuple _
    rw [show i + 1 + j = i + (j + 1) by omega]
    rfl
theorem law_equal_spec {sem : Nat → List D → M D} {G : Nat → Sems} {c_law_kind self : Nat} (hs : ∀ m, sem (m + 1) = runFn (G m) (f_law_equal c_law_kind self)) (hself : ∀ m, G m self = sem m) (h_kind : ∀ m, S_law_kind (G m c_law_kind)) : S_law_equal (sem 12) := by
  refine ⟨fun b => ?_, ?_⟩
  · rw [hs 11]
    have := h_kind 11
    unfold S_law_kind at this
    simp [f_law_equal, ini, this, kd]
  · have gen : ∀ (m k : Nat) (v : D), k < m → Tm k v → pcall (sem m [v, v]) = ret (.bool true) := by
      intro m
      induction m with
      | zero => intro k v h _; omega
      | succ m ih =>
        intro k v hk hv
        have hkd : ∀ v, pcall (G m c_law_kind [v]) = ret (.int (kd v)) := h_kind m
        have seq : ∀ ds : List D, (∀ d ∈ ds, Tm (k - 1) d) → k ≠ 0 → ∀ g : D → M (Option D), (∀ i : Nat, i < ds.length → g (.tuple [.int (i : Int), ds.getD i .none]) = bnd (pcall (sem m [ds.getD i .none, ds.getD i .none])) fun r => match r with
            | .bool true => ret none
            | _ => stuck) → lcRun g (enumL 0 ds) = ret [] := by
          intro ds hd h0 g hg
          rw [enumL_eq, lc_fm (fun _ => none) (fun i hi => ?_)]
          · congr 1
            induction (List.range ds.length) with
            | nil => rfl
            | cons x l ih => rw [List.filterMap_cons]; exact ih
          · have hi := List.mem_range.mp hi
            rw [Nat.zero_add, hg i hi, ih (k - 1) _ (by omega) (hd _ ?_)]
            · rfl
            · rw [List.getD_eq_getElem?_getD, List.getElem?_eq_getElem hi]
              exact List.getElem_mem hi
        rw [hs m]
        cases v with
        | none => simp [f_law_equal, ini, hkd, kd, eqD_p (p := True) (k := 0) (x := PyData.none) (y := .none) (by simp) (by simp) (by omega) (by simp)]
        | bool b => cases k <;> exact False.elim hv
        | dict b => cases k <;> exact False.elim hv
        | int i => simp [f_law_equal, ini, hkd, kd]
        | str x =>
          have hx : PyData.strOk x = true := by simpa using hv
          simp [f_law_equal, ini, hkd, kd, eqD_str hx hx]
        | list ds =>
          cases k with
          | zero => exact False.elim hv
          | succ k =>
            simp [f_law_equal, ini, hkd, kd]
            rw [seq ds hv (by omega) _ fun i hi => ?_]
            · simp [eqD_p (p := True) (k := 1) (x := PyData.list []) (y := .list []) (by simp) (by simp) (by omega) (by simp)]
            · have e : L2.atI ds (i : Int) = some (ds.getD i .none) := L2.atI_nat (by rw [List.getD_eq_getElem?_getD, List.getElem?_eq_getElem hi]; rfl)
              simp [e, hself]
              rw [ih k _ (by omega) (hv _ ?_)]
              · simp
              · rw [List.getElem?_eq_getElem hi]
                exact List.getElem_mem hi
        | tuple ds =>
          cases k with
          | zero => exact False.elim hv
          | succ k =>
            simp [f_law_equal, ini, hkd, kd]
            rw [seq ds hv (by omega) _ fun i hi => ?_]
            · simp [eqD_p (p := True) (k := 1) (x := PyData.list []) (y := .list []) (by simp) (by simp) (by omega) (by simp)]
            · have e : L2.atI ds (i : Int) = some (ds.getD i .none) := L2.atI_nat (by rw [List.getD_eq_getElem?_getD, List.getElem?_eq_getElem hi]; rfl)
              simp [e, hself]
              rw [ih k _ (by omega) (hv _ ?_)]
              · simp
              · rw [List.getElem?_eq_getElem hi]
                exact List.getElem_mem hi
    exact fun v hv => gen 12 10 v (by omega) hv
def lawInt (v : D) : Bool := match v with
  | .int _ => true
  | _ => false
def S_law_is_int (F : Fn) : Prop := ∀ v, pcall (F [v]) = ret (.bool (lawInt v))
theorem law_is_int_spec {G : Sems} : S_law_is_int (runFn G f_law_is_int) := by
  intro v
  cases v <;> simp [f_law_is_int, ini, lawInt]
end Wk
set_option maxRecDepth 100000
set_option maxHeartbeats 4000000
/-! LS2: checks of schemes, rules, results -/
namespace Wk
open PySem (PyData Str)
def Gd (v : D) : Prop := ∃ B n k, gd B n k v
theorem Gd.tup {ds : List D} (h : Gd (.tuple ds)) : ∀ d ∈ ds, Gd d := by
  obtain ⟨B, n, k, g⟩ := h
  obtain ⟨j, rfl, _, h2⟩ := g.tup
  exact fun d hd => ⟨B, n, j, h2 d hd⟩
theorem Gd.str {x : Str} (h : Gd (.str x)) : PyData.strOk x = true := by
  obtain ⟨B, n, k, g⟩ := h
  cases k <;> simpa [gd] using g
def isB (v : D) (lo hi : Int) : Bool := match v with
  | .int i => decide (lo ≤ i) && decide (i ≤ hi)
  | _ => false
def canRule (s t : Int) (v : D) : Bool := match v with
  | .tuple [.str k, a, b] => if k = sF then isB a 0 (s - 1) && isB b 0 t else decide (k = sB) && (isB a 1 s && isB b 0 72)
  | _ => false
def S_is_between (F : Fn) : Prop := ∀ (v : D) (lo hi : Int), pcall (F [v, .int lo, .int hi]) = ret (.bool (isB v lo hi))
theorem is_between_spec {G : Sems} : S_is_between (runFn G f_is_between) := by
  intro v lo hi
  cases v <;> try rfl
  rename_i i
  by_cases h : lo ≤ i
  · simp -implicitDefEqProofs [f_is_between, ini, isB, h]
  · simp -implicitDefEqProofs [f_is_between, ini, isB, h]
def S_can_be_rule (F : Fn) : Prop := ∀ (su to : Int) (v : D), Gd v → pcall (F [.int su, .int to, v]) = ret (.bool (canRule su to v))
theorem can_be_rule_spec {G : Sems} {c_is_between : Nat} (hb : S_is_between (G c_is_between)) : S_can_be_rule (runFn G (f_can_be_rule c_is_between)) := by
  intro su to v g
  have hb : ∀ (v : D) (lo hi : Int), pcall (G c_is_between [v, .int lo, .int hi]) = ret (.bool (isB v lo hi)) := hb
  cases v <;> try rfl
  rename_i ds
  by_cases hl : ds.length = 3
  · match ds, hl with
    | [a, b, c], _ =>
      cases a with
      | str x =>
        have gx : PyData.strOk x = true := (g.tup (.str x) (by simp)).str
        by_cases h1 : x = sF
        · subst h1
          by_cases h2 : isB b 0 (su - 1) = true <;> simp -implicitDefEqProofs [f_can_be_rule, ini, canRule, hb, eqD_str okF okF, h2]
        · by_cases h3 : x = sB
          · subst h3
            by_cases h2 : isB b 1 su = true <;> simp -implicitDefEqProofs [f_can_be_rule, ini, canRule, hb, eqD_str okB okF, eqD_str okB okB, h2, h1]
          · simp -implicitDefEqProofs [f_can_be_rule, ini, canRule, hb, eqD_str gx okF, eqD_str gx okB, h3, h1]
      | none => simp -implicitDefEqProofs [f_can_be_rule, ini, canRule]
      | bool _ => simp -implicitDefEqProofs [f_can_be_rule, ini, canRule]
      | int _ => simp -implicitDefEqProofs [f_can_be_rule, ini, canRule]
      | list _ => simp -implicitDefEqProofs [f_can_be_rule, ini, canRule]
      | tuple _ => simp -implicitDefEqProofs [f_can_be_rule, ini, canRule]
      | dict _ => simp -implicitDefEqProofs [f_can_be_rule, ini, canRule]
  · have hl' : ¬ ((ds.length : Int) = 3) := by omega
    have : canRule su to (.tuple ds) = false := by
      unfold canRule
      split
      · rename_i e
        cases e
        exact absurd rfl hl
      · rfl
    simp -implicitDefEqProofs [f_can_be_rule, ini, this, hl']
def isSch (v : D) : Bool := match v with
  | .tuple [.int s, .int t, .tuple rs] => (decide (1 ≤ s) && decide (s ≤ 6)) && ((decide (1 ≤ t) && decide (t ≤ 12)) && (decide (rs.length ≤ 6) && rs.all (canRule s t)))
  | _ => false
def S_is_scheme (F : Fn) : Prop := ∀ (v : D), Gd v → pcall (F [v]) = ret (.bool (isSch v))
theorem is_scheme_spec {G : Sems} {c_is_between c_can_be_rule : Nat} (hb : S_is_between (G c_is_between)) (hr : S_can_be_rule (G c_can_be_rule)) : S_is_scheme (runFn G (f_is_scheme c_is_between c_can_be_rule)) := by
  intro v g
  have hb : ∀ (v : D) (lo hi : Int), pcall (G c_is_between [v, .int lo, .int hi]) = ret (.bool (isB v lo hi)) := hb
  cases v <;> try rfl
  rename_i ds
  by_cases hl : ds.length = 3
  · match ds, hl with
    | [a, b, c], _ =>
      cases c with
      | tuple rs =>
        have hg2 := (g.tup (.tuple rs) (by simp)).tup
        cases a with
        | int s =>
          cases b with
          | int t =>
            by_cases h1 : isB (.int s) 1 6 = true
            · by_cases h2 : isB (.int t) 1 12 = true
              · by_cases h3 : rs.length ≤ 6
                · have h3' : ¬ ((6 : Int) < (rs.length : Int)) := by omega
                  simp -implicitDefEqProofs [f_is_scheme, ini, hb, h1, h2, h3']
                  rw [lcRun_map (h := fun d => .bool (canRule s t d)) (fun d hd => by simp -implicitDefEqProofs [hr s t d (hg2 d hd)])]
                  simp -implicitDefEqProofs
                  rw [all_b]
                  simp [isB] at h1 h2
                  simp -implicitDefEqProofs [isSch, h1, h2, h3]
                · have h3' : ((6 : Int) < (rs.length : Int)) := by omega
                  simp -implicitDefEqProofs [f_is_scheme, ini, hb, h1, h2, h3', isSch, h3]
              · have : isSch (.tuple [.int s, .int t, .tuple rs]) = false := by
                  simp [isB] at h2
                  simp [isSch]
                  intro _ _ q
                  omega
                simp -implicitDefEqProofs [f_is_scheme, ini, hb, h1, h2, this]
            · have : isSch (.tuple [.int s, .int t, .tuple rs]) = false := by
                simp [isB] at h1
                simp [isSch]
                intro q
                omega
              simp -implicitDefEqProofs [f_is_scheme, ini, hb, h1, this]
          | _ =>
            by_cases h1 : isB (.int s) 1 6 = true <;> simp -implicitDefEqProofs [f_is_scheme, ini, hb, h1, isSch, isB]
        | _ => simp -implicitDefEqProofs [f_is_scheme, ini, hb, isSch, isB]
      | _ => simp -implicitDefEqProofs [f_is_scheme, ini, hb, isSch, isB]
  · have hl' : ¬ ((ds.length : Int) = 3) := by omega
    have : isSch (.tuple ds) = false := by
      unfold isSch
      split
      · rename_i e
        cases e
        exact absurd rfl hl
      · rfl
    simp -implicitDefEqProofs [f_is_scheme, ini, this, hl']
/-! ### schemes that are fit -/
structure Sch (n : Nat) (t : Int) (rs : List Rl) : Prop where
  n1 : 1 ≤ n
  n2 : n ≤ 6
  t1 : 1 ≤ t
  t2 : t ≤ 12
  many : rs.length ≤ 6
  ok : okAll n t rs
theorem canRule_iff {n : Nat} {t : Int} {x : Rl} : canRule n t x.d = true ↔ x.ok n t := by
  cases x with
  | fails c k =>
    simp [canRule, Rl.d, Rl.ok, isB]
    omega
  | best c k =>
    simp [canRule, Rl.d, Rl.ok, isB, sB_ne]
    omega
theorem isSch_of {n : Nat} {t : Int} {rs : List Rl} (h : Sch n t rs) : isSch (schD n t rs) = true := by
  have h1 := h.n1
  have h2 := h.n2
  have h3 := h.t1
  have h4 := h.t2
  have h5 := h.many
  have h6 : ((rL rs).all (canRule n t)) = true := by
    rw [List.all_eq_true]
    intro d hd
    obtain ⟨x, hx, rfl⟩ := List.mem_map.mp hd
    exact canRule_iff.mpr (h.ok x hx)
  simp only [isSch, h6]
  simp
  omega
theorem Gd_of_Tm {k : Nat} : ∀ {v : D}, Tm k v → Gd v := by
  induction k with
  | zero =>
    intro v h
    cases v with
    | none => exact ⟨0, 0, 0, trivial⟩
    | int i => exact ⟨i.natAbs, 0, 0, by simp [gd]; omega⟩
    | str x => exact ⟨0, 0, 0, h⟩
    | _ => exact False.elim h
  | succ k ih =>
    have all : ∀ ds : List D, (∀ d ∈ ds, Tm k d) → ∃ B n j, ∀ d ∈ ds, gd B n j d := by
      intro ds
      induction ds with
      | nil => exact fun _ => ⟨0, 0, 0, fun d h => (nomatch h)⟩
      | cons x ds ih2 =>
        intro h
        obtain ⟨B, n, j, h1⟩ := ih (h x List.mem_cons_self)
        obtain ⟨B', n', j', h2⟩ := ih2 fun d hd => h d (List.mem_cons_of_mem _ hd)
        refine ⟨max B B', max n n', max j j', fun d hd => ?_⟩
        rcases List.mem_cons.mp hd with rfl | hd
        · exact h1.mono (by omega) (by omega) (by omega)
        · exact (h2 d hd).mono (by omega) (by omega) (by omega)
    intro v h
    cases v with
    | none => exact ⟨0, 0, 0, trivial⟩
    | int i => exact ⟨i.natAbs, 0, 0, by simp [gd]; omega⟩
    | str x => exact ⟨0, 0, 0, h⟩
    | list ds =>
      obtain ⟨B, n, j, h1⟩ := all ds h
      exact ⟨B, max n ds.length, j + 1, by simp only [gd]; exact ⟨by omega, fun d hd => (h1 d hd).mono (by omega) (by omega) (Nat.le_refl _)⟩⟩
    | tuple ds =>
      obtain ⟨B, n, j, h1⟩ := all ds h
      exact ⟨B, max n ds.length, j + 1, by simp only [gd]; exact ⟨by omega, fun d hd => (h1 d hd).mono (by omega) (by omega) (Nat.le_refl _)⟩⟩
    | bool b => exact False.elim h
    | dict b => exact False.elim h
theorem Tm_sch {n : Nat} {t : Int} {rs : List Rl} {k : Nat} : Tm (k + 3) (schD n t rs) := by
  intro d hd
  simp only [List.mem_cons, List.not_mem_nil, or_false] at hd
  rcases hd with rfl | rfl | rfl
  · simp
  · simp
  · exact Tm_rs
theorem Gd_sch {n : Nat} {t : Int} {rs : List Rl} : Gd (schD n t rs) := Gd_of_Tm (k := 3) Tm_sch
def S_check_scheme (F : Fn) : Prop := ∀ v, Gd v → pcall (F [v]) = if isSch v = true then ret .none else rai (Str.ofString "InvalidScheme")
theorem check_scheme_spec {G : Sems} {c_is_scheme : Nat} (hs : S_is_scheme (G c_is_scheme)) : S_check_scheme (runFn G (f_check_scheme c_is_scheme)) := by
  intro v g
  have := hs v g
  cases h : isSch v with
  | false =>
    rw [h] at this
    simp -implicitDefEqProofs [f_check_scheme, ini, this]
  | true =>
    rw [h] at this
    simp -implicitDefEqProofs [f_check_scheme, ini, this]
theorem chk_sch {F : Fn} (h : S_check_scheme F) {n : Nat} {t : Int} {rs : List Rl} (hs : Sch n t rs) : pcall (F [schD n t rs]) = ret .none := by
  rw [h _ Gd_sch, isSch_of hs, if_pos rfl]
def S_is_rule (F : Fn) : Prop := ∀ (n : Nat) (t : Int) (rs : List Rl) (v : D), Sch n t rs → Gd v → pcall (F [schD n t rs, v]) = ret (.bool (canRule n t v))
theorem is_rule_spec {G : Sems} {c_check_scheme c_can_be_rule : Nat} (hc : S_check_scheme (G c_check_scheme)) (hr : S_can_be_rule (G c_can_be_rule)) : S_is_rule (runFn G (f_is_rule c_check_scheme c_can_be_rule)) := by
  intro n t rs v hs g
  simp -implicitDefEqProofs [f_is_rule, ini, chk_sch hc hs, hr _ _ _ g]
/-- a result -/
def isRes (n : Nat) (t : Int) (v : D) : Bool := match v with
  | .tuple ds => decide (ds.length = n) && ds.all fun d => isB d 0 t
  | _ => false
def S_can_be_result (F : Fn) : Prop := ∀ (n : Nat) (t : Int) (rs v : D), pcall (F [.tuple [.int (n : Nat), .int t, rs], v]) = ret (.bool (isRes n t v))
theorem can_be_result_spec {G : Sems} {c_is_between : Nat} (hb : S_is_between (G c_is_between)) : S_can_be_result (runFn G (f_can_be_result c_is_between)) := by
  intro n t rs v
  have hb : ∀ (v : D) (lo hi : Int), pcall (G c_is_between [v, .int lo, .int hi]) = ret (.bool (isB v lo hi)) := hb
  cases v with
  | tuple ds =>
    by_cases h : ds.length = n
    · simp -implicitDefEqProofs [f_can_be_result, ini, h]
      rw [lcRun_map (h := fun d => .bool (isB d 0 t)) (fun d hd => by simp -implicitDefEqProofs [hb])]
      simp -implicitDefEqProofs
      rw [all_b]
      simp [isRes, h]
    · have h' : ¬ ((ds.length : Int) = (n : Int)) := by omega
      simp -implicitDefEqProofs [f_can_be_result, ini, h', isRes, h]
  | _ => simp -implicitDefEqProofs [f_can_be_result, ini, isRes]
theorem isRes_of {n : Nat} {t : Int} {r : List Int} (h : Mk n t r) : isRes n t (tI r) = true := by
  unfold isRes
  simp only [iL_len, h.1, decide_true, Bool.true_and, List.all_eq_true]
  intro d hd
  obtain ⟨i, hi, rfl⟩ := mem_iL hd
  have := h.2 i hi
  simp [isB]
  omega
def S_is_result (F : Fn) : Prop := ∀ (n : Nat) (t : Int) (rs : List Rl) (v : D), Sch n t rs → pcall (F [schD n t rs, v]) = ret (.bool (isRes n t v))
theorem is_result_spec {G : Sems} {c_check_scheme c_can_be_result : Nat} (hc : S_check_scheme (G c_check_scheme)) (hr : S_can_be_result (G c_can_be_result)) : S_is_result (runFn G (f_is_result c_check_scheme c_can_be_result)) := by
  intro n t rs v hs
  have hr : ∀ (n : Nat) (t : Int) (rs v : D), pcall (G c_can_be_result [.tuple [.int (n : Nat), .int t, rs], v]) = ret (.bool (isRes n t v)) := hr
  simp -implicitDefEqProofs [f_is_result, ini, chk_sch hc hs, hr]
def S_check_result (F : Fn) : Prop := ∀ (n : Nat) (t : Int) (rs : List Rl) (v : D), Sch n t rs → pcall (F [schD n t rs, v]) = if isRes n t v = true then ret .none else rai (Str.ofString "InvalidResult")
theorem check_result_spec {G : Sems} {c_check_scheme c_can_be_result : Nat} (hc : S_check_scheme (G c_check_scheme)) (hr : S_can_be_result (G c_can_be_result)) : S_check_result (runFn G (f_check_result c_check_scheme c_can_be_result)) := by
  intro n t rs v hs
  have hr := hr n t (rsD rs) v
  cases h : isRes n t v with
  | false =>
    rw [h] at hr
    simp -implicitDefEqProofs [f_check_result, ini, chk_sch hc hs, hr]
  | true =>
    rw [h] at hr
    simp -implicitDefEqProofs [f_check_result, ini, chk_sch hc hs, hr]
theorem chk_res {F : Fn} (h : S_check_result F) {n : Nat} {t : Int} {rs : List Rl} {r : List Int} (hs : Sch n t rs) (hr : Mk n t r) : pcall (F [schD n t rs, tI r]) = ret .none := by
  rw [h n t rs _ hs, isRes_of hr, if_pos rfl]
end Wk
set_option maxRecDepth 100000
set_option maxHeartbeats 4000000
/-! LS3: rules kept; rows -/
namespace Wk
open PySem (PyData Str)
/-- a list or a tuple of ints -/
def Sq (w : D) (r : List Int) : Prop := w = tI r ∨ w = .list (iL r)
theorem Sq.t (r : List Int) : Sq (tI r) r := .inl rfl
theorem Sq.l (r : List Int) : Sq (.list (iL r)) r := .inr rfl
def S_holds (F : Fn) : Prop := ∀ (x : Rl) (n : Nat) (t : Int) (w : D) (r : List Int), x.ok n t → r.length = n → n ≤ 100 → Sq w r → pcall (F [x.d, w]) = ret (.bool (holdsR x r))
theorem holds_spec {G : Sems} : S_holds (runFn G f_holds) := by
  intro x n t w r hx hl hn hw
  cases x with
  | fails c k =>
    rcases hw with rfl | rfl
    all_goals
      simp -implicitDefEqProofs [f_holds, ini, Rl.d, eqD_str okF okF]
      rw [lci_filter (fun m => decide (m < k)) (fun m hm => by
        by_cases h : m < k <;> simp -implicitDefEqProofs [h])]
      simp -implicitDefEqProofs [holdsR]
  | best c k =>
    have hc : 1 ≤ c ∧ c ≤ n ∧ 0 ≤ k ∧ k ≤ 72 := hx
    have e : cutD (iL (srt r)) (some ((r.length : Int) - (c : Int))) none = iL ((srt r).drop (r.length - c)) := by
      rw [cut_from (by omega), iL_drop, show ((r.length : Int) - (c : Int)).toNat = r.length - c by omega]
    rcases hw with rfl | rfl
    all_goals
      simp -implicitDefEqProofs [f_holds, ini, Rl.d, eqD_str okB okF, sB_ne, e, holdsR, bestSum]
      rfl
def S_keeps (F : Fn) : Prop := ∀ (rs : List Rl) (n : Nat) (t : Int) (w : D) (r : List Int), okAll n t rs → r.length = n → n ≤ 100 → Sq w r → pcall (F [rsD rs, w]) = ret (.bool (keepsR rs r))
theorem keeps_spec {G : Sems} {c_holds : Nat} (h : S_holds (G c_holds)) : S_keeps (runFn G (f_keeps c_holds)) := by
  intro rs n t w r ho hl hn hw
  simp -implicitDefEqProofs [f_keeps, ini]
  rw [lcr_map (fun x => .bool (holdsR x r)) (fun x hx => by
    simp -implicitDefEqProofs [h x n t w r (ho x hx) hl hn hw])]
  simp -implicitDefEqProofs
  rw [all_b]
  simp -implicitDefEqProofs [keepsR]
def S_passes (F : Fn) : Prop := ∀ (n : Nat) (t : Int) (rs : List Rl) (r : List Int), Sch n t rs → Mk n t r → pcall (F [schD n t rs, tI r]) = ret (.bool (keepsR rs r))
theorem passes_spec {G : Sems} {c_check_result c_keeps : Nat} (hc : S_check_result (G c_check_result)) (hk : S_keeps (G c_keeps)) : S_passes (runFn G (f_passes c_check_result c_keeps)) := by
  intro n t rs r hs hr
  simp -implicitDefEqProofs [f_passes, ini, chk_res hc hs hr, hk rs n t _ r hs.ok hr.1 (by have := hs.n2; omega) (.t r)]
def brokenL (rs : List Rl) (r : List Int) : List Int := ((List.range rs.length).filter fun i => !((rs[i]?.map fun x => holdsR x r).getD true)).map fun i => ((i : Nat) : Int)
theorem enum_rL {xs : List Rl} : enumL 0 (rL xs) = (List.range xs.length).map fun (i : Nat) => .tuple [.int (i : Int), (rL xs).getD i .none] := by
  rw [enumL_eq, rL_len]
  refine List.map_congr_left fun i _ => ?_
  rw [Nat.zero_add]
theorem enum_iL {xs : List Int} : enumL 0 (iL xs) = (List.range xs.length).map fun (i : Nat) => .tuple [.int (i : Int), (iL xs).getD i .none] := by
  rw [enumL_eq, iL_len]
  refine List.map_congr_left fun i _ => ?_
  rw [Nat.zero_add]
theorem getD_rL {xs : List Rl} {i : Nat} (h : i < xs.length) : (rL xs).getD i .none = (xs[i]).d := by
  unfold rL
  rw [List.getD_eq_getElem?_getD, List.getElem?_map, List.getElem?_eq_getElem h]
  rfl
theorem getD_iL {xs : List Int} {i : Nat} (h : i < xs.length) : (iL xs).getD i .none = .int (at0 xs i) := by
  unfold iL
  rw [List.getD_eq_getElem?_getD, List.getElem?_map, List.getElem?_eq_getElem h, at0_get h]
  rfl
/-- a comprehension that picks indices -/
theorem lc_pick {g : D → M (Option D)} {h : Nat → D} (p : Nat → Bool) (q : Nat → Int) {l : List Nat} (e : ∀ i ∈ l, g (h i) = ret (if p i = true then some (.int (q i)) else none)) : lcRun g (l.map h) = ret (iL ((l.filter p).map q)) := by
  rw [lc_fm (fun i => if p i = true then some (.int (q i)) else none) e]
  congr 1
  clear e
  induction l with
  | nil => rfl
  | cons x xs ih =>
    rw [List.filterMap_cons, List.filter_cons]
    cases p x <;> simp [ih, iL_cons]
def S_broken (F : Fn) : Prop := ∀ (n : Nat) (t : Int) (rs : List Rl) (r : List Int), Sch n t rs → Mk n t r → pcall (F [schD n t rs, tI r]) = ret (.list (iL (brokenL rs r)))
/-- broken rules, by any holds -/
theorem broken_lc {g : D → M (Option D)} {rs : List Rl} {r : List Int} (hg : ∀ (i : Nat) (hi : i < rs.length), g (.tuple [.int (i : Int), rs[i].d]) = ret (if holdsR rs[i] r = true then none else some (.int (i : Int)))) : lcRun g (enumL 0 (rL rs)) = ret (iL (brokenL rs r)) := by
  rw [enum_rL, lc_pick (fun i => !((rs[i]?.map fun x => holdsR x r).getD true)) (fun i => (i : Int)) fun i hi => ?_]
  · rfl
  · have hi := List.mem_range.mp hi
    rw [getD_rL hi, List.getElem?_eq_getElem hi, hg i hi]
    cases h2 : holdsR rs[i] r <;> simp [h2]
theorem broken_spec {G : Sems} {c_check_result c_holds : Nat} (hc : S_check_result (G c_check_result)) (hh : S_holds (G c_holds)) : S_broken (runFn G (f_broken c_check_result c_holds)) := by
  intro n t rs r hs hr
  simp -implicitDefEqProofs [f_broken, ini, chk_res hc hs hr]
  rw [broken_lc (r := r) fun i hi => ?_]
  · simp -implicitDefEqProofs
  · have e := hh rs[i] n t (tI r) r (hs.ok _ (List.getElem_mem hi)) hr.1 (by have := hs.n2; omega) (.t r)
    cases h2 : holdsR rs[i] r <;> rw [h2] at e <;> simp -implicitDefEqProofs [e]
/-! ### the same by the law -/
abbrev S_law_holds (F : Fn) : Prop := S_holds F
/-- a loop that changes one thing, by what is left -/
theorem for_fold {σ : Type} {body : Env → M Fl} {b : D → Env → Option Env} {E : σ → Env} {α : Type} (f : α → D) (st : σ → α → σ) : ∀ {xs : List α}, (∀ x ∈ xs, ∀ a, ∃ e1, b (f x) (E a) = some e1 ∧ body e1 = ret (.nx (E (st a x)))) → ∀ a : σ, forRun body b (xs.map f) (E a) = ret (.nx (E (xs.foldl st a)))
  | [], _, a => rfl
  | x :: xs, hb, a => by
    obtain ⟨e1, h1, h2⟩ := hb x List.mem_cons_self a
    rw [List.map_cons]
    unfold forRun
    rw [h1]
    dsimp only
    rw [h2, bnd_ret]
    dsimp only
    rw [for_fold f st (fun y hy => hb y (List.mem_cons_of_mem _ hy)), List.foldl_cons]
theorem low_fold {k : Int} : ∀ (r : List Int) (a : Int), r.foldl (fun a m => a + (if m < k then 1 else 0)) a = a + ((r.filter fun m => decide (m < k)).length : Int)
  | [], a => by simp
  | m :: r, a => by
    rw [List.foldl_cons, low_fold r, List.filter_cons]
    by_cases h : m < k
    · simp [h]
      omega
    · simp [h]
theorem maxL_sup {r : List Int} (h : r ≠ []) : maxL r ∈ r ∧ ∀ x ∈ r, x ≤ maxL r := ⟨maxL_mem h, fun x hx => maxL_ge hx⟩
def LHI (n c : Nat) (k : Int) (r : List Int) (i : Int) (env : Env) : Prop := ∃ (j : Nat) (q : List Int) (a : Int), i = j ∧ env = [.un, .un, .un, .un, .im (.int c), .im (.int k), .un, .un, .ow (iL q), .im (.int a), .un] ∧ q.length + j = n ∧ a + bestSum (c - j) q = bestSum c r
theorem law_holds_spec {G : Sems} : S_law_holds (runFn G f_law_holds) := by
  intro x n t w r hx hl hn hw
  cases x with
  | fails c k =>
    rcases hw with rfl | rfl
    all_goals
      simp -implicitDefEqProofs [f_law_holds, ini, Rl.d, eqD_str okF okF]
      unfold iL
      rw [for_fold (E := fun a => [.un, _, _, .un, .im (.int c), .im (.int k), .im (.int a), .un, .un, .un, .un]) PyData.int (fun a m => a + (if m < k then 1 else 0)) (fun m _ a => ⟨_, by simp -implicitDefEqProofs; rfl, by
        by_cases h : m < k <;> simp -implicitDefEqProofs [h]⟩), low_fold]
      simp -implicitDefEqProofs [holdsR]
  | best c k =>
    have hc : 1 ≤ c ∧ c ≤ n ∧ 0 ≤ k ∧ k ≤ 72 := hx
    rcases hw with rfl | rfl
    all_goals
      refine pcall_of ?_
      simp -implicitDefEqProofs [f_law_holds, ini, Rl.d, eqD_str okB okF, sB_ne, rngOk_of (a := 0) (b := c) (by omega) (by omega) (by omega) (by omega)]
      refine wp_mono (wp_forR (Q := fun f s => ∃ q, f = .nx [.un, .un, .un, .un, .im (.int c), .im (.int k), .un, .un, .ow (iL q), .im (.int (bestSum c r)), .un]) (fun i env s => LHI n c k r i env) (by omega) ⟨0, r, 0, rfl, rfl, hl, by simp⟩ ?_ ?_) ?_
      · rintro i env s h0 h1 ⟨j, q, a, rfl, rfl, h2, h3⟩
        refine ⟨_, by simp -implicitDefEqProofs; rfl, ?_⟩
        have hq : q ≠ [] := by
          intro h
          subst h
          simp at h2
          omega
        obtain ⟨m1, m2⟩ := maxL_sup hq
        simp -implicitDefEqProofs [max_l hq, m1]
        obtain ⟨d, hd⟩ : ∃ d, c - j = d + 1 := ⟨c - j - 1, by omega⟩
        have hln := List.length_erase_of_mem m1
        have hps := List.length_pos_of_mem m1
        rw [hd, bestSum_erase m1 m2 (by omega)] at h3
        refine ⟨j + 1, q.erase (maxL q), _, by omega, rfl, by omega, ?_⟩
        rw [show c - (j + 1) = d by omega]
        omega
      · rintro env s ⟨j, q, a, hj, rfl, h2, h3⟩
        have : j = c := by omega
        subst this
        rw [Nat.sub_self, bestSum_zero] at h3
        exact ⟨q, by rw [← h3, Int.add_zero]⟩
      · rintro f s ⟨q, rfl⟩
        simp -implicitDefEqProofs [holdsR]
def S_law_keeps (F : Fn) : Prop := S_keeps F
theorem law_keeps_spec {G : Sems} {c_law_holds : Nat} (h : S_law_holds (G c_law_holds)) : S_law_keeps (runFn G (f_law_keeps c_law_holds)) := by
  intro rs n t w r ho hl hn hw
  simp -implicitDefEqProofs [f_law_keeps, ini]
  rw [lcr_filter (fun x => !holdsR x r) (fun x hx => by
    have e := h x n t w r (ho x hx) hl hn hw
    cases h2 : holdsR x r <;> rw [h2] at e <;> simp -implicitDefEqProofs [e])]
  simp -implicitDefEqProofs
  rw [eqD_p (k := 2) (p := keepsR rs r = true) (x := .list (rL _)) (y := .list []) Tm_rs (by simp) (by omega) ?_]
  · simp -implicitDefEqProofs
  · simp [keepsR, List.filter_eq_nil_iff]
/-! ### all rows -/
/-- the same by appending -/
theorem rows_fold (t : Int) (rows : List (List Int)) : ∀ acc : List (List Int), rows.foldl (fun a r => a ++ (upTo (lastOr0 r) t).map fun m => r ++ [m]) acc = acc ++ rows.flatMap fun r => (upTo (lastOr0 r) t).map fun m => r ++ [m] := by
  induction rows with
  | nil => intro acc; simp
  | cons r rows ih =>
    intro acc
    rw [List.foldl_cons, ih, List.flatMap_cons, List.append_assoc]
theorem upTo_len {a t : Int} : (upTo a t).length = (t + 1 - a).toNat := by
  unfold upTo
  rw [List.length_map, List.length_range]
theorem rowsL_len {t : Int} (h0 : 0 ≤ t) (h : t ≤ 12) : ∀ n : Nat, (rowsL n t).length ≤ 13 ^ n
  | 0 => by simp [rowsL]
  | n + 1 => by
    have ih := rowsL_len h0 h n
    have key : ∀ l : List (List Int), (∀ r ∈ l, 0 ≤ lastOr0 r) → (l.flatMap fun r => (upTo (lastOr0 r) t).map fun m => r ++ [m]).length ≤ l.length * 13 := by
      intro l
      induction l with
      | nil => simp
      | cons r l ih =>
        intro hl
        rw [List.flatMap_cons, List.length_append, List.length_map, upTo_len, List.length_cons]
        have := ih fun x hx => hl x (List.mem_cons_of_mem _ hx)
        have := hl r List.mem_cons_self
        omega
    have := key (rowsL n t) fun r hr => by
      have hr := rowsL_mem.mp hr
      rcases List.eq_nil_or_concat r with rfl | ⟨l, y, rfl⟩
      · simp [lastOr0]
      · rw [List.concat_eq_append] at *
        rw [lastOr0_snoc]
        exact hr.lo y (by simp)
    show ((rowsL n t).flatMap _).length ≤ _
    rw [Nat.pow_succ]
    omega
end Wk
set_option maxRecDepth 100000
set_option maxHeartbeats 4000000
/-! LS4: all rows, best sums -/
namespace Wk
open PySem (PyData Str)
theorem wp_eq {α : Type} {m m' : M α} {Q : α → SV → Prop} {s : SV} (h : m = m') (w : wp m' Q s) : wp m Q s := h ▸ w
theorem sizeOk_of {n : Nat} (h : n ≤ 16777216) : sizeOk n = true := by
  unfold sizeOk
  exact decide_eq_true h
abbrev nextRows (t : Int) (rows : List (List Int)) : List (List Int) := rows.flatMap fun r => (upTo (lastOr0 r) t).map fun m => r ++ [m]
theorem wL_map {α : Type} {f : α → List Int} {l : List α} : wL (l.map f) = l.map fun x => tI (f x) := by
  unfold wL
  rw [List.map_map]
  rfl
theorem rows_lo {n : Nat} {t : Int} {r : List Int} (h : r ∈ rowsL n t) : 0 ≤ lastOr0 r ∧ (r ≠ [] → lastOr0 r ≤ t) := by
  have hr := rowsL_mem.mp h
  rcases List.eq_nil_or_concat r with rfl | ⟨l, y, rfl⟩
  · simp [lastOr0]
  · rw [List.concat_eq_append] at *
    rw [lastOr0_snoc]
    exact ⟨hr.lo y (by simp), fun _ => hr.hi y (by simp)⟩
theorem rows_lo2 {n : Nat} {t : Int} {r : List Int} (h2 : 0 ≤ t) (hn : n ≤ 6) (h : r ∈ rowsL n t) : 0 ≤ lastOr0 r ∧ lastOr0 r ≤ t ∧ r.length ≤ 6 := by
  refine ⟨(rows_lo h).1, ?_, by rw [(rowsL_mem.mp h).len]; exact hn⟩
  by_cases hr : r = []
  · subst hr
    exact h2
  · exact (rows_lo h).2 hr
theorem neD_tn {r : List Int} : neD (tI r) (.tuple []) = ret (.bool (!decide (r = []))) := neD_p (k := 1) (x := tI r) (y := .tuple []) Tm_tI (by simp) (by omega) (by simp)
theorem ix_last {r : List Int} (h : r ≠ []) : ixD (tI r) (.int (-1)) = ret (.int (lastOr0 r)) := by
  rcases List.eq_nil_or_concat r with rfl | ⟨l, y, rfl⟩
  · exact absurd rfl h
  · rw [List.concat_eq_append, lastOr0_snoc, ix_t]
    unfold L2.atI L2.ixN
    have e : (iL (l ++ [y])).length = l.length + 1 := by simp
    rw [e, if_neg (by omega), if_pos (by omega)]
    show (match (iL (l ++ [y]))[((-1 : Int) + ((l.length + 1 : Nat) : Int)).toNat]? with
      | some d => ret d
      | none => stuck) = _
    rw [show ((-1 : Int) + ((l.length + 1 : Nat) : Int)).toNat = l.length by omega]
    unfold iL
    simp
/-- one more rank: the loop over rows -/
theorem rows_loop {body : Env → M Fl} {b : D → Env → Option Env} {E : List (List Int) → Env} {t : Int} (hb : ∀ (r : List Int) (acc : List (List Int)), 0 ≤ lastOr0 r → lastOr0 r ≤ t → r.length ≤ 6 → (acc ++ (upTo (lastOr0 r) t).map fun m => r ++ [m]).length ≤ 16777216 → ∃ e1, b (tI r) (E acc) = some e1 ∧ body e1 = ret (.nx (E (acc ++ (upTo (lastOr0 r) t).map fun m => r ++ [m])))) : ∀ (rows acc : List (List Int)), (∀ r ∈ rows, 0 ≤ lastOr0 r ∧ lastOr0 r ≤ t ∧ r.length ≤ 6) → (acc ++ nextRows t rows).length ≤ 16777216 →
    forRun body b (wL rows) (E acc) = ret (.nx (E (acc ++ nextRows t rows)))
  | [], acc, _, _ => by
    simp [forRun, nextRows]
  | r :: rows, acc, h0, hl => by
    have hl' : (acc ++ (upTo (lastOr0 r) t).map (fun m => r ++ [m]) ++ nextRows t rows).length ≤ 16777216 := by
      simpa [nextRows, List.flatMap_cons] using hl
    obtain ⟨e1, h1, h2⟩ := hb r acc (h0 r List.mem_cons_self).1 (h0 r List.mem_cons_self).2.1 (h0 r List.mem_cons_self).2.2 (by rw [List.length_append] at hl'; omega)
    rw [wL_cons]
    unfold forRun
    rw [h1]
    dsimp only
    rw [h2, bnd_ret]
    dsimp only
    rw [rows_loop hb rows _ (fun x hx => h0 x (List.mem_cons_of_mem _ hx)) hl']
    simp [nextRows, List.flatMap_cons]
theorem pow13 {n : Nat} (h : n ≤ 6) : 13 ^ n ≤ 4826809 := by
  have : (13 : Nat) ^ n ≤ 13 ^ 6 := Nat.pow_le_pow_right (by omega) h
  omega
def S_law_rows (F : Fn) : Prop := ∀ (n : Nat) (t : Int), n ≤ 6 → 0 ≤ t → t ≤ 12 → pcall (F [.int (n : Nat), .int t]) = ret (.list (wL (rowsL n t)))
def LRI (n : Nat) (t : Int) (i : Int) (env : Env) : Prop := ∃ j : Nat, i = j ∧ env = [.im (.int n), .im (.int t), .im (.list (wL (rowsL j t))), .un, .un, .un, .un]
theorem row_step {t : Int} {r : List Int} {g : D → M (Option D)} (hg : ∀ m, g (.int m) = ret (some (tI (r ++ [m])))) : lcRun g (rngL (lastOr0 r) (t + 1)) = ret (wL ((upTo (lastOr0 r) t).map fun m => r ++ [m])) := by
  rw [rngL_eq, show t + 1 - 1 = t by omega, lci_map (fun m => tI (r ++ [m])) fun m _ => hg m, wL_map]
theorem law_rows_spec {G : Sems} : S_law_rows (runFn G f_law_rows) := by
  intro n t h1 h2 h3
  refine pcall_of ?_
  simp -implicitDefEqProofs [f_law_rows, ini, rngOk_of (a := 0) (b := n) (by omega) (by omega) (by omega) (by omega)]
  refine wp_mono (wp_forR (Q := fun f _ => f = .nx [.im (.int n), .im (.int t), .im (.list (wL (rowsL n t))), .un, .un, .un, .un]) (fun i env s => LRI n t i env) (by omega) ⟨0, rfl, by simp [rowsL, wL, tI]⟩ ?_ ?_) ?_
  · rintro i env s h0 h4 ⟨j, rfl, rfl⟩
    refine ⟨_, by simp -implicitDefEqProofs; rfl, ?_⟩
    have hj := rowsL_len h2 h3 (j + 1)
    have hp := pow13 (n := j + 1) (by omega)
    simp -implicitDefEqProofs
    refine wp_eq (rows_loop (t := t) (E := fun acc => [.im (.int n), .im (.int t), .im (.list (wL (rowsL j t))), .un, .im (.list (wL acc)), .un, .un]) (fun r acc h0 hlt hle hl => ⟨_, by simp -implicitDefEqProofs; rfl, ?_⟩) (rowsL j t) [] (fun r hr => rows_lo2 h2 (by omega) hr) (by show (nextRows t (rowsL j t)).length ≤ _; have : (nextRows t (rowsL j t)).length ≤ 13 ^ (j + 1) := hj; omega)) ?_
    · have ht : lastOr0 r ≤ t := hlt
      have hr0 := rngOk_of (a := lastOr0 r) (b := t + 1) (by omega) (by omega) (by omega) (by omega)
      have hz : sizeOk (acc.length + (upTo (lastOr0 r) t).length) = true := sizeOk_of (by rw [List.length_append, List.length_map] at hl; exact hl)
      have hz1 : sizeOk (r.length + 1) = true := sizeOk_of (by omega)
      by_cases hr : r = []
      · have e0 : lastOr0 [] = 0 := rfl
        rw [hr, e0] at hr0 hz
        rw [hr] at hz1
        have hz2 : sizeOk 1 = true := hz1
        simp -implicitDefEqProofs [neD_tn, hr, hr0, e0]
        have := row_step (t := t) (r := []) (g := lcB G (Tg.nm 6) IEs.nil (IE.bin BOp.add (IE.var 5) (IE.tup (IEs.cons (IE.var 6) IEs.nil))) [.im (.int n), .im (.int t), .im (.list (wL (rowsL j t))), .un, .im (.list (wL acc)), .im (tI []), .un]) (fun m => by simp -implicitDefEqProofs [hz2]; rfl)
        rw [e0] at this
        simp -implicitDefEqProofs [this, hz]
      · simp -implicitDefEqProofs [neD_tn, hr, ix_last hr, hr0]
        rw [row_step (fun m => by simp -implicitDefEqProofs [hz1])]
        simp -implicitDefEqProofs [hz]
    · simp -implicitDefEqProofs
      exact ⟨j + 1, by omega, rfl⟩
  · rintro env s ⟨j, hj, rfl⟩
    have : j = n := by omega
    subst this
    rfl
  · rintro f s rfl
    simp -implicitDefEqProofs
abbrev S_all_rows (F : Fn) : Prop := S_law_rows F
theorem all_rows_spec {G : Sems} : S_all_rows (runFn G f_all_rows) := by
  intro n t h1 h2 h3
  refine pcall_of ?_
  simp -implicitDefEqProofs [f_all_rows, ini, rngOk_of (a := 0) (b := n) (by omega) (by omega) (by omega) (by omega)]
  refine wp_mono (wp_forR (Q := fun f _ => f = .nx [.im (.int n), .im (.int t), .im (.list (wL (rowsL n t))), .un, .un, .un, .un]) (fun i env s => LRI n t i env) (by omega) ⟨0, rfl, by simp [rowsL, wL, tI]⟩ ?_ ?_) ?_
  · rintro i env s h0 h4 ⟨j, rfl, rfl⟩
    refine ⟨_, by simp -implicitDefEqProofs; rfl, ?_⟩
    have hj := rowsL_len h2 h3 (j + 1)
    have hp := pow13 (n := j + 1) (by omega)
    simp -implicitDefEqProofs
    refine wp_eq (rows_loop (t := t) (E := fun acc => [.im (.int n), .im (.int t), .im (.list (wL (rowsL j t))), .un, .ow (wL acc), .un, .un]) (fun r acc h0 hlt hle hl => ⟨_, by simp -implicitDefEqProofs; rfl, ?_⟩) (rowsL j t) [] (fun r hr => rows_lo2 h2 (by omega) hr) (by show (nextRows t (rowsL j t)).length ≤ _; have : (nextRows t (rowsL j t)).length ≤ 13 ^ (j + 1) := hj; omega)) ?_
    · have ht : lastOr0 r ≤ t := hlt
      have hr0 := rngOk_of (a := lastOr0 r) (b := t + 1) (by omega) (by omega) (by omega) (by omega)
      have hz : sizeOk (acc.length + (upTo (lastOr0 r) t).length) = true := sizeOk_of (by rw [List.length_append, List.length_map] at hl; exact hl)
      have hz1 : sizeOk (r.length + 1) = true := sizeOk_of (by omega)
      by_cases hr : r = []
      · have e0 : lastOr0 [] = 0 := rfl
        rw [hr, e0] at hr0 hz
        rw [hr] at hz1
        have hz2 : sizeOk 1 = true := hz1
        simp -implicitDefEqProofs [neD_tn, hr, hr0, e0]
        have := row_step (t := t) (r := []) (g := lcB G (Tg.nm 6) IEs.nil (IE.bin BOp.add (IE.var 5) (IE.tup (IEs.cons (IE.var 6) IEs.nil))) [.im (.int n), .im (.int t), .im (.list (wL (rowsL j t))), .un, .ow (wL acc), .im (tI []), .un]) (fun m => by simp -implicitDefEqProofs [hz2]; rfl)
        rw [e0] at this
        simp -implicitDefEqProofs [this, hz]
      · simp -implicitDefEqProofs [neD_tn, hr, ix_last hr, hr0]
        rw [row_step (fun m => by simp -implicitDefEqProofs [hz1])]
        simp -implicitDefEqProofs [hz]
    · simp -implicitDefEqProofs
      exact ⟨j + 1, by omega, rfl⟩
  · rintro env s ⟨j, hj, rfl⟩
    have : j = n := by omega
    subst this
    rfl
  · rintro f s rfl
    simp -implicitDefEqProofs
def passR (n : Nat) (t : Int) (rs : List Rl) : List (List Int) := (rowsL n t).filter fun r => keepsR rs r
def S_law_passing_rows (F : Fn) : Prop := ∀ (n : Nat) (t : Int) (rs : List Rl), n ≤ 6 → 0 ≤ t → t ≤ 12 → okAll n t rs → pcall (F [schD n t rs]) = ret (.list (wL (passR n t rs)))
theorem law_passing_rows_spec {G : Sems} {c_law_rows c_law_keeps : Nat} (hr : S_law_rows (G c_law_rows)) (hk : S_law_keeps (G c_law_keeps)) : S_law_passing_rows (runFn G (f_law_passing_rows c_law_rows c_law_keeps)) := by
  intro n t rs h1 h2 h3 ho
  simp -implicitDefEqProofs [f_law_passing_rows, ini, hr n t h1 h2 h3]
  rw [lcw_filter (fun r => keepsR rs r) fun r hm => ?_]
  · simp -implicitDefEqProofs
    rfl
  · have e := hk rs n t (tI r) r ho (rowsL_mem.mp hm).len (by omega) (.t r)
    cases h : keepsR rs r <;> rw [h] at e <;> simp -implicitDefEqProofs [e]
/-- the best sums, of one mark and so on -/
def sumsL (r : List Int) : List Int := (List.range r.length).map fun c => bestSum (c + 1) r
theorem sum_rev (r : List Int) : r.reverse.sum = r.sum := perm_sum (List.reverse_perm r)
theorem take_rev_sum {r : List Int} {c : Nat} : ((srt r).reverse.take c).sum = bestSum c r := by
  rw [List.take_reverse, sum_rev, srt_len]
  rfl
def S_law_sums (F : Fn) : Prop := ∀ (w : D) (r : List Int), Sq w r → r.length ≤ 100 → pcall (F [w]) = ret (tI (sumsL r))
theorem sums_lc {g : D → M (Option D)} {r : List Int} (hg : ∀ c : Nat, 1 ≤ c → c ≤ r.length → g (.int (c : Int)) = ret (some (.int (bestSum c r)))) : lcRun g (rngL 1 ((r.length : Int) + 1)) = ret (iL (sumsL r)) := by
  have e : rngL 1 ((r.length : Int) + 1) = (List.range r.length).map fun c => PyData.int ((c + 1 : Nat) : Int) := by
    unfold rngL
    rw [show ((r.length : Int) + 1 - 1).toNat = r.length by omega]
    refine List.map_congr_left fun c _ => ?_
    congr 1
    omega
  rw [e, lc_map (fun c => .int (bestSum (c + 1) r)) fun c hc => hg (c + 1) (by omega) (by have := List.mem_range.mp hc; omega)]
  unfold sumsL iL
  rw [List.map_map]
  rfl
theorem law_sums_spec {G : Sems} : S_law_sums (runFn G f_law_sums) := by
  intro w r hw hl
  have hr := rngOk_of (a := 1) (b := (r.length : Int) + 1) (by omega) (by omega) (by omega) (by omega)
  rcases hw with rfl | rfl
  all_goals
    simp -implicitDefEqProofs [f_law_sums, ini, srt_len, hr]
    rw [sums_lc fun c h1 h2 => by simp -implicitDefEqProofs [cut_to (i := (c : Int)) (by omega), take_rev_sum]]
    simp -implicitDefEqProofs
abbrev S_best_sums (F : Fn) : Prop := S_law_sums F
theorem best_sums_spec {G : Sems} : S_best_sums (runFn G f_best_sums) := by
  intro w r hw hl
  have hr := rngOk_of (a := 1) (b := (r.length : Int) + 1) (by omega) (by omega) (by omega) (by omega)
  rcases hw with rfl | rfl
  all_goals
    simp -implicitDefEqProofs [f_best_sums, ini, srt_len, hr]
    rw [sums_lc fun c h1 h2 => by simp -implicitDefEqProofs [cut_to (i := (c : Int)) (by omega), take_rev_sum]]
    simp -implicitDefEqProofs
end Wk
/-! LM3: bounds and least marks -/
namespace Wk
def failB : List Rl → Nat → Int
  | [], _ => 0
  | .best _ _ :: rs, i => failB rs i
  | .fails c' k :: rs, i => if c' = i then max (failB rs i) k else failB rs i
theorem failB_nn {rs : List Rl} {c : Nat} : 0 ≤ failB rs c := by
  induction rs with
  | nil => exact Int.le_refl _
  | cons x rs ih =>
    cases x with
    | best _ _ => exact ih
    | fails c' k =>
      unfold failB
      split
      · omega
      · exact ih
theorem markB_zero {rs : List Rl} : markB rs 0 = failB rs 0 := by
  induction rs with
  | nil => rfl
  | cons x rs ih =>
    cases x with
    | best _ _ => exact ih
    | fails c' k =>
      unfold markB failB
      rw [ih]
      by_cases h : c' = 0
      · rw [if_pos (by omega), if_pos h]
      · rw [if_neg (by omega), if_neg h]
theorem markB_succ {rs : List Rl} {i : Nat} : markB rs (i + 1) = max (failB rs (i + 1)) (markB rs i) := by
  induction rs with
  | nil => rfl
  | cons x rs ih =>
    cases x with
    | best _ _ => exact ih
    | fails c' k =>
      unfold markB failB
      rw [ih]
      by_cases h : c' = i + 1
      · rw [if_pos (by omega), if_pos h, if_neg (by omega)]
        omega
      · by_cases h2 : c' ≤ i
        · rw [if_pos (by omega), if_neg h, if_pos h2]
          omega
        · rw [if_neg (by omega), if_neg h, if_neg h2]
theorem set_at {s : List Int} {i j : Nat} {v : Int} (h : i < s.length) : at0 (s.set i v) j = if i = j then v else at0 s j := by
  unfold at0
  rw [List.getD_eq_getElem?_getD, List.getD_eq_getElem?_getD, List.getElem?_set]
  by_cases e : i = j
  · subst e
    simp [h]
  · simp [e]
/-- the bounds as lists -/
def sumLs (n : Nat) (rs : List Rl) : List Int := (List.range (n + 1)).map (sumB rs)
def markLs (n : Nat) (rs : List Rl) : List Int := (List.range n).map (markB rs)
theorem range_at {n i : Nat} {f : Nat → Int} (h : i < n) : at0 ((List.range n).map f) i = f i := by
  rw [at0_get (by rw [List.length_map, List.length_range]; exact h), List.getElem_map, List.getElem_range]
theorem eq_range {n : Nat} {f : Nat → Int} {s : List Int} (hl : s.length = n) (h : ∀ i, i < n → at0 s i = f i) : s = (List.range n).map f := by
  refine ext_at (by rw [List.length_map, List.length_range, hl]) fun i hi => ?_
  rw [h i (by omega), range_at (by omega)]
/-! ### the least marks -/
def minMark (n : Nat) (t : Int) (P : List Int → Bool) (i : Nat) : Option Int := ((rowsL n t).filter P).map (at0 · i) |>.min?
/-- a row: some equal marks, then top marks -/
def lowRow (n : Nat) (t : Int) (i : Nat) (v : Int) : List Int := List.replicate (i + 1) v ++ List.replicate (n - i - 1) t
theorem lowRow_row {n : Nat} {t : Int} {i : Nat} {v : Int} (hi : i < n) (h0 : 0 ≤ v) (h1 : v ≤ t) : IsRow n t (lowRow n t i v) where
  len := by
    unfold lowRow
    rw [List.length_append, List.length_replicate, List.length_replicate]
    omega
  asc := by
    unfold lowRow Asc
    rw [List.pairwise_append]
    refine ⟨List.pairwise_replicate.mpr (.inr (Int.le_refl _)), List.pairwise_replicate.mpr (.inr (Int.le_refl _)), fun a ha b hb => ?_⟩
    rw [List.eq_of_mem_replicate ha, List.eq_of_mem_replicate hb]
    exact h1
  lo := fun m hm => by
    unfold lowRow at hm
    rcases List.mem_append.mp hm with hm | hm
    · rw [List.eq_of_mem_replicate hm]
      exact h0
    · rw [List.eq_of_mem_replicate hm]
      omega
  hi := fun m hm => by
    unfold lowRow at hm
    rcases List.mem_append.mp hm with hm | hm
    · rw [List.eq_of_mem_replicate hm]
      exact h1
    · rw [List.eq_of_mem_replicate hm]
      exact Int.le_refl _
theorem lowRow_at {n : Nat} {t : Int} {i j : Nat} {v : Int} (hi : i < n) (hj : j < n) : at0 (lowRow n t i v) j = if j ≤ i then v else t := by
  unfold lowRow at0
  rw [List.getD_eq_getElem?_getD, List.getElem?_append, List.length_replicate]
  by_cases h : j ≤ i
  · rw [if_pos (by omega), if_pos h, List.getElem?_replicate, if_pos (by omega)]
    rfl
  · rw [if_neg (by omega), if_neg h, List.getElem?_replicate, if_pos (by omega)]
    rfl
theorem lowRow_sum {n : Nat} {t : Int} {i : Nat} {v : Int} (hi : i < n) (h0 : 0 ≤ v) (h1 : v ≤ t) : ∀ c, c ≤ n → bestSum c (lowRow n t i v) = if c ≤ n - i - 1 then (c : Int) * t else ((n - i - 1 : Nat) : Int) * t + ((c - (n - i - 1) : Nat) : Int) * v := by
  have hr := lowRow_row hi h0 h1
  intro c
  induction c with
  | zero =>
    intro _
    rw [bestSum_zero]
    simp
  | succ c ih =>
    intro hc
    rw [bestSum_succ hr.asc hr.len (by omega), ih (by omega), lowRow_at hi (by omega)]
    by_cases h : c + 1 ≤ n - i - 1
    · rw [if_pos (by omega), if_neg (by omega), if_pos h, Int.natCast_add, Int.add_mul]
      simp
    · by_cases h2 : c ≤ n - i - 1
      · rw [if_pos h2, if_pos (by omega), if_neg h]
        have e1 : c = n - i - 1 := by omega
        rw [show c + 1 - (n - i - 1) = 1 by omega, ← e1]
        simp
      · rw [if_neg h2, if_pos (by omega), if_neg h, show c + 1 - (n - i - 1) = (c - (n - i - 1)) + 1 by omega, Int.natCast_add, Int.add_mul]
        simp
        omega
/-- the program's least mark -/
def leastAt (n : Nat) (t : Int) (rs : List Rl) (i : Nat) : Nat → Int
  | 0 => markB rs i
  | p + 1 => max (leastAt n t rs i p) ((sumB rs (n - i - 1 + (p + 1)) - ((n - i - 1 : Nat) : Int) * t + ((p + 1 : Nat) : Int) - 1) / ((p + 1 : Nat) : Int))
def leastM (n : Nat) (t : Int) (rs : List Rl) (i : Nat) : Int := leastAt n t rs i (i + 1)
theorem leastAt_mono {n : Nat} {t : Int} {rs : List Rl} {i : Nat} : ∀ p, markB rs i ≤ leastAt n t rs i p
  | 0 => Int.le_refl _
  | p + 1 => by
    unfold leastAt
    have := leastAt_mono (n := n) (t := t) (rs := rs) (i := i) p
    omega
theorem leastAt_ge {n : Nat} {t : Int} {rs : List Rl} {i : Nat} : ∀ {p q : Nat}, 1 ≤ q → q ≤ p → (sumB rs (n - i - 1 + q) - ((n - i - 1 : Nat) : Int) * t + (q : Int) - 1) / (q : Int) ≤ leastAt n t rs i p
  | 0, q, h1, h2 => by omega
  | p + 1, q, h1, h2 => by
    unfold leastAt
    rcases Nat.eq_or_lt_of_le h2 with rfl | h
    · omega
    · have := leastAt_ge (n := n) (t := t) (rs := rs) (i := i) (p := p) h1 (by omega)
      omega
theorem ceil_le {a b v : Int} (hb : 0 < b) : (a + b - 1) / b ≤ v ↔ a ≤ b * v := by
  rw [← Int.lt_add_one_iff, Int.ediv_lt_iff_lt_mul hb]
  rw [Int.add_mul, Int.mul_comm v b]
  omega
/-- a row keeps the rules of bounds -/
theorem low_keeps {n : Nat} {t : Int} {rs : List Rl} {i : Nat} {v : Int} (ho : okAll n t rs) {r : List Int} (hr : IsRow n t r) (hk : keepsR rs r = true) (hi : i < n) (h0 : 0 ≤ v) (h1 : v ≤ t) : keepsR rs (lowRow n t i v) = true ↔ leastM n t rs i ≤ v := by
  have hl := lowRow_row hi h0 h1
  obtain ⟨k1, k2⟩ := (keeps_iff hr ho).mp hk
  rw [keeps_iff hl ho]
  have hsol := hr.sol (s := sumB rs) (m := markB rs) ⟨k1, k2⟩
  constructor
  · rintro ⟨a, b⟩
    have key : ∀ p, p ≤ i + 1 → leastAt n t rs i p ≤ v := by
      intro p
      induction p with
      | zero =>
        intro _
        have := b i hi
        rw [lowRow_at hi hi, if_pos (Nat.le_refl _)] at this
        exact this
      | succ p ih =>
        intro hp
        unfold leastAt
        have h3 := ih (by omega)
        have h4 := a (n - i - 1 + (p + 1)) (by omega) (by omega)
        rw [lowRow_sum hi h0 h1 _ (by omega), if_neg (by omega), show n - i - 1 + (p + 1) - (n - i - 1) = p + 1 by omega] at h4
        have h5 := (ceil_le (a := sumB rs (n - i - 1 + (p + 1)) - ((n - i - 1 : Nat) : Int) * t) (b := ((p + 1 : Nat) : Int)) (v := v) (by omega)).mpr (by omega)
        omega
    exact key (i + 1) (Nat.le_refl _)
  · intro h
    constructor
    · intro c c1 c2
      rw [lowRow_sum hi h0 h1 c c2]
      split
      · have := hsol.hi c c1 c2
        have := hsol.sums c c1 c2
        omega
      · obtain ⟨q, hq⟩ : ∃ q, c = n - i - 1 + q := ⟨c - (n - i - 1), by omega⟩
        subst hq
        have h2 := leastAt_ge (n := n) (t := t) (rs := rs) (i := i) (p := i + 1) (q := q) (by omega) (by omega)
        have h3 : leastAt n t rs i (i + 1) ≤ v := h
        have h5 := (ceil_le (a := sumB rs (n - i - 1 + q) - ((n - i - 1 : Nat) : Int) * t) (b := (q : Int)) (v := v) (by omega)).mp (by omega)
        rw [show n - i - 1 + q - (n - i - 1) = q by omega]
        omega
    · intro j hj
      rw [lowRow_at hi hj]
      split
      · rename_i hji
        have h1 := markB_mono (rs := rs) hji
        have h2 := leastAt_mono (n := n) (t := t) (rs := rs) (i := i) (i + 1)
        have h3 : leastAt n t rs i (i + 1) ≤ v := h
        omega
      · have h1 := k2 j hj
        have h2 := hr.hi _ (at0_mem (r := r) (i := j) (by rw [hr.len]; exact hj))
        omega
/-- no passing row has less at the rank -/
theorem low_le {n : Nat} {t : Int} {rs : List Rl} {i : Nat} (ho : okAll n t rs) {r : List Int} (hr : IsRow n t r) (hk : keepsR rs r = true) (hi : i < n) : leastM n t rs i ≤ at0 r i := by
  have hm := at0_mem (r := r) (i := i) (by rw [hr.len]; exact hi)
  refine (low_keeps ho hr hk hi (hr.lo _ hm) (hr.hi _ hm)).mp ?_
  obtain ⟨k1, k2⟩ := (keeps_iff hr ho).mp hk
  have hl := lowRow_row hi (hr.lo _ hm) (hr.hi _ hm)
  -- the row is at no rank less
  have key : ∀ j, j < n → at0 r j ≤ at0 (lowRow n t i (at0 r i)) j := by
    intro j hj
    rw [lowRow_at hi hj]
    split
    · rename_i h
      exact asc_at hr.asc h (by rw [hr.len]; exact hi)
    · exact hr.hi _ (at0_mem (by rw [hr.len]; exact hj))
  refine (keeps_iff hl ho).mpr ⟨fun c c1 c2 => ?_, fun j hj => Int.le_trans (k2 j hj) (key j hj)⟩
  have : ∀ c, c ≤ n → bestSum c r ≤ bestSum c (lowRow n t i (at0 r i)) := by
    intro c
    induction c with
    | zero =>
      intro _
      rw [bestSum_zero, bestSum_zero]
      exact Int.le_refl _
    | succ c ih =>
      intro hc
      rw [bestSum_succ hr.asc hr.len (by omega), bestSum_succ hl.asc hl.len (by omega)]
      have := ih (by omega)
      have := key (n - (c + 1)) (by omega)
      omega
  exact Int.le_trans (k1 c c1 c2) (this c c2)
theorem low_bounds {n : Nat} {t : Int} {rs : List Rl} {i : Nat} (ho : okAll n t rs) {r : List Int} (hr : IsRow n t r) (hk : keepsR rs r = true) (hi : i < n) : 0 ≤ leastM n t rs i ∧ leastM n t rs i ≤ t := by
  have h1 := leastAt_mono (n := n) (t := t) (rs := rs) (i := i) (i + 1)
  have h2 := markB_nn (rs := rs) (c := i)
  have h3 : leastM n t rs i = leastAt n t rs i (i + 1) := rfl
  have h4 := low_le ho hr hk hi
  have h5 := hr.hi _ (at0_mem (r := r) (i := i) (by rw [hr.len]; exact hi))
  omega
/-- the row with the least mark passes -/
theorem low_pass {n : Nat} {t : Int} {rs : List Rl} {i : Nat} (ho : okAll n t rs) {r : List Int} (hr : IsRow n t r) (hk : keepsR rs r = true) (hi : i < n) : IsRow n t (lowRow n t i (leastM n t rs i)) ∧ keepsR rs (lowRow n t i (leastM n t rs i)) = true ∧ at0 (lowRow n t i (leastM n t rs i)) i = leastM n t rs i := by
  obtain ⟨h0, h1⟩ := low_bounds ho hr hk hi
  exact ⟨lowRow_row hi h0 h1, (low_keeps ho hr hk hi h0 h1).mpr (Int.le_refl _), by rw [lowRow_at hi hi, if_pos (Nat.le_refl _)]⟩
/-! ### the normal form -/
def formO (n : Nat) (t : Int) (rs : List Rl) : Option (List Int × List Int) := (weakP n t (keepsR rs)).map fun r => ((List.range n).map fun c => bestSum (c + 1) r, (List.range n).map (leastM n t rs))
theorem keeps_asks {n : Nat} {t : Int} {rs : List Rl} (ho : okAll n t rs) : ∀ r, IsRow n t r → (keepsR rs r = true ↔ Asks n (sumB rs) (markB rs) r) := fun r hr => keeps_iff hr ho
theorem weak_is {n : Nat} {t : Int} {rs : List Rl} (ho : okAll n t rs) : IsWeak n t (keepsR rs) (weakP n t (keepsR rs)) := isWeak_of (fun _ _ => markB_nn) (keeps_asks ho)
/-- passing by the weakest row's sums and the least marks -/
theorem pass_form {n : Nat} {t : Int} {rs : List Rl} (ho : okAll n t rs) {w : List Int} (hw : weakP n t (keepsR rs) = some w) {r : List Int} (hr : IsRow n t r) : keepsR rs r = true ↔ (∀ c, 1 ≤ c → c ≤ n → bestSum c w ≤ bestSum c r) ∧ ∀ i, i < n → leastM n t rs i ≤ at0 r i := by
  have h := weak_is (t := t) ho
  rw [hw] at h
  obtain ⟨h1, h2, h3⟩ := h
  constructor
  · exact fun hk => ⟨fun c _ hc => h3 r hr hk c hc, fun i hi => low_le ho hr hk hi⟩
  · rintro ⟨a, b⟩
    obtain ⟨k1, k2⟩ := (keeps_iff h1 ho).mp h2
    refine (keeps_iff hr ho).mpr ⟨fun c c1 c2 => Int.le_trans (k1 c c1 c2) (a c c1 c2), fun i hi => ?_⟩
    have h4 := leastAt_mono (n := n) (t := t) (rs := rs) (i := i) (i + 1)
    have h5 := b i hi
    have h6 : leastM n t rs i = leastAt n t rs i (i + 1) := rfl
    omega
end Wk
set_option maxRecDepth 100000
set_option maxHeartbeats 4000000
/-! LS5: the weakest row by the program -/
namespace Wk
open PySem (PyData Str)
@[simp] theorem iL_set {r : List Int} {i : Nat} {v : Int} : (iL r).set i (.int v) = iL (r.set i v) := by
  unfold iL
  rw [List.map_set]
theorem ixN_nat {n c : Nat} (h : c < n) : L2.ixN n (c : Int) = some c := by
  unfold L2.ixN
  rw [if_pos (by omega), if_pos (by omega)]
  congr 1
theorem ixN_of {n : Nat} {i : Int} (h0 : 0 ≤ i) (h : i < n) : L2.ixN n i = some i.toNat := by
  unfold L2.ixN
  rw [if_pos h0, if_pos h]
theorem ixl_nat {r : List Int} {c : Nat} (h : c < r.length) : ixD (.list (iL r)) (.int (c : Int)) = ret (.int (at0 r c)) := by
  rw [ixl_iL (by omega) (by omega)]
  rfl
theorem rep_int {n : Nat} {v : Int} : List.replicate n (PyData.int v) = iL (List.replicate n v) := by
  unfold iL
  rw [List.map_replicate]
theorem sumB_b {c' c : Nat} {k : Int} {rs : List Rl} : sumB (.best c' k :: rs) c = if c' = c then max (sumB rs c) k else sumB rs c := rfl
theorem sumB_f {c' c : Nat} {k : Int} {rs : List Rl} : sumB (.fails c' k :: rs) c = sumB rs c := rfl
theorem failB_f {c' c : Nat} {k : Int} {rs : List Rl} : failB (.fails c' k :: rs) c = if c' = c then max (failB rs c) k else failB rs c := rfl
theorem repOk_of {n : Nat} {k : Int} (h1 : n ≤ 100) (h0 : 0 ≤ k) (h2 : k ≤ 100) : repOk n k = true := by
  unfold repOk
  have : n * k.toNat ≤ 100 * 100 := Nat.mul_le_mul h1 (by omega)
  simp
  omega
theorem divOk_2 : divOk 2 = true := by decide +kernel
/-- .. while something holds -/
theorem for_foldP {σ : Type} {body : Env → M Fl} {b : D → Env → Option Env} {E : σ → Env} {α : Type} (f : α → D) (st : σ → α → σ) (P : σ → Prop) : ∀ {xs : List α}, (∀ x ∈ xs, ∀ a, P a → ∃ e1, b (f x) (E a) = some e1 ∧ body e1 = ret (.nx (E (st a x))) ∧ P (st a x)) → ∀ a : σ, P a → forRun body b (xs.map f) (E a) = ret (.nx (E (xs.foldl st a))) ∧ P (xs.foldl st a)
  | [], _, a, hp => ⟨rfl, hp⟩
  | x :: xs, hb, a, hp => by
    obtain ⟨e1, h1, h2, h3⟩ := hb x List.mem_cons_self a hp
    rw [List.map_cons, List.foldl_cons]
    unfold forRun
    rw [h1]
    dsimp only
    rw [h2, bnd_ret]
    dsimp only
    exact for_foldP f st P (fun y hy => hb y (List.mem_cons_of_mem _ hy)) _ h3
def bStep (a : List Int × List Int) : Rl → List Int × List Int
  | .best c k => (a.1.set c (max (at0 a.1 c) k), a.2)
  | .fails c k => (a.1, a.2.set c (max (at0 a.2 c) k))
theorem bStep_len {rs : List Rl} : ∀ {a : List Int × List Int}, (rs.foldl bStep a).1.length = a.1.length ∧ (rs.foldl bStep a).2.length = a.2.length := by
  induction rs with
  | nil => intro a; exact ⟨rfl, rfl⟩
  | cons x rs ih =>
    intro a
    rw [List.foldl_cons, (ih (a := bStep a x)).1, (ih (a := bStep a x)).2]
    cases x <;> simp [bStep]
theorem bStep_at {n : Nat} {t : Int} {rs : List Rl} : ∀ {a : List Int × List Int}, okAll n t rs → a.1.length = n + 1 → a.2.length = n → (∀ c, c ≤ n → at0 (rs.foldl bStep a).1 c = if 0 ≤ at0 a.1 c then max (at0 a.1 c) (sumB rs c) else at0 (rs.foldl bStep a).1 c) ∧ ∀ c, c < n → at0 (rs.foldl bStep a).2 c = if 0 ≤ at0 a.2 c then max (at0 a.2 c) (failB rs c) else at0 (rs.foldl bStep a).2 c := by
  induction rs with
  | nil =>
    intro a _ _ _
    refine ⟨fun c hc => ?_, fun c hc => ?_⟩
    · show at0 a.1 c = _
      split
      · show _ = max _ 0
        omega
      · rfl
    · show at0 a.2 c = _
      split
      · show _ = max _ 0
        omega
      · rfl
  | cons x rs ih =>
    intro a ho h1 h2
    rw [List.foldl_cons]
    have ho' : okAll n t rs := fun y hy => ho y (List.mem_cons_of_mem _ hy)
    cases x with
    | best c' k =>
      have hx : 1 ≤ c' ∧ c' ≤ n ∧ 0 ≤ k ∧ k ≤ 72 := ho (.best c' k) List.mem_cons_self
      obtain ⟨i1, i2⟩ := ih (a := bStep a (.best c' k)) ho' (by simp [bStep, h1]) h2
      refine ⟨fun c hc => ?_, i2⟩
      by_cases h0 : 0 ≤ at0 a.1 c
      · have e : at0 (bStep a (.best c' k)).1 c = if c' = c then max (at0 a.1 c') k else at0 a.1 c := set_at (by omega)
        rw [i1 c hc, if_pos h0, e]
        rw [sumB_b]
        by_cases hcc : c' = c
        · subst hcc
          rw [if_pos rfl, if_pos rfl, if_pos (by omega)]
          omega
        · rw [if_neg hcc, if_neg hcc, if_pos h0]
      · rw [if_neg h0]
    | fails c' k =>
      have hx : c' < n ∧ 0 ≤ k ∧ k ≤ t := ho (.fails c' k) List.mem_cons_self
      obtain ⟨i1, i2⟩ := ih (a := bStep a (.fails c' k)) ho' h1 (by simp [bStep, h2])
      refine ⟨i1, fun c hc => ?_⟩
      by_cases h0 : 0 ≤ at0 a.2 c
      · have e : at0 (bStep a (.fails c' k)).2 c = if c' = c then max (at0 a.2 c') k else at0 a.2 c := set_at (by omega)
        rw [i2 c hc, if_pos h0, e]
        rw [failB_f]
        by_cases hcc : c' = c
        · subst hcc
          rw [if_pos rfl, if_pos rfl, if_pos (by omega)]
          omega
        · rw [if_neg hcc, if_neg hcc, if_pos h0]
      · rw [if_neg h0]
theorem rep_at {n i : Nat} {v : Int} (h : i < n) : at0 (List.replicate n v) i = v := by
  rw [at0_get (by rw [List.length_replicate]; exact h), List.getElem_replicate]
theorem bounds_1 {n : Nat} {t : Int} {rs : List Rl} (ho : okAll n t rs) : rs.foldl bStep (List.replicate (n + 1) 0, List.replicate n 0) = (sumLs n rs, (List.range n).map (failB rs)) := by
  obtain ⟨l1, l2⟩ := bStep_len (rs := rs) (a := (List.replicate (n + 1) 0, List.replicate n 0))
  obtain ⟨i1, i2⟩ := bStep_at (rs := rs) (a := (List.replicate (n + 1) 0, List.replicate n 0)) ho (by simp) (by simp)
  rw [List.length_replicate] at l1 l2
  have z : ∀ {q : Int}, 0 ≤ q → max 0 q = q := fun h => by omega
  refine Prod.ext (eq_range l1 fun c hc => ?_) (eq_range l2 fun c hc => ?_)
  · have := i1 c (by omega)
    rw [rep_at hc, if_pos (Int.le_refl _), z sumB_nn] at this
    exact this
  · have := i2 c hc
    rw [rep_at hc, if_pos (Int.le_refl _), z failB_nn] at this
    exact this
def BOI (n : Nat) (rs : List Rl) (i : Int) (env : Env) : Prop := ∃ (j : Nat) (m : List Int), i = j ∧ env = [.im (.int n), .un, .un, .ow (iL (sumLs n rs)), .ow (iL m), .un, .un, .un] ∧ m.length = n ∧ ∀ c, c < n → at0 m c = if c < j then markB rs c else failB rs c
def S_bounds_of (F : Fn) : Prop := ∀ (n : Nat) (t : Int) (rs : List Rl), 1 ≤ n → n ≤ 99 → okAll n t rs → pcall (F [.int (n : Nat), rsD rs]) = ret (.tuple [.list (iL (sumLs n rs)), .list (iL (markLs n rs))])
theorem bounds_of_spec {G : Sems} : S_bounds_of (runFn G f_bounds_of) := by
  intro n t rs h1 h2 ho
  refine pcall_of ?_
  simp -implicitDefEqProofs [f_bounds_of, ini, repOk_of (n := 1) (k := (n : Int) + 1) (by omega) (by omega) (by omega), repOk_of (n := 1) (k := (n : Int)) (by omega) (by omega) (by omega), rep_int, show ((n : Int) + 1).toNat = n + 1 by omega]
  refine wp_eq (for_foldP (xs := rs) (E := fun a => [.im (.int n), .im (rsD rs), .un, .ow (iL a.1), .ow (iL a.2), .un, .un, .un]) Rl.d bStep (fun a => a.1.length = n + 1 ∧ a.2.length = n) (fun x hx a hp => ?_) (List.replicate (n + 1) 0, List.replicate n 0) (by simp)).1 ?_
  · cases x with
    | best c k =>
      have hx : 1 ≤ c ∧ c ≤ n ∧ 0 ≤ k ∧ k ≤ 72 := ho (.best c k) hx
      refine ⟨_, by simp -implicitDefEqProofs [Rl.d]; rfl, ?_, ?_⟩
      · simp -implicitDefEqProofs [eqD_str okB okB, ixl_nat (r := a.1) (c := c) (by omega), ixN_nat (n := a.1.length) (c := c) (by omega), bStep]
      · simp [bStep, hp]
    | fails c k =>
      have hx : c < n ∧ 0 ≤ k ∧ k ≤ t := ho (.fails c k) hx
      refine ⟨_, by simp -implicitDefEqProofs [Rl.d]; rfl, ?_, ?_⟩
      · simp -implicitDefEqProofs [eqD_str okF okB, sF_ne, ixl_nat (r := a.2) (c := c) (by omega), ixN_nat (n := a.2.length) (c := c) (by omega), bStep]
      · simp [bStep, hp]
  · rw [bounds_1 ho]
    simp -implicitDefEqProofs [rngOk_of (a := 1) (b := n) (by omega) (by omega) (by omega) (by omega)]
    refine wp_mono (wp_forR (Q := fun f _ => f = .nx [.im (.int n), .un, .un, .ow (iL (sumLs n rs)), .ow (iL (markLs n rs)), .un, .un, .un]) (fun i env s => BOI n rs i env) (by omega) ⟨1, _, rfl, rfl, by simp, fun c hc => ?_⟩ ?_ ?_) ?_
    · rw [range_at hc]
      split
      · have : c = 0 := by omega
        subst this
        exact markB_zero.symm
      · rfl
    · rintro i env s i0 i1 ⟨j, m, rfl, rfl, q1, q2⟩
      refine ⟨_, by simp -implicitDefEqProofs; rfl, ?_⟩
      have e1 : ((j : Int) - 1) = ((j - 1 : Nat) : Int) := by omega
      simp -implicitDefEqProofs [ixl_nat (r := m) (c := j) (by omega), e1, ixl_nat (r := m) (c := j - 1) (by omega), ixN_nat (n := m.length) (c := j) (by omega)]
      refine ⟨j + 1, _, by omega, rfl, by simp [q1], fun c hc => ?_⟩
      rw [set_at (by omega)]
      by_cases hcj : j = c
      · subst hcj
        rw [if_pos rfl, if_pos (by omega), q2 j hc, q2 (j - 1) (by omega), if_neg (by omega), if_pos (by omega)]
        obtain ⟨d, rfl⟩ : ∃ d, j = d + 1 := ⟨j - 1, by omega⟩
        rw [markB_succ]
        rfl
      · rw [if_neg hcj, q2 c hc]
        by_cases h : c < j
        · rw [if_pos h, if_pos (by omega)]
        · rw [if_neg h, if_neg (by omega)]
    · rintro env s ⟨j, m, hj, rfl, q1, q2⟩
      have : j = n := by omega
      subst this
      have e : m = markLs j rs := eq_range q1 fun c hc => by rw [q2 c hc, if_pos hc]
      rw [e]
    · rintro f s rfl
      simp -implicitDefEqProofs
end Wk
set_option maxRecDepth 100000
set_option maxHeartbeats 4000000
/-! LS6: the least sums -/
namespace Wk
open PySem (PyData Str)
/-- what a turn asks for -/
def wantAt (n : Nat) (t : Int) (m f : List Int) (c : Nat) : Int :=
  if c < n then max (max (at0 f (c - 1) + at0 m (n - c)) ((at0 f (c - 1) + at0 f (c + 1) + 1) / 2)) (at0 f (c + 1) - t) else at0 f (c - 1) + at0 m (n - c)
structure LInv (n : Nat) (t : Int) (s m f : List Int) : Prop where
  len : f.length = n + 1
  z : at0 f 0 = 0
  ge : ∀ c, c ≤ n → at0 s c ≤ at0 f c
  le : ∀ g, Sol n t (at0 s) (at0 m) g → ∀ c, c ≤ n → at0 f c ≤ g c
theorem LInv.step {n : Nat} {t : Int} {s m f : List Int} (h : LInv n t s m f) {c : Nat} (h1 : 1 ≤ c) (h2 : c ≤ n) (hw : at0 f c < wantAt n t m f c) : LInv n t s m (f.set c (wantAt n t m f c)) where
  len := by rw [List.length_set, h.len]
  z := by
    rw [set_at (by rw [h.len]; omega), if_neg (by omega)]
    exact h.z
  ge := fun d hd => by
    rw [set_at (by rw [h.len]; omega)]
    have := h.ge d hd
    split
    · rename_i e
      subst e
      omega
    · exact this
  le := fun g hg d hd => by
    rw [set_at (by rw [h.len]; omega)]
    split
    · rename_i e
      subst e
      have a1 := h.le g hg (c - 1) (by omega)
      have a2 := hg.step (c - 1) (by omega)
      rw [show c - 1 + 1 = c by omega] at a2
      unfold wantAt
      split
      · rename_i hcn
        have a3 := h.le g hg (c + 1) (by omega)
        have a4 := hg.mid c h1 hcn
        have a5 := hg.lip c h1 hcn
        omega
      · omega
    · exact h.le g hg d hd
theorem LInv.sol {n : Nat} {t : Int} {s m f : List Int} (h : LInv n t s m f) (hi : ∀ c, 1 ≤ c → c ≤ n → at0 f c ≤ (c : Int) * t) (hw : ∀ c, 1 ≤ c → c ≤ n → wantAt n t m f c ≤ at0 f c) : Sol n t (at0 s) (at0 m) (at0 f) where
  z := h.z
  sums := fun c _ h2 => h.ge c h2
  step := fun c hc => by
    have := hw (c + 1) (by omega) (by omega)
    unfold wantAt at this
    rw [show c + 1 - 1 = c from rfl] at this
    split at this <;> omega
  hi := hi
  mid := fun c h1 h2 => by
    have := hw c h1 (by omega)
    unfold wantAt at this
    rw [if_pos h2] at this
    omega
  lip := fun c h1 h2 => by
    have := hw c h1 (by omega)
    unfold wantAt at this
    rw [if_pos h2] at this
    omega
/-- how far it may go -/
def room (t : Int) (f : List Int) : Nat → Nat
  | 0 => 0
  | c + 1 => room t f c + (((c + 1 : Nat) : Int) * t + 1 - at0 f (c + 1)).toNat
theorem room_le {t : Int} {f g : List Int} : ∀ n : Nat, (∀ c, c ≤ n → at0 f c ≤ at0 g c) → room t g n ≤ room t f n
  | 0, _ => Nat.le_refl _
  | n + 1, h => by
    have := room_le (t := t) n fun c hc => h c (by omega)
    have := h (n + 1) (Nat.le_refl _)
    unfold room
    omega
theorem room_lt {t : Int} {f g : List Int} : ∀ n : Nat, (∀ c, c ≤ n → at0 f c ≤ at0 g c) → (∃ c, 1 ≤ c ∧ c ≤ n ∧ at0 f c < at0 g c ∧ at0 g c ≤ (c : Int) * t) → room t g n < room t f n
  | 0, _, h => by
    obtain ⟨c, h1, h2, _⟩ := h
    omega
  | n + 1, h, hx => by
    obtain ⟨c, h1, h2, h3, h4⟩ := hx
    have a := room_le (t := t) n fun c hc => h c (by omega)
    have b := h (n + 1) (Nat.le_refl _)
    unfold room
    rcases Nat.eq_or_lt_of_le h2 with rfl | hlt
    · omega
    · have := room_lt (t := t) n (fun c hc => h c (by omega)) ⟨c, h1, by omega, h3, h4⟩
      omega
abbrev LE (n : Nat) (t : Int) (sd : Slot) (m f : List Int) (b : Bool) (k l : Slot) : Env := [.im (.int t), sd, .im (.list (iL m)), .im (.int n), .ow (iL f), .im (.bool b), k, l]
def WI (n : Nat) (t : Int) (s m : List Int) (k : Nat) (env : Env) : Prop := ∃ (f : List Int) (b : Bool), env = LE n t .un m f b .un .un ∧ LInv n t s m f ∧ k = room t f n + (if b = true then 1 else 0) ∧ (b = false → Sol n t (at0 s) (at0 m) (at0 f))
def FI (n : Nat) (t : Int) (s m f0 : List Int) (i : Int) (env : Env) : Prop := ∃ (j : Nat) (f : List Int) (b : Bool), i = j ∧ env = LE n t .un m f b .un .un ∧ LInv n t s m f ∧ (∀ c, c ≤ n → at0 f0 c ≤ at0 f c) ∧ (∀ c, 1 ≤ c → c < j → at0 f c ≤ (c : Int) * t) ∧ (b = false → f = f0 ∧ ∀ c, 1 ≤ c → c < j → wantAt n t m f c ≤ at0 f c) ∧ (b = true → ∃ c, 1 ≤ c ∧ c < j ∧ at0 f0 c < at0 f c)
def S_least_sums (F : Fn) : Prop := ∀ (n : Nat) (t : Int) (s m : List Int), 1 ≤ n → n ≤ 99 → 1 ≤ t → t ≤ 100 → s.length = n + 1 → m.length = n → at0 s 0 = 0 →
  (∃ f : List Int, pcall (F [.int t, .list (iL s), .list (iL m)]) = ret (.list (iL f)) ∧ f.length = n + 1 ∧ Sol n t (at0 s) (at0 m) (at0 f) ∧ ∀ g, Sol n t (at0 s) (at0 m) g → ∀ c, c ≤ n → at0 f c ≤ g c) ∨ (pcall (F [.int t, .list (iL s), .list (iL m)]) = ret .none ∧ ∀ g, ¬ Sol n t (at0 s) (at0 m) g)
def LQ (n : Nat) (t : Int) (s m : List Int) : Fl → Prop
  | .rt x => x = .none ∧ ∀ g, ¬ Sol n t (at0 s) (at0 m) g
  | .nx e => ∃ f, e = LE n t .un m f false .un .un ∧ f.length = n + 1 ∧ Sol n t (at0 s) (at0 m) (at0 f) ∧ ∀ g, Sol n t (at0 s) (at0 m) g → ∀ c, c ≤ n → at0 f c ≤ g c
  | _ => False
def LX (n : Nat) (t : Int) (s m : List Int) (x : D) : Prop := (x = .none ∧ ∀ g, ¬ Sol n t (at0 s) (at0 m) g) ∨ ∃ f, x = .list (iL f) ∧ f.length = n + 1 ∧ Sol n t (at0 s) (at0 m) (at0 f) ∧ ∀ g, Sol n t (at0 s) (at0 m) g → ∀ c, c ≤ n → at0 f c ≤ g c
theorem least_sums_spec {G : Sems} : S_least_sums (runFn G f_least_sums) := by
  intro n t s m h1 h2 h3 h4 h5 h6 h7
  have key : wp (runFn G f_least_sums [.int t, .list (iL s), .list (iL m)]) (fun x _ => LX n t s m x) sv0 := by
    have hr := rngOk_of (a := 1) (b := (n : Int) + 1) (by omega) (by omega) (by omega) (by omega)
    simp -implicitDefEqProofs [f_least_sums, ini, h6]
    refine wp_mono (wp_whl (Q := fun f _ => LQ n t s m f) (fun k env _ => WI n t s m k env) (room t s n + 1) ⟨s, true, rfl, ⟨h5, h7, fun c _ => Int.le_refl _, fun g hg c hc => ?_⟩, rfl, fun h => by cases h⟩ ?_) ?_
    · rcases Nat.eq_zero_or_pos c with rfl | hp
      · rw [h7, hg.z]
        exact Int.le_refl _
      · exact hg.sums c hp hc
    · rintro k env s' ⟨f, b, rfl, hI, hk, hS⟩
      cases b with
      | false =>
        simp -implicitDefEqProofs
        exact ⟨f, rfl, hI.len, hS rfl, hI.le⟩
      | true =>
        simp -implicitDefEqProofs [hr]
        refine wp_mono (wp_forR (Q := fun fl _ => match fl with
          | .nx e => FI n t s m f ((n : Int) + 1) e
          | .rt x => x = .none ∧ ∀ g, ¬ Sol n t (at0 s) (at0 m) g
          | _ => False) (fun i env _ => FI n t s m f i env) (by omega) ⟨1, f, false, rfl, rfl, hI, fun _ _ => Int.le_refl _, fun c _ _ => by omega, fun _ => ⟨rfl, fun c _ _ => by omega⟩, fun h => by cases h⟩ ?_ ?_) ?_
        · rintro i env s2 i0 i1 ⟨j, q, b, rfl, rfl, hq, q1, q2, q3, q4⟩
          refine ⟨_, by simp -implicitDefEqProofs; rfl, ?_⟩
          have hl := hq.len
          have e1 : ((j : Int) - 1) = ((j - 1 : Nat) : Int) := by omega
          have e2 : ((n : Int) - (j : Int)) = ((n - j : Nat) : Int) := by omega
          have e3 : ((j : Int) + 1) = ((j + 1 : Nat) : Int) := by omega
          have hm : mulOk (j : Int) t = true := mulOk_r (by omega)
          -- the end of a turn, when what is wanted is known
          have tail : ∀ (w : Int) (q' : List Int) (b' : Bool), LInv n t s m q' → (∀ c, c ≤ n → at0 q c ≤ at0 q' c) → (∀ c, c ≠ j → at0 q' c = at0 q c) → (b' = false → b = false ∧ q' = q ∧ wantAt n t m q j ≤ at0 q j) → (b' = true → b = true ∨ at0 q j < at0 q' j) → (at0 q' j ≤ (j : Int) * t → FI n t s m f ((j : Int) + 1) (LE n t .un m q' b' .un .un)) ∧ ((j : Int) * t < at0 q' j → ∀ g, ¬ Sol n t (at0 s) (at0 m) g) := by
            intro w q' b' a1 a2 a3 a4 a5
            refine ⟨fun hle => ⟨j + 1, q', b', by omega, rfl, a1, fun c hc => Int.le_trans (q1 c hc) (a2 c hc), fun c c1 c2 => ?_, fun hb => ?_, fun hb => ?_⟩, fun hlt g hg => ?_⟩
            · by_cases hcj : c = j
              · subst hcj
                exact hle
              · rw [a3 c hcj]
                exact q2 c c1 (by omega)
            · obtain ⟨b1, b2, b3⟩ := a4 hb
              obtain ⟨b4, b5⟩ := q3 b1
              refine ⟨b2.trans b4, fun c c1 c2 => ?_⟩
              rw [b2]
              by_cases hcj : c = j
              · subst hcj
                exact b3
              · exact b5 c c1 (by omega)
            · rcases a5 hb with h | h
              · obtain ⟨c, c1, c2, c3⟩ := q4 h
                exact ⟨c, c1, by omega, by have := a2 c (by omega); omega⟩
              · exact ⟨j, by omega, by omega, by have := q1 j (by omega); omega⟩
            · have := a1.le g hg j (by omega)
              have := hg.hi j (by omega) (by omega)
              omega
          have same := tail 0 q b hq (fun _ _ => Int.le_refl _) (fun _ _ => rfl)
          have more : at0 q j < wantAt n t m q j → _ := fun hw => tail 0 (q.set j (wantAt n t m q j)) true (hq.step (by omega) (by omega) hw) (fun c hc => by
            rw [set_at (by omega)]
            split
            · rename_i e
              subst e
              omega
            · exact Int.le_refl _) (fun c hc => by rw [set_at (by omega), if_neg fun e => hc e.symm]) (fun h => by cases h) (fun _ => .inr (by rw [set_at (by omega), if_pos rfl]; exact hw))
          have hset : at0 (q.set j (wantAt n t m q j)) j = wantAt n t m q j := by rw [set_at (by omega), if_pos rfl]
          have finish : ∀ w : Int, w = wantAt n t m q j → wp (execs G (.cons (.ifs (.cmp .gt (.var 7) (.ix (.bv 4) (.var 6))) (.cons (.store 4 (.var 6) (.var 7)) (.cons (.set 5 (.bool true)) (.nil))) (.nil)) (.cons (.ifs (.cmp .gt (.ix (.bv 4) (.var 6)) (.bin .mul (.var 6) (.var 0))) (.cons (.ret (.non)) (.nil)) (.nil)) (.wipe [6, 7] .nil))) (LE n t .un m q b (.im (.int j)) (.im (.int w)))) (fun f_1 s' => match f_1 with
              | .nx e => FI n t s m f ((j : Int) + 1) e
              | .ct e => FI n t s m f ((j : Int) + 1) e
              | .bk e => FI n t s m f ((n : Int) + 1) e
              | .rt x => x = .none ∧ ∀ g, ¬ Sol n t (at0 s) (at0 m) g) s2 := by
            rintro w rfl
            by_cases hw : at0 q j < wantAt n t m q j
            · obtain ⟨t1, t2⟩ := more hw
              rw [hset] at t1 t2
              by_cases hb : (j : Int) * t < wantAt n t m q j
              · simp -implicitDefEqProofs [ixl_nat (r := q) (c := j) (by omega), hw, ixN_nat (n := q.length) (c := j) (by omega), ixl_nat (r := q.set j (wantAt n t m q j)) (c := j) (by rw [List.length_set]; omega), hset, hm, hb]
                exact t2 hb
              · simp -implicitDefEqProofs [ixl_nat (r := q) (c := j) (by omega), hw, ixN_nat (n := q.length) (c := j) (by omega), ixl_nat (r := q.set j (wantAt n t m q j)) (c := j) (by rw [List.length_set]; omega), hset, hm, hb]
                exact t1 (by omega)
            · obtain ⟨t1, t2⟩ := same (fun hb => ⟨hb, rfl, by omega⟩) (fun hb => .inl hb)
              by_cases hb : (j : Int) * t < at0 q j
              · simp -implicitDefEqProofs [ixl_nat (r := q) (c := j) (by omega), hw, hm, hb]
                exact t2 hb
              · simp -implicitDefEqProofs [ixl_nat (r := q) (c := j) (by omega), hw, hm, hb]
                exact t1 (by omega)
          generalize hR : (ISs.cons (.ifs (.cmp .gt (.var 7) (.ix (.bv 4) (.var 6))) (.cons (.store 4 (.var 6) (.var 7)) (.cons (.set 5 (.bool true)) (.nil))) (.nil)) (.cons (.ifs (.cmp .gt (.ix (.bv 4) (.var 6)) (.bin .mul (.var 6) (.var 0))) (.cons (.ret (.non)) (.nil)) (.nil)) (.wipe [6, 7] .nil))) = R at finish ⊢
          by_cases hjn : j < n
          · have x3 : ixD (.list (iL q)) (.int ((j : Int) + 1)) = ret (.int (at0 q (j + 1))) := by
              rw [e3]
              exact ixl_nat (by omega)
            simp -implicitDefEqProofs [e1, e2, x3, ixl_nat (r := q) (c := j - 1) (by omega), ixl_nat (r := m) (c := n - j) (by omega), hjn, divOk_2]
            refine finish _ ?_
            unfold wantAt
            rw [if_pos hjn]
            omega
          · simp -implicitDefEqProofs [e1, e2, ixl_nat (r := q) (c := j - 1) (by omega), ixl_nat (r := m) (c := n - j) (by omega), hjn]
            refine finish _ ?_
            unfold wantAt
            rw [if_neg hjn]
        · exact fun env s h => h
        · rintro fl s2 hfl
          cases fl with
          | nx e =>
            obtain ⟨j, q, b, hj, rfl, hq, q1, q2, q3, q4⟩ := hfl
            have hk : k = room t f n + 1 := hk
            have hj : j = n + 1 := by omega
            subst hj
            simp -implicitDefEqProofs
            cases b with
            | false =>
              obtain ⟨b1, b2⟩ := q3 rfl
              subst b1
              exact ⟨room t q n, by omega, q, false, rfl, hq, by simp, fun _ => hq.sol (fun c c1 c2 => q2 c c1 (by omega)) fun c c1 c2 => b2 c c1 (by omega)⟩
            | true =>
              obtain ⟨c, c1, c2, c3⟩ := q4 rfl
              have := room_lt (t := t) (f := f) (g := q) n q1 ⟨c, c1, by omega, c3, q2 c c1 c2⟩
              exact ⟨room t q n + 1, by omega, q, true, rfl, hq, by simp, fun h => by cases h⟩
          | rt x =>
            simp -implicitDefEqProofs
            exact hfl
          | bk e => exact False.elim hfl
          | ct e => exact False.elim hfl
    · rintro fl s2 hfl
      cases fl with
      | nx e =>
        obtain ⟨f, rfl, a1, a2, a3⟩ := hfl
        simp -implicitDefEqProofs
        exact .inr ⟨f, rfl, a1, a2, a3⟩
      | rt x =>
        simp -implicitDefEqProofs
        exact .inl hfl
      | bk e => exact False.elim hfl
      | ct e => exact False.elim hfl
  obtain ⟨x, s', e, h⟩ := key
  have hp : pcall (runFn G f_least_sums [.int t, .list (iL s), .list (iL m)]) = ret x := pcall_of ⟨x, s', e, rfl⟩
  rcases h with ⟨rfl, h⟩ | ⟨f, rfl, a1, a2, a3⟩
  · exact .inr ⟨hp, h⟩
  · exact .inl ⟨f, hp, a1, a2, a3⟩
/-! ### the weakest row -/
theorem zip_iL {r q : List Int} : List.zipWith (fun a b => PyData.tuple [a, b]) (iL r) (iL q) = (List.zip r q).map fun p => PyData.tuple [.int p.1, .int p.2] := by
  unfold iL
  rw [List.zipWith_map, List.zip, List.map_zipWith]
def S_row_of (F : Fn) : Prop := ∀ (w : D) (f : List Int) (n : Nat), Sq w f → f.length = n + 1 → pcall (F [w]) = ret (tI (rowF n (at0 f)))
theorem rowF_rev {n : Nat} {f : List Int} (h : f.length = n + 1) : ((List.zip f (f.drop 1)).map fun p => p.2 - p.1).reverse = rowF n (at0 f) := by
  have hl : ((List.zip f (f.drop 1)).map fun p => p.2 - p.1).length = n := by
    rw [List.length_map, List.length_zip, List.length_drop]
    omega
  refine List.ext_getElem (by rw [List.length_reverse, hl, rowF_len]) fun i h1 h2 => ?_
  rw [rowF_len] at h2
  have e1 : (rowF n (at0 f))[i] = at0 f (n - i) - at0 f (n - (i + 1)) := by
    rw [← at0_get (by rw [rowF_len]; exact h2), rowF_at h2]
  rw [e1, List.getElem_reverse, List.getElem_map, List.getElem_zip, List.getElem_drop, at0_get (by omega), at0_get (by omega)]
  dsimp only
  congr 2
  · rw [hl]; omega
  · rw [hl]; omega
@[simp] theorem iL_tail {r : List Int} : (iL r).tail = iL r.tail := by
  unfold iL
  rw [List.map_tail]
theorem row_of_spec {G : Sems} : S_row_of (runFn G f_row_of) := by
  intro w f n hw h
  have e : ((List.zip f f.tail).map fun p : Int × Int => PyData.int (p.2 - p.1)) = iL ((List.zip f (f.drop 1)).map fun p => p.2 - p.1) := by
    unfold iL
    rw [List.map_map, List.drop_one]
    rfl
  rcases hw with rfl | rfl
  all_goals
    simp -implicitDefEqProofs [f_row_of, ini, cut_from (i := 1) (by omega), zip_iL]
    rw [lc_map (fun p : Int × Int => .int (p.2 - p.1)) fun p hp => by simp -implicitDefEqProofs]
    rw [e]
    simp -implicitDefEqProofs [-List.drop_one]
    rw [rowF_rev h]
/-- no less than a floor, rank by rank -/
def geF (n : Nat) (fl r : List Int) : Bool := (List.range n).all fun i => decide (at0 fl i ≤ at0 r i)
theorem geF_iff {n : Nat} {fl r : List Int} : geF n fl r = true ↔ ∀ i, i < n → at0 fl i ≤ at0 r i := by
  unfold geF
  simp only [List.all_eq_true, List.mem_range, decide_eq_true_eq]
abbrev PF (n : Nat) (rs : List Rl) (fl : List Int) (r : List Int) : Bool := keepsR rs r && geF n fl r
def rowD : Option (List Int) → D
  | none => .none
  | some r => tI r
theorem PF_asks {n : Nat} {t : Int} {rs : List Rl} {fl : List Int} (ho : okAll n t rs) (r : List Int) (hr : IsRow n t r) : PF n rs fl r = true ↔ Asks n (sumB rs) (fun i => max (markB rs i) (at0 fl i)) r := by
  rw [Bool.and_eq_true, keeps_iff hr ho, geF_iff]
  constructor
  · rintro ⟨⟨a, b⟩, c⟩
    exact ⟨a, fun i hi => by have := b i hi; have := c i hi; show max (markB rs i) (at0 fl i) ≤ _; omega⟩
  · rintro ⟨a, b⟩
    have b : ∀ i, i < n → max (markB rs i) (at0 fl i) ≤ at0 r i := b
    exact ⟨⟨a, fun i hi => by have := b i hi; omega⟩, fun i hi => by have := b i hi; omega⟩
theorem weakF_is {n : Nat} {t : Int} {rs : List Rl} {fl : List Int} (ho : okAll n t rs) : IsWeak n t (PF n rs fl) (weakP n t (PF n rs fl)) := isWeak_of (s := sumB rs) (m := fun i => max (markB rs i) (at0 fl i)) (fun _ _ => by have := markB_nn (rs := rs) (c := ‹Nat›); omega) (PF_asks ho)
def S_weakest_of (F : Fn) : Prop := ∀ (n : Nat) (t : Int) (rs : List Rl) (w : D) (fl : List Int), 1 ≤ n → n ≤ 99 → 1 ≤ t → t ≤ 100 → okAll n t rs → fl.length = n → Sq w fl → pcall (F [.int (n : Nat), .int t, rsD rs, w]) = ret (rowD (weakP n t (PF n rs fl)))
theorem Sol.congr {n : Nat} {t : Int} {s m s' m' f f' : Nat → Int} (hs : ∀ c, c ≤ n → s c = s' c) (hm : ∀ i, i < n → m i = m' i) (hf : ∀ c, c ≤ n → f c = f' c) (h : Sol n t s m f) : Sol n t s' m' f' where
  z := by rw [← hf 0 (by omega)]; exact h.z
  sums := fun c h1 h2 => by rw [← hf c h2, ← hs c h2]; exact h.sums c h1 h2
  step := fun c hc => by rw [← hf c (by omega), ← hf (c + 1) (by omega), ← hm _ (by omega)]; exact h.step c hc
  hi := fun c h1 h2 => by rw [← hf c h2]; exact h.hi c h1 h2
  mid := fun c h1 h2 => by rw [← hf c (by omega), ← hf (c + 1) (by omega), ← hf (c - 1) (by omega)]; exact h.mid c h1 h2
  lip := fun c h1 h2 => by rw [← hf c (by omega), ← hf (c + 1) (by omega)]; exact h.lip c h1 h2
theorem sumB_0 {n : Nat} {t : Int} : ∀ {rs : List Rl}, okAll n t rs → sumB rs 0 = 0
  | [], _ => rfl
  | .fails _ _ :: rs, h => sumB_0 (rs := rs) fun x hx => h x (List.mem_cons_of_mem _ hx)
  | .best c k :: rs, h => by
    have hx : 1 ≤ c ∧ c ≤ n ∧ 0 ≤ k ∧ k ≤ 72 := h (.best c k) List.mem_cons_self
    rw [sumB_b, if_neg (by omega)]
    exact sumB_0 (rs := rs) fun x hx => h x (List.mem_cons_of_mem _ hx)
theorem rowF_congr {n : Nat} {f g : Nat → Int} (h : ∀ c, c ≤ n → f c = g c) : rowF n f = rowF n g := by
  unfold rowF
  refine List.map_congr_left fun i hi => ?_
  have := List.mem_range.mp hi
  rw [h _ (by omega), h _ (by omega)]
theorem weakest_of_spec {G : Sems} {c_bounds_of c_least_sums c_row_of : Nat} (hb : S_bounds_of (G c_bounds_of)) (hl : S_least_sums (G c_least_sums)) (hr : S_row_of (G c_row_of)) : S_weakest_of (runFn G (f_weakest_of c_bounds_of c_least_sums c_row_of)) := by
  intro n t rs w fl h1 h2 h3 h4 ho hfl hw
  have mlen : (markLs n rs).length = n := by simp [markLs]
  have e : (List.zip (markLs n rs) fl).map (fun p : Int × Int => max p.1 p.2) = (List.range n).map fun i => max (markB rs i) (at0 fl i) := by
    refine List.ext_getElem (by simp [mlen, hfl]) fun i a b => ?_
    have hi : i < n := by simpa using b
    rw [List.getElem_map, List.getElem_zip, List.getElem_map, List.getElem_range, at0_get (by omega)]
    simp [markLs]
  have em : ((List.zip (markLs n rs) fl).map fun p : Int × Int => PyData.int (max p.1 p.2)) = iL ((List.range n).map fun i => max (markB rs i) (at0 fl i)) := by
    rw [← e]
    unfold iL
    rw [List.map_map]
    rfl
  have es : ∀ c, c ≤ n → at0 (sumLs n rs) c = sumB rs c := fun c hc => range_at (by omega)
  have ema : ∀ i, i < n → at0 ((List.range n).map fun i => max (markB rs i) (at0 fl i)) i = max (markB rs i) (at0 fl i) := fun i hi => range_at hi
  have nn : ∀ i, i < n → 0 ≤ max (markB rs i) (at0 fl i) := fun i _ => by have := markB_nn (rs := rs) (c := i); omega
  have hls := hl n t (sumLs n rs) ((List.range n).map fun i => max (markB rs i) (at0 fl i)) h1 h2 h3 h4 (by simp [sumLs]) (by simp) (by rw [es 0 (by omega)]; exact sumB_0 ho)
  have lc : ∀ g, (∀ p ∈ List.zip (markLs n rs) fl, g (.tuple [.int p.1, .int p.2]) = ret (some (.int (max p.1 p.2)))) → lcRun g ((List.zip (markLs n rs) fl).map fun p => PyData.tuple [.int p.1, .int p.2]) = ret (iL ((List.range n).map fun i => max (markB rs i) (at0 fl i))) := by
    intro g hg
    rw [lc_map (fun p : Int × Int => .int (max p.1 p.2)) hg, em]
  rcases hw with rfl | rfl
  all_goals
    rcases hls with ⟨f, e1, e2, e3, e4⟩ | ⟨e1, e2⟩
    · have sol := e3.congr (s' := sumB rs) (m' := fun i => max (markB rs i) (at0 fl i)) (f' := at0 f) es ema (fun _ _ => rfl)
      have wk := isWeak_some (P := PF n rs fl) (t := t) nn (PF_asks ho) sol fun g hg c hc => e4 g (hg.congr (fun c hc => (es c hc).symm) (fun i hi => (ema i hi).symm) fun _ _ => rfl) c hc
      simp -implicitDefEqProofs [f_weakest_of, ini, hb n t rs h1 h2 ho, zip_iL]
      rw [lc _ fun p hp => by simp -implicitDefEqProofs]
      simp -implicitDefEqProofs [e1, hr _ f n (.l f) e2, wk, rowD]
    · have wk := isWeak_none (P := PF n rs fl) (t := t) (PF_asks ho) fun g hg => e2 g (hg.congr (fun c hc => (es c hc).symm) (fun i hi => (ema i hi).symm) fun _ _ => rfl)
      simp -implicitDefEqProofs [f_weakest_of, ini, hb n t rs h1 h2 ho, zip_iL]
      rw [lc _ fun p hp => by simp -implicitDefEqProofs]
      simp -implicitDefEqProofs [e1, wk, rowD]
theorem PF_zero {n : Nat} {t : Int} {rs : List Rl} : weakP n t (PF n rs (List.replicate n 0)) = weakP n t (keepsR rs) := by
  have e : ∀ r, IsRow n t r → PF n rs (List.replicate n 0) r = keepsR rs r := by
    intro r hr
    have : geF n (List.replicate n 0) r = true := geF_iff.mpr fun i hi => by
      rw [rep_at hi]
      exact hr.lo _ (at0_mem (by rw [hr.len]; exact hi))
    unfold PF
    rw [this, Bool.and_true]
  unfold weakP
  have h : ∀ r ∈ rowsL n t, (PF n rs (List.replicate n 0) r && (rowsL n t).all fun q => !PF n rs (List.replicate n 0) q || leS n r q) = (keepsR rs r && (rowsL n t).all fun q => !keepsR rs q || leS n r q) := by
    intro r hr
    rw [e r (rowsL_mem.mp hr)]
    congr 1
    rw [Bool.eq_iff_iff, List.all_eq_true, List.all_eq_true]
    constructor
    · intro h q hq
      rw [← e q (rowsL_mem.mp hq)]
      exact h q hq
    · intro h q hq
      rw [e q (rowsL_mem.mp hq)]
      exact h q hq
  generalize rowsL n t = l at h ⊢
  generalize (l.all) = L at h ⊢
  induction l with
  | nil => rfl
  | cons x l ih =>
    rw [List.find?_cons, List.find?_cons, h x List.mem_cons_self, ih fun r hr => h r (List.mem_cons_of_mem _ hr)]
abbrev weakO (n : Nat) (t : Int) (rs : List Rl) : Option (List Int) := weakP n t (keepsR rs)
def S_weakest_row (F : Fn) : Prop := ∀ (n : Nat) (t : Int) (rs : List Rl), 1 ≤ n → n ≤ 99 → 1 ≤ t → t ≤ 100 → okAll n t rs → pcall (F [schD n t rs]) = ret (rowD (weakO n t rs))
theorem weakest_row_spec {G : Sems} {c_weakest_of : Nat} (hw : S_weakest_of (G c_weakest_of)) : S_weakest_row (runFn G (f_weakest_row c_weakest_of)) := by
  intro n t rs h1 h2 h3 h4 ho
  simp -implicitDefEqProofs [f_weakest_row, ini, repOk_of (n := 1) (k := (n : Int)) (by omega) (by omega) (by omega), rep_int, hw n t rs _ (List.replicate n 0) h1 h2 h3 h4 ho (by simp) (.l _), PF_zero]
def S_weakest (F : Fn) : Prop := ∀ (n : Nat) (t : Int) (rs : List Rl), Sch n t rs → pcall (F [schD n t rs]) = ret (rowD (weakO n t rs))
theorem weakest_spec {G : Sems} {c_check_scheme c_weakest_row : Nat} (hc : S_check_scheme (G c_check_scheme)) (hw : S_weakest_row (G c_weakest_row)) : S_weakest (runFn G (f_weakest c_check_scheme c_weakest_row)) := by
  intro n t rs hs
  have h2 := hs.n2
  have h4 := hs.t2
  simp -implicitDefEqProofs [f_weakest, ini, chk_sch hc hs, hw n t rs hs.n1 (by omega) hs.t1 (by omega) hs.ok]
end Wk
set_option maxRecDepth 100000
set_option maxHeartbeats 4000000
/-! LS7: least marks, normal forms; what follows -/
namespace Wk
open PySem (PyData Str)
abbrev marksL (n : Nat) (t : Int) (rs : List Rl) : List Int := (List.range n).map (leastM n t rs)
def marksD (n : Nat) (t : Int) (rs : List Rl) : D := match weakO n t rs with
  | none => .none
  | some _ => tI (marksL n t rs)
theorem ixt_nat {r : List Int} {c : Nat} (h : c < r.length) : ixD (tI r) (.int (c : Int)) = ret (.int (at0 r c)) := by
  rw [ixt_iL (by omega) (by omega)]
  rfl
def MOI (n : Nat) (t : Int) (rs : List Rl) (i : Int) (env : Env) : Prop := ∃ j : Nat, i = j ∧ env = [.un, .ow (iL ((List.range j).map (leastM n t rs))), .un, .im (.int n), .im (.int t), .un, .im (.list (iL (sumLs n rs))), .im (.list (iL (markLs n rs))), .un, .un, .un, .un]
def MII (n : Nat) (t : Int) (rs : List Rl) (j : Nat) (i : Int) (env : Env) : Prop := ∃ p : Nat, i = ((n - j - 1 + p + 1 : Nat) : Int) ∧ env = [.un, .ow (iL ((List.range j).map (leastM n t rs))), .un, .im (.int n), .im (.int t), .un, .im (.list (iL (sumLs n rs))), .im (.list (iL (markLs n rs))), .im (.int ((n - j - 1 : Nat) : Int)), .im (.int (leastAt n t rs j p)), .un, .un]
def S_marks_of (F : Fn) : Prop := ∀ (n : Nat) (t : Int) (rs : List Rl), 1 ≤ n → n ≤ 99 → 1 ≤ t → t ≤ 100 → okAll n t rs → pcall (F [schD n t rs]) = ret (marksD n t rs)
theorem marks_of_spec {G : Sems} {c_bounds_of c_weakest_row : Nat} (hb : S_bounds_of (G c_bounds_of)) (hw : S_weakest_row (G c_weakest_row)) : S_marks_of (runFn G (f_marks_of c_bounds_of c_weakest_row)) := by
  intro n t rs h1 h2 h3 h4 ho
  have e := hw n t rs h1 h2 h3 h4 ho
  cases hk : weakO n t rs with
  | none =>
    rw [hk] at e
    simp -implicitDefEqProofs [f_marks_of, ini, e, rowD, marksD, hk]
  | some w =>
    rw [hk] at e
    refine pcall_of ?_
    simp -implicitDefEqProofs [f_marks_of, ini, e, rowD, marksD, hk, hb n t rs h1 h2 ho, rngOk_of (a := 0) (b := n) (by omega) (by omega) (by omega) (by omega)]
    refine wp_mono (wp_forR (Q := fun f _ => ∃ e, f = .nx e ∧ MOI n t rs n e) (fun i env s => MOI n t rs i env) (by omega) ⟨0, rfl, rfl⟩ ?_ ?_) ?_
    · rintro i env s i0 i1 ⟨j, rfl, rfl⟩
      refine ⟨_, by simp -implicitDefEqProofs; rfl, ?_⟩
      have hj : j < n := by omega
      have ml : (markLs n rs).length = n := by simp [markLs]
      have ma : at0 (markLs n rs) j = markB rs j := range_at hj
      have e1 : ((n : Int) - (j : Int) - 1) = ((n - j - 1 : Nat) : Int) := by omega
      have hr := rngOk_of (a := ((n - j - 1 : Nat) : Int) + 1) (b := (n : Int) + 1) (by omega) (by omega) (by omega) (by omega)
      simp -implicitDefEqProofs [e1, ixl_nat (r := markLs n rs) (c := j) (by omega), ma, hr]
      refine wp_mono (wp_forR (Q := fun f _ => ∃ e, f = .nx e ∧ MII n t rs j ((n : Int) + 1) e) (fun i env s => MII n t rs j i env) (by omega) ⟨0, by omega, rfl⟩ ?_ ?_) ?_
      · rintro i env s i2 i3 ⟨p, hi, rfl⟩
        refine ⟨_, by simp -implicitDefEqProofs; rfl, ?_⟩
        have sl : (sumLs n rs).length = n + 1 := by simp [sumLs]
        have sa : at0 (sumLs n rs) (n - j - 1 + p + 1) = sumB rs (n - j - 1 + p + 1) := range_at (by omega)
        have e3 : (i - ((n - j - 1 : Nat) : Int)) = ((p + 1 : Nat) : Int) := by omega
        have hm : mulOk (((n - j - 1 : Nat) : Int)) t = true := mulOk_r (by omega)
        have hd : divOk ((p + 1 : Nat) : Int) = true := divOk_of (by omega) (by omega)
        generalize hP : ((p + 1 : Nat) : Int) = P at e3 hd
        generalize hA : ((n - j - 1 : Nat) : Int) = A at e3 hm
        have hx : ixD (.list (iL (sumLs n rs))) (.int i) = ret (.int (sumB rs (n - j - 1 + p + 1))) := by
          rw [hi, ixl_nat (by omega), sa]
        simp -implicitDefEqProofs [hx, hm, e3, hd, -ix_l]
        refine ⟨p + 1, by omega, ?_⟩
        rw [leastAt, hA, hP, show n - j - 1 + (p + 1) = n - j - 1 + p + 1 by omega]
      · exact fun env s h => ⟨env, rfl, h⟩
      · rintro f s ⟨e, rfl, p, hp, rfl⟩
        have : p = j + 1 := by omega
        subst this
        simp -implicitDefEqProofs [show j < 16777216 by omega]
        exact ⟨j + 1, by omega, by rw [List.range_succ, List.map_append]; rfl⟩
    · exact fun env s h => ⟨env, rfl, h⟩
    · rintro f s ⟨e, rfl, j, hj, rfl⟩
      have : j = n := by omega
      subst this
      simp -implicitDefEqProofs
def S_least_marks (F : Fn) : Prop := ∀ (n : Nat) (t : Int) (rs : List Rl), Sch n t rs → pcall (F [schD n t rs]) = ret (marksD n t rs)
theorem least_marks_spec {G : Sems} {c_check_scheme c_marks_of : Nat} (hc : S_check_scheme (G c_check_scheme)) (hw : S_marks_of (G c_marks_of)) : S_least_marks (runFn G (f_least_marks c_check_scheme c_marks_of)) := by
  intro n t rs hs
  have h2 := hs.n2
  have h4 := hs.t2
  simp -implicitDefEqProofs [f_least_marks, ini, chk_sch hc hs, hw n t rs hs.n1 (by omega) hs.t1 (by omega) hs.ok]
def formD : Option (List Int × List Int) → D
  | none => .none
  | some p => .tuple [tI p.1, tI p.2]
def S_form_of (F : Fn) : Prop := ∀ (n : Nat) (t : Int) (rs : List Rl), 1 ≤ n → n ≤ 99 → 1 ≤ t → t ≤ 100 → okAll n t rs → pcall (F [schD n t rs]) = ret (formD (formO n t rs))
theorem form_of_spec {G : Sems} {c_weakest_row c_best_sums c_marks_of : Nat} (hw : S_weakest_row (G c_weakest_row)) (hb : S_best_sums (G c_best_sums)) (hm : S_marks_of (G c_marks_of)) : S_form_of (runFn G (f_form_of c_weakest_row c_best_sums c_marks_of)) := by
  intro n t rs h1 h2 h3 h4 ho
  have e := hw n t rs h1 h2 h3 h4 ho
  have em := hm n t rs h1 h2 h3 h4 ho
  unfold formO
  cases hk : weakP n t (keepsR rs) with
  | none =>
    have hk' : weakO n t rs = none := hk
    rw [hk'] at e
    simp -implicitDefEqProofs [f_form_of, ini, e, rowD, formD]
  | some w =>
    have hk' : weakO n t rs = some w := hk
    have wk := weak_is (t := t) ho
    rw [hk] at wk
    rw [hk'] at e
    unfold marksD at em
    rw [hk'] at em
    dsimp only at em
    simp -implicitDefEqProofs [f_form_of, ini, e, rowD, formD, hb _ w (.t w) (by rw [wk.1.len]; omega), em, sumsL, wk.1.len]
def S_normal (F : Fn) : Prop := ∀ (n : Nat) (t : Int) (rs : List Rl), Sch n t rs → pcall (F [schD n t rs]) = ret (formD (formO n t rs))
theorem normal_spec {G : Sems} {c_check_scheme c_form_of : Nat} (hc : S_check_scheme (G c_check_scheme)) (hw : S_form_of (G c_form_of)) : S_normal (runFn G (f_normal c_check_scheme c_form_of)) := by
  intro n t rs hs
  have h2 := hs.n2
  have h4 := hs.t2
  simp -implicitDefEqProofs [f_normal, ini, chk_sch hc hs, hw n t rs hs.n1 (by omega) hs.t1 (by omega) hs.ok]
/-! ### what follows -/
/-- every passing row holds the rule -/
def impl (n : Nat) (t : Int) (rs : List Rl) (x : Rl) : Bool := (passR n t rs).all fun r => holdsR x r
theorem impl_iff {n : Nat} {t : Int} {rs : List Rl} {x : Rl} : impl n t rs x = true ↔ ∀ r, IsRow n t r → keepsR rs r = true → holdsR x r = true := by
  unfold impl
  rw [List.all_eq_true]
  constructor
  · exact fun h r h1 h2 => h r (by unfold passR; exact List.mem_filter.mpr ⟨rowsL_mem.mpr h1, h2⟩)
  · intro h r hr
    unfold passR at hr
    obtain ⟨h1, h2⟩ := List.mem_filter.mp hr
    exact h r (rowsL_mem.mp h1) h2
theorem impl_none {n : Nat} {t : Int} {rs : List Rl} {x : Rl} (ho : okAll n t rs) (h : weakO n t rs = none) : impl n t rs x = true := by
  have wk := weak_is (t := t) ho
  have h' : weakP n t (keepsR rs) = none := h
  rw [h'] at wk
  exact impl_iff.mpr fun r h1 h2 => by rw [wk r h1] at h2; cases h2
theorem impl_fails {n : Nat} {t : Int} {rs : List Rl} {c : Nat} {k : Int} {w : List Int} (ho : okAll n t rs) (h : weakO n t rs = some w) (hc : c < n) : impl n t rs (.fails c k) = decide (k ≤ leastM n t rs c) := by
  have wk := weak_is (t := t) ho
  have h' : weakP n t (keepsR rs) = some w := h
  rw [h'] at wk
  obtain ⟨w1, w2, w3⟩ := wk
  rw [Bool.eq_iff_iff, impl_iff, decide_eq_true_eq]
  constructor
  · intro hi
    obtain ⟨l1, l2, l3⟩ := low_pass ho w1 w2 hc
    have := (fails_iff l1.asc l1.len hc).mp (hi _ l1 l2)
    rw [l3] at this
    exact this
  · intro hk r h1 h2
    have := low_le ho h1 h2 hc
    exact (fails_iff h1.asc h1.len hc).mpr (by omega)
theorem impl_best {n : Nat} {t : Int} {rs : List Rl} {c : Nat} {k : Int} {w : List Int} (ho : okAll n t rs) (h : weakO n t rs = some w) (hc : c ≤ n) : impl n t rs (.best c k) = holdsR (.best c k) w := by
  have wk := weak_is (t := t) ho
  have h' : weakP n t (keepsR rs) = some w := h
  rw [h'] at wk
  obtain ⟨w1, w2, w3⟩ := wk
  rw [Bool.eq_iff_iff, impl_iff]
  constructor
  · exact fun hi => hi w w1 w2
  · intro hk r h1 h2
    have hk : decide (k ≤ bestSum c w) = true := hk
    have := w3 r h1 h2 c hc
    show decide (k ≤ bestSum c r) = true
    simp at hk ⊢
    omega
def S_is_implied (F : Fn) : Prop := ∀ (n : Nat) (t : Int) (rs : List Rl) (x : Rl), 1 ≤ n → n ≤ 99 → 1 ≤ t → t ≤ 100 → okAll n t rs → x.ok n t → pcall (F [schD n t rs, x.d]) = ret (.bool (impl n t rs x))
theorem is_implied_spec {G : Sems} {c_weakest_row c_holds c_marks_of : Nat} (hw : S_weakest_row (G c_weakest_row)) (hh : S_holds (G c_holds)) (hm : S_marks_of (G c_marks_of)) : S_is_implied (runFn G (f_is_implied c_weakest_row c_holds c_marks_of)) := by
  intro n t rs x h1 h2 h3 h4 ho hx
  have e := hw n t rs h1 h2 h3 h4 ho
  have em := hm n t rs h1 h2 h3 h4 ho
  cases hk : weakO n t rs with
  | none =>
    rw [hk] at e
    simp -implicitDefEqProofs [f_is_implied, ini, e, rowD, impl_none ho hk]
  | some w =>
    have wk := weak_is (t := t) ho
    have hk' : weakP n t (keepsR rs) = some w := hk
    rw [hk'] at wk
    rw [hk] at e
    unfold marksD at em
    rw [hk] at em
    dsimp only at em
    cases x with
    | fails c k =>
      have hc : c < n ∧ 0 ≤ k ∧ k ≤ t := hx
      have ma : at0 (marksL n t rs) c = leastM n t rs c := range_at hc.1
      simp -implicitDefEqProofs [f_is_implied, ini, e, rowD, Rl.d, eqD_str okF okF, em, ixt_nat (r := marksL n t rs) (c := c) (by simp; omega), ma, impl_fails ho hk hc.1]
    | best c k =>
      have hc : 1 ≤ c ∧ c ≤ n ∧ 0 ≤ k ∧ k ≤ 72 := hx
      have eh := hh (.best c k) n t (tI w) w hx wk.1.len (by omega) (.t w)
      unfold Rl.d at eh
      dsimp only at eh
      simp -implicitDefEqProofs [f_is_implied, ini, e, rowD, Rl.d, eqD_str okB okF, sB_ne, eh, impl_best ho hk hc.2.1]
def S_follows (F : Fn) : Prop := ∀ (n : Nat) (t : Int) (rs : List Rl) (x : Rl), Sch n t rs → x.ok n t → pcall (F [schD n t rs, x.d]) = ret (.bool (impl n t rs x))
theorem follows_spec {G : Sems} {c_check_scheme c_is_implied c_can_be_rule : Nat} (hc : S_check_scheme (G c_check_scheme)) (hi : S_is_implied (G c_is_implied)) (hr : S_can_be_rule (G c_can_be_rule)) : S_follows (runFn G (f_follows c_check_scheme c_is_implied c_can_be_rule)) := by
  intro n t rs x hs hx
  have h2 := hs.n2
  have h4 := hs.t2
  simp -implicitDefEqProofs [f_follows, ini, chk_sch hc hs, hr n t x.d (Gd_of_Tm (k := 1) Tm_rl), canRule_iff.mpr hx, hi n t rs x hs.n1 (by omega) hs.t1 (by omega) hs.ok hx]
end Wk
set_option maxRecDepth 100000
set_option maxHeartbeats 4000000
/-! LA1: how a law runs -/
namespace Wk
open PySem (PyData Str)
def S_law (F : Fn) : Prop := ∀ ns : List Int, ns.length ≤ 63 → ∃ s, F [.list (ns.map .int)] sv0 = .ok (.bool true) s
theorem S_law_of {F : Fn} (h : ∀ ns : List Int, ns.length ≤ 63 → wp (F [.list (iL ns)]) (fun x _ => x = .bool true) sv0) : S_law F := by
  intro ns hl
  obtain ⟨x, s, e, rfl⟩ := h ns hl
  exact ⟨s, e⟩
def okz (z : Slot) : Prop := frS (some z) = true ∧ noSr z = true
theorem okz_un : okz .un := ⟨rfl, rfl⟩
theorem okz_ow {ds : List D} : okz (.ow ds) := ⟨rfl, rfl⟩
@[simp] theorem noSr_im {d : D} : noSr (.im d) = true := by rfl
@[simp] theorem noSr_un : noSr .un = true := by rfl
@[simp] theorem noSr_ow {d : List D} : noSr (.ow d) = true := by rfl
@[simp] theorem neD_bool {a b : Bool} : neD (.bool a) (.bool b) = ret (.bool (!decide (a = b))) := by
  have : PyData.eqv (.bool a) (.bool b) = decide (a = b) := by
    unfold PyData.eqv
    by_cases h : a = b <;> simp [h]
  unfold neD
  rw [this]
  rfl
@[simp] theorem isD_bool {a b : Bool} : isD (.bool a) (.bool b) = ret (.bool (decide (a = b))) := by rfl
@[simp] theorem isNotD_bool {a b : Bool} : isNotD (.bool a) (.bool b) = ret (.bool (!decide (a = b))) := by rfl
theorem eb_eq {a b : Prop} [Decidable a] [Decidable b] (h : a ↔ b) : decide a = decide b := by
  by_cases hb : b
  · rw [decide_eq_true hb, decide_eq_true (h.mpr hb)]
  · rw [decide_eq_false hb, decide_eq_false fun z => hb (h.mp z)]
theorem eqD_self {k : Nat} {x y : D} (hx : Tm k x) (hk : k ≤ 64) (h : x = y) : eqD x y = ret (.bool true) := by
  subst h
  rw [eqD_p (p := True) hx hx hk (by simp)]
  rfl
theorem neD_self {k : Nat} {x : D} (hx : Tm k x) (hk : k ≤ 64) : neD x x = ret (.bool false) := by
  rw [neD_p (p := True) hx hx hk (by simp)]
  rfl
theorem eqD_wn {rows : List (List Int)} : eqD (.list (wL rows)) (.list []) = ret (.bool (decide (rows = []))) := eqD_p (k := 2) (x := .list (wL rows)) (y := .list []) Tm_rows (by simp) (by omega) (by simp)
theorem eqD_in {r : List Int} : eqD (.list (iL r)) (.list []) = ret (.bool (decide (r = []))) := eqD_p (k := 1) (x := .list (iL r)) (y := .list []) Tm_lI (by simp) (by omega) (by simp)
theorem neD_in {r : List Int} : neD (.list (iL r)) (.list []) = ret (.bool (!decide (r = []))) := neD_p (k := 1) (x := .list (iL r)) (y := .list []) Tm_lI (by simp) (by omega) (by simp)
@[simp] theorem neD_nn : neD (.list []) (.list []) = ret (.bool false) := by
  rw [neD_p (k := 1) (p := True) (x := PyData.list []) (y := .list []) (by simp) (by simp) (by omega) (by simp)]
  rfl
@[simp] theorem eqD_nn : eqD (.list []) (.list []) = ret (.bool true) := by
  rw [eqD_p (k := 1) (p := True) (x := PyData.list []) (y := .list []) (by simp) (by simp) (by omega) (by simp)]
  rfl
theorem notIn_w {r : List Int} {rows : List (List Int)} : notInD (tI r) (.list (wL rows)) = ret (.bool (!decide (r ∈ rows))) := notInD_p (k := 1) Tm_tI Tm_rows (by omega) mem_rows
theorem in_w {r : List Int} {rows : List (List Int)} : inD (tI r) (.list (wL rows)) = ret (.bool (decide (r ∈ rows))) := inD_p (k := 1) Tm_tI Tm_rows (by omega) mem_rows
/-- the cells of the script -/
theorem wp_cells {body : Env → M Fl} {b : D → Env → Option Env} (E : Slot → Env) {Q : Fl → SV → Prop} {xs : List Int} {s : SV} {z0 : Slot} (h0 : okz z0)
    (st : ∀ (cell : Int) z s, okz z → ∃ e1, b (.int cell) (E z) = some e1 ∧ wp (body e1) (fun f _ => ∃ z', okz z' ∧ f = .nx (E z')) s) (fin : ∀ z s, okz z → Q (.nx (E z)) s) : wp (forRun body b (iL xs) (E z0)) Q s := by
  refine wp_for (fun ds env s => ∃ ys, ds = iL ys ∧ ∃ z, okz z ∧ env = E z) ⟨xs, rfl, z0, h0, rfl⟩ ?_ ?_
  · rintro d r env s ⟨ys, e, z, hz, rfl⟩
    cases ys with
    | nil => cases e
    | cons y ys =>
      rw [iL_cons] at e
      cases e
      obtain ⟨e1, q1, q2⟩ := st y z s hz
      refine ⟨e1, q1, wp_mono q2 fun f s' => ?_⟩
      rintro ⟨z', hz', rfl⟩
      exact ⟨ys, rfl, z', hz', rfl⟩
  · rintro env s ⟨ys, e, z, hz, rfl⟩
    exact fin z s hz
/-- .. and what stands under the source -/
theorem wp_srcE {i : Nat} {env : Env} {a b c : Int} {r : Env → M Fl} (E : Slot → Env) {s : SV} (h : env[i]? = some (.ow [.int a, .int b, .int c])) (h1 : (E .sr)[i]? = some .sr) (h2 : ∀ z, (E .sr).set i z = E z) (h3 : (E .un).all noSr = true)
    (w : wp (r (env.set i .sr)) (fun f _ => f = .nx (E .sr)) ⟨a, b, c⟩) : wp (srcRun i env r) (fun f _ => ∃ z', okz z' ∧ f = .nx (E z')) s := by
  obtain ⟨f, s', e, rfl⟩ := w
  refine ⟨.nx (E (.ow [.int s'.a, .int s'.b, .int s'.c])), s, ?_, _, okz_ow, rfl⟩
  unfold srcRun srcInts
  rw [h]
  dsimp only
  rw [e]
  dsimp only
  unfold backF backE
  dsimp only
  rw [h1]
  dsimp only
  rw [h2, h2, h3]
  rfl
theorem SI_start {a b c : Int} (h0 : 0 ≤ b) (h1 : b < 2147483579) (h2 : 0 ≤ c) : SI c ⟨a, b, c⟩ := ⟨h0, h1, h2, Int.le_refl _⟩
/-- turns that leave nothing but the source -/
theorem wp_turns {body : Env → M Fl} {b : D → Env → Option Env} (E : Env) (c : Int) (hc : 0 ≤ c) {Q : Fl → SV → Prop} : ∀ {ds : List D} {N : Int} {s : SV}, SI N s → N + c * ds.length ≤ 10000000 →
    (∀ d N s, N + c ≤ 10000000 → SI N s → ∃ e1, b d E = some e1 ∧ wp (body e1) (fun f s' => f = .nx E ∧ SI (N + c) s') s) → (∀ s, SI (N + c * ds.length) s → Q (.nx E) s) → wp (forRun body b ds E) Q s
  | [], N, s, h, _, _, fin => by
    unfold forRun
    rw [wp_ret]
    exact fin s (h.le (by simp))
  | d :: ds, N, s, h, hN, st, fin => by
    have hz : 0 ≤ c * (ds.length : Int) := Int.mul_nonneg hc (by omega)
    have e : c * ((d :: ds).length : Int) = c * (ds.length : Int) + c := by
      rw [List.length_cons, Int.natCast_add, Int.mul_add]
      simp
    obtain ⟨e1, q1, q2⟩ := st d N s (by omega) h
    unfold forRun
    rw [q1]
    dsimp only
    rw [wp_bnd]
    refine wp_mono q2 fun f s' => ?_
    rintro ⟨rfl, h2⟩
    exact wp_turns E c hc h2 (by omega) st fun s hs => fin s (hs.le (by omega))
theorem cells_take {ns : List Int} {k : Int} (h : 0 ≤ k) : cutD (.int 0 :: iL ns) none (some k) = iL ((0 :: ns).take k.toNat) := by
  rw [← iL_cons, cut_to h, iL_take]
theorem lc_none {α : Type} {g : D → M (Option D)} {f : α → D} {xs : List α} (e : ∀ x ∈ xs, g (f x) = ret none) : lcRun g (xs.map f) = ret [] := by
  rw [lc_fm (fun _ => none) e]
  congr 1
  induction xs with
  | nil => rfl
  | cons x xs ih => rw [List.filterMap_cons]; exact ih fun y hy => e y (List.mem_cons_of_mem _ hy)
theorem lci_none {g : D → M (Option D)} {xs : List Int} (e : ∀ x ∈ xs, g (.int x) = ret none) : lcRun g (iL xs) = ret [] := lc_none e
theorem lcr_none {g : D → M (Option D)} {xs : List Rl} (e : ∀ x ∈ xs, g x.d = ret none) : lcRun g (rL xs) = ret [] := lc_none e
theorem lcw_none {g : D → M (Option D)} {xs : List (List Int)} (e : ∀ x ∈ xs, g (tI x) = ret none) : lcRun g (wL xs) = ret [] := lc_none e
theorem zip_mem {r q : List Int} {p : Int × Int} (h : p ∈ List.zip r q) : ∃ i, i < r.length ∧ i < q.length ∧ p = (at0 r i, at0 q i) := by
  obtain ⟨i, hi, rfl⟩ := List.mem_iff_getElem.mp h
  rw [List.length_zip] at hi
  exact ⟨i, by omega, by omega, by rw [List.getElem_zip, at0_get (by omega), at0_get (by omega)]⟩
/-- [1 for own, least in zip(..) if own > least] -/
theorem zip_none {g : D → M (Option D)} {r q : List Int} (hle : ∀ i, i < r.length → i < q.length → at0 r i ≤ at0 q i) (hg : ∀ a b : Int, a ≤ b → g (.tuple [.int a, .int b]) = ret none) : lcRun g (List.zipWith (fun a b => PyData.tuple [a, b]) (iL r) (iL q)) = ret [] := by
  rw [zip_iL, lc_none fun p hp => ?_]
  obtain ⟨i, h1, h2, rfl⟩ := zip_mem hp
  exact hg _ _ (hle i h1 h2)
end Wk
set_option maxRecDepth 100000
set_option maxHeartbeats 4000000
/-! LS8: schemes compared -/
namespace Wk
open PySem (PyData Str)
theorem pass_mem {n : Nat} {t : Int} {rs : List Rl} {r : List Int} : r ∈ passR n t rs ↔ IsRow n t r ∧ keepsR rs r = true := by
  unfold passR
  rw [List.mem_filter, rowsL_mem]
theorem pass_none {n : Nat} {t : Int} {rs : List Rl} (h : IsWeak n t (keepsR rs) none) : passR n t rs = [] := by
  unfold passR
  exact List.filter_eq_nil_iff.mpr fun r hr => by rw [h r (rowsL_mem.mp hr)]; simp
theorem weakO_is {n : Nat} {t : Int} {rs : List Rl} (ho : okAll n t rs) {o : Option (List Int)} (h : weakO n t rs = o) : IsWeak n t (keepsR rs) o := by
  have := weak_is (t := t) ho
  have h' : weakP n t (keepsR rs) = o := h
  rwa [h'] at this
theorem weakO_none {n : Nat} {t : Int} {rs : List Rl} (ho : okAll n t rs) : weakO n t rs = none ↔ passR n t rs = [] := by
  constructor
  · exact fun h => pass_none (weakO_is ho h)
  · intro h
    cases hw : weakO n t rs with
    | none => rfl
    | some w =>
      obtain ⟨w1, w2, _⟩ := weakO_is ho hw
      have : w ∈ passR n t rs := pass_mem.mpr ⟨w1, w2⟩
      rw [h] at this
      cases this
theorem weakO_some {n : Nat} {t : Int} {rs : List Rl} (ho : okAll n t rs) (h : passR n t rs ≠ []) : ∃ w, weakO n t rs = some w := by
  cases hw : weakO n t rs with
  | none => exact absurd ((weakO_none ho).mp hw) h
  | some w => exact ⟨w, rfl⟩
/-- the least mark of all passing rows -/
theorem min_mark {n : Nat} {t : Int} {rs : List Rl} {i : Nat} (ho : okAll n t rs) (h : passR n t rs ≠ []) (hi : i < n) : minL ((passR n t rs).map fun r => at0 r i) = leastM n t rs i := by
  have hne : (passR n t rs).map (fun r => at0 r i) ≠ [] := by simpa using h
  obtain ⟨w, hw⟩ := weakO_some ho h
  obtain ⟨w1, w2, _⟩ := weakO_is ho hw
  obtain ⟨l1, l2, l3⟩ := low_pass ho w1 w2 hi
  refine Int.le_antisymm (minL_le (List.mem_map.mpr ⟨_, pass_mem.mpr ⟨l1, l2⟩, l3⟩)) ?_
  obtain ⟨r, hr, e⟩ := List.mem_map.mp (minL_mem hne)
  rw [← e]
  obtain ⟨r1, r2⟩ := pass_mem.mp hr
  exact low_le ho r1 r2 hi
theorem min_sum {n : Nat} {t : Int} {rs : List Rl} {i : Nat} {w : List Int} (ho : okAll n t rs) (hw : weakO n t rs = some w) (hi : i < n) : minL ((passR n t rs).map fun r => at0 (sumsL r) i) = bestSum (i + 1) w := by
  obtain ⟨w1, w2, w3⟩ := weakO_is ho hw
  have hne : (passR n t rs).map (fun r => at0 (sumsL r) i) ≠ [] := by
    have := List.ne_nil_of_mem (pass_mem.mpr ⟨w1, w2⟩)
    simpa using this
  have sa : ∀ {r : List Int}, IsRow n t r → at0 (sumsL r) i = bestSum (i + 1) r := fun hr => range_at (by rw [hr.len]; exact hi)
  refine Int.le_antisymm (minL_le (List.mem_map.mpr ⟨_, pass_mem.mpr ⟨w1, w2⟩, sa w1⟩)) ?_
  obtain ⟨r, hr, e⟩ := List.mem_map.mp (minL_mem hne)
  rw [← e]
  obtain ⟨r1, r2⟩ := pass_mem.mp hr
  rw [sa r1]
  exact w3 r r1 r2 _ (by omega)
theorem formO_none {n : Nat} {t : Int} {rs : List Rl} (ho : okAll n t rs) : formO n t rs = none ↔ passR n t rs = [] := by
  unfold formO
  rw [Option.map_eq_none_iff]
  exact weakO_none ho
theorem formO_some {n : Nat} {t : Int} {rs : List Rl} {w : List Int} (ho : okAll n t rs) (hw : weakO n t rs = some w) : formO n t rs = some (sumsL w, marksL n t rs) := by
  have h' : weakP n t (keepsR rs) = some w := hw
  obtain ⟨w1, _⟩ := weakO_is ho hw
  unfold formO
  rw [h']
  unfold sumsL
  rw [w1.len]
  rfl
/-- equal rows pass if the forms are equal -/
theorem form_pass {n : Nat} {t : Int} {rs qs : List Rl} (ho : okAll n t rs) (ho' : okAll n t qs) : passR n t rs = passR n t qs ↔ formO n t rs = formO n t qs := by
  constructor
  · intro h
    by_cases he : passR n t rs = []
    · rw [(formO_none ho).mpr he, (formO_none ho').mpr (h ▸ he)]
    · obtain ⟨w, hw⟩ := weakO_some ho he
      obtain ⟨v, hv⟩ := weakO_some ho' (h ▸ he)
      rw [formO_some ho hw, formO_some ho' hv]
      obtain ⟨w1, w2, w3⟩ := weakO_is ho hw
      obtain ⟨v1, v2, v3⟩ := weakO_is ho' hv
      have hwq := (pass_mem.mp (h ▸ pass_mem.mpr ⟨w1, w2⟩)).2
      have hvr := (pass_mem.mp (h.symm ▸ pass_mem.mpr ⟨v1, v2⟩)).2
      have e : w = v := row_eq w1 v1 fun c hc => Int.le_antisymm (w3 v v1 hvr c hc) (v3 w w1 hwq c hc)
      rw [e]
      congr 2
      refine List.map_congr_left fun i hi => ?_
      have hi := List.mem_range.mp hi
      rw [← min_mark ho he hi, ← min_mark ho' (h ▸ he) hi, h]
  · intro h
    by_cases he : passR n t rs = []
    · rw [he, (formO_none ho').mp (h ▸ (formO_none ho).mpr he)]
    · have he' : passR n t qs ≠ [] := fun z => he ((formO_none ho).mp (h.trans ((formO_none ho').mpr z)))
      obtain ⟨w, hw⟩ := weakO_some ho he
      obtain ⟨v, hv⟩ := weakO_some ho' he'
      rw [formO_some ho hw, formO_some ho' hv] at h
      have h := Option.some.inj h
      have h1 := congrArg Prod.fst h
      have h2 := congrArg Prod.snd h
      dsimp only at h1 h2
      obtain ⟨w1, w2, w3⟩ := weakO_is ho hw
      obtain ⟨v1, v2, v3⟩ := weakO_is ho' hv
      have sums : ∀ c, 1 ≤ c → c ≤ n → bestSum c w = bestSum c v := by
        intro c c1 c2
        have a : at0 (sumsL w) (c - 1) = bestSum (c - 1 + 1) w := range_at (by rw [w1.len]; omega)
        have b : at0 (sumsL v) (c - 1) = bestSum (c - 1 + 1) v := range_at (by rw [v1.len]; omega)
        rw [show c - 1 + 1 = c by omega] at a b
        rw [← a, ← b, h1]
      have marks : ∀ i, i < n → leastM n t rs i = leastM n t qs i := by
        intro i hi
        have a : at0 (marksL n t rs) i = leastM n t rs i := range_at hi
        have b : at0 (marksL n t qs) i = leastM n t qs i := range_at hi
        rw [← a, ← b, h2]
      unfold passR
      refine List.filter_congr fun r hr => ?_
      have hr := rowsL_mem.mp hr
      rw [Bool.eq_iff_iff, pass_form ho hw hr, pass_form ho' hv hr]
      constructor
      · rintro ⟨a, b⟩
        exact ⟨fun c c1 c2 => by rw [← sums c c1 c2]; exact a c c1 c2, fun i hi => by rw [← marks i hi]; exact b i hi⟩
      · rintro ⟨a, b⟩
        exact ⟨fun c c1 c2 => by rw [sums c c1 c2]; exact a c c1 c2, fun i hi => by rw [marks i hi]; exact b i hi⟩
theorem Tm_form {o : Option (List Int × List Int)} {k : Nat} : Tm (k + 2) (formD o) := by
  cases o with
  | none => exact Tm_none
  | some p =>
    intro d hd
    simp only [List.mem_cons, List.not_mem_nil, or_false] at hd
    rcases hd with rfl | rfl <;> exact Tm_tI
theorem formD_inj {o p : Option (List Int × List Int)} : formD o = formD p ↔ o = p := by
  cases o with
  | none => cases p <;> simp [formD]
  | some a =>
    cases p with
    | none => simp [formD]
    | some b =>
      obtain ⟨a1, a2⟩ := a
      obtain ⟨b1, b2⟩ := b
      simp [formD]
theorem eqD_form {o p : Option (List Int × List Int)} : eqD (formD o) (formD p) = ret (.bool (decide (o = p))) := eqD_p (k := 2) Tm_form Tm_form (by omega) formD_inj
theorem neD_form {o p : Option (List Int × List Int)} : neD (formD o) (formD p) = ret (.bool (!decide (o = p))) := neD_p (k := 2) Tm_form Tm_form (by omega) formD_inj
theorem Tm_wl {rows : List (List Int)} {k : Nat} : Tm (k + 2) (.list (wL rows)) := Tm_rows
theorem eqD_ww {a b : List (List Int)} : eqD (.list (wL a)) (.list (wL b)) = ret (.bool (decide (a = b))) := eqD_p (k := 2) Tm_wl Tm_wl (by omega) (by simp)
theorem neD_ww {a b : List (List Int)} : neD (.list (wL a)) (.list (wL b)) = ret (.bool (!decide (a = b))) := neD_p (k := 2) Tm_wl Tm_wl (by omega) (by simp)
theorem neD_wn {rows : List (List Int)} : neD (.list (wL rows)) (.list []) = ret (.bool (!decide (rows = []))) := neD_p (k := 2) (x := .list (wL rows)) (y := .list []) Tm_rows (by simp) (by omega) (by simp)
theorem Tm_marks {n : Nat} {t : Int} {rs : List Rl} {k : Nat} : Tm (k + 1) (marksD n t rs) := by
  unfold marksD
  split
  · exact Tm_none
  · exact Tm_tI
/-! ### the program's comparing -/
def S_check_both (F : Fn) : Prop := ∀ (n : Nat) (t : Int) (rs qs : List Rl), Sch n t rs → Sch n t qs → pcall (F [schD n t rs, schD n t qs]) = ret .none
theorem cut2 {a b c : D} : cutD [a, b, c] none (some 2) = [a, b] := by
  rw [cut_to (by omega)]
  rfl
theorem neD_nt {n : Nat} {t : Int} : neD (.tuple [.int n, .int t]) (.tuple [.int n, .int t]) = ret (.bool false) := by
  rw [neD_p (k := 1) (p := True) (by simp) (by simp) (by omega) (by simp)]
  rfl
theorem check_both_spec {G : Sems} {c_check_scheme c_is_scheme : Nat} (hc : S_check_scheme (G c_check_scheme)) (hs : S_is_scheme (G c_is_scheme)) : S_check_both (runFn G (f_check_both c_check_scheme c_is_scheme)) := by
  intro n t rs qs h1 h2
  simp -implicitDefEqProofs [f_check_both, ini, chk_sch hc h1, hs _ (Gd_sch (n := n) (t := t) (rs := qs)), isSch_of h2, cut2, neD_nt]
def implS (n : Nat) (t : Int) (rs qs : List Rl) : Bool := qs.all fun x => impl n t rs x
theorem implS_iff {n : Nat} {t : Int} {rs qs : List Rl} : implS n t rs qs = true ↔ ∀ r, IsRow n t r → keepsR rs r = true → keepsR qs r = true := by
  unfold implS keepsR
  simp only [List.all_eq_true]
  constructor
  · intro h r hr hk x hx
    exact impl_iff.mp (h x hx) r hr (List.all_eq_true.mpr hk)
  · intro h x hx
    exact impl_iff.mpr fun r hr hk => h r hr (List.all_eq_true.mp hk) x hx
def S_implies (F : Fn) : Prop := ∀ (n : Nat) (t : Int) (rs qs : List Rl), Sch n t rs → Sch n t qs → pcall (F [schD n t rs, schD n t qs]) = ret (.bool (implS n t rs qs))
theorem implies_spec {G : Sems} {c_check_both c_is_implied : Nat} (hc : S_check_both (G c_check_both)) (hi : S_is_implied (G c_is_implied)) : S_implies (runFn G (f_implies c_check_both c_is_implied)) := by
  intro n t rs qs h1 h2
  have a2 := h1.n2
  have a4 := h1.t2
  simp -implicitDefEqProofs [f_implies, ini, hc n t rs qs h1 h2]
  rw [lcr_map (fun x => .bool (impl n t rs x)) fun x hx => by simp -implicitDefEqProofs [hi n t rs x h1.n1 (by omega) h1.t1 (by omega) h1.ok (h2.ok x hx)]]
  simp -implicitDefEqProofs
  rw [all_b]
  simp -implicitDefEqProofs [implS]
def S_low_row (F : Fn) : Prop := ∀ (n : Nat) (t : Int) (rs : List Rl) (w : List Int) (i : Nat), 1 ≤ n → n ≤ 99 → 1 ≤ t → t ≤ 100 → okAll n t rs → weakO n t rs = some w → i < n → pcall (F [schD n t rs, .int (i : Nat)]) = ret (tI (lowRow n t i (leastM n t rs i)))
theorem low_row_spec {G : Sems} {c_marks_of : Nat} (hm : S_marks_of (G c_marks_of)) : S_low_row (runFn G (f_low_row c_marks_of)) := by
  intro n t rs w i h1 h2 h3 h4 ho hw hi
  have em := hm n t rs h1 h2 h3 h4 ho
  unfold marksD at em
  rw [hw] at em
  dsimp only at em
  have ma : at0 (marksL n t rs) i = leastM n t rs i := range_at hi
  have e1 : ((n : Int) - (i : Int) - 1).toNat = n - i - 1 := by omega
  have e2 : ((i : Int) + 1).toNat = i + 1 := by omega
  simp -implicitDefEqProofs [f_low_row, ini, cut2, em, ixt_nat (r := marksL n t rs) (c := i) (by simp; omega), ma, repOk_of (n := 1) (k := (i : Int) + 1) (by omega) (by omega) (by omega), repOk_of (n := 1) (k := (n : Int) - (i : Int) - 1) (by omega) (by omega) (by omega), e1, e2, rep_int, sizeOk_of (n := i + 1 + (n - i - 1)) (by omega), lowRow]
/-- what tells two schemes apart -/
def brk (n : Nat) (t : Int) (rs : List Rl) : List Rl → Option (List Int)
  | [] => none
  | x :: qs => if impl n t rs x = true then brk n t rs qs else match x with
    | .fails c _ => some (lowRow n t c (leastM n t rs c))
    | .best _ _ => weakO n t rs
theorem brk_none {n : Nat} {t : Int} {rs : List Rl} (ho : okAll n t rs) : ∀ {qs : List Rl}, brk n t rs qs = none ↔ implS n t rs qs = true
  | [] => by simp [brk, implS]
  | x :: qs => by
    unfold brk
    rw [show implS n t rs (x :: qs) = (impl n t rs x && implS n t rs qs) from rfl]
    by_cases h : impl n t rs x = true
    · rw [if_pos h, h, Bool.true_and, brk_none ho]
    · rw [if_neg h]
      have hw : ∃ w, weakO n t rs = some w := by
        cases hk : weakO n t rs with
        | none => exact absurd (impl_none ho hk) h
        | some w => exact ⟨w, rfl⟩
      obtain ⟨w, hw⟩ := hw
      have hf : (impl n t rs x && implS n t rs qs) = false := by
        cases h2 : impl n t rs x with
        | true => exact absurd h2 h
        | false => rfl
      rw [hf]
      cases x <;> simp [hw]
theorem brk_some {n : Nat} {t : Int} {rs : List Rl} (ho : okAll n t rs) : ∀ {qs : List Rl} {r : List Int}, okAll n t qs → brk n t rs qs = some r → IsRow n t r ∧ keepsR rs r = true ∧ keepsR qs r = false
  | [], r, _, h => by cases h
  | x :: qs, r, hq, h => by
    unfold brk at h
    have hx := hq x List.mem_cons_self
    by_cases hi : impl n t rs x = true
    · rw [if_pos hi] at h
      obtain ⟨a, b, c⟩ := brk_some ho (fun y hy => hq y (List.mem_cons_of_mem _ hy)) h
      exact ⟨a, b, by show (holdsR x r && keepsR qs r) = false; rw [c, Bool.and_false]⟩
    · rw [if_neg hi] at h
      have hw : ∃ w, weakO n t rs = some w := by
        cases hk : weakO n t rs with
        | none => exact absurd (impl_none ho hk) hi
        | some w => exact ⟨w, rfl⟩
      obtain ⟨w, hw⟩ := hw
      obtain ⟨w1, w2, w3⟩ := weakO_is ho hw
      cases x with
      | fails c k =>
        have hc : c < n ∧ 0 ≤ k ∧ k ≤ t := hx
        have h := Option.some.inj h
        obtain ⟨l1, l2, l3⟩ := low_pass ho w1 w2 hc.1
        rw [h] at l1 l2 l3
        refine ⟨l1, l2, ?_⟩
        rw [impl_fails ho hw hc.1, decide_eq_true_eq, ← l3] at hi
        have : holdsR (.fails c k) r = false := by
          cases hh : holdsR (.fails c k) r with
          | false => rfl
          | true => exact absurd ((fails_iff l1.asc l1.len hc.1).mp hh) hi
        show (holdsR (.fails c k) r && keepsR qs r) = false
        rw [this, Bool.false_and]
      | best c k =>
        have hc : 1 ≤ c ∧ c ≤ n ∧ 0 ≤ k ∧ k ≤ 72 := hx
        have h : weakO n t rs = some r := h
        rw [hw] at h
        cases h
        rw [impl_best ho hw hc.2.1] at hi
        refine ⟨w1, w2, ?_⟩
        show (holdsR (.best c k) r && keepsR qs r) = false
        cases hh : holdsR (.best c k) r with
        | false => rfl
        | true => exact absurd hh hi
def S_breaker (F : Fn) : Prop := ∀ (n : Nat) (t : Int) (rs qs : List Rl), 1 ≤ n → n ≤ 99 → 1 ≤ t → t ≤ 100 → okAll n t rs → okAll n t qs → pcall (F [schD n t rs, schD n t qs]) = ret (rowD (brk n t rs qs))
theorem breaker_spec {G : Sems} {c_is_implied c_low_row c_weakest_row : Nat} (hi : S_is_implied (G c_is_implied)) (hl : S_low_row (G c_low_row)) (hw : S_weakest_row (G c_weakest_row)) : S_breaker (runFn G (f_breaker c_is_implied c_low_row c_weakest_row)) := by
  intro n t rs qs h1 h2 h3 h4 ho hq
  refine pcall_of ?_
  simp -implicitDefEqProofs [f_breaker, ini]
  have ew := hw n t rs h1 h2 h3 h4 ho
  have key : ∀ (ys : List Rl) (s : SV), okAll n t ys → wp (forRun (execs G (.cons (.ifs (.not (.call c_is_implied (.cons (.var 0) (.cons (.var 2) (.nil))))) (.cons (.ret (.ite (.cmp .eq (.ix (.var 2) (.int 0)) (.str (Str.ofString "fails"))) (.call c_low_row (.cons (.var 0) (.cons (.ix (.var 2) (.int 1)) (.nil)))) (.call c_weakest_row (.cons (.var 0) (.nil))))) (.nil)) (.nil)) (.wipe [2] .nil))) (bindT (.nm 2)) (rL ys) [.im (schD n t rs), .im (schD n t qs), .un]) (fun f _ => match brk n t rs ys with
      | none => f = .nx [.im (schD n t rs), .im (schD n t qs), .un]
      | some r => f = .rt (tI r)) s := by
    intro ys
    induction ys with
    | nil =>
      intro s _
      rw [rL_nil]
      unfold forRun
      rw [wp_ret]
      rfl
    | cons x ys ih =>
      intro s hys
      have hx := hys x List.mem_cons_self
      have e := hi n t rs x h1 h2 h3 h4 ho hx
      rw [rL_cons]
      unfold forRun
      cases hk : impl n t rs x with
      | true =>
        rw [hk] at e
        simp -implicitDefEqProofs [e]
        have := ih s fun y hy => hys y (List.mem_cons_of_mem _ hy)
        unfold brk
        rw [hk, if_pos rfl]
        exact this
      | false =>
        rw [hk] at e
        have hwk : ∃ w, weakO n t rs = some w := by
          cases hk2 : weakO n t rs with
          | none => rw [impl_none ho hk2] at hk; cases hk
          | some w => exact ⟨w, rfl⟩
        obtain ⟨w, hwk⟩ := hwk
        rw [hwk] at ew
        unfold brk
        rw [hk, if_neg (by decide)]
        cases x with
        | fails c k =>
          have hc : c < n ∧ 0 ≤ k ∧ k ≤ t := hx
          unfold Rl.d at e ⊢
          dsimp only at e ⊢
          simp -implicitDefEqProofs [e, eqD_str okF okF, hl n t rs w c h1 h2 h3 h4 ho hwk hc.1]
        | best c k =>
          unfold Rl.d at e ⊢
          dsimp only at e ⊢
          rw [hwk]
          simp -implicitDefEqProofs [e, eqD_str okB okF, sB_ne, ew, rowD]
  refine wp_mono (key qs sv0 hq) fun f s hf => ?_
  cases hb : brk n t rs qs with
  | none =>
    rw [hb] at hf
    dsimp only at hf
    subst hf
    simp -implicitDefEqProofs [rowD]
  | some r =>
    rw [hb] at hf
    dsimp only at hf
    subst hf
    simp -implicitDefEqProofs [rowD]
def diffO (n : Nat) (t : Int) (rs qs : List Rl) : Option (List Int) := match brk n t rs qs with
  | none => brk n t qs rs
  | some r => some r
def S_difference (F : Fn) : Prop := ∀ (n : Nat) (t : Int) (rs qs : List Rl), Sch n t rs → Sch n t qs → pcall (F [schD n t rs, schD n t qs]) = ret (rowD (diffO n t rs qs))
theorem difference_spec {G : Sems} {c_check_both c_breaker : Nat} (hc : S_check_both (G c_check_both)) (hb : S_breaker (G c_breaker)) : S_difference (runFn G (f_difference c_check_both c_breaker)) := by
  intro n t rs qs h1 h2
  have a2 := h1.n2
  have a4 := h1.t2
  have e1 := hb n t rs qs h1.n1 (by omega) h1.t1 (by omega) h1.ok h2.ok
  have e2 := hb n t qs rs h1.n1 (by omega) h1.t1 (by omega) h2.ok h1.ok
  unfold diffO
  cases h : brk n t rs qs with
  | none =>
    rw [h] at e1
    simp -implicitDefEqProofs [f_difference, ini, hc n t rs qs h1 h2, e1, rowD, e2]
  | some r =>
    rw [h] at e1
    simp -implicitDefEqProofs [f_difference, ini, hc n t rs qs h1 h2, e1, rowD]
end Wk
set_option maxRecDepth 100000
set_option maxHeartbeats 4000000
/-! LS9: ways; bonus -/
namespace Wk
open PySem (PyData Str)
def yL (n : Nat) (t : Int) (qss : List (List Rl)) : List D := qss.map (schD n t)
@[simp] theorem yL_len {n : Nat} {t : Int} {l : List (List Rl)} : (yL n t l).length = l.length := by
  unfold yL
  rw [List.length_map]
theorem all_tt {α : Type} {l : List α} : (l.all fun _ => true) = true := by
  induction l with
  | nil => rfl
  | cons x l ih => rw [List.all_cons, ih]; rfl
theorem yL_cons {n : Nat} {t : Int} {l : List (List Rl)} {q : List Rl} : yL n t (q :: l) = schD n t q :: yL n t l := rfl
structure Ways (n : Nat) (t : Int) (qss : List (List Rl)) : Prop where
  l1 : 1 ≤ qss.length
  l3 : qss.length ≤ 3
  ok : ∀ q ∈ qss, Sch n t q
theorem eqD_nt {n : Nat} {t : Int} : eqD (.tuple [.int n, .int t]) (.tuple [.int n, .int t]) = ret (.bool true) := eqD_self (k := 1) (by simp) (by omega) rfl
def S_are_ways (F : Fn) : Prop := ∀ (n : Nat) (t : Int) (qss : List (List Rl)), Ways n t qss → pcall (F [.tuple (yL n t qss)]) = ret (.bool true)
theorem yl_map {g : D → M (Option D)} {n : Nat} {t : Int} {qss : List (List Rl)} (h : List Rl → D) (hg : ∀ q ∈ qss, g (schD n t q) = ret (some (h q))) : lcRun g (yL n t qss) = ret (qss.map h) := lc_map h hg
theorem ix_yL {n : Nat} {t : Int} {qss : List (List Rl)} {q : List Rl} (h : qss.head? = some q) : (yL n t qss)[0]? = some (schD n t q) := by
  cases qss with
  | nil => cases h
  | cons a l =>
    cases h
    rfl
theorem are_ways_spec {G : Sems} {c_is_scheme : Nat} (hs : S_is_scheme (G c_is_scheme)) : S_are_ways (runFn G (f_are_ways c_is_scheme)) := by
  intro n t qss hw
  have a1 := hw.l1
  have a3 := hw.l3
  obtain ⟨q, hq⟩ : ∃ q, qss.head? = some q := by
    cases qss with
    | nil => simp at a1
    | cons a l => exact ⟨a, rfl⟩
  simp -implicitDefEqProofs [f_are_ways, ini, show (1 : Int) ≤ (qss.length : Int) by omega, show ((qss.length : Int)) ≤ 3 by omega]
  rw [yl_map (fun _ => .bool true) fun x hx => by simp -implicitDefEqProofs [hs _ (Gd_sch (n := n) (t := t) (rs := x)), isSch_of (hw.ok x hx)]]
  simp -implicitDefEqProofs
  rw [all_b]
  simp -implicitDefEqProofs
  rw [yl_map (fun _ => .bool true) fun x hx => by simp -implicitDefEqProofs [cut2, ix_yL hq, eqD_nt]]
  simp -implicitDefEqProofs
  rw [all_b, all_tt]
  simp -implicitDefEqProofs
def S_check_ways (F : Fn) : Prop := ∀ (n : Nat) (t : Int) (rs : List Rl) (qss : List (List Rl)), Sch n t rs → Ways n t qss → pcall (F [schD n t rs, .tuple (yL n t qss)]) = ret .none
theorem check_ways_spec {G : Sems} {c_check_scheme c_are_ways : Nat} (hc : S_check_scheme (G c_check_scheme)) (ha : S_are_ways (G c_are_ways)) : S_check_ways (runFn G (f_check_ways c_check_scheme c_are_ways)) := by
  intro n t rs qss h1 h2
  have a1 := h2.l1
  obtain ⟨q, hq⟩ : ∃ q, qss.head? = some q := by
    cases qss with
    | nil => simp at a1
    | cons a l => exact ⟨a, rfl⟩
  simp -implicitDefEqProofs [f_check_ways, ini, chk_sch hc h1, ha n t qss h2, ix_yL hq, cut2, neD_nt]
def anyW (qss : List (List Rl)) (r : List Int) : Bool := qss.any fun q => keepsR q r
def S_passes_any (F : Fn) : Prop := ∀ (n : Nat) (t : Int) (qss : List (List Rl)) (r : List Int), Ways n t qss → Mk n t r → pcall (F [.tuple (yL n t qss), tI r]) = ret (.bool (anyW qss r))
theorem passes_any_spec {G : Sems} {c_are_ways c_can_be_result c_keeps : Nat} (ha : S_are_ways (G c_are_ways)) (hr : S_can_be_result (G c_can_be_result)) (hk : S_keeps (G c_keeps)) : S_passes_any (runFn G (f_passes_any c_are_ways c_can_be_result c_keeps)) := by
  intro n t qss r h2 hm
  have a1 := h2.l1
  obtain ⟨q, hq⟩ : ∃ q, qss.head? = some q := by
    cases qss with
    | nil => simp at a1
    | cons a l => exact ⟨a, rfl⟩
  have e := hr n t (rsD q) (tI r)
  rw [isRes_of hm] at e
  simp -implicitDefEqProofs [f_passes_any, ini, ha n t qss h2, ix_yL hq, e]
  rw [yl_map (fun q => .bool (keepsR q r)) fun x hx => by simp -implicitDefEqProofs [hk x n t _ r (h2.ok x hx).ok hm.1 (by have := (h2.ok x hx).n2; omega) (.t r)]]
  simp -implicitDefEqProofs
  rw [any_b]
  simp -implicitDefEqProofs [anyW]
def uncO (n : Nat) (t : Int) (rs : List Rl) (qss : List (List Rl)) : Option (List Int) := (rowsL n t).find? fun r => keepsR rs r && !anyW qss r
/-- a loop that gives back the first one -/
theorem wp_find {body : Env → M Fl} {b : D → Env → Option Env} {E : Env} (p : List Int → Bool) : ∀ {rows : List (List Int)}, (∀ r ∈ rows, ∀ s, ∃ e1, b (tI r) E = some e1 ∧ wp (body e1) (fun f s' => f = if p r = true then .rt (tI r) else .nx E) s) → ∀ s, wp (forRun body b (wL rows) E) (fun f _ => f = match rows.find? p with
    | some r => .rt (tI r)
    | none => .nx E) s
  | [], _, s => by
    rw [wL_nil]
    unfold forRun
    rw [wp_ret]
    rfl
  | r :: rows, h, s => by
    obtain ⟨e1, h1, h2⟩ := h r List.mem_cons_self s
    rw [wL_cons]
    unfold forRun
    rw [h1]
    dsimp only
    rw [wp_bnd]
    refine wp_mono h2 fun f s' hf => ?_
    rw [List.find?_cons]
    cases hp : p r with
    | true =>
      rw [hp, if_pos rfl] at hf
      subst hf
      dsimp only
      rw [wp_ret]
    | false =>
      rw [hp, if_neg (by decide)] at hf
      subst hf
      dsimp only
      exact wp_find p (fun x hx => h x (List.mem_cons_of_mem _ hx)) s'
def S_find_uncovered (F : Fn) : Prop := ∀ (n : Nat) (t : Int) (rs : List Rl) (qss : List (List Rl)), Sch n t rs → Ways n t qss → pcall (F [schD n t rs, .tuple (yL n t qss)]) = ret (rowD (uncO n t rs qss))
theorem find_uncovered_spec {G : Sems} {c_all_rows c_keeps : Nat} (hr : S_all_rows (G c_all_rows)) (hk : S_keeps (G c_keeps)) : S_find_uncovered (runFn G (f_find_uncovered c_all_rows c_keeps)) := by
  intro n t rs qss h1 h2
  have a2 := h1.n2
  have a3 := h1.t1
  have a4 := h1.t2
  refine pcall_of ?_
  simp -implicitDefEqProofs [f_find_uncovered, ini, hr n t a2 (by omega) a4]
  refine wp_mono (wp_find (E := [.im (schD n t rs), .im (.tuple (yL n t qss)), .un, .un]) (fun r => keepsR rs r && !anyW qss r) (fun r hrm s => ⟨_, by simp -implicitDefEqProofs; rfl, ?_⟩) sv0) fun f s hf => ?_
  · have hrow := rowsL_mem.mp hrm
    have e := hk rs n t (tI r) r h1.ok hrow.len (by omega) (.t r)
    cases h : keepsR rs r with
    | false =>
      rw [h] at e
      simp -implicitDefEqProofs [e]
    | true =>
      rw [h] at e
      simp -implicitDefEqProofs [e]
      rw [yl_map (fun q => .bool (keepsR q r)) fun x hx => by simp -implicitDefEqProofs [hk x n t _ r (h2.ok x hx).ok hrow.len (by omega) (.t r)]]
      simp -implicitDefEqProofs
      rw [any_b]
      cases ha : anyW qss r with
      | false =>
        have ha' : (qss.any fun q => keepsR q r) = false := ha
        simp -implicitDefEqProofs [ha']
      | true =>
        have ha' : (qss.any fun q => keepsR q r) = true := ha
        simp -implicitDefEqProofs [ha']
  · subst hf
    unfold uncO
    cases (rowsL n t).find? _ with
    | none => simp -implicitDefEqProofs [rowD]
    | some r => simp -implicitDefEqProofs [rowD]
def S_covered (F : Fn) : Prop := ∀ (n : Nat) (t : Int) (rs : List Rl) (qss : List (List Rl)), Sch n t rs → Ways n t qss → pcall (F [schD n t rs, .tuple (yL n t qss)]) = ret (.bool (decide (uncO n t rs qss = none)))
theorem isNone_row {o : Option (List Int)} : isNone (rowD o) = decide (o = none) := by
  cases o <;> simp [rowD]
theorem covered_spec {G : Sems} {c_check_ways c_find_uncovered : Nat} (hc : S_check_ways (G c_check_ways)) (hf : S_find_uncovered (G c_find_uncovered)) : S_covered (runFn G (f_covered c_check_ways c_find_uncovered)) := by
  intro n t rs qss h1 h2
  simp -implicitDefEqProofs [f_covered, ini, hc n t rs qss h1 h2, hf n t rs qss h1 h2, isNone_row]
def S_uncovered (F : Fn) : Prop := ∀ (n : Nat) (t : Int) (rs : List Rl) (qss : List (List Rl)), Sch n t rs → Ways n t qss → pcall (F [schD n t rs, .tuple (yL n t qss)]) = ret (rowD (uncO n t rs qss))
theorem uncovered_spec {G : Sems} {c_check_ways c_find_uncovered : Nat} (hc : S_check_ways (G c_check_ways)) (hf : S_find_uncovered (G c_find_uncovered)) : S_uncovered (runFn G (f_uncovered c_check_ways c_find_uncovered)) := by
  intro n t rs qss h1 h2
  simp -implicitDefEqProofs [f_uncovered, ini, hc n t rs qss h1 h2, hf n t rs qss h1 h2]
theorem upTo_len0 {b : Int} : (upTo 0 b).length = (b + 1).toNat := by
  rw [upTo_len]
  congr 1
  omega
theorem repT_of {n : Nat} {k : Int} (h1 : n ≤ 100) (h0 : 0 ≤ k) (h2 : k ≤ 100) : repTOk n k = true := by
  unfold repTOk
  simp
  omega
/-! ### lists of results -/
def gL (rss : List (List Int)) : List D := wL rss
def S_check_list (F : Fn) : Prop := ∀ (n : Nat) (t : Int) (rs : List Rl) (rows : List (List Int)), rows.length ≤ 20 → (∀ r ∈ rows, Mk n t r) → pcall (F [schD n t rs, .tuple (wL rows)]) = ret .none
theorem check_list_spec {G : Sems} {c_can_be_result : Nat} (hr : S_can_be_result (G c_can_be_result)) : S_check_list (runFn G (f_check_list c_can_be_result)) := by
  intro n t rs rows hl hm
  have hl' : ((rows.length : Int)) ≤ 20 := by omega
  simp -implicitDefEqProofs [f_check_list, ini, hl']
  rw [lcw_map (fun _ => .bool true) fun r hrm => by
    have e := hr n t (rsD rs) (tI r)
    rw [isRes_of (hm r hrm)] at e
    simp -implicitDefEqProofs [e]]
  simp -implicitDefEqProofs
  rw [all_b]
  simp -implicitDefEqProofs
/-! ### the bonus -/
def bonR (t b : Int) (r : List Int) : List Int := r.map fun m => min t (m + b)
theorem bonR_mk {n : Nat} {t b : Int} {r : List Int} (h : Mk n t r) (hb : 0 ≤ b) : Mk n t (bonR t b r) := by
  refine ⟨by unfold bonR; rw [List.length_map, h.1], fun m hm => ?_⟩
  obtain ⟨x, hx, rfl⟩ := List.mem_map.mp hm
  have := h.2 x hx
  omega
theorem bon_lc {g : D → M (Option D)} {t b : Int} {r : List Int} (hg : ∀ m, g (.int m) = ret (some (.int (min t (m + b))))) : lcRun g (iL r) = ret (iL (bonR t b r)) := by
  rw [lci_map (fun m => .int (min t (m + b))) fun m _ => hg m]
  unfold iL bonR
  rw [List.map_map]
  rfl
def S_with_bonus (F : Fn) : Prop := ∀ (n : Nat) (t : Int) (rs : List Rl) (r : List Int) (b : Int), pcall (F [schD n t rs, tI r, .int b]) = ret (tI (bonR t b r))
theorem with_bonus_spec {G : Sems} : S_with_bonus (runFn G f_with_bonus) := by
  intro n t rs r b
  simp -implicitDefEqProofs [f_with_bonus, ini]
  rw [bon_lc (t := t) (b := b) fun m => by simp -implicitDefEqProofs]
  simp -implicitDefEqProofs
def cntB (t : Int) (rs : List Rl) (rows : List (List Int)) (b : Int) : Nat := (rows.filter fun r => keepsR rs (bonR t b r)).length
def bonO (t : Int) (rs : List Rl) (rows : List (List Int)) (k : Int) : Option Int := (upTo 0 t).find? fun b => decide (k ≤ (cntB t rs rows b : Int))
def intD? : Option Int → D
  | none => .none
  | some i => .int i
theorem len_fm {α : Type} {p : α → Bool} {xs : List α} {d : D} : (xs.filterMap fun x => if p x = true then some d else none).length = (xs.filter p).length := by
  induction xs with
  | nil => rfl
  | cons x xs ih =>
    rw [List.filterMap_cons, List.filter_cons]
    cases p x <;> simp [ih]
/-- .. over a range -/
theorem wp_findI {body : Env → M Fl} {b : D → Env → Option Env} {E : Env} (p : Int → Bool) : ∀ {xs : List Int}, (∀ x ∈ xs, ∀ s, ∃ e1, b (.int x) E = some e1 ∧ wp (body e1) (fun f s' => f = if p x = true then .rt (.int x) else .nx E) s) → ∀ s, wp (forRun body b (iL xs) E) (fun f _ => f = match xs.find? p with
    | some r => .rt (.int r)
    | none => .nx E) s
  | [], _, s => by
    rw [iL_nil]
    unfold forRun
    rw [wp_ret]
    rfl
  | r :: rows, h, s => by
    obtain ⟨e1, h1, h2⟩ := h r List.mem_cons_self s
    rw [iL_cons]
    unfold forRun
    rw [h1]
    dsimp only
    rw [wp_bnd]
    refine wp_mono h2 fun f s' hf => ?_
    rw [List.find?_cons]
    cases hp : p r with
    | true =>
      rw [hp, if_pos rfl] at hf
      subst hf
      dsimp only
      rw [wp_ret]
    | false =>
      rw [hp, if_neg (by decide)] at hf
      subst hf
      dsimp only
      exact wp_findI p (fun x hx => h x (List.mem_cons_of_mem _ hx)) s'
def S_least_bonus (F : Fn) : Prop := ∀ (n : Nat) (t : Int) (rs : List Rl) (rows : List (List Int)) (k : Int), Sch n t rs → rows.length ≤ 20 → (∀ r ∈ rows, Mk n t r) → 0 ≤ k → k ≤ 20 → pcall (F [schD n t rs, .tuple (wL rows), .int k]) = ret (intD? (bonO t rs rows k))
theorem least_bonus_spec {G : Sems} {c_check_scheme c_check_list c_is_between c_keeps c_with_bonus : Nat} (hc : S_check_scheme (G c_check_scheme)) (hl : S_check_list (G c_check_list)) (hb : S_is_between (G c_is_between)) (hk : S_keeps (G c_keeps)) (hw : S_with_bonus (G c_with_bonus)) : S_least_bonus (runFn G (f_least_bonus c_check_scheme c_check_list c_is_between c_keeps c_with_bonus)) := by
  intro n t rs rows k h1 h2 h3 h4 h5
  have a3 := h1.t1
  have a4 := h1.t2
  have eb := hb (.int k) 0 20
  have eb2 : isB (.int k) 0 20 = true := by simp [isB]; omega
  rw [eb2] at eb
  refine pcall_of ?_
  simp -implicitDefEqProofs [f_least_bonus, ini, chk_sch hc h1, hl n t rs rows h2 h3, eb, rngOk_of (a := 0) (b := t + 1) (by omega) (by omega) (by omega) (by omega)]
  rw [rngL_eq, show t + 1 - 1 = t by omega]
  refine wp_mono (wp_findI (E := [.im (schD n t rs), .im (.tuple (wL rows)), .im (.int k), .un, .un]) (fun b => decide (k ≤ (cntB t rs rows b : Int))) (fun b hbm s => ⟨_, by simp -implicitDefEqProofs; rfl, ?_⟩) sv0) fun f s hf => ?_
  · have hb0 := upTo_mem.mp hbm
    simp -implicitDefEqProofs
    rw [lcw_fm (fun r => if keepsR rs (bonR t b r) = true then some (.int 1) else none) fun r hr => by
      have mk := bonR_mk (b := b) (h3 r hr) hb0.1
      have e := hk rs n t _ _ h1.ok mk.1 (by have := h1.n2; omega) (.t (bonR t b r))
      have ew := hw n t rs r b
      cases h : keepsR rs (bonR t b r) <;> rw [h] at e <;> simp -implicitDefEqProofs [ew, e]]
    have e2 : ((rows.filterMap fun r => if keepsR rs (bonR t b r) = true then some (PyData.int 1) else none).length : Int) = (cntB t rs rows b : Int) := by
      rw [len_fm]
      rfl
    by_cases hle : k ≤ (cntB t rs rows b : Int)
    · simp -implicitDefEqProofs [e2, hle]
    · simp -implicitDefEqProofs [e2, hle]
  · subst hf
    unfold bonO
    cases (upTo 0 t).find? _ with
    | none => simp -implicitDefEqProofs [intD?]
    | some r => simp -implicitDefEqProofs [intD?]
/-- a loop that picks rows -/
theorem for_filter {body : Env → M Fl} {b : D → Env → Option Env} {E : List (List Int) → Env} (p : List Int → Bool) : ∀ {rows acc : List (List Int)}, acc.length + rows.length ≤ 16000000 → (∀ r ∈ rows, ∀ a : List (List Int), a.length < 16777216 → ∃ e1, b (tI r) (E a) = some e1 ∧ body e1 = ret (.nx (E (if p r = true then a ++ [r] else a)))) → forRun body b (wL rows) (E acc) = ret (.nx (E (acc ++ rows.filter p)))
  | [], acc, _, _ => by
    simp [forRun]
  | r :: rows, acc, hl, h => by
    simp only [List.length_cons] at hl
    obtain ⟨e1, h1, h2⟩ := h r List.mem_cons_self acc (by omega)
    rw [wL_cons]
    unfold forRun
    rw [h1]
    dsimp only
    rw [h2, bnd_ret]
    dsimp only
    have hle : (if p r = true then acc ++ [r] else acc).length ≤ acc.length + 1 := by
      cases p r <;> simp
    rw [for_filter p (by omega) fun x hx => h x (List.mem_cons_of_mem _ hx), List.filter_cons]
    cases p r <;> simp
theorem pass_len {n : Nat} {t : Int} {rs : List Rl} (h1 : n ≤ 6) (h2 : 0 ≤ t) (h3 : t ≤ 12) : (passR n t rs).length ≤ 4826809 := by
  have a := rowsL_len h2 h3 n
  have b := pow13 h1
  have c : (passR n t rs).length ≤ (rowsL n t).length := List.length_filter_le _ _
  omega
end Wk
set_option maxRecDepth 100000
set_option maxHeartbeats 4000000
/-! LS11: two schemes joined -/
namespace Wk
open PySem (PyData Str)
theorem keeps_app {rs qs : List Rl} {r : List Int} : keepsR (rs ++ qs) r = (keepsR rs r && keepsR qs r) := by
  unfold keepsR
  rw [List.all_append]
theorem ok_app {n : Nat} {t : Int} {rs qs : List Rl} (h1 : okAll n t rs) (h2 : okAll n t qs) : okAll n t (rs ++ qs) := by
  intro x hx
  rcases List.mem_append.mp hx with hx | hx
  · exact h1 x hx
  · exact h2 x hx
theorem pass_app {n : Nat} {t : Int} {rs qs : List Rl} : passR n t (rs ++ qs) = (passR n t rs).filter fun r => keepsR qs r := by
  unfold passR
  rw [List.filter_filter]
  refine List.filter_congr fun r _ => ?_
  rw [keeps_app, Bool.and_comm]
theorem pass_ext {n : Nat} {t : Int} {rs qs : List Rl} (h : ∀ r, IsRow n t r → keepsR rs r = keepsR qs r) : passR n t rs = passR n t qs := by
  unfold passR
  exact List.filter_congr fun r hr => h r (rowsL_mem.mp hr)
def S_both (F : Fn) : Prop := ∀ (n : Nat) (t : Int) (rs qs : List Rl), Sch n t rs → Sch n t qs → pcall (F [schD n t rs, schD n t qs]) = ret (formD (formO n t (rs ++ qs)))
theorem both_spec {G : Sems} {c_check_both c_form_of : Nat} (hc : S_check_both (G c_check_both)) (hf : S_form_of (G c_form_of)) : S_both (runFn G (f_both c_check_both c_form_of)) := by
  intro n t rs qs h1 h2
  have a2 := h1.n2
  have a4 := h1.t2
  have m1 := h1.many
  have m2 := h2.many
  simp -implicitDefEqProofs [f_both, ini, hc n t rs qs h1 h2, cut2]
  rw [if_pos (sizeOk_of (by omega))]
  simp -implicitDefEqProofs [sizeOk_of (n := 3) (by omega), hf n t (rs ++ qs) h1.n1 (by omega) h1.t1 (by omega) (ok_app h1.ok h2.ok)]
/-! ### the least numbers of rows -/
theorem ranks_lc {g : D → M (Option D)} {n : Nat} (f : Nat → Int) (hg : ∀ i, i < n → g (.int (i : Int)) = ret (some (.int (f i)))) : lcRun g (rngL 0 (n : Int)) = ret (iL ((List.range n).map f)) := by
  rw [rngL_nat, lc_map (fun i => .int (f i)) fun i hi => hg i (List.mem_range.mp hi)]
  unfold iL
  rw [List.map_map]
  rfl
theorem col_lc {g : D → M (Option D)} {rows : List (List Int)} (f : List Int → Int) (hg : ∀ r ∈ rows, g (tI r) = ret (some (.int (f r)))) : lcRun g (wL rows) = ret (iL (rows.map f)) := by
  rw [lcw_map (fun r => .int (f r)) hg]
  unfold iL
  rw [List.map_map]
  rfl
def leastF (n : Nat) (rows : List (List Int)) : Option (List Int × List Int) := if rows = [] then none else some ((List.range n).map fun i => minL (rows.map fun r => at0 (sumsL r) i), (List.range n).map fun i => minL (rows.map fun r => at0 r i))
theorem sums_len {r : List Int} : (sumsL r).length = r.length := by
  unfold sumsL
  rw [List.length_map, List.length_range]
theorem sums_at {r : List Int} {c : Nat} (h : c < r.length) : at0 (sumsL r) c = bestSum (c + 1) r := range_at h
def S_law_least (F : Fn) : Prop := ∀ (n : Nat) (rows : List (List Int)), n ≤ 99 → (∀ r ∈ rows, r.length = n) → pcall (F [.list (wL rows)]) = ret (formD (leastF n rows))
theorem wL_map' {rows : List (List Int)} {f : List Int → List Int} : rows.map (fun r => tI (f r)) = wL (rows.map f) := by
  unfold wL
  rw [List.map_map]
  rfl
theorem law_least_spec {G : Sems} {c_law_sums : Nat} (hs : S_law_sums (G c_law_sums)) : S_law_least (runFn G (f_law_least c_law_sums)) := by
  intro n rows hn hl
  unfold leastF
  cases rows with
  | nil => simp -implicitDefEqProofs [f_law_least, ini, formD]
  | cons x rows =>
    have hne : ¬ (x :: rows = []) := by simp
    have hx := hl x List.mem_cons_self
    rw [if_neg hne]
    have e0 : (wL (x :: rows))[0]? = some (tI x) := rfl
    generalize hy : x :: rows = ys at *
    have hne1 : ∀ f : List Int → Int, ys.map f ≠ [] := fun f => by simpa using hne
    have hr := rngOk_of (a := 0) (b := n) (by omega) (by omega) (by omega) (by omega)
    simp -implicitDefEqProofs [f_law_least, ini, eqD_wn, hne, e0, hx]
    rw [lcw_map (fun r => tI (sumsL r)) fun r hr => by simp -implicitDefEqProofs [hs _ r (.t r) (by rw [hl r hr]; omega)], wL_map']
    simp -implicitDefEqProofs [hr]
    rw [ranks_lc (n := n) (fun i => minL (ys.map fun r => at0 (sumsL r) i)) fun i hi => ?_]
    · simp -implicitDefEqProofs [hr]
      rw [ranks_lc (n := n) (fun i => minL (ys.map fun r => at0 r i)) fun i hi => ?_]
      · simp -implicitDefEqProofs [formD]
      · simp -implicitDefEqProofs
        rw [col_lc (fun r => at0 r i) fun r hr => by simp -implicitDefEqProofs [-ix_t, ixt_nat (r := r) (c := i) (by rw [hl r hr]; exact hi)]]
        simp -implicitDefEqProofs [min_l (hne1 _)]
    · simp -implicitDefEqProofs
      rw [col_lc (fun r => at0 r i) fun r hr => by
        obtain ⟨q, hq, rfl⟩ := List.mem_map.mp hr
        simp -implicitDefEqProofs [-ix_t, ixt_nat (r := sumsL q) (c := i) (by rw [sums_len, hl q hq]; exact hi)], List.map_map]
      simp -implicitDefEqProofs [min_l (hne1 _), show ((fun r => at0 r i) ∘ sumsL) = fun r => at0 (sumsL r) i from rfl]
theorem least_pass {n : Nat} {t : Int} {rs : List Rl} (ho : okAll n t rs) : leastF n (passR n t rs) = formO n t rs := by
  unfold leastF
  by_cases he : passR n t rs = []
  · rw [if_pos he, (formO_none ho).mpr he]
  · rw [if_neg he]
    obtain ⟨w, hw⟩ := weakO_some ho he
    rw [formO_some ho hw]
    have wl := (weakO_is ho hw).1
    congr 2
    · unfold sumsL
      rw [wl.len]
      exact List.map_congr_left fun i hi => min_sum ho hw (List.mem_range.mp hi)
    · exact List.map_congr_left fun i hi => min_mark ho he (List.mem_range.mp hi)
theorem pass_rowlen {n : Nat} {t : Int} {rs : List Rl} : ∀ r ∈ passR n t rs, r.length = n := fun r hr => (pass_mem.mp hr).1.len
/-- two forms -/
theorem form_app_comm {n : Nat} {t : Int} {rs qs : List Rl} (h1 : okAll n t rs) (h2 : okAll n t qs) : formO n t (rs ++ qs) = formO n t (qs ++ rs) := (form_pass (ok_app h1 h2) (ok_app h2 h1)).mp (pass_ext fun r _ => by rw [keeps_app, keeps_app, Bool.and_comm])
theorem form_app_self {n : Nat} {t : Int} {rs : List Rl} (h1 : okAll n t rs) : formO n t (rs ++ rs) = formO n t rs := (form_pass (ok_app h1 h1) h1).mp (pass_ext fun r _ => by rw [keeps_app, Bool.and_self])
theorem form_app_impl {n : Nat} {t : Int} {rs qs : List Rl} (h1 : okAll n t rs) (h2 : okAll n t qs) : formO n t (rs ++ qs) = formO n t rs ↔ implS n t rs qs = true := by
  rw [← form_pass (ok_app h1 h2) h1]
  constructor
  · intro h
    refine implS_iff.mpr fun r hr hk => ?_
    have : r ∈ passR n t (rs ++ qs) := h.symm ▸ pass_mem.mpr ⟨hr, hk⟩
    have := (pass_mem.mp this).2
    rw [keeps_app, Bool.and_eq_true] at this
    exact this.2
  · intro h
    refine pass_ext fun r hr => ?_
    rw [keeps_app]
    cases hk : keepsR rs r with
    | false => rfl
    | true => rw [implS_iff.mp h r hr hk]; rfl
theorem over_none {n : Nat} {t : Int} {rs : List Rl} (hn : 1 ≤ n) (h1 : okAll n t (rs ++ [.best 1 (t + 1)])) : formO n t (rs ++ [.best 1 (t + 1)]) = none := by
  rw [formO_none h1]
  unfold passR
  refine List.filter_eq_nil_iff.mpr fun r hr => ?_
  have hr := rowsL_mem.mp hr
  have := row_sum_le hr (c := 1) hn
  rw [keeps_app]
  have : keepsR [.best 1 (t + 1)] r = false := by
    show (decide (t + 1 ≤ bestSum 1 r) && true) = false
    simp at this ⊢
    omega
  rw [this, Bool.and_false]
  decide
end Wk
set_option maxRecDepth 100000
set_option maxHeartbeats 4000000
/-! LS12: forms -/
namespace Wk
open PySem (PyData Str)
/-- the sums from 0 on -/
def sumF (s : List Int) (c : Nat) : Int := at0 (0 :: s) c
theorem sumF_0 {s : List Int} : sumF s 0 = 0 := rfl
theorem sumF_s {s : List Int} {c : Nat} : sumF s (c + 1) = at0 s c := rfl
structure Good (n : Nat) (t : Int) (f : List Int × List Int) : Prop where
  l1 : f.1.length = n
  l2 : f.2.length = n
  sb : ∀ i, i < n → 0 ≤ at0 f.1 i ∧ at0 f.1 i ≤ ((i + 1 : Nat) : Int) * t
  mb : ∀ i, i < n → 0 ≤ at0 f.2 i ∧ at0 f.2 i ≤ t
  step : ∀ c, c < n → 0 ≤ sumF f.1 (c + 1) - sumF f.1 c
  anti : ∀ c, c + 1 < n → sumF f.1 (c + 2) - sumF f.1 (c + 1) ≤ sumF f.1 (c + 1) - sumF f.1 c
  mono : ∀ i, i + 1 < n → at0 f.2 i ≤ at0 f.2 (i + 1)
  le : ∀ i, i < n → at0 f.2 i ≤ sumF f.1 (n - i) - sumF f.1 (n - (i + 1))
  reach : ∀ i c, i < n → c < n → at0 f.1 c ≤ bestSum (c + 1) (lowRow n t i (at0 f.2 i))
theorem good_form {n : Nat} {t : Int} {rs : List Rl} {f : List Int × List Int} (ho : okAll n t rs) (h : formO n t rs = some f) : Good n t f := by
  have hne : passR n t rs ≠ [] := fun z => by rw [(formO_none ho).mpr z] at h; cases h
  obtain ⟨w, hw⟩ := weakO_some ho hne
  obtain ⟨w1, w2, w3⟩ := weakO_is ho hw
  rw [formO_some ho hw] at h
  cases h
  have sa : ∀ c, c ≤ n → sumF (sumsL w) c = bestSum c w := by
    intro c hc
    cases c with
    | zero => rw [sumF_0, bestSum_zero]
    | succ c => rw [sumF_s, sums_at (by rw [w1.len]; omega)]
  have sa' : ∀ i, i < n → at0 (sumsL w) i = bestSum (i + 1) w := fun i hi => sums_at (by rw [w1.len]; exact hi)
  have ma : ∀ i, i < n → at0 (marksL n t rs) i = leastM n t rs i := fun i hi => range_at hi
  have st : ∀ c, c < n → sumF (sumsL w) (c + 1) - sumF (sumsL w) c = at0 w (n - (c + 1)) := by
    intro c hc
    rw [sa _ (by omega), sa _ (by omega), bestSum_succ w1.asc w1.len hc]
    omega
  refine ⟨by rw [sums_len, w1.len], by simp, fun i hi => ?_, fun i hi => ?_, fun c hc => ?_, fun c hc => ?_, fun i hi => ?_, fun i hi => ?_, fun i c hi hc => ?_⟩
  · rw [sa' i hi]
    exact ⟨row_sum_nn w1 (by omega), row_sum_le w1 (by omega)⟩
  · rw [ma i hi]
    exact low_bounds ho w1 w2 hi
  · rw [st c hc]
    exact w1.lo _ (at0_mem (by rw [w1.len]; omega))
  · rw [st c (by omega), show c + 2 = c + 1 + 1 from rfl, st (c + 1) hc]
    exact asc_at w1.asc (by omega) (by rw [w1.len]; omega)
  · rw [ma i (by omega), ma (i + 1) hi]
    obtain ⟨l1, l2, l3⟩ := low_pass ho w1 w2 hi
    have a := low_le ho l1 l2 (i := i) (by omega)
    have b := asc_at l1.asc (i := i) (j := i + 1) (by omega) (by rw [l1.len]; exact hi)
    omega
  · rw [ma i hi]
    have := st (n - (i + 1)) (by omega)
    rw [show n - (i + 1) + 1 = n - i by omega, show n - (n - i) = i by omega] at this
    rw [this]
    exact low_le ho w1 w2 hi
  · rw [sa' c hc, ma i hi]
    obtain ⟨l1, l2, l3⟩ := low_pass ho w1 w2 hi
    exact w3 _ l1 l2 _ (by omega)
/-- the least numbers of two forms -/
def zmin (a b : List Int) : List Int := (List.zip a b).map fun p => min p.1 p.2
theorem zmin_at {n : Nat} {a b : List Int} (ha : a.length = n) (hb : b.length = n) {i : Nat} (hi : i < n) : at0 (zmin a b) i = min (at0 a i) (at0 b i) := by
  unfold zmin
  rw [at0_get (by rw [List.length_map, List.length_zip]; omega), List.getElem_map, List.getElem_zip, at0_get (by omega), at0_get (by omega)]
theorem zmin_len {n : Nat} {a b : List Int} (ha : a.length = n) (hb : b.length = n) : (zmin a b).length = n := by
  unfold zmin
  rw [List.length_map, List.length_zip]
  omega
theorem zmin_F {n : Nat} {a b : List Int} (ha : a.length = n) (hb : b.length = n) {c : Nat} (hc : c ≤ n) : sumF (zmin a b) c = min (sumF a c) (sumF b c) := by
  cases c with
  | zero => rfl
  | succ c => rw [sumF_s, sumF_s, sumF_s, zmin_at ha hb (by omega)]
def formMin (f g : List Int × List Int) : List Int × List Int := (zmin f.1 g.1, zmin f.2 g.2)
theorem Good.min {n : Nat} {t : Int} {f g : List Int × List Int} (hf : Good n t f) (hg : Good n t g) : Good n t (formMin f g) := by
  have z1 : ∀ {i}, i < n → at0 (zmin f.1 g.1) i = Min.min (at0 f.1 i) (at0 g.1 i) := fun hi => zmin_at hf.l1 hg.l1 hi
  have z2 : ∀ {i}, i < n → at0 (zmin f.2 g.2) i = Min.min (at0 f.2 i) (at0 g.2 i) := fun hi => zmin_at hf.l2 hg.l2 hi
  have zF : ∀ {c}, c ≤ n → sumF (zmin f.1 g.1) c = Min.min (sumF f.1 c) (sumF g.1 c) := fun hc => zmin_F hf.l1 hg.l1 hc
  refine ⟨zmin_len hf.l1 hg.l1, zmin_len hf.l2 hg.l2, fun i hi => ?_, fun i hi => ?_, fun c hc => ?_, fun c hc => ?_, fun i hi => ?_, fun i hi => ?_, fun i c hi hc => ?_⟩
  · show 0 ≤ at0 (zmin f.1 g.1) i ∧ at0 (zmin f.1 g.1) i ≤ _
    rw [z1 hi]
    have := hf.sb i hi
    have := hg.sb i hi
    omega
  · show 0 ≤ at0 (zmin f.2 g.2) i ∧ at0 (zmin f.2 g.2) i ≤ _
    rw [z2 hi]
    have := hf.mb i hi
    have := hg.mb i hi
    omega
  · show 0 ≤ sumF (zmin f.1 g.1) (c + 1) - sumF (zmin f.1 g.1) c
    rw [zF (by omega), zF (by omega)]
    have := hf.step c hc
    have := hg.step c hc
    omega
  · show sumF (zmin f.1 g.1) (c + 2) - sumF (zmin f.1 g.1) (c + 1) ≤ sumF (zmin f.1 g.1) (c + 1) - sumF (zmin f.1 g.1) c
    rw [zF (by omega), zF (by omega), zF (by omega)]
    have := hf.anti c hc
    have := hg.anti c hc
    omega
  · show at0 (zmin f.2 g.2) i ≤ at0 (zmin f.2 g.2) (i + 1)
    rw [z2 (by omega), z2 hi]
    have := hf.mono i hi
    have := hg.mono i hi
    omega
  · show at0 (zmin f.2 g.2) i ≤ sumF (zmin f.1 g.1) (n - i) - sumF (zmin f.1 g.1) (n - (i + 1))
    rw [z2 hi, zF (by omega), zF (by omega)]
    have := hf.le i hi
    have := hg.le i hi
    omega
  · show at0 (zmin f.1 g.1) c ≤ bestSum (c + 1) (lowRow n t i (at0 (zmin f.2 g.2) i))
    rw [z1 hc, z2 hi]
    have a := hf.reach i c hi hc
    have b := hg.reach i c hi hc
    by_cases h : at0 f.2 i ≤ at0 g.2 i
    · rw [Int.min_eq_left h]
      omega
    · rw [Int.min_eq_right (a := at0 f.2 i) (by omega)]
      omega
/-! ### is_form by the program -/
def S_check_size (F : Fn) : Prop := ∀ (n : Nat) (t : Int), 1 ≤ n → n ≤ 3 → 1 ≤ t → t ≤ 12 → pcall (F [.int (n : Nat), .int t]) = ret .none
theorem check_size_spec {G : Sems} {c_is_between : Nat} (hb : S_is_between (G c_is_between)) : S_check_size (runFn G (f_check_size c_is_between)) := by
  intro n t h1 h2 h3 h4
  have e1 := hb (.int (n : Int)) 1 3
  have e2 := hb (.int t) 1 12
  have b1 : isB (.int (n : Int)) 1 3 = true := by simp [isB]; omega
  have b2 : isB (.int t) 1 12 = true := by simp [isB]; omega
  rw [b1] at e1
  rw [b2] at e2
  simp -implicitDefEqProofs [f_check_size, ini, e1, e2]
def S_are_numbers (F : Fn) : Prop := ∀ (n : Nat) (s : List Int), s.length = n → (∀ x ∈ s, 0 ≤ x ∧ x ≤ 72) → pcall (F [tI s, .int (n : Nat)]) = ret (.bool true)
theorem are_numbers_spec {G : Sems} {c_is_between : Nat} (hb : S_is_between (G c_is_between)) : S_are_numbers (runFn G (f_are_numbers c_is_between)) := by
  intro n s hl hs
  simp -implicitDefEqProofs [f_are_numbers, ini, hl]
  rw [lci_map (fun _ => .bool true) fun x hx => by
    have e := hb (.int x) 0 72
    have b : isB (.int x) 0 72 = true := by
      have := hs x hx
      simp [isB]
      omega
    rw [b] at e
    simp -implicitDefEqProofs [e]]
  simp -implicitDefEqProofs
  rw [all_b, all_tt]
  simp -implicitDefEqProofs
def S_is_reached (F : Fn) : Prop := ∀ (n : Nat) (t : Int) (s : List Int) (i : Nat) (v : Int), n ≤ 99 → i < n → s.length = n → (∀ c, c < n → at0 s c ≤ bestSum (c + 1) (lowRow n t i v)) → pcall (F [.int (n : Nat), .int t, tI s, .int (i : Nat), .int v]) = ret (.bool true)
theorem low_len {n : Nat} {t : Int} {i : Nat} {v : Int} (hi : i < n) : (lowRow n t i v).length = n := by
  unfold lowRow
  rw [List.length_append, List.length_replicate, List.length_replicate]
  omega
theorem is_reached_spec {G : Sems} {c_best_sums : Nat} (hb : S_best_sums (G c_best_sums)) : S_is_reached (runFn G (f_is_reached c_best_sums)) := by
  intro n t s i v hn hi hl hr
  have e1 : ((i : Int) + 1).toNat = i + 1 := by omega
  have e2 : ((n : Int) - (i : Int) - 1).toNat = n - i - 1 := by omega
  have eb := hb (tI (lowRow n t i v)) (lowRow n t i v) (.t _) (by rw [low_len hi]; omega)
  simp -implicitDefEqProofs [f_is_reached, ini, repT_of (n := 1) (k := (i : Int) + 1) (by omega) (by omega) (by omega), repT_of (n := 1) (k := (n : Int) - (i : Int) - 1) (by omega) (by omega) (by omega), e1, e2, rep_int]
  rw [if_pos (sizeOk_of (by omega))]
  simp -implicitDefEqProofs
  rw [show List.replicate (i + 1) v ++ List.replicate (n - i - 1) t = lowRow n t i v from rfl]
  simp -implicitDefEqProofs [eb, zip_iL]
  rw [lc_map (fun _ => .bool true) fun p hp => ?_]
  · simp -implicitDefEqProofs
    rw [all_b, all_tt]
    simp -implicitDefEqProofs
  · obtain ⟨c, c1, c2, e⟩ : ∃ c, c < (sumsL (lowRow n t i v)).length ∧ c < s.length ∧ p = (at0 (sumsL (lowRow n t i v)) c, at0 s c) := by
      obtain ⟨c, hc, rfl⟩ := List.mem_iff_getElem.mp hp
      rw [List.length_zip] at hc
      exact ⟨c, by omega, by omega, by rw [List.getElem_zip, at0_get (by omega), at0_get (by omega)]⟩
    rw [sums_len, low_len hi] at c1
    rw [e]
    have h := hr c c1
    rw [← sums_at (r := lowRow n t i v) (c := c) (by rw [low_len hi]; exact c1)] at h
    simp -implicitDefEqProofs [h]
def S_can_be_form (F : Fn) : Prop := ∀ (n : Nat) (t : Int) (f : List Int × List Int), 1 ≤ n → n ≤ 6 → 1 ≤ t → t ≤ 12 → Good n t f → pcall (F [.int (n : Nat), .int t, formD (some f)]) = ret (.bool true)
theorem asc_of {l : List Int} {n : Nat} (hl : l.length = n) (h : ∀ i, i + 1 < n → at0 l i ≤ at0 l (i + 1)) : Asc l := by
  have key : ∀ d i, i + d < n → at0 l i ≤ at0 l (i + d) := by
    intro d
    induction d with
    | zero => intro i _; exact Int.le_refl _
    | succ d ih =>
      intro i hi
      have := ih i (by omega)
      have := h (i + d) (by omega)
      rw [show i + (d + 1) = i + d + 1 by omega]
      omega
  refine List.pairwise_iff_getElem.mpr fun i j hi hj hij => ?_
  rw [← at0_get, ← at0_get]
  have := key (j - i) i (by omega)
  rwa [show i + (j - i) = j by omega] at this
theorem can_be_form_spec {G : Sems} {c_row_of c_are_numbers c_is_reached : Nat} (hr : S_row_of (G c_row_of)) (ha : S_are_numbers (G c_are_numbers)) (hi : S_is_reached (G c_is_reached)) : S_can_be_form (runFn G (f_can_be_form c_row_of c_are_numbers c_is_reached)) := by
  rintro n t ⟨s, m⟩ h1 h2 h3 h4 g
  have hs : ∀ x ∈ s, 0 ≤ x ∧ x ≤ 72 := by
    intro x hx
    obtain ⟨i, hi, rfl⟩ := List.mem_iff_getElem.mp hx
    have l1 : s.length = n := g.l1
    have := g.sb i (by omega)
    have e : at0 s i = s[i] := at0_get hi
    have hm : ((i + 1 : Nat) : Int) * t ≤ 6 * 12 := Int.mul_le_mul (by omega) (by omega) (by omega) (by omega)
    have h5 : 0 ≤ at0 s i ∧ at0 s i ≤ ((i + 1 : Nat) : Int) * t := this
    omega
  have hm : ∀ x ∈ m, 0 ≤ x ∧ x ≤ 72 := by
    intro x hx
    obtain ⟨i, hi, rfl⟩ := List.mem_iff_getElem.mp hx
    have l2 : m.length = n := g.l2
    have e : at0 m i = m[i] := at0_get hi
    have h5 : 0 ≤ at0 m i ∧ at0 m i ≤ t := g.mb i (by omega)
    omega
  have er := hr (tI (0 :: s)) (0 :: s) n (.t _) (by rw [List.length_cons]; exact congrArg (· + 1) g.l1)
  have er' : pcall (G c_row_of [.tuple (.int 0 :: iL s)]) = ret (tI (rowF n (sumF s))) := er
  have ra : ∀ i, i < n → at0 (rowF n (sumF s)) i = sumF s (n - i) - sumF s (n - (i + 1)) := fun i hi => rowF_at hi
  have asc1 : Asc (rowF n (sumF s)) := asc_of rowF_len fun i hi => by
    rw [ra i (by omega), ra (i + 1) hi]
    have := g.anti (n - (i + 2)) (by omega)
    rw [show n - (i + 2) + 2 = n - i by omega, show n - (i + 2) + 1 = n - (i + 1) by omega] at this
    rw [show n - (i + 1 + 1) = n - (i + 2) by omega]
    exact this
  have asc2 : Asc m := asc_of g.l2 g.mono
  have lo : 0 ≤ at0 (rowF n (sumF s)) 0 := by
    rw [ra 0 (by omega)]
    have := g.step (n - 1) (by omega)
    rw [show n - 1 + 1 = n - 0 by omega] at this
    exact this
  have hi' : at0 (rowF n (sumF s)) (n - 1) ≤ t := by
    rw [ra (n - 1) (by omega), show n - (n - 1) = 0 + 1 by omega, show n - (n - 1 + 1) = 0 by omega, sumF_s, sumF_0]
    have := (g.sb 0 (by omega)).2
    have h5 : at0 s 0 ≤ ((0 + 1 : Nat) : Int) * t := this
    simp at h5
    omega
  have x0 : ixD (tI (rowF n (sumF s))) (.int 0) = ret (.int (at0 (rowF n (sumF s)) 0)) := ixt_nat (c := 0) (by rw [rowF_len]; omega)
  have x1 : ixD (tI (rowF n (sumF s))) (.int (-1)) = ret (.int (at0 (rowF n (sumF s)) (n - 1))) := by
    rw [ix_t]
    unfold L2.atI L2.ixN
    rw [iL_len, rowF_len, if_neg (by omega), if_pos (by omega)]
    show (match (iL (rowF n (sumF s)))[((-1 : Int) + (n : Int)).toNat]? with
      | some d => ret d
      | none => stuck) = _
    rw [show ((-1 : Int) + (n : Int)).toNat = n - 1 by omega]
    unfold iL
    rw [List.getElem?_map, List.getElem?_eq_getElem (by rw [rowF_len]; omega), at0_get (by rw [rowF_len]; omega)]
    rfl
  have neq : ∀ l : List Int, neD (.list (iL l)) (.list (iL l)) = ret (.bool false) := fun l => neD_self (k := 1) Tm_lI (by omega)
  refine pcall_of ?_
  have n1 : ¬ at0 (rowF n (sumF s)) 0 < 0 := by omega
  have n2 : ¬ t < at0 (rowF n (sumF s)) (n - 1) := by omega
  have sl : s.length = n := g.l1
  have ml : m.length = n := g.l2
  simp -implicitDefEqProofs [f_can_be_form, ini, formD, ha n s sl hs, ha n m ml hm, sl, sizeOk_of (n := 1 + n) (by omega), er', -ix_t, x0, x1, n1, n2, srt_of_asc asc1, srt_of_asc asc2, neq, rngOk_of (a := 0) (b := n) (by omega) (by omega) (by omega) (by omega)]
  refine wp_mono (wp_forR (Q := fun f' _ => f' = .nx [.im (.int n), .im (.int t), .un, .im (tI (rowF n (sumF s))), .un, .im (tI s), .im (tI m)]) (fun i env _ => env = [.im (.int n), .im (.int t), .un, .im (tI (rowF n (sumF s))), .un, .im (tI s), .im (tI m)]) (by omega) rfl ?_ ?_) ?_
  · rintro i env s2 i0 i1 rfl
    refine ⟨_, by simp -implicitDefEqProofs; rfl, ?_⟩
    obtain ⟨j, rfl⟩ := Int.eq_ofNat_of_zero_le i0
    have hj : j < n := by omega
    have hle : at0 m j ≤ at0 (rowF n (sumF s)) j := by
      rw [ra j hj]
      exact g.le j hj
    have hn : ¬ at0 (rowF n (sumF s)) j < at0 m j := by omega
    have eh := hi n t s j (at0 m j) (by omega) hj sl fun c hc => g.reach j c hj hc
    simp -implicitDefEqProofs [-ix_t, ixt_nat (r := m) (c := j) (by omega), ixt_nat (r := rowF n (sumF s)) (c := j) (by rw [rowF_len]; exact hj), hn, eh]
  · rintro env s2 rfl
    rfl
  · rintro f' s2 rfl
    simp -implicitDefEqProofs
def S_is_form (F : Fn) : Prop := ∀ (n : Nat) (t : Int) (f : List Int × List Int), 1 ≤ n → n ≤ 3 → 1 ≤ t → t ≤ 12 → Good n t f → pcall (F [.int (n : Nat), .int t, formD (some f)]) = ret (.bool true)
theorem is_form_spec {G : Sems} {c_check_size c_can_be_form : Nat} (hc : S_check_size (G c_check_size)) (hf : S_can_be_form (G c_can_be_form)) : S_is_form (runFn G (f_is_form c_check_size c_can_be_form)) := by
  intro n t f h1 h2 h3 h4 g
  simp -implicitDefEqProofs [f_is_form, ini, hc n t h1 h2 h3 h4, hf n t f h1 (by omega) h3 h4 g]
/-! ### either -/
def eitherO (n : Nat) (t : Int) (rs qs : List Rl) : Option (List Int × List Int) := match formO n t rs, formO n t qs with
  | none, o => o
  | some f, none => some f
  | some f, some g => some (formMin f g)
theorem zmin_lc {g : D → M (Option D)} {a b : List Int} (hg : ∀ x y : Int, g (.tuple [.int x, .int y]) = ret (some (.int (min x y)))) : lcRun g (List.zipWith (fun a b => PyData.tuple [a, b]) (iL a) (iL b)) = ret (iL (zmin a b)) := by
  rw [zip_iL, lc_map (fun p : Int × Int => .int (min p.1 p.2)) fun p _ => hg p.1 p.2]
  unfold iL zmin
  rw [List.map_map]
  rfl
def S_form_of_either (F : Fn) : Prop := ∀ (n : Nat) (t : Int) (rs qs : List Rl), 1 ≤ n → n ≤ 99 → 1 ≤ t → t ≤ 100 → okAll n t rs → okAll n t qs → pcall (F [schD n t rs, schD n t qs]) = ret (formD (eitherO n t rs qs))
theorem form_of_either_spec {G : Sems} {c_form_of : Nat} (hf : S_form_of (G c_form_of)) : S_form_of_either (runFn G (f_form_of_either c_form_of)) := by
  intro n t rs qs h1 h2 h3 h4 h5 h6
  have e1 := hf n t rs h1 h2 h3 h4 h5
  have e2 := hf n t qs h1 h2 h3 h4 h6
  unfold eitherO
  cases ha : formO n t rs with
  | none =>
    rw [ha] at e1
    simp -implicitDefEqProofs [f_form_of_either, ini, e1, e2, formD]
  | some f =>
    rw [ha] at e1
    cases hb : formO n t qs with
    | none =>
      rw [hb] at e2
      simp -implicitDefEqProofs [f_form_of_either, ini, e1, e2, formD]
    | some g =>
      rw [hb] at e2
      simp -implicitDefEqProofs [f_form_of_either, ini, e1, e2, formD]
      rw [zmin_lc fun x y => by simp -implicitDefEqProofs]
      simp -implicitDefEqProofs
      rw [zmin_lc fun x y => by simp -implicitDefEqProofs]
      simp -implicitDefEqProofs [formMin]
def S_either (F : Fn) : Prop := ∀ (n : Nat) (t : Int) (rs qs : List Rl), Sch n t rs → Sch n t qs → pcall (F [schD n t rs, schD n t qs]) = ret (formD (eitherO n t rs qs))
theorem either_spec {G : Sems} {c_check_both c_form_of_either : Nat} (hc : S_check_both (G c_check_both)) (hf : S_form_of_either (G c_form_of_either)) : S_either (runFn G (f_either c_check_both c_form_of_either)) := by
  intro n t rs qs h1 h2
  have a2 := h1.n2
  have a4 := h1.t2
  simp -implicitDefEqProofs [f_either, ini, hc n t rs qs h1 h2, hf n t rs qs h1.n1 (by omega) h1.t1 (by omega) h1.ok h2.ok]
theorem minL_eq {l : List Int} {v : Int} (h1 : v ∈ l) (h2 : ∀ x ∈ l, v ≤ x) : minL l = v := Int.le_antisymm (minL_le h1) (h2 _ (minL_mem (List.ne_nil_of_mem h1)))
theorem minL_app {α : Type} {p q : α → Bool} {l : List α} {f : α → Int} (hp : l.filter p ≠ []) (hq : l.filter q ≠ []) : minL ((l.filter fun x => p x || q x).map f) = min (minL ((l.filter p).map f)) (minL ((l.filter q).map f)) := by
  have h1 := minL_mem (r := (l.filter p).map f) (by simpa using hp)
  have h2 := minL_mem (r := (l.filter q).map f) (by simpa using hq)
  have m : ∀ x, x ∈ l → (p x = true ∨ q x = true) → f x ∈ (l.filter fun x => p x || q x).map f := fun x hx h => List.mem_map.mpr ⟨x, List.mem_filter.mpr ⟨hx, by simpa using h⟩, rfl⟩
  refine minL_eq ?_ fun x hx => ?_
  · by_cases hle : minL ((l.filter p).map f) ≤ minL ((l.filter q).map f)
    · rw [Int.min_eq_left hle]
      obtain ⟨x, hx, e⟩ := List.mem_map.mp h1
      rw [← e]
      obtain ⟨a, b⟩ := List.mem_filter.mp hx
      exact m x a (.inl b)
    · rw [Int.min_eq_right (by omega)]
      obtain ⟨x, hx, e⟩ := List.mem_map.mp h2
      rw [← e]
      obtain ⟨a, b⟩ := List.mem_filter.mp hx
      exact m x a (.inr b)
  · obtain ⟨y, hy, rfl⟩ := List.mem_map.mp hx
    obtain ⟨a, b⟩ := List.mem_filter.mp hy
    rw [Bool.or_eq_true] at b
    rcases b with b | b
    · have := minL_le (List.mem_map_of_mem (f := f) (List.mem_filter.mpr ⟨a, b⟩))
      omega
    · have := minL_le (List.mem_map_of_mem (f := f) (List.mem_filter.mpr ⟨a, b⟩))
      omega
/-- rows that pass in one of two -/
def orR (n : Nat) (t : Int) (rs qs : List Rl) : List (List Int) := (rowsL n t).filter fun r => keepsR rs r || keepsR qs r
theorem or_mem {n : Nat} {t : Int} {rs qs : List Rl} {r : List Int} : r ∈ orR n t rs qs ↔ IsRow n t r ∧ (keepsR rs r = true ∨ keepsR qs r = true) := by
  unfold orR
  rw [List.mem_filter, rowsL_mem, Bool.or_eq_true]
theorem or_left {n : Nat} {t : Int} {rs qs : List Rl} (h : passR n t rs = []) : orR n t rs qs = passR n t qs := by
  unfold orR passR
  refine List.filter_congr fun r hr => ?_
  have : keepsR rs r = false := by
    cases hk : keepsR rs r with
    | false => rfl
    | true =>
      have := pass_mem.mpr ⟨rowsL_mem.mp hr, hk⟩
      rw [h] at this
      cases this
  rw [this, Bool.false_or]
theorem or_comm {n : Nat} {t : Int} {rs qs : List Rl} : orR n t rs qs = orR n t qs rs := by
  unfold orR
  exact List.filter_congr fun r hr => Bool.or_comm _ _
theorem least_or {n : Nat} {t : Int} {rs qs : List Rl} (h1 : okAll n t rs) (h2 : okAll n t qs) : leastF n (orR n t rs qs) = eitherO n t rs qs := by
  unfold eitherO
  by_cases e1 : passR n t rs = []
  · rw [or_left e1, least_pass h2, (formO_none h1).mpr e1]
  · by_cases e2 : passR n t qs = []
    · rw [or_comm, or_left e2, least_pass h1, (formO_none h2).mpr e2]
      cases formO n t rs <;> rfl
    · rw [← least_pass h1, ← least_pass h2]
      have e3 : ¬ orR n t rs qs = [] := by
        obtain ⟨r, hr⟩ := List.exists_mem_of_ne_nil _ e1
        obtain ⟨a, b⟩ := pass_mem.mp hr
        exact List.ne_nil_of_mem (or_mem.mpr ⟨a, .inl b⟩)
      unfold leastF
      rw [if_neg e1, if_neg e2, if_neg e3]
      dsimp only
      have key : ∀ f : List Int → Int, minL ((orR n t rs qs).map f) = min (minL ((passR n t rs).map f)) (minL ((passR n t qs).map f)) := fun f => by
        unfold orR passR
        exact minL_app e1 e2
      unfold formMin
      congr 2
      · refine (eq_range (zmin_len (n := n) (by simp) (by simp)) fun i hi => ?_).symm
        rw [zmin_at (n := n) (by simp) (by simp) hi, range_at hi, range_at hi, key]
      · refine (eq_range (zmin_len (n := n) (by simp) (by simp)) fun i hi => ?_).symm
        rw [zmin_at (n := n) (by simp) (by simp) hi, range_at hi, range_at hi, key]
theorem either_comm {n : Nat} {t : Int} {rs qs : List Rl} (h1 : okAll n t rs) (h2 : okAll n t qs) : eitherO n t rs qs = eitherO n t qs rs := by
  rw [← least_or h1 h2, ← least_or h2 h1, or_comm]
theorem either_self {n : Nat} {t : Int} {rs : List Rl} (h1 : okAll n t rs) : eitherO n t rs rs = formO n t rs := by
  rw [← least_or h1 h1, ← least_pass h1]
  congr 1
  unfold orR passR
  exact List.filter_congr fun r _ => Bool.or_self _
theorem either_impl {n : Nat} {t : Int} {rs qs : List Rl} (h1 : okAll n t rs) (h2 : okAll n t qs) (h : implS n t rs qs = true) : eitherO n t rs qs = formO n t qs := by
  rw [← least_or h1 h2, ← least_pass h2]
  congr 1
  unfold orR passR
  refine List.filter_congr fun r hr => ?_
  cases hk : keepsR rs r with
  | false => rfl
  | true => rw [implS_iff.mp h r (rowsL_mem.mp hr) hk]; rfl
theorem good_either {n : Nat} {t : Int} {rs qs : List Rl} {f : List Int × List Int} (h1 : okAll n t rs) (h2 : okAll n t qs) (h : eitherO n t rs qs = some f) : Good n t f := by
  unfold eitherO at h
  cases ha : formO n t rs with
  | none =>
    rw [ha] at h
    exact good_form h2 h
  | some a =>
    rw [ha] at h
    cases hb : formO n t qs with
    | none =>
      rw [hb] at h
      cases h
      exact good_form h1 ha
    | some b =>
      rw [hb] at h
      cases h
      exact (good_form h1 ha).min (good_form h2 hb)
end Wk
set_option maxRecDepth 100000
set_option maxHeartbeats 4000000
/-! LS8b: forms that can be computed -/
namespace Wk
def sumA (n c : Nat) (r : List Int) : Int := (r.drop (n - c)).foldl (· + ·) 0
def holdsA (n : Nat) : Rl → List Int → Bool
  | .fails c k, r => decide (k ≤ r.getD c 0)
  | .best c k, r => decide (k ≤ sumA n c r)
def keepsA (n : Nat) (rs : List Rl) (r : List Int) : Bool := rs.all fun x => holdsA n x r
def weakA (n : Nat) (t : Int) (rs : List Rl) : Option (List Int) := (rowsL n t).find? fun r => keepsA n rs r && (rowsL n t).all fun q => !keepsA n rs q || (List.range (n + 1)).all fun c => decide (sumA n c r ≤ sumA n c q)
def formA (n : Nat) (t : Int) (rs : List Rl) : Option (List Int × List Int) := (weakA n t rs).map fun r => ((List.range n).map fun c => sumA n (c + 1) r, (List.range n).map (leastM n t rs))
theorem foldl_sum : ∀ (l : List Int) (a : Int), l.foldl (· + ·) a = a + l.sum
  | [], a => by simp
  | x :: l, a => by
    rw [List.foldl_cons, foldl_sum l, List.sum_cons]
    omega
theorem sumA_eq {n c : Nat} {t : Int} {r : List Int} (h : IsRow n t r) : sumA n c r = bestSum c r := by
  rw [bestSum_row h.asc, h.len]
  unfold sumA
  rw [foldl_sum]
  omega
theorem keepsA_eq {n : Nat} {t : Int} {rs : List Rl} {r : List Int} (ho : okAll n t rs) (h : IsRow n t r) : keepsA n rs r = keepsR rs r := by
  unfold keepsA keepsR
  rw [Bool.eq_iff_iff, List.all_eq_true, List.all_eq_true]
  have key : ∀ x ∈ rs, holdsA n x r = holdsR x r := by
    intro x hx
    have ox := ho x hx
    cases x with
    | fails c k =>
      have hc : c < n ∧ 0 ≤ k ∧ k ≤ t := ox
      rw [Bool.eq_iff_iff, fails_iff h.asc h.len hc.1]
      show decide (k ≤ r.getD c 0) = true ↔ _
      rw [decide_eq_true_eq]
      rfl
    | best c k =>
      show decide (k ≤ sumA n c r) = decide (k ≤ bestSum c r)
      rw [sumA_eq h]
  constructor
  · exact fun z x hx => by rw [← key x hx]; exact z x hx
  · exact fun z x hx => by rw [key x hx]; exact z x hx
theorem find_congr {α : Type} {p q : α → Bool} : ∀ {l : List α}, (∀ x ∈ l, p x = q x) → l.find? p = l.find? q
  | [], _ => rfl
  | x :: l, h => by
    rw [List.find?_cons, List.find?_cons, h x List.mem_cons_self, find_congr fun y hy => h y (List.mem_cons_of_mem _ hy)]
theorem all_congr {α : Type} {p q : α → Bool} : ∀ {l : List α}, (∀ x ∈ l, p x = q x) → l.all p = l.all q
  | [], _ => rfl
  | x :: l, h => by
    rw [List.all_cons, List.all_cons, h x List.mem_cons_self, all_congr fun y hy => h y (List.mem_cons_of_mem _ hy)]
theorem weakA_eq {n : Nat} {t : Int} {rs : List Rl} (ho : okAll n t rs) : weakO n t rs = weakA n t rs := by
  show (rowsL n t).find? _ = (rowsL n t).find? _
  refine find_congr fun r hr => ?_
  have hr := rowsL_mem.mp hr
  rw [keepsA_eq ho hr]
  congr 1
  refine all_congr fun q hq => ?_
  have hq := rowsL_mem.mp hq
  rw [keepsA_eq ho hq]
  congr 1
  exact all_congr fun c _ => by rw [sumA_eq hr, sumA_eq hq]
theorem formA_eq {n : Nat} {t : Int} {rs : List Rl} (ho : okAll n t rs) : formO n t rs = formA n t rs := by
  unfold formO formA
  rw [show weakP n t (keepsR rs) = weakA n t rs from weakA_eq ho]
  cases h : weakA n t rs with
  | none => rfl
  | some w =>
    have hw : weakO n t rs = some w := by rw [weakA_eq ho, h]
    have hr := (weakO_is ho hw).1
    have e : (List.range n).map (fun c => bestSum (c + 1) w) = (List.range n).map fun c => sumA n (c + 1) w := List.map_congr_left fun c _ => (sumA_eq hr).symm
    show some (_, _) = some (_, _)
    rw [e]
end Wk
set_option maxRecDepth 100000
set_option maxHeartbeats 4000000
/-! LS13: rules of forms; results let in -/
namespace Wk
open PySem (PyData Str)
def rulesF (f : List Int × List Int) : List Rl := ((List.range f.1.length).map fun i => Rl.best (i + 1) (at0 f.1 i)) ++ (List.range f.2.length).map fun i => Rl.fails i (at0 f.2 i)
/-- a row whose numbers are no less -/
def reachB (n : Nat) (f : List Int × List Int) (r : List Int) : Bool := ((List.range n).all fun i => decide (at0 f.1 i ≤ bestSum (i + 1) r)) && (List.range n).all fun i => decide (at0 f.2 i ≤ at0 r i)
theorem reach_iff {n : Nat} {f : List Int × List Int} {r : List Int} : reachB n f r = true ↔ (∀ i, i < n → at0 f.1 i ≤ bestSum (i + 1) r) ∧ ∀ i, i < n → at0 f.2 i ≤ at0 r i := by
  unfold reachB
  simp only [Bool.and_eq_true, List.all_eq_true, List.mem_range, decide_eq_true_eq]
theorem rulesF_keeps {n : Nat} {t : Int} {f : List Int × List Int} {r : List Int} (h1 : f.1.length = n) (h2 : f.2.length = n) (hr : IsRow n t r) : keepsR (rulesF f) r = reachB n f r := by
  unfold rulesF reachB
  rw [keeps_app, h1, h2]
  congr 1
  · unfold keepsR
    rw [List.all_map]
    rfl
  · unfold keepsR
    rw [List.all_map]
    refine Bool.eq_iff_iff.mpr ?_
    simp only [List.all_eq_true, List.mem_range, Function.comp, decide_eq_true_eq]
    exact ⟨fun h i hi => (fails_iff hr.asc hr.len hi).mp (h i hi), fun h i hi => (fails_iff hr.asc hr.len hi).mpr (h i hi)⟩
theorem rulesF_ok {n : Nat} {t : Int} {f : List Int × List Int} (g : Good n t f) (hn : n ≤ 6) (h1 : 1 ≤ t) (h2 : t ≤ 12) : okAll n t (rulesF f) := by
  intro x hx
  unfold rulesF at hx
  rcases List.mem_append.mp hx with hx | hx
  · obtain ⟨i, hi, rfl⟩ := List.mem_map.mp hx
    have hi := List.mem_range.mp hi
    rw [g.l1] at hi
    have := g.sb i hi
    have hm : ((i + 1 : Nat) : Int) * t ≤ 6 * 12 := Int.mul_le_mul (by omega) h2 (by omega) (by omega)
    exact ⟨by omega, by omega, by omega, by omega⟩
  · obtain ⟨i, hi, rfl⟩ := List.mem_map.mp hx
    have hi := List.mem_range.mp hi
    rw [g.l2] at hi
    have := g.mb i hi
    exact ⟨hi, this.1, this.2⟩
/-- rows pass by the normal form -/
theorem form_keeps {n : Nat} {t : Int} {rs : List Rl} {f : List Int × List Int} (ho : okAll n t rs) (hf : formO n t rs = some f) {r : List Int} (hr : IsRow n t r) : keepsR rs r = reachB n f r := by
  have hne : passR n t rs ≠ [] := fun z => by rw [(formO_none ho).mpr z] at hf; cases hf
  obtain ⟨w, hw⟩ := weakO_some ho hne
  have wl := (weakO_is ho hw).1
  rw [formO_some ho hw] at hf
  cases hf
  rw [Bool.eq_iff_iff, pass_form ho hw hr, reach_iff]
  constructor
  · rintro ⟨a, b⟩
    exact ⟨fun i hi => by dsimp only; rw [sums_at (by rw [wl.len]; exact hi)]; exact a (i + 1) (by omega) (by omega), fun i hi => by dsimp only; rw [range_at hi]; exact b i hi⟩
  · rintro ⟨a, b⟩
    refine ⟨fun c c1 c2 => ?_, fun i hi => ?_⟩
    · have := a (c - 1) (by omega)
      dsimp only at this
      rw [sums_at (by rw [wl.len]; omega), show c - 1 + 1 = c by omega] at this
      exact this
    · have := b i hi
      dsimp only at this
      rw [range_at hi] at this
      exact this
theorem rules_enum {s : List Int} {g : D → M (Option D)} {f : Nat → Int → Rl} (hg : ∀ (i : Nat) (v : Int), g (.tuple [.int (i : Int), .int v]) = ret (some (f i v).d)) : lcRun g (enumL 0 (iL s)) = ret (rL ((List.range s.length).map fun i => f i (at0 s i))) := by
  rw [enum_iL, lc_map (fun i => (f i (at0 s i)).d) fun i hi => ?_]
  · unfold rL
    rw [List.map_map]
    rfl
  · rw [getD_iL (List.mem_range.mp hi)]
    exact hg i _
def S_rules_of (F : Fn) : Prop := ∀ (n : Nat) (f : List Int × List Int), n ≤ 99 → f.1.length = n → f.2.length = n → pcall (F [formD (some f)]) = ret (rsD (rulesF f))
theorem rules_of_spec {G : Sems} : S_rules_of (runFn G f_rules_of) := by
  rintro n ⟨a, b⟩ hn h1 h2
  have h1 : a.length = n := h1
  have h2 : b.length = n := h2
  simp -implicitDefEqProofs [f_rules_of, ini, formD]
  rw [rules_enum (f := fun i v => .best (i + 1) v) fun i v => by simp -implicitDefEqProofs [Rl.d]]
  simp -implicitDefEqProofs
  rw [rules_enum (f := fun i v => .fails i v) fun i v => by simp -implicitDefEqProofs [Rl.d]]
  simp -implicitDefEqProofs
  rw [if_pos (sizeOk_of (by omega))]
  simp -implicitDefEqProofs [rulesF]
def letO (n : Nat) (t : Int) (rs qs : List Rl) : Option (List Int) := match eitherO n t rs qs with
  | none => none
  | some f => (rowsL n t).find? fun r => reachB n f r && (!keepsR rs r && !keepsR qs r)
def S_let_in (F : Fn) : Prop := ∀ (n : Nat) (t : Int) (rs qs : List Rl), Sch n t rs → Sch n t qs → pcall (F [schD n t rs, schD n t qs]) = ret (rowD (letO n t rs qs))
theorem let_in_spec {G : Sems} {c_check_both c_form_of_either c_all_rows c_keeps c_rules_of : Nat} (hc : S_check_both (G c_check_both)) (he : S_form_of_either (G c_form_of_either)) (hr : S_all_rows (G c_all_rows)) (hk : S_keeps (G c_keeps)) (hf : S_rules_of (G c_rules_of)) : S_let_in (runFn G (f_let_in c_check_both c_form_of_either c_all_rows c_keeps c_rules_of)) := by
  intro n t rs qs h1 h2
  have n2 := h1.n2
  have t1 := h1.t1
  have t2 := h1.t2
  have e := he n t rs qs h1.n1 (by omega) t1 (by omega) h1.ok h2.ok
  unfold letO
  cases h : eitherO n t rs qs with
  | none =>
    rw [h] at e
    simp -implicitDefEqProofs [f_let_in, ini, hc n t rs qs h1 h2, e, formD, rowD]
  | some f =>
    rw [h] at e
    have g := good_either h1.ok h2.ok h
    have ef := hf n f (by omega) g.l1 g.l2
    have of := rulesF_ok g n2 t1 t2
    have e' : pcall (G c_form_of_either [schD n t rs, schD n t qs]) = ret (.tuple [tI f.1, tI f.2]) := e
    have ef' : pcall (G c_rules_of [.tuple [tI f.1, tI f.2]]) = ret (rsD (rulesF f)) := ef
    refine pcall_of ?_
    simp -implicitDefEqProofs [f_let_in, ini, hc n t rs qs h1 h2, e', hr n t n2 (by omega) t2]
    refine wp_mono (wp_find (E := [.im (schD n t rs), .im (schD n t qs), .im (.tuple [tI f.1, tI f.2]), .un]) (fun r => reachB n f r && (!keepsR rs r && !keepsR qs r)) (fun r hrm s => ⟨_, by simp -implicitDefEqProofs; rfl, ?_⟩) sv0) fun fl s hfl => ?_
    · have hrow := rowsL_mem.mp hrm
      have k0 := hk (rulesF f) n t _ r of hrow.len (by omega) (.t r)
      rw [rulesF_keeps g.l1 g.l2 hrow] at k0
      have k1 := hk rs n t _ r h1.ok hrow.len (by omega) (.t r)
      have k2 := hk qs n t _ r h2.ok hrow.len (by omega) (.t r)
      cases a0 : reachB n f r <;> rw [a0] at k0 <;> cases a1 : keepsR rs r <;> rw [a1] at k1 <;> cases a2 : keepsR qs r <;> rw [a2] at k2 <;> simp -implicitDefEqProofs [ef', k0, k1, k2]
    · subst hfl
      cases (rowsL n t).find? _ with
      | none => simp -implicitDefEqProofs [rowD]
      | some r => simp -implicitDefEqProofs [rowD]
def aboveR (n : Nat) (t : Int) (f : List Int × List Int) : List (List Int) := (rowsL n t).filter fun r => reachB n f r
def S_law_above_v2 (F : Fn) : Prop := ∀ (n : Nat) (t : Int) (f : List Int × List Int), n ≤ 6 → 0 ≤ t → t ≤ 12 → f.1.length = n → f.2.length = n → pcall (F [.int (n : Nat), .int t, formD (some f)]) = ret (.list (wL (aboveR n t f)))
/-- [1 for own, least in zip(..) if own < least] -/
def lessL (r q : List Int) : List D := (List.zip r q).filterMap fun p => if p.1 < p.2 then some (.int 1) else none
theorem less_lc {g : D → M (Option D)} {r q : List Int} (hg : ∀ a b : Int, g (.tuple [.int a, .int b]) = ret (if a < b then some (.int 1) else none)) : lcRun g (List.zipWith (fun a b => PyData.tuple [a, b]) (iL r) (iL q)) = ret (lessL r q) := by
  rw [zip_iL, lc_fm (fun p : Int × Int => if p.1 < p.2 then some (.int 1) else none) fun p _ => hg p.1 p.2]
  rfl
theorem lessL_nil {n : Nat} {r q : List Int} (h1 : r.length = n) (h2 : q.length = n) : lessL r q = [] ↔ ∀ i, i < n → at0 q i ≤ at0 r i := by
  unfold lessL
  rw [List.filterMap_eq_nil_iff]
  constructor
  · intro h i hi
    have := h (at0 r i, at0 q i) (List.mem_iff_getElem.mpr ⟨i, by rw [List.length_zip]; omega, by rw [List.getElem_zip, at0_get (by omega), at0_get (by omega)]⟩)
    refine Int.not_lt.mp fun z => ?_
    rw [if_pos z] at this
    cases this
  · intro h p hp
    obtain ⟨i, i1, i2, rfl⟩ := zip_mem hp
    have := h i (by omega)
    rw [if_neg (by dsimp only; omega)]
theorem Tm_less {r q : List Int} : ∀ d ∈ lessL r q, Tm 0 d := by
  intro d hd
  obtain ⟨p, _, e⟩ := List.mem_filterMap.mp hd
  split at e
  · cases e
    simp
  · cases e
theorem eqD_less {n : Nat} {r q : List Int} (h1 : r.length = n) (h2 : q.length = n) {p : Prop} [Decidable p] (h : (∀ i, i < n → at0 q i ≤ at0 r i) ↔ p) : eqD (.list (lessL r q)) (.list []) = ret (.bool (decide p)) := eqD_p (k := 1) (x := .list (lessL r q)) (y := .list []) Tm_less (by simp) (by omega) (by rw [PyData.list.injEq, lessL_nil h1 h2, h])
theorem app_at {n : Nat} {a b : List Int} (ha : a.length = n) {i : Nat} : at0 (a ++ b) i = if i < n then at0 a i else at0 b (i - n) := by
  unfold at0
  rw [List.getD_eq_getElem?_getD, List.getElem?_append, ha]
  split
  · rw [List.getD_eq_getElem?_getD]
  · rw [List.getD_eq_getElem?_getD]
theorem above_iff {n : Nat} {t : Int} {f : List Int × List Int} {r : List Int} (h1 : f.1.length = n) (h2 : f.2.length = n) (hr : IsRow n t r) : (∀ i, i < n + n → at0 (f.1 ++ f.2) i ≤ at0 (sumsL r ++ r) i) ↔ reachB n f r = true := by
  have sl : (sumsL r).length = n := by rw [sums_len, hr.len]
  rw [reach_iff]
  constructor
  · intro h
    refine ⟨fun i hi => ?_, fun i hi => ?_⟩
    · have := h i (by omega)
      rw [app_at h1, app_at sl, if_pos hi, if_pos hi, sums_at (by rw [hr.len]; exact hi)] at this
      exact this
    · have := h (n + i) (by omega)
      rw [app_at h1, app_at sl, if_neg (by omega), if_neg (by omega), show n + i - n = i by omega] at this
      exact this
  · rintro ⟨a, b⟩ i hi
    rw [app_at h1, app_at sl]
    by_cases h : i < n
    · rw [if_pos h, if_pos h, sums_at (by rw [hr.len]; exact h)]
      exact a i h
    · rw [if_neg h, if_neg h]
      exact b (i - n) (by omega)
theorem rows_len6 {n : Nat} {t : Int} (h1 : n ≤ 6) (h2 : 0 ≤ t) (h3 : t ≤ 12) : (rowsL n t).length ≤ 4826809 := by
  have a := rowsL_len h2 h3 n
  have b := pow13 h1
  omega
theorem law_above_v2_spec {G : Sems} {c_law_rows c_law_sums : Nat} (hr : S_law_rows (G c_law_rows)) (hs : S_law_sums (G c_law_sums)) : S_law_above_v2 (runFn G (f_law_above_v2 c_law_rows c_law_sums)) := by
  intro n t f h1 h2 h3 l1 l2
  refine pcall_of ?_
  simp -implicitDefEqProofs [f_law_above_v2, ini, formD, hr n t h1 h2 h3]
  refine wp_eq (for_filter (E := fun a => [.im (.int n), .im (.int t), .im (.tuple [tI f.1, tI f.2]), .ow (wL a), .un, .un, .un, .un]) (fun r => reachB n f r) (acc := []) (by have := rows_len6 h1 h2 h3; simp; omega) fun r hrm a hal => ⟨_, by simp -implicitDefEqProofs; rfl, ?_⟩) ?_
  · have hrow := rowsL_mem.mp hrm
    have sl : (sumsL r).length = n := by rw [sums_len, hrow.len]
    simp -implicitDefEqProofs [hs _ r (.t r) (by rw [hrow.len]; omega), l1, l2, sl, hrow.len]
    rw [if_pos (sizeOk_of (by omega))]
    simp -implicitDefEqProofs
    rw [if_pos (sizeOk_of (by omega))]
    simp -implicitDefEqProofs
    rw [less_lc fun a b => by by_cases h : a < b <;> simp -implicitDefEqProofs [h]]
    simp -implicitDefEqProofs [eqD_less (n := n + n) (r := sumsL r ++ r) (q := f.1 ++ f.2) (by rw [List.length_append, sl, hrow.len]) (by rw [List.length_append, l1, l2]) (above_iff l1 l2 hrow)]
    cases hb : reachB n f r <;> simp -implicitDefEqProofs [hal]
  · simp -implicitDefEqProofs [aboveR]
end Wk
set_option maxRecDepth 100000
set_option maxHeartbeats 4000000
/-! LS14: forms are closed; their order -/
namespace Wk
open PySem (PyData Str)
theorem good_row {n : Nat} {t : Int} {f : List Int × List Int} (hn : 1 ≤ n) (g : Good n t f) : IsRow n t (rowF n (sumF f.1)) ∧ ∀ c, c ≤ n → bestSum c (rowF n (sumF f.1)) = sumF f.1 c := by
  have ra : ∀ i, i < n → at0 (rowF n (sumF f.1)) i = sumF f.1 (n - i) - sumF f.1 (n - (i + 1)) := fun i hi => rowF_at hi
  have asc1 : Asc (rowF n (sumF f.1)) := asc_of rowF_len fun i hi => by
    rw [ra i (by omega), ra (i + 1) hi]
    have := g.anti (n - (i + 2)) (by omega)
    rw [show n - (i + 2) + 2 = n - i by omega, show n - (i + 2) + 1 = n - (i + 1) by omega] at this
    rw [show n - (i + 1 + 1) = n - (i + 2) by omega]
    exact this
  have hi' : at0 (rowF n (sumF f.1)) (n - 1) ≤ t := by
    rw [ra (n - 1) (by omega), show n - (n - 1) = 0 + 1 by omega, show n - (n - 1 + 1) = 0 by omega, sumF_s, sumF_0]
    have h5 : at0 f.1 0 ≤ ((0 + 1 : Nat) : Int) * t := (g.sb 0 (by omega)).2
    simp at h5
    omega
  have row : IsRow n t (rowF n (sumF f.1)) := by
    refine ⟨rowF_len, asc1, fun x hx => ?_, fun x hx => ?_⟩
    · obtain ⟨i, hi, rfl⟩ := List.mem_iff_getElem.mp hx
      rw [rowF_len] at hi
      rw [← at0_get, ra i hi]
      have := g.step (n - (i + 1)) (by omega)
      rw [show n - (i + 1) + 1 = n - i by omega] at this
      exact this
    · obtain ⟨i, hi, rfl⟩ := List.mem_iff_getElem.mp hx
      rw [rowF_len] at hi
      rw [← at0_get]
      have := asc_at asc1 (i := i) (j := n - 1) (by omega) (by rw [rowF_len]; omega)
      omega
  refine ⟨row, fun c => ?_⟩
  induction c with
  | zero =>
    intro _
    rw [bestSum_zero, sumF_0]
  | succ c ih =>
    intro hc
    rw [bestSum_succ row.asc row.len (by omega), ih (by omega), ra _ (by omega), show n - (n - (c + 1)) = c + 1 by omega, show n - (n - (c + 1) + 1) = c by omega]
    omega
/-- the normal form of a form's rules -/
theorem form_closed {n : Nat} {t : Int} {f : List Int × List Int} (hn : 1 ≤ n) (h6 : n ≤ 6) (t1 : 1 ≤ t) (t2 : t ≤ 12) (g : Good n t f) : formO n t (rulesF f) = some f := by
  have ho := rulesF_ok g h6 t1 t2
  obtain ⟨row, sums⟩ := good_row hn g
  have kw : ∀ r, IsRow n t r → (keepsR (rulesF f) r = true ↔ (∀ i, i < n → at0 f.1 i ≤ bestSum (i + 1) r) ∧ ∀ i, i < n → at0 f.2 i ≤ at0 r i) := fun r hr => by rw [rulesF_keeps g.l1 g.l2 hr, reach_iff]
  have pw : keepsR (rulesF f) (rowF n (sumF f.1)) = true := (kw _ row).mpr ⟨fun i hi => by rw [sums (i + 1) (by omega), sumF_s]; exact Int.le_refl _, fun i hi => by rw [rowF_at hi]; exact g.le i hi⟩
  have hw : weakO n t (rulesF f) = some (rowF n (sumF f.1)) := by
    refine IsWeak.eq (o := some _) ⟨row, pw, fun q hq hk c hc => ?_⟩
    rw [sums c hc]
    cases c with
    | zero => rw [sumF_0, bestSum_zero]; exact Int.le_refl _
    | succ c =>
      rw [sumF_s]
      exact ((kw q hq).mp hk).1 c (by omega)
  rw [formO_some ho hw]
  have e1 : sumsL (rowF n (sumF f.1)) = f.1 := by
    refine ext_at (by rw [sums_len, rowF_len, g.l1]) fun i hi => ?_
    rw [sums_len, rowF_len] at hi
    rw [sums_at (by rw [rowF_len]; exact hi), sums (i + 1) (by omega), sumF_s]
  have e2 : marksL n t (rulesF f) = f.2 := by
    refine ext_at (by simp [g.l2]) fun i hi => ?_
    have hi : i < n := by simpa using hi
    have ma : at0 (marksL n t (rulesF f)) i = leastM n t (rulesF f) i := range_at hi
    rw [ma]
    have mb := g.mb i hi
    have hl := lowRow_row hi mb.1 mb.2
    refine Int.le_antisymm ((low_keeps ho row pw hi mb.1 mb.2).mp ((kw _ hl).mpr ⟨fun c hc => g.reach i c hi hc, fun j hj => ?_⟩)) ?_
    · rw [lowRow_at hi hj]
      split
      · rename_i hji
        have am : Asc f.2 := asc_of g.l2 g.mono
        exact asc_at am hji (by rw [g.l2]; exact hi)
      · exact (g.mb j hj).2
    · obtain ⟨l1, l2, l3⟩ := low_pass ho row pw hi
      rw [← l3]
      exact ((kw _ l1).mp l2).2 i hi
  rw [e1, e2]
/-! ### the order: o is weaker than p -/
def leO (n : Nat) : Option (List Int × List Int) → Option (List Int × List Int) → Prop
  | _, none => True
  | none, some _ => False
  | some f, some g => ∀ i, i < n → at0 f.1 i ≤ at0 g.1 i ∧ at0 f.2 i ≤ at0 g.2 i
theorem leO_trans {n : Nat} {a b c : Option (List Int × List Int)} (h1 : leO n a b) (h2 : leO n b c) : leO n a c := by
  cases c with
  | none => cases a <;> trivial
  | some z =>
    cases b with
    | none => exact False.elim h2
    | some y =>
      cases a with
      | none => exact False.elim h1
      | some x => exact fun i hi => ⟨Int.le_trans (h1 i hi).1 (h2 i hi).1, Int.le_trans (h1 i hi).2 (h2 i hi).2⟩
/-- what implies what, by the forms -/
theorem impl_leO {n : Nat} {t : Int} {rs qs : List Rl} (h1 : okAll n t rs) (h2 : okAll n t qs) : implS n t rs qs = true ↔ leO n (formO n t qs) (formO n t rs) := by
  rw [implS_iff]
  cases ha : formO n t rs with
  | none =>
    have hn := (formO_none h1).mp ha
    constructor
    · intro _
      cases formO n t qs <;> trivial
    · intro _ r hr hk
      have := pass_mem.mpr ⟨hr, hk⟩
      rw [hn] at this
      cases this
  | some f =>
    have hne : passR n t rs ≠ [] := fun z => by rw [(formO_none h1).mpr z] at ha; cases ha
    obtain ⟨w, hw⟩ := weakO_some h1 hne
    obtain ⟨w1, w2, w3⟩ := weakO_is h1 hw
    have hf := formO_some h1 hw
    rw [ha] at hf
    have hf := Option.some.inj hf
    cases hb : formO n t qs with
    | none =>
      have hn := (formO_none h2).mp hb
      constructor
      · intro h
        have := pass_mem.mpr ⟨w1, h w w1 w2⟩
        rw [hn] at this
        cases this
      · intro h
        exact False.elim h
    | some g =>
      have k1 : ∀ r, IsRow n t r → keepsR rs r = reachB n f r := fun r hr => form_keeps h1 ha hr
      have k2 : ∀ r, IsRow n t r → keepsR qs r = reachB n g r := fun r hr => form_keeps h2 hb hr
      constructor
      · intro h i hi
        have hfw := reach_iff.mp ((k2 w w1).symm.trans (h w w1 w2))
        refine ⟨?_, ?_⟩
        · rw [hf]
          dsimp only
          rw [sums_at (by rw [w1.len]; exact hi)]
          exact hfw.1 i hi
        · obtain ⟨l1, l2, l3⟩ := low_pass h1 w1 w2 hi
          have hl := reach_iff.mp ((k2 _ l1).symm.trans (h _ l1 l2))
          have := hl.2 i hi
          rw [l3] at this
          rw [hf]
          dsimp only
          rw [range_at hi]
          exact this
      · intro h r hr hk
        rw [k1 r hr] at hk
        rw [k2 r hr]
        obtain ⟨a, b⟩ := reach_iff.mp hk
        exact reach_iff.mpr ⟨fun i hi => Int.le_trans (h i hi).1 (a i hi), fun i hi => Int.le_trans (h i hi).2 (b i hi)⟩
/-- joined loosely -/
def minO : Option (List Int × List Int) → Option (List Int × List Int) → Option (List Int × List Int)
  | none, o => o
  | some f, none => some f
  | some f, some g => some (formMin f g)
theorem either_minO {n : Nat} {t : Int} {rs qs : List Rl} : eitherO n t rs qs = minO (formO n t rs) (formO n t qs) := by
  unfold eitherO minO
  cases formO n t rs <;> cases formO n t qs <;> rfl
def GoodO (n : Nat) (t : Int) (o : Option (List Int × List Int)) : Prop := ∀ f, o = some f → Good n t f
theorem goodO_form {n : Nat} {t : Int} {rs : List Rl} (ho : okAll n t rs) : GoodO n t (formO n t rs) := fun f h => good_form ho h
theorem goodO_min {n : Nat} {t : Int} {a b : Option (List Int × List Int)} (ha : GoodO n t a) (hb : GoodO n t b) : GoodO n t (minO a b) := by
  intro f h
  cases a with
  | none => exact hb f h
  | some x =>
    cases b with
    | none =>
      cases h
      exact ha _ rfl
    | some y =>
      cases h
      exact (ha _ rfl).min (hb _ rfl)
theorem min_le {n : Nat} {t : Int} {a b : Option (List Int × List Int)} (ha : GoodO n t a) (hb : GoodO n t b) : leO n (minO a b) a ∧ leO n (minO a b) b := by
  cases a with
  | none =>
    cases b with
    | none => exact ⟨trivial, trivial⟩
    | some y => exact ⟨trivial, fun i hi => ⟨Int.le_refl _, Int.le_refl _⟩⟩
  | some x =>
    cases b with
    | none => exact ⟨fun i hi => ⟨Int.le_refl _, Int.le_refl _⟩, trivial⟩
    | some y =>
      have gx := ha _ rfl
      have gy := hb _ rfl
      refine ⟨fun i hi => ?_, fun i hi => ?_⟩
      · show at0 (zmin x.1 y.1) i ≤ _ ∧ at0 (zmin x.2 y.2) i ≤ _
        rw [zmin_at gx.l1 gy.l1 hi, zmin_at gx.l2 gy.l2 hi]
        omega
      · show at0 (zmin x.1 y.1) i ≤ _ ∧ at0 (zmin x.2 y.2) i ≤ _
        rw [zmin_at gx.l1 gy.l1 hi, zmin_at gx.l2 gy.l2 hi]
        omega
theorem le_min {n : Nat} {t : Int} {a b c : Option (List Int × List Int)} (ha : GoodO n t a) (hb : GoodO n t b) (h1 : leO n c a) (h2 : leO n c b) : leO n c (minO a b) := by
  cases a with
  | none => exact h2
  | some x =>
    cases b with
    | none => exact h1
    | some y =>
      cases c with
      | none => exact False.elim h1
      | some z =>
        have gx := ha _ rfl
        have gy := hb _ rfl
        intro i hi
        show _ ≤ at0 (zmin x.1 y.1) i ∧ _ ≤ at0 (zmin x.2 y.2) i
        rw [zmin_at gx.l1 gy.l1 hi, zmin_at gx.l2 gy.l2 hi]
        have := h1 i hi
        have := h2 i hi
        omega
theorem zmin_assoc {n : Nat} {a b c : List Int} (ha : a.length = n) (hb : b.length = n) (hc : c.length = n) : zmin (zmin a b) c = zmin a (zmin b c) := by
  refine ext_at (by rw [zmin_len (zmin_len ha hb) hc, zmin_len ha (zmin_len hb hc)]) fun i hi => ?_
  rw [zmin_len (zmin_len ha hb) hc] at hi
  rw [zmin_at (zmin_len ha hb) hc hi, zmin_at ha (zmin_len hb hc) hi, zmin_at ha hb hi, zmin_at hb hc hi]
  omega
theorem minO_assoc {n : Nat} {t : Int} {a b c : Option (List Int × List Int)} (ha : GoodO n t a) (hb : GoodO n t b) (hc : GoodO n t c) : minO (minO a b) c = minO a (minO b c) := by
  cases a with
  | none => rfl
  | some x =>
    cases b with
    | none => rfl
    | some y =>
      cases c with
      | none => rfl
      | some z =>
        have gx := ha _ rfl
        have gy := hb _ rfl
        have gz := hc _ rfl
        show some (zmin (zmin x.1 y.1) z.1, zmin (zmin x.2 y.2) z.2) = some (zmin x.1 (zmin y.1 z.1), zmin x.2 (zmin y.2 z.2))
        rw [zmin_assoc gx.l1 gy.l1 gz.l1, zmin_assoc gx.l2 gy.l2 gz.l2]
/-- a scheme with a form -/
def withF (t : Int) : Option (List Int × List Int) → List Rl
  | none => [.best 1 (t + 1)]
  | some f => rulesF f
theorem withF_ok {n : Nat} {t : Int} {o : Option (List Int × List Int)} (hn : 1 ≤ n) (h6 : n ≤ 6) (t1 : 1 ≤ t) (t2 : t ≤ 12) (g : GoodO n t o) : okAll n t (withF t o) := by
  cases o with
  | none =>
    intro x hx
    simp [withF] at hx
    subst hx
    exact ⟨by omega, by omega, by omega, by omega⟩
  | some f => exact rulesF_ok (g f rfl) h6 t1 t2
theorem withF_form {n : Nat} {t : Int} {o : Option (List Int × List Int)} (hn : 1 ≤ n) (h6 : n ≤ 6) (t1 : 1 ≤ t) (t2 : t ≤ 12) (g : GoodO n t o) : formO n t (withF t o) = o := by
  cases o with
  | none =>
    have := over_none (n := n) (t := t) (rs := []) hn (by rw [List.nil_append]; exact withF_ok (o := none) hn h6 t1 t2 g)
    exact this
  | some f => exact form_closed hn h6 t1 t2 (g f rfl)
theorem withF_sch {n : Nat} {t : Int} {o : Option (List Int × List Int)} (hn : 1 ≤ n) (h3 : n ≤ 3) (t1 : 1 ≤ t) (t2 : t ≤ 12) (g : GoodO n t o) : Sch n t (withF t o) := by
  refine ⟨hn, by omega, t1, t2, ?_, withF_ok hn (by omega) t1 t2 g⟩
  cases o with
  | none => simp [withF]
  | some f =>
    have := g f rfl
    unfold withF rulesF
    rw [List.length_append, List.length_map, List.length_map, List.length_range, List.length_range, this.l1, this.l2]
    omega
/-- both depend on the forms -/
theorem app_form {n : Nat} {t : Int} {a b c d : List Rl} (ha : okAll n t a) (hb : okAll n t b) (hc : okAll n t c) (hd : okAll n t d) (h1 : formO n t a = formO n t c) (h2 : formO n t b = formO n t d) : formO n t (a ++ b) = formO n t (c ++ d) := by
  have e1 := (form_pass ha hc).mpr h1
  have e2 := (form_pass hb hd).mpr h2
  refine (form_pass (ok_app ha hb) (ok_app hc hd)).mp ?_
  have mem : ∀ {x y : List Rl} {r : List Int}, r ∈ passR n t (x ++ y) ↔ r ∈ passR n t x ∧ r ∈ passR n t y := by
    intro x y r
    rw [pass_mem, pass_mem, pass_mem, keeps_app, Bool.and_eq_true]
    exact ⟨fun h => ⟨⟨h.1, h.2.1⟩, h.1, h.2.2⟩, fun h => ⟨h.1.1, h.1.2, h.2.2⟩⟩
  refine pass_ext fun r hr => ?_
  have h3 : r ∈ passR n t (a ++ b) ↔ r ∈ passR n t (c ++ d) := by rw [mem, mem, e1, e2]
  rw [pass_mem, pass_mem] at h3
  rw [Bool.eq_iff_iff]
  exact ⟨fun h => (h3.mp ⟨hr, h⟩).2, fun h => (h3.mpr ⟨hr, h⟩).2⟩
end Wk
set_option maxRecDepth 100000
set_option maxHeartbeats 4000000
/-! LS18: fewest rules, shortest rules -/
namespace Wk
open PySem (PyData Str)
/-- all parts, in the order in which the program makes them -/
def partsF (ps : List (List Rl)) (l : List Rl) : List (List Rl) := l.foldl (fun ps x => ps ++ ps.map fun p => p ++ [x]) ps
abbrev partsL (l : List Rl) : List (List Rl) := partsF [[]] l
theorem partsF_mem : ∀ {l : List Rl} {ps : List (List Rl)} {p : List Rl}, p ∈ partsF ps l ↔ ∃ a ∈ ps, ∃ b, b.Sublist l ∧ p = a ++ b
  | [], ps, p => by
    unfold partsF
    constructor
    · exact fun h => ⟨p, h, [], List.Sublist.refl _, by simp⟩
    · rintro ⟨a, ha, b, hb, rfl⟩
      rw [List.sublist_nil.mp hb, List.append_nil]
      exact ha
  | x :: l, ps, p => by
    show p ∈ partsF (ps ++ ps.map fun p => p ++ [x]) l ↔ _
    rw [partsF_mem (l := l)]
    constructor
    · rintro ⟨a, ha, b, hb, rfl⟩
      rcases List.mem_append.mp ha with ha | ha
      · exact ⟨a, ha, b, hb.cons x, rfl⟩
      · obtain ⟨q, hq, rfl⟩ := List.mem_map.mp ha
        exact ⟨q, hq, x :: b, hb.cons₂ x, by rw [List.append_assoc]; rfl⟩
    · rintro ⟨a, ha, b, hb, rfl⟩
      cases hb with
      | cons _ h => exact ⟨a, List.mem_append_left _ ha, b, h, rfl⟩
      | cons_cons _ h => exact ⟨a ++ [x], List.mem_append_right _ (List.mem_map.mpr ⟨a, ha, rfl⟩), _, h, by rw [List.append_assoc]; rfl⟩
theorem parts_mem {l p : List Rl} : p ∈ partsL l ↔ p.Sublist l := by
  rw [partsF_mem]
  simp
theorem partsF_len : ∀ {l : List Rl} {ps : List (List Rl)}, (partsF ps l).length = ps.length * 2 ^ l.length
  | [], ps => by simp [partsF]
  | x :: l, ps => by
    show (partsF (ps ++ ps.map fun p => p ++ [x]) l).length = _
    rw [partsF_len (l := l), List.length_append, List.length_map, List.length_cons, Nat.pow_succ, ← Nat.two_mul, Nat.mul_comm 2, Nat.mul_assoc, Nat.mul_comm 2]
theorem parts_len {l : List Rl} : (partsL l).length = 2 ^ l.length := by
  rw [partsF_len]
  simp
def pL (ps : List (List Rl)) : List D := ps.map rsD
@[simp] theorem pL_len {ps : List (List Rl)} : (pL ps).length = ps.length := by
  unfold pL
  rw [List.length_map]
/-- the loop that makes them -/
theorem parts_loop {body : Env → M Fl} {b : D → Env → Option Env} {E : List (List Rl) → Env} : ∀ {l : List Rl} {ps : List (List Rl)}, ps.length * 2 ^ l.length ≤ 16000000 → (∀ p ∈ ps, p.length + l.length ≤ 1000) → (∀ x ∈ l, ∀ ps : List (List Rl), ps.length * 2 ≤ 16000000 → (∀ p ∈ ps, p.length ≤ 1000) → ∃ e1, b x.d (E ps) = some e1 ∧ body e1 = ret (.nx (E (ps ++ ps.map fun p => p ++ [x])))) → forRun body b (rL l) (E ps) = ret (.nx (E (partsF ps l)))
  | [], ps, _, _, _ => by
    simp [forRun, partsF]
  | x :: l, ps, h1, h2, hb => by
    have hp : 1 ≤ 2 ^ l.length := Nat.one_le_two_pow
    rw [List.length_cons, Nat.pow_succ] at h1
    have h1' : (ps.length * 2) * 2 ^ l.length ≤ 16000000 := by
      rw [Nat.mul_assoc, Nat.mul_comm 2]
      exact h1
    have h3 : ps.length * 2 ≤ 16000000 := Nat.le_trans (Nat.le_mul_of_pos_right _ hp) h1'
    obtain ⟨e1, q1, q2⟩ := hb x List.mem_cons_self ps h3 fun p hp => by have := h2 p hp; simp at this; omega
    rw [rL_cons]
    unfold forRun
    rw [q1]
    dsimp only
    rw [q2, bnd_ret]
    dsimp only
    refine parts_loop (l := l) ?_ (fun p hp => ?_) fun y hy => hb y (List.mem_cons_of_mem _ hy)
    · rw [List.length_append, List.length_map, ← Nat.mul_two]
      exact h1'
    · rcases List.mem_append.mp hp with hp | hp
      · have := h2 p hp
        simp at this
        omega
      · obtain ⟨q, hq, rfl⟩ := List.mem_map.mp hp
        have := h2 q hq
        simp at this ⊢
        omega
/-- a loop that ends at the first .. -/
theorem for_some {α : Type} {body : Env → M Fl} {b : D → Env → Option Env} {E : Env} (g : α → D) (F : α → Option D) : ∀ {xs : List α}, (∀ x ∈ xs, ∃ e1, b (g x) E = some e1 ∧ body e1 = ret (match F x with
    | some d => .rt d
    | none => .nx E)) → forRun body b (xs.map g) E = ret (match xs.findSome? F with
    | some d => .rt d
    | none => .nx E)
  | [], _ => rfl
  | x :: xs, h => by
    obtain ⟨e1, q1, q2⟩ := h x List.mem_cons_self
    rw [List.map_cons, List.findSome?_cons]
    unfold forRun
    rw [q1]
    dsimp only
    rw [q2, bnd_ret]
    cases F x with
    | some d => rfl
    | none => exact for_some g F fun y hy => h y (List.mem_cons_of_mem _ hy)
/-! ### fewest of the own rules -/
def fewN (n : Nat) (t : Int) (rs : List Rl) : Int := minL (((partsL rs).filter fun p => decide (formO n t p = formO n t rs)).map fun p => (p.length : Int))
theorem ok_sub {n : Nat} {t : Int} {p l : List Rl} (h : p.Sublist l) (ho : okAll n t l) : okAll n t p := fun x hx => ho x (h.subset hx)
theorem few_mem {n : Nat} {t : Int} {rs : List Rl} : ∃ q, q.Sublist rs ∧ formO n t q = formO n t rs ∧ fewN n t rs = (q.length : Int) := by
  have hne : (((partsL rs).filter fun p => decide (formO n t p = formO n t rs)).map fun p => (p.length : Int)) ≠ [] := by
    refine List.ne_nil_of_mem (a := (rs.length : Int)) (List.mem_map.mpr ⟨rs, List.mem_filter.mpr ⟨parts_mem.mpr (List.Sublist.refl _), by simp⟩, rfl⟩)
  obtain ⟨q, hq, e⟩ := List.mem_map.mp (minL_mem hne)
  obtain ⟨h1, h2⟩ := List.mem_filter.mp hq
  exact ⟨q, parts_mem.mp h1, of_decide_eq_true h2, e.symm⟩
theorem fm_if {α β : Type} (p : α → Bool) (f : α → β) : ∀ l : List α, l.filterMap (fun x => if p x = true then some (f x) else none) = (l.filter p).map f
  | [] => rfl
  | x :: l => by
    rw [List.filterMap_cons, List.filter_cons]
    cases h : p x
    · simp only [Bool.false_eq_true, if_false]
      exact fm_if p f l
    · simp only [if_true, List.map_cons]
      rw [fm_if p f l]
def S_fewest_rules (F : Fn) : Prop := ∀ (n : Nat) (t : Int) (rs : List Rl), Sch n t rs → pcall (F [schD n t rs]) = ret (.int (fewN n t rs))
theorem fewest_rules_spec {G : Sems} {c_check_scheme c_form_of : Nat} (hc : S_check_scheme (G c_check_scheme)) (hf : S_form_of (G c_form_of)) : S_fewest_rules (runFn G (f_fewest_rules c_check_scheme c_form_of)) := by
  intro n t rs hs
  have n1 := hs.n1
  have n2 := hs.n2
  have t1 := hs.t1
  have t2 := hs.t2
  have many := hs.many
  simp -implicitDefEqProofs [f_fewest_rules, ini, chk_sch hc hs, hf n t rs n1 (by omega) t1 (by omega) hs.ok]
  have lp := parts_loop (body := execs G (.cons (.augL 3 (.lc (.nm 4) (.seq (.bv 3)) (.nil) (.bin .add (.var 4) (.tup (.cons (.var 1) (.nil)))) [4])) (.wipe [1] .nil))) (b := bindT (.nm 1)) (E := fun ps => [.im (schD n t rs), .un, .im (formD (formO n t rs)), .ow (pL ps), .un]) (l := rs) (ps := [[]]) (by
    have : 2 ^ rs.length ≤ 2 ^ 6 := Nat.pow_le_pow_right (by omega) (by omega)
    simp
    omega) (by simp; omega) (fun x hx ps h1 h2 => ⟨_, by simp -implicitDefEqProofs; rfl, by
      simp -implicitDefEqProofs
      unfold pL
      rw [lc_map (fun p => rsD (p ++ [x])) fun p hp => by
        simp -implicitDefEqProofs [rsD, rL, sizeOk_of (n := p.length + 1) (by have := h2 p hp; omega)]]
      have e : (ps.map fun p => rsD (p ++ [x])) = (ps.map fun p => p ++ [x]).map rsD := by
        rw [List.map_map]
        rfl
      simp -implicitDefEqProofs [sizeOk_of (n := ps.length + ps.length) (by omega), e]⟩)
  have lp : forRun (execs G (.cons (.augL 3 (.lc (.nm 4) (.seq (.bv 3)) (.nil) (.bin .add (.var 4) (.tup (.cons (.var 1) (.nil)))) [4])) (.wipe [1] .nil))) (bindT (.nm 1)) (rL rs) [.im (schD n t rs), .un, .im (formD (formO n t rs)), .ow [PyData.tuple []], .un] = _ := lp
  simp -implicitDefEqProofs [lp]
  unfold pL
  rw [lc_fm (f := rsD) (fun p : List Rl => if decide (formO n t p = formO n t rs) = true then some (.int (p.length : Int)) else none) fun p hp => by
    have hsub := parts_mem.mp hp
    have e := hf n t p n1 (by omega) t1 (by omega) (ok_sub hsub hs.ok)
    simp -implicitDefEqProofs [schD, rsD] at e
    simp -implicitDefEqProofs [cut_to (i := 2) (by omega), sizeOk_of (n := 3) (by omega), rsD, e, eqD_form]
    by_cases h : formO n t p = formO n t rs <;> simp -implicitDefEqProofs [h, rsD]]
  have e4 : ((partsF [[]] rs).filterMap fun p => if decide (formO n t p = formO n t rs) = true then some (PyData.int (p.length : Int)) else none) = iL (((partsL rs).filter fun p => decide (formO n t p = formO n t rs)).map fun p => (p.length : Int)) := by
    unfold iL
    rw [fm_if, List.map_map]
    rfl
  have hne : (((partsL rs).filter fun p => decide (formO n t p = formO n t rs)).map fun p => (p.length : Int)) ≠ [] := by
    refine List.ne_nil_of_mem (a := (rs.length : Int)) (List.mem_map.mpr ⟨rs, List.mem_filter.mpr ⟨parts_mem.mpr (List.Sublist.refl _), by simp⟩, rfl⟩)
  rw [e4]
  simp -implicitDefEqProofs [min_l hne]
  rfl
end Wk
set_option maxRecDepth 100000
set_option maxHeartbeats 4000000
/-! LS15: marks that are not known -/
namespace Wk
open PySem (PyData Str)
/-! ### rules by marks no less -/
def PLe (r q : List Int) : Prop := r.length = q.length ∧ ∀ i, i < r.length → at0 r i ≤ at0 q i
theorem PLe.tail {a b : Int} {r q : List Int} (h : PLe (a :: r) (b :: q)) : a ≤ b ∧ PLe r q := by
  obtain ⟨h1, h2⟩ := h
  simp only [List.length_cons] at h1 h2
  exact ⟨h2 0 (by omega), by omega, fun i hi => h2 (i + 1) (by omega)⟩
theorem low_mono {k : Int} : ∀ {r q : List Int}, PLe r q → (q.filter fun m => decide (m < k)).length ≤ (r.filter fun m => decide (m < k)).length
  | [], [], _ => Nat.le_refl _
  | [], _ :: _, h => by cases h.1
  | _ :: _, [], h => by cases h.1
  | a :: r, b :: q, h => by
    obtain ⟨h1, h2⟩ := h.tail
    have ih := low_mono (k := k) h2
    rw [List.filter_cons, List.filter_cons]
    by_cases hb : b < k
    · rw [if_pos (by simpa using hb), if_pos (by simp; omega)]
      simp
      exact ih
    · rw [if_neg (by simpa using hb)]
      split
      · simp
        omega
      · exact ih
theorem srt_mono {r q : List Int} (h : PLe r q) {i : Nat} (hi : i < r.length) : at0 (srt r) i ≤ at0 (srt q) i := by
  have hr : (srt r).length = r.length := srt_len r
  have hq : (srt q).length = r.length := (srt_len q).trans h.1.symm
  have a := (fails_iff (srt_asc r) hr hi (k := at0 (srt r) i)).mpr (Int.le_refl _)
  have a : decide (((srt r).filter fun m => decide (m < at0 (srt r) i)).length ≤ i) = true := a
  rw [decide_eq_true_eq, ((srt_perm r).filter _).length_eq] at a
  have b := low_mono (k := at0 (srt r) i) h
  refine (fails_iff (srt_asc q) hq hi).mp ?_
  show decide (((srt q).filter fun m => decide (m < at0 (srt r) i)).length ≤ i) = true
  rw [decide_eq_true_eq, ((srt_perm q).filter _).length_eq]
  omega
theorem best_PLe {r q : List Int} (h : PLe r q) : ∀ {c : Nat}, c ≤ r.length → bestSum c r ≤ bestSum c q
  | 0, _ => by rw [bestSum_zero, bestSum_zero]; exact Int.le_refl _
  | c + 1, hc => by
    have ih := best_PLe h (c := c) (by omega)
    have e : ∀ (c : Nat) (z : List Int), bestSum c z = bestSum c (srt z) := fun c z => bestSum_perm (srt_perm z).symm
    rw [e _ r, e _ q] at ih ⊢
    rw [bestSum_succ (srt_asc r) (srt_len r) hc, bestSum_succ (srt_asc q) (srt_len q) (by have := h.1; omega), ← h.1]
    have := srt_mono h (i := r.length - (c + 1)) (by omega)
    omega
theorem keeps_mono {n : Nat} {t : Int} {rs : List Rl} {r q : List Int} (ho : okAll n t rs) (hn : r.length = n) (h : PLe r q) (hk : keepsR rs r = true) : keepsR rs q = true := by
  unfold keepsR at hk ⊢
  rw [List.all_eq_true] at hk ⊢
  intro x hx
  have ox := ho x hx
  have hh := hk x hx
  cases x with
  | fails c k =>
    have hh : decide ((r.filter fun m => decide (m < k)).length ≤ c) = true := hh
    show decide ((q.filter fun m => decide (m < k)).length ≤ c) = true
    rw [decide_eq_true_eq] at hh ⊢
    exact Nat.le_trans (low_mono h) hh
  | best c k =>
    have oc : 1 ≤ c ∧ c ≤ n ∧ 0 ≤ k ∧ k ≤ 72 := ox
    have hh : decide (k ≤ bestSum c r) = true := hh
    show decide (k ≤ bestSum c q) = true
    rw [decide_eq_true_eq] at hh ⊢
    have := best_PLe h (c := c) (by omega)
    omega
/-! ### known marks -/
def oD : Option Int → D
  | none => .none
  | some v => .int v
def kL (k : List (Option Int)) : List D := k.map oD
@[simp] theorem kL_nil : kL [] = [] := by rfl
theorem kL_cons {x : Option Int} {k : List (Option Int)} : kL (x :: k) = oD x :: kL k := rfl
@[simp] theorem kL_len {k : List (Option Int)} : (kL k).length = k.length := by
  unfold kL
  rw [List.length_map]
@[simp] theorem kL_take {k : List (Option Int)} {i : Nat} : (kL k).take i = kL (k.take i) := by
  unfold kL
  rw [List.map_take]
@[simp] theorem kL_drop {k : List (Option Int)} {i : Nat} : (kL k).drop i = kL (k.drop i) := by
  unfold kL
  rw [List.map_drop]
@[simp] theorem kL_app {k l : List (Option Int)} : kL k ++ kL l = kL (k ++ l) := by
  unfold kL
  rw [List.map_append]
theorem kL_snoc {k : List (Option Int)} {x : Option Int} : kL k ++ [oD x] = kL (k ++ [x]) := by
  unfold kL
  rw [List.map_append]
  rfl
@[simp] theorem isNone_oD {x : Option Int} : isNone (oD x) = x.isNone := by cases x <;> rfl
/-- marks that may be known -/
def Kn (n : Nat) (t : Int) (k : List (Option Int)) : Prop := k.length = n ∧ ∀ v, some v ∈ k → 0 ≤ v ∧ v ≤ t
def fillL : List (Option Int) → List Int → List Int
  | [], _ => []
  | some v :: k, ms => v :: fillL k ms
  | none :: k, m :: ms => m :: fillL k ms
  | none :: k, [] => 0 :: fillL k []
def holes : List (Option Int) → Nat
  | [] => 0
  | some _ :: k => holes k
  | none :: k => holes k + 1
theorem holes_le : ∀ k : List (Option Int), holes k ≤ k.length
  | [] => Nat.le_refl _
  | some _ :: k => by
    have := holes_le k
    simp [holes]
    omega
  | none :: k => by
    have := holes_le k
    simp [holes]
    omega
theorem fillL_len : ∀ (k : List (Option Int)) (ms : List Int), (fillL k ms).length = k.length
  | [], _ => rfl
  | some v :: k, ms => congrArg (· + 1) (fillL_len k ms)
  | none :: k, m :: ms => congrArg (· + 1) (fillL_len k ms)
  | none :: k, [] => congrArg (· + 1) (fillL_len k [])
def fillC (c : Int) (k : List (Option Int)) : List Int := k.map fun x => x.getD c
theorem fillL_rep {c : Int} : ∀ {k : List (Option Int)} {n : Nat}, holes k ≤ n → fillL k (List.replicate n c) = fillC c k
  | [], _, _ => rfl
  | some v :: k, n, h => by
    show v :: _ = v :: _
    rw [fillL_rep (k := k) h]
    rfl
  | none :: k, 0, h => by simp [holes] at h
  | none :: k, n + 1, h => by
    rw [List.replicate_succ]
    show c :: _ = c :: _
    rw [fillL_rep (k := k) (by simp [holes] at h; omega)]
    rfl
def S_filled (F : Fn) : Prop := ∀ (k : List (Option Int)) (ms : List Int), k.length ≤ 99 → holes k ≤ ms.length → pcall (F [.tuple (kL k), tI ms]) = ret (tI (fillL k ms))
def FLI (k0 : List (Option Int)) (res : List Int) (ds : List D) (env : Env) : Prop := ∃ (k : List (Option Int)) (ms fd : List Int), ds = kL k ∧ env = [.im (.tuple (kL k0)), .un, .un, .im (tI ms), .im (tI fd)] ∧ holes k ≤ ms.length ∧ fd ++ fillL k ms = res ∧ fd.length + k.length ≤ 99
theorem filled_spec {G : Sems} : S_filled (runFn G f_filled) := by
  intro k0 ms0 h1 h2
  refine pcall_of ?_
  simp -implicitDefEqProofs [f_filled, ini]
  refine wp_mono (wp_for (Q := fun f _ => ∃ ms, f = .nx [.im (.tuple (kL k0)), .un, .un, .im (tI ms), .im (tI (fillL k0 ms0))]) (fun ds env _ => FLI k0 (fillL k0 ms0) ds env) ⟨k0, ms0, [], rfl, by simp [tI], h2, by simp, by simpa using h1⟩ ?_ ?_) ?_
  · rintro d ds env s ⟨k, ms, fd, e, rfl, h3, h4, h5⟩
    cases k with
    | nil => cases e
    | cons x k =>
      rw [kL_cons] at e
      cases e
      simp only [List.length_cons] at h5
      refine ⟨_, by simp -implicitDefEqProofs; rfl, ?_⟩
      cases x with
      | some v =>
        simp -implicitDefEqProofs [oD]
        rw [if_pos (sizeOk_of (by omega))]
        simp -implicitDefEqProofs
        exact ⟨k, ms, fd ++ [v], rfl, rfl, h3, by rw [← h4, List.append_assoc]; rfl, by rw [List.length_append, List.length_singleton]; omega⟩
      | none =>
        cases ms with
        | nil => simp [holes] at h3
        | cons m ms =>
          simp -implicitDefEqProofs [oD, iL_cons]
          rw [if_pos (sizeOk_of (by omega))]
          simp -implicitDefEqProofs [cut_from (i := 1) (by omega)]
          refine ⟨k, ms, fd ++ [m], rfl, rfl, by simp [holes] at h3; omega, by rw [← h4, List.append_assoc]; rfl, by rw [List.length_append, List.length_singleton]; omega⟩
  · rintro env s ⟨k, ms, fd, e, rfl, h3, h4, h5⟩
    cases k with
    | nil =>
      have : fd = fillL k0 ms0 := by rw [← h4]; simp [fillL]
      exact ⟨ms, by rw [this]⟩
    | cons x k => cases e
  · rintro f s ⟨ms, rfl⟩
    simp -implicitDefEqProofs
def S_check_known (F : Fn) : Prop := ∀ (n : Nat) (t : Int) (rs : List Rl) (k : List (Option Int)), Sch n t rs → Kn n t k → pcall (F [schD n t rs, .tuple (kL k)]) = ret .none
theorem check_known_spec {G : Sems} {c_check_scheme c_is_between : Nat} (hc : S_check_scheme (G c_check_scheme)) (hb : S_is_between (G c_is_between)) : S_check_known (runFn G (f_check_known c_check_scheme c_is_between)) := by
  intro n t rs k h1 h2
  simp -implicitDefEqProofs [f_check_known, ini, chk_sch hc h1, h2.1]
  unfold kL
  rw [lc_map (fun _ => .bool true) fun x hx => ?_]
  · simp -implicitDefEqProofs
    rw [all_b, all_tt]
    simp -implicitDefEqProofs
  · cases x with
    | none => simp -implicitDefEqProofs [oD]
    | some v =>
      have e := hb (.int v) 0 t
      have b : isB (.int v) 0 t = true := by
        have := h2.2 v hx
        simp [isB]
        omega
      rw [b] at e
      simp -implicitDefEqProofs [oD, e]
theorem fillC_len {c : Int} {k : List (Option Int)} : (fillC c k).length = k.length := by
  unfold fillC
  rw [List.length_map]
theorem rep_tuple {n : Nat} {c : Int} : PyData.tuple (List.replicate n (PyData.int c)) = tI (List.replicate n c) := by
  rw [rep_int]
def S_can_pass (F : Fn) : Prop := ∀ (n : Nat) (t : Int) (rs : List Rl) (k : List (Option Int)), Sch n t rs → Kn n t k → pcall (F [schD n t rs, .tuple (kL k)]) = ret (.bool (keepsR rs (fillC t k)))
theorem can_pass_spec {G : Sems} {c_check_known c_keeps c_filled : Nat} (hc : S_check_known (G c_check_known)) (hk : S_keeps (G c_keeps)) (hf : S_filled (G c_filled)) : S_can_pass (runFn G (f_can_pass c_check_known c_keeps c_filled)) := by
  intro n t rs k h1 h2
  have n2 := h1.n2
  have hl := h2.1
  have hh := holes_le k
  have e := hf k (List.replicate n t) (by omega) (by rw [List.length_replicate]; omega)
  rw [fillL_rep (by omega)] at e
  have ek := hk rs n t _ (fillC t k) h1.ok (by rw [fillC_len]; exact hl) (by omega) (.t _)
  simp -implicitDefEqProofs [f_can_pass, ini, hc n t rs k h1 h2, repT_of (n := 1) (k := (n : Int)) (by omega) (by omega) (by omega), rep_int, e, ek]
def S_must_pass_v2 (F : Fn) : Prop := ∀ (n : Nat) (t : Int) (rs : List Rl) (k : List (Option Int)), Sch n t rs → Kn n t k → pcall (F [schD n t rs, .tuple (kL k)]) = ret (.bool (keepsR rs (fillC 0 k)))
theorem must_pass_v2_spec {G : Sems} {c_check_known c_keeps c_filled : Nat} (hc : S_check_known (G c_check_known)) (hk : S_keeps (G c_keeps)) (hf : S_filled (G c_filled)) : S_must_pass_v2 (runFn G (f_must_pass_v2 c_check_known c_keeps c_filled)) := by
  intro n t rs k h1 h2
  have n2 := h1.n2
  have hl := h2.1
  have hh := holes_le k
  have e := hf k (List.replicate n 0) (by omega) (by rw [List.length_replicate]; omega)
  rw [fillL_rep (by omega)] at e
  have ek := hk rs n t _ (fillC 0 k) h1.ok (by rw [fillC_len]; exact hl) (by omega) (.t _)
  simp -implicitDefEqProofs [f_must_pass_v2, ini, hc n t rs k h1 h2, repT_of (n := 1) (k := (n : Int)) (by omega) (by omega) (by omega), rep_int, e, ek]
/-! ### drawn -/
def S_law_known (F : Fn) : Prop := ∀ (N : Int) (n : Nat) (t : Int) (s : SV), n ≤ 99 → 0 ≤ t → t ≤ 100 → N ≤ 20000000 → SI N s → wp (F [.int (n : Nat), .int t]) (fun x s' => ∃ k, x = .tuple (kL k) ∧ Kn n t k ∧ SI (N + 2 * n) s') s
def LKI (n : Nat) (t : Int) (N : Int) (ds : List D) (env : Env) (s : SV) : Prop := ∃ k : List (Option Int), env = [.sr, .im (.int n), .im (.int t), .ow (kL k), .un] ∧ k.length + ds.length = n ∧ (∀ v, some v ∈ k → 0 ≤ v ∧ v ≤ t) ∧ SI (N + 2 * (k.length : Int)) s
theorem law_known_spec {G : Sems} {c_law_choice c_law_draw : Nat} (h_choice : S_law_choice (G c_law_choice)) (h_draw : S_law_draw (G c_law_draw)) : S_law_known (runFn G (f_law_known c_law_choice c_law_draw)) := by
  intro N n t s h1 h2 h3 hN h
  simp -implicitDefEqProofs [f_law_known, ini, rngOk_of (a := 0) (b := n) (by omega) (by omega) (by omega) (by omega)]
  refine wp_mono (wp_for (Q := fun f s' => ∃ env, f = .nx env ∧ LKI n t N [] env s') (fun ds env s' => LKI n t N ds env s') ⟨[], rfl, by rw [rng_len]; simp, fun _ h => (nomatch h), h.le (by simp)⟩ ?_ ?_) ?_
  · rintro d ds env s2 ⟨k, rfl, hl, hk, hs2⟩
    simp at hl
    refine ⟨_, by simp -implicitDefEqProofs; rfl, ?_⟩
    simp -implicitDefEqProofs
    refine wp_mono (h_draw _ (t + 1) s2 (by omega) (by omega) (by omega) hs2) fun x s3 hx => ?_
    obtain ⟨v, rfl, v0, v1, hs3⟩ := hx
    refine wp_mono (h_choice _ _ s3 (by simp) (by simp) (by omega) hs3).1 fun x s4 hx => ?_
    obtain ⟨hx, hs4⟩ := hx
    have hx : ∃ o : Option Int, x = oD o ∧ ∀ w, o = some w → 0 ≤ w ∧ w ≤ t := by
      simp at hx
      rcases hx with rfl | rfl
      · exact ⟨none, rfl, fun w h => by cases h⟩
      · exact ⟨some v, rfl, fun w h => by cases h; omega⟩
    obtain ⟨o, rfl, ho⟩ := hx
    simp -implicitDefEqProofs [show k.length < 16777216 by omega]
    rw [kL_snoc]
    refine ⟨k ++ [o], rfl, by rw [List.length_append, List.length_singleton]; omega, fun w hw => ?_, hs4.le (by rw [List.length_append, List.length_singleton]; omega)⟩
    rcases List.mem_append.mp hw with hw | hw
    · exact hk w hw
    · simp at hw
      exact ho w hw.symm
  · exact fun env s h => ⟨env, rfl, h⟩
  · rintro f s2 ⟨env, rfl, k, rfl, hl, hk, hs2⟩
    simp at hl
    simp -implicitDefEqProofs
    exact ⟨k, rfl, ⟨hl, hk⟩, hs2.le (by omega)⟩
/-! ### all results with known marks -/
def optsL (t : Int) : Option Int → List Int
  | none => upTo 0 t
  | some v => [v]
def fillsF (t : Int) : List (Option Int) → List (List Int) → List (List Int)
  | [], acc => acc
  | x :: k, acc => fillsF t k (acc.flatMap fun r => (optsL t x).map fun m => r ++ [m])
def FillP (t : Int) : List (Option Int) → List Int → Prop
  | [], [] => True
  | some v :: k, m :: b => m = v ∧ FillP t k b
  | none :: k, m :: b => (0 ≤ m ∧ m ≤ t) ∧ FillP t k b
  | _, _ => False
theorem fills_mem {t : Int} : ∀ {k : List (Option Int)} {acc : List (List Int)} {r : List Int}, r ∈ fillsF t k acc ↔ ∃ a ∈ acc, ∃ b, FillP t k b ∧ r = a ++ b
  | [], acc, r => by
    unfold fillsF
    constructor
    · exact fun h => ⟨r, h, [], trivial, by simp⟩
    · rintro ⟨a, ha, b, hb, rfl⟩
      cases b with
      | nil => simpa using ha
      | cons _ _ => exact False.elim hb
  | x :: k, acc, r => by
    unfold fillsF
    rw [fills_mem (k := k)]
    constructor
    · rintro ⟨a, ha, b, hb, rfl⟩
      obtain ⟨q, hq, hm⟩ := List.mem_flatMap.mp ha
      obtain ⟨m, hopt, rfl⟩ := List.mem_map.mp hm
      refine ⟨q, hq, m :: b, ?_, by rw [List.append_assoc]; rfl⟩
      cases x with
      | none => exact ⟨upTo_mem.mp hopt, hb⟩
      | some v =>
        simp [optsL] at hopt
        exact ⟨hopt, hb⟩
    · rintro ⟨a, ha, b, hb, rfl⟩
      cases b with
      | nil => cases x <;> exact False.elim hb
      | cons m b =>
        cases x with
        | none => exact ⟨a ++ [m], List.mem_flatMap.mpr ⟨a, ha, List.mem_map.mpr ⟨m, upTo_mem.mpr hb.1, rfl⟩⟩, b, hb.2, by rw [List.append_assoc]; rfl⟩
        | some v => exact ⟨a ++ [m], List.mem_flatMap.mpr ⟨a, ha, List.mem_map.mpr ⟨m, by simp [optsL]; exact hb.1, rfl⟩⟩, b, hb.2, by rw [List.append_assoc]; rfl⟩
theorem fills_mem1 {t : Int} {k : List (Option Int)} {r : List Int} : r ∈ fillsF t k [[]] ↔ FillP t k r := by
  rw [fills_mem]
  simp
theorem FillP.mk {n : Nat} {t : Int} : ∀ {k : List (Option Int)} {r : List Int}, k.length = n → (∀ v, some v ∈ k → 0 ≤ v ∧ v ≤ t) → FillP t k r → Mk n t r := by
  have gen : ∀ {k : List (Option Int)} {r : List Int}, (∀ v, some v ∈ k → 0 ≤ v ∧ v ≤ t) → FillP t k r → r.length = k.length ∧ ∀ m ∈ r, 0 ≤ m ∧ m ≤ t := by
    intro k
    induction k with
    | nil =>
      intro r _ h
      cases r with
      | nil => exact ⟨rfl, fun _ h => (nomatch h)⟩
      | cons _ _ => exact False.elim h
    | cons x k ih =>
      intro r hk h
      cases r with
      | nil => cases x <;> exact False.elim h
      | cons m r =>
        have hk' : ∀ v, some v ∈ k → 0 ≤ v ∧ v ≤ t := fun v hv => hk v (List.mem_cons_of_mem _ hv)
        cases x with
        | none =>
          obtain ⟨a, b⟩ := ih hk' h.2
          exact ⟨congrArg (· + 1) a, fun z hz => by
            rcases List.mem_cons.mp hz with rfl | hz
            · exact h.1
            · exact b z hz⟩
        | some v =>
          obtain ⟨a, b⟩ := ih hk' h.2
          exact ⟨congrArg (· + 1) a, fun z hz => by
            rcases List.mem_cons.mp hz with rfl | hz
            · rw [h.1]
              exact hk v List.mem_cons_self
            · exact b z hz⟩
  intro k r hl hk h
  obtain ⟨a, b⟩ := gen hk h
  exact ⟨a.trans hl, b⟩
theorem fillC_P {t c : Int} (h0 : 0 ≤ c) (h1 : c ≤ t) : ∀ {k : List (Option Int)}, FillP t k (fillC c k)
  | [] => trivial
  | some v :: k => ⟨rfl, fillC_P h0 h1⟩
  | none :: k => ⟨⟨h0, h1⟩, fillC_P h0 h1⟩
theorem PLe_cons {a b : Int} {r q : List Int} (h : a ≤ b) (h2 : PLe r q) : PLe (a :: r) (b :: q) := by
  refine ⟨congrArg (· + 1) h2.1, fun i hi => ?_⟩
  cases i with
  | zero => exact h
  | succ i => exact h2.2 i (by simp at hi; omega)
theorem fill_le {t : Int} : ∀ {k : List (Option Int)} {r : List Int}, FillP t k r → PLe r (fillC t k) ∧ PLe (fillC 0 k) r
  | [], [], _ => ⟨⟨rfl, fun i hi => by simp at hi⟩, ⟨rfl, fun i hi => by simp [fillC] at hi⟩⟩
  | [], _ :: _, h => False.elim h
  | some _ :: _, [], h => False.elim h
  | none :: _, [], h => False.elim h
  | some v :: k, m :: r, h => by
    obtain ⟨a, b⟩ := fill_le h.2
    exact ⟨PLe_cons (by rw [h.1]; exact Int.le_refl _) a, PLe_cons (by rw [h.1]; exact Int.le_refl _) b⟩
  | none :: k, m :: r, h => by
    obtain ⟨a, b⟩ := fill_le h.2
    exact ⟨PLe_cons h.1.2 a, PLe_cons h.1.1 b⟩
/-- a loop that makes rows longer -/
theorem ext_loop {body : Env → M Fl} {b : D → Env → Option Env} {E : List (List Int) → Env} (ext : List Int → List (List Int)) : ∀ {rows acc : List (List Int)}, (acc ++ rows.flatMap ext).length ≤ 16777216 → (∀ r ∈ rows, ∀ a : List (List Int), (a ++ ext r).length ≤ 16777216 → ∃ e1, b (tI r) (E a) = some e1 ∧ body e1 = ret (.nx (E (a ++ ext r)))) → forRun body b (wL rows) (E acc) = ret (.nx (E (acc ++ rows.flatMap ext)))
  | [], acc, _, _ => by
    simp [forRun]
  | r :: rows, acc, hl, h => by
    have hl' : (acc ++ ext r ++ rows.flatMap ext).length ≤ 16777216 := by
      simpa [List.flatMap_cons] using hl
    obtain ⟨e1, h1, h2⟩ := h r List.mem_cons_self acc (by rw [List.length_append] at hl'; omega)
    rw [wL_cons]
    unfold forRun
    rw [h1]
    dsimp only
    rw [h2, bnd_ret]
    dsimp only
    rw [ext_loop ext hl' fun x hx => h x (List.mem_cons_of_mem _ hx)]
    simp [List.flatMap_cons]
theorem fill_step_len {t : Int} (h1 : t ≤ 12) {x : Option Int} : ∀ (acc : List (List Int)), (acc.flatMap fun r => (optsL t x).map fun m => r ++ [m]).length ≤ acc.length * 13
  | [] => by simp
  | r :: acc => by
    have ih := fill_step_len h1 (x := x) acc
    rw [List.flatMap_cons, List.length_append, List.length_map, List.length_cons]
    have : (optsL t x).length ≤ 13 := by
      cases x with
      | none =>
        unfold optsL
        rw [upTo_len]
        omega
      | some v => simp [optsL]
    omega
def S_law_fillings (F : Fn) : Prop := ∀ (k : List (Option Int)) (t : Int), k.length ≤ 6 → 0 ≤ t → t ≤ 12 → pcall (F [.tuple (kL k), .int t]) = ret (.list (wL (fillsF t k [[]])))
def LFI (k0 : List (Option Int)) (t : Int) (ds : List D) (env : Env) : Prop := ∃ (k : List (Option Int)) (acc : List (List Int)), ds = kL k ∧ env = [.im (.tuple (kL k0)), .im (.int t), .im (.list (wL acc)), .un, .un, .un, .un, .un] ∧ fillsF t k acc = fillsF t k0 [[]] ∧ acc.length * 13 ^ k.length ≤ 4826809 ∧ ∀ r ∈ acc, r.length + k.length ≤ 6
theorem law_fillings_spec {G : Sems} : S_law_fillings (runFn G f_law_fillings) := by
  intro k0 t h1 h2 h3
  refine pcall_of ?_
  simp -implicitDefEqProofs [f_law_fillings, ini]
  refine wp_mono (wp_for (Q := fun f _ => f = .nx [.im (.tuple (kL k0)), .im (.int t), .im (.list (wL (fillsF t k0 [[]]))), .un, .un, .un, .un, .un]) (fun ds env _ => LFI k0 t ds env) ⟨k0, [[]], rfl, rfl, rfl, by have := pow13 h1; simp; omega, fun r hr => by simp at hr; subst hr; simpa using h1⟩ ?_ ?_) ?_
  · rintro d ds env s ⟨k, acc, e, rfl, h4, h5, h6⟩
    cases k with
    | nil => cases e
    | cons x k =>
      rw [kL_cons] at e
      cases e
      have hs := fill_step_len h3 (x := x) acc
      have hp : 13 ^ (k.length + 1) = 13 ^ k.length * 13 := Nat.pow_succ ..
      have hp1 : 1 ≤ 13 ^ k.length := Nat.one_le_pow _ _ (by omega)
      rw [List.length_cons, hp] at h5
      have h7 : acc.length * 13 ≤ 4826809 := by
        have : acc.length * 13 * 1 ≤ acc.length * 13 * 13 ^ k.length := Nat.mul_le_mul (Nat.le_refl _) hp1
        have e : acc.length * (13 ^ k.length * 13) = acc.length * 13 * 13 ^ k.length := by
          rw [Nat.mul_comm (13 ^ k.length) 13, ← Nat.mul_assoc]
        omega
      refine ⟨_, by simp -implicitDefEqProofs; rfl, ?_⟩
      simp -implicitDefEqProofs
      refine wp_eq (ext_loop (E := fun a => [.im (.tuple (kL k0)), .im (.int t), .im (.list (wL acc)), .im (oD x), .im (.list (wL a)), .un, .un, .un]) (fun r => (optsL t x).map fun m => r ++ [m]) (acc := []) (by rw [List.nil_append]; omega) fun r hr a hal => ⟨_, by simp -implicitDefEqProofs; rfl, ?_⟩) ?_
      · have hz : sizeOk (a.length + (optsL t x).length) = true := sizeOk_of (by rw [List.length_append, List.length_map] at hal; exact hal)
        have hz1 : sizeOk (r.length + 1) = true := sizeOk_of (by have := h6 r hr; simp at this; omega)
        have lc : ∀ g : D → M (Option D), (∀ m, g (.int m) = ret (some (tI (r ++ [m])))) → lcRun g (iL (optsL t x)) = ret (wL ((optsL t x).map fun m => r ++ [m])) := by
          intro g hg
          rw [lci_map (fun m => tI (r ++ [m])) fun m _ => hg m, wL_map]
        cases x with
        | some v =>
          simp -implicitDefEqProofs [oD]
          rw [show [PyData.int v] = iL (optsL t (some v)) from rfl, lc _ fun m => by simp -implicitDefEqProofs [hz1]]
          simp -implicitDefEqProofs
          rw [if_pos hz]
          simp -implicitDefEqProofs
        | none =>
          simp -implicitDefEqProofs [oD, rngOk_of (a := 0) (b := t + 1) (by omega) (by omega) (by omega) (by omega)]
          rw [show rngL 0 (t + 1) = iL (optsL t none) by rw [rngL_eq, show t + 1 - 1 = t by omega]; rfl, lc _ fun m => by simp -implicitDefEqProofs [hz1]]
          simp -implicitDefEqProofs
          rw [if_pos hz]
          simp -implicitDefEqProofs
      · rw [List.nil_append]
        simp -implicitDefEqProofs
        refine ⟨k, _, rfl, rfl, h4, ?_, fun r hr => ?_⟩
        · have : (acc.flatMap fun r => (optsL t x).map fun m => r ++ [m]).length * 13 ^ k.length ≤ acc.length * 13 * 13 ^ k.length := Nat.mul_le_mul hs (Nat.le_refl _)
          have e : acc.length * (13 ^ k.length * 13) = acc.length * 13 * 13 ^ k.length := by
            rw [Nat.mul_comm (13 ^ k.length) 13, ← Nat.mul_assoc]
          omega
        · obtain ⟨q, hq, hm⟩ := List.mem_flatMap.mp hr
          obtain ⟨m, _, rfl⟩ := List.mem_map.mp hm
          have := h6 q hq
          simp at this ⊢
          omega
  · rintro env s ⟨k, acc, e, rfl, h4, h5, h6⟩
    cases k with
    | nil =>
      rw [show acc = fillsF t k0 [[]] from h4]
    | cons x k => cases e
  · rintro f s rfl
    simp -implicitDefEqProofs
end Wk
set_option maxRecDepth 100000
set_option maxHeartbeats 4000000
/-! LS29: lowest and highest rows -/
namespace Wk
open PySem (PyData Str)
/-! ### rows with one mark changed -/
def chg (r : List Int) (i : Nat) (c : Int) : List Int := r.take i ++ (at0 r i + c) :: r.drop (i + 1)
theorem chg_len {r : List Int} {i : Nat} {c : Int} (h : i < r.length) : (chg r i c).length = r.length := by
  unfold chg
  simp
  omega
theorem chg_at {r : List Int} {i j : Nat} {c : Int} (h : i < r.length) : at0 (chg r i c) j = if j = i then at0 r i + c else at0 r j := by
  unfold chg at0
  simp only [List.getD_eq_getElem?_getD]
  rw [List.getElem?_append, List.length_take, Nat.min_eq_left (by omega)]
  by_cases h1 : j < i
  · rw [if_pos h1, if_neg (by omega), List.getElem?_take, if_pos h1]
  · rw [if_neg h1]
    by_cases h2 : j = i
    · subst h2
      simp
    · rw [if_neg h2]
      obtain ⟨k, hk⟩ : ∃ k, j - i = k + 1 := ⟨j - i - 1, by omega⟩
      rw [hk, List.getElem?_cons_succ, List.getElem?_drop, show i + 1 + k = j by omega]
theorem chg_sum {r : List Int} {i : Nat} {c : Int} (h : i < r.length) : (chg r i c).sum = r.sum + c := by
  unfold chg
  have e : r.sum = (r.take i).sum + (at0 r i + (r.drop (i + 1)).sum) := by
    conv => lhs; rw [← List.take_append_drop i r, List.sum_append]
    rw [List.drop_eq_getElem_cons h, List.sum_cons, at0_get h]
  rw [List.sum_append, List.sum_cons, e]
  omega
def lessR (n : Nat) (r : List Int) : List (List Int) := ((List.range n).filter fun i => decide (0 < at0 r i)).map fun i => chg r i (-1)
def moreR (n : Nat) (t : Int) (r : List Int) : List (List Int) := ((List.range n).filter fun i => decide (at0 r i < t)).map fun i => chg r i 1
def isLow (n : Nat) (rs : List Rl) (r : List Int) : Bool := keepsR rs r && !(lessR n r).any fun q => keepsR rs q
def isHigh (n : Nat) (t : Int) (rs : List Rl) (r : List Int) : Bool := !keepsR rs r && (moreR n t r).all fun q => keepsR rs q
def lowsL (n : Nat) (t : Int) (rs : List Rl) : List (List Int) := (rowsL n t).filter (isLow n rs)
def highsL (n : Nat) (t : Int) (rs : List Rl) : List (List Int) := (rowsL n t).filter (isHigh n t rs)
/-- no mark less -/
def leB (n : Nat) (r q : List Int) : Bool := (List.range n).all fun i => decide (at0 r i ≤ at0 q i)
theorem leB_iff {n : Nat} {r q : List Int} : leB n r q = true ↔ ∀ i, i < n → at0 r i ≤ at0 q i := by
  unfold leB
  simp
theorem less_mem {n : Nat} {r q : List Int} : q ∈ lessR n r ↔ ∃ i, i < n ∧ 0 < at0 r i ∧ chg r i (-1) = q := by
  unfold lessR
  simp only [List.mem_map, List.mem_filter, List.mem_range, decide_eq_true_eq, and_assoc]
theorem more_mem {n : Nat} {t : Int} {r q : List Int} : q ∈ moreR n t r ↔ ∃ i, i < n ∧ at0 r i < t ∧ chg r i 1 = q := by
  unfold moreR
  simp only [List.mem_map, List.mem_filter, List.mem_range, decide_eq_true_eq, and_assoc]
theorem chg_mk {n : Nat} {t : Int} {r : List Int} {i : Nat} {c : Int} (hr : IsRow n t r) (hi : i < n) (h0 : 0 ≤ at0 r i + c) (h1 : at0 r i + c ≤ t) : Mk n t (chg r i c) := by
  refine ⟨by rw [chg_len (by rw [hr.len]; exact hi)]; exact hr.len, fun m hm => ?_⟩
  unfold chg at hm
  rcases List.mem_append.mp hm with hm | hm
  · have := List.mem_of_mem_take hm
    exact ⟨hr.lo m this, hr.hi m this⟩
  · rcases List.mem_cons.mp hm with rfl | hm
    · exact ⟨h0, h1⟩
    · have := List.mem_of_mem_drop hm
      exact ⟨hr.lo m this, hr.hi m this⟩
/-- under a row that passes stands a lowest one -/
theorem low_ex {n : Nat} {t : Int} {rs : List Rl} (ho : okAll n t rs) : ∀ (k : Nat) (r : List Int), IsRow n t r → r.sum ≤ k → keepsR rs r = true → ∃ l ∈ lowsL n t rs, leB n l r = true
  | k, r, hr, hk, h => by
    by_cases hl : isLow n rs r = true
    · exact ⟨r, List.mem_filter.mpr ⟨rowsL_mem.mpr hr, hl⟩, leB_iff.mpr fun i _ => Int.le_refl _⟩
    · unfold isLow at hl
      rw [h] at hl
      simp only [Bool.true_and, Bool.not_eq_true', Bool.not_eq_false] at hl
      obtain ⟨q, hq, hkq⟩ := List.any_eq_true.mp hl
      obtain ⟨i, hi, hp, rfl⟩ := less_mem.mp hq
      have hir : i < r.length := by rw [hr.len]; exact hi
      have mk : Mk n t (chg r i (-1)) := chg_mk hr hi (by omega) (by have := hr.hi _ (at0_mem hir); omega)
      have hle : PLe (chg r i (-1)) r := ⟨chg_len hir, fun j hj => by
        rw [chg_at hir]
        split
        · rename_i e
          subst e
          omega
        · exact Int.le_refl _⟩
      have hs : (srt (chg r i (-1))).sum = r.sum - 1 := by rw [srt_sum, chg_sum hir]; omega
      have h0 : 0 ≤ (srt (chg r i (-1))).sum := by
        have : ∀ l : List Int, (∀ m ∈ l, 0 ≤ m) → 0 ≤ l.sum := by
          intro l
          induction l with
          | nil => intro _; simp
          | cons a l ih =>
            intro h
            have := h a List.mem_cons_self
            have := ih fun m hm => h m (List.mem_cons_of_mem _ hm)
            rw [List.sum_cons]
            omega
        exact this _ fun m hm => (mk.2 m (srt_mem.mp hm)).1
      match k with
      | 0 =>
        have hk : r.sum ≤ 0 := by simpa using hk
        omega
      | k + 1 =>
        obtain ⟨l, hl, hll⟩ := low_ex ho k _ mk.srt (by rw [hs]; simp at hk; omega) (by rw [keepsR_srt]; exact hkq)
        refine ⟨l, hl, leB_iff.mpr fun j hj => ?_⟩
        have a := leB_iff.mp hll j hj
        have b := srt_mono hle (i := j) (by rw [chg_len hir, hr.len]; exact hj)
        rw [srt_of_asc hr.asc] at b
        omega
theorem PLe_of {n : Nat} {r q : List Int} (h1 : r.length = n) (h2 : q.length = n) (h : leB n r q = true) : PLe r q := ⟨by omega, fun i hi => leB_iff.mp h i (by omega)⟩
theorem low_mem {n : Nat} {t : Int} {rs : List Rl} {r : List Int} (h : r ∈ lowsL n t rs) : IsRow n t r ∧ isLow n rs r = true := by
  obtain ⟨a, b⟩ := List.mem_filter.mp h
  exact ⟨rowsL_mem.mp a, b⟩
theorem high_mem {n : Nat} {t : Int} {rs : List Rl} {r : List Int} (h : r ∈ highsL n t rs) : IsRow n t r ∧ isHigh n t rs r = true := by
  obtain ⟨a, b⟩ := List.mem_filter.mp h
  exact ⟨rowsL_mem.mp a, b⟩
theorem lows_reach {n : Nat} {t : Int} {rs : List Rl} (ho : okAll n t rs) {r : List Int} (hr : IsRow n t r) : (lowsL n t rs).any (fun l => leB n l r) = keepsR rs r := by
  rw [Bool.eq_iff_iff, List.any_eq_true]
  constructor
  · rintro ⟨l, hl, h⟩
    obtain ⟨a, b⟩ := low_mem hl
    unfold isLow at b
    rw [Bool.and_eq_true] at b
    exact keeps_mono ho a.len (PLe_of a.len hr.len h) b.1
  · intro h
    exact low_ex ho r.sum.toNat r hr (by omega) h
theorem row_ext {n : Nat} {r q : List Int} (h1 : r.length = n) (h2 : q.length = n) (h : ∀ i, i < n → at0 r i = at0 q i) : r = q := by
  refine List.ext_getElem (by omega) fun i a b => ?_
  have := h i (by omega)
  rw [at0_get a, at0_get b] at this
  exact this
theorem lows_apart {n : Nat} {t : Int} {rs : List Rl} (ho : okAll n t rs) {r : List Int} (hr : r ∈ lowsL n t rs) : ((lowsL n t rs).filter fun q => !decide (q = r)).any (fun l => leB n l r) = false := by
  rw [List.any_eq_false]
  intro l hl h
  obtain ⟨hl, hne⟩ := List.mem_filter.mp hl
  have hne : l ≠ r := by simpa using hne
  obtain ⟨a, b⟩ := low_mem hl
  obtain ⟨a', b'⟩ := low_mem hr
  unfold isLow at b b'
  rw [Bool.and_eq_true] at b b'
  have hex : ∃ i, i < n ∧ at0 l i ≠ at0 r i := by
    refine Classical.byContradiction fun z => hne (row_ext a.len a'.len fun i hi => Classical.byContradiction fun w => z ⟨i, hi, w⟩)
  obtain ⟨i, hi, hd⟩ := hex
  have hle := leB_iff.mp h
  have hir : i < r.length := by rw [a'.len]; exact hi
  have h1 := hle i hi
  have h0 := a.lo _ (at0_mem (r := l) (i := i) (by rw [a.len]; exact hi))
  have hq : chg r i (-1) ∈ lessR n r := less_mem.mpr ⟨i, hi, by omega, rfl⟩
  have hk : keepsR rs (chg r i (-1)) = true := by
    refine keeps_mono ho a.len ⟨by rw [chg_len hir, a.len, a'.len], fun j hj => ?_⟩ b.1
    rw [chg_at hir]
    split
    · rename_i e
      subst e
      omega
    · exact hle j (by rw [← a.len]; exact hj)
  have : ((lessR n r).any fun q => keepsR rs q) = true := List.any_eq_true.mpr ⟨_, hq, hk⟩
  rw [this] at b'
  simp at b'
theorem high_ex {n : Nat} {t : Int} {rs : List Rl} (ho : okAll n t rs) (ht : 0 ≤ t) : ∀ (k : Nat) (r : List Int), IsRow n t r → n * t ≤ r.sum + k → keepsR rs r = false → ∃ l ∈ highsL n t rs, leB n r l = true
  | k, r, hr, hk, h => by
    by_cases hl : isHigh n t rs r = true
    · exact ⟨r, List.mem_filter.mpr ⟨rowsL_mem.mpr hr, hl⟩, leB_iff.mpr fun i _ => Int.le_refl _⟩
    · unfold isHigh at hl
      rw [h] at hl
      simp only [Bool.not_false, Bool.true_and] at hl
      have hl : ∃ q ∈ moreR n t r, keepsR rs q = false := by
        refine Classical.byContradiction fun z => hl (List.all_eq_true.mpr fun q hq => ?_)
        cases e : keepsR rs q with
        | true => rfl
        | false => exact absurd ⟨q, hq, e⟩ z
      obtain ⟨q, hq, hkq⟩ := hl
      obtain ⟨i, hi, hp, rfl⟩ := more_mem.mp hq
      have hir : i < r.length := by rw [hr.len]; exact hi
      have mk : Mk n t (chg r i 1) := chg_mk hr hi (by have := hr.lo _ (at0_mem hir); omega) (by omega)
      have hle : PLe r (chg r i 1) := ⟨(chg_len hir).symm, fun j hj => by
        rw [chg_at hir]
        split
        · rename_i e
          subst e
          omega
        · exact Int.le_refl _⟩
      have hs : (srt (chg r i 1)).sum = r.sum + 1 := by rw [srt_sum, chg_sum hir]
      have h0 : (srt (chg r i 1)).sum ≤ n * t := by
        have : ∀ l : List Int, (∀ m ∈ l, m ≤ t) → l.sum ≤ l.length * t := by
          intro l
          induction l with
          | nil => intro _; simp
          | cons a l ih =>
            intro h
            have := h a List.mem_cons_self
            have := ih fun m hm => h m (List.mem_cons_of_mem _ hm)
            rw [List.sum_cons, List.length_cons, Int.natCast_add, Int.add_mul]
            omega
        have := this (srt (chg r i 1)) fun m hm => (mk.2 m (srt_mem.mp hm)).2
        rw [mk.srt.len] at this
        exact this
      match k with
      | 0 =>
        have hk : n * t ≤ r.sum := by simpa using hk
        omega
      | k + 1 =>
        obtain ⟨l, hl, hll⟩ := high_ex ho ht k _ mk.srt (by rw [hs]; simp at hk; omega) (by rw [keepsR_srt]; exact hkq)
        refine ⟨l, hl, leB_iff.mpr fun j hj => ?_⟩
        have a := leB_iff.mp hll j hj
        have b := srt_mono hle (i := j) (by rw [hr.len]; exact hj)
        rw [srt_of_asc hr.asc] at b
        omega
theorem highs_below {n : Nat} {t : Int} {rs : List Rl} (ho : okAll n t rs) (ht : 0 ≤ t) {r : List Int} (hr : IsRow n t r) : (highsL n t rs).any (fun l => leB n r l) = !keepsR rs r := by
  rw [Bool.eq_iff_iff, List.any_eq_true, Bool.not_eq_true']
  constructor
  · rintro ⟨l, hl, h⟩
    obtain ⟨a, b⟩ := high_mem hl
    unfold isHigh at b
    rw [Bool.and_eq_true, Bool.not_eq_true'] at b
    cases e : keepsR rs r with
    | false => rfl
    | true =>
      have := keeps_mono ho hr.len (PLe_of hr.len a.len h) e
      rw [this] at b
      cases b.1
  · intro h
    have h0 : 0 ≤ r.sum := by
      have : ∀ l : List Int, (∀ m ∈ l, 0 ≤ m) → 0 ≤ l.sum := by
        intro l
        induction l with
        | nil => intro _; simp
        | cons a l ih =>
          intro h
          have := h a List.mem_cons_self
          have := ih fun m hm => h m (List.mem_cons_of_mem _ hm)
          rw [List.sum_cons]
          omega
      exact this _ hr.lo
    have hz : 0 ≤ (n : Int) * t := Int.mul_nonneg (by omega) ht
    exact high_ex ho ht ((n : Int) * t).toNat r hr (by omega) h
/-! ### the defs -/
def S_check_small (F : Fn) : Prop := ∀ (n : Nat) (t : Int) (rs : List Rl), n ≤ 4 → pcall (F [schD n t rs]) = ret .none
theorem check_small_spec {G : Sems} : S_check_small (runFn G f_check_small) := by
  intro n t rs h
  simp -implicitDefEqProofs [f_check_small, ini, schD, show ¬ ((4 : Int) < n) by omega]
def S_changed (F : Fn) : Prop := ∀ (r : List Int) (i : Nat) (c : Int), r.length ≤ 99 → i < r.length → pcall (F [tI r, .int (i : Nat), .int c]) = ret (tI (chg r i c))
theorem changed_spec {G : Sems} : S_changed (runFn G f_changed) := by
  intro r i c h hi
  have e : L2.atI (iL r) (i : Int) = some (.int (at0 r i)) := L2.atI_nat (by
    unfold iL
    rw [List.getElem?_map, List.getElem?_eq_getElem hi, at0_get hi]
    rfl)
  simp -implicitDefEqProofs [f_changed, ini, tI, cut_to (i := (i : Int)) (by omega), cut_from (i := (i : Int) + 1) (by omega), show ((i : Int) + 1).toNat = i + 1 by omega, e]
  rw [if_pos (sizeOk_of (by first | omega | (simp; omega)))]
  simp -implicitDefEqProofs [cut_from (i := (i : Int) + 1) (by omega), show ((i : Int) + 1).toNat = i + 1 by omega]
  rw [if_pos (sizeOk_of (by first | omega | (simp; omega)))]
  simp [chg, iL]
/-- rows by the places that are picked -/
theorem lc_pickT {g : D → M (Option D)} (p : Nat → Bool) (q : Nat → List Int) {l : List Nat} (e : ∀ i ∈ l, g (.int (i : Nat)) = ret (if p i = true then some (tI (q i)) else none)) : lcRun g (l.map fun i => PyData.int ((i : Nat) : Int)) = ret (wL ((l.filter p).map q)) := by
  rw [lc_fm (fun i => if p i = true then some (tI (q i)) else none) e]
  congr 1
  clear e
  induction l with
  | nil => rfl
  | cons x xs ih =>
    rw [List.filterMap_cons, List.filter_cons]
    cases p x <;> simp [ih, wL]
theorem for_any {α : Type} {body : Env → M Fl} {b : D → Env → Option Env} {E : Env} (f : α → D) (p : α → Bool) (v : D) : ∀ {xs : List α}, (∀ x ∈ xs, ∃ e1, b (f x) E = some e1 ∧ body e1 = ret (if p x = true then .rt v else .nx E)) → forRun body b (xs.map f) E = ret (if xs.any p = true then .rt v else .nx E)
  | [], _ => rfl
  | x :: xs, h => by
    obtain ⟨e1, h1, h2⟩ := h x List.mem_cons_self
    rw [List.map_cons]
    unfold forRun
    rw [h1]
    dsimp only
    rw [h2, bnd_ret]
    cases hp : p x with
    | true => simp [hp]
    | false =>
      rw [if_neg (by decide)]
      dsimp only
      rw [for_any f p v fun y hy => h y (List.mem_cons_of_mem _ hy)]
      simp [hp]
theorem ixI {r : List Int} {i : Nat} (hi : i < r.length) : L2.atI (iL r) (i : Int) = some (.int (at0 r i)) := L2.atI_nat (by
    unfold iL
    rw [List.getElem?_map, List.getElem?_eq_getElem hi, at0_get hi]
    rfl)
def S_lowest_rows (F : Fn) : Prop := ∀ (n : Nat) (t : Int) (rs : List Rl), Sch n t rs → n ≤ 4 → pcall (F [schD n t rs]) = ret (.list (wL (lowsL n t rs)))
theorem lowest_rows_spec {G : Sems} {c_check_scheme c_check_small c_all_rows c_changed c_keeps : Nat} (hc : S_check_scheme (G c_check_scheme)) (hs : S_check_small (G c_check_small)) (hr : S_all_rows (G c_all_rows)) (hch : S_changed (G c_changed)) (hk : S_keeps (G c_keeps)) : S_lowest_rows (runFn G (f_lowest_rows c_check_scheme c_check_small c_all_rows c_changed c_keeps)) := by
  intro n t rs h hn
  have l6 := rows_len6 (n := n) (t := t) (by omega) (by have := h.t1; omega) h.t2
  simp -implicitDefEqProofs [f_lowest_rows, ini, chk_sch hc h, hs n t rs hn, hr n t (by omega) (by have := h.t1; omega) h.t2]
  refine (congrArg (fun m => pcall (bnd (bnd m _) _)) (for_filter (E := fun a => [.im (schD n t rs), .ow (wL a), .un, .un, .un, .un]) (isLow n rs) (rows := rowsL n t) (acc := []) (by simp; omega) fun r hm a ha => ⟨_, by simp -implicitDefEqProofs; rfl, ?_⟩)).trans ?_
  rotate_left
  · simp -implicitDefEqProofs
    rfl
  · have hrow := rowsL_mem.mp hm
    have e0 := hk rs n t (tI r) r h.ok hrow.len (by omega) (.t r)
    simp -implicitDefEqProofs [rngOk_of (a := 0) (b := n) (by omega) (by omega) (by omega) (by omega), rngL_nat]
    rw [lc_pickT (fun i => decide (0 < at0 r i)) (fun i => chg r i (-1)) fun i hi => by
      have hi := List.mem_range.mp hi
      have hir : i < r.length := by rw [hrow.len]; exact hi
      by_cases hp : 0 < at0 r i
      · simp -implicitDefEqProofs [tI, ixI hir, hp]
        have := hch r i (-1) (by rw [hrow.len]; omega) hir
        simp -implicitDefEqProofs [tI] at this
        simp -implicitDefEqProofs [this]
      · simp -implicitDefEqProofs [tI, ixI hir, hp]]
    have eL : wL (((List.range n).filter fun i => decide (0 < at0 r i)).map fun i => chg r i (-1)) = wL (lessR n r) := rfl
    rw [eL]
    have hm2 : ∀ q ∈ lessR n r, q.length = n := fun q hq => by
      obtain ⟨i, hi, _, rfl⟩ := less_mem.mp hq
      rw [chg_len (by rw [hrow.len]; exact hi), hrow.len]
    cases ck : keepsR rs r with
    | false =>
      rw [ck] at e0
      simp -implicitDefEqProofs [e0, isLow, ck]
    | true =>
      rw [ck] at e0
      simp -implicitDefEqProofs [e0]
      rw [lcw_map (fun q => .bool (keepsR rs q)) fun q hq => by simp -implicitDefEqProofs [hk rs n t (tI q) q h.ok (hm2 q hq) (by omega) (.t q)]]
      obtain ⟨bb, hbb⟩ : ∃ bb, ((lessR n r).any fun q => keepsR rs q) = bb := ⟨_, rfl⟩
      have ea : anyD (.list ((lessR n r).map fun q => PyData.bool (keepsR rs q))) = ret (.bool bb) := by rw [any_b, hbb]
      have el : isLow n rs r = !bb := by
        unfold isLow
        rw [ck, hbb, Bool.true_and]
      rw [el]
      cases bb <;> simp -implicitDefEqProofs [ea, ha]
def S_highest_rows (F : Fn) : Prop := ∀ (n : Nat) (t : Int) (rs : List Rl), Sch n t rs → n ≤ 4 → pcall (F [schD n t rs]) = ret (.list (wL (highsL n t rs)))
theorem highest_rows_spec {G : Sems} {c_check_scheme c_check_small c_all_rows c_changed c_keeps : Nat} (hc : S_check_scheme (G c_check_scheme)) (hs : S_check_small (G c_check_small)) (hr : S_all_rows (G c_all_rows)) (hch : S_changed (G c_changed)) (hk : S_keeps (G c_keeps)) : S_highest_rows (runFn G (f_highest_rows c_check_scheme c_check_small c_all_rows c_changed c_keeps)) := by
  intro n t rs h hn
  have l6 := rows_len6 (n := n) (t := t) (by omega) (by have := h.t1; omega) h.t2
  simp -implicitDefEqProofs [f_highest_rows, ini, chk_sch hc h, hs n t rs hn, hr n t (by omega) (by have := h.t1; omega) h.t2]
  refine (congrArg (fun m => pcall (bnd (bnd m _) _)) (for_filter (E := fun a => [.im (schD n t rs), .ow (wL a), .un, .un, .un, .un]) (isHigh n t rs) (rows := rowsL n t) (acc := []) (by simp; omega) fun r hm a ha => ⟨_, by simp -implicitDefEqProofs; rfl, ?_⟩)).trans ?_
  rotate_left
  · simp -implicitDefEqProofs
    rfl
  · have hrow := rowsL_mem.mp hm
    have e0 := hk rs n t (tI r) r h.ok hrow.len (by omega) (.t r)
    simp -implicitDefEqProofs [rngOk_of (a := 0) (b := n) (by omega) (by omega) (by omega) (by omega), rngL_nat]
    rw [lc_pickT (fun i => decide (at0 r i < t)) (fun i => chg r i 1) fun i hi => by
      have hi := List.mem_range.mp hi
      have hir : i < r.length := by rw [hrow.len]; exact hi
      by_cases hp : at0 r i < t
      · simp -implicitDefEqProofs [tI, ixI hir, hp]
        have := hch r i 1 (by rw [hrow.len]; omega) hir
        simp -implicitDefEqProofs [tI] at this
        simp -implicitDefEqProofs [this]
      · simp -implicitDefEqProofs [tI, ixI hir, hp]]
    have eL : wL (((List.range n).filter fun i => decide (at0 r i < t)).map fun i => chg r i 1) = wL (moreR n t r) := rfl
    rw [eL]
    have hm2 : ∀ q ∈ moreR n t r, q.length = n := fun q hq => by
      obtain ⟨i, hi, _, rfl⟩ := more_mem.mp hq
      rw [chg_len (by rw [hrow.len]; exact hi), hrow.len]
    cases ck : keepsR rs r with
    | true =>
      rw [ck] at e0
      simp -implicitDefEqProofs [e0, isHigh, ck]
    | false =>
      rw [ck] at e0
      simp -implicitDefEqProofs [e0]
      rw [lcw_map (fun q => .bool (keepsR rs q)) fun q hq => by simp -implicitDefEqProofs [hk rs n t (tI q) q h.ok (hm2 q hq) (by omega) (.t q)]]
      obtain ⟨bb, hbb⟩ : ∃ bb, ((moreR n t r).all fun q => keepsR rs q) = bb := ⟨_, rfl⟩
      have ea : allD (.list ((moreR n t r).map fun q => PyData.bool (keepsR rs q))) = ret (.bool bb) := by rw [all_b, hbb]
      have el : isHigh n t rs r = bb := by
        unfold isHigh
        rw [ck, hbb, Bool.not_false, Bool.true_and]
      rw [el]
      cases bb <;> simp -implicitDefEqProofs [ea, ha]
def S_law_reached (F : Fn) : Prop := ∀ (n : Nat) (r : List Int) (ls : List (List Int)), r.length = n → (∀ l ∈ ls, l.length = n) → pcall (F [tI r, .list (wL ls)]) = ret (.bool (ls.any fun l => leB n l r))
theorem law_reached_spec {G : Sems} : S_law_reached (runFn G f_law_reached) := by
  intro n r ls hr hl
  simp -implicitDefEqProofs [f_law_reached, ini]
  unfold wL
  rw [for_any tI (fun l => leB n l r) (.bool true) fun l hm => ⟨_, by simp -implicitDefEqProofs; rfl, ?_⟩]
  · cases ls.any fun l => leB n l r <;> simp -implicitDefEqProofs
  · simp -implicitDefEqProofs [tI]
    rw [less_lc fun a b => by by_cases h : a < b <;> simp -implicitDefEqProofs [h]]
    simp -implicitDefEqProofs [eqD_less (p := leB n l r = true) hr (hl l hm) leB_iff.symm]
    cases leB n l r <;> simp -implicitDefEqProofs
def S_law_below (F : Fn) : Prop := ∀ (n : Nat) (r : List Int) (ls : List (List Int)), r.length = n → (∀ l ∈ ls, l.length = n) → pcall (F [tI r, .list (wL ls)]) = ret (.bool (ls.any fun l => leB n r l))
def moreL (r q : List Int) : List D := (List.zip r q).filterMap fun p => if p.2 < p.1 then some (.int 1) else none
theorem more_lc {g : D → M (Option D)} {r q : List Int} (hg : ∀ a b : Int, g (.tuple [.int a, .int b]) = ret (if b < a then some (.int 1) else none)) : lcRun g (List.zipWith (fun a b => PyData.tuple [a, b]) (iL r) (iL q)) = ret (moreL r q) := by
  rw [zip_iL, lc_fm (fun p : Int × Int => if p.2 < p.1 then some (.int 1) else none) fun p _ => hg p.1 p.2]
  rfl
theorem moreL_nil {n : Nat} {r q : List Int} (h1 : r.length = n) (h2 : q.length = n) : moreL r q = [] ↔ ∀ i, i < n → at0 r i ≤ at0 q i := by
  unfold moreL
  rw [List.filterMap_eq_nil_iff]
  constructor
  · intro h i hi
    have := h (at0 r i, at0 q i) (List.mem_iff_getElem.mpr ⟨i, by rw [List.length_zip]; omega, by rw [List.getElem_zip, at0_get (by omega), at0_get (by omega)]⟩)
    refine Int.not_lt.mp fun z => ?_
    rw [if_pos z] at this
    cases this
  · intro h p hp
    obtain ⟨i, i1, i2, rfl⟩ := zip_mem hp
    have := h i (by omega)
    rw [if_neg (by dsimp only; omega)]
theorem Tm_more {r q : List Int} : ∀ d ∈ moreL r q, Tm 0 d := by
  intro d hd
  obtain ⟨p, _, e⟩ := List.mem_filterMap.mp hd
  split at e
  · cases e
    simp
  · cases e
theorem eqD_more {n : Nat} {r q : List Int} (h1 : r.length = n) (h2 : q.length = n) {p : Prop} [Decidable p] (h : (∀ i, i < n → at0 r i ≤ at0 q i) ↔ p) : eqD (.list (moreL r q)) (.list []) = ret (.bool (decide p)) := eqD_p (k := 1) (x := .list (moreL r q)) (y := .list []) Tm_more (by simp) (by omega) (by
    rw [← h, ← moreL_nil h1 h2]
    simp)
theorem law_below_spec {G : Sems} : S_law_below (runFn G f_law_below) := by
  intro n r ls hr hl
  simp -implicitDefEqProofs [f_law_below, ini]
  unfold wL
  rw [for_any tI (fun l => leB n r l) (.bool true) fun l hm => ⟨_, by simp -implicitDefEqProofs; rfl, ?_⟩]
  · cases ls.any fun l => leB n r l <;> simp -implicitDefEqProofs
  · simp -implicitDefEqProofs [tI]
    rw [more_lc fun a b => by by_cases h : b < a <;> simp -implicitDefEqProofs [h]]
    simp -implicitDefEqProofs [eqD_more (p := leB n r l = true) hr (hl l hm) leB_iff.symm]
    cases leB n r l <;> simp -implicitDefEqProofs
end Wk
set_option maxRecDepth 100000
set_option maxHeartbeats 4000000
/-! LS31: subjects that are lacking -/
namespace Wk
open PySem (PyData Str)
/-- the lowest c marks raised -/
def upR (t : Int) (r : List Int) (c : Nat) : List Int := (srt r).drop c ++ List.replicate c t
def lackN (t : Int) (rs : List Rl) (r : List Int) : Nat := ((List.range r.length).find? fun c => keepsR rs (upR t r c)).getD r.length
def setsK : Nat → List (List Int)
  | 0 => [[]]
  | k + 1 => setsK k ++ (setsK k).map fun s => s ++ [(k : Int)]
theorem setsK_len : ∀ k, (setsK k).length = 2 ^ k
  | 0 => rfl
  | k + 1 => by
    unfold setsK
    rw [List.length_append, List.length_map, setsK_len k, Nat.pow_succ]
    omega
theorem setsK_lt : ∀ {k : Nat} {s : List Int}, s ∈ setsK k → s.length ≤ k ∧ ∀ x ∈ s, 0 ≤ x ∧ x < k
  | 0, s, h => by
    simp [setsK] at h
    subst h
    simp
  | k + 1, s, h => by
    unfold setsK at h
    rcases List.mem_append.mp h with h | h
    · obtain ⟨a, b⟩ := setsK_lt h
      exact ⟨by omega, fun x hx => by have := b x hx; omega⟩
    · obtain ⟨q, hq, rfl⟩ := List.mem_map.mp h
      obtain ⟨a, b⟩ := setsK_lt hq
      refine ⟨by simp; omega, fun x hx => ?_⟩
      rcases List.mem_append.mp hx with hx | hx
      · have := b x hx
        omega
      · simp at hx
        omega
def raisedR (t : Int) (r s : List Int) : List Int := (List.range r.length).map fun i => if ((i : Nat) : Int) ∈ s then t else at0 r i
/-- .. of the first k -/
def raiK (t : Int) (r s : List Int) (k : Nat) : List Int := (List.range k).map fun i => if ((i : Nat) : Int) ∈ s then t else at0 r i
theorem raiK_old {t : Int} {r s : List Int} {k : Nat} (h : s ∈ setsK k) : raiK t r s (k + 1) = raiK t r s k ++ [at0 r k] := by
  unfold raiK
  rw [List.range_succ, List.map_append, List.map_singleton, if_neg]
  intro z
  have := (setsK_lt h).2 _ z
  omega
theorem raiK_new {t : Int} {r s : List Int} {k : Nat} (h : s ∈ setsK k) : raiK t r (s ++ [(k : Int)]) (k + 1) = raiK t r s k ++ [t] := by
  unfold raiK
  rw [List.range_succ, List.map_append, List.map_singleton, if_pos (by simp)]
  congr 1
  refine List.map_congr_left fun i hi => ?_
  have hi := List.mem_range.mp hi
  have : (((i : Nat) : Int) ∈ s ++ [(k : Int)]) ↔ ((i : Nat) : Int) ∈ s := by
    simp
    omega
  simp only [this]
theorem take_succ_at {r : List Int} {k : Nat} (h : k < r.length) : r.take (k + 1) = r.take k ++ [at0 r k] := by
  rw [List.take_succ_eq_append_getElem h, at0_get h]
/-- how many are below v -/
def cntV (v : Int) (r : List Int) : Nat := (r.filter fun m => decide (m < v)).length
theorem cntV_app {v : Int} {a b : List Int} : cntV v (a ++ b) = cntV v a + cntV v b := by
  unfold cntV
  rw [List.filter_append, List.length_append]
theorem cnt_le {t v : Int} {r : List Int} : ∀ {k : Nat} {s : List Int}, k ≤ r.length → s ∈ setsK k → cntV v (r.take k) ≤ cntV v (raiK t r s k) + s.length
  | 0, s, _, h => by
    simp [setsK] at h
    subst h
    simp [cntV]
  | k + 1, s, hk, h => by
    unfold setsK at h
    rw [take_succ_at (by omega), cntV_app]
    rcases List.mem_append.mp h with h | h
    · rw [raiK_old h, cntV_app]
      have := cnt_le (t := t) (v := v) (r := r) (by omega) h
      omega
    · obtain ⟨q, hq, rfl⟩ := List.mem_map.mp h
      rw [raiK_new hq, cntV_app]
      have := cnt_le (t := t) (v := v) (r := r) (by omega) hq
      have : cntV v [at0 r k] ≤ 1 := by
        unfold cntV
        exact Nat.le_trans (List.length_filter_le _ _) (by simp)
      simp
      omega
/-- some set raises just a given part -/
theorem set_ex {t : Int} {r : List Int} : ∀ {k : Nat} {A B : List Int}, k ≤ r.length → (r.take k).Perm (A ++ B) → ∃ s ∈ setsK k, s.length = A.length ∧ (raiK t r s k).Perm (B ++ List.replicate A.length t)
  | 0, A, B, _, h => by
    simp at h
    obtain ⟨rfl, rfl⟩ := h
    exact ⟨[], by simp [setsK], rfl, by simp [raiK]⟩
  | k + 1, A, B, hk, h => by
    rw [take_succ_at (by omega)] at h
    have hm : at0 r k ∈ A ++ B := h.mem_iff.mp (by simp)
    rcases List.mem_append.mp hm with hA | hB
    · have pA : A.Perm (at0 r k :: A.erase (at0 r k)) := List.perm_cons_erase hA
      have h2 : (r.take k).Perm (A.erase (at0 r k) ++ B) := by
        refine List.Perm.cons_inv (a := at0 r k) ?_
        exact ((List.perm_append_comm (l₁ := r.take k) (l₂ := [at0 r k])).symm.trans h).trans (pA.append_right B)
      obtain ⟨s, hs, l, p⟩ := set_ex (t := t) (by omega) h2
      have la : A.length = (A.erase (at0 r k)).length + 1 := pA.length_eq
      refine ⟨s ++ [(k : Int)], ?_, by rw [List.length_append, l, la]; rfl, ?_⟩
      · unfold setsK
        exact List.mem_append_right _ (List.mem_map.mpr ⟨s, hs, rfl⟩)
      · rw [raiK_new hs, la, List.replicate_succ']
        rw [← List.append_assoc]
        exact p.append_right [t]
    · have pB : B.Perm (at0 r k :: B.erase (at0 r k)) := List.perm_cons_erase hB
      have h2 : (r.take k).Perm (A ++ B.erase (at0 r k)) := by
        refine List.Perm.cons_inv (a := at0 r k) ?_
        refine ((List.perm_append_comm (l₁ := r.take k) (l₂ := [at0 r k])).symm.trans h).trans ?_
        exact (pB.append_left A).trans (List.perm_middle)
      obtain ⟨s, hs, l, p⟩ := set_ex (t := t) (by omega) h2
      refine ⟨s, ?_, l, ?_⟩
      · unfold setsK
        exact List.mem_append_left _ hs
      · rw [raiK_old hs]
        refine (p.append_right [at0 r k]).trans ?_
        refine List.perm_append_comm.trans ?_
        show ((at0 r k :: B.erase (at0 r k)) ++ List.replicate A.length t).Perm _
        exact pB.symm.append_right _
theorem raisedR_eq {t : Int} {r s : List Int} : raisedR t r s = raiK t r s r.length := rfl
theorem raised_len {t : Int} {r s : List Int} : (raisedR t r s).length = r.length := by
  unfold raisedR
  simp
theorem raised_mk {n : Nat} {t : Int} {r s : List Int} (ht : 0 ≤ t) (hr : Mk n t r) : Mk n t (raisedR t r s) := by
  refine ⟨by rw [raised_len]; exact hr.1, fun m hm => ?_⟩
  obtain ⟨i, hi, rfl⟩ := List.mem_map.mp hm
  split
  · exact ⟨ht, Int.le_refl _⟩
  · exact hr.2 _ (at0_mem (List.mem_range.mp hi))
theorem upR_len {t : Int} {r : List Int} {c : Nat} (h : c ≤ r.length) : (upR t r c).length = r.length := by
  unfold upR
  rw [List.length_append, List.length_drop, List.length_replicate, srt_len]
  omega
theorem upR_mk {n : Nat} {t : Int} {r : List Int} {c : Nat} (ht : 0 ≤ t) (hr : Mk n t r) (h : c ≤ n) : Mk n t (upR t r c) := by
  refine ⟨by rw [upR_len (by rw [hr.1]; exact h)]; exact hr.1, fun m hm => ?_⟩
  rcases List.mem_append.mp hm with hm | hm
  · exact hr.2 m (srt_mem.mp (List.mem_of_mem_drop hm))
  · rw [List.eq_of_mem_replicate hm]
    exact ⟨ht, Int.le_refl _⟩
theorem upR_asc {n : Nat} {t : Int} {r : List Int} {c : Nat} (hr : Mk n t r) : Asc (upR t r c) := by
  unfold upR
  refine List.pairwise_append.mpr ⟨(srt_asc r).sublist (List.drop_sublist _ _), ?_, fun a ha b hb => ?_⟩
  · refine List.pairwise_replicate.mpr (.inr (Int.le_refl _))
  · rw [List.eq_of_mem_replicate hb]
    exact (hr.2 a (srt_mem.mp (List.mem_of_mem_drop ha))).2
/-- the raised set is no better than the lowest raised -/
theorem raised_le {n : Nat} {t : Int} {r s : List Int} (ht : 0 ≤ t) (hr : Mk n t r) (hs : s ∈ setsK n) : PLe (srt (raisedR t r s)) (upR t r s.length) := by
  have hsl := (setsK_lt hs).1
  have hmk := raised_mk (s := s) ht hr
  refine ⟨by rw [srt_len, raised_len, upR_len (by rw [hr.1]; exact hsl)], fun i hi => ?_⟩
  rw [srt_len, raised_len, hr.1] at hi
  have hup : (upR t r s.length).length = n := by rw [upR_len (by rw [hr.1]; exact hsl)]; exact hr.1
  have a := (fails_iff (srt_asc (raisedR t r s)) (by rw [srt_len, raised_len, hr.1]) hi (k := at0 (srt (raisedR t r s)) i)).mpr (Int.le_refl _)
  have a : decide (cntV (at0 (srt (raisedR t r s)) i) (srt (raisedR t r s)) ≤ i) = true := a
  rw [decide_eq_true_eq] at a
  have a2 : cntV (at0 (srt (raisedR t r s)) i) (raisedR t r s) ≤ i := by
    unfold cntV at a ⊢
    rw [((srt_perm (raisedR t r s)).filter _).length_eq] at a
    exact a
  have b := cnt_le (t := t) (v := at0 (srt (raisedR t r s)) i) (r := r) (k := n) (s := s) (by rw [hr.1]; exact Nat.le_refl _) hs
  rw [List.take_of_length_le (by rw [hr.1]; exact Nat.le_refl _)] at b
  rw [raisedR_eq, hr.1] at a2
  have hv : at0 (srt (raisedR t r s)) i ≤ t := (hmk.2 _ (srt_mem.mp (at0_mem (by rw [srt_len, raised_len, hr.1]; exact hi)))).2
  refine (fails_iff (upR_asc hr) hup hi).mp ?_
  show decide (cntV (at0 (srt (raisedR t r s)) i) (upR t r s.length) ≤ i) = true
  rw [decide_eq_true_eq]
  unfold upR
  rw [cntV_app]
  have z : cntV (at0 (srt (raisedR t r s)) i) (List.replicate s.length t) = 0 := by
    unfold cntV
    rw [List.length_eq_zero_iff, List.filter_eq_nil_iff]
    intro m hm
    rw [List.eq_of_mem_replicate hm]
    simp
    exact hv
  have e : cntV (at0 (srt (raisedR t r s)) i) r = cntV (at0 (srt (raisedR t r s)) i) ((srt r).take s.length) + cntV (at0 (srt (raisedR t r s)) i) ((srt r).drop s.length) := by
    rw [← cntV_app, List.take_append_drop]
    unfold cntV
    rw [((srt_perm r).filter _).length_eq]
  rw [raisedR_eq, hr.1] at *
  -- those that were dropped are the lowest
  by_cases hd : cntV (at0 (srt (raiK t r s n)) i) ((srt r).drop s.length) = 0
  · omega
  · have full : cntV (at0 (srt (raiK t r s n)) i) ((srt r).take s.length) = s.length := by
      have hne : ∃ m ∈ (srt r).drop s.length, m < at0 (srt (raiK t r s n)) i := by
        refine Classical.byContradiction fun w => hd ?_
        unfold cntV
        rw [List.length_eq_zero_iff, List.filter_eq_nil_iff]
        intro m hm
        simp
        exact Int.not_lt.mp fun q => w ⟨m, hm, q⟩
      obtain ⟨m, hm, hlt⟩ := hne
      have hp : ∀ x ∈ (srt r).take s.length, x ≤ m := by
        have := srt_asc r
        unfold Asc at this
        rw [← List.take_append_drop s.length (srt r)] at this
        exact fun x hx => (List.pairwise_append.mp this).2.2 x hx m hm
      unfold cntV
      rw [List.filter_eq_self.mpr, List.length_take, srt_len, hr.1]
      · omega
      · intro x hx
        have := hp x hx
        simp
        omega
    omega
theorem lack_le {t : Int} {rs : List Rl} {r : List Int} {c : Nat} (hc : c ≤ r.length) (h : c < r.length → keepsR rs (upR t r c) = true) : lackN t rs r ≤ c := by
  unfold lackN
  cases e : (List.range r.length).find? fun c => keepsR rs (upR t r c) with
  | none =>
    by_cases hlt : c < r.length
    · have := List.find?_eq_none.mp e c (List.mem_range.mpr hlt)
      exact absurd (h hlt) this
    · simp
      omega
  | some d =>
    simp only [Option.getD_some]
    obtain ⟨h1, as, bs, h2, h3⟩ := List.find?_eq_some_iff_append.mp e
    refine Classical.byContradiction fun w => ?_
    have hd : d < r.length := List.mem_range.mp (by rw [h2]; simp)
    have hcd : c < d := by omega
    have hca : c ∈ as := by
      have hl : as = List.range d := by
        have e1 : as.length = d := by
          have : (List.range r.length)[as.length]? = some d := by rw [h2]; simp
          rw [List.getElem?_eq_some_iff] at this
          obtain ⟨_, q⟩ := this
          simpa using q
        have : (List.range r.length).take d = as := by rw [h2, ← e1]; simp
        rw [← this, List.take_range, Nat.min_eq_left (by omega)]
      rw [hl]
      exact List.mem_range.mpr hcd
    have := h3 c hca
    rw [h (by omega)] at this
    cases this
theorem lack_keeps {n : Nat} {t : Int} {rs : List Rl} {r w : List Int} (ho : okAll n t rs) (hr : Mk n t r) (hw : IsRow n t w) (hk : keepsR rs w = true) : lackN t rs r ≤ n ∧ keepsR rs (upR t r (lackN t rs r)) = true := by
  unfold lackN
  cases e : (List.range r.length).find? fun c => keepsR rs (upR t r c) with
  | none =>
    simp only [Option.getD_none]
    refine ⟨by rw [hr.1]; exact Nat.le_refl _, ?_⟩
    unfold upR
    rw [List.drop_of_length_le (by rw [srt_len]; exact Nat.le_refl _), List.nil_append]
    refine keeps_mono ho hw.len ⟨by rw [hw.len, List.length_replicate, hr.1], fun i hi => ?_⟩ hk
    rw [rep_at (by rw [hr.1, ← hw.len]; exact hi)]
    exact hw.hi _ (at0_mem hi)
  | some d =>
    simp only [Option.getD_some]
    have := List.mem_range.mp (List.mem_of_find?_eq_some e)
    exact ⟨by rw [hr.1] at this; omega, by simpa using List.find?_some e⟩
/-- the sizes of the sets that help -/
def helpS (n : Nat) (t : Int) (rs : List Rl) (r : List Int) : List (List Int) := (setsK n).filter fun s => keepsR rs (raisedR t r s)
theorem help_some {n : Nat} {t : Int} {rs : List Rl} {r w : List Int} (ht : 0 ≤ t) (ho : okAll n t rs) (hr : Mk n t r) (hw : IsRow n t w) (hk : keepsR rs w = true) : (helpS n t rs r).map (fun s => (s.length : Int)) ≠ [] ∧ minL ((helpS n t rs r).map fun s => (s.length : Int)) = lackN t rs r := by
  obtain ⟨l1, l2⟩ := lack_keeps ho hr hw hk
  obtain ⟨s, hs, hl, hp⟩ := set_ex (t := t) (r := r) (k := n) (A := (srt r).take (lackN t rs r)) (B := (srt r).drop (lackN t rs r)) (by rw [hr.1]; exact Nat.le_refl _) (by
    rw [List.take_of_length_le (by rw [hr.1]; exact Nat.le_refl _), List.take_append_drop]
    exact (srt_perm r).symm)
  have hA : ((srt r).take (lackN t rs r)).length = lackN t rs r := by rw [List.length_take, srt_len, hr.1]; omega
  rw [hA] at hl hp
  have hm : (lackN t rs r : Int) ∈ (helpS n t rs r).map fun s => (s.length : Int) := by
    refine List.mem_map.mpr ⟨s, List.mem_filter.mpr ⟨hs, ?_⟩, by rw [hl]⟩
    have : (raisedR t r s).Perm (upR t r (lackN t rs r)) := by
      rw [raisedR_eq, hr.1]
      exact hp
    rw [keepsR_perm this]
    exact l2
  refine ⟨List.ne_nil_of_mem hm, minL_eq hm fun x hx => ?_⟩
  obtain ⟨q, hq, rfl⟩ := List.mem_map.mp hx
  obtain ⟨h1, h2⟩ := List.mem_filter.mp hq
  have h3 := setsK_lt h1
  have := raised_le ht hr h1
  have h4 : keepsR rs (upR t r q.length) = true := keeps_mono ho (by rw [srt_len, raised_len, hr.1]) this (by rw [keepsR_srt]; exact h2)
  have := lack_le (t := t) (rs := rs) (r := r) (c := q.length) (by rw [hr.1]; exact h3.1) fun _ => h4
  omega
theorem help_none {n : Nat} {t : Int} {rs : List Rl} {r : List Int} (ht : 0 ≤ t) (hr : Mk n t r) (h : ∀ w, IsRow n t w → keepsR rs w = false) : helpS n t rs r = [] := by
  unfold helpS
  rw [List.filter_eq_nil_iff]
  intro s hs z
  have := h _ (raised_mk (s := s) ht hr).srt
  rw [keepsR_srt, z] at this
  cases this
end Wk
set_option maxRecDepth 100000
set_option maxHeartbeats 4000000
/-! LS32: the defs of subjects that are lacking -/
namespace Wk
open PySem (PyData Str)
def lackD (n : Nat) (t : Int) (rs : List Rl) (r : List Int) : D := match weakO n t rs with
  | some _ => .int (lackN t rs r : Nat)
  | none => .none
def S_subjects_lacking (F : Fn) : Prop := ∀ (n : Nat) (t : Int) (rs : List Rl) (r : List Int), Sch n t rs → Mk n t r → pcall (F [schD n t rs, tI r]) = ret (lackD n t rs r)
theorem find_before {p : Nat → Bool} {n c : Nat} (hc : c < n) (h : ∀ j, j < c → p j = false) (hp : p c = true) : ((List.range n).find? p).getD n = c := by
  cases e : (List.range n).find? p with
  | none =>
    have := List.find?_eq_none.mp e c (List.mem_range.mpr hc)
    exact absurd hp this
  | some d =>
    show d = c
    have hd := List.find?_some e
    obtain ⟨h1, as, bs, h2, h3⟩ := List.find?_eq_some_iff_append.mp e
    rcases Nat.lt_trichotomy d c with w | w | w
    · rw [h d w] at hd
      cases hd
    · exact w
    · have hl : as = List.range d := by
        have hdn : d < n := List.mem_range.mp (by rw [h2]; simp)
        have e1 : as.length = d := by
          have : (List.range n)[as.length]? = some d := by rw [h2]; simp
          rw [List.getElem?_eq_some_iff] at this
          obtain ⟨_, q⟩ := this
          simpa using q
        have : (List.range n).take d = as := by rw [h2, ← e1]; simp
        rw [← this, List.take_range, Nat.min_eq_left (by omega)]
      have := h3 c (by rw [hl]; exact List.mem_range.mpr w)
      rw [hp] at this
      cases this
theorem find_all {p : Nat → Bool} {n : Nat} (h : ∀ j, j < n → p j = false) : ((List.range n).find? p).getD n = n := by
  cases e : (List.range n).find? p with
  | none => rfl
  | some d =>
    have hd := List.find?_some e
    have := h d (List.mem_range.mp (List.mem_of_find?_eq_some e))
    rw [hd] at this
    cases this
theorem up_full {n : Nat} {t : Int} {rs : List Rl} {r w : List Int} (ho : okAll n t rs) (hr : Mk n t r) (hw : IsRow n t w) (hk : keepsR rs w = true) : keepsR rs (upR t r n) = true := by
  unfold upR
  rw [List.drop_of_length_le (by rw [srt_len, hr.1]; exact Nat.le_refl _), List.nil_append]
  refine keeps_mono ho hw.len ⟨by rw [hw.len, List.length_replicate], fun i hi => ?_⟩ hk
  rw [rep_at (by rw [← hw.len]; exact hi)]
  exact hw.hi _ (at0_mem hi)
theorem subjects_lacking_spec {G : Sems} {c_check_result c_weakest_row c_keeps : Nat} (hc : S_check_result (G c_check_result)) (hw : S_weakest_row (G c_weakest_row)) (hk : S_keeps (G c_keeps)) : S_subjects_lacking (runFn G (f_subjects_lacking c_check_result c_weakest_row c_keeps)) := by
  intro n t rs r h hr
  have n1 := h.n1
  have n2 := h.n2
  have t1 := h.t1
  have t2 := h.t2
  have e0 := hw n t rs n1 (by omega) t1 (by omega) h.ok
  unfold lackD
  cases ew : weakO n t rs with
  | none =>
    rw [ew] at e0
    simp -implicitDefEqProofs [f_subjects_lacking, ini, chk_res hc h hr, e0, rowD]
  | some w =>
    rw [ew] at e0
    have hwk := weakO_is h.ok ew
    have hrow : IsRow n t w := hwk.1
    have hkw : keepsR rs w = true := hwk.2.1
    refine pcall_of ?_
    simp -implicitDefEqProofs [f_subjects_lacking, ini, chk_res hc h hr, e0, rowD, isNone]
    refine wp_mono (wp_whl (Q := fun f s' => f = .nx [.im (schD n t rs), .un, .im (.list (iL (srt r))), .im (.int (lackN t rs r : Nat))]) (fun k env _ => ∃ c : Nat, c + k = n + 1 ∧ c ≤ n ∧ env = [.im (schD n t rs), .un, .im (.list (iL (srt r))), .im (.int (c : Nat))] ∧ ∀ j, j < c → keepsR rs (upR t r j) = false) (n + 1) ⟨0, by omega, by omega, rfl, fun j hj => by omega⟩ ?_) ?_
    · rintro k env s' ⟨c, hck, hcn, rfl, hall⟩
      have e1 : PyData.list ((iL (srt r)).drop c ++ List.replicate c (PyData.int t)) = .list (iL (upR t r c)) := by
        unfold upR iL
        simp
      have hlen : (upR t r c).length = n := by rw [upR_len (by rw [hr.1]; exact hcn), hr.1]
      have e2 := hk rs n t (.list (iL (upR t r c))) (upR t r c) h.ok hlen (by omega) (.l _)
      simp -implicitDefEqProofs [cut_from (i := (c : Int)) (by omega), repOk_of (n := 1) (k := (c : Int)) (by omega) (by omega) (by omega)]
      rw [if_pos (sizeOk_of (by have := hr.1; omega))]
      have e1' : iL ((srt r).drop c) ++ List.replicate c (PyData.int t) = iL (upR t r c) := by
        unfold upR iL
        simp
      simp -implicitDefEqProofs [e1']
      cases hkc : keepsR rs (upR t r c) with
      | true =>
        rw [hkc] at e2
        simp -implicitDefEqProofs [e2]
        by_cases hlt : c < n
        · have : lackN t rs r = c := by
            unfold lackN
            rw [hr.1]
            exact find_before hlt hall hkc
          rw [this]
        · have : c = n := by omega
          subst this
          unfold lackN
          rw [hr.1, find_all hall]
      | false =>
        rw [hkc] at e2
        simp -implicitDefEqProofs [e2]
        have : c < n := by
          refine Classical.byContradiction fun z => ?_
          have : c = n := by omega
          subst this
          rw [up_full h.ok hr hrow hkw] at hkc
          cases hkc
        exact ⟨k - 1, by omega, c + 1, by omega, by omega, by simp, fun j hj => by
          by_cases hjc : j = c
          · subst hjc
            exact hkc
          · exact hall j (by omega)⟩
    · rintro f s' rfl
      simp -implicitDefEqProofs
/-- a loop that picks what it walks -/
theorem for_pick {α : Type} {body : Env → M Fl} {b : D → Env → Option Env} {E : List α → Env} (f : α → D) (p : α → Bool) : ∀ {xs acc : List α}, acc.length + xs.length ≤ 16000000 → (∀ x ∈ xs, ∀ a : List α, a.length < 16777216 → ∃ e1, b (f x) (E a) = some e1 ∧ body e1 = ret (.nx (E (if p x = true then a ++ [x] else a)))) → forRun body b (xs.map f) (E acc) = ret (.nx (E (acc ++ xs.filter p)))
  | [], acc, _, _ => by
    simp [forRun]
  | x :: xs, acc, hl, h => by
    simp only [List.length_cons] at hl
    obtain ⟨e1, h1, h2⟩ := h x List.mem_cons_self acc (by omega)
    rw [List.map_cons]
    unfold forRun
    rw [h1]
    dsimp only
    rw [h2, bnd_ret]
    dsimp only
    have hle : (if p x = true then acc ++ [x] else acc).length ≤ acc.length + 1 := by
      cases p x <;> simp
    rw [for_pick f p (by omega) fun y hy => h y (List.mem_cons_of_mem _ hy), List.filter_cons]
    cases p x <;> simp
def riseR (t : Int) (r : List Int) (i : Nat) : List Int := r.take i ++ t :: r.drop (i + 1)
def helpL (n : Nat) (t : Int) (rs : List Rl) (r : List Int) : List Nat := (List.range n).filter fun i => keepsR rs (riseR t r i)
/-- indices as data -/
def nL (l : List Nat) : List D := l.map fun i => PyData.int ((i : Nat) : Int)
def S_can_help (F : Fn) : Prop := ∀ (n : Nat) (t : Int) (rs : List Rl) (r : List Int), Sch n t rs → Mk n t r → pcall (F [schD n t rs, tI r]) = ret (.list (nL (helpL n t rs r)))
theorem riseR_len {t : Int} {r : List Int} {i : Nat} (h : i < r.length) : (riseR t r i).length = r.length := by
  unfold riseR
  simp
  omega
theorem can_help_spec {G : Sems} {c_check_result c_keeps : Nat} (hc : S_check_result (G c_check_result)) (hk : S_keeps (G c_keeps)) : S_can_help (runFn G (f_can_help c_check_result c_keeps)) := by
  intro n t rs r h hr
  have n2 := h.n2
  have hr1 := hr.1
  simp -implicitDefEqProofs [f_can_help, ini, chk_res hc h hr, hr1, rngOk_of (a := 0) (b := n) (by omega) (by omega) (by omega) (by omega), rngL_nat]
  refine (congrArg (fun m => pcall (bnd (bnd m _) _)) (for_pick (E := fun a => [.im (schD n t rs), .im (tI r), .ow (nL a), .un]) (fun i : Nat => PyData.int (i : Int)) (fun i => keepsR rs (riseR t r i)) (xs := List.range n) (acc := []) (by simp; omega) fun i hi a ha => ⟨_, by simp -implicitDefEqProofs; rfl, ?_⟩)).trans ?_
  · have hi := List.mem_range.mp hi
    have hir : i < r.length := by omega
    have e := hk rs n t (tI (riseR t r i)) (riseR t r i) h.ok (by rw [riseR_len hir, hr1]) (by omega) (.t _)
    simp -implicitDefEqProofs [cut_to (i := (i : Int)) (by omega), tI]
    rw [if_pos (sizeOk_of (by rw [hr1]; omega))]
    simp -implicitDefEqProofs [cut_from (i := (i : Int) + 1) (by omega), show ((i : Int) + 1).toNat = i + 1 by omega]
    rw [if_pos (sizeOk_of (by rw [hr1]; omega))]
    have e3 : iL (r.take i) ++ PyData.int t :: iL (r.drop (i + 1)) = iL (riseR t r i) := by
      unfold riseR iL
      simp
    have e4 : iL (r.take i ++ t :: r.drop (i + 1)) = iL (riseR t r i) := rfl
    have la : (nL a).length = a.length := by
      unfold nL
      simp
    simp -implicitDefEqProofs [e3, e4]
    cases hkp : keepsR rs (riseR t r i) <;> rw [hkp] at e <;> simp -implicitDefEqProofs [tI] at e <;> simp -implicitDefEqProofs [e, la, ha]
    unfold nL
    simp
  · simp -implicitDefEqProofs
    rfl
def S_law_raised (F : Fn) : Prop := ∀ (r s : List Int) (t : Int), r.length ≤ 99 → pcall (F [tI r, tI s, .int t]) = ret (tI (raisedR t r s))
theorem law_raised_spec {G : Sems} : S_law_raised (runFn G f_law_raised) := by
  intro r s t h
  simp -implicitDefEqProofs [f_law_raised, ini, tI]
  rw [enum_iL, lc_map (fun i : Nat => PyData.int (if ((i : Nat) : Int) ∈ s then t else at0 r i)) fun i hi => ?_]
  · simp -implicitDefEqProofs
    unfold raisedR iL
    rw [List.map_map]
    rfl
  · have hi := List.mem_range.mp hi
    have e : inD (PyData.int (i : Int)) (.tuple (iL s)) = ret (.bool (decide (((i : Nat) : Int) ∈ s))) := by
      unfold inD
      dsimp only
      rw [Tm.shaped (k := 0) (d := .int (i : Int)) (by simp) (by omega), Tm.shaped (k := 1) (d := .tuple (iL s)) (Tm_iL (k := 0)) (by omega)]
      have : ((iL s).any fun z => PyData.eqv z (.int (i : Int))) = decide (((i : Nat) : Int) ∈ s) := by
        rw [Bool.eq_iff_iff, any_eqv (k := 0) (by simp) (Tm_iL (k := 0)), decide_eq_true_eq]
        simp [iL]
      rw [this]
      rfl
    rw [getD_iL hi]
    simp -implicitDefEqProofs [e]
    by_cases hs : ((i : Nat) : Int) ∈ s <;> simp -implicitDefEqProofs [hs]
end Wk
set_option maxRecDepth 100000
set_option maxHeartbeats 4000000
/-! LS34: needless rules -/
namespace Wk
open PySem (PyData Str)
/-- without the rule at i -/
def outR (rs : List Rl) (i : Nat) : List Rl := rs.take i ++ rs.drop (i + 1)
def S_without (F : Fn) : Prop := ∀ (n : Nat) (t : Int) (rs : List Rl) (i : Nat), rs.length ≤ 1000 → i < rs.length → pcall (F [schD n t rs, .int (i : Nat)]) = ret (schD n t (outR rs i))
theorem without_spec {G : Sems} : S_without (runFn G f_without) := by
  intro n t rs i h hi
  simp -implicitDefEqProofs [f_without, ini, schD, rsD, cut_to (i := 2) (by omega), cut_to (i := (i : Int)) (by omega)]
  rw [if_pos (sizeOk_of (by simp [cut_from (i := (i : Int) + 1) (by omega)]; omega))]
  simp -implicitDefEqProofs [cut_from (i := (i : Int) + 1) (by omega), show ((i : Int) + 1).toNat = i + 1 by omega, sizeOk_of (n := 3) (by omega)]
  rfl
theorem ok_out {n : Nat} {t : Int} {rs : List Rl} {i : Nat} (h : okAll n t rs) : okAll n t (outR rs i) := fun x hx => by
  rcases List.mem_append.mp hx with hx | hx
  · exact h x (List.mem_of_mem_take hx)
  · exact h x (List.mem_of_mem_drop hx)
theorem keeps_out {rs : List Rl} {i : Nat} (hi : i < rs.length) {r : List Int} : keepsR rs r = (keepsR (outR rs i) r && holdsR rs[i] r) := by
  have e : rs = rs.take i ++ rs[i] :: rs.drop (i + 1) := by
    rw [← List.drop_eq_getElem_cons hi, List.take_append_drop]
  unfold outR
  rw [keeps_app]
  conv => lhs; rw [e, keeps_app]
  unfold keepsR
  rw [List.all_cons]
  cases (rs.take i).all (fun x => holdsR x r) <;> cases holdsR rs[i] r <;> simp
theorem out_pass {n : Nat} {t : Int} {rs : List Rl} {i : Nat} (hi : i < rs.length) : passR n t (outR rs i) = passR n t rs ↔ impl n t (outR rs i) rs[i] = true := by
  rw [impl_iff]
  constructor
  · intro h r hr hk
    have : r ∈ passR n t rs := by rw [← h]; exact pass_mem.mpr ⟨hr, hk⟩
    have := (pass_mem.mp this).2
    rw [keeps_out hi, hk, Bool.true_and] at this
    exact this
  · intro h
    refine List.filter_congr fun r hr => ?_
    rw [keeps_out hi (r := r)]
    cases hk : keepsR (outR rs i) r with
    | false => rfl
    | true => rw [h r (rowsL_mem.mp hr) hk, Bool.true_and]
def needL (n : Nat) (t : Int) (rs : List Rl) : List Nat := (List.range rs.length).filter fun i => (rs[i]?.map fun x => impl n t (outR rs i) x).getD false
theorem needL_at {n : Nat} {t : Int} {rs : List Rl} {i : Nat} (hi : i < rs.length) : (rs[i]?.map fun x => impl n t (outR rs i) x).getD false = impl n t (outR rs i) rs[i] := by
  rw [List.getElem?_eq_getElem hi]
  rfl
def S_needless (F : Fn) : Prop := ∀ (n : Nat) (t : Int) (rs : List Rl), Sch n t rs → pcall (F [schD n t rs]) = ret (.list (nL (needL n t rs)))
theorem lc_pickN {g : D → M (Option D)} {h : Nat → D} (p : Nat → Bool) {l : List Nat} (e : ∀ i ∈ l, g (h i) = ret (if p i = true then some (.int ((i : Nat) : Int)) else none)) : lcRun g (l.map h) = ret (nL (l.filter p)) := by
  rw [lc_fm (fun i => if p i = true then some (.int ((i : Nat) : Int)) else none) e, fm_if]
  rfl
theorem needless_spec {G : Sems} {c_check_scheme c_is_implied c_without : Nat} (hc : S_check_scheme (G c_check_scheme)) (hi : S_is_implied (G c_is_implied)) (hw : S_without (G c_without)) : S_needless (runFn G (f_needless c_check_scheme c_is_implied c_without)) := by
  intro n t rs h
  have many := h.many
  have n1 := h.n1
  have n2 := h.n2
  have t1 := h.t1
  have t2 := h.t2
  simp -implicitDefEqProofs [f_needless, ini, chk_sch hc h]
  rw [enum_rL, lc_pickN (fun i => (rs[i]?.map fun x => impl n t (outR rs i) x).getD false) fun i him => ?_]
  · simp -implicitDefEqProofs
    rfl
  · have hil := List.mem_range.mp him
    rw [getD_rL hil, needL_at hil]
    have e := hi n t (outR rs i) rs[i] n1 (by omega) t1 (by omega) (ok_out h.ok) (h.ok _ (List.getElem_mem hil))
    cases hb : impl n t (outR rs i) rs[i] <;> rw [hb] at e <;> simp -implicitDefEqProofs [hw n t rs i (by omega) hil, e]
def S_law_parts (F : Fn) : Prop := ∀ rs : List Rl, rs.length ≤ 12 → pcall (F [rsD rs]) = ret (.list (pL (partsL rs)))
theorem law_parts_spec {G : Sems} : S_law_parts (runFn G f_law_parts) := by
  intro rs hl
  have hp : 2 ^ rs.length ≤ 2 ^ 12 := Nat.pow_le_pow_right (by omega) hl
  simp -implicitDefEqProofs [f_law_parts, ini, rsD]
  have lp := parts_loop (body := execs G (.cons (.set 1 (.bin .add (.var 1) (.lc (.nm 3) (.seq (.var 1)) (.nil) (.bin .add (.var 3) (.tup (.cons (.var 2) (.nil)))) [3]))) (.wipe [2] .nil))) (b := bindT (.nm 2)) (E := fun ps => [.im (rsD rs), .im (.list (pL ps)), .un, .un]) (l := rs) (ps := [[]]) (by
    simp
    omega) (by simp; omega) (fun x hx ps h1 h2 => ⟨_, by simp -implicitDefEqProofs; rfl, by
      simp -implicitDefEqProofs
      unfold pL
      rw [lc_map (fun p => rsD (p ++ [x])) fun p hp => by
        simp -implicitDefEqProofs [rsD, rL, sizeOk_of (n := p.length + 1) (by have := h2 p hp; omega)]]
      have e : (ps.map fun p => rsD (p ++ [x])) = (ps.map fun p => p ++ [x]).map rsD := by
        rw [List.map_map]
        rfl
      simp -implicitDefEqProofs [sizeOk_of (n := ps.length + ps.length) (by omega), e]⟩)
  have lp : forRun (execs G (.cons (.set 1 (.bin .add (.var 1) (.lc (.nm 3) (.seq (.var 1)) (.nil) (.bin .add (.var 3) (.tup (.cons (.var 2) (.nil)))) [3]))) (.wipe [2] .nil))) (bindT (.nm 2)) (rL rs) [.im (.tuple (rL rs)), .im (.list [PyData.tuple []]), .un, .un] = _ := lp
  simp -implicitDefEqProofs [lp]
end Wk
set_option maxRecDepth 100000
set_option maxHeartbeats 4000000
/-! LS35: shortest rules -/
namespace Wk
open PySem (PyData Str)
def keyR : Rl → Bool × Nat
  | .best c _ => (true, c)
  | .fails c _ => (false, c)
theorem nodup_sub {α : Type} [DecidableEq α] : ∀ {l m : List α}, l.Nodup → (∀ x ∈ l, x ∈ m) → l.length ≤ m.length
  | [], _, _, _ => Nat.zero_le _
  | x :: l, m, h, hs => by
    obtain ⟨h1, h2⟩ := List.nodup_cons.mp h
    have hx := hs x List.mem_cons_self
    have := nodup_sub (m := m.erase x) h2 fun y hy => by
      refine (List.mem_erase_of_ne (fun e : y = x => h1 (by rw [← e]; exact hy))).mpr (hs y (List.mem_cons_of_mem _ hy))
    rw [List.length_erase_of_mem hx] at this
    have := List.length_pos_of_mem hx
    simp only [List.length_cons]
    omega
theorem rulesF_keys {f : List Int × List Int} : ((rulesF f).map keyR).Nodup := by
  unfold rulesF
  rw [List.map_append, List.map_map, List.map_map]
  refine List.nodup_append.mpr ⟨?_, ?_, fun a ha b hb => ?_⟩
  · refine List.Pairwise.map _ (fun x y hxy z => ?_) (List.nodup_range (n := f.1.length))
    have z : (true, x + 1) = (true, y + 1) := z
    injection z with _ z
    exact hxy (by omega)
  · refine List.Pairwise.map _ (fun x y hxy z => ?_) (List.nodup_range (n := f.2.length))
    have z : (false, x) = (false, y) := z
    injection z with _ z
    exact hxy z
  · obtain ⟨i, _, rfl⟩ := List.mem_map.mp ha
    obtain ⟨j, _, rfl⟩ := List.mem_map.mp hb
    exact fun z => nomatch z
/-- the canonical rules of the kinds that occur -/
def canR (f : List Int × List Int) (q : List Rl) : List Rl := (rulesF f).filter fun x => (q.map keyR).contains (keyR x)
theorem canR_len {f : List Int × List Int} {q : List Rl} : (canR f q).length ≤ q.length := by
  have h := nodup_sub (l := (canR f q).map keyR) (m := q.map keyR) ((rulesF_keys (f := f)).sublist ((List.filter_sublist).map _)) fun x hx => by
    obtain ⟨y, hy, rfl⟩ := List.mem_map.mp hx
    have := (List.mem_filter.mp hy).2
    simpa using this
  rw [List.length_map, List.length_map] at h
  exact h
theorem low_count {a b : Int} (h : a ≤ b) (r : List Int) : (r.filter fun m => decide (m < a)).length ≤ (r.filter fun m => decide (m < b)).length := by
  induction r with
  | nil => exact Nat.le_refl _
  | cons x r ih =>
    rw [List.filter_cons, List.filter_cons]
    by_cases hx : x < a
    · rw [if_pos (by simpa using hx), if_pos (by simp; omega)]
      simp
      exact ih
    · rw [if_neg (by simpa using hx)]
      split
      · simp
        omega
      · exact ih
theorem canR_form {n : Nat} {t : Int} {rs q : List Rl} {f : List Int × List Int} (hn : n ≤ 6) (t1 : 1 ≤ t) (t2 : t ≤ 12) (ho : okAll n t rs) (hf : formO n t rs = some f) (hq : okAll n t q) (hqf : formO n t q = formO n t rs) : okAll n t (canR f q) ∧ formO n t (canR f q) = some f := by
  have g := good_form ho hf
  have okF := rulesF_ok g hn t1 t2
  have okC : okAll n t (canR f q) := fun x hx => okF x (List.mem_filter.mp hx).1
  refine ⟨okC, ?_⟩
  rw [← hf]
  refine (form_pass okC ho).mp ?_
  have hp := (form_pass hq ho).mpr hqf
  have hne : passR n t rs ≠ [] := fun z => by rw [(formO_none ho).mpr z] at hf; cases hf
  obtain ⟨w, hw⟩ := weakO_some ho hne
  rw [formO_some ho hw] at hf
  cases hf
  refine List.filter_congr fun r hr => ?_
  have hr := rowsL_mem.mp hr
  rw [Bool.eq_iff_iff]
  constructor
  · intro hk
    have hkq : keepsR q r = true := by
      unfold keepsR at hk ⊢
      rw [List.all_eq_true] at hk ⊢
      intro y hy
      have iy : impl n t rs y = true := impl_iff.mpr fun z hz hkz => by
        have : z ∈ passR n t q := by rw [hp]; exact pass_mem.mpr ⟨hz, hkz⟩
        exact List.all_eq_true.mp (pass_mem.mp this).2 y hy
      have oy := hq y hy
      cases y with
      | best c k =>
        have oc : 1 ≤ c ∧ c ≤ n ∧ 0 ≤ k ∧ k ≤ 72 := oy
        rw [impl_best ho hw oc.2.1] at iy
        have iy : decide (k ≤ bestSum c w) = true := iy
        rw [decide_eq_true_eq] at iy
        have hx : Rl.best c (bestSum c w) ∈ canR (sumsL w, marksL n t rs) q := by
          refine List.mem_filter.mpr ⟨?_, ?_⟩
          · unfold rulesF
            refine List.mem_append_left _ (List.mem_map.mpr ⟨c - 1, List.mem_range.mpr ?_, ?_⟩)
            · have := g.l1
              show c - 1 < (sumsL w).length
              have e : (sumsL w).length = n := this
              omega
            · have e : (sumsL w).length = n := g.l1
              have e2 : w.length = n := by rw [← sums_len (r := w)]; exact e
              show Rl.best (c - 1 + 1) (at0 (sumsL w) (c - 1)) = _
              rw [sums_at (by omega), show c - 1 + 1 = c by omega]
          · simp only [List.contains_iff_mem]
            exact List.mem_map.mpr ⟨_, hy, rfl⟩
        have h1 : decide (bestSum c w ≤ bestSum c r) = true := hk _ hx
        rw [decide_eq_true_eq] at h1
        show decide (k ≤ bestSum c r) = true
        rw [decide_eq_true_eq]
        omega
      | fails c k =>
        have oc : c < n ∧ 0 ≤ k ∧ k ≤ t := oy
        rw [impl_fails ho hw oc.1, decide_eq_true_eq] at iy
        have hx : Rl.fails c (leastM n t rs c) ∈ canR (sumsL w, marksL n t rs) q := by
          refine List.mem_filter.mpr ⟨?_, ?_⟩
          · unfold rulesF
            refine List.mem_append_right _ (List.mem_map.mpr ⟨c, List.mem_range.mpr ?_, ?_⟩)
            · have e : (marksL n t rs).length = n := g.l2
              show c < (marksL n t rs).length
              omega
            · show Rl.fails c (at0 (marksL n t rs) c) = _
              have ma : at0 (marksL n t rs) c = leastM n t rs c := range_at oc.1
              rw [ma]
          · simp only [List.contains_iff_mem]
            exact List.mem_map.mpr ⟨_, hy, rfl⟩
        have h1 : decide ((r.filter fun m => decide (m < leastM n t rs c)).length ≤ c) = true := hk _ hx
        rw [decide_eq_true_eq] at h1
        show decide ((r.filter fun m => decide (m < k)).length ≤ c) = true
        rw [decide_eq_true_eq]
        exact Nat.le_trans (low_count iy r) h1
    have : r ∈ passR n t rs := by rw [← hp]; exact pass_mem.mpr ⟨hr, hkq⟩
    exact (pass_mem.mp this).2
  · intro hk
    have hF := formO_some ho hw
    have : keepsR (rulesF (sumsL w, marksL n t rs)) r = true := by
      rw [rulesF_keeps g.l1 g.l2 hr, ← form_keeps ho hF hr]
      exact hk
    unfold keepsR at this ⊢
    rw [List.all_eq_true] at this ⊢
    exact fun x hx => this x (List.mem_filter.mp hx).1
/-! ### the first of the least -/
def shortG (n : Nat) (t : Int) (f : List Int × List Int) (m : Nat) : Option (List Rl) := (partsL (rulesF f)).findSome? fun p => if decide (p.length = m) && decide (formO n t p = some f) then some p else none
def shortF (n : Nat) (t : Int) (f : List Int × List Int) : List Rl := ((List.range (partsL (rulesF f)).length).findSome? (shortG n t f)).getD (rulesF f)
def shortL (n : Nat) (t : Int) (rs : List Rl) : List Rl := match formO n t rs with
  | none => [.best 1 72]
  | some f => shortF n t f
theorem shortG_some {n : Nat} {t : Int} {f : List Int × List Int} {m : Nat} {p : List Rl} (h : shortG n t f m = some p) : p ∈ partsL (rulesF f) ∧ p.length = m ∧ formO n t p = some f := by
  unfold shortG at h
  obtain ⟨q, hq, e⟩ := List.exists_of_findSome?_eq_some h
  by_cases hc : (decide (q.length = m) && decide (formO n t q = some f)) = true
  · rw [if_pos hc] at e
    cases e
    simp only [Bool.and_eq_true, decide_eq_true_eq] at hc
    exact ⟨hq, hc.1, hc.2⟩
  · rw [if_neg hc] at e
    cases e
theorem shortG_none {n : Nat} {t : Int} {f : List Int × List Int} {m : Nat} (h : shortG n t f m = none) : ∀ p ∈ partsL (rulesF f), p.length = m → formO n t p ≠ some f := fun p hp e1 e2 => by
  have := List.findSome?_eq_none_iff.mp h p hp
  rw [if_pos (by simp [e1, e2])] at this
  cases this
theorem range_first {α : Type} {g : Nat → Option α} {N : Nat} {x : α} (h : (List.range N).findSome? g = some x) : ∃ m, m < N ∧ g m = some x ∧ ∀ j, j < m → g j = none := by
  obtain ⟨as, m, bs, e1, e2, e3⟩ := List.findSome?_eq_some_iff.mp h
  have hm : m < N := List.mem_range.mp (by rw [e1]; simp)
  refine ⟨m, hm, e2, fun j hj => e3 j ?_⟩
  have hl : as.length = m := by
    have : (List.range N)[as.length]? = some m := by rw [e1]; simp
    rw [List.getElem?_eq_some_iff] at this
    obtain ⟨_, q⟩ := this
    simpa using q
  have : (List.range N).take m = as := by rw [e1, ← hl]; simp
  rw [← this, List.take_range, Nat.min_eq_left (by omega)]
  exact List.mem_range.mpr hj
/-- what the shortest rules are -/
theorem shortF_is {n : Nat} {t : Int} {f : List Int × List Int} (hn : 1 ≤ n) (h6 : n ≤ 6) (t1 : 1 ≤ t) (t2 : t ≤ 12) (g : Good n t f) : okAll n t (shortF n t f) ∧ formO n t (shortF n t f) = some f ∧ (shortF n t f).length ≤ 12 ∧ ∀ p, p.Sublist (rulesF f) → formO n t p = some f → (shortF n t f).length ≤ p.length := by
  have okF := rulesF_ok g h6 t1 t2
  have hc := form_closed hn h6 t1 t2 g
  have hlen : (rulesF f).length = 2 * n := by
    unfold rulesF
    rw [List.length_append, List.length_map, List.length_map, List.length_range, List.length_range, g.l1, g.l2]
    omega
  have hpl : (rulesF f).length < (partsL (rulesF f)).length := by
    rw [parts_len]
    exact Nat.lt_two_pow_self
  have hself : rulesF f ∈ partsL (rulesF f) := parts_mem.mpr (List.Sublist.refl _)
  cases e : (List.range (partsL (rulesF f)).length).findSome? (shortG n t f) with
  | none =>
    have := List.findSome?_eq_none_iff.mp e (rulesF f).length (List.mem_range.mpr hpl)
    exact absurd hc (shortG_none this _ hself rfl)
  | some p =>
    have ep : shortF n t f = p := by
      unfold shortF
      rw [e]
      rfl
    rw [ep]
    obtain ⟨m, hm, h1, h2⟩ := range_first e
    obtain ⟨a, b, c⟩ := shortG_some h1
    refine ⟨ok_sub (parts_mem.mp a) okF, c, ?_, fun q hq hqf => ?_⟩
    · have := (parts_mem.mp a).length_le
      omega
    · refine Nat.not_lt.mp fun hlt => ?_
      exact shortG_none (h2 q.length (by omega)) q (parts_mem.mpr hq) rfl hqf
theorem shortL_none {n : Nat} {t : Int} {rs : List Rl} (h : formO n t rs = none) : shortL n t rs = [.best 1 72] := by
  unfold shortL
  rw [h]
theorem shortL_some {n : Nat} {t : Int} {rs : List Rl} {f : List Int × List Int} (h : formO n t rs = some f) : shortL n t rs = shortF n t f := by
  unfold shortL
  rw [h]
theorem nil_form {n : Nat} {t : Int} (ht : 0 ≤ t) : formO n t [] ≠ none := by
  intro h
  have := (formO_none (n := n) (t := t) (rs := []) (fun x hx => by cases hx)).mp h
  have hm : List.replicate n t ∈ passR n t [] := pass_mem.mpr ⟨⟨by simp, List.pairwise_replicate.mpr (.inr (Int.le_refl _)), fun x hx => by rw [List.eq_of_mem_replicate hx]; exact ht, fun x hx => by rw [List.eq_of_mem_replicate hx]; exact Int.le_refl _⟩, rfl⟩
  rw [this] at hm
  cases hm
/-- no more than of the own rules -/
theorem short_few {n : Nat} {t : Int} {rs : List Rl} (hn : 1 ≤ n) (h6 : n ≤ 6) (t1 : 1 ≤ t) (t2 : t ≤ 12) (ho : okAll n t rs) : ((shortL n t rs).length : Int) ≤ fewN n t rs := by
  obtain ⟨q, hq, hqf, e⟩ := few_mem (n := n) (t := t) (rs := rs)
  rw [e]
  have okq := ok_sub hq ho
  cases hf : formO n t rs with
  | none =>
    rw [shortL_none hf]
    cases q with
    | nil =>
      rw [hf] at hqf
      exact absurd hqf (nil_form (by omega))
    | cons x q =>
      simp
      omega
  | some f =>
    rw [shortL_some hf]
    obtain ⟨_, _, _, h⟩ := shortF_is hn h6 t1 t2 (good_form ho hf)
    have := h (canR f q) List.filter_sublist (canR_form h6 t1 t2 ho hf okq hqf).2
    have := canR_len (f := f) (q := q)
    omega
end Wk
set_option maxRecDepth 100000
set_option maxHeartbeats 4000000
/-! LS36: the defs of shortest rules -/
namespace Wk
open PySem (PyData Str)
def S_shortest_rules (F : Fn) : Prop := ∀ (n : Nat) (t : Int) (rs : List Rl), 1 ≤ n → n ≤ 6 → 1 ≤ t → t ≤ 12 → okAll n t rs → pcall (F [schD n t rs]) = ret (rsD (shortL n t rs))
theorem shortest_rules_spec {G : Sems} {c_form_of c_rules_of : Nat} (hf : S_form_of (G c_form_of)) (hr : S_rules_of (G c_rules_of)) : S_shortest_rules (runFn G (f_shortest_rules c_form_of c_rules_of)) := by
  intro n t rs n1 n2 t1 t2 ho
  have ef := hf n t rs n1 (by omega) t1 (by omega) ho
  cases hfo : formO n t rs with
  | none =>
    rw [hfo] at ef
    rw [shortL_none hfo]
    simp -implicitDefEqProofs [f_shortest_rules, ini, ef, formD, isNone, rsD, rL, Rl.d, sB]
  | some f =>
    rw [hfo] at ef
    rw [shortL_some hfo]
    have g := good_form ho hfo
    have okF := rulesF_ok g n2 t1 t2
    have hlen : (rulesF f).length = 2 * n := by
      unfold rulesF
      rw [List.length_append, List.length_map, List.length_map, List.length_range, List.length_range, g.l1, g.l2]
      omega
    have hp2 : 2 ^ (rulesF f).length ≤ 2 ^ 12 := Nat.pow_le_pow_right (by omega) (by omega)
    have er := hr n f (by omega) g.l1 g.l2
    have nf : isNone (formD (some f)) = false := rfl
    simp -implicitDefEqProofs [f_shortest_rules, ini, ef, er, nf]
    have lp := parts_loop (body := execs G (.cons (.augL 2 (.lc (.nm 5) (.seq (.bv 2)) (.nil) (.bin .add (.var 5) (.tup (.cons (.var 3) (.nil)))) [5])) (.wipe [3] .nil))) (b := bindT (.nm 3)) (E := fun ps => [.im (schD n t rs), .im (formD (some f)), .ow (pL ps), .un, .un, .un]) (l := rulesF f) (ps := [[]]) (by
      simp
      omega) (by simp; omega) (fun x hx ps h1 h2 => ⟨_, by simp -implicitDefEqProofs; rfl, by
        simp -implicitDefEqProofs
        unfold pL
        rw [lc_map (fun p => rsD (p ++ [x])) fun p hp => by
          simp -implicitDefEqProofs [rsD, rL, sizeOk_of (n := p.length + 1) (by have := h2 p hp; omega)]]
        have e : (ps.map fun p => rsD (p ++ [x])) = (ps.map fun p => p ++ [x]).map rsD := by
          rw [List.map_map]
          rfl
        simp -implicitDefEqProofs [sizeOk_of (n := ps.length + ps.length) (by omega), e]⟩)
    have lp : forRun (execs G (.cons (.augL 2 (.lc (.nm 5) (.seq (.bv 2)) (.nil) (.bin .add (.var 5) (.tup (.cons (.var 3) (.nil)))) [5])) (.wipe [3] .nil))) (bindT (.nm 3)) (rL (rulesF f)) [.im (schD n t rs), .im (formD (some f)), .ow [PyData.tuple []], .un, .un, .un] = ret (.nx [.im (schD n t rs), .im (formD (some f)), .ow (pL (partsL (rulesF f))), .un, .un, .un]) := lp
    have pll : (partsL (rulesF f)).length ≤ 4096 := by
      rw [parts_len]
      omega
    simp -implicitDefEqProofs [lp, rngOk_of (a := 0) (b := ((partsL (rulesF f)).length : Int)) (by omega) (by omega) (by omega) (by omega), rngL_nat]
    have inner : ∀ (m : Nat), forRun (execs G (.cons (.ifs (.and (.cons (.cmp .eq (.b1 .len (.var 5)) (.var 4)) (.cons (.cmp .eq (.call c_form_of (.cons (.bin .add (.sl (.var 0) .no (.at (.int 2))) (.tup (.cons (.var 5) (.nil)))) (.nil))) (.var 1)) (.nil)))) (.cons (.ret (.var 5)) (.nil)) (.nil)) (.wipe [5] .nil))) (bindT (.nm 5)) (pL (partsL (rulesF f))) [.im (schD n t rs), .im (formD (some f)), .ln (pL (partsL (rulesF f))), .un, .im (.int (m : Int)), .un] = ret (match (partsL (rulesF f)).findSome? (fun p => if decide (p.length = m) && decide (formO n t p = some f) then some (rsD p) else none) with
        | some d => .rt d
        | none => .nx [.im (schD n t rs), .im (formD (some f)), .ln (pL (partsL (rulesF f))), .un, .im (.int (m : Int)), .un]) := by
      intro m
      refine for_some rsD _ fun p hp => ⟨_, by simp -implicitDefEqProofs; rfl, ?_⟩
      have okp := ok_sub (parts_mem.mp hp) okF
      have e := hf n t p n1 (by omega) t1 (by omega) okp
      by_cases hl : p.length = m
      · have hl' : ((p.length : Int) = (m : Int)) := by omega
        by_cases hff : formO n t p = some f
        · simp -implicitDefEqProofs [rsD, hl', hl, cut_to (i := 2) (by omega), sizeOk_of (n := 3) (by omega)]
          simp -implicitDefEqProofs [schD, rsD] at e
          simp -implicitDefEqProofs [e, eqD_form, hff]
        · simp -implicitDefEqProofs [rsD, hl', hl, cut_to (i := 2) (by omega), sizeOk_of (n := 3) (by omega)]
          simp -implicitDefEqProofs [schD, rsD] at e
          simp -implicitDefEqProofs [e, eqD_form, hff]
      · have hl' : ¬ ((p.length : Int) = (m : Int)) := by omega
        simp -implicitDefEqProofs [rsD, hl', hl]
    have outer := for_some (body := execs G (.cons (.forL (.nm 5) 2 (.cons (.ifs (.and (.cons (.cmp .eq (.b1 .len (.var 5)) (.var 4)) (.cons (.cmp .eq (.call c_form_of (.cons (.bin .add (.sl (.var 0) .no (.at (.int 2))) (.tup (.cons (.var 5) (.nil)))) (.nil))) (.var 1)) (.nil)))) (.cons (.ret (.var 5)) (.nil)) (.nil)) (.wipe [5] .nil))) (.wipe [4, 5] .nil))) (b := bindT (.nm 4)) (E := [.im (schD n t rs), .im (formD (some f)), .ow (pL (partsL (rulesF f))), .un, .un, .un]) (fun m : Nat => PyData.int (m : Int)) (fun m => (shortG n t f m).map rsD) (xs := List.range (partsL (rulesF f)).length) fun m hm => ⟨_, by simp -implicitDefEqProofs; rfl, by
      have em : (partsL (rulesF f)).findSome? (fun p => if decide (p.length = m) && decide (formO n t p = some f) then some (rsD p) else none) = (shortG n t f m).map rsD := by
        unfold shortG
        generalize partsL (rulesF f) = l
        induction l with
        | nil => rfl
        | cons x xs ih =>
          rw [List.findSome?_cons, List.findSome?_cons]
          by_cases hc : (decide (x.length = m) && decide (formO n t x = some f)) = true
          · rw [if_pos hc, if_pos hc]
            rfl
          · rw [if_neg hc, if_neg hc]
            exact ih
      have im := inner m
      rw [em] at im
      simp -implicitDefEqProofs [im]
      cases shortG n t f m with
      | none =>
        show bnd (ret (Fl.nx [.im (schD n t rs), .im (formD (some f)), .ow (pL (partsL (rulesF f))), .un, .im (.int (m : Int)), .un])) _ = _
        simp -implicitDefEqProofs
      | some p =>
        show bnd (ret (Fl.rt (rsD p))) _ = _
        simp -implicitDefEqProofs⟩
    have eo : (List.range (partsL (rulesF f)).length).findSome? (fun m => (shortG n t f m).map rsD) = ((List.range (partsL (rulesF f)).length).findSome? (shortG n t f)).map rsD := by
      generalize List.range (partsL (rulesF f)).length = l
      induction l with
      | nil => rfl
      | cons x xs ih =>
        rw [List.findSome?_cons, List.findSome?_cons]
        cases shortG n t f x with
        | none => exact ih
        | some p => rfl
    rw [eo] at outer
    unfold shortF
    cases eg : (List.range (partsL (rulesF f)).length).findSome? (shortG n t f) with
    | none =>
      rw [eg] at outer
      simp -implicitDefEqProofs [outer, er]
    | some p =>
      rw [eg] at outer
      simp -implicitDefEqProofs [outer]
def S_fewest_any (F : Fn) : Prop := ∀ (n : Nat) (t : Int) (rs : List Rl), Sch n t rs → n ≤ 4 → pcall (F [schD n t rs]) = ret (.int ((shortL n t rs).length : Nat))
theorem fewest_any_spec {G : Sems} {c_check_scheme c_check_small c_shortest_rules : Nat} (hc : S_check_scheme (G c_check_scheme)) (hs : S_check_small (G c_check_small)) (hr : S_shortest_rules (G c_shortest_rules)) : S_fewest_any (runFn G (f_fewest_any c_check_scheme c_check_small c_shortest_rules)) := by
  intro n t rs h hn
  simp -implicitDefEqProofs [f_fewest_any, ini, chk_sch hc h, hs n t rs hn, hr n t rs h.n1 h.n2 h.t1 h.t2 h.ok, rsD]
def S_shortest (F : Fn) : Prop := ∀ (n : Nat) (t : Int) (rs : List Rl), Sch n t rs → n ≤ 4 → pcall (F [schD n t rs]) = ret (rsD (shortL n t rs))
theorem shortest_spec {G : Sems} {c_check_scheme c_check_small c_shortest_rules : Nat} (hc : S_check_scheme (G c_check_scheme)) (hs : S_check_small (G c_check_small)) (hr : S_shortest_rules (G c_shortest_rules)) : S_shortest (runFn G (f_shortest c_check_scheme c_check_small c_shortest_rules)) := by
  intro n t rs h hn
  simp -implicitDefEqProofs [f_shortest, ini, chk_sch hc h, hs n t rs hn, hr n t rs h.n1 h.n2 h.t1 h.t2 h.ok]
end Wk
set_option maxRecDepth 100000
set_option maxHeartbeats 4000000
/-! LK28: the law k28 -/
namespace Wk
open PySem (PyData Str)
theorem best1_le {t : Int} {r : List Int} (h : ∀ m ∈ r, 0 ≤ m ∧ m ≤ t) (hr : 1 ≤ r.length) : 0 ≤ bestSum 1 r ∧ bestSum 1 r ≤ t := by
  rw [bestSum_perm (srt_perm r).symm, bestSum_succ (srt_asc r) (srt_len r) (by omega), bestSum_zero]
  have := h _ (srt_mem.mp (at0_mem (r := srt r) (i := r.length - (0 + 1)) (by rw [srt_len]; omega)))
  omega
theorem short_is {n : Nat} {t : Int} {rs : List Rl} (hn : 1 ≤ n) (h6 : n ≤ 6) (t1 : 1 ≤ t) (t2 : t ≤ 12) (ho : okAll n t rs) : okAll n t (shortL n t rs) ∧ formO n t (shortL n t rs) = formO n t rs ∧ (shortL n t rs).length ≤ 12 := by
  cases hf : formO n t rs with
  | none =>
    rw [shortL_none hf]
    have ok : okAll n t [.best 1 72] := by
      intro x hx
      simp at hx
      subst hx
      simp [Rl.ok]
      omega
    refine ⟨ok, (formO_none ok).mpr ?_, by simp⟩
    refine List.filter_eq_nil_iff.mpr fun r hr h => ?_
    have hr := rowsL_mem.mp hr
    have h : (decide (72 ≤ bestSum 1 r) && true) = true := h
    rw [Bool.and_true, decide_eq_true_eq] at h
    have := best1_le (t := t) (r := r) (fun m hm => ⟨hr.lo m hm, hr.hi m hm⟩) (by rw [hr.len]; exact hn)
    omega
  | some f =>
    rw [shortL_some hf]
    obtain ⟨a, b, c, _⟩ := shortF_is hn h6 t1 t2 (good_form ho hf)
    exact ⟨a, b, c⟩
theorem short_congr {n : Nat} {t : Int} {rs qs : List Rl} (h : formO n t qs = formO n t rs) : shortL n t qs = shortL n t rs := by
  unfold shortL
  rw [h]
theorem keeps_form {n : Nat} {t : Int} {rs qs : List Rl} (h1 : okAll n t rs) (h2 : okAll n t qs) (h : formO n t qs = formO n t rs) {r : List Int} (hr : Mk n t r) : keepsR qs r = keepsR rs r := by
  have hp := (form_pass h2 h1).mpr h
  rw [← keepsR_srt (rs := qs), ← keepsR_srt (rs := rs), Bool.eq_iff_iff]
  have m1 : srt r ∈ passR n t qs ↔ srt r ∈ passR n t rs := by rw [hp]
  rw [pass_mem, pass_mem] at m1
  exact ⟨fun h => (m1.mp ⟨hr.srt, h⟩).2, fun h => (m1.mpr ⟨hr.srt, h⟩).2⟩
theorem more_form {n : Nat} {t : Int} {rs : List Rl} {x : Rl} (hn : 1 ≤ n) (ho : okAll n t rs) (hx : x ∈ rs ∨ x = .best 1 0) : okAll n t (rs ++ [x]) ∧ formO n t (rs ++ [x]) = formO n t rs := by
  have okx : x.ok n t := by
    rcases hx with h | rfl
    · exact ho x h
    · simp [Rl.ok]
      omega
  have ok : okAll n t (rs ++ [x]) := fun y hy => by
    rcases List.mem_append.mp hy with hy | hy
    · exact ho y hy
    · rw [List.mem_singleton.mp hy]
      exact okx
  refine ⟨ok, (form_pass ok ho).mp ?_⟩
  refine List.filter_congr fun r hr => ?_
  have hr := rowsL_mem.mp hr
  rw [keeps_app]
  cases hk : keepsR rs r with
  | false => rfl
  | true =>
    rw [Bool.true_and]
    unfold keepsR
    rw [List.all_cons, List.all_nil, Bool.and_true]
    rcases hx with h | rfl
    · exact List.all_eq_true.mp hk x h
    · show decide (0 ≤ bestSum 1 r) = true
      rw [decide_eq_true_eq]
      exact (best1_le (t := t) (r := r) (fun m hm => ⟨hr.lo m hm, hr.hi m hm⟩) (by rw [hr.len]; exact hn)).1
def shortC (n : Nat) (t : Int) (f : List Int × List Int) : List Rl := ((List.range (partsL (rulesF f)).length).findSome? fun m => (partsL (rulesF f)).findSome? fun p => if decide (p.length = m) && decide (formA n t p = some f) then some p else none).getD (rulesF f)
theorem findSome_congr {α β : Type} {f g : α → Option β} : ∀ {l : List α}, (∀ x ∈ l, f x = g x) → l.findSome? f = l.findSome? g
  | [], _ => rfl
  | x :: l, h => by
    rw [List.findSome?_cons, List.findSome?_cons, h x List.mem_cons_self, findSome_congr fun y hy => h y (List.mem_cons_of_mem _ hy)]
theorem shortC_eq {n : Nat} {t : Int} {f : List Int × List Int} (hn : 1 ≤ n) (h6 : n ≤ 6) (t1 : 1 ≤ t) (t2 : t ≤ 12) (g : Good n t f) : shortF n t f = shortC n t f := by
  unfold shortF shortC
  congr 1
  refine findSome_congr fun m _ => ?_
  unfold shortG
  refine findSome_congr fun p hp => ?_
  rw [formA_eq (ok_sub (parts_mem.mp hp) (rulesF_ok g h6 t1 t2))]
abbrev K28E (ns : List Int) (n : Nat) (t : Int) (rs qs : List Rl) : Env := [.im (.list (iL ns)), .un, .im (schD n t rs), .sr, .un, .un, .im (.int n), .im (.int t), .im (rsD rs), .im (rsD qs), .im (.int (qs.length : Nat)), .un, .un, .un]
theorem law_k28_spec {G : Sems} {c_law_source c_law_scheme c_shortest c_fewest_any c_law_result c_fewest_rules c_normal c_passes c_law_keeps c_law_equal c_is_rule c_law_choice : Nat} (h_source : S_law_source (G c_law_source)) (h_scheme : S_law_scheme (G c_law_scheme)) (h_short : S_shortest (G c_shortest)) (h_any : S_fewest_any (G c_fewest_any)) (h_result : S_law_result (G c_law_result)) (h_few : S_fewest_rules (G c_fewest_rules)) (h_normal : S_normal (G c_normal)) (h_passes : S_passes (G c_passes)) (h_keeps : S_law_keeps (G c_law_keeps)) (h_equal : S_law_equal (G c_law_equal)) (h_rule : S_is_rule (G c_is_rule)) (h_choice : S_law_choice (G c_law_choice)) :
    S_law (runFn G (f_law_k28 c_law_source c_law_scheme c_shortest c_fewest_any c_law_result c_fewest_rules c_normal c_passes c_law_keeps c_law_equal c_is_rule c_law_choice)) := by
  refine S_law_of fun ns hns => ?_
  simp -implicitDefEqProofs [f_law_k28, ini, sizeOk_of (n := 1 + ns.length) (by omega), cells_take]
  refine wp_cells (fun z => [.im (.list (iL ns)), .un, .un, z, .un, .un, .un, .un, .un, .un, .un, .un, .un, .un]) okz_un ?_ ?_
  · intro cell z s hz
    refine ⟨_, by simp -implicitDefEqProofs; rfl, ?_⟩
    obtain ⟨sa, sb, hsrc, b0, b1⟩ := h_source cell 28
    simp -implicitDefEqProofs [hsrc, hz.1]
    refine wp_srcE (fun z => [.im (.list (iL ns)), .un, .un, z, .un, .un, .un, .un, .un, .un, .un, .un, .un, .un]) rfl rfl (fun _ => rfl) rfl ?_
    simp -implicitDefEqProofs [rngOk_of (a := 0) (b := 3) (by omega) (by omega) (by omega) (by omega)]
    refine wp_turns ([.im (.list (iL ns)), .un, .un, .sr, .un, .un, .un, .un, .un, .un, .un, .un, .un, .un]) 150 (by omega) (N := 28) (SI_start b0 b1 (by omega)) (by rw [rng_len]; decide) (fun d N s hN hs => ⟨_, by simp -implicitDefEqProofs; rfl, ?_⟩) ?_
    · simp -implicitDefEqProofs
      refine wp_mono (h_scheme N 4 12 _ (by omega) (by omega) (by omega) (by omega) (by omega) hs) fun x s1 hx => ?_
      obtain ⟨n, t, rs, rfl, n1, n2, t1, t2, hl, ho, hs1⟩ := hx
      have sch : Sch n t rs := ⟨n1, by omega, t1, by omega, hl, ho⟩
      have hfew := short_few n1 (by omega) t1 (by omega) ho
      obtain ⟨okq, fq, lq⟩ := short_is n1 (by omega) t1 (by omega) ho
      have hsh := h_short n t rs sch (by omega)
      have hany := h_any n t rs sch (by omega)
      obtain ⟨qs, hqs⟩ : ∃ qs, shortL n t rs = qs := ⟨_, rfl⟩
      rw [hqs] at hfew okq fq lq hsh hany
      have er : ∀ x ∈ qs, pcall (G c_is_rule [schD n t rs, x.d]) = ret (.bool true) := fun x hx => by
        have e := h_rule n t rs x.d sch (Gd_of_Tm (k := 1) Tm_rl)
        rw [canRule_iff.mpr (okq x hx)] at e
        exact e
      have e2 : ¬ fewN n t rs < ((qs.length : Nat) : Int) := by omega
      simp -implicitDefEqProofs [hsh, hany, h_few n t rs sch, rsD, e2]
      rw [lcr_none fun x hx => by simp -implicitDefEqProofs [er x hx, isNotD]]
      simp -implicitDefEqProofs
      have hcong := short_congr fq
      rw [hqs] at hcong
      refine wp_eq (m' := ret (PyData.bool false)) ?_ ?_
      · by_cases h6 : (qs.length : Int) ≤ 6
        · rw [if_pos h6]
          have sq : Sch n t qs := ⟨n1, by omega, t1, by omega, by omega, okq⟩
          have e3 := h_normal n t qs sq
          simp -implicitDefEqProofs [schD, rsD] at e3
          simp -implicitDefEqProofs [e3, h_normal n t rs sch, neD_form, fq]
        · rw [if_neg h6]
      · simp -implicitDefEqProofs [rngOk_of (a := 0) (b := 10) (by omega) (by omega) (by omega) (by omega)]
        refine wp_turns (K28E ns n t rs qs) 6 (by omega) (N := N + 40) hs1 (by rw [rng_len]; simp; omega) (fun d N s hN hs => ⟨_, by simp -implicitDefEqProofs; rfl, ?_⟩) ?_
        · simp -implicitDefEqProofs
          refine wp_mono (h_result N n t s (by omega) (by omega) (by omega) (by omega) hs) fun x s2 hx => ?_
          obtain ⟨r, rfl, hr, hs2⟩ := hx
          have e4 := h_keeps qs n t (tI r) r okq hr.1 (by omega) (.t r)
          rw [keeps_form ho okq fq hr] at e4
          simp -implicitDefEqProofs [h_passes n t rs r sch hr, e4]
          exact hs2.le (by omega)
        · intro s2 hs2
          rw [rng_len] at hs2
          have hs2 : SI (N + 100) s2 := hs2.le (by simp; omega)
          have er' : neD (.tuple (rL qs)) (.tuple []) = ret (.bool (!decide (qs = []))) := neD_p (k := 3) (x := rsD qs) (y := .tuple []) (Tm_rs (k := 1)) (by simp) (by omega) (by simp [rsD, rL])
          have e5 : (qs.length : Int) < 6 → pcall (G c_fewest_any [.tuple [.int n, .int t, .tuple (rL qs)]]) = ret (.int (qs.length : Nat)) := fun h6 => by
            have sq : Sch n t qs := ⟨n1, by omega, t1, by omega, by omega, okq⟩
            have e5 := h_any n t qs sq (by omega)
            rw [hcong] at e5
            exact e5
          by_cases hlt : (rs.length : Int) < 6
          · simp -implicitDefEqProofs [hlt, rsD, sizeOk_of (n := rs.length + 1) (by omega)]
            refine wp_mono (h_choice _ (rL rs ++ [PyData.tuple [.str (Str.ofString "best"), .int 1, .int 0]]) s2 (by simp) (by simp; omega) (by omega) hs2).1 fun x s3 hx => ?_
            obtain ⟨hx, hs3⟩ := hx
            have hy : ∃ y : Rl, x = y.d ∧ (y ∈ rs ∨ y = .best 1 0) := by
              rcases List.mem_append.mp hx with hx | hx
              · obtain ⟨y, hy, rfl⟩ := List.mem_map.mp hx
                exact ⟨y, rfl, .inl hy⟩
              · exact ⟨.best 1 0, by simpa [Rl.d, sB] using hx, .inr rfl⟩
            obtain ⟨y, rfl, hy⟩ := hy
            obtain ⟨okm, fm⟩ := more_form n1 ho hy
            have sm : Sch n t (rs ++ [y]) := ⟨n1, by omega, t1, by omega, by simp; omega, okm⟩
            have e6 := h_any n t (rs ++ [y]) sm (by omega)
            rw [short_congr fm, hqs] at e6
            have e7 : pcall (G c_law_equal [.int (qs.length : Nat), .int (qs.length : Nat)]) = ret (.bool true) := h_equal.2 _ (by simp)
            have e8 : rL rs ++ [y.d] = rL (rs ++ [y]) := by simp [rL]
            have e6 : pcall (G c_fewest_any [.tuple [.int n, .int t, .tuple (rL (rs ++ [y]))]]) = ret (.int (qs.length : Nat)) := e6
            simp -implicitDefEqProofs [e6, e7]
            by_cases h6 : (qs.length : Int) < 6
            · by_cases hq0 : qs = []
              · have er0 : neD (.tuple (rL qs)) (.tuple []) = ret (.bool false) := by rw [er']; simp [hq0]
                simp -implicitDefEqProofs [h6, er0]
                exact hs3.le (by omega)
              · have er1 : neD (.tuple (rL qs)) (.tuple []) = ret (.bool true) := by rw [er']; simp [hq0]
                simp -implicitDefEqProofs [h6, er1, e5 h6]
                exact hs3.le (by omega)
            · simp -implicitDefEqProofs [h6]
              exact hs3.le (by omega)
          · simp -implicitDefEqProofs [hlt, rsD]
            by_cases h6 : (qs.length : Int) < 6
            · by_cases hq0 : qs = []
              · have er0 : neD (.tuple (rL qs)) (.tuple []) = ret (.bool false) := by rw [er']; simp [hq0]
                simp -implicitDefEqProofs [h6, er0]
                exact hs2.le (by omega)
              · have er1 : neD (.tuple (rL qs)) (.tuple []) = ret (.bool true) := by rw [er']; simp [hq0]
                simp -implicitDefEqProofs [h6, er1, e5 h6]
                exact hs2.le (by omega)
            · simp -implicitDefEqProofs [h6]
              exact hs2.le (by omega)
    · intro s hs
      simp -implicitDefEqProofs
  · intro z s hz
    have s1 : Sch 2 10 [.fails 0 5, .best 2 10, .best 1 5] := ⟨by omega, by omega, by omega, by omega, by simp, by
      intro x hx
      simp at hx
      rcases hx with rfl | rfl | rfl <;> simp [Rl.ok]⟩
    have s2 : Sch 3 4 [] := ⟨by omega, by omega, by omega, by omega, by simp, fun x hx => by cases hx⟩
    have e1 := h_short 2 10 _ s1 (by omega)
    have e2 := h_short 3 4 _ s2 (by omega)
    rw [show shortL 2 10 [.fails 0 5, .best 2 10, .best 1 5] = [.fails 0 5] from ?A] at e1
    rw [show shortL 3 4 [] = [] from ?B] at e2
    simp -implicitDefEqProofs
    refine wp_eq e1 ?_
    simp -implicitDefEqProofs
    refine wp_eq (eqD_self (k := 3) (x := rsD [.fails 0 5]) (Tm_rs (k := 1)) (by omega) rfl) ?_
    simp -implicitDefEqProofs
    refine wp_eq e2 ?_
    simp -implicitDefEqProofs
    refine wp_eq (eqD_self (k := 3) (x := rsD []) (Tm_rs (k := 1)) (by omega) rfl) ?_
    simp -implicitDefEqProofs
    · have hf : formO 3 4 [] = some ([0, 0, 0], [0, 0, 0]) := by
        rw [formA_eq s2.ok]
        decide +kernel
      rw [shortL_some hf, shortC_eq (by omega) (by omega) (by omega) (by omega) (good_form s2.ok hf)]
      decide +kernel
    · have h0 : okAll 2 10 [.fails 0 5, .best 2 10, .best 1 5] := s1.ok
      have hf : formO 2 10 [.fails 0 5, .best 2 10, .best 1 5] = some ([5, 10], [5, 5]) := by
        rw [formA_eq h0]
        decide +kernel
      rw [shortL_some hf, shortC_eq (by omega) (by omega) (by omega) (by omega) (good_form h0 hf)]
      decide +kernel
end Wk
set_option maxRecDepth 100000
set_option maxHeartbeats 4000000
/-! K28: the defs of the law as terms -/
namespace K28
open PySem PySem.Spec PyProof.Rows L2 Wk
abbrev pw : Program := PySem.Challenge.pw_weakestpass_k28_whole_shortest_rules
def top (i : Nat) : Stmt := pw.main.body.getD i (.Pass ⟨0, 0, 0, 0⟩)
def cs : List (Str × Int) := [("MAX_COUNTED", 4), ("MAX_RULES", 6), ("MAX_SUBJECTS", 6), ("MAX_SUM", 72), ("MAX_TOP", 12)]
def es : List Str := ["InvalidResult", "InvalidScheme", "TooLarge"]
abbrev f0 : FnIR := f_law_source_v2
abbrev f1 : FnIR := f_law_draw_v2
abbrev f2 : FnIR := f_law_choice 1
abbrev f3 : FnIR := f_law_rule 1 2
abbrev f4 : FnIR := f_law_scheme 2 1 3
abbrev f5 : FnIR := f_is_between
abbrev f6 : FnIR := f_can_be_rule 5
abbrev f7 : FnIR := f_is_scheme 5 6
abbrev f8 : FnIR := f_check_scheme 7
abbrev f9 : FnIR := f_check_small
abbrev f10 : FnIR := f_bounds_of
abbrev f11 : FnIR := f_least_sums
abbrev f12 : FnIR := f_row_of
abbrev f13 : FnIR := f_weakest_of 10 11 12
abbrev f14 : FnIR := f_weakest_row 13
abbrev f15 : FnIR := f_best_sums
abbrev f16 : FnIR := f_marks_of 10 14
abbrev f17 : FnIR := f_form_of 14 15 16
abbrev f18 : FnIR := f_rules_of
abbrev f19 : FnIR := f_shortest_rules 17 18
abbrev f20 : FnIR := f_shortest 8 9 19
abbrev f21 : FnIR := f_fewest_any 8 9 19
abbrev f22 : FnIR := f_law_result 1
abbrev f23 : FnIR := f_fewest_rules 8 17
abbrev f24 : FnIR := f_normal 8 17
abbrev f25 : FnIR := f_can_be_result 5
abbrev f26 : FnIR := f_check_result 8 25
abbrev f27 : FnIR := f_holds
abbrev f28 : FnIR := f_keeps 27
abbrev f29 : FnIR := f_passes 26 28
abbrev f30 : FnIR := f_law_holds
abbrev f31 : FnIR := f_law_keeps 30
abbrev f32 : FnIR := f_law_kind
abbrev f33 : FnIR := f_law_equal 32 33
abbrev f34 : FnIR := f_is_rule 8 6
abbrev f35 : FnIR := f_law_k28 0 4 20 21 22 23 24 29 31 33 34 2
abbrev s0 : Sg := ⟨"_law_source", 2, false, true⟩
abbrev s1 : Sg := ⟨"_law_draw", 2, true, false⟩
abbrev s2 : Sg := ⟨"_law_choice", 2, true, false⟩
abbrev s3 : Sg := ⟨"_law_rule", 3, true, false⟩
abbrev s4 : Sg := ⟨"_law_scheme", 3, true, false⟩
abbrev s5 : Sg := ⟨"is_between", 3, false, false⟩
abbrev s6 : Sg := ⟨"can_be_rule", 3, false, false⟩
abbrev s7 : Sg := ⟨"is_scheme", 1, false, false⟩
abbrev s8 : Sg := ⟨"check_scheme", 1, false, false⟩
abbrev s9 : Sg := ⟨"check_small", 1, false, false⟩
abbrev s10 : Sg := ⟨"bounds_of", 2, false, false⟩
abbrev s11 : Sg := ⟨"least_sums", 3, false, false⟩
abbrev s12 : Sg := ⟨"row_of", 1, false, false⟩
abbrev s13 : Sg := ⟨"weakest_of", 4, false, false⟩
abbrev s14 : Sg := ⟨"weakest_row", 1, false, false⟩
abbrev s15 : Sg := ⟨"best_sums", 1, false, false⟩
abbrev s16 : Sg := ⟨"marks_of", 1, false, false⟩
abbrev s17 : Sg := ⟨"form_of", 1, false, false⟩
abbrev s18 : Sg := ⟨"rules_of", 1, false, false⟩
abbrev s19 : Sg := ⟨"shortest_rules", 1, false, false⟩
abbrev s20 : Sg := ⟨"shortest", 1, false, false⟩
abbrev s21 : Sg := ⟨"fewest_any", 1, false, false⟩
abbrev s22 : Sg := ⟨"_law_result", 3, true, false⟩
abbrev s23 : Sg := ⟨"fewest_rules", 1, false, false⟩
abbrev s24 : Sg := ⟨"normal", 1, false, false⟩
abbrev s25 : Sg := ⟨"can_be_result", 2, false, false⟩
abbrev s26 : Sg := ⟨"check_result", 2, false, false⟩
abbrev s27 : Sg := ⟨"holds", 2, false, false⟩
abbrev s28 : Sg := ⟨"keeps", 2, false, false⟩
abbrev s29 : Sg := ⟨"passes", 2, false, false⟩
abbrev s30 : Sg := ⟨"_law_holds", 2, false, false⟩
abbrev s31 : Sg := ⟨"_law_keeps", 2, false, false⟩
abbrev s32 : Sg := ⟨"_law_kind", 1, false, false⟩
abbrev s33 : Sg := ⟨"_law_equal", 2, false, false⟩
abbrev s34 : Sg := ⟨"is_rule", 2, false, false⟩
abbrev s35 : Sg := ⟨"law", 1, false, false⟩
abbrev p0 : List Str := ["cell", "turn"]
theorem ck0 : ckF [] cs es f0 p0 (top 42) = true := by decide +kernel
theorem sc0 : FnScope f0.N p0 (defScope (top 42)) := ⟨rfl, rfl, rfl, by decide +kernel, rfl, by decide +kernel, by decide +kernel⟩
abbrev p1 : List Str := ["source", "size"]
theorem ck1 : ckF [s0] cs es f1 p1 (top 43) = true := by decide +kernel
theorem sc1 : FnScope f1.N p1 (defScope (top 43)) := ⟨rfl, rfl, rfl, by decide +kernel, rfl, by decide +kernel, by decide +kernel⟩
abbrev p2 : List Str := ["source", "items"]
theorem ck2 : ckF [s0, s1] cs es f2 p2 (top 44) = true := by decide +kernel
theorem sc2 : FnScope f2.N p2 (defScope (top 44)) := ⟨rfl, rfl, rfl, by decide +kernel, rfl, by decide +kernel, by decide +kernel⟩
abbrev p3 : List Str := ["source", "subjects", "top"]
theorem ck3 : ckF [s0, s1, s2] cs es f3 p3 (top 47) = true := by decide +kernel
theorem sc3 : FnScope f3.N p3 (defScope (top 47)) := ⟨rfl, rfl, rfl, by decide +kernel, rfl, by decide +kernel, by decide +kernel⟩
abbrev p4 : List Str := ["source", "subjects", "top"]
theorem ck4 : ckF [s0, s1, s2, s3] cs es f4 p4 (top 48) = true := by decide +kernel
theorem sc4 : FnScope f4.N p4 (defScope (top 48)) := ⟨rfl, rfl, rfl, by decide +kernel, rfl, by decide +kernel, by decide +kernel⟩
abbrev p5 : List Str := ["value", "low", "high"]
theorem ck5 : ckF [s0, s1, s2, s3, s4] cs es f5 p5 (top 10) = true := by decide +kernel
theorem sc5 : FnScope f5.N p5 (defScope (top 10)) := ⟨rfl, rfl, rfl, by decide +kernel, rfl, by decide +kernel, by decide +kernel⟩
abbrev p6 : List Str := ["subjects", "top", "value"]
theorem ck6 : ckF [s0, s1, s2, s3, s4, s5] cs es f6 p6 (top 11) = true := by decide +kernel
theorem sc6 : FnScope f6.N p6 (defScope (top 11)) := ⟨rfl, rfl, rfl, by decide +kernel, rfl, by decide +kernel, by decide +kernel⟩
abbrev p7 : List Str := ["value"]
theorem ck7 : ckF [s0, s1, s2, s3, s4, s5, s6] cs es f7 p7 (top 12) = true := by decide +kernel
theorem sc7 : FnScope f7.N p7 (defScope (top 12)) := ⟨rfl, rfl, rfl, by decide +kernel, rfl, by decide +kernel, by decide +kernel⟩
abbrev p8 : List Str := ["scheme"]
theorem ck8 : ckF [s0, s1, s2, s3, s4, s5, s6, s7] cs es f8 p8 (top 13) = true := by decide +kernel
theorem sc8 : FnScope f8.N p8 (defScope (top 13)) := ⟨rfl, rfl, rfl, by decide +kernel, rfl, by decide +kernel, by decide +kernel⟩
abbrev p9 : List Str := ["scheme"]
theorem ck9 : ckF [s0, s1, s2, s3, s4, s5, s6, s7, s8] cs es f9 p9 (top 22) = true := by decide +kernel
theorem sc9 : FnScope f9.N p9 (defScope (top 22)) := ⟨rfl, rfl, rfl, by decide +kernel, rfl, by decide +kernel, by decide +kernel⟩
abbrev p10 : List Str := ["subjects", "rules"]
theorem ck10 : ckF [s0, s1, s2, s3, s4, s5, s6, s7, s8, s9] cs es f10 p10 (top 24) = true := by decide +kernel
theorem sc10 : FnScope f10.N p10 (defScope (top 24)) := ⟨rfl, rfl, rfl, by decide +kernel, rfl, by decide +kernel, by decide +kernel⟩
abbrev p11 : List Str := ["top", "sums", "marks"]
theorem ck11 : ckF [s0, s1, s2, s3, s4, s5, s6, s7, s8, s9, s10] cs es f11 p11 (top 25) = true := by decide +kernel
theorem sc11 : FnScope f11.N p11 (defScope (top 25)) := ⟨rfl, rfl, rfl, by decide +kernel, rfl, by decide +kernel, by decide +kernel⟩
abbrev p12 : List Str := ["sums"]
theorem ck12 : ckF [s0, s1, s2, s3, s4, s5, s6, s7, s8, s9, s10, s11] cs es f12 p12 (top 26) = true := by decide +kernel
theorem sc12 : FnScope f12.N p12 (defScope (top 26)) := ⟨rfl, rfl, rfl, by decide +kernel, rfl, by decide +kernel, by decide +kernel⟩
abbrev p13 : List Str := ["subjects", "top", "rules", "floor"]
theorem ck13 : ckF [s0, s1, s2, s3, s4, s5, s6, s7, s8, s9, s10, s11, s12] cs es f13 p13 (top 27) = true := by decide +kernel
theorem sc13 : FnScope f13.N p13 (defScope (top 27)) := ⟨rfl, rfl, rfl, by decide +kernel, rfl, by decide +kernel, by decide +kernel⟩
abbrev p14 : List Str := ["scheme"]
theorem ck14 : ckF [s0, s1, s2, s3, s4, s5, s6, s7, s8, s9, s10, s11, s12, s13] cs es f14 p14 (top 28) = true := by decide +kernel
theorem sc14 : FnScope f14.N p14 (defScope (top 28)) := ⟨rfl, rfl, rfl, by decide +kernel, rfl, by decide +kernel, by decide +kernel⟩
abbrev p15 : List Str := ["marks"]
theorem ck15 : ckF [s0, s1, s2, s3, s4, s5, s6, s7, s8, s9, s10, s11, s12, s13, s14] cs es f15 p15 (top 29) = true := by decide +kernel
theorem sc15 : FnScope f15.N p15 (defScope (top 29)) := ⟨rfl, rfl, rfl, by decide +kernel, rfl, by decide +kernel, by decide +kernel⟩
abbrev p16 : List Str := ["scheme"]
theorem ck16 : ckF [s0, s1, s2, s3, s4, s5, s6, s7, s8, s9, s10, s11, s12, s13, s14, s15] cs es f16 p16 (top 30) = true := by decide +kernel
theorem sc16 : FnScope f16.N p16 (defScope (top 30)) := ⟨rfl, rfl, rfl, by decide +kernel, rfl, by decide +kernel, by decide +kernel⟩
abbrev p17 : List Str := ["scheme"]
theorem ck17 : ckF [s0, s1, s2, s3, s4, s5, s6, s7, s8, s9, s10, s11, s12, s13, s14, s15, s16] cs es f17 p17 (top 31) = true := by decide +kernel
theorem sc17 : FnScope f17.N p17 (defScope (top 31)) := ⟨rfl, rfl, rfl, by decide +kernel, rfl, by decide +kernel, by decide +kernel⟩
abbrev p18 : List Str := ["form"]
theorem ck18 : ckF [s0, s1, s2, s3, s4, s5, s6, s7, s8, s9, s10, s11, s12, s13, s14, s15, s16, s17] cs es f18 p18 (top 36) = true := by decide +kernel
theorem sc18 : FnScope f18.N p18 (defScope (top 36)) := ⟨rfl, rfl, rfl, by decide +kernel, rfl, by decide +kernel, by decide +kernel⟩
abbrev p19 : List Str := ["scheme"]
theorem ck19 : ckF [s0, s1, s2, s3, s4, s5, s6, s7, s8, s9, s10, s11, s12, s13, s14, s15, s16, s17, s18] cs es f19 p19 (top 38) = true := by decide +kernel
theorem sc19 : FnScope f19.N p19 (defScope (top 38)) := ⟨rfl, rfl, rfl, by decide +kernel, rfl, by decide +kernel, by decide +kernel⟩
abbrev p20 : List Str := ["scheme"]
theorem ck20 : ckF [s0, s1, s2, s3, s4, s5, s6, s7, s8, s9, s10, s11, s12, s13, s14, s15, s16, s17, s18, s19] cs es f20 p20 (top 40) = true := by decide +kernel
theorem sc20 : FnScope f20.N p20 (defScope (top 40)) := ⟨rfl, rfl, rfl, by decide +kernel, rfl, by decide +kernel, by decide +kernel⟩
abbrev p21 : List Str := ["scheme"]
theorem ck21 : ckF [s0, s1, s2, s3, s4, s5, s6, s7, s8, s9, s10, s11, s12, s13, s14, s15, s16, s17, s18, s19, s20] cs es f21 p21 (top 39) = true := by decide +kernel
theorem sc21 : FnScope f21.N p21 (defScope (top 39)) := ⟨rfl, rfl, rfl, by decide +kernel, rfl, by decide +kernel, by decide +kernel⟩
abbrev p22 : List Str := ["source", "subjects", "top"]
theorem ck22 : ckF [s0, s1, s2, s3, s4, s5, s6, s7, s8, s9, s10, s11, s12, s13, s14, s15, s16, s17, s18, s19, s20, s21] cs es f22 p22 (top 49) = true := by decide +kernel
theorem sc22 : FnScope f22.N p22 (defScope (top 49)) := ⟨rfl, rfl, rfl, by decide +kernel, rfl, by decide +kernel, by decide +kernel⟩
abbrev p23 : List Str := ["scheme"]
theorem ck23 : ckF [s0, s1, s2, s3, s4, s5, s6, s7, s8, s9, s10, s11, s12, s13, s14, s15, s16, s17, s18, s19, s20, s21, s22] cs es f23 p23 (top 34) = true := by decide +kernel
theorem sc23 : FnScope f23.N p23 (defScope (top 34)) := ⟨rfl, rfl, rfl, by decide +kernel, rfl, by decide +kernel, by decide +kernel⟩
abbrev p24 : List Str := ["scheme"]
theorem ck24 : ckF [s0, s1, s2, s3, s4, s5, s6, s7, s8, s9, s10, s11, s12, s13, s14, s15, s16, s17, s18, s19, s20, s21, s22, s23] cs es f24 p24 (top 32) = true := by decide +kernel
theorem sc24 : FnScope f24.N p24 (defScope (top 32)) := ⟨rfl, rfl, rfl, by decide +kernel, rfl, by decide +kernel, by decide +kernel⟩
abbrev p25 : List Str := ["scheme", "value"]
theorem ck25 : ckF [s0, s1, s2, s3, s4, s5, s6, s7, s8, s9, s10, s11, s12, s13, s14, s15, s16, s17, s18, s19, s20, s21, s22, s23, s24] cs es f25 p25 (top 14) = true := by decide +kernel
theorem sc25 : FnScope f25.N p25 (defScope (top 14)) := ⟨rfl, rfl, rfl, by decide +kernel, rfl, by decide +kernel, by decide +kernel⟩
abbrev p26 : List Str := ["scheme", "result"]
theorem ck26 : ckF [s0, s1, s2, s3, s4, s5, s6, s7, s8, s9, s10, s11, s12, s13, s14, s15, s16, s17, s18, s19, s20, s21, s22, s23, s24, s25] cs es f26 p26 (top 16) = true := by decide +kernel
theorem sc26 : FnScope f26.N p26 (defScope (top 16)) := ⟨rfl, rfl, rfl, by decide +kernel, rfl, by decide +kernel, by decide +kernel⟩
abbrev p27 : List Str := ["rule", "result"]
theorem ck27 : ckF [s0, s1, s2, s3, s4, s5, s6, s7, s8, s9, s10, s11, s12, s13, s14, s15, s16, s17, s18, s19, s20, s21, s22, s23, s24, s25, s26] cs es f27 p27 (top 17) = true := by decide +kernel
theorem sc27 : FnScope f27.N p27 (defScope (top 17)) := ⟨rfl, rfl, rfl, by decide +kernel, rfl, by decide +kernel, by decide +kernel⟩
abbrev p28 : List Str := ["rules", "result"]
theorem ck28 : ckF [s0, s1, s2, s3, s4, s5, s6, s7, s8, s9, s10, s11, s12, s13, s14, s15, s16, s17, s18, s19, s20, s21, s22, s23, s24, s25, s26, s27] cs es f28 p28 (top 18) = true := by decide +kernel
theorem sc28 : FnScope f28.N p28 (defScope (top 18)) := ⟨rfl, rfl, rfl, by decide +kernel, rfl, by decide +kernel, by decide +kernel⟩
abbrev p29 : List Str := ["scheme", "result"]
theorem ck29 : ckF [s0, s1, s2, s3, s4, s5, s6, s7, s8, s9, s10, s11, s12, s13, s14, s15, s16, s17, s18, s19, s20, s21, s22, s23, s24, s25, s26, s27, s28] cs es f29 p29 (top 19) = true := by decide +kernel
theorem sc29 : FnScope f29.N p29 (defScope (top 19)) := ⟨rfl, rfl, rfl, by decide +kernel, rfl, by decide +kernel, by decide +kernel⟩
abbrev p30 : List Str := ["rule", "result"]
theorem ck30 : ckF [s0, s1, s2, s3, s4, s5, s6, s7, s8, s9, s10, s11, s12, s13, s14, s15, s16, s17, s18, s19, s20, s21, s22, s23, s24, s25, s26, s27, s28, s29] cs es f30 p30 (top 50) = true := by decide +kernel
theorem sc30 : FnScope f30.N p30 (defScope (top 50)) := ⟨rfl, rfl, rfl, by decide +kernel, rfl, by decide +kernel, by decide +kernel⟩
abbrev p31 : List Str := ["rules", "result"]
theorem ck31 : ckF [s0, s1, s2, s3, s4, s5, s6, s7, s8, s9, s10, s11, s12, s13, s14, s15, s16, s17, s18, s19, s20, s21, s22, s23, s24, s25, s26, s27, s28, s29, s30] cs es f31 p31 (top 51) = true := by decide +kernel
theorem sc31 : FnScope f31.N p31 (defScope (top 51)) := ⟨rfl, rfl, rfl, by decide +kernel, rfl, by decide +kernel, by decide +kernel⟩
abbrev p32 : List Str := ["value"]
theorem ck32 : ckF [s0, s1, s2, s3, s4, s5, s6, s7, s8, s9, s10, s11, s12, s13, s14, s15, s16, s17, s18, s19, s20, s21, s22, s23, s24, s25, s26, s27, s28, s29, s30, s31] cs es f32 p32 (top 45) = true := by decide +kernel
theorem sc32 : FnScope f32.N p32 (defScope (top 45)) := ⟨rfl, rfl, rfl, by decide +kernel, rfl, by decide +kernel, by decide +kernel⟩
abbrev p33 : List Str := ["value", "expected"]
theorem ck33 : ckF [s0, s1, s2, s3, s4, s5, s6, s7, s8, s9, s10, s11, s12, s13, s14, s15, s16, s17, s18, s19, s20, s21, s22, s23, s24, s25, s26, s27, s28, s29, s30, s31, s32, s33] cs es f33 p33 (top 46) = true := by decide +kernel
theorem sc33 : FnScope f33.N p33 (defScope (top 46)) := ⟨rfl, rfl, rfl, by decide +kernel, rfl, by decide +kernel, by decide +kernel⟩
abbrev p34 : List Str := ["scheme", "value"]
theorem ck34 : ckF [s0, s1, s2, s3, s4, s5, s6, s7, s8, s9, s10, s11, s12, s13, s14, s15, s16, s17, s18, s19, s20, s21, s22, s23, s24, s25, s26, s27, s28, s29, s30, s31, s32, s33] cs es f34 p34 (top 15) = true := by decide +kernel
theorem sc34 : FnScope f34.N p34 (defScope (top 15)) := ⟨rfl, rfl, rfl, by decide +kernel, rfl, by decide +kernel, by decide +kernel⟩
abbrev p35 : List Str := ["script"]
theorem ck35 : ckF [s0, s1, s2, s3, s4, s5, s6, s7, s8, s9, s10, s11, s12, s13, s14, s15, s16, s17, s18, s19, s20, s21, s22, s23, s24, s25, s26, s27, s28, s29, s30, s31, s32, s33, s34] cs es f35 p35 (top 52) = true := by decide +kernel
theorem sc35 : FnScope f35.N p35 (defScope (top 52)) := ⟨rfl, rfl, rfl, by decide +kernel, rfl, by decide +kernel, by decide +kernel⟩
noncomputable def T0 : List FnI := []
noncomputable def I0 : FnI := fnI T0 "_law_source" f0
noncomputable def T1 : List FnI := T0 ++ [I0]
theorem sg0 : sgs T0 = [] := rfl
noncomputable def I1 : FnI := fnI T1 "_law_draw" f1
noncomputable def T2 : List FnI := T1 ++ [I1]
theorem sg1 : sgs T1 = [s0] := rfl
noncomputable def I2 : FnI := fnI T2 "_law_choice" f2
noncomputable def T3 : List FnI := T2 ++ [I2]
theorem sg2 : sgs T2 = [s0, s1] := rfl
noncomputable def I3 : FnI := fnI T3 "_law_rule" f3
noncomputable def T4 : List FnI := T3 ++ [I3]
theorem sg3 : sgs T3 = [s0, s1, s2] := rfl
noncomputable def I4 : FnI := fnI T4 "_law_scheme" f4
noncomputable def T5 : List FnI := T4 ++ [I4]
theorem sg4 : sgs T4 = [s0, s1, s2, s3] := rfl
noncomputable def I5 : FnI := fnI T5 "is_between" f5
noncomputable def T6 : List FnI := T5 ++ [I5]
theorem sg5 : sgs T5 = [s0, s1, s2, s3, s4] := rfl
noncomputable def I6 : FnI := fnI T6 "can_be_rule" f6
noncomputable def T7 : List FnI := T6 ++ [I6]
theorem sg6 : sgs T6 = [s0, s1, s2, s3, s4, s5] := rfl
noncomputable def I7 : FnI := fnI T7 "is_scheme" f7
noncomputable def T8 : List FnI := T7 ++ [I7]
theorem sg7 : sgs T7 = [s0, s1, s2, s3, s4, s5, s6] := rfl
noncomputable def I8 : FnI := fnI T8 "check_scheme" f8
noncomputable def T9 : List FnI := T8 ++ [I8]
theorem sg8 : sgs T8 = [s0, s1, s2, s3, s4, s5, s6, s7] := rfl
noncomputable def I9 : FnI := fnI T9 "check_small" f9
noncomputable def T10 : List FnI := T9 ++ [I9]
theorem sg9 : sgs T9 = [s0, s1, s2, s3, s4, s5, s6, s7, s8] := rfl
noncomputable def I10 : FnI := fnI T10 "bounds_of" f10
noncomputable def T11 : List FnI := T10 ++ [I10]
theorem sg10 : sgs T10 = [s0, s1, s2, s3, s4, s5, s6, s7, s8, s9] := rfl
noncomputable def I11 : FnI := fnI T11 "least_sums" f11
noncomputable def T12 : List FnI := T11 ++ [I11]
theorem sg11 : sgs T11 = [s0, s1, s2, s3, s4, s5, s6, s7, s8, s9, s10] := rfl
noncomputable def I12 : FnI := fnI T12 "row_of" f12
noncomputable def T13 : List FnI := T12 ++ [I12]
theorem sg12 : sgs T12 = [s0, s1, s2, s3, s4, s5, s6, s7, s8, s9, s10, s11] := rfl
noncomputable def I13 : FnI := fnI T13 "weakest_of" f13
noncomputable def T14 : List FnI := T13 ++ [I13]
theorem sg13 : sgs T13 = [s0, s1, s2, s3, s4, s5, s6, s7, s8, s9, s10, s11, s12] := rfl
noncomputable def I14 : FnI := fnI T14 "weakest_row" f14
noncomputable def T15 : List FnI := T14 ++ [I14]
theorem sg14 : sgs T14 = [s0, s1, s2, s3, s4, s5, s6, s7, s8, s9, s10, s11, s12, s13] := rfl
noncomputable def I15 : FnI := fnI T15 "best_sums" f15
noncomputable def T16 : List FnI := T15 ++ [I15]
theorem sg15 : sgs T15 = [s0, s1, s2, s3, s4, s5, s6, s7, s8, s9, s10, s11, s12, s13, s14] := rfl
noncomputable def I16 : FnI := fnI T16 "marks_of" f16
noncomputable def T17 : List FnI := T16 ++ [I16]
theorem sg16 : sgs T16 = [s0, s1, s2, s3, s4, s5, s6, s7, s8, s9, s10, s11, s12, s13, s14, s15] := rfl
noncomputable def I17 : FnI := fnI T17 "form_of" f17
noncomputable def T18 : List FnI := T17 ++ [I17]
theorem sg17 : sgs T17 = [s0, s1, s2, s3, s4, s5, s6, s7, s8, s9, s10, s11, s12, s13, s14, s15, s16] := rfl
noncomputable def I18 : FnI := fnI T18 "rules_of" f18
noncomputable def T19 : List FnI := T18 ++ [I18]
theorem sg18 : sgs T18 = [s0, s1, s2, s3, s4, s5, s6, s7, s8, s9, s10, s11, s12, s13, s14, s15, s16, s17] := rfl
noncomputable def I19 : FnI := fnI T19 "shortest_rules" f19
noncomputable def T20 : List FnI := T19 ++ [I19]
theorem sg19 : sgs T19 = [s0, s1, s2, s3, s4, s5, s6, s7, s8, s9, s10, s11, s12, s13, s14, s15, s16, s17, s18] := rfl
noncomputable def I20 : FnI := fnI T20 "shortest" f20
noncomputable def T21 : List FnI := T20 ++ [I20]
theorem sg20 : sgs T20 = [s0, s1, s2, s3, s4, s5, s6, s7, s8, s9, s10, s11, s12, s13, s14, s15, s16, s17, s18, s19] := rfl
noncomputable def I21 : FnI := fnI T21 "fewest_any" f21
noncomputable def T22 : List FnI := T21 ++ [I21]
theorem sg21 : sgs T21 = [s0, s1, s2, s3, s4, s5, s6, s7, s8, s9, s10, s11, s12, s13, s14, s15, s16, s17, s18, s19, s20] := rfl
noncomputable def I22 : FnI := fnI T22 "_law_result" f22
noncomputable def T23 : List FnI := T22 ++ [I22]
theorem sg22 : sgs T22 = [s0, s1, s2, s3, s4, s5, s6, s7, s8, s9, s10, s11, s12, s13, s14, s15, s16, s17, s18, s19, s20, s21] := rfl
noncomputable def I23 : FnI := fnI T23 "fewest_rules" f23
noncomputable def T24 : List FnI := T23 ++ [I23]
theorem sg23 : sgs T23 = [s0, s1, s2, s3, s4, s5, s6, s7, s8, s9, s10, s11, s12, s13, s14, s15, s16, s17, s18, s19, s20, s21, s22] := rfl
noncomputable def I24 : FnI := fnI T24 "normal" f24
noncomputable def T25 : List FnI := T24 ++ [I24]
theorem sg24 : sgs T24 = [s0, s1, s2, s3, s4, s5, s6, s7, s8, s9, s10, s11, s12, s13, s14, s15, s16, s17, s18, s19, s20, s21, s22, s23] := rfl
noncomputable def I25 : FnI := fnI T25 "can_be_result" f25
noncomputable def T26 : List FnI := T25 ++ [I25]
theorem sg25 : sgs T25 = [s0, s1, s2, s3, s4, s5, s6, s7, s8, s9, s10, s11, s12, s13, s14, s15, s16, s17, s18, s19, s20, s21, s22, s23, s24] := rfl
noncomputable def I26 : FnI := fnI T26 "check_result" f26
noncomputable def T27 : List FnI := T26 ++ [I26]
theorem sg26 : sgs T26 = [s0, s1, s2, s3, s4, s5, s6, s7, s8, s9, s10, s11, s12, s13, s14, s15, s16, s17, s18, s19, s20, s21, s22, s23, s24, s25] := rfl
noncomputable def I27 : FnI := fnI T27 "holds" f27
noncomputable def T28 : List FnI := T27 ++ [I27]
theorem sg27 : sgs T27 = [s0, s1, s2, s3, s4, s5, s6, s7, s8, s9, s10, s11, s12, s13, s14, s15, s16, s17, s18, s19, s20, s21, s22, s23, s24, s25, s26] := rfl
noncomputable def I28 : FnI := fnI T28 "keeps" f28
noncomputable def T29 : List FnI := T28 ++ [I28]
theorem sg28 : sgs T28 = [s0, s1, s2, s3, s4, s5, s6, s7, s8, s9, s10, s11, s12, s13, s14, s15, s16, s17, s18, s19, s20, s21, s22, s23, s24, s25, s26, s27] := rfl
noncomputable def I29 : FnI := fnI T29 "passes" f29
noncomputable def T30 : List FnI := T29 ++ [I29]
theorem sg29 : sgs T29 = [s0, s1, s2, s3, s4, s5, s6, s7, s8, s9, s10, s11, s12, s13, s14, s15, s16, s17, s18, s19, s20, s21, s22, s23, s24, s25, s26, s27, s28] := rfl
noncomputable def I30 : FnI := fnI T30 "_law_holds" f30
noncomputable def T31 : List FnI := T30 ++ [I30]
theorem sg30 : sgs T30 = [s0, s1, s2, s3, s4, s5, s6, s7, s8, s9, s10, s11, s12, s13, s14, s15, s16, s17, s18, s19, s20, s21, s22, s23, s24, s25, s26, s27, s28, s29] := rfl
noncomputable def I31 : FnI := fnI T31 "_law_keeps" f31
noncomputable def T32 : List FnI := T31 ++ [I31]
theorem sg31 : sgs T31 = [s0, s1, s2, s3, s4, s5, s6, s7, s8, s9, s10, s11, s12, s13, s14, s15, s16, s17, s18, s19, s20, s21, s22, s23, s24, s25, s26, s27, s28, s29, s30] := rfl
noncomputable def I32 : FnI := fnI T32 "_law_kind" f32
noncomputable def T33 : List FnI := T32 ++ [I32]
theorem sg32 : sgs T32 = [s0, s1, s2, s3, s4, s5, s6, s7, s8, s9, s10, s11, s12, s13, s14, s15, s16, s17, s18, s19, s20, s21, s22, s23, s24, s25, s26, s27, s28, s29, s30, s31] := rfl
noncomputable def sem33 : Nat → List Wk.D → Wk.M Wk.D
  | 0 => fun _ => stuck
  | m + 1 => runFn (semsOf (T33 ++ [⟨"_law_equal", 2, false, false, sem33 m⟩])) f33
noncomputable def I33 : FnI := ⟨"_law_equal", 2, false, false, sem33 12⟩
noncomputable def T34 : List FnI := T33 ++ [I33]
theorem sg33 : sgs T33 = [s0, s1, s2, s3, s4, s5, s6, s7, s8, s9, s10, s11, s12, s13, s14, s15, s16, s17, s18, s19, s20, s21, s22, s23, s24, s25, s26, s27, s28, s29, s30, s31, s32] := rfl
noncomputable def I34 : FnI := fnI T34 "is_rule" f34
noncomputable def T35 : List FnI := T34 ++ [I34]
theorem sg34 : sgs T34 = [s0, s1, s2, s3, s4, s5, s6, s7, s8, s9, s10, s11, s12, s13, s14, s15, s16, s17, s18, s19, s20, s21, s22, s23, s24, s25, s26, s27, s28, s29, s30, s31, s32, s33] := rfl
noncomputable def I35 : FnI := fnI T35 "law" f35
noncomputable def T36 : List FnI := T35 ++ [I35]
theorem sg35 : sgs T35 = [s0, s1, s2, s3, s4, s5, s6, s7, s8, s9, s10, s11, s12, s13, s14, s15, s16, s17, s18, s19, s20, s21, s22, s23, s24, s25, s26, s27, s28, s29, s30, s31, s32, s33, s34] := rfl
theorem sp0 : S_law_source_v2 I0.sem := law_source_v2_spec (G := semsOf T0)  
theorem sp1 : S_law_draw_v2 I1.sem := law_draw_v2_spec (G := semsOf T1)  
theorem sp2 : S_law_choice I2.sem := law_choice_spec (G := semsOf T2) (c_law_draw := 1) sp1
theorem sp3 : S_law_rule I3.sem := law_rule_spec (G := semsOf T3) (c_law_draw := 1) (c_law_choice := 2) sp1 sp2
theorem sp4 : S_law_scheme I4.sem := law_scheme_spec (G := semsOf T4) (c_law_choice := 2) (c_law_draw := 1) (c_law_rule := 3) sp2 sp1 sp3
theorem sp5 : S_is_between I5.sem := is_between_spec (G := semsOf T5)  
theorem sp6 : S_can_be_rule I6.sem := can_be_rule_spec (G := semsOf T6) (c_is_between := 5) sp5
theorem sp7 : S_is_scheme I7.sem := is_scheme_spec (G := semsOf T7) (c_is_between := 5) (c_can_be_rule := 6) sp5 sp6
theorem sp8 : S_check_scheme I8.sem := check_scheme_spec (G := semsOf T8) (c_is_scheme := 7) sp7
theorem sp9 : S_check_small I9.sem := check_small_spec (G := semsOf T9)  
theorem sp10 : S_bounds_of I10.sem := bounds_of_spec (G := semsOf T10)  
theorem sp11 : S_least_sums I11.sem := least_sums_spec (G := semsOf T11)  
theorem sp12 : S_row_of I12.sem := row_of_spec (G := semsOf T12)  
theorem sp13 : S_weakest_of I13.sem := weakest_of_spec (G := semsOf T13) (c_bounds_of := 10) (c_least_sums := 11) (c_row_of := 12) sp10 sp11 sp12
theorem sp14 : S_weakest_row I14.sem := weakest_row_spec (G := semsOf T14) (c_weakest_of := 13) sp13
theorem sp15 : S_best_sums I15.sem := best_sums_spec (G := semsOf T15)  
theorem sp16 : S_marks_of I16.sem := marks_of_spec (G := semsOf T16) (c_bounds_of := 10) (c_weakest_row := 14) sp10 sp14
theorem sp17 : S_form_of I17.sem := form_of_spec (G := semsOf T17) (c_weakest_row := 14) (c_best_sums := 15) (c_marks_of := 16) sp14 sp15 sp16
theorem sp18 : S_rules_of I18.sem := rules_of_spec (G := semsOf T18)  
theorem sp19 : S_shortest_rules I19.sem := shortest_rules_spec (G := semsOf T19) (c_form_of := 17) (c_rules_of := 18) sp17 sp18
theorem sp20 : S_shortest I20.sem := shortest_spec (G := semsOf T20) (c_check_scheme := 8) (c_check_small := 9) (c_shortest_rules := 19) sp8 sp9 sp19
theorem sp21 : S_fewest_any I21.sem := fewest_any_spec (G := semsOf T21) (c_check_scheme := 8) (c_check_small := 9) (c_shortest_rules := 19) sp8 sp9 sp19
theorem sp22 : S_law_result I22.sem := law_result_spec (G := semsOf T22) (c_law_draw := 1) sp1
theorem sp23 : S_fewest_rules I23.sem := fewest_rules_spec (G := semsOf T23) (c_check_scheme := 8) (c_form_of := 17) sp8 sp17
theorem sp24 : S_normal I24.sem := normal_spec (G := semsOf T24) (c_check_scheme := 8) (c_form_of := 17) sp8 sp17
theorem sp25 : S_can_be_result I25.sem := can_be_result_spec (G := semsOf T25) (c_is_between := 5) sp5
theorem sp26 : S_check_result I26.sem := check_result_spec (G := semsOf T26) (c_check_scheme := 8) (c_can_be_result := 25) sp8 sp25
theorem sp27 : S_holds I27.sem := holds_spec (G := semsOf T27)  
theorem sp28 : S_keeps I28.sem := keeps_spec (G := semsOf T28) (c_holds := 27) sp27
theorem sp29 : S_passes I29.sem := passes_spec (G := semsOf T29) (c_check_result := 26) (c_keeps := 28) sp26 sp28
theorem sp30 : S_law_holds I30.sem := law_holds_spec (G := semsOf T30)  
theorem sp31 : S_law_keeps I31.sem := law_keeps_spec (G := semsOf T31) (c_law_holds := 30) sp30
theorem sp32 : S_law_kind I32.sem := law_kind_spec (G := semsOf T32)  
theorem sp33 : S_law_equal I33.sem := law_equal_spec (sem := sem33) (c_law_kind := 32) (self := 33) (G := fun m => semsOf (T33 ++ [(⟨"_law_equal", 2, false, false, sem33 m⟩ : FnI)])) (fun _ => rfl) (fun _ => rfl) (fun _ => sp32)
theorem sp34 : S_is_rule I34.sem := is_rule_spec (G := semsOf T34) (c_check_scheme := 8) (c_can_be_rule := 6) sp8 sp6
theorem sp35 : S_law I35.sem := law_k28_spec (G := semsOf T35) (c_law_source := 0) (c_law_scheme := 4) (c_shortest := 20) (c_fewest_any := 21) (c_law_result := 22) (c_fewest_rules := 23) (c_normal := 24) (c_passes := 29) (c_law_keeps := 31) (c_law_equal := 33) (c_is_rule := 34) (c_law_choice := 2) sp0 sp4 sp20 sp21 sp22 sp23 sp24 sp29 sp31 sp33 sp34 sp2
section
variable {P : Program} {w : World} {K : PySem.W.Frag} {mg : Str → Option Value} {h : Heap}
theorem all_mk {fa : Addr} (X : K.In h) (G : h.Ns mainGlobals mg) (hfa : mg "law" = some (.ref fa))
    {a0 : Addr} {oc0 kV0 dc0 pm0 cd0 ct0 : Value} {od0 an0 : Option Addr} {sl0 : Array (Option Value)}
    (na0 : PySem.W.nsIn K mainGlobals "_law_source" = some (some (.ref a0)))
    (lk0 : K.lookup a0 = some ⟨oc0, od0, .func (PySem.W.fnOf "_law_source" "_law_source" (defArgs (top 42)) (defBody (top 42)) (defScope (top 42)) .none kV0 dc0 pm0 an0 cd0 ct0), sl0⟩)
    (cd_0 : PySem.W.codeIn K cd0 "_law_source" = true)
    (kp0 : PySem.W.keepIn K (.ref a0) = true)
    {a1 : Addr} {oc1 kV1 dc1 pm1 cd1 ct1 : Value} {od1 an1 : Option Addr} {sl1 : Array (Option Value)}
    (na1 : PySem.W.nsIn K mainGlobals "_law_draw" = some (some (.ref a1)))
    (lk1 : K.lookup a1 = some ⟨oc1, od1, .func (PySem.W.fnOf "_law_draw" "_law_draw" (defArgs (top 43)) (defBody (top 43)) (defScope (top 43)) .none kV1 dc1 pm1 an1 cd1 ct1), sl1⟩)
    (cd_1 : PySem.W.codeIn K cd1 "_law_draw" = true)
    (kp1 : PySem.W.keepIn K (.ref a1) = true)
    {a2 : Addr} {oc2 kV2 dc2 pm2 cd2 ct2 : Value} {od2 an2 : Option Addr} {sl2 : Array (Option Value)}
    (na2 : PySem.W.nsIn K mainGlobals "_law_choice" = some (some (.ref a2)))
    (lk2 : K.lookup a2 = some ⟨oc2, od2, .func (PySem.W.fnOf "_law_choice" "_law_choice" (defArgs (top 44)) (defBody (top 44)) (defScope (top 44)) .none kV2 dc2 pm2 an2 cd2 ct2), sl2⟩)
    (cd_2 : PySem.W.codeIn K cd2 "_law_choice" = true)
    (kp2 : PySem.W.keepIn K (.ref a2) = true)
    {a3 : Addr} {oc3 kV3 dc3 pm3 cd3 ct3 : Value} {od3 an3 : Option Addr} {sl3 : Array (Option Value)}
    (na3 : PySem.W.nsIn K mainGlobals "_law_rule" = some (some (.ref a3)))
    (lk3 : K.lookup a3 = some ⟨oc3, od3, .func (PySem.W.fnOf "_law_rule" "_law_rule" (defArgs (top 47)) (defBody (top 47)) (defScope (top 47)) .none kV3 dc3 pm3 an3 cd3 ct3), sl3⟩)
    (cd_3 : PySem.W.codeIn K cd3 "_law_rule" = true)
    (kp3 : PySem.W.keepIn K (.ref a3) = true)
    {a4 : Addr} {oc4 kV4 dc4 pm4 cd4 ct4 : Value} {od4 an4 : Option Addr} {sl4 : Array (Option Value)}
    (na4 : PySem.W.nsIn K mainGlobals "_law_scheme" = some (some (.ref a4)))
    (lk4 : K.lookup a4 = some ⟨oc4, od4, .func (PySem.W.fnOf "_law_scheme" "_law_scheme" (defArgs (top 48)) (defBody (top 48)) (defScope (top 48)) .none kV4 dc4 pm4 an4 cd4 ct4), sl4⟩)
    (cd_4 : PySem.W.codeIn K cd4 "_law_scheme" = true)
    (kp4 : PySem.W.keepIn K (.ref a4) = true)
    {a5 : Addr} {oc5 kV5 dc5 pm5 cd5 ct5 : Value} {od5 an5 : Option Addr} {sl5 : Array (Option Value)}
    (na5 : PySem.W.nsIn K mainGlobals "is_between" = some (some (.ref a5)))
    (lk5 : K.lookup a5 = some ⟨oc5, od5, .func (PySem.W.fnOf "is_between" "is_between" (defArgs (top 10)) (defBody (top 10)) (defScope (top 10)) .none kV5 dc5 pm5 an5 cd5 ct5), sl5⟩)
    (cd_5 : PySem.W.codeIn K cd5 "is_between" = true)
    (kp5 : PySem.W.keepIn K (.ref a5) = true)
    {a6 : Addr} {oc6 kV6 dc6 pm6 cd6 ct6 : Value} {od6 an6 : Option Addr} {sl6 : Array (Option Value)}
    (na6 : PySem.W.nsIn K mainGlobals "can_be_rule" = some (some (.ref a6)))
    (lk6 : K.lookup a6 = some ⟨oc6, od6, .func (PySem.W.fnOf "can_be_rule" "can_be_rule" (defArgs (top 11)) (defBody (top 11)) (defScope (top 11)) .none kV6 dc6 pm6 an6 cd6 ct6), sl6⟩)
    (cd_6 : PySem.W.codeIn K cd6 "can_be_rule" = true)
    (kp6 : PySem.W.keepIn K (.ref a6) = true)
    {a7 : Addr} {oc7 kV7 dc7 pm7 cd7 ct7 : Value} {od7 an7 : Option Addr} {sl7 : Array (Option Value)}
    (na7 : PySem.W.nsIn K mainGlobals "is_scheme" = some (some (.ref a7)))
    (lk7 : K.lookup a7 = some ⟨oc7, od7, .func (PySem.W.fnOf "is_scheme" "is_scheme" (defArgs (top 12)) (defBody (top 12)) (defScope (top 12)) .none kV7 dc7 pm7 an7 cd7 ct7), sl7⟩)
    (cd_7 : PySem.W.codeIn K cd7 "is_scheme" = true)
    (kp7 : PySem.W.keepIn K (.ref a7) = true)
    {a8 : Addr} {oc8 kV8 dc8 pm8 cd8 ct8 : Value} {od8 an8 : Option Addr} {sl8 : Array (Option Value)}
    (na8 : PySem.W.nsIn K mainGlobals "check_scheme" = some (some (.ref a8)))
    (lk8 : K.lookup a8 = some ⟨oc8, od8, .func (PySem.W.fnOf "check_scheme" "check_scheme" (defArgs (top 13)) (defBody (top 13)) (defScope (top 13)) .none kV8 dc8 pm8 an8 cd8 ct8), sl8⟩)
    (cd_8 : PySem.W.codeIn K cd8 "check_scheme" = true)
    (kp8 : PySem.W.keepIn K (.ref a8) = true)
    {a9 : Addr} {oc9 kV9 dc9 pm9 cd9 ct9 : Value} {od9 an9 : Option Addr} {sl9 : Array (Option Value)}
    (na9 : PySem.W.nsIn K mainGlobals "check_small" = some (some (.ref a9)))
    (lk9 : K.lookup a9 = some ⟨oc9, od9, .func (PySem.W.fnOf "check_small" "check_small" (defArgs (top 22)) (defBody (top 22)) (defScope (top 22)) .none kV9 dc9 pm9 an9 cd9 ct9), sl9⟩)
    (cd_9 : PySem.W.codeIn K cd9 "check_small" = true)
    (kp9 : PySem.W.keepIn K (.ref a9) = true)
    {a10 : Addr} {oc10 kV10 dc10 pm10 cd10 ct10 : Value} {od10 an10 : Option Addr} {sl10 : Array (Option Value)}
    (na10 : PySem.W.nsIn K mainGlobals "bounds_of" = some (some (.ref a10)))
    (lk10 : K.lookup a10 = some ⟨oc10, od10, .func (PySem.W.fnOf "bounds_of" "bounds_of" (defArgs (top 24)) (defBody (top 24)) (defScope (top 24)) .none kV10 dc10 pm10 an10 cd10 ct10), sl10⟩)
    (cd_10 : PySem.W.codeIn K cd10 "bounds_of" = true)
    (kp10 : PySem.W.keepIn K (.ref a10) = true)
    {a11 : Addr} {oc11 kV11 dc11 pm11 cd11 ct11 : Value} {od11 an11 : Option Addr} {sl11 : Array (Option Value)}
    (na11 : PySem.W.nsIn K mainGlobals "least_sums" = some (some (.ref a11)))
    (lk11 : K.lookup a11 = some ⟨oc11, od11, .func (PySem.W.fnOf "least_sums" "least_sums" (defArgs (top 25)) (defBody (top 25)) (defScope (top 25)) .none kV11 dc11 pm11 an11 cd11 ct11), sl11⟩)
    (cd_11 : PySem.W.codeIn K cd11 "least_sums" = true)
    (kp11 : PySem.W.keepIn K (.ref a11) = true)
    {a12 : Addr} {oc12 kV12 dc12 pm12 cd12 ct12 : Value} {od12 an12 : Option Addr} {sl12 : Array (Option Value)}
    (na12 : PySem.W.nsIn K mainGlobals "row_of" = some (some (.ref a12)))
    (lk12 : K.lookup a12 = some ⟨oc12, od12, .func (PySem.W.fnOf "row_of" "row_of" (defArgs (top 26)) (defBody (top 26)) (defScope (top 26)) .none kV12 dc12 pm12 an12 cd12 ct12), sl12⟩)
    (cd_12 : PySem.W.codeIn K cd12 "row_of" = true)
    (kp12 : PySem.W.keepIn K (.ref a12) = true)
    {a13 : Addr} {oc13 kV13 dc13 pm13 cd13 ct13 : Value} {od13 an13 : Option Addr} {sl13 : Array (Option Value)}
    (na13 : PySem.W.nsIn K mainGlobals "weakest_of" = some (some (.ref a13)))
    (lk13 : K.lookup a13 = some ⟨oc13, od13, .func (PySem.W.fnOf "weakest_of" "weakest_of" (defArgs (top 27)) (defBody (top 27)) (defScope (top 27)) .none kV13 dc13 pm13 an13 cd13 ct13), sl13⟩)
    (cd_13 : PySem.W.codeIn K cd13 "weakest_of" = true)
    (kp13 : PySem.W.keepIn K (.ref a13) = true)
    {a14 : Addr} {oc14 kV14 dc14 pm14 cd14 ct14 : Value} {od14 an14 : Option Addr} {sl14 : Array (Option Value)}
    (na14 : PySem.W.nsIn K mainGlobals "weakest_row" = some (some (.ref a14)))
    (lk14 : K.lookup a14 = some ⟨oc14, od14, .func (PySem.W.fnOf "weakest_row" "weakest_row" (defArgs (top 28)) (defBody (top 28)) (defScope (top 28)) .none kV14 dc14 pm14 an14 cd14 ct14), sl14⟩)
    (cd_14 : PySem.W.codeIn K cd14 "weakest_row" = true)
    (kp14 : PySem.W.keepIn K (.ref a14) = true)
    {a15 : Addr} {oc15 kV15 dc15 pm15 cd15 ct15 : Value} {od15 an15 : Option Addr} {sl15 : Array (Option Value)}
    (na15 : PySem.W.nsIn K mainGlobals "best_sums" = some (some (.ref a15)))
    (lk15 : K.lookup a15 = some ⟨oc15, od15, .func (PySem.W.fnOf "best_sums" "best_sums" (defArgs (top 29)) (defBody (top 29)) (defScope (top 29)) .none kV15 dc15 pm15 an15 cd15 ct15), sl15⟩)
    (cd_15 : PySem.W.codeIn K cd15 "best_sums" = true)
    (kp15 : PySem.W.keepIn K (.ref a15) = true)
    {a16 : Addr} {oc16 kV16 dc16 pm16 cd16 ct16 : Value} {od16 an16 : Option Addr} {sl16 : Array (Option Value)}
    (na16 : PySem.W.nsIn K mainGlobals "marks_of" = some (some (.ref a16)))
    (lk16 : K.lookup a16 = some ⟨oc16, od16, .func (PySem.W.fnOf "marks_of" "marks_of" (defArgs (top 30)) (defBody (top 30)) (defScope (top 30)) .none kV16 dc16 pm16 an16 cd16 ct16), sl16⟩)
    (cd_16 : PySem.W.codeIn K cd16 "marks_of" = true)
    (kp16 : PySem.W.keepIn K (.ref a16) = true)
    {a17 : Addr} {oc17 kV17 dc17 pm17 cd17 ct17 : Value} {od17 an17 : Option Addr} {sl17 : Array (Option Value)}
    (na17 : PySem.W.nsIn K mainGlobals "form_of" = some (some (.ref a17)))
    (lk17 : K.lookup a17 = some ⟨oc17, od17, .func (PySem.W.fnOf "form_of" "form_of" (defArgs (top 31)) (defBody (top 31)) (defScope (top 31)) .none kV17 dc17 pm17 an17 cd17 ct17), sl17⟩)
    (cd_17 : PySem.W.codeIn K cd17 "form_of" = true)
    (kp17 : PySem.W.keepIn K (.ref a17) = true)
    {a18 : Addr} {oc18 kV18 dc18 pm18 cd18 ct18 : Value} {od18 an18 : Option Addr} {sl18 : Array (Option Value)}
    (na18 : PySem.W.nsIn K mainGlobals "rules_of" = some (some (.ref a18)))
    (lk18 : K.lookup a18 = some ⟨oc18, od18, .func (PySem.W.fnOf "rules_of" "rules_of" (defArgs (top 36)) (defBody (top 36)) (defScope (top 36)) .none kV18 dc18 pm18 an18 cd18 ct18), sl18⟩)
    (cd_18 : PySem.W.codeIn K cd18 "rules_of" = true)
    (kp18 : PySem.W.keepIn K (.ref a18) = true)
    {a19 : Addr} {oc19 kV19 dc19 pm19 cd19 ct19 : Value} {od19 an19 : Option Addr} {sl19 : Array (Option Value)}
    (na19 : PySem.W.nsIn K mainGlobals "shortest_rules" = some (some (.ref a19)))
    (lk19 : K.lookup a19 = some ⟨oc19, od19, .func (PySem.W.fnOf "shortest_rules" "shortest_rules" (defArgs (top 38)) (defBody (top 38)) (defScope (top 38)) .none kV19 dc19 pm19 an19 cd19 ct19), sl19⟩)
    (cd_19 : PySem.W.codeIn K cd19 "shortest_rules" = true)
    (kp19 : PySem.W.keepIn K (.ref a19) = true)
    {a20 : Addr} {oc20 kV20 dc20 pm20 cd20 ct20 : Value} {od20 an20 : Option Addr} {sl20 : Array (Option Value)}
    (na20 : PySem.W.nsIn K mainGlobals "shortest" = some (some (.ref a20)))
    (lk20 : K.lookup a20 = some ⟨oc20, od20, .func (PySem.W.fnOf "shortest" "shortest" (defArgs (top 40)) (defBody (top 40)) (defScope (top 40)) .none kV20 dc20 pm20 an20 cd20 ct20), sl20⟩)
    (cd_20 : PySem.W.codeIn K cd20 "shortest" = true)
    (kp20 : PySem.W.keepIn K (.ref a20) = true)
    {a21 : Addr} {oc21 kV21 dc21 pm21 cd21 ct21 : Value} {od21 an21 : Option Addr} {sl21 : Array (Option Value)}
    (na21 : PySem.W.nsIn K mainGlobals "fewest_any" = some (some (.ref a21)))
    (lk21 : K.lookup a21 = some ⟨oc21, od21, .func (PySem.W.fnOf "fewest_any" "fewest_any" (defArgs (top 39)) (defBody (top 39)) (defScope (top 39)) .none kV21 dc21 pm21 an21 cd21 ct21), sl21⟩)
    (cd_21 : PySem.W.codeIn K cd21 "fewest_any" = true)
    (kp21 : PySem.W.keepIn K (.ref a21) = true)
    {a22 : Addr} {oc22 kV22 dc22 pm22 cd22 ct22 : Value} {od22 an22 : Option Addr} {sl22 : Array (Option Value)}
    (na22 : PySem.W.nsIn K mainGlobals "_law_result" = some (some (.ref a22)))
    (lk22 : K.lookup a22 = some ⟨oc22, od22, .func (PySem.W.fnOf "_law_result" "_law_result" (defArgs (top 49)) (defBody (top 49)) (defScope (top 49)) .none kV22 dc22 pm22 an22 cd22 ct22), sl22⟩)
    (cd_22 : PySem.W.codeIn K cd22 "_law_result" = true)
    (kp22 : PySem.W.keepIn K (.ref a22) = true)
    {a23 : Addr} {oc23 kV23 dc23 pm23 cd23 ct23 : Value} {od23 an23 : Option Addr} {sl23 : Array (Option Value)}
    (na23 : PySem.W.nsIn K mainGlobals "fewest_rules" = some (some (.ref a23)))
    (lk23 : K.lookup a23 = some ⟨oc23, od23, .func (PySem.W.fnOf "fewest_rules" "fewest_rules" (defArgs (top 34)) (defBody (top 34)) (defScope (top 34)) .none kV23 dc23 pm23 an23 cd23 ct23), sl23⟩)
    (cd_23 : PySem.W.codeIn K cd23 "fewest_rules" = true)
    (kp23 : PySem.W.keepIn K (.ref a23) = true)
    {a24 : Addr} {oc24 kV24 dc24 pm24 cd24 ct24 : Value} {od24 an24 : Option Addr} {sl24 : Array (Option Value)}
    (na24 : PySem.W.nsIn K mainGlobals "normal" = some (some (.ref a24)))
    (lk24 : K.lookup a24 = some ⟨oc24, od24, .func (PySem.W.fnOf "normal" "normal" (defArgs (top 32)) (defBody (top 32)) (defScope (top 32)) .none kV24 dc24 pm24 an24 cd24 ct24), sl24⟩)
    (cd_24 : PySem.W.codeIn K cd24 "normal" = true)
    (kp24 : PySem.W.keepIn K (.ref a24) = true)
    {a25 : Addr} {oc25 kV25 dc25 pm25 cd25 ct25 : Value} {od25 an25 : Option Addr} {sl25 : Array (Option Value)}
    (na25 : PySem.W.nsIn K mainGlobals "can_be_result" = some (some (.ref a25)))
    (lk25 : K.lookup a25 = some ⟨oc25, od25, .func (PySem.W.fnOf "can_be_result" "can_be_result" (defArgs (top 14)) (defBody (top 14)) (defScope (top 14)) .none kV25 dc25 pm25 an25 cd25 ct25), sl25⟩)
    (cd_25 : PySem.W.codeIn K cd25 "can_be_result" = true)
    (kp25 : PySem.W.keepIn K (.ref a25) = true)
    {a26 : Addr} {oc26 kV26 dc26 pm26 cd26 ct26 : Value} {od26 an26 : Option Addr} {sl26 : Array (Option Value)}
    (na26 : PySem.W.nsIn K mainGlobals "check_result" = some (some (.ref a26)))
    (lk26 : K.lookup a26 = some ⟨oc26, od26, .func (PySem.W.fnOf "check_result" "check_result" (defArgs (top 16)) (defBody (top 16)) (defScope (top 16)) .none kV26 dc26 pm26 an26 cd26 ct26), sl26⟩)
    (cd_26 : PySem.W.codeIn K cd26 "check_result" = true)
    (kp26 : PySem.W.keepIn K (.ref a26) = true)
    {a27 : Addr} {oc27 kV27 dc27 pm27 cd27 ct27 : Value} {od27 an27 : Option Addr} {sl27 : Array (Option Value)}
    (na27 : PySem.W.nsIn K mainGlobals "holds" = some (some (.ref a27)))
    (lk27 : K.lookup a27 = some ⟨oc27, od27, .func (PySem.W.fnOf "holds" "holds" (defArgs (top 17)) (defBody (top 17)) (defScope (top 17)) .none kV27 dc27 pm27 an27 cd27 ct27), sl27⟩)
    (cd_27 : PySem.W.codeIn K cd27 "holds" = true)
    (kp27 : PySem.W.keepIn K (.ref a27) = true)
    {a28 : Addr} {oc28 kV28 dc28 pm28 cd28 ct28 : Value} {od28 an28 : Option Addr} {sl28 : Array (Option Value)}
    (na28 : PySem.W.nsIn K mainGlobals "keeps" = some (some (.ref a28)))
    (lk28 : K.lookup a28 = some ⟨oc28, od28, .func (PySem.W.fnOf "keeps" "keeps" (defArgs (top 18)) (defBody (top 18)) (defScope (top 18)) .none kV28 dc28 pm28 an28 cd28 ct28), sl28⟩)
    (cd_28 : PySem.W.codeIn K cd28 "keeps" = true)
    (kp28 : PySem.W.keepIn K (.ref a28) = true)
    {a29 : Addr} {oc29 kV29 dc29 pm29 cd29 ct29 : Value} {od29 an29 : Option Addr} {sl29 : Array (Option Value)}
    (na29 : PySem.W.nsIn K mainGlobals "passes" = some (some (.ref a29)))
    (lk29 : K.lookup a29 = some ⟨oc29, od29, .func (PySem.W.fnOf "passes" "passes" (defArgs (top 19)) (defBody (top 19)) (defScope (top 19)) .none kV29 dc29 pm29 an29 cd29 ct29), sl29⟩)
    (cd_29 : PySem.W.codeIn K cd29 "passes" = true)
    (kp29 : PySem.W.keepIn K (.ref a29) = true)
    {a30 : Addr} {oc30 kV30 dc30 pm30 cd30 ct30 : Value} {od30 an30 : Option Addr} {sl30 : Array (Option Value)}
    (na30 : PySem.W.nsIn K mainGlobals "_law_holds" = some (some (.ref a30)))
    (lk30 : K.lookup a30 = some ⟨oc30, od30, .func (PySem.W.fnOf "_law_holds" "_law_holds" (defArgs (top 50)) (defBody (top 50)) (defScope (top 50)) .none kV30 dc30 pm30 an30 cd30 ct30), sl30⟩)
    (cd_30 : PySem.W.codeIn K cd30 "_law_holds" = true)
    (kp30 : PySem.W.keepIn K (.ref a30) = true)
    {a31 : Addr} {oc31 kV31 dc31 pm31 cd31 ct31 : Value} {od31 an31 : Option Addr} {sl31 : Array (Option Value)}
    (na31 : PySem.W.nsIn K mainGlobals "_law_keeps" = some (some (.ref a31)))
    (lk31 : K.lookup a31 = some ⟨oc31, od31, .func (PySem.W.fnOf "_law_keeps" "_law_keeps" (defArgs (top 51)) (defBody (top 51)) (defScope (top 51)) .none kV31 dc31 pm31 an31 cd31 ct31), sl31⟩)
    (cd_31 : PySem.W.codeIn K cd31 "_law_keeps" = true)
    (kp31 : PySem.W.keepIn K (.ref a31) = true)
    {a32 : Addr} {oc32 kV32 dc32 pm32 cd32 ct32 : Value} {od32 an32 : Option Addr} {sl32 : Array (Option Value)}
    (na32 : PySem.W.nsIn K mainGlobals "_law_kind" = some (some (.ref a32)))
    (lk32 : K.lookup a32 = some ⟨oc32, od32, .func (PySem.W.fnOf "_law_kind" "_law_kind" (defArgs (top 45)) (defBody (top 45)) (defScope (top 45)) .none kV32 dc32 pm32 an32 cd32 ct32), sl32⟩)
    (cd_32 : PySem.W.codeIn K cd32 "_law_kind" = true)
    (kp32 : PySem.W.keepIn K (.ref a32) = true)
    {a33 : Addr} {oc33 kV33 dc33 pm33 cd33 ct33 : Value} {od33 an33 : Option Addr} {sl33 : Array (Option Value)}
    (na33 : PySem.W.nsIn K mainGlobals "_law_equal" = some (some (.ref a33)))
    (lk33 : K.lookup a33 = some ⟨oc33, od33, .func (PySem.W.fnOf "_law_equal" "_law_equal" (defArgs (top 46)) (defBody (top 46)) (defScope (top 46)) .none kV33 dc33 pm33 an33 cd33 ct33), sl33⟩)
    (cd_33 : PySem.W.codeIn K cd33 "_law_equal" = true)
    (kp33 : PySem.W.keepIn K (.ref a33) = true)
    {a34 : Addr} {oc34 kV34 dc34 pm34 cd34 ct34 : Value} {od34 an34 : Option Addr} {sl34 : Array (Option Value)}
    (na34 : PySem.W.nsIn K mainGlobals "is_rule" = some (some (.ref a34)))
    (lk34 : K.lookup a34 = some ⟨oc34, od34, .func (PySem.W.fnOf "is_rule" "is_rule" (defArgs (top 15)) (defBody (top 15)) (defScope (top 15)) .none kV34 dc34 pm34 an34 cd34 ct34), sl34⟩)
    (cd_34 : PySem.W.codeIn K cd34 "is_rule" = true)
    (kp34 : PySem.W.keepIn K (.ref a34) = true)
    {a35 : Addr} {oc35 kV35 dc35 pm35 cd35 ct35 : Value} {od35 an35 : Option Addr} {sl35 : Array (Option Value)}
    (na35 : PySem.W.nsIn K mainGlobals "law" = some (some (.ref a35)))
    (lk35 : K.lookup a35 = some ⟨oc35, od35, .func (PySem.W.fnOf "law" "law" (defArgs (top 52)) (defBody (top 52)) (defScope (top 52)) .none kV35 dc35 pm35 an35 cd35 ct35), sl35⟩)
    (cd_35 : PySem.W.codeIn K cd35 "law" = true)
    (kp35 : PySem.W.keepIn K (.ref a35) = true)
    (z_len : PySem.W.nsIn K mainGlobals "len" = some none)
    (z_sum : PySem.W.nsIn K mainGlobals "sum" = some none)
    (z_max : PySem.W.nsIn K mainGlobals "max" = some none)
    (z_min : PySem.W.nsIn K mainGlobals "min" = some none)
    (z_any : PySem.W.nsIn K mainGlobals "any" = some none)
    (z_all : PySem.W.nsIn K mainGlobals "all" = some none)
    (z_sorted : PySem.W.nsIn K mainGlobals "sorted" = some none)
    (z_tuple : PySem.W.nsIn K mainGlobals "tuple" = some none)
    (z_list : PySem.W.nsIn K mainGlobals "list" = some none)
    (z_int : PySem.W.nsIn K mainGlobals "int" = some none)
    (z_str : PySem.W.nsIn K mainGlobals "str" = some none)
    (z_bool : PySem.W.nsIn K mainGlobals "bool" = some none)
    (z_range : PySem.W.nsIn K mainGlobals "range" = some none)
    (z_enumerate : PySem.W.nsIn K mainGlobals "enumerate" = some none)
    (z_zip : PySem.W.nsIn K mainGlobals "zip" = some none)
    (z_isinstance : PySem.W.nsIn K mainGlobals "isinstance" = some none)
    {tk0 : Tok} (g0 : PySem.W.nsIn K mainGlobals "MAX_COUNTED" = some (some (.int 4 tk0)))
    {tk1 : Tok} (g1 : PySem.W.nsIn K mainGlobals "MAX_RULES" = some (some (.int 6 tk1)))
    {tk2 : Tok} (g2 : PySem.W.nsIn K mainGlobals "MAX_SUBJECTS" = some (some (.int 6 tk2)))
    {tk3 : Tok} (g3 : PySem.W.nsIn K mainGlobals "MAX_SUM" = some (some (.int 72 tk3)))
    {tk4 : Tok} (g4 : PySem.W.nsIn K mainGlobals "MAX_TOP" = some (some (.int 12 tk4)))
    {C0 : Addr} (e0 : PySem.W.nsIn K mainGlobals "InvalidResult" = some (some (.ref C0))) (ek0 : PySem.W.keepIn K (.ref C0) = true) (ei0 : PySem.W.excIn K C0 [.type "ValueError", .type "Exception", .type "BaseException", .type "object"] "ValueError.__new__" = true) (es0 : PySem.W.subIn K (.ref C0) (.type "BaseException") = some true) (et0 : PySem.W.typeIn K (.ref C0) = some (.type "type"))
    {C1 : Addr} (e1 : PySem.W.nsIn K mainGlobals "InvalidScheme" = some (some (.ref C1))) (ek1 : PySem.W.keepIn K (.ref C1) = true) (ei1 : PySem.W.excIn K C1 [.type "ValueError", .type "Exception", .type "BaseException", .type "object"] "ValueError.__new__" = true) (es1 : PySem.W.subIn K (.ref C1) (.type "BaseException") = some true) (et1 : PySem.W.typeIn K (.ref C1) = some (.type "type"))
    {C2 : Addr} (e2 : PySem.W.nsIn K mainGlobals "TooLarge" = some (some (.ref C2))) (ek2 : PySem.W.keepIn K (.ref C2) = true) (ei2 : PySem.W.excIn K C2 [.type "ValueError", .type "Exception", .type "BaseException", .type "object"] "ValueError.__new__" = true) (es2 : PySem.W.subIn K (.ref C2) (.type "BaseException") = some true) (et2 : PySem.W.typeIn K (.ref C2) = some (.type "type")) :
    ∃ fd : FuncData, (∀ (s : Shared) (v : Value), BindsTo s fd ⟨[v], []⟩ [("script", v)]) ∧ ∀ base : Heap, K.In base → base.Ns mainGlobals mg → FnOk P w K mg base (L2.CX P w) 48 fa fd ["script"] (spI K (exK K) I35) := by
  have e := hfa.symm.trans (PySem.W.mg_of X G na35)
  cases e
  have M : MgOk P w K mg (exK K) cs es := {
    blt := ⟨PySem.W.mg_none_of X G z_len, PySem.W.mg_none_of X G z_sum, PySem.W.mg_none_of X G z_max, PySem.W.mg_none_of X G z_min, PySem.W.mg_none_of X G z_any, PySem.W.mg_none_of X G z_all, PySem.W.mg_none_of X G z_sorted, PySem.W.mg_none_of X G z_tuple, PySem.W.mg_none_of X G z_list, PySem.W.mg_none_of X G z_int, PySem.W.mg_none_of X G z_str, PySem.W.mg_none_of X G z_bool, PySem.W.mg_none_of X G z_range, PySem.W.mg_none_of X G z_enumerate, PySem.W.mg_none_of X G z_zip, PySem.W.mg_none_of X G z_isinstance⟩
    glob := fun p hp => by
      simp only [cs, List.mem_cons, List.not_mem_nil, or_false] at hp
      rcases hp with rfl | rfl | rfl | rfl | rfl
      · exact ⟨_, PySem.W.mg_of X G g0⟩
      · exact ⟨_, PySem.W.mg_of X G g1⟩
      · exact ⟨_, PySem.W.mg_of X G g2⟩
      · exact ⟨_, PySem.W.mg_of X G g3⟩
      · exact ⟨_, PySem.W.mg_of X G g4⟩
    exc := fun c hc => by
      simp only [es, List.mem_cons, List.not_mem_nil, or_false] at hc
      rcases hc with rfl | rfl | rfl
      · exact ⟨_, _, _, _, _, PySem.W.mg_of X G e0, exK_eq e0, ek0, PySem.F.excBase_ValueError, ei0, es0, et0⟩
      · exact ⟨_, _, _, _, _, PySem.W.mg_of X G e1, exK_eq e1, ek1, PySem.F.excBase_ValueError, ei1, es1, et1⟩
      · exact ⟨_, _, _, _, _, PySem.W.mg_of X G e2, exK_eq e2, ek2, PySem.F.excBase_ValueError, ei2, es2, et2⟩
  }
  have F0 := fun_mk (st := top 42) lk0 cd_0 kp0
  have b0 := F0.binds (ps := p0) fun _ _ _ _ _ _ us hl => match us, hl with | [_, _], _ => rfl
  have F1 := fun_mk (st := top 43) lk1 cd_1 kp1
  have b1 := F1.binds (ps := p1) fun _ _ _ _ _ _ us hl => match us, hl with | [_, _], _ => rfl
  have F2 := fun_mk (st := top 44) lk2 cd_2 kp2
  have b2 := F2.binds (ps := p2) fun _ _ _ _ _ _ us hl => match us, hl with | [_, _], _ => rfl
  have F3 := fun_mk (st := top 47) lk3 cd_3 kp3
  have b3 := F3.binds (ps := p3) fun _ _ _ _ _ _ us hl => match us, hl with | [_, _, _], _ => rfl
  have F4 := fun_mk (st := top 48) lk4 cd_4 kp4
  have b4 := F4.binds (ps := p4) fun _ _ _ _ _ _ us hl => match us, hl with | [_, _, _], _ => rfl
  have F5 := fun_mk (st := top 10) lk5 cd_5 kp5
  have b5 := F5.binds (ps := p5) fun _ _ _ _ _ _ us hl => match us, hl with | [_, _, _], _ => rfl
  have F6 := fun_mk (st := top 11) lk6 cd_6 kp6
  have b6 := F6.binds (ps := p6) fun _ _ _ _ _ _ us hl => match us, hl with | [_, _, _], _ => rfl
  have F7 := fun_mk (st := top 12) lk7 cd_7 kp7
  have b7 := F7.binds (ps := p7) fun _ _ _ _ _ _ us hl => match us, hl with | [_], _ => rfl
  have F8 := fun_mk (st := top 13) lk8 cd_8 kp8
  have b8 := F8.binds (ps := p8) fun _ _ _ _ _ _ us hl => match us, hl with | [_], _ => rfl
  have F9 := fun_mk (st := top 22) lk9 cd_9 kp9
  have b9 := F9.binds (ps := p9) fun _ _ _ _ _ _ us hl => match us, hl with | [_], _ => rfl
  have F10 := fun_mk (st := top 24) lk10 cd_10 kp10
  have b10 := F10.binds (ps := p10) fun _ _ _ _ _ _ us hl => match us, hl with | [_, _], _ => rfl
  have F11 := fun_mk (st := top 25) lk11 cd_11 kp11
  have b11 := F11.binds (ps := p11) fun _ _ _ _ _ _ us hl => match us, hl with | [_, _, _], _ => rfl
  have F12 := fun_mk (st := top 26) lk12 cd_12 kp12
  have b12 := F12.binds (ps := p12) fun _ _ _ _ _ _ us hl => match us, hl with | [_], _ => rfl
  have F13 := fun_mk (st := top 27) lk13 cd_13 kp13
  have b13 := F13.binds (ps := p13) fun _ _ _ _ _ _ us hl => match us, hl with | [_, _, _, _], _ => rfl
  have F14 := fun_mk (st := top 28) lk14 cd_14 kp14
  have b14 := F14.binds (ps := p14) fun _ _ _ _ _ _ us hl => match us, hl with | [_], _ => rfl
  have F15 := fun_mk (st := top 29) lk15 cd_15 kp15
  have b15 := F15.binds (ps := p15) fun _ _ _ _ _ _ us hl => match us, hl with | [_], _ => rfl
  have F16 := fun_mk (st := top 30) lk16 cd_16 kp16
  have b16 := F16.binds (ps := p16) fun _ _ _ _ _ _ us hl => match us, hl with | [_], _ => rfl
  have F17 := fun_mk (st := top 31) lk17 cd_17 kp17
  have b17 := F17.binds (ps := p17) fun _ _ _ _ _ _ us hl => match us, hl with | [_], _ => rfl
  have F18 := fun_mk (st := top 36) lk18 cd_18 kp18
  have b18 := F18.binds (ps := p18) fun _ _ _ _ _ _ us hl => match us, hl with | [_], _ => rfl
  have F19 := fun_mk (st := top 38) lk19 cd_19 kp19
  have b19 := F19.binds (ps := p19) fun _ _ _ _ _ _ us hl => match us, hl with | [_], _ => rfl
  have F20 := fun_mk (st := top 40) lk20 cd_20 kp20
  have b20 := F20.binds (ps := p20) fun _ _ _ _ _ _ us hl => match us, hl with | [_], _ => rfl
  have F21 := fun_mk (st := top 39) lk21 cd_21 kp21
  have b21 := F21.binds (ps := p21) fun _ _ _ _ _ _ us hl => match us, hl with | [_], _ => rfl
  have F22 := fun_mk (st := top 49) lk22 cd_22 kp22
  have b22 := F22.binds (ps := p22) fun _ _ _ _ _ _ us hl => match us, hl with | [_, _, _], _ => rfl
  have F23 := fun_mk (st := top 34) lk23 cd_23 kp23
  have b23 := F23.binds (ps := p23) fun _ _ _ _ _ _ us hl => match us, hl with | [_], _ => rfl
  have F24 := fun_mk (st := top 32) lk24 cd_24 kp24
  have b24 := F24.binds (ps := p24) fun _ _ _ _ _ _ us hl => match us, hl with | [_], _ => rfl
  have F25 := fun_mk (st := top 14) lk25 cd_25 kp25
  have b25 := F25.binds (ps := p25) fun _ _ _ _ _ _ us hl => match us, hl with | [_, _], _ => rfl
  have F26 := fun_mk (st := top 16) lk26 cd_26 kp26
  have b26 := F26.binds (ps := p26) fun _ _ _ _ _ _ us hl => match us, hl with | [_, _], _ => rfl
  have F27 := fun_mk (st := top 17) lk27 cd_27 kp27
  have b27 := F27.binds (ps := p27) fun _ _ _ _ _ _ us hl => match us, hl with | [_, _], _ => rfl
  have F28 := fun_mk (st := top 18) lk28 cd_28 kp28
  have b28 := F28.binds (ps := p28) fun _ _ _ _ _ _ us hl => match us, hl with | [_, _], _ => rfl
  have F29 := fun_mk (st := top 19) lk29 cd_29 kp29
  have b29 := F29.binds (ps := p29) fun _ _ _ _ _ _ us hl => match us, hl with | [_, _], _ => rfl
  have F30 := fun_mk (st := top 50) lk30 cd_30 kp30
  have b30 := F30.binds (ps := p30) fun _ _ _ _ _ _ us hl => match us, hl with | [_, _], _ => rfl
  have F31 := fun_mk (st := top 51) lk31 cd_31 kp31
  have b31 := F31.binds (ps := p31) fun _ _ _ _ _ _ us hl => match us, hl with | [_, _], _ => rfl
  have F32 := fun_mk (st := top 45) lk32 cd_32 kp32
  have b32 := F32.binds (ps := p32) fun _ _ _ _ _ _ us hl => match us, hl with | [_], _ => rfl
  have F33 := fun_mk (st := top 46) lk33 cd_33 kp33
  have b33 := F33.binds (ps := p33) fun _ _ _ _ _ _ us hl => match us, hl with | [_, _], _ => rfl
  have F34 := fun_mk (st := top 15) lk34 cd_34 kp34
  have b34 := F34.binds (ps := p34) fun _ _ _ _ _ _ us hl => match us, hl with | [_, _], _ => rfl
  have F35 := fun_mk (st := top 52) lk35 cd_35 kp35
  refine ⟨PySem.W.fnOf "law" "law" (defArgs (top 52)) (defBody (top 52)) (defScope (top 52)) .none kV35 dc35 pm35 an35 cd35 ct35, fun s v => .of_eq rfl, fun base kb gb => ?_⟩
  have h0 : ∀ (i : Nat) (I : FnI), T0[i]? = some I → FnAt P w K mg base (exK K) 0 I := hT_nil
  have A0 : FnAt P w K mg base (exK K) 1 I0 := fn_sound M F0 sc0 (PySem.W.mg_of X G na0) b0 h0 ck0
  have h1 : ∀ (i : Nat) (I : FnI), T1[i]? = some I → FnAt P w K mg base (exK K) 1 I := hT_snoc (by decide) h0 A0
  have A1 : FnAt P w K mg base (exK K) 2 I1 := fn_sound M F1 sc1 (PySem.W.mg_of X G na1) b1 h1 ck1
  have h2 : ∀ (i : Nat) (I : FnI), T2[i]? = some I → FnAt P w K mg base (exK K) 2 I := hT_snoc (by decide) h1 A1
  have A2 : FnAt P w K mg base (exK K) 3 I2 := fn_sound M F2 sc2 (PySem.W.mg_of X G na2) b2 h2 ck2
  have h3 : ∀ (i : Nat) (I : FnI), T3[i]? = some I → FnAt P w K mg base (exK K) 3 I := hT_snoc (by decide) h2 A2
  have A3 : FnAt P w K mg base (exK K) 4 I3 := fn_sound M F3 sc3 (PySem.W.mg_of X G na3) b3 h3 ck3
  have h4 : ∀ (i : Nat) (I : FnI), T4[i]? = some I → FnAt P w K mg base (exK K) 4 I := hT_snoc (by decide) h3 A3
  have A4 : FnAt P w K mg base (exK K) 5 I4 := fn_sound M F4 sc4 (PySem.W.mg_of X G na4) b4 h4 ck4
  have h5 : ∀ (i : Nat) (I : FnI), T5[i]? = some I → FnAt P w K mg base (exK K) 5 I := hT_snoc (by decide) h4 A4
  have A5 : FnAt P w K mg base (exK K) 6 I5 := fn_sound M F5 sc5 (PySem.W.mg_of X G na5) b5 h5 ck5
  have h6 : ∀ (i : Nat) (I : FnI), T6[i]? = some I → FnAt P w K mg base (exK K) 6 I := hT_snoc (by decide) h5 A5
  have A6 : FnAt P w K mg base (exK K) 7 I6 := fn_sound M F6 sc6 (PySem.W.mg_of X G na6) b6 h6 ck6
  have h7 : ∀ (i : Nat) (I : FnI), T7[i]? = some I → FnAt P w K mg base (exK K) 7 I := hT_snoc (by decide) h6 A6
  have A7 : FnAt P w K mg base (exK K) 8 I7 := fn_sound M F7 sc7 (PySem.W.mg_of X G na7) b7 h7 ck7
  have h8 : ∀ (i : Nat) (I : FnI), T8[i]? = some I → FnAt P w K mg base (exK K) 8 I := hT_snoc (by decide) h7 A7
  have A8 : FnAt P w K mg base (exK K) 9 I8 := fn_sound M F8 sc8 (PySem.W.mg_of X G na8) b8 h8 ck8
  have h9 : ∀ (i : Nat) (I : FnI), T9[i]? = some I → FnAt P w K mg base (exK K) 9 I := hT_snoc (by decide) h8 A8
  have A9 : FnAt P w K mg base (exK K) 10 I9 := fn_sound M F9 sc9 (PySem.W.mg_of X G na9) b9 h9 ck9
  have h10 : ∀ (i : Nat) (I : FnI), T10[i]? = some I → FnAt P w K mg base (exK K) 10 I := hT_snoc (by decide) h9 A9
  have A10 : FnAt P w K mg base (exK K) 11 I10 := fn_sound M F10 sc10 (PySem.W.mg_of X G na10) b10 h10 ck10
  have h11 : ∀ (i : Nat) (I : FnI), T11[i]? = some I → FnAt P w K mg base (exK K) 11 I := hT_snoc (by decide) h10 A10
  have A11 : FnAt P w K mg base (exK K) 12 I11 := fn_sound M F11 sc11 (PySem.W.mg_of X G na11) b11 h11 ck11
  have h12 : ∀ (i : Nat) (I : FnI), T12[i]? = some I → FnAt P w K mg base (exK K) 12 I := hT_snoc (by decide) h11 A11
  have A12 : FnAt P w K mg base (exK K) 13 I12 := fn_sound M F12 sc12 (PySem.W.mg_of X G na12) b12 h12 ck12
  have h13 : ∀ (i : Nat) (I : FnI), T13[i]? = some I → FnAt P w K mg base (exK K) 13 I := hT_snoc (by decide) h12 A12
  have A13 : FnAt P w K mg base (exK K) 14 I13 := fn_sound M F13 sc13 (PySem.W.mg_of X G na13) b13 h13 ck13
  have h14 : ∀ (i : Nat) (I : FnI), T14[i]? = some I → FnAt P w K mg base (exK K) 14 I := hT_snoc (by decide) h13 A13
  have A14 : FnAt P w K mg base (exK K) 15 I14 := fn_sound M F14 sc14 (PySem.W.mg_of X G na14) b14 h14 ck14
  have h15 : ∀ (i : Nat) (I : FnI), T15[i]? = some I → FnAt P w K mg base (exK K) 15 I := hT_snoc (by decide) h14 A14
  have A15 : FnAt P w K mg base (exK K) 16 I15 := fn_sound M F15 sc15 (PySem.W.mg_of X G na15) b15 h15 ck15
  have h16 : ∀ (i : Nat) (I : FnI), T16[i]? = some I → FnAt P w K mg base (exK K) 16 I := hT_snoc (by decide) h15 A15
  have A16 : FnAt P w K mg base (exK K) 17 I16 := fn_sound M F16 sc16 (PySem.W.mg_of X G na16) b16 h16 ck16
  have h17 : ∀ (i : Nat) (I : FnI), T17[i]? = some I → FnAt P w K mg base (exK K) 17 I := hT_snoc (by decide) h16 A16
  have A17 : FnAt P w K mg base (exK K) 18 I17 := fn_sound M F17 sc17 (PySem.W.mg_of X G na17) b17 h17 ck17
  have h18 : ∀ (i : Nat) (I : FnI), T18[i]? = some I → FnAt P w K mg base (exK K) 18 I := hT_snoc (by decide) h17 A17
  have A18 : FnAt P w K mg base (exK K) 19 I18 := fn_sound M F18 sc18 (PySem.W.mg_of X G na18) b18 h18 ck18
  have h19 : ∀ (i : Nat) (I : FnI), T19[i]? = some I → FnAt P w K mg base (exK K) 19 I := hT_snoc (by decide) h18 A18
  have A19 : FnAt P w K mg base (exK K) 20 I19 := fn_sound M F19 sc19 (PySem.W.mg_of X G na19) b19 h19 ck19
  have h20 : ∀ (i : Nat) (I : FnI), T20[i]? = some I → FnAt P w K mg base (exK K) 20 I := hT_snoc (by decide) h19 A19
  have A20 : FnAt P w K mg base (exK K) 21 I20 := fn_sound M F20 sc20 (PySem.W.mg_of X G na20) b20 h20 ck20
  have h21 : ∀ (i : Nat) (I : FnI), T21[i]? = some I → FnAt P w K mg base (exK K) 21 I := hT_snoc (by decide) h20 A20
  have A21 : FnAt P w K mg base (exK K) 22 I21 := fn_sound M F21 sc21 (PySem.W.mg_of X G na21) b21 h21 ck21
  have h22 : ∀ (i : Nat) (I : FnI), T22[i]? = some I → FnAt P w K mg base (exK K) 22 I := hT_snoc (by decide) h21 A21
  have A22 : FnAt P w K mg base (exK K) 23 I22 := fn_sound M F22 sc22 (PySem.W.mg_of X G na22) b22 h22 ck22
  have h23 : ∀ (i : Nat) (I : FnI), T23[i]? = some I → FnAt P w K mg base (exK K) 23 I := hT_snoc (by decide) h22 A22
  have A23 : FnAt P w K mg base (exK K) 24 I23 := fn_sound M F23 sc23 (PySem.W.mg_of X G na23) b23 h23 ck23
  have h24 : ∀ (i : Nat) (I : FnI), T24[i]? = some I → FnAt P w K mg base (exK K) 24 I := hT_snoc (by decide) h23 A23
  have A24 : FnAt P w K mg base (exK K) 25 I24 := fn_sound M F24 sc24 (PySem.W.mg_of X G na24) b24 h24 ck24
  have h25 : ∀ (i : Nat) (I : FnI), T25[i]? = some I → FnAt P w K mg base (exK K) 25 I := hT_snoc (by decide) h24 A24
  have A25 : FnAt P w K mg base (exK K) 26 I25 := fn_sound M F25 sc25 (PySem.W.mg_of X G na25) b25 h25 ck25
  have h26 : ∀ (i : Nat) (I : FnI), T26[i]? = some I → FnAt P w K mg base (exK K) 26 I := hT_snoc (by decide) h25 A25
  have A26 : FnAt P w K mg base (exK K) 27 I26 := fn_sound M F26 sc26 (PySem.W.mg_of X G na26) b26 h26 ck26
  have h27 : ∀ (i : Nat) (I : FnI), T27[i]? = some I → FnAt P w K mg base (exK K) 27 I := hT_snoc (by decide) h26 A26
  have A27 : FnAt P w K mg base (exK K) 28 I27 := fn_sound M F27 sc27 (PySem.W.mg_of X G na27) b27 h27 ck27
  have h28 : ∀ (i : Nat) (I : FnI), T28[i]? = some I → FnAt P w K mg base (exK K) 28 I := hT_snoc (by decide) h27 A27
  have A28 : FnAt P w K mg base (exK K) 29 I28 := fn_sound M F28 sc28 (PySem.W.mg_of X G na28) b28 h28 ck28
  have h29 : ∀ (i : Nat) (I : FnI), T29[i]? = some I → FnAt P w K mg base (exK K) 29 I := hT_snoc (by decide) h28 A28
  have A29 : FnAt P w K mg base (exK K) 30 I29 := fn_sound M F29 sc29 (PySem.W.mg_of X G na29) b29 h29 ck29
  have h30 : ∀ (i : Nat) (I : FnI), T30[i]? = some I → FnAt P w K mg base (exK K) 30 I := hT_snoc (by decide) h29 A29
  have A30 : FnAt P w K mg base (exK K) 31 I30 := fn_sound M F30 sc30 (PySem.W.mg_of X G na30) b30 h30 ck30
  have h31 : ∀ (i : Nat) (I : FnI), T31[i]? = some I → FnAt P w K mg base (exK K) 31 I := hT_snoc (by decide) h30 A30
  have A31 : FnAt P w K mg base (exK K) 32 I31 := fn_sound M F31 sc31 (PySem.W.mg_of X G na31) b31 h31 ck31
  have h32 : ∀ (i : Nat) (I : FnI), T32[i]? = some I → FnAt P w K mg base (exK K) 32 I := hT_snoc (by decide) h31 A31
  have A32 : FnAt P w K mg base (exK K) 33 I32 := fn_sound M F32 sc32 (PySem.W.mg_of X G na32) b32 h32 ck32
  have h33 : ∀ (i : Nat) (I : FnI), T33[i]? = some I → FnAt P w K mg base (exK K) 33 I := hT_snoc (by decide) h32 A32
  have A33 : FnAt P w K mg base (exK K) 46 I33 := fn_rec M F33 sc33 (PySem.W.mg_of X G na33) b33 h33 sem33 rfl (fun _ => rfl) rfl ck33 12
  have h34 : ∀ (i : Nat) (I : FnI), T34[i]? = some I → FnAt P w K mg base (exK K) 46 I := hT_snoc (by decide) h33 A33
  have A34 : FnAt P w K mg base (exK K) 47 I34 := fn_sound M F34 sc34 (PySem.W.mg_of X G na34) b34 h34 ck34
  have h35 : ∀ (i : Nat) (I : FnI), T35[i]? = some I → FnAt P w K mg base (exK K) 47 I := hT_snoc (by decide) h34 A34
  exact fn_ok M F35 sc35 h35 ck35
end
end K28
set_option maxRecDepth 100000
set_option maxHeartbeats 4000000
namespace K28
open PySem PySem.Spec PyProof.Rows L2 Wk
theorem walk {l : PySem.W.OpenLaw} {q : Program} {loose : List Str} {XP : (Str → Option Value) → Heap → Prop} {YP : World → Heap → Prop} {d : DefRec} {K : Params → PySem.W.Frag} (hn : l.most = some 63) (hnm : d.name = "law") (hdf : d.params.defaults = [])
    (hY : ∀ (w : World) (h : Heap), YP w h → (K w.params).In h)
    (F : ∀ (w : World) (mg : Str → Option Value) (fa : Addr) (h : Heap), (K w.params).In h → h.Ns mainGlobals mg → mg "law" = some (.ref fa) →
      ∃ fd : FuncData, (∀ (s : Shared) (u : Value), BindsTo s fd ⟨[u], []⟩ [("script", u)]) ∧ ∀ base : Heap, (K w.params).In base → base.Ns mainGlobals mg → FnOk l.prog w (K w.params) mg base (L2.CX l.prog w) 48 fa fd ["script"] (spI (K w.params) (exK (K w.params)) I35)) :
    PySem.W.WalkO q loose XP YP l.row.toRowW d [] (fun f vs => PySem.call f vs) := by
  refine L2.walk_of (n := 63) (k := 48) (x := "script") (CX := fun w => L2.CX l.prog w) (sp := fun w => spI (K w.params) (exK (K w.params)) I35) hn (by decide) hdf ⟨rfl, by decide, by decide⟩ hY (fun w mg fa h k g m => F w mg fa h k g (by rw [← hnm]; exact m)) (fun w H a ns hl hO hS => law_sp rfl rfl rfl hS (sp35 ns hl)) (fun w H s e s' z => ?_)
  obtain ⟨_, _, _, _, _, _, _, _, _, _, _, _, z⟩ := z
  exact z
end K28
open PySem PySem.W PyProof.Rows in
set_option maxRecDepth 100000 in
set_option maxHeartbeats 0 in
theorem PySem.Challenge.cw_weakestpass_k28_whole_shortest_rules_holds : PySem.Challenge.rw_weakestpass_k28_whole_shortest_rules.Holds := by
  w_on; o_law; k_head; (case hw => w_witness2)
  k_fill
  refine K28.walk (l := PySem.Challenge.rw_weakestpass_k28_whole_shortest_rules) rfl rfl rfl (fun w h Y => PySem.W.kIn_of Y) ?F
  case F =>
    intro w mg fa h KX G hmg
    refine' K28.all_mk KX G hmg ?kk_na0 ?kk_lk0 ?kk_cd_0 ?kk_kp0 ?kk_na1 ?kk_lk1 ?kk_cd_1 ?kk_kp1 ?kk_na2 ?kk_lk2 ?kk_cd_2 ?kk_kp2 ?kk_na3 ?kk_lk3 ?kk_cd_3 ?kk_kp3 ?kk_na4 ?kk_lk4 ?kk_cd_4 ?kk_kp4 ?kk_na5 ?kk_lk5 ?kk_cd_5 ?kk_kp5 ?kk_na6 ?kk_lk6 ?kk_cd_6 ?kk_kp6 ?kk_na7 ?kk_lk7 ?kk_cd_7 ?kk_kp7 ?kk_na8 ?kk_lk8 ?kk_cd_8 ?kk_kp8 ?kk_na9 ?kk_lk9 ?kk_cd_9 ?kk_kp9 ?kk_na10 ?kk_lk10 ?kk_cd_10 ?kk_kp10 ?kk_na11 ?kk_lk11 ?kk_cd_11 ?kk_kp11 ?kk_na12 ?kk_lk12 ?kk_cd_12 ?kk_kp12 ?kk_na13 ?kk_lk13 ?kk_cd_13 ?kk_kp13 ?kk_na14 ?kk_lk14 ?kk_cd_14 ?kk_kp14 ?kk_na15 ?kk_lk15 ?kk_cd_15 ?kk_kp15 ?kk_na16 ?kk_lk16 ?kk_cd_16 ?kk_kp16 ?kk_na17 ?kk_lk17 ?kk_cd_17 ?kk_kp17 ?kk_na18 ?kk_lk18 ?kk_cd_18 ?kk_kp18 ?kk_na19 ?kk_lk19 ?kk_cd_19 ?kk_kp19 ?kk_na20 ?kk_lk20 ?kk_cd_20 ?kk_kp20 ?kk_na21 ?kk_lk21 ?kk_cd_21 ?kk_kp21 ?kk_na22 ?kk_lk22 ?kk_cd_22 ?kk_kp22 ?kk_na23 ?kk_lk23 ?kk_cd_23 ?kk_kp23 ?kk_na24 ?kk_lk24 ?kk_cd_24 ?kk_kp24 ?kk_na25 ?kk_lk25 ?kk_cd_25 ?kk_kp25 ?kk_na26 ?kk_lk26 ?kk_cd_26 ?kk_kp26 ?kk_na27 ?kk_lk27 ?kk_cd_27 ?kk_kp27 ?kk_na28 ?kk_lk28 ?kk_cd_28 ?kk_kp28 ?kk_na29 ?kk_lk29 ?kk_cd_29 ?kk_kp29 ?kk_na30 ?kk_lk30 ?kk_cd_30 ?kk_kp30 ?kk_na31 ?kk_lk31 ?kk_cd_31 ?kk_kp31 ?kk_na32 ?kk_lk32 ?kk_cd_32 ?kk_kp32 ?kk_na33 ?kk_lk33 ?kk_cd_33 ?kk_kp33 ?kk_na34 ?kk_lk34 ?kk_cd_34 ?kk_kp34 ?kk_na35 ?kk_lk35 ?kk_cd_35 ?kk_kp35 ?kk_z_len ?kk_z_sum ?kk_z_max ?kk_z_min ?kk_z_any ?kk_z_all ?kk_z_sorted ?kk_z_tuple ?kk_z_list ?kk_z_int ?kk_z_str ?kk_z_bool ?kk_z_range ?kk_z_enumerate ?kk_z_zip ?kk_z_isinstance ?kk_g0 ?kk_g1 ?kk_g2 ?kk_g3 ?kk_g4 ?kk_e0 ?kk_ek0 ?kk_ei0 ?kk_es0 ?kk_et0 ?kk_e1 ?kk_ek1 ?kk_ei1 ?kk_es1 ?kk_et1 ?kk_e2 ?kk_ek2 ?kk_ei2 ?kk_es2 ?kk_et2
    (case kk_na0 => k_is)
    (case kk_lk0 => k_is)
    (case kk_cd_0 => k_is)
    (case kk_kp0 => k_is)
    (case kk_na1 => k_is)
    (case kk_lk1 => k_is)
    (case kk_cd_1 => k_is)
    (case kk_kp1 => k_is)
    (case kk_na2 => k_is)
    (case kk_lk2 => k_is)
    (case kk_cd_2 => k_is)
    (case kk_kp2 => k_is)
    (case kk_na3 => k_is)
    (case kk_lk3 => k_is)
    (case kk_cd_3 => k_is)
    (case kk_kp3 => k_is)
    (case kk_na4 => k_is)
    (case kk_lk4 => k_is)
    (case kk_cd_4 => k_is)
    (case kk_kp4 => k_is)
    (case kk_na5 => k_is)
    (case kk_lk5 => k_is)
    (case kk_cd_5 => k_is)
    (case kk_kp5 => k_is)
    (case kk_na6 => k_is)
    (case kk_lk6 => k_is)
    (case kk_cd_6 => k_is)
    (case kk_kp6 => k_is)
    (case kk_na7 => k_is)
    (case kk_lk7 => k_is)
    (case kk_cd_7 => k_is)
    (case kk_kp7 => k_is)
    (case kk_na8 => k_is)
    (case kk_lk8 => k_is)
    (case kk_cd_8 => k_is)
    (case kk_kp8 => k_is)
    (case kk_na9 => k_is)
    (case kk_lk9 => k_is)
    (case kk_cd_9 => k_is)
    (case kk_kp9 => k_is)
    (case kk_na10 => k_is)
    (case kk_lk10 => k_is)
    (case kk_cd_10 => k_is)
    (case kk_kp10 => k_is)
    (case kk_na11 => k_is)
    (case kk_lk11 => k_is)
    (case kk_cd_11 => k_is)
    (case kk_kp11 => k_is)
    (case kk_na12 => k_is)
    (case kk_lk12 => k_is)
    (case kk_cd_12 => k_is)
    (case kk_kp12 => k_is)
    (case kk_na13 => k_is)
    (case kk_lk13 => k_is)
    (case kk_cd_13 => k_is)
    (case kk_kp13 => k_is)
    (case kk_na14 => k_is)
    (case kk_lk14 => k_is)
    (case kk_cd_14 => k_is)
    (case kk_kp14 => k_is)
    (case kk_na15 => k_is)
    (case kk_lk15 => k_is)
    (case kk_cd_15 => k_is)
    (case kk_kp15 => k_is)
    (case kk_na16 => k_is)
    (case kk_lk16 => k_is)
    (case kk_cd_16 => k_is)
    (case kk_kp16 => k_is)
    (case kk_na17 => k_is)
    (case kk_lk17 => k_is)
    (case kk_cd_17 => k_is)
    (case kk_kp17 => k_is)
    (case kk_na18 => k_is)
    (case kk_lk18 => k_is)
    (case kk_cd_18 => k_is)
    (case kk_kp18 => k_is)
    (case kk_na19 => k_is)
    (case kk_lk19 => k_is)
    (case kk_cd_19 => k_is)
    (case kk_kp19 => k_is)
    (case kk_na20 => k_is)
    (case kk_lk20 => k_is)
    (case kk_cd_20 => k_is)
    (case kk_kp20 => k_is)
    (case kk_na21 => k_is)
    (case kk_lk21 => k_is)
    (case kk_cd_21 => k_is)
    (case kk_kp21 => k_is)
    (case kk_na22 => k_is)
    (case kk_lk22 => k_is)
    (case kk_cd_22 => k_is)
    (case kk_kp22 => k_is)
    (case kk_na23 => k_is)
    (case kk_lk23 => k_is)
    (case kk_cd_23 => k_is)
    (case kk_kp23 => k_is)
    (case kk_na24 => k_is)
    (case kk_lk24 => k_is)
    (case kk_cd_24 => k_is)
    (case kk_kp24 => k_is)
    (case kk_na25 => k_is)
    (case kk_lk25 => k_is)
    (case kk_cd_25 => k_is)
    (case kk_kp25 => k_is)
    (case kk_na26 => k_is)
    (case kk_lk26 => k_is)
    (case kk_cd_26 => k_is)
    (case kk_kp26 => k_is)
    (case kk_na27 => k_is)
    (case kk_lk27 => k_is)
    (case kk_cd_27 => k_is)
    (case kk_kp27 => k_is)
    (case kk_na28 => k_is)
    (case kk_lk28 => k_is)
    (case kk_cd_28 => k_is)
    (case kk_kp28 => k_is)
    (case kk_na29 => k_is)
    (case kk_lk29 => k_is)
    (case kk_cd_29 => k_is)
    (case kk_kp29 => k_is)
    (case kk_na30 => k_is)
    (case kk_lk30 => k_is)
    (case kk_cd_30 => k_is)
    (case kk_kp30 => k_is)
    (case kk_na31 => k_is)
    (case kk_lk31 => k_is)
    (case kk_cd_31 => k_is)
    (case kk_kp31 => k_is)
    (case kk_na32 => k_is)
    (case kk_lk32 => k_is)
    (case kk_cd_32 => k_is)
    (case kk_kp32 => k_is)
    (case kk_na33 => k_is)
    (case kk_lk33 => k_is)
    (case kk_cd_33 => k_is)
    (case kk_kp33 => k_is)
    (case kk_na34 => k_is)
    (case kk_lk34 => k_is)
    (case kk_cd_34 => k_is)
    (case kk_kp34 => k_is)
    (case kk_na35 => k_is)
    (case kk_lk35 => k_is)
    (case kk_cd_35 => k_is)
    (case kk_kp35 => k_is)
    (case kk_z_len => k_is)
    (case kk_z_sum => k_is)
    (case kk_z_max => k_is)
    (case kk_z_min => k_is)
    (case kk_z_any => k_is)
    (case kk_z_all => k_is)
    (case kk_z_sorted => k_is)
    (case kk_z_tuple => k_is)
    (case kk_z_list => k_is)
    (case kk_z_int => k_is)
    (case kk_z_str => k_is)
    (case kk_z_bool => k_is)
    (case kk_z_range => k_is)
    (case kk_z_enumerate => k_is)
    (case kk_z_zip => k_is)
    (case kk_z_isinstance => k_is)
    (case kk_g0 => k_is)
    (case kk_g1 => k_is)
    (case kk_g2 => k_is)
    (case kk_g3 => k_is)
    (case kk_g4 => k_is)
    (case kk_e0 => k_is)
    (case kk_ek0 => k_is)
    (case kk_ei0 => k_exc)
    (case kk_es0 => k_is)
    (case kk_et0 => k_is)
    (case kk_e1 => k_is)
    (case kk_ek1 => k_is)
    (case kk_ei1 => k_exc)
    (case kk_es1 => k_is)
    (case kk_et1 => k_is)
    (case kk_e2 => k_is)
    (case kk_ek2 => k_is)
    (case kk_ei2 => k_exc)
    (case kk_es2 => k_is)
    (case kk_et2 => k_is)
