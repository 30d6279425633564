import PyProof.Rows.All
import Wide.All
import OpenK.AllK
import Wide.FinOn
import HandS.ForMost
import HandS.Exc
import HandS.ExcOwn
import HandS.CallSlots
import HandS.WordsExc
import HandS.Comp
import HandS.Wide
import HandS.WideBits
import HandS.TupAny
import HandS.TupMul
import HandS.Style
import HandS.Deep
import HandS.StrMore
import HandS.Text
import HandS.IsInst
import PyProof.Rows.StrPad
import HandS.Zip
import HandS.Rev
import HandS.TryOnly
import HandS.EndBits
import PySem.Challenge.RW_rodleg_k01_wholes
set_option Elab.async false
set_option linter.all false
set_option maxRecDepth 100000
set_option maxHeartbeats 4000000
/-! Low, part 1: data, code, evaluator (plain Lean, no heap of the model). -/
namespace Low

/-- data as a tree; adr: an object that may change (a place in G); slot: what a local of one's own holds (inside the evaluator alone) -/
inductive D where
  | non | bl (b : Bool) | int (i : Int) | str (s : List Nat)
  | tup (xs : List D) | lst (xs : List D) | dic (kvs : List (D × D))
  | ins (c : Nat) (fs : List (Nat × D)) | exc (c : Nat) (fs : List (Nat × D))
  | adr (n : Nat) | slot (i : Nat) | fn (f : Nat)
  deriving Inhabited

/-- an object that may change -/
inductive MO where
  | lst (xs : List D) | dic (kvs : List (D × D)) | ins (c : Nat) (fs : List (Nat × D))
  deriving Inhabited

abbrev G := List MO

/-- a local's slot -/
inductive SV where
  | emp | val (d : D) | own (m : MO)
  deriving Inhabited

abbrev Env := List SV

/-- what an expression comes to -/
inductive Er (α : Type) where
  | ok (a : α) (g : G) | ex (c : Nat) (fs : List (Nat × D)) (g : G) | no
  deriving Inhabited

def Er.bind {α β : Type} : Er α → (α → G → Er β) → Er β
  | .ok a g, k => k a g
  | .ex c fs g, _ => .ex c fs g
  | .no, _ => .no
@[simp] theorem Er.bind_ok {α β : Type} (a : α) (g : G) (k : α → G → Er β) : (Er.ok a g).bind k = k a g := rfl
@[simp] theorem Er.bind_ex {α β : Type} (c : Nat) (fs : List (Nat × D)) (g : G) (k : α → G → Er β) : (Er.ex c fs g : Er α).bind k = .ex c fs g := rfl
@[simp] theorem Er.bind_no {α β : Type} (k : α → G → Er β) : (Er.no : Er α).bind k = .no := rfl

/-- a truth alone -/
def Er.bo : Er D → Er Bool
  | .ok (.bl b) g => .ok b g
  | .ok _ _ => .no
  | .ex c fs g => .ex c fs g
  | .no => .no
@[simp] theorem Er.bo_ok (b : Bool) (g : G) : (Er.ok (.bl b) g).bo = .ok b g := rfl
@[simp] theorem Er.bo_ex (c : Nat) (fs : List (Nat × D)) (g : G) : (Er.ex c fs g : Er D).bo = .ex c fs g := rfl
@[simp] theorem Er.bo_no : (Er.no : Er D).bo = .no := rfl

/-- operations on values (what they read of lists stands as a tree) -/
inductive Op where
  | add | sub | mul | fdiv | mod | pow | shl | shr | neg
  | eq | ne | lt | le | gt | ge | isN | notN | isB (b : Bool) | notB (b : Bool) | isin | notin
  | idx
  | len | abs | int | str | max2 | min2 | sum | all | bitlen | tuple | list | divm
  | zfill | split | join | starts | part
  deriving DecidableEq, Inhabited

/-- classes that isinstance is asked of -/
inductive Ty where
  | int | bool | str | tup | lst | dict | err | own (c : Nat)
  deriving DecidableEq, Inhabited

/-- what a loop goes over -/
inductive Sk where
  | seq | range1 | range2 | enum | zip2 | rev
  deriving DecidableEq, Inhabited

inductive CE where
  | cst (d : D)
  | var (i : Nat)
  | glb (k : Nat)
  | op (o : Op) (es : List CE)
  | slc (o : CE) (lo hi : List CE)
  | bm (o : Op) (r : CE) (es : List CE)
  | chn (o p : Op) (a b c : CE)
  | tt (a : CE)
  | andd (a b : CE) | orr (a b : CE) | nott (a : CE)
  | ife (c a b : CE)
  | tup (es : List CE) | lst (es : List CE)
  | cal (f : Nat) (es : List CE)
  | new (c : Nat) (es : List CE)
  | mth (m : Nat) (o : CE) (es : List CE)
  | fld (f : Nat) (o : CE)
  | isi (e : CE) (ts : List Ty)
  | comp (ws : List Nat) (vs : List Nat) (k : Sk) (src : List CE) (cnd : List CE) (elt : CE)
  deriving Inhabited

inductive CS where
  | asg (i : Nat) (e : CE)
  | own (i : Nat) (e : CE)
  | fix (i : Nat)
  | par (is : List Nat) (es : List CE)
  | unp (is : List Nat) (e : CE)
  | fst (f : Nat) (e : CE)
  | aug (i : Nat) (o : Op) (e : CE)
  | app (i : Nat) (e : CE)
  | iff (c : CE) (a b : List CS)
  | ret (e : CE) | retN
  | retO (i : Nat)
  | pas | brk | cnt
  | exp (e : CE)
  | fr (vs : List Nat) (k : Sk) (src : List CE) (body : List CS)
  | whl (c : CE) (body : List CS)
  | rse (c : Nat) (es : List CE)
  | sup (es : List CE)
  | tre (body : List CS) (cs : List Nat) (i : Nat) (els : List CS)
  deriving Inhabited

/-! ### operations -/
def b2i (b : Bool) : Int := if b then 1 else 0
/-- the product stays within the model's line -/
def mulOk (i j : Int) : Bool := i.natAbs.log2 + j.natAbs.log2 < 134000000
def digs (x : Int) : Nat := if x == 0 then 0 else x.natAbs.log2 / 30 + 1
def divOk (i j : Int) : Bool := j != 0 && !(PySem.Builtin.divisionGoesByPylong i j)
def SZ : Nat := 16777216

/-- an index from the front or the back -/
def ixOf (i : Int) (n : Nat) : Option Nat :=
  if 0 ≤ i then (if i < (n : Int) then some i.toNat else none) else (if -(n : Int) ≤ i then some (i + (n : Int)).toNat else none)
/-- the ends of a slice -/
def cutAt (n d : Nat) : Option Int → Nat
  | none => d
  | some v => if v < 0 then (v + (n : Int)).toNat else min v.toNat n
def cut {α : Type} (lo hi : Option Int) (xs : List α) : List α := (xs.drop (cutAt xs.length 0 lo)).take (cutAt xs.length xs.length hi - cutAt xs.length 0 lo)
def endOf : D → Option (Option Int)
  | .tup [] => some none
  | .int i => some (some i)
  | _ => none

def intsD : List D → Option (List Int)
  | [] => some []
  | .int i :: r => (intsD r).map (i :: ·)
  | _ => none
def strsD : List D → Option (List (List Nat))
  | [] => some []
  | .str i :: r => (strsD r).map (i :: ·)
  | _ => none
def boolsD : List D → Option (List Bool)
  | [] => some []
  | .bl i :: r => (boolsD r).map (i :: ·)
  | _ => none
def repl {α : Type} : Nat → List α → List α
  | 0, _ => []
  | n + 1, xs => xs ++ repl n xs

mutual
def layD : D → Bool
  | .non => true | .bl _ => true | .int _ => true
  | .str s => s.all (· < 0x110000)
  | .tup xs => layDs xs | .lst xs => layDs xs
  | _ => false
def layDs : List D → Bool
  | [] => true
  | x :: xs => layD x && layDs xs
end
mutual
def depD : D → Nat
  | .tup xs => depDs xs + 1 | .lst xs => depDs xs + 1
  | _ => 0
def depDs : List D → Nat
  | [] => 0
  | x :: xs => max (depD x) (depDs xs)
end
mutual
def eqvD : D → D → Bool
  | .non, .non => true
  | .bl a, .bl b => a == b
  | .bl a, .int j => b2i a == j
  | .int i, .bl b => i == b2i b
  | .int i, .int j => i == j
  | .str x, .str y => x == y
  | .lst xs, .lst ys => eqvDs xs ys
  | .tup xs, .tup ys => eqvDs xs ys
  | _, _ => false
def eqvDs : List D → List D → Bool
  | [], [] => true
  | x :: xs, y :: ys => eqvD x y && eqvDs xs ys
  | [], _ :: _ => false
  | _ :: _, [] => false
end
/-- one of these is no list, no tuple: told without a look within -/
def scalD : D → D → Bool
  | .non, .non => true | .non, .int _ => true | .int _, .non => true | .non, .bl _ => true | .bl _, .non => true | .non, .str _ => true | .str _, .non => true
  | .int _, .int _ => true | .bl _, .bl _ => true | .str _, .str _ => true
  | .int _, .str _ => true | .str _, .int _ => true | .bl _, .str _ => true | .str _, .bl _ => true
  | _, _ => false
def eqD (a b : D) : Option Bool :=
  if scalD a b = true then some (eqvD a b)
  else if layD a = true ∧ layD b = true ∧ depD a ≤ 64 ∧ depD b ≤ 64 then some (eqvD a b) else none

def isinD (x : D) (ys : List D) : Option Bool :=
  if layD x = true ∧ layDs ys = true ∧ depD x ≤ 64 ∧ depDs ys ≤ 63 then some (ys.any fun y => eqvD y x) else none
def flatD : D → Bool
  | .non => true | .bl _ => true | .int _ => true | .str _ => true
  | _ => false
/-- one text within another -/
def subAt (x : List Nat) : List Nat → Bool
  | [] => x.isEmpty
  | y :: ys => x.isPrefixOf (y :: ys) || subAt x ys

def truD : D → Option Bool
  | .non => some false
  | .bl b => some b
  | .int i => some (i != 0)
  | .str s => if s.length ≤ SZ then some (!s.isEmpty) else none
  | .lst xs => some (!xs.isEmpty)
  | .tup xs => some (!xs.isEmpty)
  | _ => none

def sAdd : D → D → Option D
  | .int i, .int j => some (.int (i + j))
  | .str a, .str b => if a.length + b.length ≤ SZ then some (.str (a ++ b)) else none
  | .lst a, .lst b => if a.length + b.length ≤ SZ then some (.lst (a ++ b)) else none
  | .tup a, .tup b => if a.length + b.length ≤ SZ then some (.tup (a ++ b)) else none
  | _, _ => none
def sSub : D → D → Option D
  | .int i, .int j => some (.int (i - j))
  | _, _ => none
def sMul : D → D → Option D
  | .int i, .int j => if mulOk i j then some (.int (i * j)) else none
  | .str a, .int j => if a.length * j.toNat ≤ SZ ∧ j.natAbs < 2 ^ 62 then some (.str (repl j.toNat a)) else none
  | _, _ => none
def sDiv : D → D → Option D
  | .int i, .int j => if divOk i j then some (.int (i.fdiv j)) else none
  | _, _ => none
def sMod : D → D → Option D
  | .int i, .int j => if j = 0 then none else some (.int (i.fmod j))
  | _, _ => none
def sPow : D → D → Option D
  | .int i, .int j => if 0 ≤ j ∧ j ≤ 1000000 ∧ i.natAbs < 2 ^ 64 then some (.int (i ^ j.toNat)) else none
  | _, _ => none
def sShl : D → D → Option D
  | .int i, .int j => if 0 ≤ j ∧ (i.natAbs.log2 : Int) + j ≤ 134000000 then some (.int (i * 2 ^ j.toNat)) else none
  | _, _ => none
def sShr : D → D → Option D
  | .int i, .int j => if 0 ≤ j then some (.int (i / 2 ^ j.toNat)) else none
  | _, _ => none
def sNeg : D → Option D
  | .int i => some (.int (-i))
  | _ => none
def sLt : D → D → Option D
  | .int i, .int j => some (.bl (decide (i < j)))
  | _, _ => none
def sLe : D → D → Option D
  | .int i, .int j => some (.bl (decide (i ≤ j)))
  | _, _ => none
def sGt : D → D → Option D
  | .int i, .int j => some (.bl (decide (j < i)))
  | _, _ => none
def sGe : D → D → Option D
  | .int i, .int j => some (.bl (decide (j ≤ i)))
  | _, _ => none
def isNon : D → Option Bool
  | .non => some true
  | .slot _ => none
  | _ => some false
def sIsB (b : Bool) : D → Option Bool
  | .bl a => some (a == b)
  | _ => none
def sIn : D → D → Option Bool
  | .str [a], .str b => some (decide (a ∈ b))
  | a, .lst b => isinD a b
  | a, .tup b => if (a :: b).all flatD then some (b.any fun y => eqvD y a) else none
  | _, _ => none
def sIdx : D → D → Option D
  | .lst xs, .int i => (ixOf i xs.length).bind fun k => xs[k]?
  | .tup xs, .int i => (ixOf i xs.length).bind fun k => xs[k]?
  | .str xs, .int i => if xs.length ≤ SZ then (ixOf i xs.length).bind fun k => (xs[k]?).map fun c => .str [c] else none
  | _, _ => none
def sSlc (d : D) (lo hi : Option Int) : Option D :=
  match d with
  | .str xs => if xs.length ≤ SZ then some (.str (cut lo hi xs)) else none
  | .lst xs => some (.lst (cut lo hi xs))
  | .tup xs => some (.tup (cut lo hi xs))
  | _ => none
def sLen : D → Option D
  | .str s => if s.length ≤ SZ then some (.int s.length) else none
  | .lst s => some (.int s.length)
  | .tup s => some (.int s.length)
  | _ => none
def sAbs : D → Option D
  | .int i => some (.int (if i < 0 then -i else i))
  | _ => none
def sInt : D → Option D
  | .int i => some (.int i)
  | .bl b => some (.int (if b then 1 else 0))
  | .str x => if x.length ≤ 640 then (PySem.intText? ⟨x.toArray⟩).map .int else none
  | _ => none
def sStr : D → Option D
  | .int i => if i.natAbs.log2 < 1920 then some (.str (PySem.Str.ofString (toString i)).cps.toList) else none
  | _ => none
def sMax : D → D → Option D
  | .int i, .int j => some (.int (if j > i then j else i))
  | _, _ => none
def sMin : D → D → Option D
  | .int i, .int j => some (.int (if j < i then j else i))
  | _, _ => none
def sSum : D → Option D
  | .lst xs => (intsD xs).map fun l => .int l.sum
  | _ => none
def sAll : D → Option D
  | .lst xs => (boolsD xs).map fun l => .bl (l.all id)
  | _ => none
def sBit : D → Option D
  | .int i => some (.int (PySem.Builtin.Int.intBits i : Nat))
  | _ => none
def sTup : D → Option D
  | .lst xs => some (.tup xs)
  | .tup xs => some (.tup xs)
  | _ => none
def sLst : D → Option D
  | .lst xs => some (.lst xs)
  | .tup xs => some (.lst xs)
  | _ => none
def sDivm : D → D → Option D
  | .int i, .int j => if 0 < j ∧ PySem.Builtin.divisionGoesByPylong i j = false then some (.tup [.int (i / j), .int (i % j)]) else none
  | _, _ => none
def sZf : D → D → Option D
  | .str s, .int n => if -100000 ≤ n ∧ n ≤ 100000 then some (.str (PySem.Txt.zfill ⟨s.toArray⟩ n).cps.toList) else none
  | _, _ => none

def opS : Op → List D → Option D
  | .add, [a, b] => sAdd a b
  | .sub, [a, b] => sSub a b
  | .mul, [a, b] => sMul a b
  | .fdiv, [a, b] => sDiv a b
  | .mod, [a, b] => sMod a b
  | .pow, [a, b] => sPow a b
  | .shl, [a, b] => sShl a b
  | .shr, [a, b] => sShr a b
  | .neg, [a] => sNeg a
  | .eq, [a, b] => (eqD a b).map .bl
  | .ne, [a, b] => (eqD a b).map fun k => .bl (!k)
  | .lt, [a, b] => sLt a b
  | .le, [a, b] => sLe a b
  | .gt, [a, b] => sGt a b
  | .ge, [a, b] => sGe a b
  | .isN, [a] => (isNon a).map .bl
  | .notN, [a] => (isNon a).map fun k => .bl (!k)
  | .isB b, [a] => (sIsB b a).map .bl
  | .notB b, [a] => (sIsB b a).map fun k => .bl (!k)
  | .isin, [a, b] => (sIn a b).map .bl
  | .notin, [a, b] => (sIn a b).map fun k => .bl (!k)
  | .idx, [a, b] => sIdx a b
  | .len, [a] => sLen a
  | .abs, [a] => sAbs a
  | .int, [a] => sInt a
  | .str, [a] => sStr a
  | .max2, [a, b] => sMax a b
  | .min2, [a, b] => sMin a b
  | .sum, [a] => sSum a
  | .all, [a] => sAll a
  | .bitlen, [a] => sBit a
  | .tuple, [a] => sTup a
  | .list, [a] => sLst a
  | .divm, [a, b] => sDivm a b
  | .zfill, [a, b] => sZf a b
  | _, _ => none

/-- x op= y: numbers and texts alone -/
def augS : Op → D → D → Option D
  | .add, .int i, .int j => some (.int (i + j))
  | .add, .str a, .str b => if a.length + b.length ≤ SZ then some (.str (a ++ b)) else none
  | .sub, .int i, .int j => some (.int (i - j))
  | _, _, _ => none
/-- what a built-in method is called of -/
def bmK : Op → D → Bool
  | .zfill, .str _ => true
  | .bitlen, .int _ => true
  | _, _ => false

/-! ### the table of a program -/
structure Fn where
  np : Nat           -- parameters
  nl : Nat           -- locals in all
  ini : Bool         -- an __init__
  defs : List D      -- defaults of the last parameters
  body : List CS
  deriving Inhabited
structure Cl where
  init : Option Nat          -- its __init__
  mth : List (Nat × Nat)     -- methods by name, with those above
  mro : List Nat             -- itself and those above
  err : Bool := false
  deriving Inhabited
structure Tab where
  fns : List Fn
  cls : List Cl
  glo : List D

def view (env : Env) (g : G) : D → D
  | .slot i => match env[i]? with
    | some (.own (.lst xs)) => .lst xs
    | some (.own (.dic xs)) => .dic xs
    | _ => .slot i
  | .adr n => match g[n]? with
    | some (.lst xs) => .lst xs
    | some (.dic xs) => .dic xs
    | _ => .adr n
  | d => d

/-- an operand: a local of one's own is only looked at -/
def bor (e : CE) (env : Env) (g : G) (r : Er D) : Er D :=
  match e with
  | .var i => match env[i]? with
    | some (.own _) => .ok (.slot i) g
    | _ => r
  | _ => r

def seqD : D → Option (List D)
  | .lst xs => some xs
  | .tup xs => some xs
  | .str s => some (s.map fun c => .str [c])
  | _ => none
def enumD : Nat → List D → List D
  | _, [] => []
  | k, x :: r => .tup [.int k, x] :: enumD (k + 1) r
def rangeD (lo : Int) : Nat → List D
  | 0 => []
  | n + 1 => .int lo :: rangeD (lo + 1) n
/-- the items that a loop takes -/
def itemsA : Sk → D → Option (List D)
  | .seq, d => seqD d
  | .range1, .int n => if -(2 ^ 62) ≤ n ∧ n < 2 ^ 62 then some (rangeD 0 n.toNat) else none
  | .enum, .lst xs => some (enumD 0 xs)
  | .rev, .lst xs => some xs.reverse
  | _, _ => none
def itemsB : Sk → D → D → Option (List D)
  | .range2, .int a, .int b => if (-(2 ^ 62) ≤ a ∧ a < 2 ^ 62) ∧ -(2 ^ 62) ≤ b ∧ b < 2 ^ 62 then some (rangeD a (b - a).toNat) else none
  | .zip2, .lst xs, .lst ys => some ((xs.zip ys).map fun p => .tup [p.1, p.2])
  | _, _, _ => none
def items (k : Sk) : List D → Option (List D)
  | [d] => itemsA k d
  | [d, e] => itemsB k d e
  | _ => none

def setAll : List Nat → List D → Env → Env
  | i :: is, d :: ds, env => setAll is ds (env.set i (.val d))
  | _, _, env => env
/-- a target of names takes an item -/
def tgt : List Nat → D → Env → Option Env
  | [i], d, env => some (env.set i (.val d))
  | is, .tup ds, env => if is.length = ds.length then some (setAll is ds env) else none
  | _, _, _ => none

def tyD (T : Tab) : D → Ty → Option Bool
  | _, .err => none
  | .non, _ => some false
  | .bl _, t => some (t == .bool || t == .int)
  | .int _, t => some (t == .int)
  | .str _, t => some (t == .str)
  | .tup _, t => some (t == .tup)
  | .lst _, t => some (t == .lst)
  | .ins c _, .own k => (T.cls[c]?).map fun x => x.mro.contains k
  | .ins c _, _ => (T.cls[c]?).map fun _ => false
  | .exc c _, .own k => (T.cls[c]?).map fun x => x.mro.contains k
  | _, _ => none
def anyTy (T : Tab) (d : D) : List Ty → Option Bool
  | [] => some false
  | t :: r => match tyD T d t, anyTy T d r with
    | some a, some b => some (a || b)
    | _, _ => none

def wipeE (env : Env) : List Nat → Env
  | [] => env
  | v :: vs => (wipeE env vs).set v .emp

def lookF (fs : List (Nat × D)) (f : Nat) : Option D := (fs.find? fun p => p.1 == f).map (·.2)
def putF (f : Nat) (d : D) : List (Nat × D) → List (Nat × D)
  | [] => [(f, d)]
  | (k, x) :: r => if k = f then (k, d) :: r else (k, x) :: putF f d r

def fill (fn : Fn) (ds : List D) : Option (List D) :=
  if ds.length ≤ fn.np ∧ fn.np ≤ ds.length + fn.defs.length then some (ds ++ fn.defs.drop (ds.length + fn.defs.length - fn.np)) else none

abbrev Runner := Nat → List D → G → Er D

def callF (T : Tab) (R : Runner) (f : Nat) (ds : List D) (g : G) : Er D :=
  match T.fns[f]? with
  | some fn => match fill fn ds with
    | some as => R f as g
    | none => .no
  | none => .no
def makeF (T : Tab) (R : Runner) (c : Nat) (ds : List D) (g : G) : Er D :=
  match T.cls[c]? with
  | some cl => match cl.init with
    | some f => if cl.err then .no else callF T R f (.ins c [] :: ds) g
    | none => .no
  | none => .no
def methF (T : Tab) (R : Runner) (m : Nat) (o : D) (ds : List D) (g : G) : Er D :=
  match o with
  | .ins c fs => match T.cls[c]? with
    | some cl => match cl.mth.lookup m with
      | some f => if (lookF fs m).isSome then .no else callF T R f (o :: ds) g
      | none => .no
    | none => .no
  | _ => .no

/-- a slice's end: a whole number -/
def intE (r : Er D) : Er D := match r with
  | .ok (.int i) g => .ok (.int i) g
  | .ok _ _ => .no
  | q => q
def ofO {α : Type} (g : G) : Option α → Er α
  | some a => .ok a g
  | none => .no

/-- the turns of a comprehension -/
def compL (tg : D → Option Env) (cnd : Env → G → Er Bool) (elt : Env → G → Er D) : List D → List D → G → Er D
  | [], acc, g => .ok (.lst acc) g
  | x :: r, acc, g => match tg x with
    | some env => match cnd env g with
      | .ok b g => if b then (match elt env g with
          | .ok d g => if acc.length < SZ then compL tg cnd elt r (acc ++ [d]) g else .no
          | _ => .no) else compL tg cnd elt r acc g
      | _ => .no
    | none => .no

mutual
def ev (T : Tab) (R : Runner) : CE → Env → G → Er D
  | .cst d, _, g => .ok d g
  | .var i, env, g => match env[i]? with
    | some (.val d) => .ok d g
    | _ => .no
  | .glb k, _, g => ofO g T.glo[k]?
  | .op o es, env, g => (evs T R es env g).bind fun ds g => ofO g (opS o (ds.map (view env g)))
  | .slc o lo hi, env, g => (bor o env g (ev T R o env g)).bind fun x g => (evp T R lo env g).bind fun l g => (evp T R hi env g).bind fun u g => ofO g ((endOf l).bind fun l => (endOf u).bind fun u => sSlc (view env g x) l u)
  | .bm o r es, env, g => (bor r env g (ev T R r env g)).bind fun x g => if bmK o (view env g x) then (evs T R es env g).bind fun ds g => ofO g (opS o (view env g x :: ds.map (view env g))) else .no
  | .chn o p a b c, env, g => (ev T R a env g).bind fun x g => (ev T R b env g).bind fun y g =>
      (ofO g (opS o [x, y])).bo.bind fun k g => if k then (ev T R c env g).bind fun z g => ofO g (opS p [y, z]) else .ok (.bl false) g
  | .tt a, env, g => (bor a env g (ev T R a env g)).bind fun d g => ofO g ((truD (view env g d)).map .bl)
  | .andd a b, env, g => (ev T R a env g).bo.bind fun x g => if x then ev T R b env g else .ok (.bl false) g
  | .orr a b, env, g => (ev T R a env g).bo.bind fun x g => if x then .ok (.bl true) g else ev T R b env g
  | .nott a, env, g => (ev T R a env g).bo.bind fun x g => .ok (.bl (!x)) g
  | .ife c a b, env, g => (ev T R c env g).bo.bind fun x g => if x then ev T R a env g else ev T R b env g
  | .tup es, env, g => (evv T R es env g).bind fun ds g => if ds.length ≤ SZ then .ok (.tup ds) g else .no
  | .lst es, env, g => (evv T R es env g).bind fun ds g => if ds.length ≤ SZ then .ok (.lst ds) g else .no
  | .cal f es, env, g => (evv T R es env g).bind fun ds g => callF T R f ds g
  | .new c es, env, g => (evv T R es env g).bind fun ds g => makeF T R c ds g
  | .mth m o es, env, g => (ev T R o env g).bind fun x g => (evv T R es env g).bind fun ds g => methF T R m x ds g
  | .fld f o, env, g => (ev T R o env g).bind fun x g => match x with
      | .ins _ fs => ofO g (lookF fs f)
      | .exc _ fs => ofO g (lookF fs f)
      | .adr n => match g[n]? with
        | some (.ins _ fs) => ofO g (lookF fs f)
        | _ => .no
      | _ => .no
  | .isi e ts, env, g => (ev T R e env g).bind fun d g => ofO g ((anyTy T d ts).map .bl)
  | .comp ws vs k src cnd elt, env, g => (evv T R src env g).bind fun ds g =>
      match items k ds with
      | some l => compL (fun x => tgt vs x (wipeE env ws)) (fun env g => (evc T R cnd env g).bo) (ev T R elt) l [] g
      | none => .no
/-- operands -/
def evs (T : Tab) (R : Runner) : List CE → Env → G → Er (List D)
  | [], _, g => .ok [] g
  | e :: es, env, g => (bor e env g (ev T R e env g)).bind fun d g => (evs T R es env g).bind fun ds g => .ok (d :: ds) g
/-- arguments, items -/
def evv (T : Tab) (R : Runner) : List CE → Env → G → Er (List D)
  | [], _, g => .ok [] g
  | e :: es, env, g => (ev T R e env g).bind fun d g => (evv T R es env g).bind fun ds g => .ok (d :: ds) g
/-- an end of a slice: none, or a whole number -/
def evp (T : Tab) (R : Runner) : List CE → Env → G → Er D
  | [], _, g => .ok (.tup []) g
  | [e], env, g => intE (ev T R e env g)
  | _, _, _ => .no
/-- the one test of a comprehension, or none -/
def evc (T : Tab) (R : Runner) : List CE → Env → G → Er D
  | [], _, g => .ok (.bl true) g
  | [e], env, g => ev T R e env g
  | _, _, _ => .no
end

/-! ### statements -/
inductive Sr where
  | nx (env : Env) (g : G) | rt (d : D) (env : Env) (g : G) | bk (env : Env) (g : G) | ct (env : Env) (g : G)
  | ex (c : Nat) (fs : List (Nat × D)) (env : Env) (g : G) | no
  deriving Inhabited
def Sr.seq : Sr → (Env → G → Sr) → Sr
  | .nx env g, k => k env g
  | r, _ => r
@[simp] theorem Sr.seq_nx (env : Env) (g : G) (k : Env → G → Sr) : (Sr.nx env g).seq k = k env g := rfl
@[simp] theorem Sr.seq_rt (d : D) (env : Env) (g : G) (k : Env → G → Sr) : (Sr.rt d env g).seq k = .rt d env g := rfl
@[simp] theorem Sr.seq_bk (env : Env) (g : G) (k : Env → G → Sr) : (Sr.bk env g).seq k = .bk env g := rfl
@[simp] theorem Sr.seq_ct (env : Env) (g : G) (k : Env → G → Sr) : (Sr.ct env g).seq k = .ct env g := rfl
@[simp] theorem Sr.seq_ex (c : Nat) (fs : List (Nat × D)) (env : Env) (g : G) (k : Env → G → Sr) : (Sr.ex c fs env g).seq k = .ex c fs env g := rfl
@[simp] theorem Sr.seq_no (k : Env → G → Sr) : Sr.no.seq k = .no := rfl
/-- an expression's answer within a statement -/
def Er.st {α : Type} (r : Er α) (env : Env) (k : α → G → Sr) : Sr :=
  match r with
  | .ok a g => k a g
  | .ex c fs g => .ex c fs env g
  | .no => .no
@[simp] theorem Er.st_ok {α : Type} (a : α) (g : G) (env : Env) (k : α → G → Sr) : (Er.ok a g).st env k = k a g := rfl
@[simp] theorem Er.st_ex {α : Type} (c : Nat) (fs : List (Nat × D)) (g : G) (env : Env) (k : α → G → Sr) : (Er.ex c fs g : Er α).st env k = .ex c fs env g := rfl
@[simp] theorem Er.st_no {α : Type} (env : Env) (k : α → G → Sr) : (Er.no : Er α).st env k = .no := rfl

/-- the turns of a for: an item taken, then the body -/
def forL (tg : D → Env → Option Env) (body : Env → G → Sr) : List D → Env → G → Sr
  | [], env, g => .nx env g
  | x :: r, env, g => match tg x env with
    | some env => match body env g with
      | .nx env g => forL tg body r env g
      | .ct env g => forL tg body r env g
      | .bk env g => .nx env g
      | q => q
    | none => .no
/-- the turns of a while -/
def whlL (c : Env → G → Er D) (body : Env → G → Sr) : Nat → Env → G → Sr
  | 0, _, _ => .no
  | n + 1, env, g => (c env g).bo.st env fun x g => if x then (match body env g with
      | .nx env g => whlL c body n env g
      | .ct env g => whlL c body n env g
      | .bk env g => .nx env g
      | q => q) else .nx env g
/-- more turns than any while takes -/
def LF : Nat := 2 ^ 100

/-- the class of an exception among those that a clause names -/
def caught (T : Tab) (c : Nat) (cs : List Nat) : Bool :=
  match T.cls[c]? with
  | some x => cs.any fun k => x.mro.contains k
  | none => false

def mkErr (T : Tab) (R : Runner) (c : Nat) (ds : List D) (env : Env) (g : G) : Sr :=
  match T.cls[c]? with
  | some cl => if cl.err then (match cl.init with
      | none => .ex c [] env g
      | some f => match callF T R f (.exc c [] :: ds) g with
        | .ok (.exc _ fs) g => .ex c fs env g
        | _ => .no) else .no
  | none => .no

mutual
def exec (T : Tab) (R : Runner) : CS → Env → G → Sr
  | .asg i e, env, g => (ev T R e env g).st env fun d g => .nx (env.set i (.val d)) g
  | .own i e, env, g => (ev T R e env g).st env fun d g => match d with
      | .lst xs => if i = 0 then .no else .nx (env.set i (.own (.lst xs))) g
      | _ => .no
  | .fix i, env, g => match env[i]? with
      | some (.own (.lst xs)) => .nx (env.set i (.val (.lst xs))) g
      | _ => .no
  | .par is es, env, g => (evv T R es env g).st env fun ds g => if is.length = ds.length then .nx (setAll is ds env) g else .no
  | .unp is e, env, g => (bor e env g (ev T R e env g)).st env fun d g => match view env g d with
      | .tup ds => if is.length = ds.length then .nx (setAll is ds env) g else .no
      | .lst ds => if is.length = ds.length then .nx (setAll is ds env) g else .no
      | _ => .no
  | .fst f e, env, g => (ev T R e env g).st env fun d g => match env with
      | .own (.ins c fs) :: r => .nx (.own (.ins c (putF f d fs)) :: r) g
      | .val (.exc c fs) :: r => .nx (.val (.exc c ((f, d) :: fs)) :: r) g
      | _ => .no
  | .aug i o e, env, g => match env[i]? with
      | some (.val x) => (ev T R e env g).st env fun d g => match augS o x d with
        | some z => .nx (env.set i (.val z)) g
        | none => .no
      | _ => .no
  | .app i e, env, g => (ev T R e env g).st env fun d g => match env[i]? with
      | some (.own (.lst xs)) => if xs.length < SZ then .nx (env.set i (.own (.lst (xs ++ [d])))) g else .no
      | _ => .no
  | .iff c a b, env, g => (ev T R c env g).bo.st env fun x g => if x then execs T R a env g else execs T R b env g
  | .ret e, env, g => (ev T R e env g).st env fun d g => .rt d env g
  | .retN, env, g => .rt .non env g
  | .retO i, env, g => match env[i]? with
      | some (.own (.lst xs)) => .rt (.lst xs) env g
      | _ => .no
  | .pas, env, g => .nx env g
  | .brk, env, g => .bk env g
  | .cnt, env, g => .ct env g
  | .exp e, env, g => (ev T R e env g).st env fun _ g => .nx env g
  | .fr vs k src body, env, g => (evv T R src env g).st env fun ds g => match items k ds with
      | some l => forL (fun x env => tgt vs x env) (execs T R body) l env g
      | none => .no
  | .whl c body, env, g => whlL (ev T R c) (execs T R body) LF env g
  | .rse c es, env, g => (evv T R es env g).st env fun ds g => mkErr T R c ds env g
  | .sup es, env, g => (evv T R es env g).st env fun _ g => match env with
      | .val (.exc _ []) :: _ => .nx env g
      | _ => .no
  | .tre body cs i els, env, g => match execs T R body env g with
      | .ex c fs env' g' => if caught T c cs then .nx (env'.set i (.val (.exc c fs))) g' else .ex c fs env' g'
      | .nx env' g' => execs T R els env' g'
      | q => q
def execs (T : Tab) (R : Runner) : List CS → Env → G → Sr
  | [], env, g => .nx env g
  | s :: r, env, g => (exec T R s env g).seq (execs T R r)
end

/-- the slots at a def's entry -/
def entry (fn : Fn) (ds : List D) : Env :=
  let vs := ds.map SV.val ++ List.replicate (fn.nl - ds.length) .emp
  match fn.ini, vs with
  | true, .val (.ins c fs) :: r => .own (.ins c fs) :: r
  | _, vs => vs
/-- a def's end -/
def leave (fn : Fn) : Sr → Er D
  | .rt d env g => if fn.ini then (match d, env with
      | .non, .own (.ins c fs) :: _ => .ok (.ins c fs) g
      | .non, .val (.exc c fs) :: _ => .ok (.exc c fs) g
      | _, _ => .no) else .ok d g
  | .nx env g => if fn.ini then (match env with
      | .own (.ins c fs) :: _ => .ok (.ins c fs) g
      | .val (.exc c fs) :: _ => .ok (.exc c fs) g
      | _ => .no) else .ok .non g
  | .ex c fs _ g => .ex c fs g
  | _ => .no
def run (T : Tab) : Nat → Runner
  | 0, _, _, _ => .no
  | n + 1, f, ds, g => match T.fns[f]? with
    | some fn => if ds.length = fn.np ∧ fn.np ≤ fn.nl then leave fn (execs T (run T n) fn.body (entry fn ds) g) else .no
    | none => .no
end Low

/-! Low, part 2: how data lies in the abstract heap of HandS. -/
namespace Low
open PySem L2

abbrev Frag := PySem.W.Frag

/-- what stays through a law -/
structure Lk where
  T : Tab
  nm : Nat → Str
  ca : Nat → Addr
  K : Frag
  fa : Nat → Addr
  fd : Nat → FuncData
  ps : Nat → List Str

/-- an exception as a value: its class, its dict -/
def exv (a C : Addr) (d : Option Addr) : HO := .ext fun h => ∃ oe : Obj, h.get? a = some oe ∧ Zc (.ref C) d oe ∧ ∃ vs, oe.data = .fields vs

section
variable (L : Lk) (F : Hp) (ρ : List Addr)
mutual
/-- v is the data d: what it is made of stands in F, which nothing changes; places of G by ρ -/
def Rep : D → V → Prop
  | .non, v => v = .non
  | .bl b, v => v = .bl b
  | .int i, v => v = .int i
  | .str s, v => v = .str ⟨s.toArray⟩
  | .tup ds, v => ∃ a vs, v = .ref a ∧ SqT L.K F a vs ∧ Reps ds vs
  | .lst ds, v => ∃ a vs, v = .ref a ∧ SqL L.K F a vs ∧ Reps ds vs
  | .dic _, _ => False
  | .ins c fs, v => ∃ a dx vfs, v = .ref a ∧ F a = some (.ins (L.ca c) dx vfs) ∧ RepF fs vfs
  | .exc c fs, v => ∃ a d, v = .ref a ∧ F a = some (exv a (L.ca c) d) ∧ (fs = [] ∨ ∃ dx vfs, d = some dx ∧ F dx = some (.xd vfs) ∧ RepF fs vfs)
  | .adr n, v => ∃ a, v = .ref a ∧ ρ[n]? = some a
  | .slot _, _ => False
  | .fn _, _ => False
def Reps : List D → List V → Prop
  | [], vs => vs = []
  | d :: ds, vs => ∃ v r, vs = v :: r ∧ Rep d v ∧ Reps ds r
def RepF : List (Nat × D) → List (Str × V) → Prop
  | [], vs => vs = []
  | (k, d) :: ds, vs => ∃ v r, vs = (L.nm k, v) :: r ∧ Rep d v ∧ RepF ds r
end
end

/-- F grows, so does ρ -/
structure Ex (F : Hp) (ρ : List Addr) (F' : Hp) (ρ' : List Addr) : Prop where
  f : ∀ a o, F a = some o → F' a = some o
  r : ∀ (n : Nat) a, ρ[n]? = some a → ρ'[n]? = some a
theorem Ex.refl (F : Hp) (ρ : List Addr) : Ex F ρ F ρ := ⟨fun _ _ h => h, fun _ _ h => h⟩
theorem Ex.trans {F F1 F2 : Hp} {ρ ρ1 ρ2 : List Addr} (a : Ex F ρ F1 ρ1) (b : Ex F1 ρ1 F2 ρ2) : Ex F ρ F2 ρ2 :=
  ⟨fun x o h => b.f x o (a.f x o h), fun n x h => b.r n x (a.r n x h)⟩

theorem Rd.up {F F' : Hp} {a : Addr} {u : HO} (h : ∀ a o, F a = some o → F' a = some o) (r : Rd F a u) : Rd F' a u := by
  rcases r with r | ⟨o, r⟩
  · exact .inl (h _ _ r)
  · exact .inr ⟨o, h _ _ r⟩
theorem sqL_up {K : Frag} {F F' : Hp} {a : Addr} {xs : List V} (h : ∀ a o, F a = some o → F' a = some o) (r : SqL K F a xs) : SqL K F' a xs := by
  rcases r with r | r
  · exact .inl (Rd.up h r)
  · exact .inr r
theorem sqT_up {K : Frag} {F F' : Hp} {a : Addr} {xs : List V} (h : ∀ a o, F a = some o → F' a = some o) (r : SqT K F a xs) : SqT K F' a xs := by
  rcases r with r | r
  · exact .inl (Rd.up h r)
  · exact .inr r

section
variable {L : Lk} {F F' : Hp} {ρ ρ' : List Addr}
mutual
theorem Rep.up (e : Ex F ρ F' ρ') : ∀ (d : D) (v : V), Rep L F ρ d v → Rep L F' ρ' d v
  | .non, v, h => by unfold Rep at h ⊢; exact h
  | .bl b, v, h => by unfold Rep at h ⊢; exact h
  | .int i, v, h => by unfold Rep at h ⊢; exact h
  | .str s, v, h => by unfold Rep at h ⊢; exact h
  | .tup ds, v, h => by
    unfold Rep at h ⊢
    obtain ⟨a, vs, h1, h2, h3⟩ := h
    exact ⟨a, vs, h1, sqT_up e.f h2, Reps.up e ds vs h3⟩
  | .lst ds, v, h => by
    unfold Rep at h ⊢
    obtain ⟨a, vs, h1, h2, h3⟩ := h
    exact ⟨a, vs, h1, sqL_up e.f h2, Reps.up e ds vs h3⟩
  | .dic _, v, h => by unfold Rep at h; exact h.elim
  | .ins c fs, v, h => by
    unfold Rep at h ⊢
    obtain ⟨a, dx, vfs, h1, h2, h3⟩ := h
    exact ⟨a, dx, vfs, h1, e.f _ _ h2, RepF.up e fs vfs h3⟩
  | .exc c fs, v, h => by
    unfold Rep at h ⊢
    obtain ⟨a, d, h1, h2, h3⟩ := h
    refine ⟨a, d, h1, e.f _ _ h2, ?_⟩
    rcases h3 with h3 | ⟨dx, vfs, h3, h4, h5⟩
    · exact .inl h3
    · exact .inr ⟨dx, vfs, h3, e.f _ _ h4, RepF.up e fs vfs h5⟩
  | .adr n, v, h => by
    unfold Rep at h ⊢
    obtain ⟨a, h1, h2⟩ := h
    exact ⟨a, h1, e.r _ _ h2⟩
  | .slot _, v, h => by unfold Rep at h; exact h.elim
  | .fn _, v, h => by unfold Rep at h; exact h.elim
theorem Reps.up (e : Ex F ρ F' ρ') : ∀ (ds : List D) (vs : List V), Reps L F ρ ds vs → Reps L F' ρ' ds vs
  | [], vs, h => by unfold Reps at h ⊢; exact h
  | d :: ds, vs, h => by
    unfold Reps at h ⊢
    obtain ⟨v, r, h1, h2, h3⟩ := h
    exact ⟨v, r, h1, Rep.up e d v h2, Reps.up e ds r h3⟩
theorem RepF.up (e : Ex F ρ F' ρ') : ∀ (ds : List (Nat × D)) (vs : List (Str × V)), RepF L F ρ ds vs → RepF L F' ρ' ds vs
  | [], vs, h => by unfold RepF at h ⊢; exact h
  | (k, d) :: ds, vs, h => by
    unfold RepF at h ⊢
    obtain ⟨v, r, h1, h2, h3⟩ := h
    exact ⟨v, r, h1, Rep.up e d v h2, RepF.up e ds r h3⟩
end

/-! ### the pieces of Rep -/
theorem Reps.length : ∀ {ds : List D} {vs : List V}, Reps L F ρ ds vs → ds.length = vs.length
  | [], vs, h => by unfold Reps at h; rw [h]; rfl
  | d :: ds, vs, h => by
    unfold Reps at h
    obtain ⟨v, r, h1, h2, h3⟩ := h
    rw [h1, List.length_cons, List.length_cons, Reps.length h3]
theorem Reps.nil : Reps L F ρ [] [] := by unfold Reps; rfl
theorem Reps.cons {d : D} {v : V} {ds : List D} {vs : List V} (h : Rep L F ρ d v) (t : Reps L F ρ ds vs) : Reps L F ρ (d :: ds) (v :: vs) := by unfold Reps; exact ⟨v, vs, rfl, h, t⟩
theorem Reps.append : ∀ {ds es : List D} {vs ws : List V}, Reps L F ρ ds vs → Reps L F ρ es ws → Reps L F ρ (ds ++ es) (vs ++ ws)
  | [], es, vs, ws, h, k => by unfold Reps at h; subst h; exact k
  | d :: ds, es, vs, ws, h, k => by
    unfold Reps at h
    obtain ⟨v, r, h1, h2, h3⟩ := h
    subst h1
    exact Reps.cons h2 (Reps.append h3 k)
theorem Reps.get : ∀ {ds : List D} {vs : List V} {i : Nat} {v : V}, Reps L F ρ ds vs → vs[i]? = some v → ∃ d, ds[i]? = some d ∧ Rep L F ρ d v
  | [], vs, i, v, h, e => by unfold Reps at h; subst h; simp at e
  | d :: ds, vs, 0, v, h, e => by
    unfold Reps at h
    obtain ⟨w, r, h1, h2, h3⟩ := h
    subst h1
    simp at e; subst e
    exact ⟨d, rfl, h2⟩
  | d :: ds, vs, i + 1, v, h, e => by
    unfold Reps at h
    obtain ⟨w, r, h1, h2, h3⟩ := h
    subst h1
    obtain ⟨d', q1, q2⟩ := Reps.get (i := i) h3 (by simpa using e)
    exact ⟨d', by simpa using q1, q2⟩
theorem Reps.get' : ∀ {ds : List D} {vs : List V} {i : Nat} {d : D}, Reps L F ρ ds vs → ds[i]? = some d → ∃ v, vs[i]? = some v ∧ Rep L F ρ d v
  | [], vs, i, d, h, e => by simp at e
  | d :: ds, vs, 0, d', h, e => by
    unfold Reps at h
    obtain ⟨w, r, h1, h2, h3⟩ := h
    subst h1
    simp at e; subst e
    exact ⟨w, rfl, h2⟩
  | d :: ds, vs, i + 1, d', h, e => by
    unfold Reps at h
    obtain ⟨w, r, h1, h2, h3⟩ := h
    subst h1
    obtain ⟨v', q1, q2⟩ := Reps.get' (i := i) h3 (by simpa using e)
    exact ⟨v', by simpa using q1, q2⟩
theorem Reps.drop : ∀ {ds : List D} {vs : List V} (n : Nat), Reps L F ρ ds vs → Reps L F ρ (ds.drop n) (vs.drop n)
  | _, _, 0, h => h
  | [], vs, n + 1, h => by unfold Reps at h; subst h; exact Reps.nil
  | d :: ds, vs, n + 1, h => by
    unfold Reps at h
    obtain ⟨w, r, h1, h2, h3⟩ := h
    subst h1
    exact Reps.drop n h3
theorem Reps.take : ∀ {ds : List D} {vs : List V} (n : Nat), Reps L F ρ ds vs → Reps L F ρ (ds.take n) (vs.take n)
  | _, _, 0, h => by simpa using Reps.nil
  | [], vs, n + 1, h => by unfold Reps at h; subst h; exact Reps.nil
  | d :: ds, vs, n + 1, h => by
    unfold Reps at h
    obtain ⟨w, r, h1, h2, h3⟩ := h
    subst h1
    exact Reps.cons h2 (Reps.take n h3)
theorem Reps.reverse : ∀ {ds : List D} {vs : List V}, Reps L F ρ ds vs → Reps L F ρ ds.reverse vs.reverse
  | [], vs, h => by unfold Reps at h; subst h; exact Reps.nil
  | d :: ds, vs, h => by
    unfold Reps at h
    obtain ⟨w, r, h1, h2, h3⟩ := h
    subst h1
    rw [List.reverse_cons, List.reverse_cons]
    exact Reps.append (Reps.reverse h3) (Reps.cons h2 Reps.nil)
theorem Reps.repl {ds : List D} {vs : List V} (h : Reps L F ρ ds vs) : ∀ n : Nat, Reps L F ρ (repl n ds) (repl n vs)
  | 0 => Reps.nil
  | n + 1 => Reps.append h (Reps.repl h n)
end

/-! ### the state -/
/-- a def's entry: the heap there, the addresses that the def may change, the object of an __init__ -/
structure Bs where
  H0 : Hp
  F0 : Hp
  al : List Addr
  self : Option Addr
  ro : Bool := false

def MOk (L : Lk) (F : Hp) (ρ : List Addr) (H : Hp) (a : Addr) : MO → Prop
  | .lst xs => ∃ vs, H a = some (.lst vs) ∧ Reps L F ρ xs vs
  | .dic _ => False
  | .ins c fs => ∃ dx vfs, H a = some (.ins (L.ca c) dx vfs) ∧ RepF L F ρ fs vfs

/-- the part that callers and callees share -/
structure Sg (L : Lk) (F : Hp) (ρ : List Addr) (g : G) (H : Hp) : Prop where
  fr : ∀ a o, F a = some o → H a = some o
  len : ρ.length = g.length
  nd : ρ.Nodup
  nf : ∀ a ∈ ρ, F a = none
  ob : ∀ (n : Nat) a m, ρ[n]? = some a → g[n]? = some m → MOk L F ρ H a m

/-- what a slot holds -/
def SlOk (L : Lk) (B : Bs) (F : Hp) (ρ : List Addr) (oa : Nat → Addr) (σ : St) (H : Hp) (i : Nat) : SV → Prop
  | .emp => True
  | .val d => ∃ v, σ[i]? = some (some v) ∧ Rep L F ρ d v
  | .own m => σ[i]? = some (some (.ref (oa i))) ∧ MOk L F ρ H (oa i) m ∧ F (oa i) = none ∧ oa i ∉ ρ ∧ (B.ro = true ∨ B.H0 (oa i) = none ∨ (oa i ∈ B.al ∧ ∃ c fs, m = .ins c fs))

structure Sm (L : Lk) (B : Bs) (F : Hp) (ρ : List Addr) (oa : Nat → Addr) (env : Env) (σ : St) (g : G) (H : Hp) : Prop where
  sg : Sg L F ρ g H
  el : σ.length = env.length
  sl : ∀ (i : Nat) s, env[i]? = some s → SlOk L B F ρ oa σ H i s
  oi : ∀ (i j : Nat) m m', env[i]? = some (.own m) → env[j]? = some (.own m') → oa i = oa j → i = j
  bk : ∀ a o, B.H0 a = some o → a ∉ B.al → H a = some o
  br : ∀ a ∈ ρ, a ∈ B.al ∨ B.H0 a = none
  se : ∀ p, B.self = some p → oa 0 = p
  bf : ∀ a o, F a = some o → (∃ u, B.F0 a = some u) ∨ B.H0 a = none
  lv : ∀ a ∈ B.al, ∃ o, H a = some o

section
variable {L : Lk} {B : Bs} {F F' : Hp} {ρ ρ' : List Addr} {oa : Nat → Addr} {env : Env} {σ : St} {g : G} {H : Hp} {a p : Addr} {o : HO} {m : MO}

theorem MOk.up (e : Ex F ρ F' ρ') {H' : Hp} (k : H' a = H a) : ∀ {m : MO}, MOk L F ρ H a m → MOk L F' ρ' H' a m
  | .lst xs, h => by
    obtain ⟨vs, h1, h2⟩ := h
    exact ⟨vs, k.trans h1, Reps.up e _ _ h2⟩
  | .dic _, h => h.elim
  | .ins c fs, h => by
    obtain ⟨dx, vfs, h1, h2⟩ := h
    exact ⟨dx, vfs, k.trans h1, RepF.up e _ _ h2⟩
theorem MOk.there {H : Hp} : ∀ {m : MO}, MOk L F ρ H a m → ∃ o, H a = some o
  | .lst xs, h => by obtain ⟨vs, h1, h2⟩ := h; exact ⟨_, h1⟩
  | .dic _, h => h.elim
  | .ins c fs, h => by obtain ⟨dx, vfs, h1, h2⟩ := h; exact ⟨_, h1⟩

theorem upd_ge {H : Hp} {p : Addr} {o : HO} (hp : H p = none) : ∀ a u, H a = some u → upd H p o a = some u := fun a u h => by
  rw [upd_ne (ne_of_none h hp)]; exact h
theorem Sg.fresh (S : Sg L F ρ g H) (hp : H p = none) : F p = none := by
  cases e : F p with
  | none => rfl
  | some o => rw [S.fr p o e] at hp; cases hp
theorem Sg.freshR (S : Sg L F ρ g H) (hp : H p = none) : p ∉ ρ := fun hm => by
  obtain ⟨n, hn⟩ := List.getElem?_of_mem hm
  have hl : n < g.length := by rw [← S.len]; exact (List.getElem?_eq_some_iff.mp hn).1
  obtain ⟨o, ho⟩ := (S.ob n p g[n] hn (by simp [hl])).there
  rw [hp] at ho; cases ho
/-- a new object that nothing will change -/
theorem Sg.alloc (S : Sg L F ρ g H) (hp : H p = none) : Sg L (upd F p o) ρ g (upd H p o) := by
  have hF := S.fresh hp
  have e : Ex F ρ (upd F p o) ρ := ⟨upd_ge hF, fun _ _ h => h⟩
  refine ⟨fun a u h => ?_, S.len, S.nd, fun a ha => ?_, fun n a m h1 h2 => ?_⟩
  · by_cases q : a = p
    · subst q; rw [upd_same] at h ⊢; exact h
    · rw [upd_ne q] at h ⊢; exact S.fr _ _ h
  · have q : a ≠ p := fun z => S.freshR hp (z ▸ ha)
    rw [upd_ne q]; exact S.nf a ha
  · have x := S.ob n a m h1 h2
    obtain ⟨u, hu⟩ := x.there
    exact x.up e (upd_ne (ne_of_none hu hp))
theorem Sm.fresh0 (S : Sm L B F ρ oa env σ g H) (hp : H p = none) : B.H0 p = none := by
  cases e : B.H0 p with
  | none => rfl
  | some u =>
    by_cases ha : p ∈ B.al
    · obtain ⟨o, ho⟩ := S.lv p ha
      rw [hp] at ho; cases ho
    · have := S.bk p u e ha
      rw [hp] at this; cases this
theorem Sm.alloc (S : Sm L B F ρ oa env σ g H) (hp : H p = none) : Sm L B (upd F p o) ρ oa env σ g (upd H p o) := by
  have hF := S.sg.fresh hp
  have e : Ex F ρ (upd F p o) ρ := ⟨upd_ge hF, fun _ _ h => h⟩
  refine ⟨S.sg.alloc hp, S.el, fun i s h => ?_, S.oi, fun a u h1 h2 => upd_ge hp _ _ (S.bk a u h1 h2), S.br, S.se, fun a u h => ?_, fun a ha => ?_⟩
  rotate_left
  · by_cases q : a = p
    · subst q; exact .inr (S.fresh0 hp)
    · rw [upd_ne q] at h; exact S.bf a u h
  · obtain ⟨u, hu⟩ := S.lv a ha
    exact ⟨u, upd_ge hp _ _ hu⟩
  have x := S.sl i s h
  cases s with
  | emp => exact x
  | val d =>
    obtain ⟨v, h1, h2⟩ := x
    exact ⟨v, h1, Rep.up e _ _ h2⟩
  | own m =>
    obtain ⟨h1, h2, h3, h4, h5⟩ := x
    obtain ⟨u, hu⟩ := h2.there
    have ne := ne_of_none hu hp
    exact ⟨h1, h2.up e (upd_ne ne), by rw [upd_ne ne]; exact h3, h4, h5⟩
theorem Sm.ex_alloc (S : Sm L B F ρ oa env σ g H) (hp : H p = none) : Ex F ρ (upd F p o) ρ := ⟨upd_ge (S.sg.fresh hp), fun _ _ h => h⟩
end

/-! ### the universal readings -/
/-- an operand: also a local of one's own -/
def RepO (L : Lk) (F : Hp) (ρ : List Addr) (oa : Nat → Addr) (env : Env) (d : D) (v : V) : Prop :=
  Rep L F ρ d v ∨ ∃ i m, d = .slot i ∧ v = .ref (oa i) ∧ env[i]? = some (.own m)
/-- an exception that flies -/
def RepX (L : Lk) (F : Hp) (ρ : List Addr) (c : Nat) (fs : List (Nat × D)) (cls : Value) (d : Option Addr) : Prop :=
  cls = .ref (L.ca c) ∧ (fs = [] ∨ ∃ dx vfs, d = some dx ∧ F dx = some (.xd vfs) ∧ RepF L F ρ fs vfs)

def PostE {α β : Type} (L : Lk) (B : Bs) (W : WX) (rel : Hp → List Addr → α → β → Prop) (F : Hp) (ρ : List Addr) (oa : Nat → Addr) (env : Env) (σ : St) (r : Er α) (Q : β → Hp → Prop) : Prop :=
  match r with
  | .ok d g => ∀ v F' ρ' H', Ex F ρ F' ρ' → Sm L B F' ρ' oa env σ g H' → rel F' ρ' d v → Q v H'
  | .ex c fs g => ∀ cls dx F' ρ' H', Ex F ρ F' ρ' → Sm L B F' ρ' oa env σ g H' → RepX L F' ρ' c fs cls dx → W cls dx σ H'
  | .no => False

/-- the reading of an expression whose code comes to f -/
def tE {α β : Type} (L : Lk) (W : WX) (rel : (Nat → Addr) → Env → Hp → List Addr → α → β → Prop) (f : Env → G → Er α) : St → Hp → (β → Hp → Prop) → Prop := fun σ H Q =>
  ∃ B F ρ oa env g, Sm L B F ρ oa env σ g H ∧ PostE L B W (rel oa env) F ρ oa env σ (f env g) Q

abbrev relD (L : Lk) : (Nat → Addr) → Env → Hp → List Addr → D → V → Prop := fun _ _ F ρ => Rep L F ρ
abbrev relO (L : Lk) : (Nat → Addr) → Env → Hp → List Addr → D → V → Prop := fun oa env F ρ => RepO L F ρ oa env
abbrev relB : (Nat → Addr) → Env → Hp → List Addr → Bool → Bool → Prop := fun _ _ _ _ d b => d = b
def RepOs (L : Lk) (F : Hp) (ρ : List Addr) (oa : Nat → Addr) (env : Env) : List D → List V → Prop
  | [], vs => vs = []
  | d :: ds, vs => ∃ v r, vs = v :: r ∧ RepO L F ρ oa env d v ∧ RepOs L F ρ oa env ds r
abbrev relDs (L : Lk) : (Nat → Addr) → Env → Hp → List Addr → List D → List V → Prop := fun _ _ F ρ => Reps L F ρ
abbrev relOs (L : Lk) : (Nat → Addr) → Env → Hp → List Addr → List D → List V → Prop := fun oa env F ρ => RepOs L F ρ oa env

abbrev tD (L : Lk) (W : WX) (f : Env → G → Er D) : TE := tE L W (relD L) f
abbrev tO (L : Lk) (W : WX) (f : Env → G → Er D) : TE := tE L W (relO L) f
abbrev tDs (L : Lk) (W : WX) (f : Env → G → Er (List D)) : TA := tE L W (relDs L) f
abbrev tOs (L : Lk) (W : WX) (f : Env → G → Er (List D)) : TA := tE L W (relOs L) f
abbrev tT (L : Lk) (W : WX) (f : Env → G → Er Bool) : TT := tE L W relB f

theorem PE.imp {X : Cx} {e : Expr} {t t' : TE} (h : PE X e t) (i : ∀ σ H Q, t' σ H Q → t σ H Q) : PE X e t' := ⟨fun pins s σ H Q I q => h.run pins s σ H Q I (i σ H Q q)⟩
theorem PT.imp {X : Cx} {e : Expr} {t t' : TT} (h : PT X e t) (i : ∀ σ H Q, t' σ H Q → t σ H Q) : PT X e t' := ⟨fun pins s σ H Q I q => h.run pins s σ H Q I (i σ H Q q)⟩
theorem PW.imp {X : Cx} {e : Expr} {t t' : TT} (h : PW X e t) (i : ∀ σ H Q, t' σ H Q → t σ H Q) : PW X e t' := ⟨fun wh pins s σ H Q I q => h.run wh pins s σ H Q I (i σ H Q q)⟩
theorem PA.imp {X : Cx} {e : List Expr} {t t' : TA} (h : PA X e t) (i : ∀ σ H Q, t' σ H Q → t σ H Q) : PA X e t' := ⟨fun pos pins s σ H Q I q => h.run pos pins s σ H Q I (i σ H Q q)⟩
theorem PS.imp {X : Cx} {e : Stmt} {t t' : TS} (h : PS X e t) (i : ∀ D σ H, t' D σ H → t D σ H) : PS X e t' := ⟨fun pins s σ H D I q => h.run pins s σ H D I (i D σ H q)⟩
theorem PSs.imp {X : Cx} {e : List Stmt} {t t' : TS} (h : PSs X e t) (i : ∀ D σ H, t' D σ H → t D σ H) : PSs X e t' := ⟨fun pins s σ H D I q => h.run pins s σ H D I (i D σ H q)⟩

section
variable {L : Lk} {B : Bs} {W : WX} {F : Hp} {ρ : List Addr} {oa : Nat → Addr} {env : Env} {σ : St} {g : G} {H : Hp} {α β α' β' : Type}
/-- one step, then the rest -/
theorem PostE.bindE {rel : (Nat → Addr) → Env → Hp → List Addr → α → β → Prop} {rel' : (Nat → Addr) → Env → Hp → List Addr → α' → β' → Prop} {f : Env → G → Er α} {k : α → G → Er α'} {Q : β' → Hp → Prop}
    (S : Sm L B F ρ oa env σ g H) (h : PostE L B W (rel' oa env) F ρ oa env σ ((f env g).bind k) Q) {Q' : β → Hp → Prop}
    (hk : ∀ d g' v F' ρ' H', Ex F ρ F' ρ' → Sm L B F' ρ' oa env σ g' H' → rel oa env F' ρ' d v → f env g = .ok d g' → PostE L B W (rel' oa env) F' ρ' oa env σ (k d g') Q → Q' v H') : tE L W rel f σ H Q' := by
  refine ⟨B, F, ρ, oa, env, g, S, ?_⟩
  cases e : f env g with
  | ok d g' =>
    rw [e] at h
    intro v F' ρ' H' x S' r
    refine hk d g' v F' ρ' H' x S' r e ?_
    have h' : PostE L B W (rel' oa env) F ρ oa env σ (k d g') Q := h
    revert h'
    cases k d g' with
    | ok d2 g2 => exact fun h' v2 F2 ρ2 H2 x2 => h' v2 F2 ρ2 H2 (x.trans x2)
    | ex c fs g2 => exact fun h' cls dx F2 ρ2 H2 x2 => h' cls dx F2 ρ2 H2 (x.trans x2)
    | no => exact fun h' => h'
  | ex c fs g' =>
    rw [e] at h
    exact h
  | no =>
    rw [e] at h
    exact h
theorem PostE.bind {rel : (Nat → Addr) → Env → Hp → List Addr → α → β → Prop} {rel' : (Nat → Addr) → Env → Hp → List Addr → α' → β' → Prop} {f : Env → G → Er α} {k : α → G → Er α'} {Q : β' → Hp → Prop}
    (S : Sm L B F ρ oa env σ g H) (h : PostE L B W (rel' oa env) F ρ oa env σ ((f env g).bind k) Q) {Q' : β → Hp → Prop}
    (hk : ∀ d g' v F' ρ' H', Ex F ρ F' ρ' → Sm L B F' ρ' oa env σ g' H' → rel oa env F' ρ' d v → PostE L B W (rel' oa env) F' ρ' oa env σ (k d g') Q → Q' v H') : tE L W rel f σ H Q' :=
  PostE.bindE S h fun d g' v F' ρ' H' x S' r _ => hk d g' v F' ρ' H' x S' r
theorem PostE.ok {rel : Hp → List Addr → α → β → Prop} {d : α} {Q : β → Hp → Prop} {v : β} (S : Sm L B F ρ oa env σ g H) (h : PostE L B W rel F ρ oa env σ (.ok d g) Q) (r : rel F ρ d v) : Q v H := h v F ρ H (Ex.refl _ _) S r
end

/-! ### a call's frame -/
structure Fr (F : Hp) (ρ : List Addr) (H F' : Hp) (ρ' : List Addr) (H' : Hp) : Prop where
  k : ∀ a o, H a = some o → a ∉ ρ → H' a = some o
  r : ∀ a ∈ ρ', a ∈ ρ ∨ H a = none
  f : ∀ a o, F' a = some o → (∃ u, F a = some u) ∨ H a = none
section
variable {L : Lk} {B : Bs} {F F' : Hp} {ρ ρ' : List Addr} {oa : Nat → Addr} {env : Env} {σ : St} {g g' : G} {H H' : Hp}
/-- the caller's state behind a call -/
theorem Sm.call (S : Sm L B F ρ oa env σ g H) (x : Ex F ρ F' ρ') (T : Sg L F' ρ' g' H') (k : Fr F ρ H F' ρ' H') : Sm L B F' ρ' oa env σ g' H' := by
  refine ⟨T, S.el, fun i s h => ?_, S.oi, fun a u h1 h2 => ?_, fun a ha => ?_, S.se, fun a u h => ?_, fun a ha => ?_⟩
  · have y := S.sl i s h
    cases s with
    | emp => exact y
    | val d =>
      obtain ⟨v, h1, h2⟩ := y
      exact ⟨v, h1, Rep.up x _ _ h2⟩
    | own m =>
      obtain ⟨h1, h2, h3, h4, h5⟩ := y
      obtain ⟨u, hu⟩ := h2.there
      refine ⟨h1, h2.up x ((k.k _ _ hu h4).trans hu.symm), ?_, fun hm => ?_, h5⟩
      · cases e : F' (oa i) with
        | none => rfl
        | some u' =>
          rcases k.f _ _ e with ⟨w, hw⟩ | hw
          · rw [h3] at hw; cases hw
          · rw [hu] at hw; cases hw
      · rcases k.r _ hm with q | q
        · exact h4 q
        · rw [hu] at q; cases q
  · refine k.k a u (S.bk a u h1 h2) fun hm => ?_
    rcases S.br a hm with q | q
    · exact h2 q
    · rw [h1] at q; cases q
  · rcases k.r a ha with q | q
    · exact S.br a q
    · exact .inr (S.fresh0 q)
  · rcases k.f a u h with ⟨w, hw⟩ | hw
    · exact S.bf a w hw
    · exact .inr (S.fresh0 hw)
  · obtain ⟨o, ho⟩ := S.lv a ha
    by_cases hm : a ∈ ρ
    · obtain ⟨n, hn⟩ := List.getElem?_of_mem hm
      have hn' := x.r n a hn
      have hl : n < g'.length := by rw [← T.len]; exact (List.getElem?_eq_some_iff.mp hn').1
      exact (T.ob n a g'[n] hn' (by simp [hl])).there
    · exact ⟨o, k.k a o ho hm⟩
end

/-- the base of what is only looked at -/
def Bs.at (B : Bs) (F : Hp) (ρ : List Addr) (H : Hp) : Bs := { H0 := H, F0 := F, al := ρ, self := B.self, ro := true }
section
variable {L : Lk} {B : Bs} {F F' : Hp} {ρ ρ' : List Addr} {oa : Nat → Addr} {env : Env} {σ : St} {g g' : G} {H H' : Hp}
theorem Sg.live (S : Sg L F ρ g H) {a : Addr} (ha : a ∈ ρ) : ∃ o, H a = some o := by
  obtain ⟨n, hn⟩ := List.getElem?_of_mem ha
  have hl : n < g.length := by rw [← S.len]; exact (List.getElem?_eq_some_iff.mp hn).1
  exact (S.ob n a g[n] hn (by simp [hl])).there
theorem Sm.at (S : Sm L B F ρ oa env σ g H) : Sm L (B.at F ρ H) F ρ oa env σ g H := by
  refine ⟨S.sg, S.el, fun i s h => ?_, S.oi, fun a u h _ => h, fun a ha => .inl ha, S.se, fun a u h => .inl ⟨u, h⟩, fun a ha => S.sg.live ha⟩
  have x := S.sl i s h
  cases s with
  | emp => exact x
  | val d => exact x
  | own m =>
    obtain ⟨h1, h2, h3, h4, h5⟩ := x
    exact ⟨h1, h2, h3, h4, .inl rfl⟩
/-- .. and back -/
theorem Sm.unat (S : Sm L B F ρ oa env σ g H) (S' : Sm L (B.at F ρ H) F' ρ' oa env σ g' H') : Sm L B F' ρ' oa env σ g' H' := by
  refine ⟨S'.sg, S'.el, fun i s h => ?_, S'.oi, fun a u h1 h2 => ?_, fun a ha => ?_, S.se, fun a u h => ?_, fun a ha => ?_⟩
  · have x := S'.sl i s h
    have y := S.sl i s h
    cases s with
    | emp => exact x
    | val d => exact x
    | own m =>
      obtain ⟨h1, h2, h3, h4, _⟩ := x
      exact ⟨h1, h2, h3, h4, y.2.2.2.2⟩
  · refine S'.bk a u (S.bk a u h1 h2) fun hm => ?_
    rcases S.br a hm with q | q
    · exact h2 q
    · rw [h1] at q; cases q
  · rcases S'.br a ha with q | q
    · exact S.br a q
    · exact .inr (S.fresh0 q)
  · rcases S'.bf a u h with ⟨w, hw⟩ | hw
    · exact S.bf a w hw
    · exact .inr (S.fresh0 hw)
  · obtain ⟨o, ho⟩ := S.lv a ha
    by_cases hm : a ∈ ρ
    · exact S'.lv a hm
    · exact ⟨o, S'.bk a o ho hm⟩
/-- an object that is none of these is written -/
theorem Sm.aside (S : Sm L B F ρ oa env σ g H) {D : Addr} {o : HO} (h1 : F D = none) (h2 : D ∉ ρ) (h3 : ∀ (i : Nat) m, env[i]? = some (.own m) → oa i ≠ D) (h4 : B.H0 D = none) : Sm L B F ρ oa env σ g (upd H D o) := by
  have ne : ∀ {a u}, F a = some u → a ≠ D := fun {a u} e z => by rw [z, h1] at e; cases e
  have nr : ∀ {a : Addr}, a ∈ ρ → a ≠ D := fun {a} e z => by rw [z] at e; exact h2 e
  refine ⟨⟨fun a u h => by rw [upd_ne (ne h)]; exact S.sg.fr a u h, S.sg.len, S.sg.nd, S.sg.nf, fun n a m k1 k2 => (S.sg.ob n a m k1 k2).up (Ex.refl _ _) (upd_ne (nr (List.mem_of_getElem? k1)))⟩, S.el, fun i s h => ?_, S.oi, fun a u k1 k2 => ?_, S.br, S.se, S.bf, fun a ha => ?_⟩
  · have x := S.sl i s h
    cases s with
    | emp => exact x
    | val d => exact x
    | own m =>
      obtain ⟨k1, k2, k3⟩ := x
      exact ⟨k1, k2.up (Ex.refl _ _) (upd_ne (h3 i m h)), k3⟩
  · have : a ≠ D := fun z => by rw [z, h4] at k1; cases k1
    rw [upd_ne this]; exact S.bk a u k1 k2
  · by_cases q : a = D
    · exact ⟨o, by rw [q, upd_same]⟩
    · obtain ⟨u, hu⟩ := S.lv a ha
      exact ⟨u, by rw [upd_ne q]; exact hu⟩
/-- such an object is from now on never changed -/
theorem Sm.still (S : Sm L B F ρ oa env σ g H) {D : Addr} {o : HO} (h1 : F D = none) (h2 : D ∉ ρ) (h3 : ∀ (i : Nat) m, env[i]? = some (.own m) → oa i ≠ D) (h4 : B.H0 D = none) (h5 : H D = some o) : Sm L B (upd F D o) ρ oa env σ g H := by
  have e : Ex F ρ (upd F D o) ρ := ⟨upd_ge h1, fun _ _ h => h⟩
  refine ⟨⟨fun a u h => ?_, S.sg.len, S.sg.nd, fun a ha => ?_, fun n a m k1 k2 => (S.sg.ob n a m k1 k2).up e rfl⟩, S.el, fun i s h => ?_, S.oi, S.bk, S.br, S.se, fun a u h => ?_, S.lv⟩
  · by_cases q : a = D
    · subst q; rw [upd_same] at h; rw [h5]; exact h
    · rw [upd_ne q] at h; exact S.sg.fr a u h
  · rw [upd_ne (fun z => by rw [z] at ha; exact h2 ha)]; exact S.sg.nf a ha
  · have x := S.sl i s h
    cases s with
    | emp => exact x
    | val d =>
      obtain ⟨v, k1, k2⟩ := x
      exact ⟨v, k1, Rep.up e _ _ k2⟩
    | own m =>
      obtain ⟨k1, k2, k3, k4, k5⟩ := x
      exact ⟨k1, k2.up e rfl, by rw [upd_ne (h3 i m h)]; exact k3, k4, k5⟩
  · by_cases q : a = D
    · subst q; exact .inr h4
    · rw [upd_ne q] at h; exact S.bf a u h
/-- a slot takes a value -/
theorem Sm.setv (S : Sm L B F ρ oa env σ g H) {d : D} {v : V} (r : Rep L F ρ d v) (i : Nat) : Sm L B F ρ oa (env.set i (.val d)) (σ.set i (some v)) g H := by
  refine ⟨S.sg, by rw [List.length_set, List.length_set]; exact S.el, fun j s h => ?_, fun j k m m' h h' => ?_, S.bk, S.br, S.se, S.bf, S.lv⟩
  · by_cases q : i = j
    · subst q
      have hl : i < env.length := by
        have := (List.getElem?_eq_some_iff.mp h).1
        rwa [List.length_set] at this
      rw [List.getElem?_set_self hl] at h
      cases h
      exact ⟨v, by rw [List.getElem?_set_self (by rw [S.el]; exact hl)], r⟩
    · rw [List.getElem?_set_ne q] at h
      have x := S.sl j s h
      cases s with
      | emp => exact x
      | val d =>
        obtain ⟨v, k1, k2⟩ := x
        exact ⟨v, by rw [List.getElem?_set_ne q]; exact k1, k2⟩
      | own m =>
        obtain ⟨k1, k2⟩ := x
        exact ⟨by rw [List.getElem?_set_ne q]; exact k1, k2⟩
  · have back : ∀ {j : Nat} {m : MO}, (env.set i (SV.val d))[j]? = some (SV.own m) → env[j]? = some (SV.own m) := fun {j m} h => by
      by_cases q : i = j
      · subst q
        have hl : i < env.length := by
          have := (List.getElem?_eq_some_iff.mp h).1
          rwa [List.length_set] at this
        rw [List.getElem?_set_self hl] at h
        cases h
      · rwa [List.getElem?_set_ne q] at h
    exact S.oi j k m m' (back h) (back h')
/-- slots forgotten -/
theorem wipeE_own {vs : List Nat} {j : Nat} {m : MO} (h : (wipeE env vs)[j]? = some (SV.own m)) : env[j]? = some (SV.own m) := by
  induction vs with
  | nil => exact h
  | cons v vs ih =>
    unfold wipeE at h
    by_cases q : v = j
    · subst q
      have hl : v < (wipeE env vs).length := by
        have := (List.getElem?_eq_some_iff.mp h).1
        rwa [List.length_set] at this
      rw [List.getElem?_set_self hl] at h
      cases h
    · rw [List.getElem?_set_ne q] at h
      exact ih h
theorem Sm.wipe1 (S : Sm L B F ρ oa env σ g H) (i : Nat) : Sm L B F ρ oa (env.set i .emp) (σ.set i none) g H := by
  refine ⟨S.sg, by rw [List.length_set, List.length_set]; exact S.el, fun j s h => ?_, fun j k m m' h h' => ?_, S.bk, S.br, S.se, S.bf, S.lv⟩
  · by_cases q : i = j
    · subst q
      have hl : i < env.length := by
        have := (List.getElem?_eq_some_iff.mp h).1
        rwa [List.length_set] at this
      rw [List.getElem?_set_self hl] at h
      cases h
      exact True.intro
    · rw [List.getElem?_set_ne q] at h
      have x := S.sl j s h
      cases s with
      | emp => exact x
      | val d =>
        obtain ⟨v, k1, k2⟩ := x
        exact ⟨v, by rw [List.getElem?_set_ne q]; exact k1, k2⟩
      | own m =>
        obtain ⟨k1, k2⟩ := x
        exact ⟨by rw [List.getElem?_set_ne q]; exact k1, k2⟩
  · exact S.oi j k m m' (wipeE_own (vs := [i]) h) (wipeE_own (vs := [i]) h')
theorem Sm.wipe (S : Sm L B F ρ oa env σ g H) : ∀ vs : List Nat, Sm L B F ρ oa (wipeE env vs) (L2.wipe σ vs) g H
  | [] => S
  | v :: vs => by
    unfold wipeE L2.wipe
    exact (S.wipe vs).wipe1 v
end

/-! ### what a def promises -/
def spF (L : Lk) (R : Runner) (f : Nat) : Sp := fun vs H Q E => ∃ F ρ g ds, Sg L F ρ g H ∧ Reps L F ρ ds vs ∧ vs.length = (L.ps f).length ∧
  match R f ds g with
  | .ok d g' => ∀ v F' ρ' H', Ex F ρ F' ρ' → Sg L F' ρ' g' H' → Fr F ρ H F' ρ' H' → Rep L F' ρ' d v → Q v H'
  | .ex c fs g' => ∀ cls dx F' ρ' H', Ex F ρ F' ρ' → Sg L F' ρ' g' H' → Fr F ρ H F' ρ' H' → RepX L F' ρ' c fs cls dx → E cls dx H'
  | .no => False
/-- an __init__: the instance is the first argument, with the fields that it has; behind it it has others -/
def spI (L : Lk) (R : Runner) (f : Nat) : Sp := fun vs H Q E => ∃ F ρ g c fs ds p dx vfs ws, Sg L F ρ g H ∧ vs = .ref p :: ws ∧ Reps L F ρ ds ws ∧ vs.length = (L.ps f).length ∧
  H p = some (.ins (L.ca c) dx vfs) ∧ RepF L F ρ fs vfs ∧ F p = none ∧ p ∉ ρ ∧
  match R f (.ins c fs :: ds) g with
  | .ok d g' => ∃ fs', d = .ins c fs' ∧ ∀ F' ρ' H' dx' vfs', Ex F ρ F' ρ' → Sg L F' ρ' g' H' → Fr F (p :: ρ) H F' (p :: ρ') H' → F' p = none → p ∉ ρ' → H' p = some (.ins (L.ca c) dx' vfs') → RepF L F' ρ' fs' vfs' → Q .non H'
  | .ex c' fs' g' => ∀ cls dx' F' ρ' H', Ex F ρ F' ρ' → Sg L F' ρ' g' H' → Fr F (p :: ρ) H F' (p :: ρ') H' → RepX L F' ρ' c' fs' cls dx' → E cls dx' H'
  | .no => False
end Low

/-! Low, part 3: the operations. -/
namespace Low
open PySem L2

/-- an operand as it lies at H -/
def RepH (L : Lk) (F : Hp) (ρ : List Addr) (H : Hp) (d : D) (v : V) : Prop :=
  Rep L F ρ d v ∨ (∃ xs a vs, d = .lst xs ∧ v = .ref a ∧ H a = some (.lst vs) ∧ Reps L F ρ xs vs) ∨ ∃ i, d = .slot i

section
variable {L : Lk} {B : Bs} {F : Hp} {ρ : List Addr} {oa : Nat → Addr} {env : Env} {σ : St} {g : G} {H : Hp} {d : D} {v : V}
theorem view_ok (S : Sm L B F ρ oa env σ g H) (r : RepO L F ρ oa env d v) : RepH L F ρ H (view env g d) v := by
  rcases r with r | ⟨i, m, rfl, rfl, hm⟩
  · cases d with
    | adr n =>
      have r0 := r
      unfold Rep at r
      obtain ⟨a, rfl, ha⟩ := r
      cases hg : g[n]? with
      | none => simp only [view, hg]; exact .inl r0
      | some m =>
        cases m with
        | lst xs =>
          obtain ⟨vs, h1, h2⟩ := S.sg.ob n a _ ha hg
          exact .inr (.inl ⟨xs, a, vs, by simp only [view, hg], rfl, h1, h2⟩)
        | dic xs => exact (S.sg.ob n a _ ha hg).elim
        | ins c fs => simp only [view, hg]; exact .inl r0
    | slot i => unfold Rep at r; exact r.elim
    | _ => exact .inl r
  · have x := S.sl i _ hm
    obtain ⟨h1, h2, h3, h4, h5⟩ := x
    cases m with
    | lst xs =>
      obtain ⟨vs, k1, k2⟩ := h2
      exact .inr (.inl ⟨xs, _, vs, by simp only [view, hm], rfl, k1, k2⟩)
    | dic xs => exact h2.elim
    | ins c fs => exact .inr (.inr ⟨i, by simp only [view, hm]⟩)

theorem RepH.non (r : RepH L F ρ H .non v) : v = .non := by
  rcases r with r | ⟨_, _, _, e, _⟩ | ⟨_, e⟩
  · unfold Rep at r; exact r
  · cases e
  · cases e
theorem RepH.bl {b : Bool} (r : RepH L F ρ H (.bl b) v) : v = .bl b := by
  rcases r with r | ⟨_, _, _, e, _⟩ | ⟨_, e⟩
  · unfold Rep at r; exact r
  · cases e
  · cases e
theorem RepH.int {b : Int} (r : RepH L F ρ H (.int b) v) : v = .int b := by
  rcases r with r | ⟨_, _, _, e, _⟩ | ⟨_, e⟩
  · unfold Rep at r; exact r
  · cases e
  · cases e
theorem RepH.str {b : List Nat} (r : RepH L F ρ H (.str b) v) : v = .str ⟨b.toArray⟩ := by
  rcases r with r | ⟨_, _, _, e, _⟩ | ⟨_, e⟩
  · unfold Rep at r; exact r
  · cases e
  · cases e
theorem RepH.tup {ds : List D} (hF : ∀ a o, F a = some o → H a = some o) (r : RepH L F ρ H (.tup ds) v) : ∃ a vs, v = .ref a ∧ SqT L.K H a vs ∧ Reps L F ρ ds vs ∧ Rep L F ρ (.tup ds) (.ref a) := by
  rcases r with r | ⟨_, _, _, e, _⟩ | ⟨_, e⟩
  · have r0 := r
    unfold Rep at r
    obtain ⟨a, vs, h1, h2, h3⟩ := r
    exact ⟨a, vs, h1, sqT_up hF h2, h3, h1 ▸ r0⟩
  · cases e
  · cases e
theorem RepH.lst {ds : List D} (hF : ∀ a o, F a = some o → H a = some o) (r : RepH L F ρ H (.lst ds) v) : ∃ a vs, v = .ref a ∧ SqL L.K H a vs ∧ Reps L F ρ ds vs := by
  rcases r with r | ⟨xs, a, vs, e, h1, h2, h3⟩ | ⟨_, e⟩
  · unfold Rep at r
    obtain ⟨a, vs, h1, h2, h3⟩ := r
    exact ⟨a, vs, h1, sqL_up hF h2, h3⟩
  · cases e
    exact ⟨a, vs, h1, SqL.of h2, h3⟩
  · cases e
theorem Reps.nil_of : ∀ {ds : List D}, Reps L F ρ ds [] → ds = []
  | [], _ => rfl
  | d :: ds, h => by
    unfold Reps at h
    obtain ⟨w, r, h1, _⟩ := h
    cases h1
theorem Reps.intsR : ∀ {ds : List D} {vs : List V} {ns : List Int}, Reps L F ρ ds vs → intsD ds = some ns → vs = ns.map V.int
  | [], vs, ns, h, e => by unfold Reps at h; unfold intsD at e; cases e; exact h
  | d :: ds, vs, ns, h, e => by
    unfold Reps at h
    obtain ⟨w, r, h1, h2, h3⟩ := h
    subst h1
    cases d with
    | int i =>
      unfold intsD at e
      cases q : intsD ds with
      | none => rw [q] at e; cases e
      | some ms =>
        rw [q] at e
        cases e
        unfold Rep at h2
        rw [h2, Reps.intsR h3 q]; rfl
    | _ => unfold intsD at e; cases e
theorem Reps.boolsR : ∀ {ds : List D} {vs : List V} {ns : List Bool}, Reps L F ρ ds vs → boolsD ds = some ns → vs = ns.map V.bl
  | [], vs, ns, h, e => by unfold Reps at h; unfold boolsD at e; cases e; exact h
  | d :: ds, vs, ns, h, e => by
    unfold Reps at h
    obtain ⟨w, r, h1, h2, h3⟩ := h
    subst h1
    cases d with
    | bl i =>
      unfold boolsD at e
      cases q : boolsD ds with
      | none => rw [q] at e; cases e
      | some ms =>
        rw [q] at e
        cases e
        unfold Rep at h2
        rw [h2, Reps.boolsR h3 q]; rfl
    | _ => unfold boolsD at e; cases e
end

/-- what follows an operation: nothing laid, or one new object -/
def Cont (L : Lk) (F : Hp) (ρ : List Addr) (H : Hp) (d : D) (Q : VK) : Prop :=
  (∀ v, Rep L F ρ d v → Q v H) ∧ ∀ v p o, H p = none → Rep L (upd F p o) ρ d v → Q v (upd H p o)
section
variable {L : Lk} {F : Hp} {ρ : List Addr} {H : Hp} {Q : VK}
theorem Cont.int {i : Int} (c : Cont L F ρ H (.int i) Q) : Q (.int i) H := c.1 _ (by unfold Rep; rfl)
theorem Cont.bl {i : Bool} (c : Cont L F ρ H (.bl i) Q) : Q (.bl i) H := c.1 _ (by unfold Rep; rfl)
theorem Cont.str {i : List Nat} (c : Cont L F ρ H (.str i) Q) : Q (.str ⟨i.toArray⟩) H := c.1 _ (by unfold Rep; rfl)
theorem upd_fr (hF : ∀ a o, F a = some o → H a = some o) {p : Addr} {o : HO} (hp : H p = none) : F p = none := by
  cases e : F p with
  | none => rfl
  | some u => rw [hF p u e] at hp; cases hp
theorem Cont.lst {ds : List D} {vs : List V} (hF : ∀ a o, F a = some o → H a = some o) (r : Reps L F ρ ds vs) (c : Cont L F ρ H (.lst ds) Q) {p : Addr} (hp : H p = none) : Q (.ref p) (upd H p (.lst vs)) := by
  refine c.2 _ p _ hp ?_
  unfold Rep
  exact ⟨p, vs, rfl, SqL.of upd_same, Reps.up ⟨upd_ge (upd_fr (o := .lst vs) hF hp), fun _ _ h => h⟩ _ _ r⟩
theorem Cont.tup {ds : List D} {vs : List V} (hF : ∀ a o, F a = some o → H a = some o) (r : Reps L F ρ ds vs) (c : Cont L F ρ H (.tup ds) Q) {p : Addr} (hp : H p = none) : Q (.ref p) (upd H p (.tup vs)) := by
  refine c.2 _ p _ hp ?_
  unfold Rep
  exact ⟨p, vs, rfl, SqT.of upd_same, Reps.up ⟨upd_ge (upd_fr (o := .tup vs) hF hp), fun _ _ h => h⟩ _ _ r⟩
end

/-- the reading of an operation of two values -/
def rD2 (L : Lk) (o : Op) : R2 := fun x y H Q => ∃ F ρ dx dy d, (∀ a o, F a = some o → H a = some o) ∧ RepH L F ρ H dx x ∧ RepH L F ρ H dy y ∧ opS o [dx, dy] = some d ∧ Cont L F ρ H d Q
def rD1 (L : Lk) (o : Op) : V → Hp → VK → Prop := fun x H Q => ∃ F ρ dx d, (∀ a o, F a = some o → H a = some o) ∧ RepH L F ρ H dx x ∧ opS o [dx] = some d ∧ Cont L F ρ H d Q
/-- .. of any number of values -/
def RepHs (L : Lk) (F : Hp) (ρ : List Addr) (H : Hp) : List D → List V → Prop
  | [], vs => vs = []
  | d :: ds, vs => ∃ v r, vs = v :: r ∧ RepH L F ρ H d v ∧ RepHs L F ρ H ds r
def rDN (L : Lk) (o : Op) : List V → Hp → VK → Prop := fun xs H Q => ∃ F ρ ds d, (∀ a o, F a = some o → H a = some o) ∧ RepHs L F ρ H ds xs ∧ opS o ds = some d ∧ Cont L F ρ H d Q

theorem OpR.imp {X : Cx} {f : Value → Value → Sem Value} {r r' : R2} (h : OpR X f r) (i : ∀ x y H Q, r' x y H Q → r x y H Q) : OpR X f r' := fun pins s σ H x y v u Q I rx ry q => h pins s σ H x y v u Q I rx ry (i _ _ _ _ q)
theorem mulOk_ok {i j : Int} (h : mulOk i j = true) : IntMulOk i j := by
  have h' : i.natAbs.log2 + j.natAbs.log2 < 134000000 := of_decide_eq_true h
  have b : ∀ x : Int, Builtin.Int.intBits x ≤ x.natAbs.log2 + 1 := fun x => by
    unfold Builtin.Int.intBits
    split <;> omega
  have h1 := b i
  have h2 := b j
  have e : bitsLine = 134217728 := by decide
  unfold IntMulOk
  intro z
  rw [Bool.and_eq_true] at z
  have z2 := z.2
  unfold Builtin.Int.intTooBig at z2
  have z3 := of_decide_eq_true z2
  rw [e] at z3
  omega
theorem SZ_eq : SZ = sizeLine := by unfold SZ; exact sizeLine_eq.symm
theorem str_app (a b : List Nat) : (⟨a.toArray⟩ : Str) ++ ⟨b.toArray⟩ = ⟨(a ++ b).toArray⟩ := by
  show (⟨a.toArray ++ b.toArray⟩ : Str) = _
  simp
theorem str_len (a : List Nat) : (⟨a.toArray⟩ : Str).length = a.length := by simp [Str.length]
theorem flat_repl {α : Type} (xs : List α) : ∀ n : Nat, (List.replicate n xs).flatten = repl n xs
  | 0 => rfl
  | n + 1 => by rw [List.replicate_succ, List.flatten_cons, flat_repl xs n]; rfl

section
variable {X : Cx} {L : Lk}
theorem opr_add (hK : X.K = L.K) : OpR X (binaryOp .Add) (rD2 L .add) := by
  intro pins s σ H x y v u Q I rx ry h
  obtain ⟨F, ρ, dx, dy, d, hF, hx, hy, e, c⟩ := h
  have e : sAdd dx dy = some d := e
  unfold sAdd at e
  split at e
  · cases e
    obtain rfl := hx.int; obtain rfl := hy.int
    exact op_add pins s σ H _ _ v u Q I rx ry ⟨_, _, rfl, rfl, c.int⟩
  · split at e <;> cases e
    rename_i hz
    obtain rfl := hx.str; obtain rfl := hy.str
    refine op_add_str pins s σ H _ _ v u Q I rx ry ⟨_, _, rfl, rfl, by rw [str_len, str_len, ← SZ_eq]; exact hz, ?_⟩
    rw [str_app]; exact c.str
  · split at e <;> cases e
    rename_i hz
    obtain ⟨p, vs, rfl, h1, h2⟩ := hx.lst hF
    obtain ⟨q, ws, rfl, k1, k2⟩ := hy.lst hF
    rw [← hK] at h1 k1
    obtain ⟨its, r1, ⟨⟨cls, dd, data, sl⟩, n1, ho, hc, hdd, hd⟩, z1⟩ := I.list h1
    obtain ⟨jts, r2, ⟨⟨cls2, dd2, data2, sl2⟩, n2, ho2, hc2, hdd2, hd2⟩, z2⟩ := I.list k1
    simp only at hc hd hc2 hd2 hdd hdd2
    subst hc hd hc2 hd2 hdd hdd2
    cases rx
    cases ry
    have hl : its.length + jts.length ≤ sizeLine := by
      rw [← r1.length, ← r2.length, ← h2.length, ← k2.length, ← SZ_eq]; exact hz
    have hf : H s.heap.objs.size = none := I.hok.fresh (Nat.le_refl _)
    refine concat_meets ⟨_, ho, rfl⟩ ⟨_, ho2, rfl⟩ noFill_list_add seq_list_add PySem.F.slot_list_add PySem.F.entry_list_add (PySem.F.args_list_add_2 _ _)
      (PyProof.Rows.list_addW p q its.toArray jts.toArray n1 n2 _ _ sl sl2 (by simpa using hl)) ⟨ho, ho2, ?_⟩
    have ea : its.toArray ++ jts.toArray = (its ++ jts).toArray := by simp
    rw [ea]
    refine ⟨.ref s.heap.objs.size, _, I.laid (t' := s.toks) (o := .lst (vs ++ ws)) (fun b o e => Heap.get?_push_of_some _ e) (Nat.le_refl _) ⟨by rw [List.length_append, r1.length, r2.length]; exact hl, _, _, r1.append r2, Heap.get?_push_size _ rfl⟩, rfl, ?_⟩
    exact c.lst hF (h2.append k2) hf
  · split at e <;> cases e
    rename_i hz
    obtain ⟨p, vs, rfl, h1, h2, h3⟩ := hx.tup hF
    obtain ⟨q, ws, rfl, k1, k2, k3⟩ := hy.tup hF
    rw [← hK] at h1 k1
    refine op_catA pins s σ H _ _ v u Q I rx ry ⟨p, q, vs, ws, rfl, rfl, h1, k1, by rw [← h2.length, ← k2.length, ← SZ_eq]; exact hz, fun z => ?_, fun z z2 => ?_, fun z z2 t ht => c.tup hF (h2.append k2) ht⟩
    · subst z
      rw [h2.nil_of, List.nil_append] at c
      exact c.1 _ k3
    · subst z2
      rw [k2.nil_of, List.append_nil] at c
      exact c.1 _ h3
  · cases e

theorem rep1 {F : Hp} {ρ : List Addr} {H : Hp} {d : D} {xs : List V} (h : RepHs L F ρ H [d] xs) : ∃ x, xs = [x] ∧ RepH L F ρ H d x := by
  unfold RepHs at h
  obtain ⟨v, r, h1, h2, h3⟩ := h
  unfold RepHs at h3
  subst h3
  exact ⟨v, h1, h2⟩
theorem rep2 {F : Hp} {ρ : List Addr} {H : Hp} {d e : D} {xs : List V} (h : RepHs L F ρ H [d, e] xs) : ∃ x y, xs = [x, y] ∧ RepH L F ρ H d x ∧ RepH L F ρ H e y := by
  unfold RepHs at h
  obtain ⟨v, r, h1, h2, h3⟩ := h
  obtain ⟨w, h4, h5⟩ := rep1 h3
  subst h4
  exact ⟨v, w, h1, h2, h5⟩

theorem opr_sub : OpR X (binaryOp .Sub) (rD2 L .sub) := by
  intro pins s σ H x y v u Q I rx ry h
  obtain ⟨F, ρ, dx, dy, d, hF, hx, hy, e, c⟩ := h
  have e : sSub dx dy = some d := e
  unfold sSub at e
  split at e <;> cases e
  obtain rfl := hx.int; obtain rfl := hy.int
  exact op_sub pins s σ H _ _ v u Q I rx ry ⟨_, _, rfl, rfl, c.int⟩
theorem foldl_repl (xs : List Nat) : ∀ (n : Nat) (acc : List Nat), (List.replicate n xs.toArray).foldl (· ++ ·) acc.toArray = (acc ++ repl n xs).toArray
  | 0, acc => by simp [repl]
  | n + 1, acc => by
    rw [List.replicate_succ, List.foldl_cons]
    have e : acc.toArray ++ xs.toArray = (acc ++ xs).toArray := by simp
    rw [e, foldl_repl xs n, repl, List.append_assoc]
theorem repl_nil {α : Type} : ∀ n : Nat, repl n ([] : List α) = []
  | 0 => rfl
  | n + 1 => by rw [repl, repl_nil n]; rfl
theorem opr_mul : OpR X (binaryOp .Mult) (rD2 L .mul) := by
  intro pins s σ H x y v u Q I rx ry h
  obtain ⟨F, ρ, dx, dy, d, hF, hx, hy, e, c⟩ := h
  have e : sMul dx dy = some d := e
  unfold sMul at e
  split at e
  · split at e <;> cases e
    rename_i hz
    obtain rfl := hx.int; obtain rfl := hy.int
    obtain ⟨t, rfl⟩ := rx
    obtain ⟨t', rfl⟩ := ry
    exact PyProof.Rows.mul_int ⟨.int _, H, I.tok _, ⟨_, rfl⟩, c.int⟩ (mulOk_ok hz)
  · split at e <;> cases e
    rename_i a j hz
    obtain ⟨hz, hj⟩ := hz
    obtain rfl := hx.str; obtain rfl := hy.int
    obtain ⟨t, rfl⟩ := rx
    obtain ⟨t', rfl⟩ := ry
    have hs : (SZ : Nat) = 16777216 := rfl
    refine PySem.P.mul_str ?_ ?_ ?_ ?_
    · rw [decide_eq_false (by omega), decide_eq_false (by omega)]; rfl
    · intro h1 h2 h3
      rw [str_len] at h3 h2
      have hj1 : 1 ≤ j := by omega
      have hlt : (a.length : Int) * j ≤ 16777216 := by
        have : ((a.length * j.toNat : Nat) : Int) ≤ 16777216 := by rw [hs] at hz; omega
        rw [Int.natCast_mul, Int.toNat_of_nonneg (by omega)] at this
        exact this
      have h4 : (2 ^ 63 - 1 : Int) / j * j > (2 ^ 63 - 1) - j := by
        have := Int.emod_lt_of_pos (2 ^ 63 - 1 : Int) (show 0 < j by omega)
        have e2 := Int.mul_ediv_add_emod (2 ^ 63 - 1 : Int) j
        rw [Int.mul_comm] at e2
        omega
      have h5 : (a.length : Int) * j ≥ ((2 ^ 63 - 1 : Int) / j + 1) * j := Int.mul_le_mul_of_nonneg_right (by omega) (by omega)
      rw [Int.add_mul] at h5
      omega
    · intro h1 h2
      rw [str_len]
      unfold Builtin.Str.tooLong
      exact decide_eq_false (by rw [← SZ_eq]; omega)
    · have fin : ∀ (z : Str), z = ⟨(repl j.toNat a).toArray⟩ → ∀ t2 k, EP X pins σ Q (.str z t2) { s with toks := k } := fun z ez t2 k => by
        subst ez
        exact ⟨.str _, H, I.tok _, ⟨_, rfl⟩, c.str⟩
      by_cases h1 : j < 1
      · rw [if_pos h1]
        have : j.toNat = 0 := by omega
        exact ⟨by decide, fin _ (by rw [this]; rfl) _ _⟩
      · rw [if_neg h1]
        by_cases h2 : (j == 1 || (⟨a.toArray⟩ : Str).length == 0) = true
        · rw [if_pos h2]
          show EP X pins σ Q _ s
          refine fin _ ?_ _ s.toks
          rw [str_len, Bool.or_eq_true, beq_iff_eq, beq_iff_eq] at h2
          rcases h2 with h2 | h2
          · subst h2; simp [repl]
          · have : a = [] := List.length_eq_zero_iff.mp h2
            subst this
            rw [repl_nil]
        · rw [if_neg h2]
          have e3 := foldl_repl a j.toNat []
          rw [List.nil_append] at e3
          have e4 : (List.replicate j.toNat (⟨a.toArray⟩ : Str).cps).foldl (· ++ ·) #[] = (repl j.toNat a).toArray := e3
          rw [e4]
          refine ⟨?_, fin _ rfl _ _⟩
          show (repl j.toNat a).toArray.size ≤ sizeLine
          have : ∀ n, (repl n a).length = n * a.length := fun n => by
            induction n with
            | zero => simp [repl]
            | succ n ih => rw [repl, List.length_append, ih, Nat.succ_mul]; omega
          rw [List.size_toArray, this, ← SZ_eq, Nat.mul_comm]
          exact hz
  · cases e
theorem opr_div : OpR X (binaryOp .FloorDiv) (rD2 L .fdiv) := by
  intro pins s σ H x y v u Q I rx ry h
  obtain ⟨F, ρ, dx, dy, d, hF, hx, hy, e, c⟩ := h
  have e : sDiv dx dy = some d := e
  unfold sDiv at e
  split at e
  · split at e <;> cases e
    rename_i i j hz
    unfold divOk at hz
    rw [Bool.and_eq_true] at hz
    obtain rfl := hx.int; obtain rfl := hy.int
    obtain ⟨t, rfl⟩ := rx
    obtain ⟨t', rfl⟩ := ry
    exact PyProof.Rows.floordiv_int (by simpa using hz.1) ⟨.int _, H, I.tok _, ⟨_, rfl⟩, c.int⟩ (.inl (by simpa using hz.2))
  · cases e
theorem opr_mod : OpR X (binaryOp .Mod) (rD2 L .mod) := by
  intro pins s σ H x y v u Q I rx ry h
  obtain ⟨F, ρ, dx, dy, d, hF, hx, hy, e, c⟩ := h
  have e : sMod dx dy = some d := e
  unfold sMod at e
  split at e
  · split at e <;> cases e
    rename_i hz
    obtain rfl := hx.int; obtain rfl := hy.int
    exact op_modN pins s σ H _ _ v u Q I rx ry ⟨_, _, rfl, rfl, hz, c.int⟩
  · cases e
theorem opr_pow : OpR X (binaryOp .Pow) (rD2 L .pow) := by
  intro pins s σ H x y v u Q I rx ry h
  obtain ⟨F, ρ, dx, dy, d, hF, hx, hy, e, c⟩ := h
  have e : sPow dx dy = some d := e
  unfold sPow at e
  split at e
  · split at e <;> cases e
    rename_i hz
    obtain rfl := hx.int; obtain rfl := hy.int
    exact op_pow pins s σ H _ _ v u Q I rx ry ⟨_, _, rfl, rfl, hz, c.int⟩
  · cases e
theorem opr_shl : OpR X (binaryOp .LShift) (rD2 L .shl) := by
  intro pins s σ H x y v u Q I rx ry h
  obtain ⟨F, ρ, dx, dy, d, hF, hx, hy, e, c⟩ := h
  have e : sShl dx dy = some d := e
  unfold sShl at e
  split at e
  · split at e <;> cases e
    rename_i i j hz
    obtain rfl := hx.int; obtain rfl := hy.int
    refine op_shlW pins s σ H _ _ v u Q I rx ry ⟨_, _, rfl, rfl, ⟨hz.1, ?_⟩, c.int⟩
    have : Builtin.Int.intBits i ≤ i.natAbs.log2 + 1 := by unfold Builtin.Int.intBits; split <;> omega
    have e : (2 : Int) ^ 27 = 134217728 := by decide
    rw [e]; omega
  · cases e
theorem opr_shr : OpR X (binaryOp .RShift) (rD2 L .shr) := by
  intro pins s σ H x y v u Q I rx ry h
  obtain ⟨F, ρ, dx, dy, d, hF, hx, hy, e, c⟩ := h
  have e : sShr dx dy = some d := e
  unfold sShr at e
  split at e
  · split at e <;> cases e
    rename_i hz
    obtain rfl := hx.int; obtain rfl := hy.int
    exact op_shr pins s σ H _ _ v u Q I rx ry ⟨_, _, rfl, rfl, hz, c.int⟩
  · cases e
theorem unr_neg : UnR X (unaryOp .USub) (rD1 L .neg) := by
  intro pins s σ H x v Q I rx h
  obtain ⟨F, ρ, dx, d, hF, hx, e, c⟩ := h
  have e : sNeg dx = some d := e
  unfold sNeg at e
  split at e <;> cases e
  obtain rfl := hx.int
  exact un_neg pins s σ H _ v Q I rx ⟨_, rfl, c.int⟩
theorem opr_lt : OpR X (compareOp .Lt) (rD2 L .lt) := by
  intro pins s σ H x y v u Q I rx ry h
  obtain ⟨F, ρ, dx, dy, d, hF, hx, hy, e, c⟩ := h
  have e : sLt dx dy = some d := e
  unfold sLt at e
  split at e <;> cases e
  obtain rfl := hx.int; obtain rfl := hy.int
  exact op_lt pins s σ H _ _ v u Q I rx ry ⟨_, _, rfl, rfl, c.bl⟩
theorem opr_le : OpR X (compareOp .LtE) (rD2 L .le) := by
  intro pins s σ H x y v u Q I rx ry h
  obtain ⟨F, ρ, dx, dy, d, hF, hx, hy, e, c⟩ := h
  have e : sLe dx dy = some d := e
  unfold sLe at e
  split at e <;> cases e
  obtain rfl := hx.int; obtain rfl := hy.int
  exact op_le pins s σ H _ _ v u Q I rx ry ⟨_, _, rfl, rfl, c.bl⟩
theorem opr_gt : OpR X (compareOp .Gt) (rD2 L .gt) := by
  intro pins s σ H x y v u Q I rx ry h
  obtain ⟨F, ρ, dx, dy, d, hF, hx, hy, e, c⟩ := h
  have e : sGt dx dy = some d := e
  unfold sGt at e
  split at e <;> cases e
  obtain rfl := hx.int; obtain rfl := hy.int
  exact op_gt pins s σ H _ _ v u Q I rx ry ⟨_, _, rfl, rfl, c.bl⟩
theorem opr_ge : OpR X (compareOp .GtE) (rD2 L .ge) := by
  intro pins s σ H x y v u Q I rx ry h
  obtain ⟨F, ρ, dx, dy, d, hF, hx, hy, e, c⟩ := h
  have e : sGe dx dy = some d := e
  unfold sGe at e
  split at e <;> cases e
  obtain rfl := hx.int; obtain rfl := hy.int
  exact op_ge pins s σ H _ _ v u Q I rx ry ⟨_, _, rfl, rfl, c.bl⟩
end

/-! ### == at any depth -/
mutual
def pyD : D → PyData
  | .bl b => .bool b
  | .int i => .int i
  | .str s => .str ⟨s.toArray⟩
  | .tup xs => .tuple (pyDs xs)
  | .lst xs => .list (pyDs xs)
  | _ => .none
def pyDs : List D → List PyData
  | [] => []
  | x :: xs => pyD x :: pyDs xs
end
mutual
theorem pyD_lay : ∀ d : D, layD d = true → (pyD d).canLay0 = true
  | .non, _ => by simp [pyD, PyData.canLay0]
  | .bl _, _ => by simp [pyD, PyData.canLay0]
  | .int _, _ => by simp [pyD, PyData.canLay0]
  | .str s, h => by
    simp only [layD] at h
    simp only [pyD, PyData.canLay0, PyData.strOk]
    simpa using h
  | .tup xs, h => by
    simp only [layD] at h
    simp only [pyD, PyData.canLay0]
    exact pyDs_lay xs h
  | .lst xs, h => by
    simp only [layD] at h
    simp only [pyD, PyData.canLay0]
    exact pyDs_lay xs h
  | .dic _, h => by simp [layD] at h
  | .ins _ _, h => by simp [layD] at h
  | .exc _ _, h => by simp [layD] at h
  | .adr _, h => by simp [layD] at h
  | .slot _, h => by simp [layD] at h
  | .fn _, h => by simp [layD] at h
theorem pyDs_lay : ∀ ds : List D, layDs ds = true → PyData.canLayAll0 (pyDs ds) = true
  | [], _ => by simp [pyDs, PyData.canLayAll0]
  | d :: ds, h => by
    simp only [layDs, Bool.and_eq_true] at h
    simp only [pyDs, PyData.canLayAll0, Bool.and_eq_true]
    exact ⟨pyD_lay d h.1, pyDs_lay ds h.2⟩
end
mutual
theorem pyD_dep : ∀ d : D, (pyD d).depth = depD d
  | .tup xs => by simp only [pyD, PyData.depth, depD, pyDs_dep xs]
  | .lst xs => by simp only [pyD, PyData.depth, depD, pyDs_dep xs]
  | .non => by simp [pyD, PyData.depth, depD]
  | .bl _ => by simp [pyD, PyData.depth, depD]
  | .int _ => by simp [pyD, PyData.depth, depD]
  | .str _ => by simp [pyD, PyData.depth, depD]
  | .dic _ => by simp [pyD, PyData.depth, depD]
  | .ins _ _ => by simp [pyD, PyData.depth, depD]
  | .exc _ _ => by simp [pyD, PyData.depth, depD]
  | .adr _ => by simp [pyD, PyData.depth, depD]
  | .slot _ => by simp [pyD, PyData.depth, depD]
  | .fn _ => by simp [pyD, PyData.depth, depD]
theorem pyDs_dep : ∀ ds : List D, PyData.depthAll (pyDs ds) = depDs ds
  | [] => by simp [pyDs, PyData.depthAll, depDs]
  | d :: ds => by simp only [pyDs, PyData.depthAll, depDs, pyD_dep d, pyDs_dep ds]
end
theorem str_beq (x y : List Nat) : ((⟨x.toArray⟩ : Str) == ⟨y.toArray⟩) = (x == y) := by
  rw [Bool.eq_iff_iff]; simp
mutual
theorem pyD_eqv : ∀ a b : D, layD a = true → layD b = true → PyData.eqv (pyD a) (pyD b) = eqvD a b
  | .tup xs, b, h, k => by
    simp only [layD] at h
    cases b with
    | tup ys => simp only [layD] at k; simp only [pyD, PyData.eqv, eqvD]; exact pyDs_eqv xs ys h k
    | _ => first | (simp [layD] at k; done) | simp [pyD, PyData.eqv, eqvD]
  | .lst xs, b, h, k => by
    simp only [layD] at h
    cases b with
    | lst ys => simp only [layD] at k; simp only [pyD, PyData.eqv, eqvD]; exact pyDs_eqv xs ys h k
    | _ => first | (simp [layD] at k; done) | simp [pyD, PyData.eqv, eqvD]
  | .non, b, h, k => by cases b <;> first | (simp [layD] at k; done) | simp [pyD, PyData.eqv, eqvD]
  | .bl _, b, h, k => by cases b <;> first | (simp [layD] at k; done) | simp [pyD, PyData.eqv, eqvD, b2i]
  | .int _, b, h, k => by cases b <;> first | (simp [layD] at k; done) | simp [pyD, PyData.eqv, eqvD, b2i]
  | .str _, b, h, k => by cases b <;> first | (simp [layD] at k; done) | simp [pyD, PyData.eqv, eqvD, str_beq]
  | .dic _, _, h, _ => by simp [layD] at h
  | .ins _ _, _, h, _ => by simp [layD] at h
  | .exc _ _, _, h, _ => by simp [layD] at h
  | .adr _, _, h, _ => by simp [layD] at h
  | .slot _, _, h, _ => by simp [layD] at h
  | .fn _, _, h, _ => by simp [layD] at h
theorem pyDs_eqv : ∀ as bs : List D, layDs as = true → layDs bs = true → PyData.eqvAll (pyDs as) (pyDs bs) = eqvDs as bs
  | [], [], _, _ => by simp [pyDs, PyData.eqvAll, eqvDs]
  | [], _ :: _, _, _ => by simp [pyDs, PyData.eqvAll, eqvDs]
  | _ :: _, [], _, _ => by simp [pyDs, PyData.eqvAll, eqvDs]
  | a :: as, b :: bs, h, k => by
    simp only [layDs, Bool.and_eq_true] at h k
    simp only [pyDs, PyData.eqvAll, eqvDs, pyD_eqv a b h.1 k.1, pyDs_eqv as bs h.2 k.2]
end
section
variable {L : Lk} {F : Hp} {ρ : List Addr} {H : Hp}
mutual
theorem dp_of (hF : ∀ a o, F a = some o → H a = some o) : ∀ (d : D) (v : V), layD d = true → Rep L F ρ d v → Dp L.K H v (pyD d)
  | .non, v, _, r => by unfold Rep at r; subst r; simp only [pyD]; exact .non
  | .bl b, v, _, r => by unfold Rep at r; subst r; simp only [pyD]; exact .bl b
  | .int b, v, _, r => by unfold Rep at r; subst r; simp only [pyD]; exact .int b
  | .str b, v, _, r => by unfold Rep at r; subst r; simp only [pyD]; exact .str _
  | .tup ds, v, h, r => by
    unfold Rep at r
    simp only [layD] at h
    obtain ⟨a, vs, rfl, h2, h3⟩ := r
    simp only [pyD]
    exact .tup (sqT_up hF h2) (dps_of hF ds vs h h3)
  | .lst ds, v, h, r => by
    unfold Rep at r
    simp only [layD] at h
    obtain ⟨a, vs, rfl, h2, h3⟩ := r
    simp only [pyD]
    exact .lst (sqL_up hF h2) (dps_of hF ds vs h h3)
  | .dic _, _, h, _ => by simp [layD] at h
  | .ins _ _, _, h, _ => by simp [layD] at h
  | .exc _ _, _, h, _ => by simp [layD] at h
  | .adr _, _, h, _ => by simp [layD] at h
  | .slot _, _, h, _ => by simp [layD] at h
  | .fn _, _, h, _ => by simp [layD] at h
theorem dps_of (hF : ∀ a o, F a = some o → H a = some o) : ∀ (ds : List D) (vs : List V), layDs ds = true → Reps L F ρ ds vs → DpAll L.K H vs (pyDs ds)
  | [], vs, _, r => by unfold Reps at r; subst r; simp only [pyDs]; exact .nil
  | d :: ds, vs, h, r => by
    unfold Reps at r
    obtain ⟨v, w, rfl, h2, h3⟩ := r
    simp only [layDs, Bool.and_eq_true] at h
    simp only [pyDs]
    exact .cons (dp_of hF d v h.1 h2) (dps_of hF ds w h.2 h3)
end
theorem dpH_of (hF : ∀ a o, F a = some o → H a = some o) {d : D} {v : V} (h : layD d = true) (r : RepH L F ρ H d v) : Dp L.K H v (pyD d) := by
  rcases r with r | ⟨xs, a, vs, rfl, rfl, h2, h3⟩ | ⟨i, rfl⟩
  · exact dp_of hF d v h r
  · simp only [layD] at h
    simp only [pyD]
    exact .lst (SqL.of h2) (dps_of hF xs vs h h3)
  · simp [layD] at h
theorem shaped_of {d : D} (h : layD d = true) (k : depD d ≤ 64) : SeqAt.shaped (pyD d) = true := by
  unfold SeqAt.shaped
  rw [pyD_lay d h, pyD_dep d, decide_eq_true k]; rfl
theorem scal_of {a b : D} {x y : V} (h : scalD a b = true) (hx : RepH L F ρ H a x) (hy : RepH L F ρ H b y) : scal x y = true ∧ decide (x = y) = eqvD a b := by
  cases a <;> cases b <;> first
    | (simp [scalD] at h; done)
    | (first | obtain rfl := hx.non | obtain rfl := hx.bl | obtain rfl := hx.int | obtain rfl := hx.str
       first | obtain rfl := hy.non | obtain rfl := hy.bl | obtain rfl := hy.int | obtain rfl := hy.str
       refine ⟨rfl, ?_⟩
       rw [Bool.eq_iff_iff]
       simp [eqvD])
end
section
variable {X : Cx} {L : Lk}
theorem opr_eq (hK : X.K = L.K) (hu : X.A.units + 64 < cLine) : OpR X (compareOp .Eq) (rD2 L .eq) := by
  intro pins s σ H x y v u Q I rx ry h
  obtain ⟨F, ρ, dx, dy, d, hF, hx, hy, e, c⟩ := h
  have e : (eqD dx dy).map .bl = some d := e
  unfold eqD at e
  split at e
  · rename_i hs
    cases e
    obtain ⟨h1, h2⟩ := scal_of hs hx hy
    exact op_eq pins s σ H x y v u Q I rx ry ⟨h1, by rw [h2]; exact c.bl⟩
  · split at e
    · rename_i hl
      obtain ⟨l1, l2, d1, d2⟩ := hl
      cases e
      refine op_eqD hu pins s σ H x y v u Q I rx ry ⟨pyD dx, pyD dy, by rw [hK]; exact dpH_of hF l1 hx, by rw [hK]; exact dpH_of hF l2 hy, shaped_of l1 d1, shaped_of l2 d2, ?_⟩
      rw [pyD_eqv _ _ l1 l2]; exact c.bl
    · cases e
theorem opr_ne (hK : X.K = L.K) (hu : X.A.units + 64 < cLine) : OpR X (compareOp .NotEq) (rD2 L .ne) := by
  intro pins s σ H x y v u Q I rx ry h
  obtain ⟨F, ρ, dx, dy, d, hF, hx, hy, e, c⟩ := h
  have e : (eqD dx dy).map (fun k => D.bl (!k)) = some d := e
  unfold eqD at e
  split at e
  · rename_i hs
    cases e
    obtain ⟨h1, h2⟩ := scal_of hs hx hy
    exact op_ne pins s σ H x y v u Q I rx ry ⟨h1, by rw [h2]; exact c.bl⟩
  · split at e
    · rename_i hl
      obtain ⟨l1, l2, d1, d2⟩ := hl
      cases e
      refine op_neD hu pins s σ H x y v u Q I rx ry ⟨pyD dx, pyD dy, by rw [hK]; exact dpH_of hF l1 hx, by rw [hK]; exact dpH_of hF l2 hy, shaped_of l1 d1, shaped_of l2 d2, ?_⟩
      rw [pyD_eqv _ _ l1 l2]; exact c.bl
    · cases e
theorem eqvAny (a : D) : ∀ ys : List D, layD a = true → layDs ys = true → ((pyDs ys).any fun z => PyData.eqv z (pyD a)) = ys.any fun y => eqvD y a
  | [], _, _ => by simp [pyDs]
  | y :: ys, h, k => by
    simp only [layDs, Bool.and_eq_true] at k
    simp only [pyDs, List.any_cons, pyD_eqv y a k.1 h, eqvAny a ys h k.2]
theorem flat_of {F : Hp} {ρ : List Addr} {H : Hp} {d : D} {v : V} (h : flatD d = true) (r : RepH L F ρ H d v) : flatV v = true := by
  cases d <;> first
    | (simp [flatD] at h; done)
    | (first | obtain rfl := r.non | obtain rfl := r.bl | obtain rfl := r.int | obtain rfl := r.str
       rfl)
theorem eqV_of {F : Hp} {ρ : List Addr} {H : Hp} {a b : D} {v w : V} (ha : flatD a = true) (hb : flatD b = true) (r : RepH L F ρ H a v) (r' : RepH L F ρ H b w) : eqV v w = eqvD a b := by
  cases a <;> cases b <;> first
    | (simp [flatD] at ha; done)
    | (simp [flatD] at hb; done)
    | (first | obtain rfl := r.non | obtain rfl := r.bl | obtain rfl := r.int | obtain rfl := r.str
       first | obtain rfl := r'.non | obtain rfl := r'.bl | obtain rfl := r'.int | obtain rfl := r'.str
       simp [eqV, eqvD, b2i, str_beq])
theorem inV_of {F : Hp} {ρ : List Addr} {H : Hp} {a : D} {v : V} (ha : flatD a = true) (r : RepH L F ρ H a v) : ∀ {ys : List D} {vs : List V}, ys.all flatD = true → Reps L F ρ ys vs → inV v vs = (ys.any fun y => eqvD y a) ∧ vs.all flatV = true
  | [], vs, _, h => by unfold Reps at h; subst h; exact ⟨rfl, rfl⟩
  | y :: ys, vs, k, h => by
    unfold Reps at h
    obtain ⟨w, t, rfl, h2, h3⟩ := h
    simp only [List.all_cons, Bool.and_eq_true] at k
    obtain ⟨q1, q2⟩ := inV_of ha r k.2 h3
    refine ⟨?_, ?_⟩
    · unfold inV at q1 ⊢
      rw [List.any_cons, List.any_cons, q1, eqV_of k.1 ha (.inl h2) r]
    · rw [List.all_cons, q2, flat_of k.1 (.inl h2 : RepH L F ρ H y w)]; rfl
theorem opr_in (hK : X.K = L.K) (hu : X.A.units + 65 < cLine) : OpR X (compareOp .In) (rD2 L .isin) := by
  intro pins s σ H x y v u Q I rx ry h
  obtain ⟨F, ρ, dx, dy, d, hF, hx, hy, e, c⟩ := h
  have e : (sIn dx dy).map .bl = some d := e
  unfold sIn at e
  split at e
  · cases e
    obtain rfl := hx.str; obtain rfl := hy.str
    refine op_in_sign pins s σ H _ _ v u Q I rx ry ⟨_, _, rfl, rfl, ?_⟩
    exact c.bl
  · unfold isinD at e
    split at e
    · rename_i hl
      obtain ⟨l1, l2, d1, d2⟩ := hl
      cases e
      refine op_inD hu pins s σ H x y v u Q I rx ry ⟨pyD dx, pyDs _, by rw [hK]; exact dpH_of hF l1 hx, by rw [hK]; exact (by have := dpH_of (d := .lst _) hF (by simp only [layD]; exact l2) hy; simp only [pyD] at this; exact this), shaped_of l1 d1,
        by have := shaped_of (d := .lst _) (by simp only [layD]; exact l2) (by simp only [depD]; omega); simp only [pyD] at this; exact this, ?_⟩
      rw [eqvAny _ _ l1 l2]; exact c.bl
    · cases e
  · split at e
    · rename_i hl
      cases e
      simp only [List.all_cons, Bool.and_eq_true] at hl
      obtain ⟨p, vs, rfl, h1, h2, h3⟩ := hy.tup hF
      obtain ⟨q1, q2⟩ := inV_of hl.1 hx hl.2 h2
      refine op_in_seq pins s σ H _ _ v u Q I rx ry ⟨p, vs, rfl, .inr (by rw [hK]; exact h1), flat_of hl.1 hx, q2, ?_⟩
      rw [if_neg Bool.false_ne_true, q1]; exact c.bl
    · cases e
  · cases e
theorem opr_notin (hK : X.K = L.K) (hu : X.A.units + 65 < cLine) : OpR X (compareOp .NotIn) (rD2 L .notin) := by
  intro pins s σ H x y v u Q I rx ry h
  obtain ⟨F, ρ, dx, dy, d, hF, hx, hy, e, c⟩ := h
  have e : (sIn dx dy).map (fun k => D.bl (!k)) = some d := e
  unfold sIn at e
  split at e
  · cases e
    obtain rfl := hx.str; obtain rfl := hy.str
    refine op_notIn_sign pins s σ H _ _ v u Q I rx ry ⟨_, _, rfl, rfl, ?_⟩
    exact c.bl
  · unfold isinD at e
    split at e
    · rename_i hl
      obtain ⟨l1, l2, d1, d2⟩ := hl
      cases e
      refine op_notInD hu pins s σ H x y v u Q I rx ry ⟨pyD dx, pyDs _, by rw [hK]; exact dpH_of hF l1 hx, by rw [hK]; exact (by have := dpH_of (d := .lst _) hF (by simp only [layD]; exact l2) hy; simp only [pyD] at this; exact this), shaped_of l1 d1,
        by have := shaped_of (d := .lst _) (by simp only [layD]; exact l2) (by simp only [depD]; omega); simp only [pyD] at this; exact this, ?_⟩
      rw [eqvAny _ _ l1 l2]; exact c.bl
    · cases e
  · split at e
    · rename_i hl
      cases e
      simp only [List.all_cons, Bool.and_eq_true] at hl
      obtain ⟨p, vs, rfl, h1, h2, h3⟩ := hy.tup hF
      obtain ⟨q1, q2⟩ := inV_of hl.1 hx hl.2 h2
      refine op_notIn_seq pins s σ H _ _ v u Q I rx ry ⟨p, vs, rfl, .inr (by rw [hK]; exact h1), flat_of hl.1 hx, q2, ?_⟩
      rw [if_pos rfl, q1]; exact c.bl
    · cases e
  · cases e
theorem isNon_of {F : Hp} {ρ : List Addr} {H : Hp} {d : D} {v : V} {b : Bool} (e : isNon d = some b) (r : RepH L F ρ H d v) : decide (v = .non) = b := by
  rcases r with r | ⟨xs, a, vs, rfl, rfl, h2, h3⟩ | ⟨i, rfl⟩
  · cases d <;> simp only [isNon] at e <;> cases e
    all_goals unfold Rep at r
    all_goals first
      | (subst r; rfl)
      | (obtain ⟨a, r⟩ := r; first | (obtain ⟨rfl, _⟩ := r; rfl) | (obtain ⟨_, rfl, _⟩ := r; rfl) | (obtain ⟨_, _, rfl, _⟩ := r; rfl))
      | exact r.elim
  · simp only [isNon] at e; cases e; rfl
  · simp [isNon] at e
theorem ixL_of (hK : X.K = L.K) {F : Hp} {ρ : List Addr} {H : Hp} {xs : List D} {i : Int} {d : D} {vs : List V} (h : Reps L F ρ xs vs) (e : ((ixOf i xs.length).bind fun k => xs[k]?) = some d) : ∃ v, atI vs i = some v ∧ Rep L F ρ d v := by
  have el := h.length
  unfold atI
  have e2 : ixN vs.length i = ixOf i xs.length := by rw [el]; rfl
  rw [e2]
  cases q : ixOf i xs.length with
  | none => rw [q] at e; cases e
  | some k =>
    rw [q] at e
    exact h.get' (i := k) (show xs[k]? = some d from e)
theorem ixr_idx (hK : X.K = L.K) : IxR X (rD2 L .idx) := by
  intro value slice pins s σ H x y v u Q I rx ry h hs
  obtain ⟨F, ρ, dx, dy, d, hF, hx, hy, e, c⟩ := h
  have e : sIdx dx dy = some d := e
  unfold sIdx at e
  split at e
  · obtain rfl := hy.int
    obtain ⟨p, vs, rfl, h1, h2⟩ := hx.lst hF
    obtain ⟨w, k1, k2⟩ := ixL_of (H := H) hK h2 e
    exact ix_list value slice pins s σ H _ _ v u Q I rx ry ⟨p, vs, _, w, rfl, rfl, by rw [hK]; exact h1, k1, c.1 _ k2⟩ hs
  · obtain rfl := hy.int
    obtain ⟨p, vs, rfl, h1, h2, _⟩ := hx.tup hF
    obtain ⟨w, k1, k2⟩ := ixL_of (H := H) hK h2 e
    exact ix_tup value slice pins s σ H _ _ v u Q I rx ry ⟨p, vs, _, w, rfl, rfl, by rw [hK]; exact h1, k1, c.1 _ k2⟩ hs
  · rename_i xs i _
    split at e
    · rename_i hz
      obtain rfl := hx.str; obtain rfl := hy.int
      cases q : ixOf i xs.length with
      | none => rw [q] at e; cases e
      | some k =>
        rw [q] at e
        have e : (xs[k]?).map (fun c => D.str [c]) = some d := e
        cases q2 : xs[k]? with
        | none => rw [q2] at e; cases e
        | some ch =>
          rw [q2] at e; cases e
          refine ix_str value slice pins s σ H _ _ v u Q I rx ry ⟨_, _, ch, rfl, rfl, by rw [str_len, ← SZ_eq]; exact hz, ?_, c.str⟩ hs
          show (ixN xs.length i).bind _ = _
          have e2 : ixN xs.length i = ixOf i xs.length := rfl
          rw [e2, q]; exact q2
    · cases e
  · cases e
end
end Low

/-! Low, part 4: slices, built-ins by name, methods of built-in types, isinstance. -/
namespace Low
open PySem L2

section
variable {X : Cx} {L : Lk}
/-- a slice by values -/
def rSlD (L : Lk) : V → Option Int → Option Int → Hp → VK → Prop := fun x lo hi H Q => ∃ F ρ dx d, (∀ a o, F a = some o → H a = some o) ∧ RepH L F ρ H dx x ∧ sSlc dx lo hi = some d ∧ Cont L F ρ H d Q
theorem cutAt_eq (n d : Nat) (o : Option Int) : HT.sIx n d o = cutAt n d o := by
  cases o <;> rfl
theorem cutV_of {F : Hp} {ρ : List Addr} {xs : List D} {vs : List V} (h : Reps L F ρ xs vs) (lo hi : Option Int) : Reps L F ρ (cut lo hi xs) (cutV vs lo hi) := by
  have e : cutV vs lo hi = (vs.drop (cutAt xs.length 0 lo)).take (cutAt xs.length xs.length hi - cutAt xs.length 0 lo) := by
    unfold cutV
    rw [cutAt_eq, cutAt_eq, h.length]
  rw [e]
  exact (h.drop _).take _
theorem slr (hK : X.K = L.K) : SlR X (rSlD L) := by
  intro pins s σ H x v vl vu lo hi sl Q I rx hs pl pu h
  obtain ⟨F, ρ, dx, d, hF, hx, e, c⟩ := h
  unfold sSlc at e
  split at e
  · split at e <;> cases e
    rename_i ys hz
    obtain rfl := hx.str
    refine sl_str pins s σ H _ v vl vu lo hi sl Q I rx hs pl pu ⟨_, rfl, by rw [str_len, ← SZ_eq]; exact hz, ?_⟩
    have : cutS ⟨ys.toArray⟩ lo hi = ⟨(cut lo hi ys).toArray⟩ := by
      unfold cutS
      rw [cutAt_eq, cutAt_eq, str_len]; rfl
    rw [this]; exact c.str
  · cases e
    obtain ⟨p, vs, rfl, h1, h2⟩ := hx.lst hF
    exact sl_list pins s σ H _ v vl vu lo hi sl Q I rx hs pl pu ⟨p, vs, rfl, by rw [hK]; exact h1, fun q hq => c.lst hF (cutV_of h2 lo hi) hq⟩
  · cases e
    obtain ⟨p, vs, rfl, h1, h2, h3⟩ := hx.tup hF
    refine sl_tupA pins s σ H _ v vl vu lo hi sl Q I rx hs pl pu ⟨p, vs, rfl, by rw [hK]; exact h1, fun hw => ?_, fun hw q hq => c.tup hF (cutV_of h2 lo hi) hq⟩
    rename_i ys
    rw [cutAt_eq, cutAt_eq, ← h2.length] at hw
    have : cut lo hi ys = ys := by
      unfold cut
      rw [hw.1, hw.2]
      rw [List.drop_zero, Nat.sub_zero, List.take_length]
    rw [this] at c
    exact c.1 _ h3
  · cases e

/-! ### built-ins -/
theorem cl_len (hK : X.K = L.K) : CallR X (.builtin "len") (rDN L .len) := by
  intro pins s σ H xs us Q I r h
  obtain ⟨F, ρ, ds, d, hF, hxs, e, c⟩ := h
  rcases ds with _ | ⟨dx, _ | ⟨d2, r2⟩⟩
  · exact (nomatch e)
  · obtain ⟨x, rfl, hx⟩ := rep1 hxs
    clear hxs
    replace e : sLen dx = some d := e
    unfold sLen at e
    split at e
    · split at e <;> cases e
      rename_i hz
      obtain rfl := hx.str
      refine call_len pins s σ H _ us Q I r ⟨_, _, rfl, ⟨by rw [str_len, ← SZ_eq]; exact hz, rfl⟩, ?_⟩
      rw [str_len]; exact c.int
    · cases e
      obtain ⟨p, vs, rfl, h1, h2⟩ := hx.lst hF
      refine call_len pins s σ H _ us Q I r ⟨_, vs.length, rfl, .inl ⟨vs, by rw [hK]; exact h1, rfl⟩, ?_⟩
      rw [← h2.length]; exact c.int
    · cases e
      obtain ⟨p, vs, rfl, h1, h2, _⟩ := hx.tup hF
      refine call_len pins s σ H _ us Q I r ⟨_, vs.length, rfl, .inr ⟨vs, by rw [hK]; exact h1, rfl⟩, ?_⟩
      rw [← h2.length]; exact c.int
    · cases e
  · exact (nomatch e)
theorem cl_abs : CallR X (.builtin "abs") (rDN L .abs) := by
  intro pins s σ H xs us Q I r h
  obtain ⟨F, ρ, ds, d, hF, hxs, e, c⟩ := h
  rcases ds with _ | ⟨dx, _ | ⟨d2, r2⟩⟩
  · exact (nomatch e)
  · obtain ⟨x, rfl, hx⟩ := rep1 hxs
    clear hxs
    replace e : sAbs dx = some d := e
    unfold sAbs at e
    split at e <;> cases e
    obtain rfl := hx.int
    exact call_abs pins s σ H _ us Q I r ⟨_, rfl, c.int⟩
  · exact (nomatch e)
theorem cl_max (hc : X.calm = true) : CallR X (.builtin "max") (rDN L .max2) := by
  intro pins s σ H xs us Q I r h
  obtain ⟨F, ρ, ds, d, hF, hxs, e, c⟩ := h
  rcases ds with _ | ⟨dx, _ | ⟨dy, _ | ⟨d3, r3⟩⟩⟩
  · exact (nomatch e)
  · exact (nomatch e)
  · obtain ⟨x, y, rfl, hx, hy⟩ := rep2 hxs
    clear hxs
    replace e : sMax dx dy = some d := e
    unfold sMax at e
    split at e <;> cases e
    obtain rfl := hx.int; obtain rfl := hy.int
    exact call_max2 hc pins s σ H _ us Q I r ⟨_, _, rfl, c.int⟩
  · exact (nomatch e)
theorem cl_min (hc : X.calm = true) : CallR X (.builtin "min") (rDN L .min2) := by
  intro pins s σ H xs us Q I r h
  obtain ⟨F, ρ, ds, d, hF, hxs, e, c⟩ := h
  rcases ds with _ | ⟨dx, _ | ⟨dy, _ | ⟨d3, r3⟩⟩⟩
  · exact (nomatch e)
  · exact (nomatch e)
  · obtain ⟨x, y, rfl, hx, hy⟩ := rep2 hxs
    clear hxs
    replace e : sMin dx dy = some d := e
    unfold sMin at e
    split at e <;> cases e
    obtain rfl := hx.int; obtain rfl := hy.int
    exact call_min2 hc pins s σ H _ us Q I r ⟨_, _, rfl, c.int⟩
  · exact (nomatch e)
theorem cl_sum (hK : X.K = L.K) (hc : X.calm = true) : CallR X (.builtin "sum") (rDN L .sum) := by
  intro pins s σ H xs us Q I r h
  obtain ⟨F, ρ, ds, d, hF, hxs, e, c⟩ := h
  rcases ds with _ | ⟨dx, _ | ⟨d2, r2⟩⟩
  · exact (nomatch e)
  · obtain ⟨x, rfl, hx⟩ := rep1 hxs
    clear hxs
    replace e : sSum dx = some d := e
    unfold sSum at e
    split at e
    · obtain ⟨p, vs, rfl, h1, h2⟩ := hx.lst hF
      rename_i xs
      cases q : intsD xs with
      | none => rw [q] at e; cases e
      | some ns =>
        rw [q] at e; cases e
        have ev := h2.intsR q
        subst ev
        exact cr_sum hc pins s σ H _ us Q I r ⟨p, ns, rfl, by rw [hK]; exact h1, c.int⟩
    · cases e
  · exact (nomatch e)
theorem cl_all (hK : X.K = L.K) (hc : X.calm = true) : CallR X (.builtin "all") (rDN L .all) := by
  intro pins s σ H xs us Q I r h
  obtain ⟨F, ρ, ds, d, hF, hxs, e, c⟩ := h
  rcases ds with _ | ⟨dx, _ | ⟨d2, r2⟩⟩
  · exact (nomatch e)
  · obtain ⟨x, rfl, hx⟩ := rep1 hxs
    clear hxs
    replace e : sAll dx = some d := e
    unfold sAll at e
    split at e
    · obtain ⟨p, vs, rfl, h1, h2⟩ := hx.lst hF
      rename_i xs
      cases q : boolsD xs with
      | none => rw [q] at e; cases e
      | some ns =>
        rw [q] at e; cases e
        have ev := h2.boolsR q
        subst ev
        exact cr_all hc pins s σ H _ us Q I r ⟨p, ns, rfl, by rw [hK]; exact h1, c.bl⟩
    · cases e
  · exact (nomatch e)
theorem cl_int : CallR X (.type "int") (rDN L .int) := by
  intro pins s σ H xs us Q I r h
  obtain ⟨F, ρ, ds, d, hF, hxs, e, c⟩ := h
  rcases ds with _ | ⟨dx, _ | ⟨d2, r2⟩⟩
  · exact (nomatch e)
  · obtain ⟨x, rfl, hx⟩ := rep1 hxs
    clear hxs
    replace e : sInt dx = some d := e
    unfold sInt at e
    split at e
    · cases e
      obtain rfl := hx.int
      exact call_int1 pins s σ H _ us Q I r (.inl ⟨_, rfl, c.int⟩)
    · cases e
      obtain rfl := hx.bl
      exact call_int1 pins s σ H _ us Q I r (.inr ⟨_, rfl, c.int⟩)
    · rename_i ys
      split at e
      · rename_i hz
        obtain rfl := hx.str
        cases q : intText? ⟨ys.toArray⟩ with
        | none => rw [q] at e; cases e
        | some n =>
          rw [q] at e; cases e
          exact call_int_str pins s σ H _ us Q I r ⟨_, n, rfl, q, by rw [str_len]; exact hz, c.int⟩
      · cases e
    · cases e
  · exact (nomatch e)
theorem cl_str : CallR X (.type "str") (rDN L .str) := by
  intro pins s σ H xs us Q I r h
  obtain ⟨F, ρ, ds, d, hF, hxs, e, c⟩ := h
  rcases ds with _ | ⟨dx, _ | ⟨d2, r2⟩⟩
  · exact (nomatch e)
  · obtain ⟨x, rfl, hx⟩ := rep1 hxs
    clear hxs
    replace e : sStr dx = some d := e
    unfold sStr at e
    split at e
    · split at e <;> cases e
      rename_i hz
      obtain rfl := hx.int
      refine call_str_int pins s σ H _ us Q I r ⟨_, rfl, hz, ?_⟩
      have := c.str
      simpa using this
    · cases e
  · exact (nomatch e)
theorem cl_tuple (hK : X.K = L.K) : CallR X (.type "tuple") (rDN L .tuple) := by
  intro pins s σ H xs us Q I r h
  obtain ⟨F, ρ, ds, d, hF, hxs, e, c⟩ := h
  rcases ds with _ | ⟨dx, _ | ⟨d2, r2⟩⟩
  · exact (nomatch e)
  · obtain ⟨x, rfl, hx⟩ := rep1 hxs
    clear hxs
    replace e : sTup dx = some d := e
    unfold sTup at e
    split at e
    · cases e
      obtain ⟨p, vs, rfl, h1, h2⟩ := hx.lst hF
      exact call_tuple_of pins s σ H _ us Q I r ⟨p, vs, rfl, .inl ⟨by rw [hK]; exact h1, fun l hl => c.tup hF h2 hl⟩⟩
    · cases e
      obtain ⟨p, vs, rfl, h1, h2, h3⟩ := hx.tup hF
      exact call_tuple_of pins s σ H _ us Q I r ⟨p, vs, rfl, .inr ⟨by rw [hK]; exact h1, c.1 _ h3⟩⟩
    · cases e
  · exact (nomatch e)
theorem cl_list (hK : X.K = L.K) : CallR X (.type "list") (rDN L .list) := by
  intro pins s σ H xs us Q I r h
  obtain ⟨F, ρ, ds, d, hF, hxs, e, c⟩ := h
  rcases ds with _ | ⟨dx, _ | ⟨d2, r2⟩⟩
  · exact (nomatch e)
  · obtain ⟨x, rfl, hx⟩ := rep1 hxs
    clear hxs
    replace e : sLst dx = some d := e
    unfold sLst at e
    split at e
    · cases e
      obtain ⟨p, vs, rfl, h1, h2⟩ := hx.lst hF
      exact call_list_of pins s σ H _ us Q I r ⟨p, vs, rfl, .inl (by rw [hK]; exact h1), fun l hl => c.lst hF h2 hl⟩
    · cases e
      obtain ⟨p, vs, rfl, h1, h2, h3⟩ := hx.tup hF
      exact call_list_of pins s σ H _ us Q I r ⟨p, vs, rfl, .inr (by rw [hK]; exact h1), fun l hl => c.lst hF h2 hl⟩
    · cases e
  · exact (nomatch e)
theorem cl_divm : CallR X (.builtin "divmod") (rDN L .divm) := by
  intro pins s σ H xs us Q I r h
  obtain ⟨F, ρ, ds, d, hF, hxs, e, c⟩ := h
  rcases ds with _ | ⟨dx, _ | ⟨dy, _ | ⟨d3, r3⟩⟩⟩
  · exact (nomatch e)
  · exact (nomatch e)
  · obtain ⟨x, y, rfl, hx, hy⟩ := rep2 hxs
    clear hxs
    replace e : sDivm dx dy = some d := e
    unfold sDivm at e
    split at e
    · split at e <;> cases e
      rename_i hz
      obtain rfl := hx.int; obtain rfl := hy.int
      refine call_divmodW pins s σ H _ us Q I r ⟨_, _, rfl, hz, fun p hp => ?_⟩
      exact c.tup hF (Reps.cons (by unfold Rep; rfl) (Reps.cons (by unfold Rep; rfl) Reps.nil)) hp
    · cases e
  · exact (nomatch e)

/-! ### methods of texts -/
/-- a method's operation: the receiver, the arguments -/
def rDM (L : Lk) (o : Op) : V → List V → Hp → VK → Prop := fun x xs H Q => rDN L o (x :: xs) H Q
theorem mt_zf : MtR X "str.zfill" (rDM L .zfill) := by
  intro pins s σ H x xs v us Q I rx rs h
  obtain ⟨F, ρ, ds, d, hF, hxs, e, c⟩ := h
  rcases ds with _ | ⟨dx, _ | ⟨dy, _ | ⟨d3, r3⟩⟩⟩
  · exact (nomatch e)
  · exact (nomatch e)
  · obtain ⟨x', y, e1, hx, hy⟩ := rep2 hxs
    clear hxs
    cases e1
    replace e : sZf dx dy = some d := e
    unfold sZf at e
    split at e
    · split at e <;> cases e
      rename_i hz
      obtain rfl := hx.str; obtain rfl := hy.int
      refine mt_zfill pins s σ H _ _ v us Q I rx rs ⟨_, _, rfl, rfl, PyProof.Rows.padOk_of (by omega) (by omega), ?_⟩
      have := c.str
      simpa using this
    · cases e
  · exact (nomatch e)

end
end Low

/-! Low, part 5: each construct of an expression. -/
namespace Low
open PySem L2

theorem Er.bind_assoc {α β γ : Type} (r : Er α) (k : α → G → Er β) (l : β → G → Er γ) : (r.bind k).bind l = r.bind fun a g => (k a g).bind l := by
  cases r <;> rfl
theorem Er.bind_pure {α : Type} (r : Er α) : (r.bind fun a g => .ok a g) = r := by cases r <;> rfl

section
variable {L : Lk} {B : Bs} {W : WX} {F F' : Hp} {ρ ρ' : List Addr} {oa : Nat → Addr} {env : Env} {σ : St} {g : G} {H : Hp}
theorem RepO.up {d : D} {v : V} (e : Ex F ρ F' ρ') (r : RepO L F ρ oa env d v) : RepO L F' ρ' oa env d v := by
  rcases r with r | r
  · exact .inl (r.up e)
  · exact .inr r
theorem RepOs.up : ∀ {ds : List D} {vs : List V}, Ex F ρ F' ρ' → RepOs L F ρ oa env ds vs → RepOs L F' ρ' oa env ds vs
  | [], vs, e, h => by unfold RepOs at h ⊢; exact h
  | d :: ds, vs, e, h => by
    unfold RepOs at h ⊢
    obtain ⟨v, r, h1, h2, h3⟩ := h
    exact ⟨v, r, h1, h2.up e, RepOs.up e h3⟩
theorem RepOs.view (S : Sm L B F ρ oa env σ g H) : ∀ {ds : List D} {vs : List V}, RepOs L F ρ oa env ds vs → RepHs L F ρ H (ds.map (view env g)) vs
  | [], vs, h => by unfold RepOs at h; unfold RepHs; exact h
  | d :: ds, vs, h => by
    unfold RepOs at h
    obtain ⟨v, r, h1, h2, h3⟩ := h
    show RepHs L F ρ H (_ :: _) _
    unfold RepHs
    exact ⟨v, r, h1, view_ok S h2, RepOs.view S h3⟩
theorem isE : ∀ {ds : List D} {vs : List V}, Reps L F ρ ds vs → ds.isEmpty = vs.isEmpty
  | [], vs, h => by unfold Reps at h; subst h; rfl
  | d :: ds, vs, h => by
    unfold Reps at h
    obtain ⟨v, r, h1, _⟩ := h
    subst h1; rfl
theorem PostE.shift {α β : Type} {rel : Hp → List Addr → α → β → Prop} {r : Er α} {Q : β → Hp → Prop} (x : Ex F ρ F' ρ') (h : PostE L B W rel F ρ oa env σ r Q) : PostE L B W rel F' ρ' oa env σ r Q := by
  cases r with
  | ok d g => exact fun v F2 ρ2 H2 x2 => h v F2 ρ2 H2 (x.trans x2)
  | ex c fs g => exact fun cls dx F2 ρ2 H2 x2 => h cls dx F2 ρ2 H2 (x.trans x2)
  | no => exact h
/-- what follows an operation, from what follows the expression -/
theorem cont_of {d : D} {Q : VK} (S : Sm L B F ρ oa env σ g H) (h : PostE L B W (relD L oa env) F ρ oa env σ (.ok d g) Q) : Cont L F ρ H d Q :=
  ⟨fun v r => h v F ρ H (Ex.refl _ _) S r, fun v p o hp r => h v _ ρ _ (S.ex_alloc hp) (S.alloc hp) r⟩
end

section
variable {X : Cx} {L : Lk} {B : Bs} {W : WX} {a b c : Expr} {pos : Pos} {fa fb fc : Env → G → Er D}

theorem so_op2 {op : Operator} {o : Op} (ho : OpR X (binaryOp op) (rD2 L o)) (ha : PE X a (tO L W fa)) (hb : PE X b (tO L W fb)) :
    PE X (.BinOp a op b pos) (tD L W fun env g => (fa env g).bind fun x g => (fb env g).bind fun y g => ofO g (opS o [view env g x, view env g y])) := by
  refine PE.imp (pe_op ho ha hb) fun σ H Q h => ?_
  obtain ⟨B, F, ρ, oa, env, g, S, h⟩ := h
  refine PostE.bind S h fun d g1 v F1 ρ1 H1 x1 S1 r1 h1 => ?_
  refine PostE.bind S1 h1 fun e g2 w F2 ρ2 H2 x2 S2 r2 h2 => ?_
  cases q : opS o [view env g2 d, view env g2 e] with
  | none => rw [q] at h2; exact h2.elim
  | some z =>
    rw [q] at h2
    exact ⟨F2, ρ2, _, _, z, S2.sg.fr, view_ok S2 (RepO.up x2 r1), view_ok S2 r2, q, cont_of S2 h2⟩
theorem rd_cmp {o : Op} {σ : St} {H : Hp} {Q : VK} (h : tD L W (fun env g => (fa env g).bind fun x g => (fb env g).bind fun y g => ofO g (opS o [view env g x, view env g y])) σ H Q) : tOp (rD2 L o) (tO L W fa) (tO L W fb) σ H Q := by
  obtain ⟨B, F, ρ, oa, env, g, S, h⟩ := h
  refine PostE.bind S h fun d g1 v F1 ρ1 H1 x1 S1 r1 h1 => ?_
  refine PostE.bind S1 h1 fun e g2 w F2 ρ2 H2 x2 S2 r2 h2 => ?_
  cases q : opS o [view env g2 d, view env g2 e] with
  | none => rw [q] at h2; exact h2.elim
  | some z =>
    rw [q] at h2
    exact ⟨F2, ρ2, _, _, z, S2.sg.fr, view_ok S2 (RepO.up x2 r1), view_ok S2 r2, q, cont_of S2 h2⟩
theorem so_cmp {op : CmpOp} {o : Op} (ho : OpR X (compareOp op) (rD2 L o)) (ha : PE X a (tO L W fa)) (hb : PE X b (tO L W fb)) (hm : behindInMarks op b = false) :
    PE X (.Compare a [op] [b] pos) (tD L W fun env g => (fa env g).bind fun x g => (fb env g).bind fun y g => ofO g (opS o [view env g x, view env g y])) :=
  PE.imp (pe_cmpR ho ha hb hm) fun σ H Q h => rd_cmp h
/-- a test whose value is a bool -/
theorem bo_val {σ : St} {H : Hp} {Q : Bool → Hp → Prop} (h : tT L W (fun env g => (fa env g).bo) σ H Q) : tD L W fa σ H fun x H1 => ∃ k, x = .bl k ∧ Q k H1 := by
  obtain ⟨B, F, ρ, oa, env, g, S, h⟩ := h
  dsimp only at h
  refine ⟨B, F, ρ, oa, env, g, S, ?_⟩
  cases q : fa env g with
  | ok d g' =>
    rw [q] at h
    cases d with
    | bl k =>
      intro v F' ρ' H' x S' r
      unfold Rep at r
      exact ⟨k, r, h k F' ρ' H' x S' rfl⟩
    | _ => exact h.elim
  | ex c fs g' => rw [q] at h; exact h
  | no => rw [q] at h; exact h.elim
theorem so_cmpT {op : CmpOp} {o : Op} (ho : OpR X (compareOp op) (rD2 L o)) (ha : PE X a (tO L W fa)) (hb : PE X b (tO L W fb)) (hm : behindInMarks op b = false) :
    PT X (.Compare a [op] [b] pos) (tT L W fun env g => ((fa env g).bind fun x g => (fb env g).bind fun y g => ofO g (opS o [view env g x, view env g y])).bo) :=
  PT.imp (pt_cmpR ho ha hb hm) fun σ H Q h => rd_cmp (bo_val h)
theorem so_idx (hK : X.K = L.K) (ha : PE X a (tO L W fa)) (hb : PE X b (tO L W fb)) (hs : PlainIx b) :
    PE X (.Subscript a b pos) (tD L W fun env g => (fa env g).bind fun x g => (fb env g).bind fun y g => ofO g (opS .idx [view env g x, view env g y])) := by
  refine PE.imp (pe_ix (ixr_idx hK) ha hb hs) fun σ H Q h => ?_
  obtain ⟨B, F, ρ, oa, env, g, S, h⟩ := h
  refine PostE.bind S h fun d g1 v F1 ρ1 H1 x1 S1 r1 h1 => ?_
  refine PostE.bind S1 h1 fun e g2 w F2 ρ2 H2 x2 S2 r2 h2 => ?_
  cases q : opS .idx [view env g2 d, view env g2 e] with
  | none => rw [q] at h2; exact h2.elim
  | some z =>
    rw [q] at h2
    exact ⟨F2, ρ2, _, _, z, S2.sg.fr, view_ok S2 (RepO.up x2 r1), view_ok S2 r2, q, cont_of S2 h2⟩
theorem so_neg (ha : PE X a (tO L W fa)) : PE X (.UnaryOp .USub a pos) (tD L W fun env g => (fa env g).bind fun x g => ofO g (opS .neg [view env g x])) := by
  refine PE.imp (pe_un (unr_neg (L := L)) ha) fun σ H Q h => ?_
  obtain ⟨B, F, ρ, oa, env, g, S, h⟩ := h
  refine PostE.bind S h fun d g1 v F1 ρ1 H1 x1 S1 r1 h1 => ?_
  cases q : opS .neg [view env g1 d] with
  | none => rw [q] at h1; exact h1.elim
  | some z =>
    rw [q] at h1
    exact ⟨F1, ρ1, _, z, S1.sg.fr, view_ok S1 r1, q, cont_of S1 h1⟩
theorem rd_isN {σ : St} {H : Hp} {Q : VK} (h : tD L W (fun env g => (fa env g).bind fun x g => ofO g (opS .isN [view env g x])) σ H Q) : tIsN (tO L W fa) σ H Q := by
  obtain ⟨B, F, ρ, oa, env, g, S, h⟩ := h
  refine PostE.bind S h fun d g1 v F1 ρ1 H1 x1 S1 r1 h1 => ?_
  have e : opS .isN [view env g1 d] = (isNon (view env g1 d)).map .bl := rfl
  rw [e] at h1
  cases q : isNon (view env g1 d) with
  | none => rw [q] at h1; exact h1.elim
  | some z =>
    rw [q] at h1
    rw [isNon_of q (view_ok S1 r1)]
    exact (cont_of S1 h1).bl
theorem so_isN {k pos'} (ha : PE X a (tO L W fa)) : PE X (.Compare a [.Is] [.Constant .none k pos'] pos) (tD L W fun env g => (fa env g).bind fun x g => ofO g (opS .isN [view env g x])) :=
  PE.imp (pe_cmp (pc_isN ha) rfl) fun σ H Q h => rd_isN h
theorem so_isNT {k pos'} (ha : PE X a (tO L W fa)) : PT X (.Compare a [.Is] [.Constant .none k pos'] pos) (tT L W fun env g => ((fa env g).bind fun x g => ofO g (opS .isN [view env g x])).bo) :=
  PT.imp (pt_cmp (pc_isN ha) rfl) fun σ H Q h => rd_isN (bo_val h)

theorem rd_notN {σ : St} {H : Hp} {Q : VK} (h : tD L W (fun env g => (fa env g).bind fun x g => ofO g (opS .notN [view env g x])) σ H Q) : tNotN (tO L W fa) σ H Q := by
  obtain ⟨B, F, ρ, oa, env, g, S, h⟩ := h
  refine PostE.bind S h fun d g1 v F1 ρ1 H1 x1 S1 r1 h1 => ?_
  have e : opS .notN [view env g1 d] = (isNon (view env g1 d)).map fun k => .bl (!k) := rfl
  rw [e] at h1
  cases q : isNon (view env g1 d) with
  | none => rw [q] at h1; exact h1.elim
  | some z =>
    rw [q] at h1
    rw [isNon_of q (view_ok S1 r1)]
    exact (cont_of S1 h1).bl
theorem so_notN {k pos'} (ha : PE X a (tO L W fa)) : PE X (.Compare a [.IsNot] [.Constant .none k pos'] pos) (tD L W fun env g => (fa env g).bind fun x g => ofO g (opS .notN [view env g x])) :=
  PE.imp (pe_cmp (pc_notN ha) rfl) fun σ H Q h => rd_notN h
theorem so_notNT {k pos'} (ha : PE X a (tO L W fa)) : PT X (.Compare a [.IsNot] [.Constant .none k pos'] pos) (tT L W fun env g => ((fa env g).bind fun x g => ofO g (opS .notN [view env g x])).bo) :=
  PT.imp (pt_cmp (pc_notN ha) rfl) fun σ H Q h => rd_notN (bo_val h)

/-! names and constants -/
theorem so_var {i : Nat} {x : Str} (T : Tab) (R : Runner) (hN : X.N[i]? = some x) (hv : Vis X.env.scope x) (hd : (x == ("__debug__" : Str)) = false) (hcd : (x == ("__classdict__" : Str)) = false) : PE X (.Name x pos) (tD L W (ev T R (.var i))) := by
  refine PE.imp (pe_var hN hv hd hcd) fun σ H Q h => ?_
  obtain ⟨B, F, ρ, oa, env, g, S, h⟩ := h
  simp only [ev] at h
  cases q : env[i]? with
  | none => rw [q] at h; exact h.elim
  | some s =>
    rw [q] at h
    cases s with
    | emp => exact h.elim
    | own m => exact h.elim
    | val d =>
      obtain ⟨v, e1, e2⟩ := S.sl i _ q
      exact ⟨v, e1, h v F ρ H (Ex.refl _ _) S e2⟩
theorem so_varO {i : Nat} {x : Str} (T : Tab) (R : Runner) (hN : X.N[i]? = some x) (hv : Vis X.env.scope x) (hd : (x == ("__debug__" : Str)) = false) (hcd : (x == ("__classdict__" : Str)) = false) : PE X (.Name x pos) (tO L W fun env g => bor (.var i) env g (ev T R (.var i) env g)) := by
  refine PE.imp (pe_var hN hv hd hcd) fun σ H Q h => ?_
  obtain ⟨B, F, ρ, oa, env, g, S, h⟩ := h
  simp only [ev, bor] at h
  cases q : env[i]? with
  | none => rw [q] at h; exact h.elim
  | some s =>
    rw [q] at h
    cases s with
    | emp => exact h.elim
    | own m =>
      obtain ⟨e1, _⟩ := S.sl i _ q
      exact ⟨_, e1, h _ F ρ H (Ex.refl _ _) S (.inr ⟨i, m, rfl, rfl, q⟩)⟩
    | val d =>
      obtain ⟨v, e1, e2⟩ := S.sl i _ q
      exact ⟨v, e1, h v F ρ H (Ex.refl _ _) S (.inl e2)⟩
theorem so_weak (h : PE X a (tD L W fa)) : PE X a (tO L W fa) := by
  refine PE.imp h fun σ H Q h => ?_
  obtain ⟨B, F, ρ, oa, env, g, S, h⟩ := h
  refine ⟨B, F, ρ, oa, env, g, S, ?_⟩
  cases q : fa env g with
  | ok d g' => rw [q] at h; exact fun v F' ρ' H' x S' r => h v F' ρ' H' x S' (.inl r)
  | ex c fs g' => rw [q] at h; exact h
  | no => rw [q] at h; exact h.elim
theorem so_cst {v : V} {d : D} {T : Tab} {R : Runner} {e : Expr} (h : PE X e (tC v)) (r : ∀ F ρ, Rep L F ρ d v) : PE X e (tD L W (ev T R (.cst d))) := by
  refine PE.imp h fun σ H Q h => ?_
  obtain ⟨B, F, ρ, oa, env, g, S, h⟩ := h
  simp only [ev] at h
  exact h v F ρ H (Ex.refl _ _) S (r F ρ)

/-! lists of operands, of arguments -/
theorem so_anil : PA X [] (tDs L W fun _ g => .ok [] g) := by
  refine PA.imp pa_nil fun σ H Q h => ?_
  obtain ⟨B, F, ρ, oa, env, g, S, h⟩ := h
  exact h [] F ρ H (Ex.refl _ _) S Reps.nil
theorem so_acons {es : List Expr} {fs : Env → G → Er (List D)} (ha : PE X a (tD L W fa)) (hr : PA X es (tDs L W fs)) (hs : starEach (a :: es) X.env = (false, eval a X.env) :: starEach es X.env) :
    PA X (a :: es) (tDs L W fun env g => (fa env g).bind fun d g => (fs env g).bind fun ds g => .ok (d :: ds) g) := by
  refine PA.imp (pa_cons ha hr hs) fun σ H Q h => ?_
  obtain ⟨B, F, ρ, oa, env, g, S, h⟩ := h
  refine PostE.bind S h fun d g1 v F1 ρ1 H1 x1 S1 r1 h1 => ?_
  refine PostE.bind S1 h1 fun ds g2 vs F2 ρ2 H2 x2 S2 r2 h2 => ?_
  exact h2 _ F2 ρ2 H2 (Ex.refl _ _) S2 (Reps.cons (Rep.up x2 _ _ r1) r2)
theorem so_onil : PA X [] (tOs L W fun _ g => .ok [] g) := by
  refine PA.imp pa_nil fun σ H Q h => ?_
  obtain ⟨B, F, ρ, oa, env, g, S, h⟩ := h
  exact h [] F ρ H (Ex.refl _ _) S (by unfold relOs RepOs; rfl)
theorem so_ocons {es : List Expr} {fs : Env → G → Er (List D)} (ha : PE X a (tO L W fa)) (hr : PA X es (tOs L W fs)) (hs : starEach (a :: es) X.env = (false, eval a X.env) :: starEach es X.env) :
    PA X (a :: es) (tOs L W fun env g => (fa env g).bind fun d g => (fs env g).bind fun ds g => .ok (d :: ds) g) := by
  refine PA.imp (pa_cons ha hr hs) fun σ H Q h => ?_
  obtain ⟨B, F, ρ, oa, env, g, S, h⟩ := h
  refine PostE.bind S h fun d g1 v F1 ρ1 H1 x1 S1 r1 h1 => ?_
  refine PostE.bind S1 h1 fun ds g2 vs F2 ρ2 H2 x2 S2 r2 h2 => ?_
  exact h2 _ F2 ρ2 H2 (Ex.refl _ _) S2 (by unfold relOs RepOs; exact ⟨_, _, rfl, RepO.up x2 r1, r2⟩)

/-! built-ins by name -/
theorem so_bif {o : Op} {id : String} {x : Str} {p : Pos} {es : List Expr} {fs : Env → G → Er (List D)} (hc : CallR X (.builtin id) (rDN L o)) (hg : Gl X x) (hm : X.mg x = none) (hv : bootBuiltins x = some (.builtin id)) (ha : PA X (a :: es) (tOs L W fs))
    (hn : x ≠ "__name__") (hdb : (x == ("__debug__" : Str)) = false) (he : starEach (a :: es) X.env = (false, eval a X.env) :: starEach es X.env) (hpl : (backTo pos (starEach es X.env)).any (·.1) = false) :
    PE X (.Call (.Name x p) (a :: es) [] pos) (tD L W fun env g => (fs env g).bind fun ds g => ofO g (opS o (ds.map (view env g)))) := by
  refine PE.imp (pe_callB hc hg hm hv ha hn hdb he hpl) fun σ H Q h => ?_
  obtain ⟨B, F, ρ, oa, env, g, S, h⟩ := h
  refine PostE.bind S h fun ds g1 vs F1 ρ1 H1 x1 S1 r1 h1 => ?_
  cases q : opS o (ds.map (view env g1)) with
  | none => rw [q] at h1; exact h1.elim
  | some z =>
    rw [q] at h1
    exact ⟨F1, ρ1, _, z, S1.sg.fr, RepOs.view S1 r1, q, cont_of S1 h1⟩
theorem so_bty {o : Op} {T : String} {x : Str} {p : Pos} {es : List Expr} {fs : Env → G → Er (List D)} (hc : CallR X (.type T) (rDN L o)) (hg : Gl X x) (hm : X.mg x = none) (hv : bootBuiltins x = some (.type T)) (ha : PA X (a :: es) (tOs L W fs))
    (hn : x ≠ "__name__") (hdb : (x == ("__debug__" : Str)) = false) (he : starEach (a :: es) X.env = (false, eval a X.env) :: starEach es X.env) (hpl : (backTo pos (starEach es X.env)).any (·.1) = false) :
    PE X (.Call (.Name x p) (a :: es) [] pos) (tD L W fun env g => (fs env g).bind fun ds g => ofO g (opS o (ds.map (view env g)))) := by
  refine PE.imp (pe_callTy hc hg hm hv ha hn hdb he hpl) fun σ H Q h => ?_
  obtain ⟨B, F, ρ, oa, env, g, S, h⟩ := h
  refine PostE.bind S h fun ds g1 vs F1 ρ1 H1 x1 S1 r1 h1 => ?_
  cases q : opS o (ds.map (view env g1)) with
  | none => rw [q] at h1; exact h1.elim
  | some z =>
    rw [q] at h1
    exact ⟨F1, ρ1, _, z, S1.sg.fr, RepOs.view S1 r1, q, cont_of S1 h1⟩

/-! displays -/
theorem so_tup {k : Nat} {es : List Expr} {fs : Env → G → Er (List D)} (h : PA X es (tDs L W fs)) : PE X (.Tuple es k pos) (tD L W fun env g => (fs env g).bind fun ds g => if ds.length ≤ SZ then .ok (.tup ds) g else .no) := by
  refine PE.imp (pe_tup h) fun σ H Q h => ?_
  obtain ⟨B, F, ρ, oa, env, g, S, h⟩ := h
  refine PostE.bind S h fun ds g1 vs F1 ρ1 H1 x1 S1 r1 h1 => ?_
  split at h1
  · rename_i hz
    exact ⟨by rw [← Reps.length r1, ← SZ_eq]; exact hz, fun p hp => (cont_of S1 h1).tup S1.sg.fr r1 hp⟩
  · exact h1.elim
theorem so_lst {es : List Expr} {fs : Env → G → Er (List D)} (h : PA X es (tDs L W fs)) : PE X (.List es pos) (tD L W fun env g => (fs env g).bind fun ds g => if ds.length ≤ SZ then .ok (.lst ds) g else .no) := by
  refine PE.imp (pe_lst h) fun σ H Q h => ?_
  obtain ⟨B, F, ρ, oa, env, g, S, h⟩ := h
  refine PostE.bind S h fun ds g1 vs F1 ρ1 H1 x1 S1 r1 h1 => ?_
  split at h1
  · rename_i hz
    exact ⟨by rw [← Reps.length r1, ← SZ_eq]; exact hz, fun p hp => (cont_of S1 h1).lst S1.sg.fr r1 hp⟩
  · exact h1.elim

/-! tests -/
variable {ta tb : Env → G → Er Bool}
theorem so_val (h : PE X a (tD L W fa)) (he : ∀ whole, isTrue a X.env whole = (do let v ← whole; standAt a.pos; holding [v] (truthy v))) : PT X a (tT L W fun env g => (fa env g).bo) :=
  PT.imp (pt_val h he) fun σ H Q h => bo_val h
theorem tru_of {F : Hp} {ρ : List Addr} {H : Hp} {d : D} {v : V} {k : Bool} (hF : ∀ a o, F a = some o → H a = some o) (hk : truD d = some k) (r : RepH L F ρ H d v) : TruV L.K v H k := by
  unfold truD at hk
  split at hk
  · cases hk; obtain rfl := r.non; rfl
  · cases hk; obtain rfl := r.bl; rfl
  · cases hk; obtain rfl := r.int; rfl
  · split at hk <;> cases hk
    rename_i s hz
    obtain rfl := r.str
    refine ⟨by rw [str_len, ← SZ_eq]; exact hz, ?_⟩
    rw [str_len]
    cases s with
    | nil => rfl
    | cons c t => show true = ((((c :: t).length : Nat) : Int) != 0); rw [List.length_cons]; simp; omega
  · cases hk
    obtain ⟨a, vs, rfl, h1, h2⟩ := r.lst hF
    exact .inl ⟨vs, h1, by rw [isE h2]⟩
  · cases hk
    obtain ⟨a, vs, rfl, h1, h2, _⟩ := r.tup hF
    exact .inr (.inl ⟨vs, h1, by rw [isE h2]⟩)
  · cases hk
theorem so_tt (hK : X.K = L.K) (h : PE X a (tO L W fa)) (he : ∀ whole, isTrue a X.env whole = (do let v ← whole; standAt a.pos; holding [v] (truthy v))) :
    PT X a (tT L W fun env g => ((fa env g).bind fun d g => ofO g ((truD (view env g d)).map .bl)).bo) := by
  refine PT.imp (pt_truth h he) fun σ H Q h => ?_
  obtain ⟨B, F, ρ, oa, env, g, S, h⟩ := h
  dsimp only at h
  have e : ((fa env g).bind fun d g => ofO g ((truD (view env g d)).map D.bl)).bo = (fa env g).bind fun d g => ofO g (truD (view env g d)) := by
    cases fa env g with
    | ok d g' => show ((ofO g' ((truD (view env g' d)).map D.bl)) : Er D).bo = ofO g' (truD (view env g' d)); cases truD (view env g' d) <;> rfl
    | ex c fs g' => rfl
    | no => rfl
  rw [e] at h
  refine PostE.bind S h fun d g1 v F1 ρ1 H1 x1 S1 r1 h1 => ?_
  cases q : truD (view env g1 d) with
  | none => rw [q] at h1; exact h1.elim
  | some k =>
    rw [q] at h1
    rw [hK]
    exact ⟨k, tru_of S1.sg.fr q (view_ok S1 r1), h1 k F1 ρ1 H1 (Ex.refl _ _) S1 rfl⟩
theorem so_not (h : PT X a (tT L W ta)) : PT X (.UnaryOp .Not a pos) (tT L W fun env g => (ta env g).bind fun x g => .ok (!x) g) := by
  refine PT.imp (pt_not h) fun σ H Q h => ?_
  obtain ⟨B, F, ρ, oa, env, g, S, h⟩ := h
  dsimp only at h
  refine PostE.bind S h fun d g1 v F1 ρ1 H1 x1 S1 r1 h1 => ?_
  obtain rfl : d = v := r1
  exact h1 _ F1 ρ1 H1 (Ex.refl _ _) S1 rfl
theorem so_and1 (h : PT X a (tT L W ta)) : PW X (.BoolOp .And [a] pos) (tT L W ta) := pw_and1 h
theorem so_or1 (h : PT X a (tT L W ta)) : PW X (.BoolOp .Or [a] pos) (tT L W ta) := pw_or1 h
theorem so_and {rest : List Expr} (h : PT X a (tT L W ta)) (k : PW X (.BoolOp .And (b :: rest) pos) (tT L W tb)) : PW X (.BoolOp .And (a :: b :: rest) pos) (tT L W fun env g => (ta env g).bind fun x g => if x then tb env g else .ok false g) := by
  refine PW.imp (pw_and h k) fun σ H Q h => ?_
  obtain ⟨B, F, ρ, oa, env, g, S, h⟩ := h
  dsimp only at h
  refine PostE.bind S h fun d g1 v F1 ρ1 H1 x1 S1 r1 h1 => ?_
  obtain rfl : d = v := r1
  cases d with
  | true => exact ⟨_, F1, ρ1, oa, env, g1, S1, h1⟩
  | false => exact h1 _ F1 ρ1 H1 (Ex.refl _ _) S1 rfl
theorem so_or {rest : List Expr} (h : PT X a (tT L W ta)) (k : PW X (.BoolOp .Or (b :: rest) pos) (tT L W tb)) : PW X (.BoolOp .Or (a :: b :: rest) pos) (tT L W fun env g => (ta env g).bind fun x g => if x then .ok true g else tb env g) := by
  refine PW.imp (pw_or h k) fun σ H Q h => ?_
  obtain ⟨B, F, ρ, oa, env, g, S, h⟩ := h
  dsimp only at h
  refine PostE.bind S h fun d g1 v F1 ρ1 H1 x1 S1 r1 h1 => ?_
  obtain rfl : d = v := r1
  cases d with
  | false => exact ⟨_, F1, ρ1, oa, env, g1, S1, h1⟩
  | true => exact h1 _ F1 ρ1 H1 (Ex.refl _ _) S1 rfl
/-! and, or, not as values -/
theorem so_one {op} (h : PE X a (tD L W fa)) : PE X (.BoolOp op [a] pos) (tD L W fa) := pe_one h
theorem bo_bind {r : Er D} {α : Type} {k : Bool → G → Er α} : r.bo.bind k = r.bind fun d g => match d with | .bl b => k b g | _ => .no := by
  cases r with
  | ok d g => cases d <;> rfl
  | ex c fs g => rfl
  | no => rfl
theorem so_andV {rest : List Expr} (h : PE X a (tD L W fa)) (k : PE X (.BoolOp .And (b :: rest) pos) (tD L W fb)) : PE X (.BoolOp .And (a :: b :: rest) pos) (tD L W fun env g => (fa env g).bo.bind fun x g => if x then fb env g else .ok (.bl false) g) := by
  refine PE.imp (pe_and h k) fun σ H Q h => ?_
  obtain ⟨B, F, ρ, oa, env, g, S, h⟩ := h
  dsimp only at h
  rw [bo_bind] at h
  refine PostE.bind S h fun d g1 v F1 ρ1 H1 x1 S1 r1 h1 => ?_
  cases d with
  | bl c =>
    unfold relD Rep at r1
    refine ⟨c, r1, ?_⟩
    cases c with
    | true => exact ⟨_, F1, ρ1, oa, env, g1, S1, h1⟩
    | false => exact h1 _ F1 ρ1 H1 (Ex.refl _ _) S1 (by unfold relD Rep; rfl)
  | _ => exact h1.elim
theorem so_orV {rest : List Expr} (h : PE X a (tD L W fa)) (k : PE X (.BoolOp .Or (b :: rest) pos) (tD L W fb)) : PE X (.BoolOp .Or (a :: b :: rest) pos) (tD L W fun env g => (fa env g).bo.bind fun x g => if x then .ok (.bl true) g else fb env g) := by
  refine PE.imp (pe_or h k) fun σ H Q h => ?_
  obtain ⟨B, F, ρ, oa, env, g, S, h⟩ := h
  dsimp only at h
  rw [bo_bind] at h
  refine PostE.bind S h fun d g1 v F1 ρ1 H1 x1 S1 r1 h1 => ?_
  cases d with
  | bl c =>
    unfold relD Rep at r1
    refine ⟨c, r1, ?_⟩
    cases c with
    | false => exact ⟨_, F1, ρ1, oa, env, g1, S1, h1⟩
    | true => exact h1 _ F1 ρ1 H1 (Ex.refl _ _) S1 (by unfold relD Rep; rfl)
  | _ => exact h1.elim
theorem so_notV (h : PE X a (tD L W fa)) : PE X (.UnaryOp .Not a pos) (tD L W fun env g => (fa env g).bo.bind fun x g => .ok (.bl (!x)) g) := by
  refine PE.imp (pe_not h) fun σ H Q h => ?_
  obtain ⟨B, F, ρ, oa, env, g, S, h⟩ := h
  dsimp only at h
  rw [bo_bind] at h
  refine PostE.bind S h fun d g1 v F1 ρ1 H1 x1 S1 r1 h1 => ?_
  cases d with
  | bl c =>
    unfold relD Rep at r1
    exact ⟨c, r1, h1 _ F1 ρ1 H1 (Ex.refl _ _) S1 (by unfold relD Rep; rfl)⟩
  | _ => exact h1.elim
theorem so_ife (hc : PT X c (tT L W ta)) (h : PE X a (tD L W fa)) (k : PE X b (tD L W fb)) : PE X (.IfExp c a b pos) (tD L W fun env g => (ta env g).bind fun x g => if x then fa env g else fb env g) := by
  refine PE.imp (pe_ifExp hc h k) fun σ H Q h => ?_
  obtain ⟨B, F, ρ, oa, env, g, S, h⟩ := h
  dsimp only at h
  refine PostE.bind S h fun d g1 v F1 ρ1 H1 x1 S1 r1 h1 => ?_
  obtain rfl : d = v := r1
  cases d with
  | true => exact ⟨_, F1, ρ1, oa, env, g1, S1, h1⟩
  | false => exact ⟨_, F1, ρ1, oa, env, g1, S1, h1⟩
/-! chains -/
theorem bO_of {g : G} {o : Option D} {α : Type} {k : Bool → G → Er α} : (ofO g o).bo.bind k = match o with | some (.bl b) => k b g | _ => .no := by
  cases o with
  | none => rfl
  | some d => cases d <;> rfl
abbrev chF (o p : Op) (fa fb fc : Env → G → Er D) : Env → G → Er D := fun env g => (fa env g).bind fun x g => (fb env g).bind fun y g => (ofO g (opS o [x, y])).bo.bind fun k g => if k then (fc env g).bind fun z g => ofO g (opS p [y, z]) else .ok (.bl false) g
theorem rd_chn {o p : Op} {σ : St} {H : Hp} {Q : VK} (h : tD L W (chF o p fa fb fc) σ H Q) : tChain (rD2 L o) (rD2 L p) (tD L W fa) (tD L W fb) (tD L W fc) σ H Q := by
  obtain ⟨B, F, ρ, oa, env, g, S, h⟩ := h
  refine PostE.bind S h fun d g1 v F1 ρ1 H1 x1 S1 r1 h1 => ?_
  refine PostE.bind S1 h1 fun e g2 w F2 ρ2 H2 x2 S2 r2 h2 => ?_
  rw [bO_of] at h2
  cases q : opS o [d, e] with
  | none => rw [q] at h2; exact h2.elim
  | some z =>
    rw [q] at h2
    cases z with
    | bl k =>
      refine ⟨F2, ρ2, _, _, _, S2.sg.fr, .inl (Rep.up x2 _ _ r1), .inl r2, q, ?_, ?_⟩
      · intro v r
        unfold Rep at r
        refine ⟨k, r, ?_⟩
        cases k with
        | false => exact h2 _ F2 ρ2 H2 (Ex.refl _ _) S2 (by unfold relD Rep; rfl)
        | true =>
          refine PostE.bind S2 h2 fun z g3 w3 F3 ρ3 H3 x3 S3 r3 h3 => ?_
          cases q : opS p [e, z] with
          | none => rw [q] at h3; exact h3.elim
          | some z' => rw [q] at h3; exact ⟨F3, ρ3, _, _, _, S3.sg.fr, .inl (Rep.up x3 _ _ r2), .inl r3, q, cont_of S3 h3⟩
      · intro v p' o' hp' r
        unfold Rep at r
        refine ⟨k, r, ?_⟩
        have S2' := S2.alloc (o := o') hp'
        have x2' := S2.ex_alloc (o := o') hp'
        cases k with
        | false => exact h2 _ _ ρ2 _ x2' S2' (by unfold relD Rep; rfl)
        | true =>
          refine PostE.bind S2' (PostE.shift x2' h2) fun z g3 w3 F3 ρ3 H3 x3 S3 r3 h3 => ?_
          cases q : opS p [e, z] with
          | none => rw [q] at h3; exact h3.elim
          | some z' => rw [q] at h3; exact ⟨F3, ρ3, _, _, _, S3.sg.fr, .inl (Rep.up (x2'.trans x3) _ _ r2), .inl r3, q, cont_of S3 h3⟩
    | _ => exact h2.elim
theorem so_chn {op op' : CmpOp} {o p : Op} (ho : OpR X (compareOp op) (rD2 L o)) (hp : OpR X (compareOp op') (rD2 L p)) (ha : PE X a (tD L W fa)) (hb : PE X b (tD L W fb)) (hc : PE X c (tD L W fc)) (hm : lastMarks [op, op'] [b, c] = false) :
    PE X (.Compare a [op, op'] [b, c] pos) (tD L W (chF o p fa fb fc)) := PE.imp (pe_chain ho hp ha hb hc hm) fun σ H Q h => rd_chn h
theorem so_chnT {op op' : CmpOp} {o p : Op} (ho : OpR X (compareOp op) (rD2 L o)) (hp : OpR X (compareOp op') (rD2 L p)) (ha : PE X a (tD L W fa)) (hb : PE X b (tD L W fb)) (hc : PE X c (tD L W fc)) (hm : lastMarks [op, op'] [b, c] = false) :
    PT X (.Compare a [op, op'] [b, c] pos) (tT L W fun env g => (chF o p fa fb fc env g).bo) := PT.imp (pt_chain ho hp ha hb hc hm) fun σ H Q h => rd_chn (bo_val h)
end
end Low

/-! Low, part 6: calls, slices, comprehensions. -/
namespace Low
open PySem L2

section
variable {X : Cx} {L : Lk} {B : Bs} {W : WX} {a b c : Expr} {pos : Pos} {fa fb fc : Env → G → Er D}

/-! calls of the text's own defs -/
theorem spF_len {R : Runner} {f : Nat} : ∀ vs H Q E, spF L R f vs H Q E → vs.length = (L.ps f).length := fun vs H Q E h => by
  obtain ⟨F, ρ, g, ds, S, r, e, _⟩ := h
  exact e
theorem callee {R : Runner} {f : Nat} {F : Hp} {ρ : List Addr} {oa : Nat → Addr} {env : Env} {σ : St} {g : G} {H : Hp} {ds : List D} {vs : List V} {Q : VK} (S : Sm L B F ρ oa env σ g H) (r : Reps L F ρ ds vs) (hl : vs.length = (L.ps f).length)
    (h : PostE L B W (relD L oa env) F ρ oa env σ (R f ds g) Q) : spF L R f vs H Q (fun cls d H' => W cls d σ H') := by
  refine ⟨F, ρ, g, ds, S.sg, r, hl, ?_⟩
  revert h
  cases R f ds g with
  | ok d g' => exact fun h v F' ρ' H' x T k r => h v F' ρ' H' x (S.call x T k) r
  | ex c fs g' => exact fun h cls dx F' ρ' H' x T k r => h cls dx F' ρ' H' x (S.call x T k) r
  | no => exact fun h => h.elim
theorem passesAt {k : Cx} (tk : Takes X W) (σ : St) : PassesAt (L2.CX X.prog X.w) X σ (fun cls d H' => W cls d σ H') := passAt tk σ
theorem so_cal {R : Runner} {f k : Nat} {x : Str} {p : Pos} {es : List Expr} {fs : Env → G → Er (List D)} {ds : List Value} {dvs : List V} {dd : List D}
    (F0 : FnOk X.prog X.w X.K X.mg X.base (L2.CX X.prog X.w) k (L.fa f) (L.fd f) (L.ps f) (spF L R f)) (hr : Room k X.A) (hg : Gl X x) (hm : X.mg x = some (.ref (L.fa f))) (hk : PySem.W.keepIn X.K (.ref (L.fa f)) = true)
    (hb : Binds X.K (L.fd f) (L.ps f) ds) (hd : Vals dvs ds) (rd : ∀ F ρ, Reps L F ρ dd dvs) (tk : Takes X W) (ha : PA X (a :: es) (tDs L W fs)) (hn : ∀ env g as g', fs env g = .ok as g' → (as ++ dd).length = (L.ps f).length)
    (hdb : (x == ("__debug__" : Str)) = false) (he : starEach (a :: es) X.env = (false, eval a X.env) :: starEach es X.env) (hpl : (backTo pos (starEach es X.env)).any (·.1) = false) :
    PE X (.Call (.Name x p) (a :: es) [] pos) (tD L W fun env g => (fs env g).bind fun as g => R f (as ++ dd) g) := by
  refine PE.imp (pe_callSD (E := fun σ cls d H' => W cls d σ H') F0 hr hg hm hk hb hd (fun σ => passAt tk σ) ha hdb he hpl) fun σ H Q h => ?_
  obtain ⟨B, F, ρ, oa, env, g, S, h⟩ := h
  refine PostE.bindE S h fun as g1 vs F1 ρ1 H1 x1 S1 r1 e1 h1 => ?_
  have r2 := Reps.append r1 (rd F1 ρ1)
  exact callee S1 r2 (by rw [← Reps.length r2]; exact hn _ _ _ _ e1) h1
theorem so_cal0 {R : Runner} {f k : Nat} {x : Str} {p : Pos} {ds : List Value} {dvs : List V} {dd : List D}
    (F0 : FnOk X.prog X.w X.K X.mg X.base (L2.CX X.prog X.w) k (L.fa f) (L.fd f) (L.ps f) (spF L R f)) (hr : Room k X.A) (hg : Gl X x) (hm : X.mg x = some (.ref (L.fa f))) (hk : PySem.W.keepIn X.K (.ref (L.fa f)) = true)
    (hb : Binds X.K (L.fd f) (L.ps f) ds) (hd : Vals dvs ds) (rd : ∀ F ρ, Reps L F ρ dd dvs) (tk : Takes X W) (hn : dd.length = (L.ps f).length) (hdb : (x == ("__debug__" : Str)) = false) :
    PE X (.Call (.Name x p) [] [] pos) (tD L W fun env g => R f dd g) := by
  refine ⟨fun pins s σ H Q I h => ?_⟩
  refine wpAny_Call_Name_kw (ld_glob I hg hm ?_ hdb)
  obtain ⟨B, F, ρ, oa, env, g, S, h⟩ := h
  refine PySem.W.callWith_K0 I.kIn hk (run_fnSD (us := []) (vs := []) (E := fun σ cls d H' => W cls d σ H') F0 hr hb hd (passAt tk σ) I .nil ?_)
  have r2 := rd F ρ
  exact callee S r2 (by rw [List.nil_append, ← Reps.length r2]; exact hn) h

/-! slices -/
def tPa (L : Lk) (W : WX) (f : Env → G → Er D) : TO := tE L W (fun _ _ _ _ d o => endOf d = some o) f
theorem PO.imp {e : Option Expr} {t t' : TO} (h : PO X e t) (i : ∀ σ H Q, t' σ H Q → t σ H Q) : PO X e t' := ⟨fun pins s σ H Q I q => h.run pins s σ H Q I (i σ H Q q)⟩
theorem so_pnone : PO X none (tPa L W fun _ g => .ok (.tup []) g) := by
  refine PO.imp po_none fun σ H Q h => ?_
  obtain ⟨B, F, ρ, oa, env, g, S, h⟩ := h
  exact h none F ρ H (Ex.refl _ _) S rfl
theorem so_psome (h : PE X a (tD L W fa)) : PO X (some a) (tPa L W fun env g => intE (fa env g)) := by
  refine PO.imp (po_some h) fun σ H Q h => ?_
  obtain ⟨B, F, ρ, oa, env, g, S, h⟩ := h
  dsimp only at h
  refine ⟨B, F, ρ, oa, env, g, S, ?_⟩
  cases q : fa env g with
  | ok d g' =>
    rw [q] at h
    cases d with
    | int k =>
      intro v F' ρ' H' x S' r
      unfold Rep at r
      exact ⟨k, r, h (some k) F' ρ' H' x S' rfl⟩
    | _ => exact h.elim
  | ex c fs g' => rw [q] at h; exact h
  | no => rw [q] at h; exact h.elim
theorem so_slc {lo hi : Option Expr} {p2 : Pos} (hK : X.K = L.K) (ha : PE X a (tO L W fa)) (hl : PO X lo (tPa L W fb)) (hu : PO X hi (tPa L W fc)) :
    PE X (.Subscript a (.Slice lo hi none p2) pos) (tD L W fun env g => (fa env g).bind fun x g => (fb env g).bind fun l g => (fc env g).bind fun u g => ofO g ((endOf l).bind fun l => (endOf u).bind fun u => sSlc (view env g x) l u)) := by
  refine PE.imp (pe_slice (slr hK) ha hl hu) fun σ H Q h => ?_
  obtain ⟨B, F, ρ, oa, env, g, S, h⟩ := h
  refine PostE.bind S h fun d g1 v F1 ρ1 H1 x1 S1 r1 h1 => ?_
  refine PostE.bind S1 h1 fun l g2 lo F2 ρ2 H2 x2 S2 r2 h2 => ?_
  refine PostE.bind S2 h2 fun u g3 hi F3 ρ3 H3 x3 S3 r3 h3 => ?_
  rw [r2, r3] at h3
  have h3 : PostE L B W (relD L oa env) F3 ρ3 oa env σ (ofO g3 (sSlc (view env g3 d) lo hi)) Q := h3
  cases q : sSlc (view env g3 d) lo hi with
  | none => rw [q] at h3; exact h3.elim
  | some z =>
    rw [q] at h3
    exact ⟨F3, ρ3, _, z, S3.sg.fr, view_ok S3 (RepO.up (x2.trans x3) r1), q, cont_of S3 h3⟩

end
end Low

/-! Low, part 7: what loops go over; comprehensions. -/
namespace Low
open PySem L2

/-- the iterator J gives the items l, whatever changes elsewhere -/
def ItD (L : Lk) (F0 : Hp) (ρ0 : List Addr) (l : List D) (J : It) : Prop := ∀ F ρ H (i : Nat), Ex F0 ρ0 F ρ → (∀ a o, F a = some o → H a = some o) →
  (l.length ≤ i → J.stop i H) ∧ ∀ d, l[i]? = some d → J.go i H ∧ ∀ x H', J.yld i H x H' → (H' = H ∧ Rep L F ρ d x) ∨ ∃ p o, H p = none ∧ H' = upd H p o ∧ Rep L (upd F p o) ρ d x
theorem ItD.up {L : Lk} {F0 F1 : Hp} {ρ0 ρ1 : List Addr} {l : List D} {J : It} (h : ItD L F0 ρ0 l J) (x : Ex F0 ρ0 F1 ρ1) : ItD L F1 ρ1 l J := fun F ρ H i y k => h F ρ H i (x.trans y) k
abbrev tI (L : Lk) (W : WX) (f : Env → G → Er (List D)) : TI := tE L W (fun _ _ F ρ l J => ItD L F ρ l J) f
theorem PI.imp {X : Cx} {tg e : Expr} {t t' : TI} (h : PI X tg e t) (i : ∀ σ H Q, t' σ H Q → t σ H Q) : PI X tg e t' := ⟨fun pins s σ H Q I q => h.run pins s σ H Q I (i σ H Q q)⟩

section
variable {L : Lk} {F0 : Hp} {ρ0 : List Addr} {l : List D} {a b : Addr} {vs ws : List V}
theorem it_list (h : SqL L.K F0 a vs) (r : Reps L F0 ρ0 l vs) : ItD L F0 ρ0 l (Itl L.K a) := fun F ρ H i x k => by
  have hH := sqL_up k (sqL_up x.f h)
  refine ⟨fun hi => ⟨vs, hH, by rw [← r.length]; exact hi⟩, fun d hd => ?_⟩
  obtain ⟨v, e1, e2⟩ := r.get' hd
  refine ⟨⟨vs, v, hH, e1⟩, fun y H' hy => .inl ⟨hy.1, ?_⟩⟩
  have := hy.2 vs hH
  rw [e1] at this; cases this
  exact Rep.up x _ _ e2
theorem it_tup (h : SqT L.K F0 a vs) (r : Reps L F0 ρ0 l vs) : ItD L F0 ρ0 l (Itt L.K a) := fun F ρ H i x k => by
  have hH := sqT_up k (sqT_up x.f h)
  refine ⟨fun hi => ⟨vs, hH, by rw [← r.length]; exact hi⟩, fun d hd => ?_⟩
  obtain ⟨v, e1, e2⟩ := r.get' hd
  refine ⟨⟨vs, v, hH, e1⟩, fun y H' hy => .inl ⟨hy.1, ?_⟩⟩
  have := hy.2 vs hH
  rw [e1] at this; cases this
  exact Rep.up x _ _ e2
theorem it_str (s : List Nat) : ItD L F0 ρ0 (s.map fun c => D.str [c]) (Its ⟨s.toArray⟩) := fun F ρ H i x k => by
  refine ⟨fun hi => ?_, fun d hd => ?_⟩
  · show (⟨s.toArray⟩ : Str).cps.size ≤ i
    simpa using hi
  · rw [List.getElem?_map] at hd
    cases q : s[i]? with
    | none => rw [q] at hd; cases hd
    | some c =>
      rw [q] at hd; cases hd
      have hl : i < s.length := (List.getElem?_eq_some_iff.mp q).1
      refine ⟨show i < (⟨s.toArray⟩ : Str).cps.size by simpa using hl, fun y H' hy => .inl ⟨hy.1, ?_⟩⟩
      obtain ⟨c', e1, e2⟩ := hy.2
      have : s[i]? = some c' := by simpa using e1
      rw [q] at this; cases this
      unfold Rep; exact e2
theorem range_len (lo : Int) : ∀ n : Nat, (rangeD lo n).length = n
  | 0 => rfl
  | n + 1 => by rw [rangeD, List.length_cons, range_len (lo + 1) n]
theorem range_get : ∀ (n : Nat) (lo : Int) (i : Nat), i < n → (rangeD lo n)[i]? = some (.int (lo + i))
  | 0, _, _, h => by omega
  | n + 1, lo, 0, _ => by simp [rangeD]
  | n + 1, lo, i + 1, h => by
    rw [rangeD, List.getElem?_cons_succ, range_get n (lo + 1) i (by omega)]
    congr 2
    omega
theorem it_range (lo : Int) (n : Nat) : ItD L F0 ρ0 (rangeD lo n) (Itr lo n) := fun F ρ H i x k => by
  refine ⟨fun hi => ?_, fun d hd => ?_⟩
  · rw [range_len] at hi; exact hi
  · have hl : i < n := by
      have := (List.getElem?_eq_some_iff.mp hd).1
      rwa [range_len] at this
    rw [range_get n lo i hl] at hd
    cases hd
    exact ⟨hl, fun y H' hy => .inl ⟨hy.1, by unfold Rep; exact hy.2⟩⟩
theorem enum_len : ∀ (l : List D) (k : Nat), (enumD k l).length = l.length
  | [], _ => rfl
  | x :: r, k => by rw [enumD, List.length_cons, List.length_cons, enum_len r (k + 1)]
theorem enum_get : ∀ (l : List D) (k i : Nat) (d : D), l[i]? = some d → (enumD k l)[i]? = some (.tup [.int ((k + i : Nat) : Int), d])
  | [], _, _, _, h => by simp at h
  | x :: r, k, 0, d, h => by simp at h; subst h; simp [enumD]
  | x :: r, k, i + 1, d, h => by
    rw [enumD, List.getElem?_cons_succ, enum_get r (k + 1) i d (by simpa using h)]
    congr 5
    omega
theorem it_enum (h : SqL L.K F0 a vs) (r : Reps L F0 ρ0 l vs) : ItD L F0 ρ0 (enumD 0 l) (Ite L.K a) := fun F ρ H i x k => by
  have hH := sqL_up k (sqL_up x.f h)
  refine ⟨fun hi => ⟨vs, hH, by rw [← r.length, ← enum_len l 0]; exact hi⟩, fun d hd => ?_⟩
  have hl : i < l.length := by
    have := (List.getElem?_eq_some_iff.mp hd).1
    rwa [enum_len] at this
  have q : l[i]? = some l[i] := by simp [hl]
  rw [enum_get l 0 i _ q] at hd
  cases hd
  obtain ⟨v, e1, e2⟩ := r.get' q
  refine ⟨⟨vs, v, hH, e1⟩, fun y H' hy => .inr ?_⟩
  obtain ⟨T, z, rfl, hT, rfl, hz⟩ := hy
  have := hz vs hH
  rw [e1] at this; cases this
  refine ⟨T, _, hT, rfl, ?_⟩
  have hF := upd_fr (o := .tup [.int (i : Nat), v]) k hT
  unfold Rep
  refine ⟨T, _, rfl, SqT.of upd_same, Reps.cons (by unfold Rep; rw [Nat.zero_add]) (Reps.cons (Rep.up ⟨fun c u hc => upd_ge hF _ _ (x.f c u hc), x.r⟩ _ _ e2) Reps.nil)⟩
theorem it_zip (h : SqL L.K F0 a vs) (r : Reps L F0 ρ0 l vs) {l2 : List D} (h2 : SqL L.K F0 b ws) (r2 : Reps L F0 ρ0 l2 ws) : ItD L F0 ρ0 ((l.zip l2).map fun p => .tup [p.1, p.2]) (Itz L.K a b) := fun F ρ H i x k => by
  have hH := sqL_up k (sqL_up x.f h)
  have hH2 := sqL_up k (sqL_up x.f h2)
  refine ⟨fun hi => ⟨vs, ws, hH, hH2, ?_⟩, fun d hd => ?_⟩
  · rw [List.length_map, List.length_zip, r.length, r2.length] at hi
    omega
  · rw [List.getElem?_map] at hd
    cases q : (l.zip l2)[i]? with
    | none => rw [q] at hd; cases hd
    | some p =>
      rw [q] at hd; cases hd
      rw [List.getElem?_zip_eq_some] at q
      obtain ⟨q1, q2⟩ := q
      obtain ⟨v, e1, e2⟩ := r.get' q1
      obtain ⟨w, e3, e4⟩ := r2.get' q2
      refine ⟨⟨vs, ws, v, w, hH, hH2, e1, e3⟩, fun y H' hy => .inr ?_⟩
      obtain ⟨T, z, z2, rfl, hT, rfl, hz, hz2⟩ := hy
      have := hz vs hH
      rw [e1] at this; cases this
      have := hz2 ws hH2
      rw [e3] at this; cases this
      refine ⟨T, _, hT, rfl, ?_⟩
      have hF := upd_fr (o := .tup [v, w]) k hT
      have up : Ex F0 ρ0 (upd F T (.tup [v, w])) ρ := ⟨fun c u hc => upd_ge hF _ _ (x.f c u hc), x.r⟩
      unfold Rep
      exact ⟨T, _, rfl, SqT.of upd_same, Reps.cons (Rep.up up _ _ e2) (Reps.cons (Rep.up up _ _ e4) Reps.nil)⟩
theorem it_rev (h : SqL L.K F0 a vs) (r : Reps L F0 ρ0 l vs) : ItD L F0 ρ0 l.reverse (Itv L.K a vs.length) := fun F ρ H i x k => by
  have hH := sqL_up k (sqL_up x.f h)
  refine ⟨fun hi => by rw [List.length_reverse, r.length] at hi; exact hi, fun d hd => ?_⟩
  have hl : i < l.length := by
    have := (List.getElem?_eq_some_iff.mp hd).1
    rwa [List.length_reverse] at this
  rw [List.getElem?_reverse hl] at hd
  obtain ⟨v, e1, e2⟩ := r.get' hd
  rw [r.length] at e1
  refine ⟨⟨by rw [← r.length]; exact hl, vs, v, hH, e1⟩, fun y H' hy => .inl ⟨hy.1, ?_⟩⟩
  have := hy.2 vs hH
  rw [e1] at this; cases this
  exact Rep.up x _ _ e2
end

section
variable {X : Cx} {L : Lk} {W : WX} {a b c tg : Expr} {pos : Pos} {fa fb fc : Env → G → Er D} {fs : Env → G → Er (List D)}
/-- a list, a tuple, a text -/
theorem so_iseq (hK : X.K = L.K) (h : PE X a (tD L W fa)) : PI X tg a (tI L W fun env g => (fa env g).bind fun d g => ofO g (seqD d)) := by
  refine ⟨fun pins s σ H R I hq => ?_⟩
  obtain ⟨B, F, ρ, oa, env, g, S, hq⟩ := hq
  dsimp only at hq
  cases e : fa env g with
  | no => rw [e] at hq; exact hq.elim
  | ex c' fs' g' =>
    rw [e] at hq
    exact (pi_list (tg := tg) h).run pins s σ H R I ⟨B, F, ρ, oa, env, g, S, by rw [e]; exact hq⟩
  | ok d g' =>
    rw [e] at hq
    have hq : PostE L B W (fun F ρ l J => ItD L F ρ l J) F ρ oa env σ (ofO g' (seqD d)) R := hq
    cases q : seqD d with
    | none => rw [q] at hq; exact hq.elim
    | some l =>
      rw [q] at hq
      unfold seqD at q
      split at q <;> cases q
      · refine (pi_list (tg := tg) h).run pins s σ H R I ⟨B, F, ρ, oa, env, g, S, ?_⟩
        rw [e]
        intro v F1 ρ1 H1 x1 S1 r1
        unfold Rep at r1
        obtain ⟨p, vs, rfl, h1, h2⟩ := r1
        rw [hK]
        exact ⟨p, rfl, ⟨vs, sqL_up S1.sg.fr h1⟩, hq _ F1 ρ1 H1 x1 S1 (it_list h1 h2)⟩
      · refine (pi_tup (tg := tg) h).run pins s σ H R I ⟨B, F, ρ, oa, env, g, S, ?_⟩
        rw [e]
        intro v F1 ρ1 H1 x1 S1 r1
        unfold Rep at r1
        obtain ⟨p, vs, rfl, h1, h2⟩ := r1
        rw [hK]
        exact ⟨p, rfl, ⟨vs, sqT_up S1.sg.fr h1⟩, hq _ F1 ρ1 H1 x1 S1 (it_tup h1 h2)⟩
      · refine (pi_str (tg := tg) h).run pins s σ H R I ⟨B, F, ρ, oa, env, g, S, ?_⟩
        rw [e]
        intro v F1 ρ1 H1 x1 S1 r1
        unfold Rep at r1
        exact ⟨_, r1, hq _ F1 ρ1 H1 x1 S1 (it_str _)⟩
theorem one_of {F : Hp} {ρ : List Addr} {d : D} {vs : List V} (h : Reps L F ρ [d] vs) : ∃ v, vs = [v] ∧ Rep L F ρ d v := by
  unfold Reps at h
  obtain ⟨v, r, h1, h2, h3⟩ := h
  unfold Reps at h3
  subst h3
  exact ⟨v, h1, h2⟩
theorem two_of {F : Hp} {ρ : List Addr} {d e : D} {vs : List V} (h : Reps L F ρ [d, e] vs) : ∃ v w, vs = [v, w] ∧ Rep L F ρ d v ∧ Rep L F ρ e w := by
  unfold Reps at h
  obtain ⟨v, r, h1, h2, h3⟩ := h
  obtain ⟨w, h4, h5⟩ := one_of h3
  subst h4
  exact ⟨v, w, h1, h2, h5⟩
theorem items1 {k : Sk} {ds l : List D} (e : items k ds = some l) (h : k = .range1 ∨ k = .enum ∨ k = .rev) : ∃ d, ds = [d] ∧ itemsA k d = some l := by
  rcases ds with _ | ⟨d, _ | ⟨d2, _ | ⟨d3, r⟩⟩⟩
  · exact nomatch e
  · exact ⟨d, rfl, e⟩
  · replace e : itemsB k d d2 = some l := e
    rcases h with h | h | h <;> subst h <;> (unfold itemsB at e; exact nomatch e)
  · exact nomatch e
theorem items2 {k : Sk} {ds l : List D} (e : items k ds = some l) (h : k = .range2 ∨ k = .zip2) : ∃ d d2, ds = [d, d2] ∧ itemsB k d d2 = some l := by
  rcases ds with _ | ⟨d, _ | ⟨d2, _ | ⟨d3, r⟩⟩⟩
  · exact nomatch e
  · replace e : itemsA k d = some l := e
    rcases h with h | h <;> subst h <;> (unfold itemsA at e; exact nomatch e)
  · exact ⟨d, d2, rfl, e⟩
  · exact nomatch e
theorem inv_range1 {d : D} {l : List D} (e : itemsA .range1 d = some l) : ∃ n, d = .int n ∧ (-(2 ^ 62) ≤ n ∧ n < 2 ^ 62) ∧ l = rangeD 0 n.toNat := by
  cases d <;> simp only [itemsA, reduceCtorEq] at e
  split at e <;> cases e
  exact ⟨_, rfl, by assumption, rfl⟩
theorem inv_enum {d : D} {l : List D} (e : itemsA .enum d = some l) : ∃ xs, d = .lst xs ∧ l = enumD 0 xs := by
  cases d <;> simp only [itemsA, reduceCtorEq] at e
  cases e
  exact ⟨_, rfl, rfl⟩
theorem inv_rev {d : D} {l : List D} (e : itemsA .rev d = some l) : ∃ xs, d = .lst xs ∧ l = xs.reverse := by
  cases d <;> simp only [itemsA, reduceCtorEq] at e
  cases e
  exact ⟨_, rfl, rfl⟩
theorem inv_range2 {d d2 : D} {l : List D} (e : itemsB .range2 d d2 = some l) : ∃ a b, d = .int a ∧ d2 = .int b ∧ ((-(2 ^ 62) ≤ a ∧ a < 2 ^ 62) ∧ -(2 ^ 62) ≤ b ∧ b < 2 ^ 62) ∧ l = rangeD a (b - a).toNat := by
  cases d <;> cases d2 <;> simp only [itemsB, reduceCtorEq] at e
  split at e <;> cases e
  exact ⟨_, _, rfl, rfl, by assumption, rfl⟩
theorem inv_zip2 {d d2 : D} {l : List D} (e : itemsB .zip2 d d2 = some l) : ∃ xs ys, d = .lst xs ∧ d2 = .lst ys ∧ l = (xs.zip ys).map fun p => .tup [p.1, p.2] := by
  cases d <;> cases d2 <;> simp only [itemsB, reduceCtorEq] at e
  cases e
  exact ⟨_, _, rfl, rfl, rfl⟩
abbrev fI (k : Sk) (fs : Env → G → Er (List D)) : Env → G → Er (List D) := fun env g => (fs env g).bind fun ds g => ofO g (items k ds)
theorem so_irange1 {p : Pos} (hg : Gl X "range") (hm : X.mg "range" = none) (ha : PA X [a] (tDs L W fs)) (hs : starEach [a] X.env = [(false, eval a X.env)]) : PI X tg (.Call (.Name "range" p) [a] [] pos) (tI L W (fI .range1 fs)) := by
  refine PI.imp (pi_range1 hg hm ha hs) fun σ H R h => ?_
  obtain ⟨B, F, ρ, oa, env, g, S, h⟩ := h
  refine PostE.bind (f := fs) (rel' := fun _ _ F ρ l J => ItD L F ρ l J) (Q := R) (k := fun ds g => ofO g (items .range1 ds)) S h fun ds g1 vs F1 ρ1 H1 x1 S1 r1 h1 => ?_
  cases q : items .range1 ds with
  | none => rw [q] at h1; exact h1.elim
  | some l =>
    rw [q] at h1
    obtain ⟨d, rfl, q2⟩ := items1 q (.inl rfl)
    obtain ⟨v, rfl, rv⟩ := one_of r1
    obtain ⟨n, rfl, hb, rfl⟩ := inv_range1 q2
    unfold Rep at rv
    subst rv
    exact ⟨n, rfl, hb.1, hb.2, h1 _ F1 ρ1 H1 (Ex.refl _ _) S1 (it_range 0 _)⟩
theorem so_irange2 {p : Pos} (hg : Gl X "range") (hm : X.mg "range" = none) (ha : PA X [a, b] (tDs L W fs)) (hs : starEach [a, b] X.env = [(false, eval a X.env), (false, eval b X.env)]) (hs2 : starEach [b] X.env = [(false, eval b X.env)]) :
    PI X tg (.Call (.Name "range" p) [a, b] [] pos) (tI L W (fI .range2 fs)) := by
  refine PI.imp (pi_range2 hg hm ha hs hs2) fun σ H R h => ?_
  obtain ⟨B, F, ρ, oa, env, g, S, h⟩ := h
  refine PostE.bind (f := fs) (rel' := fun _ _ F ρ l J => ItD L F ρ l J) (Q := R) (k := fun ds g => ofO g (items .range2 ds)) S h fun ds g1 vs F1 ρ1 H1 x1 S1 r1 h1 => ?_
  cases q : items .range2 ds with
  | none => rw [q] at h1; exact h1.elim
  | some l =>
    rw [q] at h1
    obtain ⟨d, d2, rfl, q2⟩ := items2 q (.inl rfl)
    obtain ⟨v, w, rfl, rv, rw'⟩ := two_of r1
    obtain ⟨n, m, rfl, rfl, hb, rfl⟩ := inv_range2 q2
    unfold Rep at rv rw'
    subst rv rw'
    exact ⟨n, m, rfl, ⟨hb.1.1, hb.1.2, hb.2.1, hb.2.2⟩, h1 _ F1 ρ1 H1 (Ex.refl _ _) S1 (it_range _ _)⟩
theorem so_ienum {p tpos : Pos} {elts : List Expr} {kk : Nat} (hK : X.K = L.K) (hg : Gl X "enumerate") (hm : X.mg "enumerate" = none) (ha : PA X [a] (tDs L W fs)) (hs : starEach [a] X.env = [(false, eval a X.env)]) :
    PI X (.Tuple elts kk tpos) (.Call (.Name "enumerate" p) [a] [] pos) (tI L W (fI .enum fs)) := by
  refine PI.imp (pi_enum hg hm ha hs) fun σ H R h => ?_
  obtain ⟨B, F, ρ, oa, env, g, S, h⟩ := h
  refine PostE.bind (f := fs) (rel' := fun _ _ F ρ l J => ItD L F ρ l J) (Q := R) (k := fun ds g => ofO g (items .enum ds)) S h fun ds g1 vs F1 ρ1 H1 x1 S1 r1 h1 => ?_
  cases q : items .enum ds with
  | none => rw [q] at h1; exact h1.elim
  | some l =>
    rw [q] at h1
    obtain ⟨d, rfl, q2⟩ := items1 q (.inr (.inl rfl))
    obtain ⟨v, rfl, rv⟩ := one_of r1
    obtain ⟨xs, rfl, rfl⟩ := inv_enum q2
    unfold Rep at rv
    obtain ⟨p', us, rfl, k1, k2⟩ := rv
    rw [hK]
    exact ⟨p', us, rfl, sqL_up S1.sg.fr k1, h1 _ F1 ρ1 H1 (Ex.refl _ _) S1 (it_enum k1 k2)⟩
theorem so_irev {p : Pos} (hK : X.K = L.K) (hg : Gl X "reversed") (hm : X.mg "reversed" = none) (ha : PA X [a] (tDs L W fs)) (hs : starEach [a] X.env = [(false, eval a X.env)]) :
    PI X tg (.Call (.Name "reversed" p) [a] [] pos) (tI L W (fI .rev fs)) := by
  refine PI.imp (pi_reversed hg hm ha hs) fun σ H R h => ?_
  obtain ⟨B, F, ρ, oa, env, g, S, h⟩ := h
  refine PostE.bind (f := fs) (rel' := fun _ _ F ρ l J => ItD L F ρ l J) (Q := R) (k := fun ds g => ofO g (items .rev ds)) S h fun ds g1 vs F1 ρ1 H1 x1 S1 r1 h1 => ?_
  cases q : items .rev ds with
  | none => rw [q] at h1; exact h1.elim
  | some l =>
    rw [q] at h1
    obtain ⟨d, rfl, q2⟩ := items1 q (.inr (.inr rfl))
    obtain ⟨v, rfl, rv⟩ := one_of r1
    obtain ⟨xs, rfl, rfl⟩ := inv_rev q2
    unfold Rep at rv
    obtain ⟨p', us, rfl, k1, k2⟩ := rv
    rw [hK]
    exact ⟨p', us, rfl, sqL_up S1.sg.fr k1, h1 _ F1 ρ1 H1 (Ex.refl _ _) S1 (it_rev k1 k2)⟩
theorem so_izip {p tpos : Pos} {elts : List Expr} {kk : Nat} (hK : X.K = L.K) (hg : Gl X "zip") (hm : X.mg "zip" = none) (ha : PA X [a, b] (tDs L W fs))
    (hs : starEach [a, b] X.env = (false, eval a X.env) :: starEach [b] X.env) (hpl : (backTo pos (starEach [b] X.env)).any (·.1) = false) :
    PI X (.Tuple elts kk tpos) (.Call (.Name "zip" p) [a, b] [] pos) (tI L W (fI .zip2 fs)) := by
  refine PI.imp (pi_zip hg hm ha hs hpl) fun σ H R h => ?_
  obtain ⟨B, F, ρ, oa, env, g, S, h⟩ := h
  refine PostE.bind (f := fs) (rel' := fun _ _ F ρ l J => ItD L F ρ l J) (Q := R) (k := fun ds g => ofO g (items .zip2 ds)) S h fun ds g1 vs F1 ρ1 H1 x1 S1 r1 h1 => ?_
  cases q : items .zip2 ds with
  | none => rw [q] at h1; exact h1.elim
  | some l =>
    rw [q] at h1
    obtain ⟨d, d2, rfl, q2⟩ := items2 q (.inr rfl)
    obtain ⟨v, w, rfl, rv, rw'⟩ := two_of r1
    obtain ⟨xs, ys, rfl, rfl, rfl⟩ := inv_zip2 q2
    unfold Rep at rv rw'
    obtain ⟨p1, us1, rfl, k1, k2⟩ := rv
    obtain ⟨p2, us2, rfl, k3, k4⟩ := rw'
    rw [hK]
    exact ⟨p1, p2, us1, us2, rfl, sqL_up S1.sg.fr k1, sqL_up S1.sg.fr k3, h1 _ F1 ρ1 H1 (Ex.refl _ _) S1 (it_zip k1 k2 k3 k4)⟩
end
end Low

/-! Low, part 8: targets; comprehensions. -/
namespace Low
open PySem L2

section
variable {L : Lk} {B : Bs} {F F' : Hp} {ρ ρ' : List Addr} {oa : Nat → Addr} {env : Env} {σ : St} {g g' : G} {H H' : Hp}
theorem Sm.frm {oa' : Nat → Addr} {env' : Env} {σ' : St} (S' : Sm L (B.at F ρ H) F' ρ' oa' env' σ' g' H') : Fr F ρ H F' ρ' H' := ⟨S'.bk, S'.br, S'.bf⟩
theorem Sm.sets (S : Sm L B F ρ oa env σ g H) : ∀ (is : List Nat) {ds : List D} {vs : List V}, Reps L F ρ ds vs → is.length = ds.length → ∃ σ', Sm L B F ρ oa (setAll is ds env) σ' g H ∧ (∀ ws : List Nat, (∀ i ∈ is, i ∈ ws) → L2.wipe σ' ws = L2.wipe σ ws) ∧ σ' = (is.zip vs).foldl (fun s p => s.set p.1 (some p.2)) σ := by
  intro is
  induction is generalizing env σ with
  | nil =>
    intro ds vs r e
    exact ⟨σ, by simpa [setAll] using S, fun _ _ => rfl, rfl⟩
  | cons i is ih =>
    intro ds vs r e
    cases ds with
    | nil => cases e
    | cons d ds =>
      unfold Reps at r
      obtain ⟨v, r', rfl, h1, h2⟩ := r
      obtain ⟨σ', k1, k2, k3⟩ := ih (S.setv h1 i) h2 (by simpa using e)
      refine ⟨σ', by rw [setAll]; exact k1, fun ws hw => ?_, by rw [k3]; rfl⟩
      rw [k2 ws fun j hj => hw j (List.mem_cons_of_mem _ hj)]
      exact wipe_set (hw i List.mem_cons_self)
where
  wipe_set {σ : St} {i : Nat} {x : Option V} : ∀ {ws : List Nat}, i ∈ ws → L2.wipe (σ.set i x) ws = L2.wipe σ ws
  | [], h => by cases h
  | w :: ws, h => by
    have key : ∀ {us : List Nat}, L2.wipe (σ.set i x) us = (L2.wipe σ us).set i x ∨ L2.wipe (σ.set i x) us = L2.wipe σ us := fun {us} => by
      induction us with
      | nil => exact .inl rfl
      | cons u us ih =>
        unfold L2.wipe
        rcases ih with q | q
        · rw [q]
          by_cases e : i = u
          · subst e; right; rw [List.set_set]
          · left; rw [List.set_comm _ _ e]
        · right; rw [q]
    unfold L2.wipe
    rcases List.mem_cons.mp h with e | e
    · subst e
      rcases key (us := ws) with q | q
      · rw [q, List.set_set]
      · rw [q]
    · rw [wipe_set e]
end

/-- a target's reading takes what tgt takes -/
def TgOk (L : Lk) (t : TG) (vs : List Nat) : Prop := ∀ B F ρ oa env σ g H d x env' (Q : St → Hp → Prop), Sm L B F ρ oa env σ g H → Rep L F ρ d x → tgt vs d env = some env' →
  (∀ σ', Sm L B F ρ oa env' σ' g H → (∀ ws : List Nat, (∀ i ∈ vs, i ∈ ws) → L2.wipe σ' ws = L2.wipe σ ws) → Q σ' H) → t x σ H Q
theorem tg_name {L : Lk} (i : Nat) : TgOk L (gName i) [i] := fun B F ρ oa env σ g H d x env' Q S r e q => by
  cases e
  refine q _ (S.setv r i) fun ws hw => ?_
  exact Sm.sets.wipe_set (hw i (by simp))
/-- names from a list of values -/
def gNames : List Nat → TGs
  | [] => gNil
  | i :: is => gCons (gName i) (gNames is)
theorem gNames_ok : ∀ {is : List Nat} {vs : List V} {σ : St} {H : Hp} {Q : St → Hp → Prop}, is.length = vs.length → Q ((is.zip vs).foldl (fun s p => s.set p.1 (some p.2)) σ) H → gNames is vs σ H Q
  | [], vs, σ, H, Q, e, q => ⟨List.length_eq_zero_iff.mp e.symm, by simpa using q⟩
  | i :: is, vs, σ, H, Q, e, q => by
    cases vs with
    | nil => cases e
    | cons v vs => exact ⟨v, vs, rfl, gNames_ok (by simpa using e) q⟩
theorem tg_tup {L : Lk} {is : List Nat} (h2 : 2 ≤ is.length) : TgOk L (gTup L.K is.length (gNames is)) is := fun B F ρ oa env σ g H d x env' Q S r e q => by
  rcases is with _ | ⟨i, _ | ⟨j, is⟩⟩
  · simp at h2
  · simp at h2
  · unfold tgt at e
    split at e
    · rename_i hh; cases hh
    · rename_i ds _ _
      split at e
      · rename_i hl
        cases e
        unfold Rep at r
        obtain ⟨a, vs, rfl, k1, k2⟩ := r
        obtain ⟨σ', s1, s2, s3⟩ := S.sets _ k2 hl
        refine ⟨a, vs, rfl, sqT_up S.sg.fr k1, by rw [← k2.length]; exact hl.symm, gNames_ok (by rw [← k2.length]; exact hl) ?_⟩
        rw [← s3]
        exact q σ' s1 s2
      · cases e
    · cases e

section
variable {X : Cx} {L : Lk} {W : WX} {a b c tg iter elt : Expr} {pos : Pos} {fe : Env → G → Er D} {tc : Env → G → Er Bool} {fs : Env → G → Er (List D)} {t : TG} {vs ws : List Nat}
abbrev W0 : WX := fun _ _ _ _ => False
/-- the reading of a comprehension -/
theorem lc_read (ht : TgOk L t vs) (hw : ∀ i ∈ vs, i ∈ ws) {σ : St} {H : Hp} {Q : VK} (h : tD L W (fun env g => (fs env g).bind fun l g => compL (fun x => tgt vs x (wipeE env ws)) tc fe l [] g) σ H Q) :
    tLc (tI L W fs) t (tT L W0 tc) (tD L W0 fe) ws σ H Q := by
  obtain ⟨B, F, ρ, oa, env, g, S, h⟩ := h
  refine PostE.bind (rel := fun _ _ F ρ l J => ItD L F ρ l J) S h fun l g1 J F1 ρ1 H1 x1 S1 it h1 => ?_
  intro D hD
  have d0 := S1.fresh0 hD
  have dF := S1.sg.fresh hD
  have dR := S1.sg.freshR hD
  have dO : ∀ (i : Nat) m, env[i]? = some (SV.own m) → oa i ≠ D := fun i m e z => by
    obtain ⟨_, k2, _⟩ := S1.sl i _ e
    obtain ⟨u, hu⟩ := k2.there
    rw [z, hD] at hu; cases hu
  refine ⟨fun i m H => i ≤ l.length ∧ m = l.length - i ∧ ∃ F ρ g acc us, Ex F1 ρ1 F ρ ∧ Sm L B F ρ oa env σ g H ∧ F D = none ∧ D ∉ ρ ∧ H D = some (.lst us) ∧ Reps L F ρ acc us ∧
    PostE L B W (relD L oa env) F1 ρ1 oa env σ (compL (fun x => tgt vs x (wipeE env ws)) tc fe (l.drop i) acc g) Q,
    ⟨l.length, Nat.zero_le _, by omega, F1, ρ1, g1, [], [], Ex.refl _ _, S1.aside dF dR dO d0, dF, dR, upd_same, Reps.nil, h1⟩, ?_⟩
  rintro i m H ⟨hi, rfl, F, ρ, g, acc, us, x, S, fD, rD, hDD, ra, hp⟩
  by_cases hlt : ¬ i < l.length
  · have e : i = l.length := by omega
    subst e
    rw [List.drop_length, compL] at hp
    refine .inl ⟨(it F ρ H _ x S.sg.fr).1 (Nat.le_refl _), ?_⟩
    have S2 := S.still fD rD dO d0 hDD
    have x2 : Ex F ρ (upd F D (.lst us)) ρ := ⟨upd_ge fD, fun _ _ h => h⟩
    exact hp _ _ ρ H (x.trans x2) S2 (by unfold relD Rep; exact ⟨D, us, rfl, SqL.of upd_same, Reps.up x2 _ _ ra⟩)
  · replace hlt : i < l.length := by omega
    have hd : l[i]? = some l[i] := by simp [hlt]
    obtain ⟨go, yl⟩ := (it F ρ H i x S.sg.fr).2 _ hd
    refine .inr ⟨go, fun H => (i + 1 ≤ l.length ∧ ∃ F ρ g acc us, Ex F1 ρ1 F ρ ∧ Sm L B F ρ oa env σ g H ∧ F D = none ∧ D ∉ ρ ∧ H D = some (.lst us) ∧ Reps L F ρ acc us ∧
      PostE L B W (relD L oa env) F1 ρ1 oa env σ (compL (fun x => tgt vs x (wipeE env ws)) tc fe (l.drop (i + 1)) acc g) Q), fun H' hn => ⟨l.length - (i + 1), by omega, hn.1, rfl, hn.2⟩, fun y H' hy => ?_⟩
    -- the state in which the target is assigned
    obtain ⟨F', x', S', fD', hD', ry⟩ : ∃ F', Ex F ρ F' ρ ∧ Sm L B F' ρ oa env σ g H' ∧ F' D = none ∧ H' D = some (.lst us) ∧ Rep L F' ρ l[i] y := by
      rcases yl y H' hy with ⟨rfl, r⟩ | ⟨p, o, hp', rfl, r⟩
      · exact ⟨F, Ex.refl _ _, S, fD, hDD, r⟩
      · have ne : D ≠ p := ne_of_none hDD hp'
        exact ⟨_, S.ex_alloc hp', S.alloc hp', by rw [upd_ne ne]; exact fD, by rw [upd_ne ne]; exact hDD, r⟩
    rw [List.drop_eq_getElem_cons hlt, compL] at hp
    cases et : tgt vs l[i] (wipeE env ws) with
    | none => rw [et] at hp; exact hp.elim
    | some envI =>
      rw [et] at hp
      dsimp only at hp
      have SI : Sm L (B.at F' ρ H') F' ρ oa (wipeE env ws) (L2.wipe σ ws) g H' := (S'.at).wipe ws
      refine ht _ F' ρ oa _ _ g H' _ y envI _ SI ry et fun σI SI2 wI => ⟨?_, ?_⟩
      · have := wI ws hw
        rw [this]
        exact wipe_wipe σ ws
      · refine ⟨_, F', ρ, oa, envI, g, SI2, ?_⟩
        cases ec : tc envI g with
        | no => rw [ec] at hp; exact hp.elim
        | ex c' fs' g' => rw [ec] at hp; exact hp.elim
        | ok k g3 =>
          rw [ec] at hp
          dsimp only at hp
          intro k' F3 ρ3 H3 x3 S3 ek
          obtain rfl : k = k' := ek
          have fr3 := S3.frm
          have S3' := S'.call x3 S3.sg fr3
          have fD3 : F3 D = none := by
            cases q : F3 D with
            | none => rfl
            | some u =>
              rcases fr3.f D u q with ⟨w, hw⟩ | hw
              · rw [fD'] at hw; cases hw
              · rw [hD'] at hw; cases hw
          have rD3 : D ∉ ρ3 := fun hm => by
            rcases fr3.r D hm with q | q
            · exact rD q
            · rw [hD'] at q; cases q
          have hD3 : H3 D = some (.lst us) := fr3.k D _ hD' rD
          have ra3 : Reps L F3 ρ3 acc us := Reps.up (x'.trans x3) _ _ ra
          cases k with
          | false =>
            rw [if_neg Bool.false_ne_true] at hp ⊢
            exact ⟨by omega, F3, ρ3, g3, acc, us, (x.trans x').trans x3, S3', fD3, rD3, hD3, ra3, hp⟩
          | true =>
            rw [if_pos rfl] at hp ⊢
            refine ⟨_, F3, ρ3, oa, envI, g3, S3, ?_⟩
            cases ee : fe envI g3 with
            | no => rw [ee] at hp; exact hp.elim
            | ex c' fs' g' => rw [ee] at hp; exact hp.elim
            | ok z g4 =>
              rw [ee] at hp
              dsimp only at hp
              intro v F4 ρ4 H4 x4 S4 rv
              have fr4 := S4.frm
              have S4' := S'.call (x3.trans x4) S4.sg fr4
              have fD4 : F4 D = none := by
                cases q : F4 D with
                | none => rfl
                | some u =>
                  rcases fr4.f D u q with ⟨w, hw⟩ | hw
                  · rw [fD'] at hw; cases hw
                  · rw [hD'] at hw; cases hw
              have rD4 : D ∉ ρ4 := fun hm => by
                rcases fr4.r D hm with q | q
                · exact rD q
                · rw [hD'] at q; cases q
              have hD4 : H4 D = some (.lst us) := fr4.k D _ hD' rD
              split at hp
              · rename_i hz
                have ra4 : Reps L F4 ρ4 acc us := Reps.up x4 _ _ ra3
                refine ⟨us, hD4, by rw [← ra4.length, ← SZ_eq]; exact hz, by omega, F4, ρ4, g4, acc ++ [z], us ++ [v], ((x.trans x').trans x3).trans x4, S4'.aside fD4 rD4 dO d0, fD4, rD4, upd_same, Reps.append ra4 (Reps.cons rv Reps.nil), hp⟩
              · exact hp.elim
where
  wipe_wipe (σ : St) : ∀ ws : List Nat, L2.wipe (L2.wipe σ ws) ws = L2.wipe σ ws := fun ws => by
    have key : ∀ (us : List Nat) (τ : St), (∀ j ∈ us, ∀ (h : j < τ.length), τ[j]? = some none) → L2.wipe τ us = τ := fun us => by
      induction us with
      | nil => exact fun τ _ => rfl
      | cons u us ih =>
        intro τ h
        unfold L2.wipe
        rw [ih τ fun j hj => h j (List.mem_cons_of_mem _ hj)]
        by_cases hu : u < τ.length
        · have e := h u List.mem_cons_self hu
          refine List.ext_getElem? fun n => ?_
          by_cases q : u = n
          · subst q; rw [List.getElem?_set_self hu, e]
          · rw [List.getElem?_set_ne q]
        · exact List.set_eq_of_length_le (by omega)
    refine key ws _ fun j hj h => ?_
    have : ∀ us : List Nat, j ∈ us → j < σ.length → (L2.wipe σ us)[j]? = some none := fun us => by
      induction us with
      | nil => intro h; cases h
      | cons u us ih =>
        intro h hl
        unfold L2.wipe
        by_cases q : u = j
        · subst q
          rw [List.getElem?_set_self (by rw [wipe_length]; exact hl)]
        · rw [List.getElem?_set_ne q]
          rcases List.mem_cons.mp h with e | e
          · exact absurd e.symm q
          · exact ih e hl
    exact this ws hj (by rwa [wipe_length] at h)
theorem so_comp {ifs : List Expr} {scope : Scope} {own : List (Str × Nat)} (hc : X.calm = true) (hN : X.N.Nodup) (hi : PI X tg iter (tI L W fs)) (ok : BlkOk X.N X.env.scope scope own) (htg : TgOk L t vs) (hw : ∀ i ∈ vs, i ∈ own.map (·.2))
    (hg : ∀ (s : Shared) (H : Hp) (C : Addr) (cl : List (Str × Addr)) (fp : List Addr), PG (X.blk s H scope (compEnvC scope cl C X.env) fp) tg t)
    (ht : ∀ (s : Shared) (H : Hp) (C : Addr) (cl : List (Str × Addr)) (fp : List Addr), PTs (X.blk s H scope (compEnvC scope cl C X.env) fp) ifs (tT L W0 tc))
    (he : ∀ (s : Shared) (H : Hp) (C : Addr) (cl : List (Str × Addr)) (fp : List Addr), PE (X.blk s H scope (compEnvC scope cl C X.env) fp) elt (tD L W0 fe)) (hs : ∀ x, foldedSetIterable iter X.env x = pure x) :
    PE X (.ListComp elt [⟨tg, iter, ifs, 0⟩] scope pos) (tD L W fun env g => (fs env g).bind fun l g => compL (fun x => tgt vs x (wipeE env (own.map (·.2)))) tc fe l [] g) :=
  PE.imp (pe_lc hc hN hi ok hg ht he hs) fun σ H Q h => lc_read htg hw h
end
end Low

/-! Low, part 9: statements. -/
namespace Low
open PySem L2

def PostS (L : Lk) (B : Bs) (W : WX) (F : Hp) (ρ : List Addr) (r : Sr) (D : Ends) : Prop :=
  match r with
  | .nx env g => ∀ σ F' ρ' oa H, Ex F ρ F' ρ' → Sm L B F' ρ' oa env σ g H → D.nx σ H
  | .bk env g => ∀ σ F' ρ' oa H, Ex F ρ F' ρ' → Sm L B F' ρ' oa env σ g H → D.bk σ H
  | .ct env g => ∀ σ F' ρ' oa H, Ex F ρ F' ρ' → Sm L B F' ρ' oa env σ g H → D.ct σ H
  | .rt d env g => ∀ v σ F' ρ' oa H, Ex F ρ F' ρ' → Sm L B F' ρ' oa env σ g H → Rep L F' ρ' d v → D.rt v H
  | .ex c fs env g => ∀ cls dx σ F' ρ' oa H, Ex F ρ F' ρ' → Sm L B F' ρ' oa env σ g H → RepX L F' ρ' c fs cls dx → W cls dx σ H
  | .no => False
/-- the reading of a statement whose code comes to f -/
def tS (L : Lk) (W : WX) (f : Env → G → Sr) : TS := fun D σ H => ∃ B F ρ oa env g, Sm L B F ρ oa env σ g H ∧ PostS L B W F ρ (f env g) D

section
variable {L : Lk} {B : Bs} {W : WX} {F F' : Hp} {ρ ρ' : List Addr} {oa : Nat → Addr} {env : Env} {σ : St} {g : G} {H : Hp} {α β : Type}
theorem PostS.shift {r : Sr} {D : Ends} (x : Ex F ρ F' ρ') (h : PostS L B W F ρ r D) : PostS L B W F' ρ' r D := by
  cases r with
  | nx env g => exact fun σ F2 ρ2 oa H x2 => h σ F2 ρ2 oa H (x.trans x2)
  | bk env g => exact fun σ F2 ρ2 oa H x2 => h σ F2 ρ2 oa H (x.trans x2)
  | ct env g => exact fun σ F2 ρ2 oa H x2 => h σ F2 ρ2 oa H (x.trans x2)
  | rt d env g => exact fun v σ F2 ρ2 oa H x2 => h v σ F2 ρ2 oa H (x.trans x2)
  | ex c fs env g => exact fun cls dx σ F2 ρ2 oa H x2 => h cls dx σ F2 ρ2 oa H (x.trans x2)
  | no => exact h
theorem PostS.bind {rel : (Nat → Addr) → Env → Hp → List Addr → α → β → Prop} {f : Env → G → Er α} {k : α → G → Sr} {D : Ends}
    (S : Sm L B F ρ oa env σ g H) (h : PostS L B W F ρ ((f env g).st env k) D) {Q' : β → Hp → Prop}
    (hk : ∀ d g' v F' ρ' H', Ex F ρ F' ρ' → Sm L B F' ρ' oa env σ g' H' → rel oa env F' ρ' d v → PostS L B W F' ρ' (k d g') D → Q' v H') : tE L W rel f σ H Q' := by
  refine ⟨B, F, ρ, oa, env, g, S, ?_⟩
  cases e : f env g with
  | ok d g' =>
    rw [e] at h
    intro v F' ρ' H' x S' r
    exact hk d g' v F' ρ' H' x S' r (PostS.shift x h)
  | ex c fs g' =>
    rw [e] at h
    exact fun cls dx F' ρ' H' x S' r => h cls dx σ F' ρ' oa H' x S' r
  | no =>
    rw [e] at h
    exact h
end

/-- a name that the block may set -/
def LcF (X : Cx) (x : Str) : Prop := Loc X.env.scope x ∧ (X.fn x = true ∨ X.env.scope.names.lookup x = some .local)

section
variable {X : Cx} {L : Lk} {W : WX} {a b c tg iter : Expr} {pos py : Pos} {fa fb fc : Env → G → Er D} {fs : Env → G → Er (List D)} {fsi : Env → G → Er (List D)} {tc : Env → G → Er Bool} {f1 f2 fbd : Env → G → Sr}
theorem ss_nil : PSs X [] (tS L W fun env g => .nx env g) := PSs.imp pss_nil fun D σ H h => by
  obtain ⟨B, F, ρ, oa, env, g, S, h⟩ := h
  exact h σ F ρ oa H (Ex.refl _ _) S
theorem ss_cons {s : Stmt} {r : List Stmt} (h1 : PS X s (tS L W f1)) (h2 : PSs X r (tS L W f2)) : PSs X (s :: r) (tS L W fun env g => (f1 env g).seq f2) := PSs.imp (pss_cons h1 h2) fun D σ H h => by
  obtain ⟨B, F, ρ, oa, env, g, S, h⟩ := h
  refine ⟨B, F, ρ, oa, env, g, S, ?_⟩
  dsimp only at h
  cases e : f1 env g with
  | nx env' g' =>
    rw [e] at h
    exact fun σ' F' ρ' oa' H' x S' => ⟨B, F', ρ', oa', env', g', S', PostS.shift x h⟩
  | bk env' g' => rw [e] at h; exact h
  | ct env' g' => rw [e] at h; exact h
  | rt d env' g' => rw [e] at h; exact h
  | ex c fs env' g' => rw [e] at h; exact h
  | no => rw [e] at h; exact h
theorem ss_pas : PS X (.Pass pos) (tS L W fun env g => .nx env g) := PS.imp ps_pass fun D σ H h => by
  obtain ⟨B, F, ρ, oa, env, g, S, h⟩ := h
  exact h σ F ρ oa H (Ex.refl _ _) S
theorem ss_doc {x j pos'} : PS X (.Expr (.Constant (.str x) j pos) pos') (tS L W fun env g => .nx env g) := PS.imp ps_doc fun D σ H h => by
  obtain ⟨B, F, ρ, oa, env, g, S, h⟩ := h
  exact h σ F ρ oa H (Ex.refl _ _) S
theorem ss_brk : PS X (.Break pos) (tS L W fun env g => .bk env g) := PS.imp ps_break fun D σ H h => by
  obtain ⟨B, F, ρ, oa, env, g, S, h⟩ := h
  exact h σ F ρ oa H (Ex.refl _ _) S
theorem ss_cnt : PS X (.Continue pos) (tS L W fun env g => .ct env g) := PS.imp ps_continue fun D σ H h => by
  obtain ⟨B, F, ρ, oa, env, g, S, h⟩ := h
  exact h σ F ρ oa H (Ex.refl _ _) S
theorem ss_retN : PS X (.Return none pos) (tS L W fun env g => .rt .non env g) := PS.imp ps_retN fun D σ H h => by
  obtain ⟨B, F, ρ, oa, env, g, S, h⟩ := h
  exact h .non σ F ρ oa H (Ex.refl _ _) S (by unfold Rep; rfl)
theorem ss_ret (ha : PE X a (tD L W fa)) : PS X (.Return (some a) pos) (tS L W fun env g => (fa env g).st env fun d g => .rt d env g) := PS.imp (ps_ret ha) fun D σ H h => by
  obtain ⟨B, F, ρ, oa, env, g, S, h⟩ := h
  exact PostS.bind S h fun d g1 v F1 ρ1 H1 x1 S1 r1 h1 => h1 v σ F1 ρ1 oa H1 (Ex.refl _ _) S1 r1
theorem ss_exp (ha : PE X a (tD L W fa)) (hs : swapsWith a none pos.line X.env = pure false) : PS X (.Expr a pos) (tS L W fun env g => (fa env g).st env fun _ g => .nx env g) := PS.imp (ps_expr ha hs) fun D σ H h => by
  obtain ⟨B, F, ρ, oa, env, g, S, h⟩ := h
  exact PostS.bind S h fun d g1 v F1 ρ1 H1 x1 S1 r1 h1 => h1 σ F1 ρ1 oa H1 (Ex.refl _ _) S1
theorem ss_asg {i : Nat} {x : Str} (hN : X.N.Nodup) (hi : X.N[i]? = some x) (hx : LcF X x) (ha : PE X a (tD L W fa)) (hs : swapsWith a (some (.Name x py)) pos.line X.env = pure false) :
    PS X (.Assign [.Name x py] a pos) (tS L W fun env g => (fa env g).st env fun d g => .nx (env.set i (.val d)) g) := PS.imp (ps_set hN hi hx.1 ha hs hx.2) fun D σ H h => by
  obtain ⟨B, F, ρ, oa, env, g, S, h⟩ := h
  exact PostS.bind S h fun d g1 v F1 ρ1 H1 x1 S1 r1 h1 => h1 _ F1 ρ1 oa H1 (Ex.refl _ _) (S1.setv r1 i)
theorem ss_iff {p q : List Stmt} (hc : PT X c (tT L W tc)) (h1 : PSs X p (tS L W f1)) (h2 : PSs X q (tS L W f2)) :
    PS X (.If c p q pos) (tS L W fun env g => (tc env g).st env fun x g => if x then f1 env g else f2 env g) := PS.imp (ps_if hc h1 h2) fun D σ H h => by
  obtain ⟨B, F, ρ, oa, env, g, S, h⟩ := h
  refine PostS.bind S h fun d g1 v F1 ρ1 H1 x1 S1 r1 h1 => ?_
  obtain rfl : d = v := r1
  cases d with
  | true =>
    rw [if_pos rfl] at h1 ⊢
    exact ⟨B, F1, ρ1, oa, env, g1, S1, h1⟩
  | false =>
    rw [if_neg Bool.false_ne_true] at h1 ⊢
    exact ⟨B, F1, ρ1, oa, env, g1, S1, h1⟩
theorem aug_add {d e z : D} {v w : V} {H : Hp} {Q : VK} {F : Hp} {ρ : List Addr} (h : ∃ i j, d = .int i ∧ e = .int j ∧ z = .int (i + j)) (rv : Rep L F ρ d v) (rw' : Rep L F ρ e w) (q : ∀ u, Rep L F ρ z u → Q u H) : ipI (fun i j => i + j) v w H Q := by
  obtain ⟨i, j, rfl, rfl, rfl⟩ := h
  unfold Rep at rv rw'
  exact ⟨i, j, rv, rw', q _ (by unfold Rep; rfl)⟩
theorem ss_aug {i : Nat} {x : Str} {op : Operator} {o : Op} (hN : X.N.Nodup) (hi : X.N[i]? = some x) (hx : LcF X x) (ha : PE X a (tD L W fa))
    {rd : TIp} (hp : PIp X op rd) (hrd : ∀ d e z v w H Q F ρ, augS o d e = some z → Rep L F ρ d v → Rep L F ρ e w → (∀ u, Rep L F ρ z u → Q u H) → rd v w H Q) :
    PS X (.AugAssign (.Name x py) op a pos) (tS L W fun env g => match env[i]? with
      | some (.val x) => (fa env g).st env fun d g => match augS o x d with
        | some z => .nx (env.set i (.val z)) g
        | none => .no
      | _ => .no) := PS.imp (ps_aug hN hi hx.1 ha hp hx.2) fun D σ H h => by
  obtain ⟨B, F, ρ, oa, env, g, S, h⟩ := h
  dsimp only at h
  cases q : env[i]? with
  | none => rw [q] at h; exact h.elim
  | some s =>
    cases s with
    | emp => rw [q] at h; exact h.elim
    | own m => rw [q] at h; exact h.elim
    | val x =>
      obtain ⟨v, e1, e2⟩ := S.sl i _ q
      refine ⟨v, e1, ?_⟩
      rw [q] at h
      dsimp only at h
      refine PostS.bind (k := fun d g => match augS o x d with
        | some z => .nx (env.set i (.val z)) g
        | none => .no) S h fun d g1 w F1 ρ1 H1 x1 S1 r1 h1 => ?_
      cases qz : augS o x d with
      | none => rw [qz] at h1; exact h1.elim
      | some z =>
        rw [qz] at h1
        exact hrd x d z v w H1 _ F1 ρ1 qz (Rep.up x1 _ _ e2) r1 fun u ru => h1 _ F1 ρ1 oa H1 (Ex.refl _ _) (S1.setv ru i)
def rAdd : TIp := fun v w H Q => (∃ i j, v = .int i ∧ w = .int j ∧ Q (.int (i + j)) H) ∨ ∃ i j, v = .str i ∧ w = .str j ∧ i.length + j.length ≤ sizeLine ∧ Q (.str (i ++ j)) H
theorem pip_add : PIp X .Add rAdd := fun pins s σ H x y v u Q I r1 r2 h => by
  rcases h with ⟨i, j, rfl, rfl, q⟩ | h
  · exact iop_add pins s σ H _ _ v u Q I r1 r2 ⟨i, j, rfl, rfl, q⟩
  · exact iop_add_str pins s σ H _ _ v u Q I r1 r2 h
theorem rd_add {d e z : D} {v w : V} {H : Hp} {Q : VK} {F : Hp} {ρ : List Addr} (h : augS .add d e = some z) (rv : Rep L F ρ d v) (rw' : Rep L F ρ e w) (q : ∀ u, Rep L F ρ z u → Q u H) : rAdd v w H Q := by
  unfold augS at h
  split at h
  · cases h
    unfold Rep at rv rw'
    exact .inl ⟨_, _, rv, rw', q _ (by unfold Rep; rfl)⟩
  · split at h <;> cases h
    rename_i hz
    unfold Rep at rv rw'
    refine .inr ⟨_, _, rv, rw', ?_, q _ (by unfold Rep; exact congrArg V.str (str_app _ _))⟩
    rw [str_len, str_len, ← SZ_eq]; exact hz
  · rename_i hh; cases hh
  · cases h
theorem rd_sub {d e z : D} {v w : V} {H : Hp} {Q : VK} {F : Hp} {ρ : List Addr} (h : augS .sub d e = some z) (rv : Rep L F ρ d v) (rw' : Rep L F ρ e w) (q : ∀ u, Rep L F ρ z u → Q u H) : ipI (fun i j => i - j) v w H Q := by
  unfold augS at h
  split at h
  · rename_i hh; cases hh
  · rename_i hh; cases hh
  · cases h
    unfold Rep at rv rw'
    exact ⟨_, _, rv, rw', q _ (by unfold Rep; rfl)⟩
  · cases h

theorem len2 {α : Type} {l : List α} (h : l.length = 2) : ∃ x y, l = [x, y] := by
  match l, h with
  | [x, y], _ => exact ⟨x, y, rfl⟩
theorem len3 {α : Type} {l : List α} (h : l.length = 3) : ∃ x y z, l = [x, y, z] := by
  match l, h with
  | [x, y, z], _ => exact ⟨x, y, z, rfl⟩

/-! targets -/
/-- these are local names at these places -/
def NamesAt (X : Cx) : List Expr → List Nat → Prop
  | [], [] => True
  | .Name x _ :: es, i :: is => (X.N[i]? = some x ∧ LcF X x) ∧ NamesAt X es is
  | _, _ => False
theorem NamesAt.length : ∀ {es : List Expr} {is : List Nat}, NamesAt X es is → es.length = is.length
  | [], [], _ => rfl
  | [], _ :: _, h => h.elim
  | e :: es, is, h => by
    cases is with
    | nil => cases e <;> exact h.elim
    | cons i is =>
      cases e <;> first | exact h.elim | skip
      rw [List.length_cons, List.length_cons, NamesAt.length h.2]
theorem assign_len : ∀ {es : List Expr} {is : List Nat}, NamesAt X es is → (assignEach es X.env).length = is.length ∧ (assignEach es X.env).findIdx? (·.1) = none
  | [], [], _ => ⟨rfl, rfl⟩
  | [], _ :: _, h => h.elim
  | e :: es, is, h => by
    cases is with
    | nil => cases e <;> exact h.elim
    | cons i is =>
      cases e <;> first | exact h.elim | skip
      obtain ⟨h1, h2⟩ := assign_len h.2
      unfold assignEach
      refine ⟨by rw [List.length_cons, List.length_cons, h1], ?_⟩
      rw [List.findIdx?_cons]
      simp [h2]
theorem pgs_names (hN : X.N.Nodup) : ∀ {es : List Expr} {is : List Nat}, NamesAt X es is → PGs X es (gNames is)
  | [], [], _ => pgs_nil
  | [], _ :: _, h => h.elim
  | e :: es, is, h => by
    cases is with
    | nil => cases e <;> exact h.elim
    | cons i is =>
      cases e <;> first | exact h.elim | skip
      exact pgs_cons (pg_name hN h.1.1 h.1.2.1 h.1.2.2) (pgs_names hN h.2) rfl
/-- a target of names: one, or a tuple of them -/
def TgAt (X : Cx) : Expr → List Nat → Prop
  | .Name x _, [i] => X.N[i]? = some x ∧ LcF X x
  | .Tuple es _ _, is => NamesAt X es is ∧ 2 ≤ is.length
  | _, _ => False
def tgR (L : Lk) : List Nat → TG
  | [i] => gName i
  | is => gTup L.K is.length (gNames is)
theorem tgR_ok {is : List Nat} (h : TgAt X tg is) : TgOk L (tgR L is) is := by
  rcases is with _ | ⟨i, _ | ⟨j, r⟩⟩
  · cases tg <;> first | exact h.elim | exact absurd h.2 (by simp)
  · exact tg_name i
  · exact tg_tup (by simp)
theorem pg_tg (hK : X.K = L.K) (hc : X.calm = true) (hN : X.N.Nodup) {is : List Nat} (h : TgAt X tg is) : PG X tg (tgR L is) := by
  rcases is with _ | ⟨i, _ | ⟨j, r⟩⟩
  · cases tg <;> first | exact h.elim | exact absurd h.2 (by simp)
  · cases tg <;> first | exact h.elim | skip
    · exact pg_name hN h.1 h.2.1 h.2.2
    · exact absurd h.2 (Nat.not_le.mpr (Nat.lt_succ_self 1))
  · cases tg <;> first | exact h.elim | skip
    obtain ⟨h1, h2⟩ := assign_len h.1
    have := pg_tup (pos := ‹Pos›) (k := ‹Nat›) hc (pgs_names hN h.1) h1 h2
    rw [hK] at this
    exact this
theorem PG.or {t t' : TG} (h1 : PG X tg t) (h2 : PG X tg t') : PG X tg fun v σ H Q => t v σ H Q ∨ t' v σ H Q :=
  ⟨fun pins s σ H v u Q I r h => h.elim (h1.run pins s σ H v u Q I r) (h2.run pins s σ H v u Q I r)⟩
/-- a, b, .. = a tuple or a list -/
theorem ss_unp {es : List Expr} {k : Nat} {is : List Nat} (hK : X.K = L.K) (hc : X.calm = true) (hN : X.N.Nodup) (h : NamesAt X es is) (ha : PE X a (tO L W fa))
    (hs : swapsWithSole [.Tuple es k py] a pos.line X.env = pure false) (hw : swappedStores [.Tuple es k py] a X.env = pure none) :
    PS X (.Assign [.Tuple es k py] a pos) (tS L W fun env g => (fa env g).st env fun d g => match view env g d with
      | .tup ds => if is.length = ds.length then .nx (setAll is ds env) g else .no
      | .lst ds => if is.length = ds.length then .nx (setAll is ds env) g else .no
      | _ => .no) := by
  obtain ⟨n1, n2⟩ := assign_len h
  refine PS.imp (ps_asg ha (Low.PG.or (pg_tup (pos := py) (k := k) hc (pgs_names hN h) n1 n2) (pg_lst (pos := py) (k := k) hc (pgs_names hN h) n1 n2)) hs hw rfl) fun D σ H h => ?_
  obtain ⟨B, F, ρ, oa, env, g, S, h⟩ := h
  refine PostS.bind S h fun d g1 v F1 ρ1 H1 x1 S1 r1 h1 => ?_
  have rr := view_ok S1 r1
  have fin : ∀ {ds : List Low.D} {vs : List V}, Reps L F1 ρ1 ds vs → PostS L B W F1 ρ1 (if is.length = ds.length then .nx (setAll is ds env) g1 else .no) D → vs.length = is.length ∧ gNames is vs σ H1 D.nx := fun {ds vs} r h2 => by
    split at h2
    · rename_i hl
      obtain ⟨σ', s1, s2, s3⟩ := S1.sets is r hl
      refine ⟨by rw [← r.length]; exact hl.symm, gNames_ok (by rw [← r.length]; exact hl) ?_⟩
      rw [← s3]
      exact h2 _ F1 ρ1 oa H1 (Ex.refl _ _) s1
    · exact h2.elim
  generalize view env g1 d = dv at h1 rr
  cases dv <;> first | exact h1.elim | skip
  · obtain ⟨p, vs, rfl, k1, k2, _⟩ := rr.tup S1.sg.fr
    obtain ⟨q1, q2⟩ := fin k2 h1
    rw [hK]
    exact .inl ⟨p, vs, rfl, k1, q1, q2⟩
  · obtain ⟨p, vs, rfl, k1, k2⟩ := rr.lst S1.sg.fr
    obtain ⟨q1, q2⟩ := fin k2 h1
    rw [hK]
    exact .inr ⟨p, vs, rfl, k1, q1, q2⟩
theorem ss_par2 {i j : Nat} {x y : Str} {px p2 pt : Pos} {kt k2 pt2} (hc : X.calm = true) (hN : X.N.Nodup) (hi : X.N[i]? = some x) (hj : X.N[j]? = some y) (hij : i ≠ j)
    (hx : X.env.scope.names.lookup x = some .local) (hy : X.env.scope.names.lookup y = some .local) (ha : PA X [a, b] (tDs L W fs))
    (hw : swappedStores [.Tuple [.Name x px, .Name y p2] kt pt] (.Tuple [a, b] k2 pt2) X.env = pure (some [x, y])) :
    PS X (.Assign [.Tuple [.Name x px, .Name y p2] kt pt] (.Tuple [a, b] k2 pt2) pos) (tS L W fun env g => (fs env g).st env fun ds g => if [i, j].length = ds.length then .nx (setAll [i, j] ds env) g else .no) :=
  PS.imp (ps_par hc hN hi hj hij hx hy ha hw rfl) fun D σ H h => by
  obtain ⟨B, F, ρ, oa, env, g, S, h⟩ := h
  refine PostS.bind S h fun ds g1 vs F1 ρ1 H1 x1 S1 r1 h1 => ?_
  split at h1
  · rename_i hl
    obtain ⟨σ', s1, s2, s3⟩ := S1.sets [i, j] r1 hl
    have hv : vs.length = 2 := by rw [← r1.length]; exact hl.symm
    obtain ⟨v, w, rfl⟩ := len2 hv
    refine ⟨v, w, rfl, ?_⟩
    have := h1 _ F1 ρ1 oa H1 (Ex.refl _ _) s1
    rw [s3] at this
    exact this
  · exact h1.elim
theorem ss_par3 {i j l : Nat} {x y z : Str} {px p2 pz pt : Pos} {kt k2 pt2} (hc : X.calm = true) (hN : X.N.Nodup) (hi : X.N[i]? = some x) (hj : X.N[j]? = some y) (hl : X.N[l]? = some z) (hij : i ≠ j) (hil : i ≠ l) (hjl : j ≠ l)
    (hx : X.env.scope.names.lookup x = some .local) (hy : X.env.scope.names.lookup y = some .local) (hz : X.env.scope.names.lookup z = some .local) (ha : PA X [a, b, c] (tDs L W fs))
    (hw : swappedStores [.Tuple [.Name x px, .Name y p2, .Name z pz] kt pt] (.Tuple [a, b, c] k2 pt2) X.env = pure (some [x, y, z])) :
    PS X (.Assign [.Tuple [.Name x px, .Name y p2, .Name z pz] kt pt] (.Tuple [a, b, c] k2 pt2) pos) (tS L W fun env g => (fs env g).st env fun ds g => if [i, j, l].length = ds.length then .nx (setAll [i, j, l] ds env) g else .no) :=
  PS.imp (ps_par3 hc hN hi hj hl hij hil hjl hx hy hz ha hw rfl) fun D σ H h => by
  obtain ⟨B, F, ρ, oa, env, g, S, h⟩ := h
  refine PostS.bind S h fun ds g1 vs F1 ρ1 H1 x1 S1 r1 h1 => ?_
  split at h1
  · rename_i hl
    obtain ⟨σ', s1, s2, s3⟩ := S1.sets [i, j, l] r1 hl
    have hv : vs.length = 3 := by rw [← r1.length]; exact hl.symm
    obtain ⟨v, w, u, rfl⟩ := len3 hv
    refine ⟨v, w, u, rfl, ?_⟩
    have := h1 _ F1 ρ1 oa H1 (Ex.refl _ _) s1
    rw [s3] at this
    exact this
  · exact h1.elim
/-- name = [.. for ..] -/
theorem ss_asgC {i : Nat} {x : Str} {ifs : List Expr} {cpos : Pos} {scope : Scope} {own : List (Str × Nat)} {vs : List Nat} {t : TG} {fe : Env → G → Er D} {tcc : Env → G → Er Bool}
    (hi : X.N[i]? = some x) (hx : X.env.scope.names.lookup x = some .local) (hsw : swapsWith (.ListComp a [⟨tg, iter, ifs, 0⟩] scope cpos) (some (.Name x py)) pos.line X.env = pure true)
    (hc : X.calm = true) (hN : X.N.Nodup) (hit : PI X tg iter (tI L W fsi)) (ok : BlkOk X.N X.env.scope scope own) (htg : TgOk L t vs) (hvw : ∀ i ∈ vs, i ∈ own.map (·.2))
    (hg : ∀ (s : Shared) (H : Hp) (C : Addr) (cl : List (Str × Addr)) (fp : List Addr), PG (X.blk s H scope (compEnvC scope cl C X.env) fp) tg t)
    (ht : ∀ (s : Shared) (H : Hp) (C : Addr) (cl : List (Str × Addr)) (fp : List Addr), PTs (X.blk s H scope (compEnvC scope cl C X.env) fp) ifs (tT L W0 tcc))
    (he : ∀ (s : Shared) (H : Hp) (C : Addr) (cl : List (Str × Addr)) (fp : List Addr), PE (X.blk s H scope (compEnvC scope cl C X.env) fp) a (tD L W0 fe)) (hs : ∀ x, foldedSetIterable iter X.env x = pure x) :
    PS X (.Assign [.Name x py] (.ListComp a [⟨tg, iter, ifs, 0⟩] scope cpos) pos) (tS L W fun env g => ((fsi env g).bind fun l g => compL (fun x => tgt vs x (wipeE env (own.map (·.2)))) tcc fe l [] g).st env fun d g => .nx (env.set i (.val d)) g) :=
  PS.imp (ps_setLc hc hN hi hx hsw hit ok hg ht he hs) fun D σ H h => by
  obtain ⟨B, F, ρ, oa, env, g, S, h⟩ := h
  refine lc_read htg hvw (W := W) ?_
  exact PostS.bind (f := fun env g => (fsi env g).bind fun l g => compL (fun x => tgt vs x (wipeE env (own.map (·.2)))) tcc fe l [] g) S h fun d g1 v F1 ρ1 H1 x1 S1 r1 h1 => h1 _ F1 ρ1 oa H1 (Ex.refl _ _) (S1.setv r1 i)

/-! loops -/
theorem ss_for {is : List Nat} {t : TG} {bd : List Stmt} (hp : PassesOwn (model X.prog X.w) X.A X.env X.xe) (hc : X.calm = true) (hi : PI X tg iter (tI L W fsi)) (htg : TgOk L t is) (hg : PG X tg t) (hb : PSs X bd (tS L W fbd)) (hs : ∀ x, foldedSetIterable iter X.env x = pure x) :
    PS X (.For tg iter bd [] pos) (tS L W fun env g => (fsi env g).st env fun l g => forL (fun x env => tgt is x env) fbd l env g) := PS.imp (ps_for hp hc hi hg hb hs) fun D σ H h => by
  obtain ⟨B, F, ρ, oa, env, g, S, h⟩ := h
  refine PostS.bind (rel := fun _ _ F ρ l J => ItD L F ρ l J) S h fun l g1 J F1 ρ1 H1 x1 S1 it h1 => ?_
  refine ⟨fun i m σ H => i ≤ l.length ∧ m = l.length - i ∧ ∃ F ρ oa env g, Ex F1 ρ1 F ρ ∧ Sm L B F ρ oa env σ g H ∧ PostS L B W F ρ (forL (fun x env => tgt is x env) fbd (l.drop i) env g) D,
    ⟨l.length, Nat.zero_le _, by omega, F1, ρ1, oa, env, g1, Ex.refl _ _, S1, h1⟩, ?_⟩
  rintro i m σ H ⟨hi, rfl, F, ρ, oa, env, g, x, S, hp⟩
  by_cases hlt : ¬ i < l.length
  · have e : i = l.length := by omega
    subst e
    rw [List.drop_length, forL] at hp
    exact .inl ⟨(it F ρ H _ x S.sg.fr).1 (Nat.le_refl _), hp σ F ρ oa H (Ex.refl _ _) S⟩
  · replace hlt : i < l.length := by omega
    have hd : l[i]? = some l[i] := by simp [hlt]
    obtain ⟨go, yl⟩ := (it F ρ H i x S.sg.fr).2 _ hd
    refine .inr ⟨go, fun σ H => i + 1 ≤ l.length ∧ ∃ F ρ oa env g, Ex F1 ρ1 F ρ ∧ Sm L B F ρ oa env σ g H ∧ PostS L B W F ρ (forL (fun x env => tgt is x env) fbd (l.drop (i + 1)) env g) D, fun σ' H' hn => ⟨l.length - (i + 1), by omega, hn.1, rfl, hn.2⟩, fun y H' hy => ?_⟩
    obtain ⟨F', x', S', ry⟩ : ∃ F', Ex F ρ F' ρ ∧ Sm L B F' ρ oa env σ g H' ∧ Rep L F' ρ l[i] y := by
      rcases yl y H' hy with ⟨rfl, r⟩ | ⟨p, o, hp', rfl, r⟩
      · exact ⟨F, Ex.refl _ _, S, r⟩
      · exact ⟨_, S.ex_alloc hp', S.alloc hp', r⟩
    rw [List.drop_eq_getElem_cons hlt, forL] at hp
    cases et : tgt is l[i] env with
    | none => rw [et] at hp; exact hp.elim
    | some env2 =>
      rw [et] at hp
      dsimp only at hp
      refine htg B F' ρ oa env σ g H' _ y env2 _ S' ry et fun σ2 S2 _ => ?_
      refine ⟨B, F', ρ, oa, env2, g, S2, ?_⟩
      cases eb : fbd env2 g with
      | nx env3 g3 =>
        rw [eb] at hp
        exact fun σ3 F3 ρ3 oa3 H3 x3 S3 => ⟨by omega, F3, ρ3, oa3, env3, g3, (x.trans x').trans x3, S3, PostS.shift (x'.trans x3) hp⟩
      | ct env3 g3 =>
        rw [eb] at hp
        exact fun σ3 F3 ρ3 oa3 H3 x3 S3 => ⟨by omega, F3, ρ3, oa3, env3, g3, (x.trans x').trans x3, S3, PostS.shift (x'.trans x3) hp⟩
      | bk env3 g3 =>
        rw [eb] at hp
        exact fun σ3 F3 ρ3 oa3 H3 x3 S3 => hp σ3 F3 ρ3 oa3 H3 (x'.trans x3) S3
      | rt d env3 g3 =>
        rw [eb] at hp
        exact fun v σ3 F3 ρ3 oa3 H3 x3 S3 r3 => hp v σ3 F3 ρ3 oa3 H3 (x'.trans x3) S3 r3
      | ex c fs env3 g3 =>
        rw [eb] at hp
        exact fun cls dx σ3 F3 ρ3 oa3 H3 x3 S3 r3 => hp cls dx σ3 F3 ρ3 oa3 H3 (x'.trans x3) S3 r3
      | no => rw [eb] at hp; exact hp.elim
theorem ss_whl {fcv : Env → G → Er D} {bd : List Stmt} (n : Nat) (hp : PassesOwn (model X.prog X.w) X.A X.env X.xe) (hc : PT X c (tT L W fun env g => (fcv env g).bo)) (hb : PSs X bd (tS L W fbd)) :
    PS X (.While c bd [] pos) (tS L W fun env g => whlL fcv fbd n env g) := PS.imp (ps_while hp hc hb) fun D σ H h => by
  obtain ⟨B, F0, ρ0, oa, env, g, S, h⟩ := h
  refine ⟨fun m σ H => ∃ F ρ oa env g, Ex F0 ρ0 F ρ ∧ Sm L B F ρ oa env σ g H ∧ PostS L B W F ρ (whlL fcv fbd m env g) D, ⟨n, F0, ρ0, oa, env, g, Ex.refl _ _, S, h⟩, ?_⟩
  rintro m σ H ⟨F, ρ, oa, env, g, x, S, hp⟩
  cases m with
  | zero => exact hp.elim
  | succ m =>
    rw [whlL] at hp
    refine PostS.bind S hp fun b g1 b' F1 ρ1 H1 x1 S1 e h1 => ?_
    obtain rfl : b = b' := e
    cases b with
    | false =>
      rw [if_neg Bool.false_ne_true] at h1 ⊢
      exact h1 σ F1 ρ1 oa H1 (Ex.refl _ _) S1
    | true =>
      rw [if_pos rfl] at h1 ⊢
      refine ⟨fun σ H => ∃ F ρ oa env g, Ex F0 ρ0 F ρ ∧ Sm L B F ρ oa env σ g H ∧ PostS L B W F ρ (whlL fcv fbd m env g) D, fun σ' H' hn => ⟨m, by omega, hn⟩, ?_⟩
      refine ⟨B, F1, ρ1, oa, env, g1, S1, ?_⟩
      cases eb : fbd env g1 with
      | nx env3 g3 =>
        rw [eb] at h1
        exact fun σ3 F3 ρ3 oa3 H3 x3 S3 => ⟨F3, ρ3, oa3, env3, g3, (x.trans x1).trans x3, S3, PostS.shift x3 h1⟩
      | ct env3 g3 =>
        rw [eb] at h1
        exact fun σ3 F3 ρ3 oa3 H3 x3 S3 => ⟨F3, ρ3, oa3, env3, g3, (x.trans x1).trans x3, S3, PostS.shift x3 h1⟩
      | bk env3 g3 =>
        rw [eb] at h1
        exact fun σ3 F3 ρ3 oa3 H3 x3 S3 => h1 σ3 F3 ρ3 oa3 H3 x3 S3
      | rt d env3 g3 =>
        rw [eb] at h1
        exact fun v σ3 F3 ρ3 oa3 H3 x3 S3 r3 => h1 v σ3 F3 ρ3 oa3 H3 x3 S3 r3
      | ex c fs env3 g3 =>
        rw [eb] at h1
        exact fun cls dx σ3 F3 ρ3 oa3 H3 x3 S3 r3 => h1 cls dx σ3 F3 ρ3 oa3 H3 x3 S3 r3
      | no => rw [eb] at h1; exact h1.elim
end
end Low

/-! Low, part 10: what the text's form gives; isinstance; methods of built-in values. -/
namespace Low
open PySem L2

/-! ### the text's form -/
def unStar : Expr → Bool
  | .Starred .. => false
  | _ => true
theorem star_cons {e : Expr} {es : List Expr} {env : PySem.Env} (h : unStar e = true) : starEach (e :: es) env = (false, eval e env) :: starEach es env := by
  cases e <;> first | rfl | cases h
theorem star_none {env : PySem.Env} : ∀ {es : List Expr}, es.all unStar = true → (starEach es env).any (·.1) = false
  | [], _ => rfl
  | e :: es, h => by
    rw [List.all_cons, Bool.and_eq_true] at h
    rw [star_cons h.1, List.any_cons, star_none h.2]
    rfl
theorem star_back {env : PySem.Env} {pos : Pos} {es : List Expr} (h : es.all unStar = true) : (backTo pos (starEach es env)).any (·.1) = false := by
  unfold backTo
  rw [List.any_map]
  exact star_none h
theorem star_few {env : PySem.Env} {pos : Pos} {es : List Expr} (h : es.all unStar = true) (hl : es.length < 30) : ((backTo pos (starEach es env)).all (fun x => !x.1) && (backToKw pos (keywordEach [] env)).all (fun x => x.1.isSome)
      && decide (es.length + ([] : List Keyword).length + (if ([] : List Keyword).isEmpty then 0 else 1) < 30)) = true := by
  have h1 : (backTo pos (starEach es env)).all (fun x => !x.1) = true := by
    have h0 := star_back (env := env) (pos := pos) h
    rw [List.all_eq_true]
    intro x hx
    rw [List.any_eq_false] at h0
    have h2 := h0 x hx
    simpa using h2
  rw [h1]
  show decide (es.length + 0 + 0 < 30) = true
  exact decide_eq_true hl
def unSuper : Expr → Bool
  | .Call (.Name _ _) [] [] _ => false
  | _ => true
theorem base_of {o : Expr} {at' : Str} {env : PySem.Env} (h : unSuper o = true) (whole : Sem Value) : attributeBase o at' env whole = whole := by
  unfold attributeBase
  split
  · cases h
  · rfl
def unSlice : Expr → Bool
  | .Slice .. => false
  | _ => true
theorem plain_of {b : Expr} (h : unSlice b = true) : PlainIx b := by
  intro o i
  cases b <;> first | rfl | cases h
/-- a test that is the value's truth -/
def plainT : Expr → Bool
  | .UnaryOp .Not _ _ => false
  | .BoolOp .. => false
  | .IfExp .. => false
  | .Compare .. => false
  | _ => true
theorem plainT_of {a : Expr} {env : PySem.Env} (h : plainT a = true) (whole : Sem Value) : isTrue a env whole = (do let v ← whole; standAt a.pos; holding [v] (truthy v)) := by
  cases a <;> first | rfl | (cases h; done) | skip
  rename_i op x p
  cases op <;> first | rfl | (cases h; done)
def unSet : Expr → Bool
  | .Set .. => false
  | _ => true
theorem mark_of {op : CmpOp} {b : Expr} (h : unSet b = true) : behindInMarks op b = false := by
  cases b <;> first | rfl | cases h
theorem fold_of {e : Expr} {env : PySem.Env} (h : unSet e = true) (x : Value) : foldedSetIterable e env x = pure x := by
  cases e <;> first | rfl | cases h
def isCompr : Expr → Bool
  | .ListComp .. => true | .SetComp .. => true | .DictComp .. => true
  | _ => false
theorem swaps_no {e : Expr} {t : Option Expr} {l : Nat} {env : PySem.Env} (h : isCompr e = false) : swapsWith e t l env = pure false := by
  unfold swapsWith
  cases e <;> first | rfl | (cases h; done)
theorem swapsSole_no {e t : Expr} {l : Nat} {env : PySem.Env} (h : isCompr e = false) : swapsWithSole [t] e l env = pure false := swaps_no h

/-! ### isinstance, built-in classes -/
def tyN : Ty → Option String
  | .int => some "int" | .bool => some "bool" | .str => some "str" | .tup => some "tuple" | .lst => some "list" | .dict => some "dict"
  | _ => none
def dTy : D → Option String
  | .non => some "NoneType" | .bl _ => some "bool" | .int _ => some "int" | .str _ => some "str" | .tup _ => some "tuple" | .lst _ => some "list"
  | _ => none
theorem kit_tab : ∀ m ∈ ["NoneType", "bool", "int", "str", "tuple", "list"], ∀ n ∈ ["int", "bool", "str", "tuple", "list", "dict"], kitB m n = some (m == n || (m == "bool" && n == "int")) := by decide +kernel
theorem tyD_kit {T : Tab} {d : D} {t : Ty} {m n : String} {b : Bool} (h : tyD T d t = some b) (hm : dTy d = some m) (hn : tyN t = some n) : kitB m n = some b := by
  cases d <;> cases t <;> first | (cases hm; done) | (cases hn; done) | (cases hm; cases hn; simp only [tyD, Option.some.injEq] at h; subst h; exact kit_tab _ (by decide) _ (by decide))
section
variable {X : Cx} {L : Lk} {W : WX} {a b c : Expr} {pos : Pos} {fa fb fc : Env → G → Er D} {fs : Env → G → Er (List D)}
theorem tyx_of {F : Hp} {ρ : List Addr} {H : Hp} {d : D} {v : V} {m : String} (hF : ∀ a o, F a = some o → H a = some o) (r : Rep L F ρ d v) (hm : dTy d = some m) : TyX L.K H v (.type m) := by
  cases d <;> first | (cases hm; done) | (cases hm; unfold Rep at r)
  · subst r; exact .base .non
  · subst r; exact .base (.bl _)
  · subst r; exact .base (.int _)
  · subst r; exact .base (.str _)
  · obtain ⟨p, vs, rfl, k, _⟩ := r
    rcases k with (k | ⟨o, k⟩) | ⟨o, its, n, k, hc, _⟩
    · exact .base (.tup (hF _ _ k))
    · exact .fTuple (hF _ _ k)
    · exact .kTuple k hc
  · obtain ⟨p, vs, rfl, k, _⟩ := r
    rcases k with (k | ⟨o, k⟩) | ⟨o, its, n, k, hc, _⟩
    · exact .base (.lst (hF _ _ k))
    · exact .base (.frz (hF _ _ k))
    · exact .kList k hc
/-- isinstance(e, T), T built-in: also of an instance, where its class is known -/
def InsT (L : Lk) (H : Hp) (d : D) (v : V) (n : String) : Prop := ∀ c fs, d = .ins c fs → ∃ t, TyX L.K H v t ∧ PySem.W.kitOne L.K t (.type n) = some false
theorem so_isi {t : Ty} {n : String} {x : Str} {p p2 : Pos} (hK : X.K = L.K) (hg : Gl X "isinstance") (hm : X.mg "isinstance" = none) (hgx : Gl X x) (hmx : X.mg x = none) (hbx : bootBuiltins x = some (.type n)) (hx1 : x ≠ "__name__") (hx2 : (x == ("__debug__" : Str)) = false)
    (hn : tyN t = some n) (ha : PE X a (tD L W fa)) (hsa : unStar a = true)
    (hi : ∀ c fs b F (ρ : List Addr) H v, tyD L.T (.ins c fs) t = some b → (∀ a o, F a = some o → H a = some o) → Rep L F ρ (.ins c fs) v → b = false ∧ ∃ t, TyX L.K H v t ∧ PySem.W.kitOne L.K t (.type n) = some false) :
    PE X (.Call (.Name "isinstance" p) [a, .Name x p2] [] pos) (tD L W fun env g => (fa env g).bind fun d g => ofO g ((anyTy L.T d [t]).map .bl)) := by
  refine PE.imp (pe_callB call_isi hg hm PyProof.Rows.boot_isinstance (pa_cons ha (pa_cons (pe_bltn hgx hmx hbx (v := .ty n) rfl hx1 hx2) pa_nil rfl) (star_cons hsa)) (by decide) (by decide) (star_cons hsa) rfl) fun σ H Q h => ?_
  obtain ⟨B, F, ρ, oa, env, g, S, h⟩ := h
  refine PostE.bind S h fun d g1 v F1 ρ1 H1 x1 S1 r1 h1 => ?_
  cases q : anyTy L.T d [t] with
  | none => rw [q] at h1; exact h1.elim
  | some b =>
    rw [q] at h1
    show rIsi X.K _ _ _
    have qd : tyD L.T d t = some b := by
      simp only [anyTy] at q
      cases qq : tyD L.T d t with
      | none => rw [qq] at q; cases q
      | some b' => rw [qq] at q; simpa using q
    have hv : ∃ tv, TyX L.K H1 v tv ∧ PySem.W.kitOne L.K tv (.type n) = some b := by
      cases hd : dTy d with
      | some m => exact ⟨_, tyx_of S1.sg.fr r1 hd, kit_ty (tyD_kit qd hd hn)⟩
      | none =>
        cases d with
        | ins c fs =>
          obtain ⟨rfl, t', k1, k2⟩ := hi _ _ _ _ _ _ _ qd S1.sg.fr r1
          exact ⟨t', k1, k2⟩
        | exc c fs => exfalso; cases t <;> first | (cases hn; done) | (simp only [tyD, reduceCtorEq] at qd; done)
        | dic kvs => exfalso; cases t <;> first | (cases hn; done) | (simp only [tyD, reduceCtorEq] at qd; done)
        | adr n => exfalso; cases t <;> first | (cases hn; done) | (simp only [tyD, reduceCtorEq] at qd; done)
        | slot n => exfalso; cases t <;> first | (cases hn; done) | (simp only [tyD, reduceCtorEq] at qd; done)
        | fn n => exfalso; cases t <;> first | (cases hn; done) | (simp only [tyD, reduceCtorEq] at qd; done)
        | _ => exact nomatch hd
    obtain ⟨tv, k1, k2⟩ := hv
    rw [hK]
    exact ⟨v, .ty n, tv, .type n, b, rfl, .ty n, k1, k2, (cont_of S1 h1).bl⟩

/-! ### methods of built-in values -/
theorem so_bits {T : Tab} {R : Runner} {apos : Pos} (ha : PE X a (tO L W fa)) (hb : unSuper a = true) (hl : (apos.endLine == pos.line) = true) :
    PE X (.Call (.Attribute a "bit_length" apos) [] [] pos) (tD L W fun env g => (fa env g).bind fun x g => if bmK .bitlen (view env g x) then (Er.ok ([] : List D) g).bind fun ds g => ofO g (opS .bitlen (view env g x :: ds.map (view env g))) else .no) := by
  refine PE.imp (pe_bits ha (base_of hb _) hl) fun σ H Q h => ?_
  obtain ⟨B, F, ρ, oa, env, g, S, h⟩ := h
  refine PostE.bind S h fun d g1 v F1 ρ1 H1 x1 S1 r1 h1 => ?_
  have rr := view_ok S1 r1
  split at h1
  · rename_i hk
    rw [Er.bind_ok] at h1
    generalize view env g1 d = dv at h1 rr hk
    cases dv <;> first | (cases hk; done) | skip
    obtain rfl := rr.int
    exact ⟨_, rfl, (cont_of (d := .int _) S1 h1) |>.int⟩
  · exact h1.elim
theorem so_zf {apos : Pos} {es : List Expr} (hK : X.K = L.K) (ha : PE X a (tO L W fa)) (hb : unSuper a = true) (hl : (apos.endLine == pos.line) = true) (hs : PA X (b :: es) (tOs L W fs)) (hst : (b :: es).all unStar = true) (hlen : (b :: es).length < 30) :
    PE X (.Call (.Attribute a "zfill" apos) (b :: es) [] pos) (tD L W fun env g => (fa env g).bind fun x g => if bmK .zfill (view env g x) then (fs env g).bind fun ds g => ofO g (opS .zfill (view env g x :: ds.map (view env g))) else .no) := by
  have hst' := hst
  rw [List.all_cons, Bool.and_eq_true] at hst'
  refine PE.imp (pe_bm F.plainAttrs_str F.slot_str_zfill F.type_str_zfill (mt_zf (L := L)) ha hs (base_of hb _) (star_few hst hlen) hl (star_cons hst'.1) (star_back hst'.2)) fun σ H Q h => ?_
  obtain ⟨B, F, ρ, oa, env, g, S, h⟩ := h
  refine PostE.bind S h fun d g1 v F1 ρ1 H1 x1 S1 r1 h1 => ?_
  split at h1
  · rename_i hk
    have rr := view_ok S1 r1
    refine ⟨?_, ?_⟩
    · generalize view env g1 d = dv at hk rr
      cases dv <;> first | (cases hk; done) | skip
      obtain rfl := rr.str
      rfl
    · refine PostE.bind S1 h1 fun ds g2 vs F2 ρ2 H2 x2 S2 r2 h2 => ?_
      cases q : opS .zfill (view env g2 d :: ds.map (view env g2)) with
      | none => rw [q] at h2; exact h2.elim
      | some z =>
        rw [q] at h2
        refine ⟨F2, ρ2, _, z, S2.sg.fr, ?_, q, cont_of S2 h2⟩
        unfold RepHs
        exact ⟨v, vs, rfl, view_ok S2 (RepO.up x2 r1), RepOs.view S2 r2⟩
  · exact h1.elim
end
end Low

/-! Low, part 11: the check of a text against its code: expressions. -/
namespace Low
open PySem L2

/-- what a block's check knows -/
structure Kx where
  N : List Str
  sc : Scope
  own : List (Str × NameKind)
  fns : List (Str × Nat)
  blt : List Str
  glo : List (Str × Nat)

def dbg (x : Str) : Bool := x == ("__debug__" : Str)
def Kx.loc (C : Kx) (x : Str) (i : Nat) : Bool :=
  decide (C.N[i]? = some x) && (match C.sc.names.lookup x with | some .local => true | some .cell => true | some .free => true | _ => false) && !(dbg x) && !(x == ("__classdict__" : Str))
def Kx.gl (C : Kx) (x : Str) : Bool := match C.sc.names.lookup x with | some .globalImplicit => true | _ => false
def Kx.bl (C : Kx) (x : Str) : Bool := C.gl x && decide (x ∈ C.blt)
def Kx.asn (C : Kx) (x : Str) (i : Nat) : Bool :=
  decide (C.N[i]? = some x) && (match C.sc.names.lookup x with | some .local => true | some .cell => (match C.own.lookup x with | some .cell => true | _ => false) | _ => false)

def bopOf : Operator → Option Op
  | .Add => some .add | .Sub => some .sub | .Mult => some .mul | .FloorDiv => some .fdiv | .Mod => some .mod | .Pow => some .pow | .LShift => some .shl | .RShift => some .shr
  | _ => none
def copOf : CmpOp → Option Op
  | .Eq => some .eq | .NotEq => some .ne | .Lt => some .lt | .LtE => some .le | .Gt => some .gt | .GtE => some .ge | .In => some .isin | .NotIn => some .notin
  | _ => none
def bifOf : Op → Option String
  | .len => some "len" | .abs => some "abs" | .max2 => some "max" | .min2 => some "min" | .sum => some "sum" | .all => some "all" | .divm => some "divmod"
  | _ => none
def btyOf : Op → Option String
  | .int => some "int" | .str => some "str" | .tuple => some "tuple" | .list => some "list"
  | _ => none

def chkL (f : CE → Expr → Bool) : List CE → List Expr → Bool
  | [], [] => true
  | c :: cs, e :: es => f c e && chkL f cs es
  | _, _ => false
def chkCmp (f : CE → Expr → Bool) (c : CE) (a : Expr) (ops : List CmpOp) (bs : List Expr) : Bool :=
  match ops, bs with
  | [.Is], [.Constant .none _ _] => match c with
    | .op .isN [x] => f x a
    | _ => false
  | [.IsNot], [.Constant .none _ _] => match c with
    | .op .notN [x] => f x a
    | _ => false
  | [op], [b] => match c with
    | .op o [x, y] => decide (copOf op = some o) && f x a && f y b && unSet b
    | _ => false
  | [op, op'], [b, d] => match c with
    | .chn o p x y z => decide (copOf op = some o) && decide (copOf op' = some p) && f x a && f y b && f z d && unSet d
    | _ => false
  | _, _ => false
def chkP (f : CE → Expr → Bool) (c : List CE) (e : Option Expr) : Bool :=
  match e, c with
  | none, [] => true
  | some e, [c] => f c e
  | _, _ => false
def chkNames (C : Kx) : List Expr → List Nat → Bool
  | [], [] => true
  | .Name x _ :: es, i :: is => C.asn x i && chkNames C es is
  | _, _ => false
def chkTg (C : Kx) (tg : Expr) (is : List Nat) : Bool :=
  match tg with
  | .Name x _ => match is with
    | [i] => C.asn x i
    | _ => false
  | .Tuple es _ _ => chkNames C es is && decide (2 ≤ is.length)
  | _ => false
def isTup : Expr → Bool
  | .Tuple .. => true
  | _ => false
def chkI (f : CE → Expr → Bool) (C : Kx) (tg : Expr) (k : Sk) (src : List CE) (iter : Expr) : Bool :=
  match k with
  | .seq => match src with
    | [c] => f c iter
    | _ => false
  | .range1 => match iter with
    | .Call (.Name x _) [a] [] _ => x == ("range" : Str) && C.bl x && chkL f src [a] && unStar a
    | _ => false
  | .range2 => match iter with
    | .Call (.Name x _) [a, b] [] _ => x == ("range" : Str) && C.bl x && chkL f src [a, b] && unStar a && unStar b
    | _ => false
  | .enum => match iter with
    | .Call (.Name x _) [a] [] _ => x == ("enumerate" : Str) && C.bl x && chkL f src [a] && unStar a && isTup tg
    | _ => false
  | .rev => match iter with
    | .Call (.Name x _) [a] [] _ => x == ("reversed" : Str) && C.bl x && chkL f src [a] && unStar a
    | _ => false
  | .zip2 => match iter with
    | .Call (.Name x _) [a, b] [] _ => x == ("zip" : Str) && C.bl x && chkL f src [a, b] && unStar a && unStar b && isTup tg
    | _ => false
def ownOf (C : Kx) (ws : List Nat) : List (Str × Nat) := ws.map fun i => ((C.N[i]?).getD Str.empty, i)
def Kx.inner (C : Kx) (scope : Scope) : Kx := { C with sc := relS scope C.sc, own := scope.names }
def arity (T : Tab) (f n : Nat) : Bool := match T.fns[f]? with
  | some fn => decide (n ≤ fn.np ∧ fn.np ≤ n + fn.defs.length)
  | none => false

mutual
def chkE (T : Tab) : Nat → Kx → CE → Expr → Bool
  | 0, _, _, _ => false
  | n + 1, C, c, e => match e with
    | .BoolOp op es p => match es with
      | [x, y] => match op, c with
        | .And, .andd a b => chkE T n C a x && chkE T n C b y
        | .Or, .orr a b => chkE T n C a x && chkE T n C b y
        | _, _ => false
      | x :: y :: z :: r => match op, c with
        | .And, .andd a b => chkE T n C a x && chkE T n C b (.BoolOp .And (y :: z :: r) p)
        | .Or, .orr a b => chkE T n C a x && chkE T n C b (.BoolOp .Or (y :: z :: r) p)
        | _, _ => false
      | _ => false
    | .Name x _ => match c with
      | .var i => C.loc x i
      | .glb j => C.gl x && decide (C.glo.lookup x = some j) && !(dbg x)
      | _ => false
    | .Constant k _ _ => match c, k with
      | .cst (.int i), .int j => decide (i = j)
      | .cst (.str s), .str x => decide (s = x.cps.toList)
      | .cst (.bl b), .bool b' => decide (b = b')
      | .cst .non, .none => true
      | _, _ => false
    | .BinOp l op r _ => match c with
      | .op o [a, b] => decide (bopOf op = some o) && chkE T n C a l && chkE T n C b r
      | _ => false
    | .UnaryOp op x _ => match op, c with
      | .USub, .op .neg [a] => chkE T n C a x
      | .Not, .nott a => chkE T n C a x
      | _, _ => false
    | .Compare a ops bs _ => chkCmp (chkE T n C) c a ops bs
    | .IfExp t x y _ => match c with
      | .ife a b d => chkT T n C a t && chkE T n C b x && chkE T n C d y
      | _ => false
    | .Tuple es _ _ => match c with
      | .tup cs => chkL (chkE T n C) cs es && es.all unStar
      | _ => false
    | .List es _ => match c with
      | .lst cs => chkL (chkE T n C) cs es && es.all unStar
      | _ => false
    | .Subscript o i _ => match c with
      | .slc a b d => match i with
        | .Slice lo hi none _ => chkE T n C a o && chkP (chkE T n C) b lo && chkP (chkE T n C) d hi
        | _ => false
      | .op .idx [a, b] => chkE T n C a o && chkE T n C b i && unSlice i
      | _ => false
    | .Call fn args kws p => match fn, kws with
      | .Name x _, [] => match c with
        | .cal f cs => C.gl x && decide (C.fns.lookup x = some f) && arity T f cs.length && chkL (chkE T n C) cs args && args.all unStar && !(dbg x)
        | .op o cs => (match bifOf o, btyOf o with
          | some y, _ => x == (y : Str)
          | none, some y => x == (y : Str)
          | none, none => false) && C.bl x && !args.isEmpty && chkL (chkE T n C) cs args && args.all unStar
        | .isi a [t] => match args, tyN t with
          | [e, .Name y _], some m => x == ("isinstance" : Str) && C.bl x && y == (m : Str) && C.bl y && chkE T n C a e && unStar e
          | _, _ => false
        | _ => false
      | .Attribute o m ap, [] => match c with
        | .bm .bitlen r [] => m == ("bit_length" : Str) && args.isEmpty && chkE T n C r o && unSuper o && (ap.endLine == p.line)
        | .bm .zfill r cs => m == ("zfill" : Str) && !args.isEmpty && chkE T n C r o && unSuper o && (ap.endLine == p.line) && chkL (chkE T n C) cs args && args.all unStar && decide (args.length < 30)
        | _ => false
      | _, _ => false
    | .ListComp elt gs scope _ => match c, gs with
      | .comp ws vs k src cnd ce, [⟨tg, iter, ifs, 0⟩] =>
        blkC C.N C.sc scope (ownOf C ws) && chkI (chkE T n C) C tg k src iter && chkTg (C.inner scope) tg vs && vs.all (fun i => decide (i ∈ ws)) &&
          chkL (chkT T n (C.inner scope)) cnd ifs && decide (cnd.length ≤ 1) && chkE T n (C.inner scope) ce elt && unSet iter
      | _, _ => false
    | _ => false
def chkT (T : Tab) : Nat → Kx → CE → Expr → Bool
  | 0, _, _, _ => false
  | n + 1, C, c, e => match e with
    | .BoolOp op es p => match es with
      | [x, y] => match op, c with
        | .And, .andd a b => chkT T n C a x && chkT T n C b y
        | .Or, .orr a b => chkT T n C a x && chkT T n C b y
        | _, _ => false
      | x :: y :: z :: r => match op, c with
        | .And, .andd a b => chkT T n C a x && chkT T n C b (.BoolOp .And (y :: z :: r) p)
        | .Or, .orr a b => chkT T n C a x && chkT T n C b (.BoolOp .Or (y :: z :: r) p)
        | _, _ => false
      | _ => false
    | .UnaryOp op x _ => match op, c with
      | .Not, .nott a => chkT T n C a x
      | _, _ => false
    | .Compare a ops bs _ => chkCmp (chkE T n C) c a ops bs
    | .IfExp .. => false
    | e => match c with
      | .tt a => chkE T n C a e
      | c => chkE T n C c e
end

/-! ### what a block's place in the model gives -/
structure FnF (X : Cx) (L : Lk) (k : Nat) (R : Runner) (x : Str) (f : Nat) : Prop where
  ok : FnOk X.prog X.w X.K X.mg X.base (L2.CX X.prog X.w) k (L.fa f) (L.fd f) (L.ps f) (spF L R f)
  mg : X.mg x = some (.ref (L.fa f))
  kp : PySem.W.keepIn X.K (.ref (L.fa f)) = true
  fn : ∃ fn, L.T.fns[f]? = some fn ∧ fn.np = (L.ps f).length ∧ ∀ j, j ≤ fn.defs.length → ∃ (ds : List Value) (dvs : List V), Binds X.K (L.fd f) (L.ps f) ds ∧ Vals dvs ds ∧ ∀ F ρ, Reps L F ρ (fn.defs.drop j) dvs
structure Gd (X : Cx) (L : Lk) (C : Kx) (k : Nat) (R : Runner) (W : WX) : Prop where
  hK : X.K = L.K
  calm : X.calm = true
  nod : X.N.Nodup
  eN : X.N = C.N
  sc : X.env.scope = C.sc
  kind : C.sc.kind = .function
  fn : ∀ x, C.own.lookup x = some .cell → X.fn x = true
  fns : ∀ x f, C.fns.lookup x = some f → FnF X L k R x f
  room : Room k X.A
  blt : ∀ x ∈ C.blt, X.mg x = none
  glo : ∀ x j, C.glo.lookup x = some j → ∃ d v u, L.T.glo[j]? = some d ∧ X.mg x = some u ∧ RelV v u ∧ ∀ F ρ, Rep L F ρ d v
  tk : Takes X W
  cls : L.T.cls = []

section
variable {X : Cx} {L : Lk} {C : Kx} {k : Nat} {R : Runner} {W : WX}
theorem Gd.var (G : Gd X L C k R W) {x : Str} {i : Nat} (h : C.loc x i = true) : X.N[i]? = some x ∧ Vis X.env.scope x ∧ (x == ("__debug__" : Str)) = false ∧ (x == ("__classdict__" : Str)) = false := by
  unfold Kx.loc dbg at h
  simp only [Bool.and_eq_true, decide_eq_true_eq, Bool.not_eq_true'] at h
  obtain ⟨⟨⟨h1, h2⟩, h3⟩, h4⟩ := h
  refine ⟨by rw [G.eN]; exact h1, ?_, h3, h4⟩
  unfold Vis
  rw [G.sc]
  split at h2 <;> first | (cases h2; done) | skip
  · exact .inl (by assumption)
  · exact .inr (.inl (by assumption))
  · exact .inr (.inr (by assumption))
theorem Gd.gl (G : Gd X L C k R W) {x : Str} (h : C.gl x = true) : Gl X x := by
  unfold Kx.gl at h
  unfold Gl Env.kindOf
  rw [G.sc]
  split at h <;> first | assumption | (cases h; done)
theorem Gd.bl (G : Gd X L C k R W) {x : Str} (h : C.bl x = true) : Gl X x ∧ X.mg x = none := by
  unfold Kx.bl at h
  simp only [Bool.and_eq_true, decide_eq_true_eq] at h
  exact ⟨G.gl h.1, G.blt x h.2⟩
theorem Gd.asn (G : Gd X L C k R W) {x : Str} {i : Nat} (h : C.asn x i = true) : X.N[i]? = some x ∧ LcF X x := by
  unfold Kx.asn at h
  simp only [Bool.and_eq_true, decide_eq_true_eq] at h
  obtain ⟨h1, h2⟩ := h
  refine ⟨by rw [G.eN]; exact h1, ?_⟩
  unfold LcF L2.Loc
  rw [G.sc]
  split at h2
  · exact ⟨.inl (by assumption), .inr (by assumption)⟩
  · split at h2 <;> first | (cases h2; done) | skip
    exact ⟨.inr (by assumption), .inl (G.fn x (by assumption))⟩
  · cases h2
theorem Gd.names (G : Gd X L C k R W) : ∀ {es : List Expr} {is : List Nat}, chkNames C es is = true → NamesAt X es is
  | [], [], _ => trivial
  | [], _ :: _, h => by cases h
  | e :: es, is, h => by
    cases is with
    | nil => cases e <;> (cases h; done)
    | cons i is =>
      cases e <;> first | (cases h; done) | skip
      unfold chkNames at h
      rw [Bool.and_eq_true] at h
      exact ⟨G.asn h.1, G.names h.2⟩
theorem Gd.tg (G : Gd X L C k R W) {tg : Expr} {is : List Nat} (h : chkTg C tg is = true) : TgAt X tg is := by
  cases tg <;> first | (cases h; done) | skip
  · rcases is with _ | ⟨i, _ | ⟨j, r⟩⟩
    · cases h
    · exact G.asn h
    · cases h
  · unfold chkTg at h
    simp only [Bool.and_eq_true, decide_eq_true_eq] at h
    exact ⟨G.names h.1, h.2⟩
theorem Gd.blk (G : Gd X L C k R W) {scope : Scope} {own : List (Str × Nat)} (hb : blkC C.N C.sc scope own = true) (s : Shared) (H : Hp) (c : Addr) (cl : List (Str × Addr)) (fp : List Addr) : Gd (X.blk s H scope (compEnvC scope cl c X.env) fp) L (C.inner scope) k R W0 where
  hK := G.hK
  calm := G.calm
  nod := G.nod
  eN := G.eN
  sc := by
    show relS scope X.env.scope = relS scope C.sc
    rw [G.sc]
  kind := (blkOk_by hb).kind
  fn := fun x h => by
    show (scope.names.lookup x == some .cell) = true
    have h' : scope.names.lookup x = some .cell := h
    rw [h']
    rfl
  fns := fun x f h => ⟨(G.fns x f h).ok, (G.fns x f h).mg, (G.fns x f h).kp, (G.fns x f h).fn⟩
  room := G.room
  blt := G.blt
  glo := G.glo
  tk := fun u s' ⟨_, _, _, _, _, _, _, _, _, _, _, _, _, _, _, _, w⟩ => w.elim
  cls := G.cls
end
end Low

/-! Low, part 12: the check of an expression is right. -/
namespace Low
open PySem L2

section
variable {α β : Type} {L : Lk} {W : WX} {rel : (Nat → Addr) → Env → Hp → List Addr → α → β → Prop} {f f' : Env → G → Er α}
theorem tE_le (h : ∀ env g, f env g = .no ∨ f' env g = f env g) {σ : St} {H : Hp} {Q : β → Hp → Prop} (q : tE L W rel f σ H Q) : tE L W rel f' σ H Q := by
  obtain ⟨B, F, ρ, oa, env, g, S, q⟩ := q
  refine ⟨B, F, ρ, oa, env, g, S, ?_⟩
  rcases h env g with e | e
  · rw [e] at q; exact q.elim
  · rw [e]; exact q
end

section
variable {X : Cx} {L : Lk} {C : Kx} {k : Nat} {R : Runner} {W : WX} {f : CE → Expr → Bool}
theorem bor_no {c : CE} (h : ∀ i, c ≠ .var i) (env : Env) (g : G) (r : Er D) : bor c env g r = r := by
  cases c <;> first | rfl | exact absurd rfl (h _)
theorem vals_ok (hf : ∀ c e, f c e = true → PE X e (tD L W (ev L.T R c))) : ∀ (cs : List CE) (es : List Expr), chkL f cs es = true → es.all unStar = true → PA X es (tDs L W (evv L.T R cs))
  | [], [], _, _ => by
    have e : evv L.T R [] = fun _ g => .ok [] g := by funext env g; rw [evv]
    rw [e]; exact so_anil
  | [], _ :: _, h, _ => by cases h
  | _ :: _, [], h, _ => by cases h
  | c :: cs, e :: es, h, hs => by
    unfold chkL at h
    rw [Bool.and_eq_true] at h
    rw [List.all_cons, Bool.and_eq_true] at hs
    have q : evv L.T R (c :: cs) = fun env g => (ev L.T R c env g).bind fun d g => (evv L.T R cs env g).bind fun ds g => .ok (d :: ds) g := by funext env g; rw [evv]
    rw [q]
    exact so_acons (hf c e h.1) (vals_ok hf cs es h.2 hs.2) (star_cons hs.1)
theorem ops_ok (hf : ∀ c e, f c e = true → PE X e (tO L W fun env g => bor c env g (ev L.T R c env g))) : ∀ (cs : List CE) (es : List Expr), chkL f cs es = true → es.all unStar = true → PA X es (tOs L W (evs L.T R cs))
  | [], [], _, _ => by
    have e : evs L.T R [] = fun _ g => .ok [] g := by funext env g; rw [evs]
    rw [e]; exact so_onil
  | [], _ :: _, h, _ => by cases h
  | _ :: _, [], h, _ => by cases h
  | c :: cs, e :: es, h, hs => by
    unfold chkL at h
    rw [Bool.and_eq_true] at h
    rw [List.all_cons, Bool.and_eq_true] at hs
    have q : evs L.T R (c :: cs) = fun env g => (bor c env g (ev L.T R c env g)).bind fun d g => (evs L.T R cs env g).bind fun ds g => .ok (d :: ds) g := by funext env g; rw [evs]
    rw [q]
    exact so_ocons (hf c e h.1) (ops_ok hf cs es h.2 hs.2) (star_cons hs.1)
theorem evv_len {T : Tab} : ∀ {cs : List CE} {env : Env} {g g' : G} {ds : List D}, evv T R cs env g = .ok ds g' → ds.length = cs.length
  | [], env, g, g', ds, h => by rw [evv] at h; cases h; rfl
  | c :: cs, env, g, g', ds, h => by
    rw [evv] at h
    cases e : ev T R c env g with
    | ok d g1 =>
      rw [e, Er.bind_ok] at h
      cases e2 : evv T R cs env g1 with
      | ok ds2 g2 =>
        rw [e2, Er.bind_ok] at h
        cases h
        rw [List.length_cons, List.length_cons, evv_len e2]
      | ex c fs g => rw [e2] at h; cases h
      | no => rw [e2] at h; cases h
    | ex c fs g => rw [e] at h; cases h
    | no => rw [e] at h; cases h
theorem chkL_len : ∀ {cs : List CE} {es : List Expr}, chkL f cs es = true → cs.length = es.length
  | [], [], _ => rfl
  | [], _ :: _, h => by cases h
  | _ :: _, [], h => by cases h
  | c :: cs, e :: es, h => by
    unfold chkL at h
    rw [Bool.and_eq_true] at h
    rw [List.length_cons, List.length_cons, chkL_len h.2]
/-! the readings of each code -/
theorem ev_op1 {T : Tab} (o : Op) (a : CE) : ev T R (.op o [a]) = fun env g => (bor a env g (ev T R a env g)).bind fun x g => ofO g (opS o [view env g x]) := by
  funext env g
  simp only [ev, evs, Er.bind_assoc, Er.bind_ok, List.map]
theorem ev_op2 {T : Tab} (o : Op) (a b : CE) : ev T R (.op o [a, b]) = fun env g => (bor a env g (ev T R a env g)).bind fun x g => (bor b env g (ev T R b env g)).bind fun y g => ofO g (opS o [view env g x, view env g y]) := by
  funext env g
  simp only [ev, evs, Er.bind_assoc, Er.bind_ok, List.map]
theorem ev_op3 {T : Tab} (o : Op) (a b c : CE) : ev T R (.op o [a, b, c]) = fun env g => (bor a env g (ev T R a env g)).bind fun x g => (bor b env g (ev T R b env g)).bind fun y g => (bor c env g (ev T R c env g)).bind fun z g => ofO g (opS o [view env g x, view env g y, view env g z]) := by
  funext env g
  simp only [ev, evs, Er.bind_assoc, Er.bind_ok, List.map]
theorem bop_ok (hK : X.K = L.K) : ∀ {op : Operator} {o : Op}, bopOf op = some o → OpR X (binaryOp op) (rD2 L o) := by
  intro op o h
  cases op <;> first | (cases h; done) | cases h
  · exact opr_add hK
  · exact opr_sub
  · exact opr_mul
  · exact opr_mod
  · exact opr_pow
  · exact opr_shl
  · exact opr_shr
  · exact opr_div
theorem cop_ok (G : Gd X L C k R W) : ∀ {op : CmpOp} {o : Op}, copOf op = some o → OpR X (compareOp op) (rD2 L o) := by
  intro op o h
  have hu := G.room.un
  cases op <;> first | (cases h; done) | cases h
  · exact opr_eq G.hK (by omega)
  · exact opr_ne G.hK (by omega)
  · exact opr_lt
  · exact opr_le
  · exact opr_gt
  · exact opr_ge
  · exact opr_in G.hK (by omega)
  · exact opr_notin G.hK (by omega)
/-- built-ins -/
theorem bif_ok (G : Gd X L C k R W) {o : Op} {y : String} (h : bifOf o = some y) : CallR X (.builtin y) (rDN L o) ∧ bootBuiltins (y : Str) = some (.builtin y) ∧ (y : Str) ≠ "__name__" ∧ ((y : Str) == ("__debug__" : Str)) = false := by
  cases o <;> first | (cases h; done) | cases h
  · exact ⟨cl_len G.hK, PySem.boot_len, by decide, by decide⟩
  · exact ⟨cl_abs, by decide +kernel, by decide, by decide⟩
  · exact ⟨cl_max G.calm, by decide +kernel, by decide, by decide⟩
  · exact ⟨cl_min G.calm, by decide +kernel, by decide, by decide⟩
  · exact ⟨cl_sum G.hK G.calm, by decide +kernel, by decide, by decide⟩
  · exact ⟨cl_all G.hK G.calm, by decide +kernel, by decide, by decide⟩
  · exact ⟨cl_divm, by decide +kernel, by decide, by decide⟩
theorem bty_ok (G : Gd X L C k R W) {o : Op} {y : String} (h : btyOf o = some y) : CallR X (.type y) (rDN L o) ∧ bootBuiltins (y : Str) = some (.type y) ∧ (y : Str) ≠ "__name__" ∧ ((y : Str) == ("__debug__" : Str)) = false := by
  cases o <;> first | (cases h; done) | cases h
  · exact ⟨cl_int, by decide +kernel, by decide, by decide⟩
  · exact ⟨cl_str, by decide +kernel, by decide, by decide⟩
  · exact ⟨cl_tuple G.hK, by decide +kernel, by decide, by decide⟩
  · exact ⟨cl_list G.hK, by decide +kernel, by decide, by decide⟩
theorem ty_boot {t : Ty} {m : String} (h : tyN t = some m) : bootBuiltins (m : Str) = some (.type m) ∧ (m : Str) ≠ "__name__" ∧ ((m : Str) == ("__debug__" : Str)) = false := by
  cases t <;> first | (cases h; done) | cases h
  all_goals exact ⟨by decide +kernel, by decide, by decide⟩
/-- comparisons: as a value, as a test -/
theorem cmp_ok (G : Gd X L C k R W) (hf : ∀ c e, f c e = true → PE X e (tD L W (ev L.T R c))) (hO : ∀ c e, f c e = true → PE X e (tO L W fun env g => bor c env g (ev L.T R c env g))) {c : CE} {a : Expr} {ops : List CmpOp} {bs : List Expr} {pos : Pos}
    (h : chkCmp f c a ops bs = true) : PE X (.Compare a ops bs pos) (tD L W (ev L.T R c)) ∧ PT X (.Compare a ops bs pos) (tT L W fun env g => (ev L.T R c env g).bo) := by
  unfold chkCmp at h
  split at h
  · split at h
    · rw [ev_op1]
      exact ⟨so_isN (hO _ _ h), so_isNT (hO _ _ h)⟩
    · cases h
  · split at h
    · rw [ev_op1]
      exact ⟨so_notN (hO _ _ h), so_notNT (hO _ _ h)⟩
    · cases h
  · split at h
    · simp only [Bool.and_eq_true, decide_eq_true_eq] at h
      obtain ⟨⟨⟨h1, h2⟩, h3⟩, h4⟩ := h
      rw [ev_op2]
      exact ⟨so_cmp (cop_ok G h1) (hO _ _ h2) (hO _ _ h3) (mark_of h4), so_cmpT (cop_ok G h1) (hO _ _ h2) (hO _ _ h3) (mark_of h4)⟩
    · cases h
  · split at h
    · simp only [Bool.and_eq_true, decide_eq_true_eq] at h
      obtain ⟨⟨⟨⟨⟨h1, h2⟩, h3⟩, h4⟩, h5⟩, h6⟩ := h
      rename_i o p x y z
      have e : ev L.T R (.chn o p x y z) = chF o p (ev L.T R x) (ev L.T R y) (ev L.T R z) := by funext env g; rw [ev]
      rw [e]
      exact ⟨so_chn (cop_ok G h1) (cop_ok G h2) (hf _ _ h3) (hf _ _ h4) (hf _ _ h5) (mark_of h6), so_chnT (cop_ok G h1) (cop_ok G h2) (hf _ _ h3) (hf _ _ h4) (hf _ _ h5) (mark_of h6)⟩
    · cases h
  · cases h
/-- slices -/
theorem p_ok (hf : ∀ c e, f c e = true → PE X e (tD L W (ev L.T R c))) {c : List CE} {e : Option Expr} (h : chkP f c e = true) : PO X e (tPa L W (evp L.T R c)) := by
  unfold chkP at h
  split at h
  · have q : evp L.T R [] = fun _ g => .ok (.tup []) g := by funext env g; rw [evp]
    rw [q]
    exact so_pnone
  · rename_i e c
    have q : evp L.T R [c] = fun env g => intE (ev L.T R c env g) := by funext env g; rw [evp]
    rw [q]
    exact so_psome (hf _ _ h)
  · cases h
/-- iterators -/
theorem i_ok (G : Gd X L C k R W) (hf : ∀ c e, f c e = true → PE X e (tD L W (ev L.T R c))) {tg iter : Expr} {sk : Sk} {src : List CE} (h : chkI f C tg sk src iter = true) : PI X tg iter (tI L W (fI sk (evv L.T R src))) := by
  unfold chkI at h
  split at h
  · split at h
    · rename_i c
      have e : fI .seq (evv L.T R [c]) = fun env g => (ev L.T R c env g).bind fun d g => ofO g (seqD d) := by
        funext env g
        show (evv L.T R [c] env g).bind _ = _
        simp only [evv, Er.bind_assoc, Er.bind_ok]
        congr 1
      rw [e]
      exact so_iseq G.hK (hf _ _ h)
    · cases h
  · split at h
    · simp only [Bool.and_eq_true] at h
      obtain ⟨⟨⟨h1, h2⟩, h3⟩, h4⟩ := h
      have e1 := eq_of_beq h1
      subst e1
      obtain ⟨g1, g2⟩ := G.bl h2
      exact so_irange1 g1 g2 (vals_ok hf _ _ h3 (by simp [h4])) (star_cons h4)
    · cases h
  · split at h
    · simp only [Bool.and_eq_true] at h
      obtain ⟨⟨⟨⟨h1, h2⟩, h3⟩, h4⟩, h5⟩ := h
      have e1 := eq_of_beq h1
      subst e1
      obtain ⟨g1, g2⟩ := G.bl h2
      exact so_irange2 g1 g2 (vals_ok hf _ _ h3 (by simp [h4, h5])) (by rw [star_cons h4, star_cons h5]; rfl) (star_cons h5)
    · cases h
  · split at h
    · simp only [Bool.and_eq_true] at h
      obtain ⟨⟨⟨⟨h1, h2⟩, h3⟩, h4⟩, h5⟩ := h
      have e1 := eq_of_beq h1
      subst e1
      obtain ⟨g1, g2⟩ := G.bl h2
      cases tg <;> first | (cases h5; done) | skip
      exact so_ienum G.hK g1 g2 (vals_ok hf _ _ h3 (by simp [h4])) (star_cons h4)
    · cases h
  · split at h
    · simp only [Bool.and_eq_true] at h
      obtain ⟨⟨⟨h1, h2⟩, h3⟩, h4⟩ := h
      have e1 := eq_of_beq h1
      subst e1
      obtain ⟨g1, g2⟩ := G.bl h2
      exact so_irev G.hK g1 g2 (vals_ok hf _ _ h3 (by simp [h4])) (star_cons h4)
    · cases h
  · split at h
    · simp only [Bool.and_eq_true] at h
      obtain ⟨⟨⟨⟨⟨h1, h2⟩, h3⟩, h4⟩, h5⟩, h6⟩ := h
      have e1 := eq_of_beq h1
      subst e1
      obtain ⟨g1, g2⟩ := G.bl h2
      cases tg <;> first | (cases h6; done) | skip
      exact so_izip G.hK g1 g2 (vals_ok hf _ _ h3 (by simp [h4, h5])) (star_cons h4) (star_back (by simp [h5]))
    · cases h
end
end Low

/-! Low, part 13: the check of an expression is right: all forms. -/
namespace Low
open PySem L2

section
variable {X : Cx} {L : Lk} {C : Kx} {k : Nat} {R : Runner} {W : WX} {f : CE → Expr → Bool}
theorem fill_ok {fn : Fn} {ds : List D} {n : Nat} (hl : ds.length = n) (h1 : n ≤ fn.np) (h2 : fn.np ≤ n + fn.defs.length) : fill fn ds = some (ds ++ fn.defs.drop (n + fn.defs.length - fn.np)) := by
  unfold fill
  rw [hl, if_pos ⟨h1, h2⟩]
theorem cal_ok (G : Gd X L C k R W) {x : Str} {p pos : Pos} {i : Nat} {cs : List CE} {args : List Expr} (h1 : C.gl x = true) (h2 : C.fns.lookup x = some i) (h3 : arity L.T i cs.length = true) (ha : PA X args (tDs L W (evv L.T R cs))) (hl : cs.length = args.length)
    (hs : args.all unStar = true) (hd : dbg x = false) : PE X (.Call (.Name x p) args [] pos) (tD L W (ev L.T R (.cal i cs))) := by
  have Fx := G.fns x i h2
  obtain ⟨fn, e1, e2, e3⟩ := Fx.fn
  unfold arity at h3
  rw [e1] at h3
  have h3 := of_decide_eq_true h3
  obtain ⟨ds, dvs, b1, b2, b3⟩ := e3 (cs.length + fn.defs.length - fn.np) (by omega)
  have ddl : (fn.defs.drop (cs.length + fn.defs.length - fn.np)).length = fn.np - cs.length := by rw [List.length_drop]; omega
  have le : ∀ env g, ev L.T R (.cal i cs) env g = .no ∨ ((evv L.T R cs env g).bind fun as g => R i (as ++ fn.defs.drop (cs.length + fn.defs.length - fn.np)) g) = ev L.T R (.cal i cs) env g := fun env g => by
    right
    rw [ev]
    cases e : evv L.T R cs env g with
    | ok as g' =>
      rw [Er.bind_ok, Er.bind_ok]
      unfold callF
      rw [e1]
      dsimp only
      rw [fill_ok (evv_len e) h3.1 h3.2]
    | ex c fs g' => rfl
    | no => rfl
  cases args with
  | nil =>
    have c0 : cs = [] := List.length_eq_zero_iff.mp hl
    subst c0
    refine PE.imp (so_cal0 (W := W) Fx.ok G.room (G.gl h1) Fx.mg Fx.kp b1 b2 b3 G.tk (by rw [ddl, ← e2]; simp) hd) fun σ H Q h => ?_
    refine tE_le (fun env g => ?_) h
    right
    rw [ev, evv, Er.bind_ok]
    unfold callF
    rw [e1]
    dsimp only
    rw [fill_ok (n := 0) rfl (by simp at h3; omega) (by simp at h3; omega)]
    rfl
  | cons a es =>
    rw [List.all_cons, Bool.and_eq_true] at hs
    refine PE.imp (so_cal Fx.ok G.room (G.gl h1) Fx.mg Fx.kp b1 b2 b3 G.tk ha (fun env g as g' e => ?_) hd (star_cons hs.1) (star_back hs.2)) fun σ H Q h => tE_le le h
    rw [List.length_append, evv_len e, ddl, ← e2]
    omega
theorem PTs.imp {X : Cx} {ifs : List Expr} {t t' : TT} (h : PTs X ifs t) (i : ∀ σ H Q, t' σ H Q → t σ H Q) : PTs X ifs t' := ⟨fun pins s σ H Q I q => h.run pins s σ H Q I (i σ H Q q)⟩
theorem cnd_ok {ft : CE → Expr → Bool} (hf : ∀ c e, ft c e = true → PT X e (tT L W fun env g => (ev L.T R c env g).bo)) {cnd : List CE} {ifs : List Expr} (h : chkL ft cnd ifs = true) (h1 : cnd.length ≤ 1) : PTs X ifs (tT L W fun env g => (evc L.T R cnd env g).bo) := by
  have hl := chkL_len h
  rcases cnd with _ | ⟨c, _ | ⟨c2, r⟩⟩
  · have : ifs = [] := List.length_eq_zero_iff.mp hl.symm
    subst this
    refine Low.PTs.imp pts_nil fun σ H Q q => ?_
    obtain ⟨B, F, ρ, oa, env, g, S, q⟩ := q
    simp only [evc, Er.bo_ok] at q
    exact q true F ρ H (Ex.refl _ _) S rfl
  · rcases ifs with _ | ⟨e, _ | ⟨e2, r⟩⟩
    · cases h
    · unfold chkL at h
      rw [Bool.and_eq_true] at h
      have q : evc L.T R [c] = ev L.T R c := by funext env g; rw [evc]
      rw [q]
      exact pts_one (hf _ _ h.1)
    · simp at hl
  · simp at h1
theorem own_map (C : Kx) (ws : List Nat) : (ownOf C ws).map (·.2) = ws := by
  unfold ownOf
  rw [List.map_map]
  exact List.map_id _
theorem ev_comp {T : Tab} {ws vs : List Nat} {sk : Sk} {src cnd : List CE} {ce : CE} : ev T R (.comp ws vs sk src cnd ce) =
    fun env g => (fI sk (evv T R src) env g).bind fun l g => compL (fun x => tgt vs x (wipeE env ws)) (fun env g => (evc T R cnd env g).bo) (ev T R ce) l [] g := by
  funext env g
  show _ = ((evv T R src env g).bind fun ds g => ofO g (items sk ds)).bind _
  rw [ev, Er.bind_assoc]
  congr 1
  funext ds g
  cases items sk ds <;> rfl
/-- an operand, from a value -/
theorem op_of {c : CE} {e : Expr} (G : Gd X L C k R W) (h : PE X e (tD L W (ev L.T R c))) (hv : ∀ i, c = .var i → ∃ x p, e = .Name x p ∧ C.loc x i = true) : PE X e (tO L W fun env g => bor c env g (ev L.T R c env g)) := by
  by_cases q : ∃ i, c = .var i
  · obtain ⟨i, rfl⟩ := q
    obtain ⟨x, p, rfl, hx⟩ := hv i rfl
    obtain ⟨q1, q2, q3, q4⟩ := G.var hx
    exact so_varO _ _ q1 q2 q3 q4
  · have : (fun env g => bor c env g (ev L.T R c env g)) = ev L.T R c := by
      funext env g
      exact bor_no (fun i e => q ⟨i, e⟩) env g _
    rw [this]
    exact so_weak h
theorem chk_var {T : Tab} {n : Nat} {C : Kx} {i : Nat} {e : Expr} (h : chkE T n C (.var i) e = true) : ∃ x p, e = .Name x p ∧ C.loc x i = true := by
  cases n with
  | zero => rw [chkE] at h; cases h
  | succ n =>
    cases e with
    | Name x p => rw [chkE] at h; exact ⟨x, p, rfl, h⟩
    | BoolOp op es p =>
      exfalso
      rcases es with _ | ⟨x, _ | ⟨y, _ | ⟨z, r⟩⟩⟩ <;> cases op <;> (simp only [chkE] at h; cases h)
    | Compare a ops bs p =>
      exfalso
      rw [chkE] at h
      unfold chkCmp at h
      split at h <;> cases h
    | UnaryOp op x p => exfalso; cases op <;> (simp only [chkE] at h; cases h)
    | Constant v j p => exfalso; cases v <;> (simp only [chkE] at h; cases h)
    | Call fn args kws p =>
      exfalso
      simp only [chkE] at h
      cases fn <;> cases kws <;> simp at h
    | _ => exfalso; simp only [chkE] at h; cases h
end

section
variable {L : Lk} {k : Nat} {R : Runner}
theorem chk_ok : ∀ n : Nat,
    (∀ (X : Cx) (C : Kx) (W : WX) (c : CE) (e : Expr), Gd X L C k R W → chkE L.T n C c e = true → PE X e (tD L W (ev L.T R c))) ∧
    (∀ (X : Cx) (C : Kx) (W : WX) (c : CE) (e : Expr), Gd X L C k R W → chkT L.T n C c e = true → PT X e (tT L W fun env g => (ev L.T R c env g).bo)) := by
  intro n
  induction n with
  | zero => exact ⟨fun X C W c e G h => (by rw [chkE] at h; cases h), fun X C W c e G h => (by rw [chkT] at h; cases h)⟩
  | succ n ih =>
    obtain ⟨ihE, ihT⟩ := ih
    have hE : ∀ (X : Cx) (C : Kx) (W : WX) (c : CE) (e : Expr), Gd X L C k R W → chkE L.T (n + 1) C c e = true → PE X e (tD L W (ev L.T R c)) := by
      intro X C W c e G h
      have fE : ∀ c e, chkE L.T n C c e = true → PE X e (tD L W (ev L.T R c)) := fun c e h => ihE X C W c e G h
      have fT : ∀ c e, chkT L.T n C c e = true → PT X e (tT L W fun env g => (ev L.T R c env g).bo) := fun c e h => ihT X C W c e G h
      have fO : ∀ c e, chkE L.T n C c e = true → PE X e (tO L W fun env g => bor c env g (ev L.T R c env g)) := fun c e h => op_of G (fE c e h) fun i ei => by subst ei; exact chk_var h
      cases e with
      | BoolOp op es p =>
        rcases es with _ | ⟨x, _ | ⟨y, _ | ⟨z, r⟩⟩⟩
        · simp only [chkE] at h; cases h
        · simp only [chkE] at h; cases h
        · simp only [chkE] at h
          split at h
          · simp only [Bool.and_eq_true] at h
            have q : ∀ a b, ev L.T R (.andd a b) = fun env g => (ev L.T R a env g).bo.bind fun x g => if x then ev L.T R b env g else .ok (.bl false) g := fun a b => by funext env g; rw [ev]
            rw [q]
            exact so_andV (fE _ _ h.1) (so_one (fE _ _ h.2))
          · simp only [Bool.and_eq_true] at h
            have q : ∀ a b, ev L.T R (.orr a b) = fun env g => (ev L.T R a env g).bo.bind fun x g => if x then .ok (.bl true) g else ev L.T R b env g := fun a b => by funext env g; rw [ev]
            rw [q]
            exact so_orV (fE _ _ h.1) (so_one (fE _ _ h.2))
          · cases h
        · simp only [chkE] at h
          split at h
          · simp only [Bool.and_eq_true] at h
            have q : ∀ a b, ev L.T R (.andd a b) = fun env g => (ev L.T R a env g).bo.bind fun x g => if x then ev L.T R b env g else .ok (.bl false) g := fun a b => by funext env g; rw [ev]
            rw [q]
            exact so_andV (fE _ _ h.1) (fE _ _ h.2)
          · simp only [Bool.and_eq_true] at h
            have q : ∀ a b, ev L.T R (.orr a b) = fun env g => (ev L.T R a env g).bo.bind fun x g => if x then .ok (.bl true) g else ev L.T R b env g := fun a b => by funext env g; rw [ev]
            rw [q]
            exact so_orV (fE _ _ h.1) (fE _ _ h.2)
          · cases h
      | Name x p =>
        simp only [chkE] at h
        split at h
        · obtain ⟨q1, q2, q3, q4⟩ := G.var h
          exact so_var _ _ q1 q2 q3 q4
        · simp only [Bool.and_eq_true, decide_eq_true_eq, Bool.not_eq_true'] at h
          obtain ⟨d, v, u, e1, e2, e3, e4⟩ := G.glo _ _ h.1.2
          have q : ∀ j, L.T.glo[j]? = some d → ev L.T R (.glb j) = ev L.T R (.cst d) := fun j e => by funext env g; rw [ev, ev, e]; rfl
          rw [q _ e1]
          exact so_cst (pe_glob (G.gl h.1.1) e2 e3 h.2) e4
        · cases h
      | Constant v j p =>
        simp only [chkE] at h
        split at h
        · rw [of_decide_eq_true h]
          exact so_cst pe_int fun F ρ => by unfold Rep; rfl
        · rw [of_decide_eq_true h]
          exact so_cst pe_str fun F ρ => by unfold Rep; rfl
        · rw [of_decide_eq_true h]
          exact so_cst pe_bl fun F ρ => by unfold Rep; rfl
        · exact so_cst pe_non fun F ρ => by unfold Rep; rfl
        · cases h
      | BinOp l op r p =>
        simp only [chkE] at h
        split at h
        · simp only [Bool.and_eq_true, decide_eq_true_eq] at h
          rw [ev_op2]
          exact so_op2 (bop_ok G.hK h.1.1) (fO _ _ h.1.2) (fO _ _ h.2)
        · cases h
      | UnaryOp op x p =>
        simp only [chkE] at h
        split at h
        · rw [ev_op1]
          exact so_neg (fO _ _ h)
        · have q : ∀ a, ev L.T R (.nott a) = fun env g => (ev L.T R a env g).bo.bind fun x g => .ok (.bl (!x)) g := fun a => by funext env g; rw [ev]
          rw [q]
          exact so_notV (fE _ _ h)
        · cases h
      | Compare a ops bs p =>
        simp only [chkE] at h
        exact (cmp_ok G fE fO h).1
      | IfExp t x y p =>
        simp only [chkE] at h
        split at h
        · simp only [Bool.and_eq_true] at h
          have q : ∀ a b c, ev L.T R (.ife a b c) = fun env g => (ev L.T R a env g).bo.bind fun x g => if x then ev L.T R b env g else ev L.T R c env g := fun a b c => by funext env g; rw [ev]
          rw [q]
          exact so_ife (fT _ _ h.1.1) (fE _ _ h.1.2) (fE _ _ h.2)
        · cases h
      | Tuple es j p =>
        simp only [chkE] at h
        split at h
        · simp only [Bool.and_eq_true] at h
          have q : ∀ cs, ev L.T R (.tup cs) = fun env g => (evv L.T R cs env g).bind fun ds g => if ds.length ≤ SZ then .ok (.tup ds) g else .no := fun cs => by funext env g; rw [ev]
          rw [q]
          exact so_tup (vals_ok fE _ _ h.1 h.2)
        · cases h
      | List es p =>
        simp only [chkE] at h
        split at h
        · simp only [Bool.and_eq_true] at h
          have q : ∀ cs, ev L.T R (.lst cs) = fun env g => (evv L.T R cs env g).bind fun ds g => if ds.length ≤ SZ then .ok (.lst ds) g else .no := fun cs => by funext env g; rw [ev]
          rw [q]
          exact so_lst (vals_ok fE _ _ h.1 h.2)
        · cases h
      | Subscript o i p =>
        simp only [chkE] at h
        split at h
        · split at h
          · simp only [Bool.and_eq_true] at h
            have q : ∀ a b d, ev L.T R (.slc a b d) = fun env g => (bor a env g (ev L.T R a env g)).bind fun x g => (evp L.T R b env g).bind fun l g => (evp L.T R d env g).bind fun u g => ofO g ((endOf l).bind fun l => (endOf u).bind fun u => sSlc (view env g x) l u) := fun a b d => by funext env g; rw [ev]
            rw [q]
            exact so_slc G.hK (fO _ _ h.1.1) (p_ok fE h.1.2) (p_ok fE h.2)
          · cases h
        · simp only [Bool.and_eq_true] at h
          rw [ev_op2]
          exact so_idx G.hK (fO _ _ h.1.1) (fO _ _ h.1.2) (plain_of h.2)
        · cases h
      | Call fn args kws p =>
        simp only [chkE] at h
        split at h
        · split at h
          · simp only [Bool.and_eq_true, decide_eq_true_eq, Bool.not_eq_true'] at h
            obtain ⟨⟨⟨⟨⟨h1, h2⟩, h3⟩, h4⟩, h5⟩, h6⟩ := h
            exact cal_ok G h1 h2 h3 (vals_ok fE _ _ h4 h5) (chkL_len h4) h5 h6
          · simp only [Bool.and_eq_true, Bool.not_eq_true'] at h
            rename_i o cs
            obtain ⟨⟨⟨⟨h1, h2⟩, h3⟩, h4⟩, h5⟩ := h
            obtain ⟨g1, g2⟩ := G.bl h2
            have q : ev L.T R (.op o cs) = fun env g => (evs L.T R cs env g).bind fun ds g => ofO g (opS o (ds.map (view env g))) := by funext env g; rw [ev]
            rw [q]
            cases args with
            | nil => cases h3
            | cons a es =>
              have h5' := h5
              rw [List.all_cons, Bool.and_eq_true] at h5'
              split at h1
              · rename_i y _ eo
                obtain rfl := eq_of_beq h1
                obtain ⟨k1, k2, k3, k4⟩ := bif_ok G eo
                exact so_bif k1 g1 g2 k2 (ops_ok fO _ _ h4 h5) k3 k4 (star_cons h5'.1) (star_back h5'.2)
              · rename_i y _ eo
                obtain rfl := eq_of_beq h1
                obtain ⟨k1, k2, k3, k4⟩ := bty_ok G eo
                exact so_bty k1 g1 g2 k2 (ops_ok fO _ _ h4 h5) k3 k4 (star_cons h5'.1) (star_back h5'.2)
              · cases h1
          · split at h
            · simp only [Bool.and_eq_true] at h
              rename_i a t _ _ e y p2 m em
              obtain ⟨⟨⟨⟨⟨h1, h2⟩, h3⟩, h4⟩, h5⟩, h6⟩ := h
              obtain rfl := eq_of_beq h1
              obtain rfl := eq_of_beq h3
              obtain ⟨g1, g2⟩ := G.bl h2
              obtain ⟨g3, g4⟩ := G.bl h4
              obtain ⟨k1, k2, k3⟩ := ty_boot em
              have q : ev L.T R (.isi a [t]) = fun env g => (ev L.T R a env g).bind fun d g => ofO g ((anyTy L.T d [t]).map .bl) := by funext env g; rw [ev]
              rw [q]
              refine so_isi G.hK g1 g2 g3 g4 k1 k2 k3 em (fE _ _ h5) h6 fun c fs b F ρ H v hb _ _ => ?_
              exfalso
              cases t <;> simp only [tyD, G.cls] at hb <;> simp at hb
            · cases h
          · cases h
        · split at h
          · simp only [Bool.and_eq_true, List.isEmpty_iff] at h
            obtain ⟨⟨⟨⟨h1, h2⟩, h3⟩, h4⟩, h5⟩ := h
            obtain rfl := eq_of_beq h1
            subst h2
            have q : ∀ r, ev L.T R (.bm .bitlen r []) = fun env g => (bor r env g (ev L.T R r env g)).bind fun x g => if bmK .bitlen (view env g x) then (Er.ok ([] : List D) g).bind fun ds g => ofO g (opS .bitlen (view env g x :: ds.map (view env g))) else .no := fun r => by
              funext env g
              simp only [ev, evs]
            rw [q]
            exact so_bits (T := L.T) (R := R) (fO _ _ h3) h4 h5
          · simp only [Bool.and_eq_true, Bool.not_eq_true', decide_eq_true_eq] at h
            obtain ⟨⟨⟨⟨⟨⟨⟨h1, h2⟩, h3⟩, h4⟩, h5⟩, h6⟩, h7⟩, h8⟩ := h
            obtain rfl := eq_of_beq h1
            rename_i r cs
            have q : ev L.T R (.bm .zfill r cs) = fun env g => (bor r env g (ev L.T R r env g)).bind fun x g => if bmK .zfill (view env g x) then (evs L.T R cs env g).bind fun ds g => ofO g (opS .zfill (view env g x :: ds.map (view env g))) else .no := by
              funext env g
              rw [ev]
            rw [q]
            cases args with
            | nil => cases h2
            | cons a es => exact so_zf G.hK (fO _ _ h3) h4 h5 (ops_ok fO _ _ h6 h7) h7 h8
          · cases h
        · cases h
      | ListComp elt gs scope p =>
        simp only [chkE] at h
        split at h
        · simp only [Bool.and_eq_true, decide_eq_true_eq, List.all_eq_true] at h
          obtain ⟨⟨⟨⟨⟨⟨⟨h1, h2⟩, h3⟩, h4⟩, h5⟩, h6⟩, h7⟩, h8⟩ := h
          rename_i ws vs sk src cnd ce tg iter ifs
          have Gi := fun s H c cl fp => G.blk h1 s H c cl fp
          have hb : BlkOk X.N X.env.scope scope (ownOf C ws) := by rw [G.eN, G.sc]; exact blkOk_by h1
          have q := so_comp (W := W) (t := tgR L vs) (vs := vs) G.calm G.nod (i_ok G fE h2) hb ((tgR_ok ((Gi X.s_0 X.H_0 0 [] []).tg h3))) (by rw [own_map]; exact h4)
            (fun s H c cl fp => pg_tg (Gi s H c cl fp).hK (Gi s H c cl fp).calm (Gi s H c cl fp).nod ((Gi s H c cl fp).tg h3))
            (fun s H c cl fp => cnd_ok (fun c' e' he' => ihT _ _ _ _ _ (Gi s H c cl fp) he') h5 h6)
            (fun s H c cl fp => ihE _ _ _ _ _ (Gi s H c cl fp) h7) (fold_of h8) (pos := p)
          rw [own_map] at q
          rw [ev_comp]
          exact q
        · cases h
      | _ => simp only [chkE] at h; cases h
    refine ⟨hE, ?_⟩
    intro X C W c e G h
    have fE : ∀ c e, chkE L.T n C c e = true → PE X e (tD L W (ev L.T R c)) := fun c e h => ihE X C W c e G h
    have fT : ∀ c e, chkT L.T n C c e = true → PT X e (tT L W fun env g => (ev L.T R c env g).bo) := fun c e h => ihT X C W c e G h
    have fO : ∀ c e, chkE L.T n C c e = true → PE X e (tO L W fun env g => bor c env g (ev L.T R c env g)) := fun c e h => op_of G (fE c e h) fun i ei => by subst ei; exact chk_var h
    have plain : ∀ {c e}, plainT e = true → (match c with | .tt a => chkE L.T n C a e | c => chkE L.T n C c e) = true → PT X e (tT L W fun env g => (ev L.T R c env g).bo) := fun {c e} hp h => by
      split at h
      · have q : ∀ a, (fun env g => (ev L.T R (.tt a) env g).bo) = fun env g => ((bor a env g (ev L.T R a env g)).bind fun d g => ofO g ((truD (view env g d)).map .bl)).bo := fun a => by funext env g; rw [ev]
        rw [q]
        exact so_tt G.hK (fO _ _ h) (plainT_of hp)
      · exact so_val (fE _ _ h) (plainT_of hp)
    cases e with
    | BoolOp op es p =>
      have qa : ∀ a b, (fun env g => (ev L.T R (.andd a b) env g).bo) = fun env g => (ev L.T R a env g).bo.bind fun x g => if x then (ev L.T R b env g).bo else .ok false g := fun a b => by
        funext env g
        rw [ev]
        cases (ev L.T R a env g).bo with
        | ok x g' => cases x <;> rfl
        | ex c fs g' => rfl
        | no => rfl
      have qo : ∀ a b, (fun env g => (ev L.T R (.orr a b) env g).bo) = fun env g => (ev L.T R a env g).bo.bind fun x g => if x then .ok true g else (ev L.T R b env g).bo := fun a b => by
        funext env g
        rw [ev]
        cases (ev L.T R a env g).bo with
        | ok x g' => cases x <;> rfl
        | ex c fs g' => rfl
        | no => rfl
      have toT : ∀ {e : Expr} {t : TT}, PW X e t → PT X e t := fun h => ⟨fun pins s σ H Q I q => h.run _ pins s σ H Q I q⟩
      have ofT : ∀ {op : BoolOp} {es : List Expr} {p : Pos} {t : TT}, PT X (.BoolOp op es p) t → PW X (.BoolOp op es p) t := fun {op es p t} h => ⟨fun wh pins s σ H Q I q => by
        have z := h.run pins s σ H Q I q
        rw [PySem.isTrue] at z ⊢
        exact z⟩
      rcases es with _ | ⟨x, _ | ⟨y, _ | ⟨z, r⟩⟩⟩
      · simp only [chkT] at h; cases h
      · simp only [chkT] at h; cases h
      · simp only [chkT] at h
        split at h
        · simp only [Bool.and_eq_true] at h
          rw [qa]
          exact toT (so_and (fT _ _ h.1) (so_and1 (fT _ _ h.2)))
        · simp only [Bool.and_eq_true] at h
          rw [qo]
          exact toT (so_or (fT _ _ h.1) (so_or1 (fT _ _ h.2)))
        · cases h
      · simp only [chkT] at h
        split at h
        · simp only [Bool.and_eq_true] at h
          rw [qa]
          exact toT (so_and (fT _ _ h.1) (ofT (fT _ _ h.2)))
        · simp only [Bool.and_eq_true] at h
          rw [qo]
          exact toT (so_or (fT _ _ h.1) (ofT (fT _ _ h.2)))
        · cases h
    | UnaryOp op x p =>
      cases op with
      | Not =>
        simp only [chkT] at h
        split at h
        · have q : ∀ a, (fun env g => (ev L.T R (.nott a) env g).bo) = fun env g => (ev L.T R a env g).bo.bind fun x g => .ok (!x) g := fun a => by
            funext env g
            rw [ev]
            cases (ev L.T R a env g).bo <;> rfl
          rw [q]
          exact so_not (fT _ _ h)
        · cases h
      | _ => simp only [chkT] at h; cases h
    | Compare a ops bs p =>
      simp only [chkT] at h
      exact (cmp_ok G fE fO h).2
    | IfExp t x y p => simp only [chkT] at h; cases h
    | _ => simp only [chkT] at h; exact plain rfl h
end
end Low

/-! Low, part 14: the check of statements. -/
namespace Low
open PySem L2

/-- the names that an assignment of a display stores from the right -/
def swNames (sc : List (Str × NameKind)) (line : Nat) (ts : List Expr) : List Str := ts.filterMap fun
  | .Name id pos => if sc.lookup id == some .local && pos.line == line then some id else none
  | _ => none
def isStar : Expr → Bool
  | .Starred .. => true
  | _ => false
def swp (C : Kx) (ts vs : List Expr) : Option (Option (List Str)) :=
  if (!(ts.length == 2 || ts.length == 3) || vs.length != ts.length) = true then some none
  else if vs.any isStar = true then some none
  else if ((swNames C.sc.names ((ts.head?.map (·.pos.line)).getD 0) ts).length != ts.length || (swNames C.sc.names ((ts.head?.map (·.pos.line)).getD 0) ts).eraseDups.length != (swNames C.sc.names ((ts.head?.map (·.pos.line)).getD 0) ts).length) = true then some none
  else if vs.all (foldedForSure 8) = true then some none
  else if vs.all (constantsAlone 8) = true then none
  else some (some (swNames C.sc.names ((ts.head?.map (·.pos.line)).getD 0) ts))
theorem block_fn {env : PySem.Env} (h : env.scope.kind = .function) : env.blockKind = .function := by
  unfold Env.blockKind
  rw [h]
  rfl
theorem swp_ok {C : Kx} {env : PySem.Env} (h1 : env.scope = C.sc) (h2 : C.sc.kind = .function) {ts vs : List Expr} {k k2 : Nat} {p p2 : Pos} {r : Option (List Str)} (h : swp C ts vs = some r) : swappedStores [.Tuple ts k p] (.Tuple vs k2 p2) env = pure r := by
  have hb : env.blockKind = .function := block_fn (by rw [h1]; exact h2)
  unfold swp at h
  rw [← h1] at h
  unfold swappedStores
  dsimp only
  rw [hb]
  by_cases q : (!(ts.length == 2 || ts.length == 3) || vs.length != ts.length) = true
  · rw [if_pos q] at h
    cases h
    rw [if_pos (by rw [q]; rfl)]
  · rw [if_neg q] at h
    rw [if_neg (by rw [Bool.eq_false_iff.mpr q]; decide)]
    change (if vs.any isStar = true then _ else _) = _
    by_cases q2 : vs.any isStar = true
    · rw [if_pos q2] at h ⊢
      cases h
      rfl
    · rw [if_neg q2] at h ⊢
      change (if ((swNames env.scope.names ((ts.head?.map (·.pos.line)).getD 0) ts).length != ts.length || (swNames env.scope.names ((ts.head?.map (·.pos.line)).getD 0) ts).eraseDups.length != (swNames env.scope.names ((ts.head?.map (·.pos.line)).getD 0) ts).length) = true then _ else _) = _
      split at h
      · rename_i q3
        rw [if_pos q3]
        cases h
        rfl
      · rename_i q3
        rw [if_neg q3]
        split at h
        · rename_i q4
          rw [if_pos q4]
          cases h
          rfl
        · rename_i q4
          rw [if_neg q4]
          split at h
          · cases h
          · rename_i q5
            rw [if_neg q5]
            cases h
            rfl
/-- an assignment that keeps the display -/
def noSw (C : Kx) (ts : List Expr) (e : Expr) : Bool := match e with
  | .Tuple vs _ _ => decide (swp C ts vs = some none)
  | _ => true
theorem noSw_ok {C : Kx} {env : PySem.Env} (h1 : env.scope = C.sc) (h2 : C.sc.kind = .function) {ts : List Expr} {e : Expr} {k : Nat} {p : Pos} (h : noSw C ts e = true) : swappedStores [.Tuple ts k p] e env = pure none := by
  cases e <;> first | rfl | skip
  exact swp_ok h1 h2 (of_decide_eq_true h)
/-- a comprehension that goes straight into its name -/
def swC (C : Kx) (t : Str) (l : Nat) (scope : Scope) (cl : Nat) : Bool :=
  C.sc.names.lookup t == some .local && l == cl && !(scope.names.any fun (n, k) => n == t && (k == .local || k == .cell))
theorem swC_ok {C : Kx} {env : PySem.Env} (h1 : env.scope = C.sc) (h2 : C.sc.kind = .function) {t : Str} {p cp : Pos} {elt : Expr} {gs : List Comprehension} {scope : Scope} {l : Nat} :
    swapsWith (.ListComp elt gs scope cp) (some (.Name t p)) l env = pure (swC C t p.line scope cp.line) := by
  have hb : env.blockKind = .function := block_fn (by rw [h1]; exact h2)
  unfold swapsWith swC
  dsimp only
  rw [hb, ← h1]
  rfl

def chkSs (f : CS → Stmt → Bool) : List CS → List Stmt → Bool
  | [], [] => true
  | c :: cs, s :: ss => f c s && chkSs f cs ss
  | _, _ => false
def augOf : Operator → Option Op
  | .Add => some .add | .Sub => some .sub
  | _ => none
def chkS (T : Tab) : Nat → Kx → CS → Stmt → Bool
  | 0, _, _, _ => false
  | n + 1, C, c, s => match s with
    | .Pass _ => match c with
      | .pas => true
      | _ => false
    | .Break _ => match c with
      | .brk => true
      | _ => false
    | .Continue _ => match c with
      | .cnt => true
      | _ => false
    | .Return e _ => match e, c with
      | none, .retN => true
      | some e, .ret a => chkE T n C a e
      | _, _ => false
    | .Expr e _ => match c, e with
      | .pas, .Constant (.str _) _ _ => true
      | .exp a, e => chkE T n C a e && !isCompr e
      | _, _ => false
    | .Assign ts e pos => match ts, c with
      | [.Name x _], .asg i a => C.asn x i && chkE T n C a e
      | [.Tuple es _ _], .unp is a => chkNames C es is && chkE T n C a e && !isCompr e && noSw C es e
      | [.Tuple es _ _], .par is cs => match es, e, is with
        | [.Name x px, .Name y p2], .Tuple vs _ _, [i, j] => decide (swp C [.Name x px, .Name y p2] vs = some (some [x, y])) && decide (C.N[i]? = some x) && decide (C.N[j]? = some y) && decide (i ≠ j) &&
            decide (C.sc.names.lookup x = some .local) && decide (C.sc.names.lookup y = some .local) && chkL (chkE T n C) cs vs && vs.all unStar && decide (vs.length = 2)
        | [.Name x px, .Name y p2, .Name z p3], .Tuple vs _ _, [i, j, l] => decide (swp C [.Name x px, .Name y p2, .Name z p3] vs = some (some [x, y, z])) && decide (C.N[i]? = some x) && decide (C.N[j]? = some y) && decide (C.N[l]? = some z) && decide (i ≠ j) && decide (i ≠ l) && decide (j ≠ l) &&
            decide (C.sc.names.lookup x = some .local) && decide (C.sc.names.lookup y = some .local) && decide (C.sc.names.lookup z = some .local) && chkL (chkE T n C) cs vs && vs.all unStar && decide (vs.length = 3)
        | _, _, _ => false
      | _, _ => false
    | .AugAssign t op e _ => match t, c with
      | .Name x _, .aug i o a => C.asn x i && decide (augOf op = some o) && chkE T n C a e
      | _, _ => false
    | .If t p q _ => match c with
      | .iff ct a b => chkT T n C ct t && chkSs (chkS T n C) a p && chkSs (chkS T n C) b q
      | _ => false
    | .For tg iter body orelse _ => match orelse, c with
      | [], .fr vs k src b => chkI (chkE T n C) C tg k src iter && chkTg C tg vs && unSet iter && chkSs (chkS T n C) b body
      | _, _ => false
    | .While t body orelse _ => match orelse, c with
      | [], .whl ct b => chkT T n C ct t && chkSs (chkS T n C) b body
      | _, _ => false
    | _ => false

section
variable {X : Cx} {L : Lk} {C : Kx} {k : Nat} {R : Runner} {W : WX}
theorem ss_ok {f : CS → Stmt → Bool} (hf : ∀ c s, f c s = true → PS X s (tS L W (exec L.T R c))) : ∀ (cs : List CS) (ss : List Stmt), chkSs f cs ss = true → PSs X ss (tS L W (execs L.T R cs))
  | [], [], _ => by
    have e : execs L.T R [] = fun env g => .nx env g := by funext env g; rw [execs]
    rw [e]; exact ss_nil
  | [], _ :: _, h => by cases h
  | _ :: _, [], h => by cases h
  | c :: cs, s :: ss, h => by
    unfold chkSs at h
    rw [Bool.and_eq_true] at h
    have q : execs L.T R (c :: cs) = fun env g => (exec L.T R c env g).seq (execs L.T R cs) := by funext env g; rw [execs]
    rw [q]
    exact ss_cons (hf c s h.1) (ss_ok hf cs ss h.2)
theorem unComp_of {T : Tab} {n : Nat} {C : Kx} {c : CE} {e : Expr} (h : chkE T n C c e = true) : isCompr e = false ∨ ∃ elt tg iter ifs scope p ws vs k src cnd ce m, n = m + 1 ∧ e = .ListComp elt [⟨tg, iter, ifs, 0⟩] scope p ∧ c = .comp ws vs k src cnd ce := by
  cases n with
  | zero => rw [chkE] at h; cases h
  | succ n =>
    cases e <;> first | exact .inl rfl | skip
    · simp only [chkE] at h
      split at h
      · exact .inr ⟨_, _, _, _, _, _, _, _, _, _, _, _, _, rfl, rfl, rfl⟩
      · cases h
    all_goals (simp only [chkE] at h; cases h)
theorem er_st {α β : Type} (r : Er α) (kk : α → G → Er β) (env : Env) (z : β → G → Sr) : (r.bind kk).st env z = r.st env fun a g => (kk a g).st env z := by
  cases r <;> rfl
end

section
variable {L : Lk} {k : Nat} {R : Runner}
theorem chkS_ok : ∀ (n : Nat) (X : Cx) (C : Kx) (W : WX) (c : CS) (s : Stmt), Gd X L C k R W → PassesOwn (model X.prog X.w) X.A X.env X.xe → chkS L.T n C c s = true → PS X s (tS L W (exec L.T R c)) := by
  intro n
  induction n with
  | zero => intro X C W c s G hp h; rw [chkS] at h; cases h
  | succ n ih =>
    intro X C W c s G hp h
    have fE : ∀ c e, chkE L.T n C c e = true → PE X e (tD L W (ev L.T R c)) := fun c e h => (chk_ok n).1 X C W c e G h
    have fT : ∀ c e, chkT L.T n C c e = true → PT X e (tT L W fun env g => (ev L.T R c env g).bo) := fun c e h => (chk_ok n).2 X C W c e G h
    have fO : ∀ c e, chkE L.T n C c e = true → PE X e (tO L W fun env g => bor c env g (ev L.T R c env g)) := fun c e h => op_of G (fE c e h) fun i ei => by subst ei; exact chk_var h
    have fS : ∀ cs ss, chkSs (chkS L.T n C) cs ss = true → PSs X ss (tS L W (execs L.T R cs)) := fun cs ss h => ss_ok (fun c s h => ih X C W c s G hp h) cs ss h
    cases s with
    | Pass p =>
      simp only [chkS] at h
      split at h
      · have q : exec L.T R .pas = fun env g => .nx env g := by funext env g; rw [exec]
        rw [q]; exact ss_pas
      · cases h
    | Break p =>
      simp only [chkS] at h
      split at h
      · have q : exec L.T R .brk = fun env g => .bk env g := by funext env g; rw [exec]
        rw [q]; exact ss_brk
      · cases h
    | Continue p =>
      simp only [chkS] at h
      split at h
      · have q : exec L.T R .cnt = fun env g => .ct env g := by funext env g; rw [exec]
        rw [q]; exact ss_cnt
      · cases h
    | Return e p =>
      simp only [chkS] at h
      split at h
      · have q : exec L.T R .retN = fun env g => .rt .non env g := by funext env g; rw [exec]
        rw [q]; exact ss_retN
      · have q : ∀ a, exec L.T R (.ret a) = fun env g => (ev L.T R a env g).st env fun d g => .rt d env g := fun a => by funext env g; rw [exec]
        rw [q]; exact ss_ret (fE _ _ h)
      · cases h
    | Expr e p =>
      simp only [chkS] at h
      split at h
      · have q : exec L.T R .pas = fun env g => .nx env g := by funext env g; rw [exec]
        rw [q]; exact ss_doc
      · have q : ∀ a, exec L.T R (.exp a) = fun env g => (ev L.T R a env g).st env fun _ g => .nx env g := fun a => by funext env g; rw [exec]
        simp only [Bool.and_eq_true, Bool.not_eq_true'] at h
        rw [q]; exact ss_exp (fE _ _ h.1) (swaps_no h.2)
      · cases h
    | Assign ts e pos =>
      simp only [chkS] at h
      split at h
      · simp only [Bool.and_eq_true] at h
        rename_i x py i a
        obtain ⟨n1, n2⟩ := G.asn h.1
        have q : exec L.T R (.asg i a) = fun env g => (ev L.T R a env g).st env fun d g => .nx (env.set i (.val d)) g := by funext env g; rw [exec]
        rw [q]
        rcases unComp_of h.2 with hc | ⟨elt, tg, iter, ifs, scope, p, ws, vs, sk, src, cnd, ce, m, rfl, rfl, rfl⟩
        · exact ss_asg G.nod n1 n2 (fE _ _ h.2) (swaps_no hc)
        · cases hw : swC C x py.line scope p.line with
          | false => exact ss_asg G.nod n1 n2 (fE _ _ h.2) (by rw [swC_ok G.sc G.kind, hw])
          | true =>
            have hloc : X.env.scope.names.lookup x = some .local := by
              unfold swC at hw
              simp only [Bool.and_eq_true] at hw
              rw [G.sc]
              simpa using hw.1.1
            have h2 := h.2
            simp only [chkE, Bool.and_eq_true, decide_eq_true_eq, List.all_eq_true] at h2
            obtain ⟨⟨⟨⟨⟨⟨⟨h1, h2⟩, h3⟩, h4⟩, h5⟩, h6⟩, h7⟩, h8⟩ := h2
            have Gi := fun s H c cl fp => G.blk h1 s H c cl fp
            have hb : BlkOk X.N X.env.scope scope (ownOf C ws) := by rw [G.eN, G.sc]; exact blkOk_by h1
            have fE' : ∀ c e, chkE L.T m C c e = true → PE X e (tD L W (ev L.T R c)) := fun c e h => (chk_ok m).1 X C W c e G h
            have z := ss_asgC (W := W) (L := L) (t := tgR L vs) (vs := vs) (pos := pos) (py := py) n1 hloc (by rw [swC_ok G.sc G.kind, hw]) G.calm G.nod (i_ok G fE' h2) hb ((tgR_ok ((Gi X.s_0 X.H_0 0 [] []).tg h3))) (by rw [own_map]; exact h4)
              (fun s H c cl fp => pg_tg (Gi s H c cl fp).hK (Gi s H c cl fp).calm (Gi s H c cl fp).nod ((Gi s H c cl fp).tg h3))
              (fun s H c cl fp => cnd_ok (fun c' e' he' => (chk_ok m).2 _ _ _ _ _ (Gi s H c cl fp) he') h5 h6)
              (fun s H c cl fp => (chk_ok m).1 _ _ _ _ _ (Gi s H c cl fp) h7) (fold_of h8) (cpos := p)
            rw [own_map] at z
            rw [ev_comp]
            exact z
      · simp only [Bool.and_eq_true, Bool.not_eq_true'] at h
        rename_i es kk py is a
        have q : exec L.T R (.unp is a) = fun env g => (bor a env g (ev L.T R a env g)).st env fun d g => match view env g d with
          | .tup ds => if is.length = ds.length then .nx (setAll is ds env) g else .no
          | .lst ds => if is.length = ds.length then .nx (setAll is ds env) g else .no
          | _ => .no := by funext env g; rw [exec] <;> rfl
        rw [q]
        exact ss_unp G.hK G.calm G.nod (G.names h.1.1.1) (fO _ _ h.1.1.2) (swapsSole_no h.1.2) (noSw_ok G.sc G.kind h.2)
      · rename_i es kk py is cs
        have q : exec L.T R (.par is cs) = fun env g => (evv L.T R cs env g).st env fun ds g => if is.length = ds.length then .nx (setAll is ds env) g else .no := by funext env g; rw [exec]
        rw [q]
        split at h
        · simp only [Bool.and_eq_true, decide_eq_true_eq] at h
          obtain ⟨⟨⟨⟨⟨⟨⟨⟨h1, h2⟩, h3⟩, h4⟩, h5⟩, h6⟩, h7⟩, h8⟩, h9⟩ := h
          obtain ⟨a, b, rfl⟩ := len2 h9
          exact ss_par2 G.calm G.nod (by rw [G.eN]; exact h2) (by rw [G.eN]; exact h3) h4 (by rw [G.sc]; exact h5) (by rw [G.sc]; exact h6) (vals_ok fE _ _ h7 h8) (swp_ok G.sc G.kind h1)
        · simp only [Bool.and_eq_true, decide_eq_true_eq] at h
          obtain ⟨⟨⟨⟨⟨⟨⟨⟨⟨⟨⟨⟨h1, h2⟩, h3⟩, h4⟩, h5⟩, h6⟩, h7⟩, h8⟩, h9⟩, h10⟩, h11⟩, h12⟩, h13⟩ := h
          obtain ⟨a, b, c, rfl⟩ := len3 h13
          exact ss_par3 G.calm G.nod (by rw [G.eN]; exact h2) (by rw [G.eN]; exact h3) (by rw [G.eN]; exact h4) h5 h6 h7 (by rw [G.sc]; exact h8) (by rw [G.sc]; exact h9) (by rw [G.sc]; exact h10) (vals_ok fE _ _ h11 h12) (swp_ok G.sc G.kind h1)
        · cases h
      · cases h
    | AugAssign t op e pos =>
      simp only [chkS] at h
      split at h
      · simp only [Bool.and_eq_true, decide_eq_true_eq] at h
        rename_i x py i o a
        obtain ⟨n1, n2⟩ := G.asn h.1.1
        have q : exec L.T R (.aug i o a) = fun env g => match env[i]? with
          | some (.val x) => (ev L.T R a env g).st env fun d g => match augS o x d with
            | some z => .nx (env.set i (.val z)) g
            | none => .no
          | _ => .no := by funext env g; rw [exec] <;> rfl
        rw [q]
        have ho := h.1.2
        cases op <;> first | (cases ho; done) | cases ho
        · exact ss_aug G.nod n1 n2 (fE _ _ h.2) pip_add fun d e z v w H Q F ρ q r1 r2 c => rd_add q r1 r2 c
        · exact ss_aug G.nod n1 n2 (fE _ _ h.2) ip_sub fun d e z v w H Q F ρ q r1 r2 c => rd_sub q r1 r2 c
      · cases h
    | If t p q pos =>
      simp only [chkS] at h
      split at h
      · simp only [Bool.and_eq_true] at h
        have q : ∀ ct a b, exec L.T R (.iff ct a b) = fun env g => (ev L.T R ct env g).bo.st env fun x g => if x then execs L.T R a env g else execs L.T R b env g := fun ct a b => by funext env g; rw [exec]
        rw [q]
        exact ss_iff (fT _ _ h.1.1) (fS _ _ h.1.2) (fS _ _ h.2)
      · cases h
    | For tg iter body orelse pos =>
      simp only [chkS] at h
      split at h
      · simp only [Bool.and_eq_true] at h
        rename_i vs sk src b
        have q : exec L.T R (.fr vs sk src b) = fun env g => (fI sk (evv L.T R src) env g).st env fun l g => forL (fun x env => tgt vs x env) (execs L.T R b) l env g := by
          funext env g
          show _ = ((evv L.T R src env g).bind fun ds g => ofO g (items sk ds)).st env _
          rw [exec, er_st]
          congr 1
          funext ds g
          cases items sk ds <;> rfl
        rw [q]
        obtain ⟨⟨⟨h1, h2⟩, h3⟩, h4⟩ := h
        exact ss_for hp G.calm (i_ok G fE h1) (tgR_ok (G.tg h2)) (pg_tg G.hK G.calm G.nod (G.tg h2)) (fS _ _ h4) (fold_of h3)
      · cases h
    | While t body orelse pos =>
      simp only [chkS] at h
      split at h
      · simp only [Bool.and_eq_true] at h
        have q : ∀ ct b, exec L.T R (.whl ct b) = fun env g => whlL (ev L.T R ct) (execs L.T R b) LF env g := fun ct b => by funext env g; rw [exec]
        rw [q]
        exact ss_whl LF hp (fT _ _ h.1) (fS _ _ h.2)
      · cases h
    | _ => simp only [chkS] at h; cases h
end
end Low

/-! Low, part 15: all defs of a text; the law's call. -/
namespace Low
open PySem L2

/-- a def of the text -/
structure FT where
  name : Str
  qual : Str
  st : Stmt
  N : List Str
  ps : List Str
structure Txt where
  fts : List FT
  fns : List (Str × Nat)
  blt : List Str
  glo : List (Str × Nat)
def Txt.kx (D : Txt) (ft : FT) : Kx := { N := ft.N, sc := defScope ft.st, own := (defScope ft.st).names, fns := D.fns, blt := D.blt, glo := D.glo }
def isFnK : ScopeKind → Bool
  | .function => true
  | _ => false
/-- a def's scope, checked -/
def scC (N ps : List Str) (sc : Scope) : Bool :=
  isFnK sc.kind && !sc.isCoroutine && !sc.isGenerator && decide N.Nodup && decide (N.take ps.length = ps) && (ps.all fun x => match sc.names.lookup x with | some .local => true | some .cell => true | _ => false) && (sc.names.all fun y => match y.2 with | .free => false | _ => true)
theorem scC_ok {N ps : List Str} {sc : Scope} (h : scC N ps sc = true) : FnScope N ps sc := by
  unfold scC at h
  simp only [Bool.and_eq_true, Bool.not_eq_true', decide_eq_true_eq, List.all_eq_true] at h
  obtain ⟨⟨⟨⟨⟨⟨h1, h2⟩, h3⟩, h4⟩, h5⟩, h6⟩, h7⟩ := h
  refine ⟨?_, h2, h3, h4, h5, fun x hx => ?_, fun y hy e => ?_⟩
  · cases e : sc.kind <;> rw [e] at h1 <;> first | rfl | (cases h1; done)
  · have q := h6 x hx
    split at q
    · exact .inl (by assumption)
    · exact .inr (by assumption)
    · cases q
  · have q := h7 y hy
    rw [e] at q
    cases q
/-- how deep the check may look -/
def dpt : Nat := 100
def okF (T : Tab) (D : Txt) (i : Nat) : Bool := match D.fts[i]?, T.fns[i]? with
  | some ft, some fn => !fn.ini && fn.defs.isEmpty && decide (fn.np = ft.ps.length) && decide (fn.nl = ft.N.length) && scC ft.N ft.ps (defScope ft.st) && chkSs (chkS T dpt (D.kx ft)) fn.body (defBody ft.st)
  | _, _ => false
def okN (D : Txt) : Bool := D.fns.all fun p => match D.fts[p.2]? with
  | some ft => decide (ft.name = p.1)
  | none => false
theorem mem_lookup {α : Type} {x : Str} {a : α} : ∀ {l : List (Str × α)}, l.lookup x = some a → (x, a) ∈ l
  | [], h => by cases h
  | (k, b) :: r, h => by
    rw [List.lookup_cons] at h
    split at h
    · rename_i e
      cases h
      rw [eq_of_beq e]
      exact List.mem_cons_self
    · exact List.mem_cons_of_mem _ (mem_lookup h)
theorem okN_ok {D : Txt} (h : okN D = true) {x : Str} {f : Nat} (e : D.fns.lookup x = some f) : ∃ ft, D.fts[f]? = some ft ∧ ft.name = x := by
  unfold okN at h
  rw [List.all_eq_true] at h
  have q := h _ (mem_lookup e)
  dsimp only at q
  split at q
  · rename_i ft e1
    exact ⟨ft, e1, of_decide_eq_true q⟩
  · cases q

theorem leave_nx {fn : Fn} {env : Env} {g : G} (h : fn.ini = false) : leave fn (.nx env g) = .ok .non g := by
  unfold leave
  dsimp only
  rw [h]
  rfl
theorem leave_rt {fn : Fn} {d : D} {env : Env} {g : G} (h : fn.ini = false) : leave fn (.rt d env g) = .ok d g := by
  unfold leave
  dsimp only
  rw [h]
  rfl
theorem leave_ex {fn : Fn} {c : Nat} {fs : List (Nat × D)} {env : Env} {g : G} : leave fn (.ex c fs env g) = .ex c fs g := rfl
theorem leave_bk {fn : Fn} {env : Env} {g : G} : leave fn (.bk env g) = .no := rfl
theorem leave_ct {fn : Fn} {env : Env} {g : G} : leave fn (.ct env g) = .no := rfl
theorem leave_no {fn : Fn} : leave fn .no = .no := rfl
/-! the entry -/
theorem reps_get {L : Lk} {F : Hp} {ρ : List Addr} {ds : List D} {vs : List V} (r : Reps L F ρ ds vs) : ds.length = vs.length := r.length
theorem entry_ok {L : Lk} {F : Hp} {ρ : List Addr} {g : G} {H : Hp} {ds : List D} {vs : List V} {N : List Str} {fn : Fn} (S : Sg L F ρ g H) (r : Reps L F ρ ds vs) (hi : fn.ini = false) (hn : fn.nl = N.length) (hl : ds.length ≤ fn.nl) :
    Sm L { H0 := H, F0 := F, al := ρ, self := none } F ρ (fun _ => 0) (entry fn ds) (start N vs) g H := by
  have e : entry fn ds = ds.map SV.val ++ List.replicate (fn.nl - ds.length) .emp := by
    unfold entry
    dsimp only
    rw [hi]
  have hlen := r.length
  have none_own : ∀ (i : Nat) m, (entry fn ds)[i]? ≠ some (.own m) := fun i m q => by
    rw [e] at q
    by_cases hi : i < ds.length
    · rw [List.getElem?_append_left (by simpa using hi), List.getElem?_map] at q
      cases z : ds[i]? with
      | none => rw [z] at q; cases q
      | some d => rw [z] at q; cases q
    · rw [List.getElem?_append_right (by simpa using hi), List.getElem?_replicate] at q
      split at q <;> cases q
  refine ⟨S, ?_, fun i s q => ?_, fun i j m m' q _ => absurd q (none_own i m), fun a o h _ => h, fun a h => .inl h, fun p h => (nomatch h), fun a o h => .inl ⟨o, h⟩, fun a h => S.live h⟩
  · rw [e]
    unfold L2.start
    simp only [List.length_append, List.length_map, List.length_replicate]
    omega
  · rw [e] at q
    by_cases hi : i < ds.length
    · rw [List.getElem?_append_left (by simpa using hi), List.getElem?_map] at q
      cases z : ds[i]? with
      | none => rw [z] at q; cases q
      | some d =>
        rw [z] at q; cases q
        obtain ⟨v, e1, e2⟩ := r.get' z
        refine ⟨v, ?_, e2⟩
        unfold L2.start
        rw [List.getElem?_append_left (by simp; omega), List.getElem?_map, e1]
        rfl
    · rw [List.getElem?_append_right (by simpa using hi), List.getElem?_replicate] at q
      split at q <;> cases q
      exact trivial

section
variable {P : Program} {w : World} {mg : Str → Option Value} {base : Heap} {L : Lk} {D : Txt}
/-- the text as it stands behind the top -/
structure TxOk (L : Lk) (mg : Str → Option Value) (D : Txt) : Prop where
  fns : ∀ i ft, D.fts[i]? = some ft → Fun L.K ft.name ft.qual ft.st (L.fa i) (L.fd i) ∧ L.ps i = ft.ps ∧ Binds L.K (L.fd i) ft.ps []
  nm : ∀ x f, D.fns.lookup x = some f → mg x = some (.ref (L.fa f))
  blt : ∀ x ∈ D.blt, mg x = none
  glo : ∀ x j, D.glo.lookup x = some j → ∃ d v u, L.T.glo[j]? = some d ∧ mg x = some u ∧ RelV v u ∧ ∀ F ρ, Rep L F ρ d v
  cls : L.T.cls = []
theorem all_ok (X : TxOk L mg D) (hN : okN D = true) (hF : ∀ i, i < D.fts.length → okF L.T D i = true) : ∀ (n i : Nat), i < D.fts.length → FnOk P w L.K mg base (L2.CX P w) n (L.fa i) (L.fd i) (L.ps i) (spF L (run L.T n) i) := by
  intro n
  induction n with
  | zero =>
    intro i hi
    refine ⟨spF_len, fun A outer s H args us vs Q E hr e0 hb r hsp => ?_⟩
    obtain ⟨F, ρ, g, ds, S, r, e, h⟩ := hsp
    rw [run] at h
    exact h.elim
  | succ n ih =>
    intro i hi
    have h := hF i hi
    unfold okF at h
    split at h
    · rename_i ft fn e1 e2
      simp only [Bool.and_eq_true, Bool.not_eq_true', decide_eq_true_eq, List.isEmpty_iff] at h
      obtain ⟨⟨⟨⟨⟨h1, h2⟩, h3⟩, h4⟩, h5⟩, h6⟩ := h
      obtain ⟨F, ps, bn⟩ := X.fns i ft e1
      have sc := scC_ok h5
      rw [ps]
      refine F.okX sc (fun vs H Q E q => by rw [← ps]; exact spF_len vs H Q E q) fun cdv A outer s H vs Q E hr hsp => ?_
      have G : Gd (cxOf (L2.CX P w) P w L.K mg base ft.N ft.qual (defScope ft.st) (L.fa i) cdv A outer s H E) L (D.kx ft) n (run L.T n) (fun cls d _ H => E cls d H) := {
        hK := rfl
        calm := rfl
        nod := sc.nd
        eN := rfl
        sc := rfl
        kind := sc.kind
        fn := fun _ _ => rfl
        fns := fun x f e => by
          obtain ⟨ft', k1, k2⟩ := okN_ok hN e
          have hf : f < D.fts.length := (List.getElem?_eq_some_iff.mp k1).1
          obtain ⟨F', ps', bn'⟩ := X.fns f ft' k1
          refine ⟨ih f hf, X.nm x f e, F'.kp, ?_⟩
          have q := hF f hf
          unfold okF at q
          rw [k1] at q
          cases e3 : L.T.fns[f]? with
          | none => rw [e3] at q; cases q
          | some fn' =>
            rw [e3] at q
            simp only [Bool.and_eq_true, Bool.not_eq_true', decide_eq_true_eq, List.isEmpty_iff] at q
            obtain ⟨⟨⟨⟨⟨q1, q2⟩, q3⟩, q4⟩, q5⟩, q6⟩ := q
            refine ⟨fn', rfl, by rw [q3, ps'], fun j hj => ⟨[], [], by rw [ps']; exact bn', .nil, fun F ρ => ?_⟩⟩
            rw [q2, List.drop_nil]
            exact Reps.nil
        room := hr
        blt := X.blt
        glo := X.glo
        tk := takes_of (X := cxOf (L2.CX P w) P w L.K mg base ft.N ft.qual (defScope ft.st) (L.fa i) cdv A outer s H E) rfl rfl rfl rfl
        cls := X.cls }
      have hp : PassesOwn (model P w) (cxOf (L2.CX P w) P w L.K mg base ft.N ft.qual (defScope ft.st) (L.fa i) cdv A outer s H E).A (cxOf (L2.CX P w) P w L.K mg base ft.N ft.qual (defScope ft.st) (L.fa i) cdv A outer s H E).env (cxOf (L2.CX P w) P w L.K mg base ft.N ft.qual (defScope ft.st) (L.fa i) cdv A outer s H E).xe :=
        passes_of (X := cxOf (L2.CX P w) P w L.K mg base ft.N ft.qual (defScope ft.st) (L.fa i) cdv A outer s H E) (K := fun e s'' => L2.CX P w outer H s E e s'') rfl
      refine ⟨tS L (fun cls d _ H => E cls d H) (execs L.T (run L.T n) fn.body), ss_ok (fun c s' hc => chkS_ok dpt _ _ _ c s' G hp hc) _ _ h6, ?_⟩
      obtain ⟨F0, ρ, g, ds, S, r, el, q⟩ := hsp
      have dl : ds.length = fn.np := by rw [r.length, el, ps, h3]
      have pl : ft.ps.length ≤ ft.N.length := by
        have := congrArg List.length sc.pre
        rw [List.length_take] at this
        omega
      have np : fn.np ≤ fn.nl := by rw [h3, h4]; exact pl
      refine ⟨_, F0, ρ, _, entry fn ds, g, entry_ok S r h1 h4 (by rw [dl]; exact np), ?_⟩
      rw [run, e2] at q
      dsimp only at q
      rw [if_pos ⟨dl, np⟩] at q
      cases ee : execs L.T (run L.T n) fn.body (entry fn ds) g with
      | nx env' g' =>
        rw [ee, leave_nx h1] at q
        exact fun σ' F' ρ' oa' H' x S' => q .non F' ρ' H' x S'.sg ⟨S'.bk, S'.br, S'.bf⟩ (by unfold Rep; rfl)
      | rt d env' g' =>
        rw [ee, leave_rt h1] at q
        exact fun v σ' F' ρ' oa' H' x S' rv => q v F' ρ' H' x S'.sg ⟨S'.bk, S'.br, S'.bf⟩ rv
      | ex c fs env' g' =>
        rw [ee, leave_ex] at q
        exact fun cls dx σ' F' ρ' oa' H' x S' rx => q cls dx F' ρ' H' x S'.sg ⟨S'.bk, S'.br, S'.bf⟩ rx
      | bk env' g' => rw [ee, leave_bk] at q; exact q.elim
      | ct env' g' => rw [ee, leave_ct] at q; exact q.elim
      | no => rw [ee, leave_no] at q; exact q.elim
    · cases h
end
end Low

/-! Low, part 16: the law's call, from the pure run. -/
namespace Low
open PySem L2

/-- a def as the top has written it -/
structure LnF (K : Frag) (ft : FT) : Prop where
  ex : ∃ (fa : Addr) (fd : FuncData), PySem.W.nsIn K mainGlobals ft.name = some (some (.ref fa)) ∧ Fun K ft.name ft.qual ft.st fa fd ∧ ∀ us : List Value, us.length = ft.ps.length → bindArgs fd ⟨us, []⟩ = pure (ft.ps.zip us)
theorem ln_mk {K : Frag} {x qual : Str} {st : Stmt} {N ps : List Str} {f : Addr} {oc : Value} {od an : Option Addr} {osl : Array (Option Value)} {kV doc pm cdv ct : Value}
    (a : PySem.W.nsIn K mainGlobals x = some (some (.ref f)))
    (l : K.lookup f = some ⟨oc, od, .func (PySem.W.fnOf x qual (defArgs st) (defBody st) (defScope st) .none kV doc pm an cdv ct), osl⟩)
    (c : PySem.W.codeIn K cdv qual = true) (k : PySem.W.keepIn K (.ref f) = true)
    (b : ∀ us : List Value, us.length = ps.length → bindArgs (PySem.W.fnOf x qual (defArgs st) (defBody st) (defScope st) .none kV doc pm an cdv ct) ⟨us, []⟩ = pure (ps.zip us)) : LnF K ⟨x, qual, st, N, ps⟩ :=
  ⟨f, _, a, fun_mk l c k, b⟩
structure Link (K : Frag) (T : Tab) (D : Txt) : Prop where
  fns : ∀ ft ∈ D.fts, LnF K ft
  blt : ∀ x ∈ D.blt, PySem.W.nsIn K mainGlobals x = some none
  glo : ∀ x j, D.glo.lookup x = some j → ∃ d v u, T.glo[j]? = some d ∧ PySem.W.nsIn K mainGlobals x = some (some u) ∧ RelV v u ∧ ∀ L : Lk, L.K = K → ∀ F ρ, Rep L F ρ d v
theorem pick {K : Frag} {T : Tab} {D : Txt} (h : Link K T D) : ∃ L : Lk, L.K = K ∧ L.T = T ∧ ∀ i ft, D.fts[i]? = some ft → PySem.W.nsIn K mainGlobals ft.name = some (some (.ref (L.fa i))) ∧ Fun K ft.name ft.qual ft.st (L.fa i) (L.fd i) ∧
    (∀ us : List Value, us.length = ft.ps.length → bindArgs (L.fd i) ⟨us, []⟩ = pure (ft.ps.zip us)) ∧ L.ps i = ft.ps := by
  have h1 : ∀ i : Nat, ∃ p : Addr × FuncData, ∀ ft, D.fts[i]? = some ft → PySem.W.nsIn K mainGlobals ft.name = some (some (.ref p.1)) ∧ Fun K ft.name ft.qual ft.st p.1 p.2 ∧ ∀ us : List Value, us.length = ft.ps.length → bindArgs p.2 ⟨us, []⟩ = pure (ft.ps.zip us) := fun i => by
    cases e : D.fts[i]? with
    | none => exact ⟨⟨0, PySem.W.fnOf "" "" (defArgs (.Pass ⟨0, 0, 0, 0⟩)) [] (defScope (.Pass ⟨0, 0, 0, 0⟩)) .none .none .none .none none .none .none⟩, fun ft q => nomatch q⟩
    | some ft =>
      obtain ⟨fa, fd, k1, k2, k3⟩ := (h.fns ft (List.mem_of_getElem? e)).ex
      exact ⟨⟨fa, fd⟩, fun ft' q => by cases q; exact ⟨k1, k2, k3⟩⟩
  obtain ⟨p, hp⟩ := Classical.axiomOfChoice h1
  refine ⟨{ T := T, nm := fun _ => Str.empty, ca := fun _ => 0, K := K, fa := fun i => (p i).1, fd := fun i => (p i).2, ps := fun i => ((D.fts[i]?).map (·.ps)).getD [] }, rfl, rfl, fun i ft e => ?_⟩
  obtain ⟨k1, k2, k3⟩ := hp i ft e
  exact ⟨k1, k2, k3, by show ((D.fts[i]?).map (·.ps)).getD [] = ft.ps; rw [e]; rfl⟩
theorem reps_ints {L : Lk} {F : Hp} {ρ : List Addr} : ∀ ns : List Int, Reps L F ρ (ns.map D.int) (ns.map V.int)
  | [] => Reps.nil
  | n :: ns => Reps.cons (by unfold Rep; rfl) (reps_ints ns)
theorem walk {l : PySem.W.OpenLaw} {q : Program} {loose : List Str} {XP : (Str → Option Value) → Heap → Prop} {YP : World → Heap → Prop} {d : DefRec} {K : Params → PySem.W.Frag} {T : Tab} {D : Txt} {n k i0 : Nat} {ft0 : FT} {x : Str}
    (hn : l.most = some n) (hn2 : n ≤ sizeLine) (hdf : d.params.defaults = []) (hr : Room k callerA)
    (hY : ∀ (w : World) (h : Heap), YP w h → (K w.params).In h) (h0 : D.fts[i0]? = some ft0) (hx : ft0.ps = [x]) (hd : d.name = ft0.name)
    (hc : T.cls = []) (hN : okN D = true) (hF : ∀ i, i < D.fts.length → okF T D i = true)
    (links : ∀ w : World, Link (K w.params) T D)
    (pure' : ∀ ns : List Int, ns.length ≤ n → (∀ z ∈ ns, Builtin.Int.intBits z ≤ 1048576) → ∃ g', run T k i0 [.lst (ns.map Low.D.int)] [] = .ok (.bl true) g') :
    PySem.W.WalkO q loose XP YP l.row.toRowW d [] (fun f vs => PySem.call f vs) := by
  obtain ⟨Lw, hL⟩ := Classical.axiomOfChoice fun w => pick (links w)
  refine walk_ofB (x := x) (CX := fun w => L2.CX l.prog w) (sp := fun w => spF (Lw w) (run T k) i0) hn hn2 hdf hr hY ?_ ?_ ?_
  · intro w mg fa h KX G hmg
    obtain ⟨eK, eT, e⟩ := hL w
    obtain ⟨a1, a2, a3, a4⟩ := e i0 ft0 h0
    have q := PySem.W.mg_of KX G a1
    rw [← hd, hmg] at q
    cases q
    refine ⟨(Lw w).fd i0, fun s u => ?_, fun base Kb Gb => ?_⟩
    · refine .of_eq ?_
      have := a3 [u] (by rw [hx]; rfl)
      rw [hx] at this
      exact this
    · have X : TxOk (Lw w) mg D := by
        refine ⟨fun i ft ei => ?_, fun y f ef => ?_, fun y hy => PySem.W.mg_none_of KX G ((links w).blt y hy), fun y j ej => ?_, by rw [eT]; exact hc⟩
        · obtain ⟨b1, b2, b3, b4⟩ := e i ft ei
          rw [eK]
          exact ⟨b2, b4, .all b3⟩
        · obtain ⟨ft, k1, k2⟩ := okN_ok hN ef
          obtain ⟨b1, _⟩ := e f ft k1
          rw [k2] at b1
          exact PySem.W.mg_of KX G b1
        · obtain ⟨dd, v, u, g1, g2, g3, g4⟩ := (links w).glo y j ej
          exact ⟨dd, v, u, by rw [eT]; exact g1, PySem.W.mg_of KX G g2, g3, g4 _ eK⟩
      have z := all_ok (P := l.prog) (w := w) (base := base) X hN (by rw [eT]; exact hF) k i0 (List.getElem?_eq_some_iff.mp h0).1
      rw [a4, hx, eK, eT] at z
      exact z
  · intro w H a ns hl hb hO hS
    obtain ⟨eK, eT, e⟩ := hL w
    obtain ⟨a1, a2, a3, a4⟩ := e i0 ft0 h0
    refine ⟨H, [], [], [.lst (ns.map Low.D.int)], ⟨fun _ _ h => h, rfl, List.nodup_nil, fun _ h => (nomatch h), fun n a m h => by simp at h⟩, Reps.cons ?_ Reps.nil, by rw [a4, hx]; rfl, ?_⟩
    · unfold Rep
      exact ⟨a, ns.map V.int, rfl, by rw [eK]; exact hS, reps_ints ns⟩
    · obtain ⟨g', eg⟩ := pure' ns hl hb
      rw [eg]
      intro v F' ρ' H' _ _ _ r
      unfold Rep at r
      exact r
  · intro w H s e s' hx'
    obtain ⟨_, _, _, _, _, _, _, _, _, _, _, _, z⟩ := hx'
    exact z.elim
end Low

/-! Low, part 17: to run code by simp. -/
namespace Low
theorem run_eq {T : Tab} {n f : Nat} {ds : List D} {g : G} {fn : Fn} (h : T.fns[f]? = some fn) (h1 : ds.length = fn.np ∧ fn.np ≤ fn.nl) : run T (n + 1) f ds g = leave fn (execs T (run T n) fn.body (entry fn ds) g) := by
  rw [run, h]
  dsimp only
  rw [if_pos h1]
section
variable {T : Tab} {R : Runner} {env : Env} {g : G}
theorem r_cst (d : D) : ev T R (.cst d) env g = .ok d g := by rw [ev]
theorem r_var (i : Nat) : ev T R (.var i) env g = match env[i]? with | some (.val d) => .ok d g | _ => .no := by rw [ev] <;> rfl
theorem r_glb (j : Nat) : ev T R (.glb j) env g = ofO g T.glo[j]? := by rw [ev]
theorem r_op1 (o : Op) (a : CE) : ev T R (.op o [a]) env g = (bor a env g (ev T R a env g)).bind fun x g => ofO g (opS o [view env g x]) := by rw [ev_op1]
theorem r_op2 (o : Op) (a b : CE) : ev T R (.op o [a, b]) env g = (bor a env g (ev T R a env g)).bind fun x g => (bor b env g (ev T R b env g)).bind fun y g => ofO g (opS o [view env g x, view env g y]) := by rw [ev_op2]
theorem r_slc (o : CE) (lo hi : List CE) : ev T R (.slc o lo hi) env g = (bor o env g (ev T R o env g)).bind fun x g => (evp T R lo env g).bind fun l g => (evp T R hi env g).bind fun u g => ofO g ((endOf l).bind fun l => (endOf u).bind fun u => sSlc (view env g x) l u) := by rw [ev]
theorem r_p0 : evp T R [] env g = .ok (.tup []) g := by rw [evp]
theorem r_p1 (e : CE) : evp T R [e] env g = intE (ev T R e env g) := by rw [evp]
theorem r_bm0 (o : Op) (r : CE) : ev T R (.bm o r []) env g = (bor r env g (ev T R r env g)).bind fun x g => if bmK o (view env g x) then ofO g (opS o [view env g x]) else .no := by
  simp only [ev, evs, Er.bind_ok, List.map]
theorem r_bm1 (o : Op) (r a : CE) : ev T R (.bm o r [a]) env g = (bor r env g (ev T R r env g)).bind fun x g => if bmK o (view env g x) then (bor a env g (ev T R a env g)).bind fun y g => ofO g (opS o [view env g x, view env g y]) else .no := by
  simp only [ev, evs, Er.bind_assoc, Er.bind_ok, List.map]
theorem r_chn (o p : Op) (a b c : CE) : ev T R (.chn o p a b c) env g = (ev T R a env g).bind fun x g => (ev T R b env g).bind fun y g =>
      (ofO g (opS o [x, y])).bo.bind fun k g => if k then (ev T R c env g).bind fun z g => ofO g (opS p [y, z]) else .ok (.bl false) g := by rw [ev]
theorem r_tt (a : CE) : ev T R (.tt a) env g = (bor a env g (ev T R a env g)).bind fun d g => ofO g ((truD (view env g d)).map .bl) := by rw [ev]
theorem r_and (a b : CE) : ev T R (.andd a b) env g = (ev T R a env g).bo.bind fun x g => if x then ev T R b env g else .ok (.bl false) g := by rw [ev]
theorem r_or (a b : CE) : ev T R (.orr a b) env g = (ev T R a env g).bo.bind fun x g => if x then .ok (.bl true) g else ev T R b env g := by rw [ev]
theorem r_not (a : CE) : ev T R (.nott a) env g = (ev T R a env g).bo.bind fun x g => .ok (.bl (!x)) g := by rw [ev]
theorem r_ife (c a b : CE) : ev T R (.ife c a b) env g = (ev T R c env g).bo.bind fun x g => if x then ev T R a env g else ev T R b env g := by rw [ev]
theorem r_tup (es : List CE) (h : Nat.ble es.length SZ = true) : ev T R (.tup es) env g = (evv T R es env g).bind fun ds g => .ok (.tup ds) g := by
  rw [ev]
  cases e : evv T R es env g with
  | ok ds g' =>
    rw [Er.bind_ok, Er.bind_ok, if_pos]
    rw [evv_len e]
    exact Nat.le_of_ble_eq_true h
  | ex c fs g' => rfl
  | no => rfl
theorem r_lst (es : List CE) (h : Nat.ble es.length SZ = true) : ev T R (.lst es) env g = (evv T R es env g).bind fun ds g => .ok (.lst ds) g := by
  rw [ev]
  cases e : evv T R es env g with
  | ok ds g' =>
    rw [Er.bind_ok, Er.bind_ok, if_pos]
    rw [evv_len e]
    exact Nat.le_of_ble_eq_true h
  | ex c fs g' => rfl
  | no => rfl
theorem r_tup0 : ev T R (.tup []) env g = (evv T R [] env g).bind fun ds g => .ok (.tup ds) g := r_tup _ rfl
theorem r_lst0 : ev T R (.lst []) env g = (evv T R [] env g).bind fun ds g => .ok (.lst ds) g := r_lst _ rfl
theorem r_tup1 (a : CE) : ev T R (.tup [a]) env g = (evv T R [a] env g).bind fun ds g => .ok (.tup ds) g := r_tup _ rfl
theorem r_lst1 (a : CE) : ev T R (.lst [a]) env g = (evv T R [a] env g).bind fun ds g => .ok (.lst ds) g := r_lst _ rfl
theorem r_tup2 (a b : CE) : ev T R (.tup [a, b]) env g = (evv T R [a, b] env g).bind fun ds g => .ok (.tup ds) g := r_tup _ rfl
theorem r_lst2 (a b : CE) : ev T R (.lst [a, b]) env g = (evv T R [a, b] env g).bind fun ds g => .ok (.lst ds) g := r_lst _ rfl
theorem r_tup3 (a b c : CE) : ev T R (.tup [a, b, c]) env g = (evv T R [a, b, c] env g).bind fun ds g => .ok (.tup ds) g := r_tup _ rfl
theorem r_lst3 (a b c : CE) : ev T R (.lst [a, b, c]) env g = (evv T R [a, b, c] env g).bind fun ds g => .ok (.lst ds) g := r_lst _ rfl
theorem r_tup4 (a b c d : CE) : ev T R (.tup [a, b, c, d]) env g = (evv T R [a, b, c, d] env g).bind fun ds g => .ok (.tup ds) g := r_tup _ rfl
theorem r_lst4 (a b c d : CE) : ev T R (.lst [a, b, c, d]) env g = (evv T R [a, b, c, d] env g).bind fun ds g => .ok (.lst ds) g := r_lst _ rfl
theorem r_tup5 (a b c d e : CE) : ev T R (.tup [a, b, c, d, e]) env g = (evv T R [a, b, c, d, e] env g).bind fun ds g => .ok (.tup ds) g := r_tup _ rfl
theorem r_lst5 (a b c d e : CE) : ev T R (.lst [a, b, c, d, e]) env g = (evv T R [a, b, c, d, e] env g).bind fun ds g => .ok (.lst ds) g := r_lst _ rfl
theorem r_tup6 (a b c d e f : CE) : ev T R (.tup [a, b, c, d, e, f]) env g = (evv T R [a, b, c, d, e, f] env g).bind fun ds g => .ok (.tup ds) g := r_tup _ rfl
theorem r_lst6 (a b c d e f : CE) : ev T R (.lst [a, b, c, d, e, f]) env g = (evv T R [a, b, c, d, e, f] env g).bind fun ds g => .ok (.lst ds) g := r_lst _ rfl
theorem r_tup7 (a b c d e f i : CE) : ev T R (.tup [a, b, c, d, e, f, i]) env g = (evv T R [a, b, c, d, e, f, i] env g).bind fun ds g => .ok (.tup ds) g := r_tup _ rfl
theorem r_lst7 (a b c d e f i : CE) : ev T R (.lst [a, b, c, d, e, f, i]) env g = (evv T R [a, b, c, d, e, f, i] env g).bind fun ds g => .ok (.lst ds) g := r_lst _ rfl
theorem r_tup8 (a b c d e f i h : CE) : ev T R (.tup [a, b, c, d, e, f, i, h]) env g = (evv T R [a, b, c, d, e, f, i, h] env g).bind fun ds g => .ok (.tup ds) g := r_tup _ rfl
theorem r_lst8 (a b c d e f i h : CE) : ev T R (.lst [a, b, c, d, e, f, i, h]) env g = (evv T R [a, b, c, d, e, f, i, h] env g).bind fun ds g => .ok (.lst ds) g := r_lst _ rfl
theorem r_cal (f : Nat) (es : List CE) : ev T R (.cal f es) env g = (evv T R es env g).bind fun ds g => callF T R f ds g := by rw [ev]
theorem r_isi (e : CE) (ts : List Ty) : ev T R (.isi e ts) env g = (ev T R e env g).bind fun d g => ofO g ((anyTy T d ts).map .bl) := by rw [ev]
theorem r_v0 : evv T R [] env g = .ok [] g := by rw [evv]
theorem r_v1 (e : CE) (es : List CE) : evv T R (e :: es) env g = (ev T R e env g).bind fun d g => (evv T R es env g).bind fun ds g => .ok (d :: ds) g := by rw [evv]
theorem b_var (i : Nat) (r : Er D) : bor (.var i) env g r = match env[i]? with | some (.own _) => .ok (.slot i) g | _ => r := rfl
theorem b_cst (a : D) (r : Er D) : bor (.cst a) env g r = r := rfl
theorem b_glb (a : Nat) (r : Er D) : bor (.glb a) env g r = r := rfl
theorem b_op (o : Op) (a : List CE) (r : Er D) : bor (.op o a) env g r = r := rfl
theorem b_slc (o : CE) (a b : List CE) (r : Er D) : bor (.slc o a b) env g r = r := rfl
theorem b_bm (o : Op) (a : CE) (b : List CE) (r : Er D) : bor (.bm o a b) env g r = r := rfl
theorem b_ife (a b c : CE) (r : Er D) : bor (.ife a b c) env g r = r := rfl
theorem b_tup (a : List CE) (r : Er D) : bor (.tup a) env g r = r := rfl
theorem b_lst (a : List CE) (r : Er D) : bor (.lst a) env g r = r := rfl
theorem b_cal (f : Nat) (a : List CE) (r : Er D) : bor (.cal f a) env g r = r := rfl
theorem b_isi (f : CE) (a : List Ty) (r : Er D) : bor (.isi f a) env g r = r := rfl
theorem b_comp (ws vs : List Nat) (k : Sk) (s c : List CE) (e : CE) (r : Er D) : bor (.comp ws vs k s c e) env g r = r := rfl
theorem w_int (i : Int) : view env g (.int i) = .int i := rfl
theorem w_bl (i : Bool) : view env g (.bl i) = .bl i := rfl
theorem w_str (i : List Nat) : view env g (.str i) = .str i := rfl
theorem w_non : view env g .non = .non := rfl
theorem w_tup (i : List D) : view env g (.tup i) = .tup i := rfl
theorem w_lst (i : List D) : view env g (.lst i) = .lst i := rfl
theorem w_ins (c : Nat) (i : List (Nat × D)) : view env g (.ins c i) = .ins c i := rfl
theorem w_exc (c : Nat) (i : List (Nat × D)) : view env g (.exc c i) = .exc c i := rfl
theorem i_int (i : Int) : intE (.ok (.int i) g) = .ok (.int i) g := rfl
theorem o_some {α : Type} (a : α) : ofO g (some a) = .ok a g := rfl
theorem o_none {α : Type} : ofO g (none : Option α) = .no := rfl
theorem s_nil : execs T R [] env g = .nx env g := by rw [execs]
theorem s_cons (s : CS) (r : List CS) : execs T R (s :: r) env g = (exec T R s env g).seq (execs T R r) := by rw [execs]
theorem s_asg (i : Nat) (e : CE) : exec T R (.asg i e) env g = (ev T R e env g).st env fun d g => .nx (env.set i (.val d)) g := by rw [exec]
theorem s_ret (e : CE) : exec T R (.ret e) env g = (ev T R e env g).st env fun d g => .rt d env g := by rw [exec]
theorem s_retN : exec T R .retN env g = .rt .non env g := by rw [exec]
theorem s_pas : exec T R .pas env g = .nx env g := by rw [exec]
theorem s_brk : exec T R .brk env g = .bk env g := by rw [exec]
theorem s_cnt : exec T R .cnt env g = .ct env g := by rw [exec]
theorem s_par (is : List Nat) (es : List CE) : exec T R (.par is es) env g = (evv T R es env g).st env fun ds g => if is.length = ds.length then .nx (setAll is ds env) g else .no := by rw [exec]
theorem s_unp (is : List Nat) (e : CE) : exec T R (.unp is e) env g = (bor e env g (ev T R e env g)).st env fun d g => match view env g d with
      | .tup ds => if is.length = ds.length then .nx (setAll is ds env) g else .no
      | .lst ds => if is.length = ds.length then .nx (setAll is ds env) g else .no
      | _ => .no := by rw [exec] <;> rfl
theorem s_aug (i : Nat) (o : Op) (e : CE) : exec T R (.aug i o e) env g = match env[i]? with
      | some (.val x) => (ev T R e env g).st env fun d g => match augS o x d with
        | some z => .nx (env.set i (.val z)) g
        | none => .no
      | _ => .no := by rw [exec] <;> rfl
theorem s_iff (c : CE) (a b : List CS) : exec T R (.iff c a b) env g = (ev T R c env g).bo.st env fun x g => if x then execs T R a env g else execs T R b env g := by rw [exec]
theorem s_exp (e : CE) : exec T R (.exp e) env g = (ev T R e env g).st env fun _ g => .nx env g := by rw [exec]
theorem s_fr (vs : List Nat) (k : Sk) (src : List CE) (body : List CS) : exec T R (.fr vs k src body) env g = (evv T R src env g).st env fun ds g => match items k ds with
      | some l => forL (fun x env => tgt vs x env) (execs T R body) l env g
      | none => .no := by rw [exec] <;> rfl
theorem s_whl (c : CE) (body : List CS) : exec T R (.whl c body) env g = whlL (ev T R c) (execs T R body) LF env g := by rw [exec]
end
/-! operations with what they ask -/
theorem mulOk_of {i j : Int} {a b : Nat} (h1 : i.natAbs < 2 ^ a) (h2 : j.natAbs < 2 ^ b) (h : a + b < 134000000) : mulOk i j = true := by
  have l : ∀ {n k : Nat}, n < 2 ^ k → n.log2 ≤ k := fun {n k} q => by
    by_cases z : n = 0
    · subst z; simp
    · exact Nat.le_of_lt ((Nat.log2_lt z).mpr q)
  unfold mulOk
  exact decide_eq_true (by have := l h1; have := l h2; omega)
theorem mulOk_s {i j : Int} (h1 : -9223372036854775808 < i) (h2 : i < 9223372036854775808) (h3 : -9223372036854775808 < j) (h4 : j < 9223372036854775808) : mulOk i j = true :=
  mulOk_of (a := 63) (b := 63) (by omega) (by omega) (by decide)
theorem p_add (i j : Int) : opS .add [.int i, .int j] = some (.int (i + j)) := rfl
theorem p_sub (i j : Int) : opS .sub [.int i, .int j] = some (.int (i - j)) := rfl
theorem p_mul {i j : Int} (h : mulOk i j = true) : opS .mul [.int i, .int j] = some (.int (i * j)) := by
  show (if mulOk i j = true then some (D.int (i * j)) else none) = _
  rw [if_pos h]
theorem p_mod {i j : Int} (h : 0 < j) : opS .mod [.int i, .int j] = some (.int (i % j)) := by
  show (if j = 0 then none else some (D.int (i.fmod j))) = _
  rw [if_neg (by omega), Int.fmod_eq_emod_of_nonneg i (by omega)]
theorem divOk_s {i j : Int} (h1 : j ≠ 0) (h2 : j.natAbs < 1073741824) : divOk i j = true := by
  unfold divOk
  rw [PyProof.noPylong_small h2]
  simp [h1]
theorem p_div {i j : Int} (h : 0 < j) (h2 : divOk i j = true) : opS .fdiv [.int i, .int j] = some (.int (i / j)) := by
  show (if divOk i j = true then some (D.int (i.fdiv j)) else none) = _
  rw [if_pos h2, Int.fdiv_eq_ediv_of_nonneg i (by omega)]
theorem p_pow {i j : Int} (h1 : 0 ≤ j) (h2 : j ≤ 1000000) (h3 : i.natAbs < 2 ^ 64) : opS .pow [.int i, .int j] = some (.int (i ^ j.toNat)) := by
  show (if 0 ≤ j ∧ j ≤ 1000000 ∧ i.natAbs < 2 ^ 64 then some (D.int (i ^ j.toNat)) else none) = _
  rw [if_pos ⟨h1, h2, h3⟩]
theorem p_neg (i : Int) : opS .neg [.int i] = some (.int (-i)) := rfl
theorem p_lt (i j : Int) : opS .lt [.int i, .int j] = some (.bl (decide (i < j))) := rfl
theorem p_le (i j : Int) : opS .le [.int i, .int j] = some (.bl (decide (i ≤ j))) := rfl
theorem p_gt (i j : Int) : opS .gt [.int i, .int j] = some (.bl (decide (j < i))) := rfl
theorem p_ge (i j : Int) : opS .ge [.int i, .int j] = some (.bl (decide (j ≤ i))) := rfl
theorem p_eqI (i j : Int) : opS .eq [.int i, .int j] = some (.bl (decide (i = j))) := by
  show (eqD (.int i) (.int j)).map D.bl = _
  show some (D.bl (i == j)) = _
  rw [Bool.beq_eq_decide_eq]
theorem p_neI (i j : Int) : opS .ne [.int i, .int j] = some (.bl (!decide (i = j))) := by
  show some (D.bl (!(i == j))) = _
  rw [Bool.beq_eq_decide_eq]
theorem p_eqS (i j : List Nat) : opS .eq [.str i, .str j] = some (.bl (decide (i = j))) := by
  show some (D.bl (i == j)) = _
  rw [Bool.beq_eq_decide_eq]
theorem p_neS (i j : List Nat) : opS .ne [.str i, .str j] = some (.bl (!decide (i = j))) := by
  show some (D.bl (!(i == j))) = _
  rw [Bool.beq_eq_decide_eq]
theorem p_addS {i j : List Nat} (h : i.length + j.length ≤ SZ) : opS .add [.str i, .str j] = some (.str (i ++ j)) := by
  show (if i.length + j.length ≤ SZ then some (D.str (i ++ j)) else none) = _
  rw [if_pos h]
theorem p_addL {i j : List D} (h : i.length + j.length ≤ SZ) : opS .add [.lst i, .lst j] = some (.lst (i ++ j)) := by
  show (if i.length + j.length ≤ SZ then some (D.lst (i ++ j)) else none) = _
  rw [if_pos h]
theorem p_abs (i : Int) : opS .abs [.int i] = some (.int (i.natAbs : Nat)) := by
  show some (D.int (if i < 0 then -i else i)) = _
  congr 2
  split <;> omega
theorem p_max (i j : Int) : opS .max2 [.int i, .int j] = some (.int (max i j)) := by
  show some (D.int (if j > i then j else i)) = _
  congr 2
  split <;> omega
theorem p_min (i j : Int) : opS .min2 [.int i, .int j] = some (.int (min i j)) := by
  show some (D.int (if j < i then j else i)) = _
  congr 2
  split <;> omega
theorem p_intB (b : Bool) : opS .int [.bl b] = some (.int (if b then 1 else 0)) := rfl
theorem p_intI (b : Int) : opS .int [.int b] = some (.int b) := rfl
theorem p_lenL (b : List D) : opS .len [.lst b] = some (.int b.length) := rfl
theorem p_lenT (b : List D) : opS .len [.tup b] = some (.int b.length) := rfl
theorem p_list (b : List D) : opS .list [.lst b] = some (.lst b) := rfl
theorem p_listT (b : List D) : opS .list [.tup b] = some (.lst b) := rfl
theorem p_tup (b : List D) : opS .tuple [.lst b] = some (.tup b) := rfl
theorem p_tupT (b : List D) : opS .tuple [.tup b] = some (.tup b) := rfl
/-- an index that is not below nought -/
theorem p_idx {xs : List D} {i : Int} {d : D} (h : 0 ≤ i) (hd : xs[i.toNat]? = some d) : opS .idx [.lst xs, .int i] = some d := by
  show (ixOf i xs.length).bind (fun k => xs[k]?) = _
  have hl : i.toNat < xs.length := (List.getElem?_eq_some_iff.mp hd).1
  unfold ixOf
  rw [if_pos h, if_pos (by omega)]
  exact hd
theorem p_idxT {xs : List D} {i : Int} {d : D} (h : 0 ≤ i) (hd : xs[i.toNat]? = some d) : opS .idx [.tup xs, .int i] = some d := by
  show (ixOf i xs.length).bind (fun k => xs[k]?) = _
  have hl : i.toNat < xs.length := (List.getElem?_eq_some_iff.mp hd).1
  unfold ixOf
  rw [if_pos h, if_pos (by omega)]
  exact hd
theorem c_of {T : Tab} {R : Runner} {f : Nat} {ds : List D} {g : G} {fn : Fn} (h : T.fns[f]? = some fn) (h1 : ds.length = fn.np) : callF T R f ds g = R f ds g := by
  unfold callF
  rw [h]
  dsimp only
  unfold fill
  rw [if_pos ⟨by omega, by omega⟩, show ds.length + fn.defs.length - fn.np = fn.defs.length by omega, List.drop_length, List.append_nil]
theorem truD_bl (b : Bool) : truD (.bl b) = some b := rfl
/-- the turns of a while, each known -/
theorem whl_ok {c : Env → G → Er D} {body : Env → G → Sr} {g : G} {E : Nat → Env} (t : Nat) (ht : t < LF) (h1 : ∀ i, i < t → c (E i) g = .ok (.bl true) g ∧ body (E i) g = .nx (E (i + 1)) g) (h2 : c (E t) g = .ok (.bl false) g) : whlL c body LF (E 0) g = .nx (E t) g := by
  have key : ∀ (k i m : Nat), i + k = t → k < m → whlL c body m (E i) g = .nx (E t) g := fun k => by
    induction k with
    | zero =>
      intro i m e hm
      cases m with
      | zero => omega
      | succ m =>
        have : i = t := by omega
        subst this
        rw [whlL, h2]
        rfl
    | succ k ih =>
      intro i m e hm
      cases m with
      | zero => omega
      | succ m =>
        obtain ⟨q1, q2⟩ := h1 i (by omega)
        rw [whlL, q1, Er.bo_ok, Er.st_ok, if_pos rfl, q2]
        exact ih (i + 1) m (by omega) (by omega)
  exact key t 0 LF (by omega) ht
/-- the turns of a for, by what stays true -/
theorem for_inv {tg : D → Env → Option Env} {body : Env → G → Sr} {g : G} {P : Nat → Env → Prop} : ∀ (l : List D) (i0 : Nat) (env : Env), P i0 env → (∀ i d env, l[i]? = some d → P (i0 + i) env → ∃ env', tg d env = some env' ∧ ∃ env'', body env' g = .nx env'' g ∧ P (i0 + i + 1) env'') → ∃ env', forL tg body l env g = .nx env' g ∧ P (i0 + l.length) env'
  | [], i0, env, h, _ => ⟨env, by rw [forL], by simpa using h⟩
  | d :: l, i0, env, h, hs => by
    obtain ⟨e1, k1, e2, k2, k3⟩ := hs 0 d env rfl h
    obtain ⟨e3, k4, k5⟩ := for_inv l (i0 + 1) e2 k3 fun i d' env' hd hp => by
      have := hs (i + 1) d' env' (by simpa using hd) (by rw [show i0 + (i + 1) = i0 + 1 + i by omega]; exact hp)
      rw [show i0 + (i + 1) + 1 = i0 + 1 + i + 1 by omega] at this
      exact this
    refine ⟨e3, ?_, by rw [List.length_cons, show i0 + (l.length + 1) = i0 + 1 + l.length by omega]; exact k5⟩
    rw [forL, k1]
    dsimp only
    rw [k2]
    exact k4
theorem p_idxS {xs : List Nat} {i : Int} {c : Nat} (h : 0 ≤ i) (hl : xs.length ≤ SZ) (hd : xs[i.toNat]? = some c) : opS .idx [.str xs, .int i] = some (.str [c]) := by
  show (if xs.length ≤ SZ then (ixOf i xs.length).bind (fun k => (xs[k]?).map fun c => D.str [c]) else none) = _
  have hl2 : i.toNat < xs.length := (List.getElem?_eq_some_iff.mp hd).1
  rw [if_pos hl]
  unfold ixOf
  rw [if_pos h, if_pos (by omega)]
  show (xs[i.toNat]?).map _ = _
  rw [hd]
  rfl
theorem p_mulS {a : List Nat} {j : Int} (h1 : a.length * j.toNat ≤ SZ) (h2 : j.natAbs < 2 ^ 62) : opS .mul [.str a, .int j] = some (.str (repl j.toNat a)) := by
  show (if a.length * j.toNat ≤ SZ ∧ j.natAbs < 2 ^ 62 then some (D.str (repl j.toNat a)) else none) = _
  rw [if_pos ⟨h1, h2⟩]
end Low

namespace Low.K01
open PySem L2 Low
def top (i : Nat) : Stmt := PySem.Challenge.pw_rodleg_k01_wholes.main.body.getD i (.Pass ⟨0, 0, 0, 0⟩)
/-- whole_root: 0 n, 1 found, 2 nearer -/
def c_whole_root : List CS := [
  .iff (.op .eq [(.var 0), (.cst (.int 0))]) [.ret (.cst (.int 0))] [],
  .asg 1 (.op .shl [(.cst (.int 1)), (.op .fdiv [(.op .add [(.bm .bitlen (.var 0) []), (.cst (.int 1))]), (.cst (.int 2))])]),
  .whl (.tt (.cst (.bl true))) [.asg 2 (.op .fdiv [(.op .add [(.var 1), (.op .fdiv [(.var 0), (.var 1)])]), (.cst (.int 2))]), .iff (.op .ge [(.var 2), (.var 1)]) [.ret (.var 1)] [], .asg 1 (.var 2)]]
/-- common: 0 one, 1 other -/
def c_common : List CS := [
  .asg 0 (.op .abs [(.var 0)]),
  .asg 1 (.op .abs [(.var 1)]),
  .whl (.op .gt [(.var 1), (.cst (.int 0))]) [.par [0, 1] [(.var 1), (.op .mod [(.var 0), (.var 1)])]],
  .ret (.var 0)]
/-- _law_mixed: 0 _law_cell, 1 _law_k, 2 _law_mix -/
def c__law_mixed : List CS := [
  .asg 2 (.op .mod [(.op .mul [(.op .add [(.op .add [(.var 0), (.op .mul [(.cst (.int 7919)), (.var 1)])]), (.cst (.int 11))]), (.cst (.int 48271))]), (.cst (.int 2147483647))]),
  .ret (.op .mod [(.op .add [(.op .mul [(.var 2), (.var 2)]), (.op .mul [(.cst (.int 40692)), (.var 2)])]), (.cst (.int 2147483399))])]
/-- _law_great: 0 _law_cell, 1 _law_most, 2 _law_found, 3 _law_k -/
def c__law_great : List CS := [
  .asg 2 (.cst (.int 0)),
  .fr [3] .range1 [(.cst (.int 8))] [.asg 2 (.op .add [(.op .mul [(.var 2), (.cst (.int 2147483399))]), (.cal 2 [(.var 0), (.op .add [(.cst (.int 40)), (.var 3)])])])],
  .ret (.op .mod [(.var 2), (.var 1)])]
/-- _law_whole: 0 _law_found, 1 _law_due -/
def c__law_whole : List CS := [
  .ret (.andd (.isi (.var 0) [.int]) (.andd (.nott (.isi (.var 0) [.bool])) (.op .eq [(.var 0), (.var 1)])))]
/-- _law_common: 0 _law_one, 1 _law_other -/
def c__law_common : List CS := [
  .whl (.op .gt [(.var 1), (.cst (.int 0))]) [.par [0, 1] [(.var 1), (.op .mod [(.var 0), (.var 1)])]],
  .ret (.var 0)]
/-- _law_right: 0 _law_cell, 1 _law_most, 2 _law_number, 3 _law_found, 4 _law_both, 5 _law_one, 6 _law_other, 7 _law_turned -/
def c__law_right : List CS := [
  .asg 1 (.op .idx [(.lst [(.cst (.int 10)), (.cst (.int 1000)), (.op .pow [(.cst (.int 10)), (.cst (.int 9))]), (.op .pow [(.cst (.int 10)), (.cst (.int 60))]), (.op .pow [(.cst (.int 10)), (.cst (.int 30))])]), (.op .mod [(.op .fdiv [(.cal 2 [(.var 0), (.cst (.int 1))]), (.cst (.int 7))]), (.cst (.int 5))])]),
  .asg 2 (.cal 3 [(.cal 2 [(.var 0), (.cst (.int 2))]), (.var 1)]),
  .iff (.op .eq [(.op .mod [(.op .fdiv [(.cal 2 [(.var 0), (.cst (.int 3))]), (.cst (.int 7))]), (.cst (.int 2))]), (.cst (.int 0))]) [.asg 2 (.op .max2 [(.cst (.int 0)), (.op .add [(.op .mul [(.var 2), (.var 2)]), (.op .idx [(.lst [(.cst (.int 0)), (.cst (.int 1)), (.op .neg [(.cst (.int 1))]), (.cst (.int 0))]), (.op .mod [(.op .fdiv [(.cal 2 [(.var 0), (.cst (.int 4))]), (.cst (.int 7))]), (.cst (.int 4))])])])])] [],
  .asg 3 (.cal 0 [(.var 2)]),
  .iff (.orr (.nott (.tt (.cal 4 [(.var 3), (.var 3)]))) (.orr (.op .lt [(.var 3), (.cst (.int 0))]) (.orr (.op .gt [(.op .mul [(.var 3), (.var 3)]), (.var 2)]) (.op .le [(.op .mul [(.op .add [(.var 3), (.cst (.int 1))]), (.op .add [(.var 3), (.cst (.int 1))])]), (.var 2)])))) [.ret (.cst (.bl false))] [],
  .asg 4 (.op .idx [(.lst [(.cst (.int 0)), (.cst (.int 1)), (.cst (.int 6)), (.cal 3 [(.cal 2 [(.var 0), (.cst (.int 5))]), (.var 1)])]), (.op .mod [(.op .fdiv [(.cal 2 [(.var 0), (.cst (.int 6))]), (.cst (.int 7))]), (.cst (.int 4))])]),
  .asg 5 (.op .mul [(.var 4), (.cal 3 [(.cal 2 [(.var 0), (.cst (.int 7))]), (.op .idx [(.lst [(.cst (.int 2)), (.cst (.int 50)), (.var 1)]), (.op .mod [(.op .fdiv [(.cal 2 [(.var 0), (.cst (.int 8))]), (.cst (.int 7))]), (.cst (.int 3))])])])]),
  .asg 6 (.op .mul [(.var 4), (.cal 3 [(.cal 2 [(.var 0), (.cst (.int 9))]), (.op .idx [(.lst [(.cst (.int 3)), (.cst (.int 50)), (.var 1)]), (.op .mod [(.op .fdiv [(.cal 2 [(.var 0), (.cst (.int 10))]), (.cst (.int 7))]), (.cst (.int 3))])])])]),
  .asg 7 (.op .idx [(.lst [(.cst (.int 1)), (.op .neg [(.cst (.int 1))])]), (.op .mod [(.op .fdiv [(.cal 2 [(.var 0), (.cst (.int 11))]), (.cst (.int 7))]), (.cst (.int 2))])]),
  .ret (.andd (.cal 4 [(.cal 1 [(.op .mul [(.var 5), (.var 7)]), (.var 6)]), (.cal 5 [(.var 5), (.var 6)])]) (.op .eq [(.cal 1 [(.var 6), (.var 5)]), (.cal 1 [(.var 5), (.var 6)])]))]
/-- _law_neighbours: 0 _law_cell, 1 _law_one, 2 _law_other, 3 _law_k -/
def c__law_neighbours : List CS := [
  .unp [1, 2] (.tup [(.cst (.int 1)), (.cst (.int 1))]),
  .fr [3] .range1 [(.op .add [(.cst (.int 1500)), (.op .mod [(.op .fdiv [(.cal 2 [(.var 0), (.cst (.int 5))]), (.cst (.int 7))]), (.cst (.int 3000))])])] [.par [1, 2] [(.op .add [(.var 1), (.var 2)]), (.var 1)]],
  .ret (.tup [(.var 1), (.var 2), (.op .add [(.cst (.int 1)), (.op .mod [(.op .fdiv [(.cal 2 [(.var 0), (.cst (.int 6))]), (.cst (.int 7))]), (.op .pow [(.cst (.int 10)), (.cst (.int 9))])])])])]
/-- _law_great_right: 0 _law_cell, 1 _law_one, 2 _law_other, 3 _law_many, 4 _law_found, 5 _law_k, 6 _law_more -/
def c__law_great_right : List CS := [
  .unp [1, 2, 3] (.cal 7 [(.var 0)]),
  .iff (.orr (.op .ne [(.cal 1 [(.op .mul [(.var 1), (.var 3)]), (.op .mul [(.op .neg [(.var 2)]), (.var 3)])]), (.var 3)]) (.op .ne [(.cal 1 [(.op .mul [(.var 2), (.var 3)]), (.op .mul [(.var 1), (.var 3)])]), (.var 3)])) [.ret (.cst (.bl false))] [],
  .asg 4 (.var 3),
  .fr [5] .range1 [(.cst (.int 39))] [.asg 4 (.op .add [(.op .mul [(.var 4), (.op .pow [(.cst (.int 10)), (.cst (.int 50))])]), (.var 3)])],
  .ret (.op .eq [(.comp [6] [6] .seq [(.tup [(.op .neg [(.cst (.int 1))]), (.cst (.int 0)), (.op .mul [(.cst (.int 2)), (.var 4)])])] [] (.cal 0 [(.op .add [(.op .mul [(.var 4), (.var 4)]), (.var 6)])])), (.lst [(.op .sub [(.var 4), (.cst (.int 1))]), (.var 4), (.var 4)])])]
/-- law: 0 _law_script, 1 _law_k, 2 _law_cell -/
def c_law : List CS := [
  .iff (.nott (.tt (.cal 8 [(.op .sum [(.var 0)])]))) [.ret (.cst (.bl false))] [],
  .fr [1, 2] .enum [(.slc (.op .add [(.lst [(.cst (.int 5))]), (.op .list [(.var 0)])]) [] [(.cst (.int 41))])] [.iff (.nott (.tt (.cal 6 [(.cal 2 [(.var 2), (.op .add [(.cst (.int 400)), (.var 1)])])]))) [.ret (.cst (.bl false))] []],
  .ret (.cst (.bl true))]
def tab : Tab := { fns := [⟨1, 3, false, [], c_whole_root⟩, ⟨2, 2, false, [], c_common⟩, ⟨2, 3, false, [], c__law_mixed⟩, ⟨2, 4, false, [], c__law_great⟩, ⟨2, 2, false, [], c__law_whole⟩, ⟨2, 2, false, [], c__law_common⟩, ⟨1, 8, false, [], c__law_right⟩, ⟨1, 4, false, [], c__law_neighbours⟩, ⟨1, 7, false, [], c__law_great_right⟩, ⟨1, 3, false, [], c_law⟩], cls := [], glo := [] }
def txt : Txt := {
  fts := [
  ⟨"whole_root", "whole_root", top 1, ["n", "found", "nearer"], ["n"]⟩,
  ⟨"common", "common", top 2, ["one", "other"], ["one", "other"]⟩,
  ⟨"_law_mixed", "_law_mixed", top 4, ["_law_cell", "_law_k", "_law_mix"], ["_law_cell", "_law_k"]⟩,
  ⟨"_law_great", "_law_great", top 5, ["_law_cell", "_law_most", "_law_found", "_law_k"], ["_law_cell", "_law_most"]⟩,
  ⟨"_law_whole", "_law_whole", top 6, ["_law_found", "_law_due"], ["_law_found", "_law_due"]⟩,
  ⟨"_law_common", "_law_common", top 7, ["_law_one", "_law_other"], ["_law_one", "_law_other"]⟩,
  ⟨"_law_right", "_law_right", top 8, ["_law_cell", "_law_most", "_law_number", "_law_found", "_law_both", "_law_one", "_law_other", "_law_turned"], ["_law_cell"]⟩,
  ⟨"_law_neighbours", "_law_neighbours", top 9, ["_law_cell", "_law_one", "_law_other", "_law_k"], ["_law_cell"]⟩,
  ⟨"_law_great_right", "_law_great_right", top 10, ["_law_cell", "_law_one", "_law_other", "_law_many", "_law_found", "_law_k", "_law_more"], ["_law_cell"]⟩,
  ⟨"law", "law", top 11, ["_law_script", "_law_k", "_law_cell"], ["_law_script"]⟩],
  fns := [("whole_root", 0), ("common", 1), ("_law_mixed", 2), ("_law_great", 3), ("_law_whole", 4), ("_law_common", 5), ("_law_right", 6), ("_law_neighbours", 7), ("_law_great_right", 8), ("law", 9)],
  blt := ["abs", "bool", "enumerate", "int", "isinstance", "list", "max", "range", "sum"], glo := [] }
theorem q0 (R : Runner) (a0 : D) (g : G) : callF tab R 0 [a0] g = R 0 [a0] g := c_of (fn := ⟨1, 3, false, [], c_whole_root⟩) rfl rfl
theorem e0 (n : Nat) (a0 : D) (g : G) : run tab (n + 1) 0 [a0] g = leave ⟨1, 3, false, [], c_whole_root⟩ (execs tab (run tab n) c_whole_root [.val a0, .emp, .emp] g) := run_eq rfl ⟨rfl, by decide⟩
theorem q1 (R : Runner) (a0 a1 : D) (g : G) : callF tab R 1 [a0, a1] g = R 1 [a0, a1] g := c_of (fn := ⟨2, 2, false, [], c_common⟩) rfl rfl
theorem e1 (n : Nat) (a0 a1 : D) (g : G) : run tab (n + 1) 1 [a0, a1] g = leave ⟨2, 2, false, [], c_common⟩ (execs tab (run tab n) c_common [.val a0, .val a1] g) := run_eq rfl ⟨rfl, by decide⟩
theorem q2 (R : Runner) (a0 a1 : D) (g : G) : callF tab R 2 [a0, a1] g = R 2 [a0, a1] g := c_of (fn := ⟨2, 3, false, [], c__law_mixed⟩) rfl rfl
theorem e2 (n : Nat) (a0 a1 : D) (g : G) : run tab (n + 1) 2 [a0, a1] g = leave ⟨2, 3, false, [], c__law_mixed⟩ (execs tab (run tab n) c__law_mixed [.val a0, .val a1, .emp] g) := run_eq rfl ⟨rfl, by decide⟩
theorem q3 (R : Runner) (a0 a1 : D) (g : G) : callF tab R 3 [a0, a1] g = R 3 [a0, a1] g := c_of (fn := ⟨2, 4, false, [], c__law_great⟩) rfl rfl
theorem e3 (n : Nat) (a0 a1 : D) (g : G) : run tab (n + 1) 3 [a0, a1] g = leave ⟨2, 4, false, [], c__law_great⟩ (execs tab (run tab n) c__law_great [.val a0, .val a1, .emp, .emp] g) := run_eq rfl ⟨rfl, by decide⟩
theorem q4 (R : Runner) (a0 a1 : D) (g : G) : callF tab R 4 [a0, a1] g = R 4 [a0, a1] g := c_of (fn := ⟨2, 2, false, [], c__law_whole⟩) rfl rfl
theorem e4 (n : Nat) (a0 a1 : D) (g : G) : run tab (n + 1) 4 [a0, a1] g = leave ⟨2, 2, false, [], c__law_whole⟩ (execs tab (run tab n) c__law_whole [.val a0, .val a1] g) := run_eq rfl ⟨rfl, by decide⟩
theorem q5 (R : Runner) (a0 a1 : D) (g : G) : callF tab R 5 [a0, a1] g = R 5 [a0, a1] g := c_of (fn := ⟨2, 2, false, [], c__law_common⟩) rfl rfl
theorem e5 (n : Nat) (a0 a1 : D) (g : G) : run tab (n + 1) 5 [a0, a1] g = leave ⟨2, 2, false, [], c__law_common⟩ (execs tab (run tab n) c__law_common [.val a0, .val a1] g) := run_eq rfl ⟨rfl, by decide⟩
theorem q6 (R : Runner) (a0 : D) (g : G) : callF tab R 6 [a0] g = R 6 [a0] g := c_of (fn := ⟨1, 8, false, [], c__law_right⟩) rfl rfl
theorem e6 (n : Nat) (a0 : D) (g : G) : run tab (n + 1) 6 [a0] g = leave ⟨1, 8, false, [], c__law_right⟩ (execs tab (run tab n) c__law_right [.val a0, .emp, .emp, .emp, .emp, .emp, .emp, .emp] g) := run_eq rfl ⟨rfl, by decide⟩
theorem q7 (R : Runner) (a0 : D) (g : G) : callF tab R 7 [a0] g = R 7 [a0] g := c_of (fn := ⟨1, 4, false, [], c__law_neighbours⟩) rfl rfl
theorem e7 (n : Nat) (a0 : D) (g : G) : run tab (n + 1) 7 [a0] g = leave ⟨1, 4, false, [], c__law_neighbours⟩ (execs tab (run tab n) c__law_neighbours [.val a0, .emp, .emp, .emp] g) := run_eq rfl ⟨rfl, by decide⟩
theorem q8 (R : Runner) (a0 : D) (g : G) : callF tab R 8 [a0] g = R 8 [a0] g := c_of (fn := ⟨1, 7, false, [], c__law_great_right⟩) rfl rfl
theorem e8 (n : Nat) (a0 : D) (g : G) : run tab (n + 1) 8 [a0] g = leave ⟨1, 7, false, [], c__law_great_right⟩ (execs tab (run tab n) c__law_great_right [.val a0, .emp, .emp, .emp, .emp, .emp, .emp] g) := run_eq rfl ⟨rfl, by decide⟩
theorem q9 (R : Runner) (a0 : D) (g : G) : callF tab R 9 [a0] g = R 9 [a0] g := c_of (fn := ⟨1, 3, false, [], c_law⟩) rfl rfl
theorem e9 (n : Nat) (a0 : D) (g : G) : run tab (n + 1) 9 [a0] g = leave ⟨1, 3, false, [], c_law⟩ (execs tab (run tab n) c_law [.val a0, .emp, .emp] g) := run_eq rfl ⟨rfl, by decide⟩
theorem k0 : okF tab txt 0 = true := by decide +kernel
theorem k1 : okF tab txt 1 = true := by decide +kernel
theorem k2 : okF tab txt 2 = true := by decide +kernel
theorem k3 : okF tab txt 3 = true := by decide +kernel
theorem k4 : okF tab txt 4 = true := by decide +kernel
theorem k5 : okF tab txt 5 = true := by decide +kernel
theorem k6 : okF tab txt 6 = true := by decide +kernel
theorem k7 : okF tab txt 7 = true := by decide +kernel
theorem k8 : okF tab txt 8 = true := by decide +kernel
theorem k9 : okF tab txt 9 = true := by decide +kernel
theorem kN : okN txt = true := by decide +kernel
theorem kF : ∀ i, i < txt.fts.length → okF tab txt i = true := fun i hi => match i, hi with
  | 0, _ => k0
  | 1, _ => k1
  | 2, _ => k2
  | 3, _ => k3
  | 4, _ => k4
  | 5, _ => k5
  | 6, _ => k6
  | 7, _ => k7
  | 8, _ => k8
  | 9, _ => k9
  | _ + 10, h => absurd (show _ + 10 < 10 from h) (by omega)
/-! ### greatest common divisors -/
def gcC : CE := .op .gt [(.var 1), (.cst (.int 0))]
def gcB : List CS := [.par [0, 1] [(.var 1), (.op .mod [(.var 0), (.var 1)])]]
theorem gc_t (R : Runner) (g : G) (a b : Nat) (h : b ≠ 0) : ev tab R gcC [.val (.int (a : Int)), .val (.int (b : Int))] g = .ok (.bl true) g ∧ execs tab R gcB [.val (.int (a : Int)), .val (.int (b : Int))] g = .nx [.val (.int (b : Int)), .val (.int ((a % b : Nat) : Int))] g := by
  have q : (0 : Int) < (b : Int) := by omega
  have e : ((a : Nat) : Int) % ((b : Nat) : Int) = ((a % b : Nat) : Int) := (Int.natCast_emod a b).symm
  constructor
  · simp (disch := first | assumption | rfl | omega | (refine mulOk_s ?_ ?_ ?_ ?_ <;> omega) | (refine divOk_s ?_ ?_ <;> omega)) only [gcC, q, s_nil, s_cons, s_asg, s_ret, s_retN, s_pas, s_par, s_unp, s_iff, s_exp, s_brk, s_cnt, r_op2, r_op1, r_var, r_glb, r_cst, r_slc, r_p0, r_p1, r_bm0, r_bm1, r_chn, r_tt, r_and, r_or, r_not, r_ife, r_tup0, r_lst0, r_tup1, r_lst1, r_tup2, r_lst2, r_tup3, r_lst3, r_tup4, r_lst4, r_tup5, r_lst5, r_tup6, r_lst6, r_tup7, r_lst7, r_tup8, r_lst8, r_cal, r_isi, r_v0, r_v1, b_var, b_cst, b_glb, b_op, b_slc, b_bm, b_ife, b_tup, b_lst, b_cal, b_isi, b_comp, w_int, w_bl, w_str, w_non, w_tup, w_lst, w_ins, w_exc, i_int, Er.bind_ok, Er.st_ok, Er.bo_ok, Sr.seq_nx, Sr.seq_rt, Sr.seq_bk, Sr.seq_ct, List.map, List.length_cons, List.length_nil, List.getElem?_cons_zero, List.getElem?_cons_succ, List.set_cons_zero, List.set_cons_succ, setAll, p_add, p_sub, p_mul, p_mod, p_div, p_pow, p_neg, p_lt, p_le, p_gt, p_ge, p_eqI, p_neI, p_eqS, p_neS, p_addS, p_addL, p_abs, p_max, p_min, p_intB, p_intI, p_lenL, p_lenT, p_list, p_listT, p_tup, p_tupT, o_some, leave_rt, leave_nx, Option.map_some, truD_bl, ↓reduceIte, Bool.false_eq_true, decide_eq_true_eq, Bool.not_true, Bool.not_false, decide_true, decide_false]
  · simp (disch := first | assumption | rfl | omega | (refine mulOk_s ?_ ?_ ?_ ?_ <;> omega) | (refine divOk_s ?_ ?_ <;> omega)) only [gcB, q, e, s_nil, s_cons, s_asg, s_ret, s_retN, s_pas, s_par, s_unp, s_iff, s_exp, s_brk, s_cnt, r_op2, r_op1, r_var, r_glb, r_cst, r_slc, r_p0, r_p1, r_bm0, r_bm1, r_chn, r_tt, r_and, r_or, r_not, r_ife, r_tup0, r_lst0, r_tup1, r_lst1, r_tup2, r_lst2, r_tup3, r_lst3, r_tup4, r_lst4, r_tup5, r_lst5, r_tup6, r_lst6, r_tup7, r_lst7, r_tup8, r_lst8, r_cal, r_isi, r_v0, r_v1, b_var, b_cst, b_glb, b_op, b_slc, b_bm, b_ife, b_tup, b_lst, b_cal, b_isi, b_comp, w_int, w_bl, w_str, w_non, w_tup, w_lst, w_ins, w_exc, i_int, Er.bind_ok, Er.st_ok, Er.bo_ok, Sr.seq_nx, Sr.seq_rt, Sr.seq_bk, Sr.seq_ct, List.map, List.length_cons, List.length_nil, List.getElem?_cons_zero, List.getElem?_cons_succ, List.set_cons_zero, List.set_cons_succ, setAll, p_add, p_sub, p_mul, p_mod, p_div, p_pow, p_neg, p_lt, p_le, p_gt, p_ge, p_eqI, p_neI, p_eqS, p_neS, p_addS, p_addL, p_abs, p_max, p_min, p_intB, p_intI, p_lenL, p_lenT, p_list, p_listT, p_tup, p_tupT, o_some, leave_rt, leave_nx, Option.map_some, truD_bl, ↓reduceIte, Bool.false_eq_true, decide_eq_true_eq, Bool.not_true, Bool.not_false, decide_true, decide_false]
theorem gc_f (R : Runner) (g : G) (a : Nat) : ev tab R gcC [.val (.int (a : Int)), .val (.int 0)] g = .ok (.bl false) g := by
  have q : ¬ (0 : Int) < 0 := by decide
  simp (disch := first | assumption | rfl | omega | (refine mulOk_s ?_ ?_ ?_ ?_ <;> omega) | (refine divOk_s ?_ ?_ <;> omega)) only [gcC, q, s_nil, s_cons, s_asg, s_ret, s_retN, s_pas, s_par, s_unp, s_iff, s_exp, s_brk, s_cnt, r_op2, r_op1, r_var, r_glb, r_cst, r_slc, r_p0, r_p1, r_bm0, r_bm1, r_chn, r_tt, r_and, r_or, r_not, r_ife, r_tup0, r_lst0, r_tup1, r_lst1, r_tup2, r_lst2, r_tup3, r_lst3, r_tup4, r_lst4, r_tup5, r_lst5, r_tup6, r_lst6, r_tup7, r_lst7, r_tup8, r_lst8, r_cal, r_isi, r_v0, r_v1, b_var, b_cst, b_glb, b_op, b_slc, b_bm, b_ife, b_tup, b_lst, b_cal, b_isi, b_comp, w_int, w_bl, w_str, w_non, w_tup, w_lst, w_ins, w_exc, i_int, Er.bind_ok, Er.st_ok, Er.bo_ok, Sr.seq_nx, Sr.seq_rt, Sr.seq_bk, Sr.seq_ct, List.map, List.length_cons, List.length_nil, List.getElem?_cons_zero, List.getElem?_cons_succ, List.set_cons_zero, List.set_cons_succ, setAll, p_add, p_sub, p_mul, p_mod, p_div, p_pow, p_neg, p_lt, p_le, p_gt, p_ge, p_eqI, p_neI, p_eqS, p_neS, p_addS, p_addL, p_abs, p_max, p_min, p_intB, p_intI, p_lenL, p_lenT, p_list, p_listT, p_tup, p_tupT, o_some, leave_rt, leave_nx, Option.map_some, truD_bl, ↓reduceIte, Bool.false_eq_true, decide_eq_true_eq, Bool.not_true, Bool.not_false, decide_true, decide_false]
theorem gc_end (R : Runner) (g : G) (a fuel : Nat) (h : 0 < fuel) : whlL (ev tab R gcC) (execs tab R gcB) fuel [.val (.int (a : Int)), .val (.int 0)] g = .nx [.val (.int (a : Int)), .val (.int 0)] g := by
  obtain ⟨f, rfl⟩ : ∃ f, fuel = f + 1 := ⟨fuel - 1, by omega⟩
  rw [whlL, gc_f]
  rfl
theorem gc_go (R : Runner) (g : G) (a b fuel : Nat) (h : b ≠ 0) : whlL (ev tab R gcC) (execs tab R gcB) (fuel + 1) [.val (.int (a : Int)), .val (.int (b : Int))] g = whlL (ev tab R gcC) (execs tab R gcB) fuel [.val (.int (b : Int)), .val (.int ((a % b : Nat) : Int))] g := by
  obtain ⟨q1, q2⟩ := gc_t R g a b h
  rw [whlL, q1, Er.bo_ok, Er.st_ok, if_pos rfl, q2]
theorem mod_half {b r : Nat} (h : r < b) (hr : r ≠ 0) : 2 * (b % r) < b := by
  have h1 := Nat.mod_lt b (Nat.pos_of_ne_zero hr)
  by_cases q : 2 * r ≤ b
  · omega
  · have : b % r = b - r := by
      rw [Nat.mod_eq_sub_mod (by omega), Nat.mod_eq_of_lt (by omega)]
    omega
theorem gc_run (R : Runner) (g : G) : ∀ e a b fuel : Nat, b < 2 ^ e → 2 * e < fuel → whlL (ev tab R gcC) (execs tab R gcB) fuel [.val (.int (a : Int)), .val (.int (b : Int))] g = .nx [.val (.int ((Nat.gcd a b : Nat) : Int)), .val (.int 0)] g := by
  intro e
  induction e with
  | zero =>
    intro a b fuel hb hf
    obtain rfl : b = 0 := by simpa using hb
    rw [Nat.gcd_zero_right]
    exact gc_end R g a fuel (by omega)
  | succ e ih =>
    intro a b fuel hb hf
    by_cases h0 : b = 0
    · subst h0
      rw [Nat.gcd_zero_right]
      exact gc_end R g a fuel (by omega)
    · obtain ⟨f, rfl⟩ : ∃ f, fuel = f + 1 + 1 := ⟨fuel - 2, by omega⟩
      rw [gc_go R g a b _ h0]
      have hr := Nat.mod_lt a (Nat.pos_of_ne_zero h0)
      have eg : Nat.gcd a b = Nat.gcd b (a % b) := by rw [Nat.gcd_comm a b, Nat.gcd_rec b a, Nat.gcd_comm]
      rw [eg]
      by_cases h1 : a % b = 0
      · rw [h1, Nat.gcd_zero_right]
        exact gc_end R g b _ (by omega)
      · rw [gc_go R g b (a % b) _ h1]
        have := mod_half hr h1
        have eg2 : Nat.gcd b (a % b) = Nat.gcd (a % b) (b % (a % b)) := by rw [Nat.gcd_comm b, Nat.gcd_rec (a % b) b, Nat.gcd_comm]
        rw [eg2]
        exact ih (a % b) (b % (a % b)) f (by rw [Nat.pow_succ] at hb; omega) (by omega)
theorem common_run (n : Nat) (a b : Int) {e : Nat} (hb : b.natAbs < 2 ^ e) (he : e < 2 ^ 90) (g : G) : run tab (n + 1) 1 [.int a, .int b] g = .ok (.int ((Nat.gcd a.natAbs b.natAbs : Nat) : Int)) g := by
  rw [e1]
  have hl : exec tab (run tab n) (.whl gcC gcB) [.val (.int (a.natAbs : Int)), .val (.int (b.natAbs : Int))] g = .nx [.val (.int ((Nat.gcd a.natAbs b.natAbs : Nat) : Int)), .val (.int 0)] g := by
    rw [s_whl]
    exact gc_run _ g e _ _ _ hb (Nat.lt_trans (by omega : 2 * e < 2 ^ 91) (by decide))
  have hc : c_common = [.asg 0 (.op .abs [(.var 0)]), .asg 1 (.op .abs [(.var 1)]), .whl gcC gcB, .ret (.var 0)] := rfl
  simp (disch := first | assumption | rfl | omega | (refine mulOk_s ?_ ?_ ?_ ?_ <;> omega) | (refine divOk_s ?_ ?_ <;> omega)) only [hc, hl, s_nil, s_cons, s_asg, s_ret, s_retN, s_pas, s_par, s_unp, s_iff, s_exp, s_brk, s_cnt, r_op2, r_op1, r_var, r_glb, r_cst, r_slc, r_p0, r_p1, r_bm0, r_bm1, r_chn, r_tt, r_and, r_or, r_not, r_ife, r_tup0, r_lst0, r_tup1, r_lst1, r_tup2, r_lst2, r_tup3, r_lst3, r_tup4, r_lst4, r_tup5, r_lst5, r_tup6, r_lst6, r_tup7, r_lst7, r_tup8, r_lst8, r_cal, r_isi, r_v0, r_v1, b_var, b_cst, b_glb, b_op, b_slc, b_bm, b_ife, b_tup, b_lst, b_cal, b_isi, b_comp, w_int, w_bl, w_str, w_non, w_tup, w_lst, w_ins, w_exc, i_int, Er.bind_ok, Er.st_ok, Er.bo_ok, Sr.seq_nx, Sr.seq_rt, Sr.seq_bk, Sr.seq_ct, List.map, List.length_cons, List.length_nil, List.getElem?_cons_zero, List.getElem?_cons_succ, List.set_cons_zero, List.set_cons_succ, setAll, p_add, p_sub, p_mul, p_mod, p_div, p_pow, p_neg, p_lt, p_le, p_gt, p_ge, p_eqI, p_neI, p_eqS, p_neS, p_addS, p_addL, p_abs, p_max, p_min, p_intB, p_intI, p_lenL, p_lenT, p_list, p_listT, p_tup, p_tupT, o_some, leave_rt, leave_nx, Option.map_some, truD_bl, ↓reduceIte, Bool.false_eq_true, decide_eq_true_eq, Bool.not_true, Bool.not_false, decide_true, decide_false]
theorem lcommon_run (n : Nat) (a b : Nat) {e : Nat} (hb : b < 2 ^ e) (he : e < 2 ^ 90) (g : G) : run tab (n + 1) 5 [.int (a : Int), .int (b : Int)] g = .ok (.int ((Nat.gcd a b : Nat) : Int)) g := by
  rw [e5]
  have hl : exec tab (run tab n) (.whl gcC gcB) [.val (.int (a : Int)), .val (.int (b : Int))] g = .nx [.val (.int ((Nat.gcd a b : Nat) : Int)), .val (.int 0)] g := by
    rw [s_whl]
    exact gc_run _ g e _ _ _ hb (Nat.lt_trans (by omega : 2 * e < 2 ^ 91) (by decide))
  have hc : c__law_common = [.whl gcC gcB, .ret (.var 0)] := rfl
  simp (disch := first | assumption | rfl | omega | (refine mulOk_s ?_ ?_ ?_ ?_ <;> omega) | (refine divOk_s ?_ ?_ <;> omega)) only [hc, hl, s_nil, s_cons, s_asg, s_ret, s_retN, s_pas, s_par, s_unp, s_iff, s_exp, s_brk, s_cnt, r_op2, r_op1, r_var, r_glb, r_cst, r_slc, r_p0, r_p1, r_bm0, r_bm1, r_chn, r_tt, r_and, r_or, r_not, r_ife, r_tup0, r_lst0, r_tup1, r_lst1, r_tup2, r_lst2, r_tup3, r_lst3, r_tup4, r_lst4, r_tup5, r_lst5, r_tup6, r_lst6, r_tup7, r_lst7, r_tup8, r_lst8, r_cal, r_isi, r_v0, r_v1, b_var, b_cst, b_glb, b_op, b_slc, b_bm, b_ife, b_tup, b_lst, b_cal, b_isi, b_comp, w_int, w_bl, w_str, w_non, w_tup, w_lst, w_ins, w_exc, i_int, Er.bind_ok, Er.st_ok, Er.bo_ok, Sr.seq_nx, Sr.seq_rt, Sr.seq_bk, Sr.seq_ct, List.map, List.length_cons, List.length_nil, List.getElem?_cons_zero, List.getElem?_cons_succ, List.set_cons_zero, List.set_cons_succ, setAll, p_add, p_sub, p_mul, p_mod, p_div, p_pow, p_neg, p_lt, p_le, p_gt, p_ge, p_eqI, p_neI, p_eqS, p_neS, p_addS, p_addL, p_abs, p_max, p_min, p_intB, p_intI, p_lenL, p_lenT, p_list, p_listT, p_tup, p_tupT, o_some, leave_rt, leave_nx, Option.map_some, truD_bl, ↓reduceIte, Bool.false_eq_true, decide_eq_true_eq, Bool.not_true, Bool.not_false, decide_true, decide_false]
/-! ### whole roots -/
theorem sq_exists : ∀ n : Nat, ∃ s, s * s ≤ n ∧ n < (s + 1) * (s + 1)
  | 0 => ⟨0, by decide, by decide⟩
  | n + 1 => by
    obtain ⟨s, h1, h2⟩ := sq_exists n
    by_cases h : n + 1 < (s + 1) * (s + 1)
    · exact ⟨s, by omega, h⟩
    · refine ⟨s + 1, by omega, ?_⟩
      simp only [Nat.add_mul, Nat.mul_add] at h2 ⊢
      omega
theorem sq_lt {a b : Nat} (h : a * a < b * b) : a < b := by
  by_cases q : a < b
  · exact q
  · have := Nat.mul_le_mul (Nat.le_of_not_lt q) (Nat.le_of_not_lt q)
    omega
theorem sq_one {n s t : Nat} (h1 : s * s ≤ n) (h2 : n < (s + 1) * (s + 1)) (h3 : t * t ≤ n) (h4 : n < (t + 1) * (t + 1)) : s = t := by
  have a := sq_lt (Nat.lt_of_le_of_lt h1 h4)
  have b := sq_lt (Nat.lt_of_le_of_lt h3 h2)
  omega
theorem nw_lo {n s f : Nat} (h1 : s * s ≤ n) (hf : s ≤ f) (hp : 0 < f) : s ≤ (f + n / f) / 2 := by
  by_cases q : 2 * s ≤ f + n / f
  · omega
  · exfalso
    have h2 : n / f < 2 * s - f := by omega
    have hfs : f < 2 * s := by
      have := Nat.zero_le (n / f)
      omega
    rw [Nat.div_lt_iff_lt_mul hp] at h2
    obtain ⟨d, rfl⟩ : ∃ d, f = s + d := ⟨f - s, by omega⟩
    obtain ⟨m, rfl⟩ : ∃ m, s = m + d := ⟨s - d, by omega⟩
    have e : 2 * (m + d) - (m + d + d) = m := by omega
    rw [e] at h2
    simp only [Nat.add_mul, Nat.mul_add] at h1 h2
    have := Nat.mul_comm m d
    omega
theorem nw_hi {n s f : Nat} (h2 : n < (s + 1) * (s + 1)) (hf : s < f) : n / f ≤ s := by
  have : n / f < s + 1 := by
    rw [Nat.div_lt_iff_lt_mul (by omega)]
    exact Nat.lt_of_lt_of_le h2 (Nat.mul_le_mul_left _ hf)
  omega
def rtC : CE := .tt (.cst (.bl true))
def rtB : List CS := [.asg 2 (.op .fdiv [(.op .add [(.var 1), (.op .fdiv [(.var 0), (.var 1)])]), (.cst (.int 2))]), .iff (.op .ge [(.var 2), (.var 1)]) [.ret (.var 1)] [], .asg 1 (.var 2)]
theorem divOk_b {i j : Int} {k : Nat} (h1 : j ≠ 0) (h2 : j.natAbs < 2 ^ k) (hk : k ≤ 9000) : divOk i j = true := by
  unfold divOk
  rw [PyProof.noPylong_of_log2]
  · simp [h1]
  · have := (Nat.log2_lt (by omega)).mpr h2
    omega
theorem rt_body (R : Runner) (g : G) (n f : Nat) (v : SV) (hf : 0 < f) {k : Nat} (hk : k ≤ 9000) (hb : f < 2 ^ k) :
    execs tab R rtB [.val (.int (n : Int)), .val (.int (f : Int)), v] g = if f ≤ (f + n / f) / 2 then .rt (.int (f : Int)) [.val (.int (n : Int)), .val (.int (f : Int)), .val (.int (((f + n / f) / 2 : Nat) : Int))] g
      else .nx [.val (.int (n : Int)), .val (.int (((f + n / f) / 2 : Nat) : Int)), .val (.int (((f + n / f) / 2 : Nat) : Int))] g := by
  have d1 : divOk (n : Int) (f : Int) = true := divOk_b (by omega) (by rw [Int.natAbs_natCast]; exact hb) hk
  have e1 : (n : Int) / (f : Int) = ((n / f : Nat) : Int) := (Int.natCast_ediv n f).symm
  have e2 : ((f : Int) + ((n / f : Nat) : Int)) / 2 = (((f + n / f) / 2 : Nat) : Int) := by omega
  have hf2 : (0 : Int) < (f : Int) := by omega
  by_cases q : f ≤ (f + n / f) / 2
  · have q2 : (f : Int) ≤ (((f + n / f) / 2 : Nat) : Int) := by omega
    rw [if_pos q]
    simp (disch := first | assumption | rfl | omega | (refine mulOk_s ?_ ?_ ?_ ?_ <;> omega) | (refine divOk_s ?_ ?_ <;> omega)) only [rtB, d1, e1, e2, q2, s_nil, s_cons, s_asg, s_ret, s_retN, s_pas, s_par, s_unp, s_iff, s_exp, s_brk, s_cnt, r_op2, r_op1, r_var, r_glb, r_cst, r_slc, r_p0, r_p1, r_bm0, r_bm1, r_chn, r_tt, r_and, r_or, r_not, r_ife, r_tup0, r_lst0, r_tup1, r_lst1, r_tup2, r_lst2, r_tup3, r_lst3, r_tup4, r_lst4, r_tup5, r_lst5, r_tup6, r_lst6, r_tup7, r_lst7, r_tup8, r_lst8, r_cal, r_isi, r_v0, r_v1, b_var, b_cst, b_glb, b_op, b_slc, b_bm, b_ife, b_tup, b_lst, b_cal, b_isi, b_comp, w_int, w_bl, w_str, w_non, w_tup, w_lst, w_ins, w_exc, i_int, Er.bind_ok, Er.st_ok, Er.bo_ok, Sr.seq_nx, Sr.seq_rt, Sr.seq_bk, Sr.seq_ct, List.map, List.length_cons, List.length_nil, List.getElem?_cons_zero, List.getElem?_cons_succ, List.set_cons_zero, List.set_cons_succ, setAll, p_add, p_sub, p_mul, p_mod, p_div, p_pow, p_neg, p_lt, p_le, p_gt, p_ge, p_eqI, p_neI, p_eqS, p_neS, p_addS, p_addL, p_abs, p_max, p_min, p_intB, p_intI, p_lenL, p_lenT, p_list, p_listT, p_tup, p_tupT, o_some, leave_rt, leave_nx, Option.map_some, truD_bl, ↓reduceIte, Bool.false_eq_true, decide_eq_true_eq, Bool.not_true, Bool.not_false, decide_true, decide_false]
  · have q2 : ¬ (f : Int) ≤ (((f + n / f) / 2 : Nat) : Int) := by omega
    rw [if_neg q]
    simp (disch := first | assumption | rfl | omega | (refine mulOk_s ?_ ?_ ?_ ?_ <;> omega) | (refine divOk_s ?_ ?_ <;> omega)) only [rtB, d1, e1, e2, q2, s_nil, s_cons, s_asg, s_ret, s_retN, s_pas, s_par, s_unp, s_iff, s_exp, s_brk, s_cnt, r_op2, r_op1, r_var, r_glb, r_cst, r_slc, r_p0, r_p1, r_bm0, r_bm1, r_chn, r_tt, r_and, r_or, r_not, r_ife, r_tup0, r_lst0, r_tup1, r_lst1, r_tup2, r_lst2, r_tup3, r_lst3, r_tup4, r_lst4, r_tup5, r_lst5, r_tup6, r_lst6, r_tup7, r_lst7, r_tup8, r_lst8, r_cal, r_isi, r_v0, r_v1, b_var, b_cst, b_glb, b_op, b_slc, b_bm, b_ife, b_tup, b_lst, b_cal, b_isi, b_comp, w_int, w_bl, w_str, w_non, w_tup, w_lst, w_ins, w_exc, i_int, Er.bind_ok, Er.st_ok, Er.bo_ok, Sr.seq_nx, Sr.seq_rt, Sr.seq_bk, Sr.seq_ct, List.map, List.length_cons, List.length_nil, List.getElem?_cons_zero, List.getElem?_cons_succ, List.set_cons_zero, List.set_cons_succ, setAll, p_add, p_sub, p_mul, p_mod, p_div, p_pow, p_neg, p_lt, p_le, p_gt, p_ge, p_eqI, p_neI, p_eqS, p_neS, p_addS, p_addL, p_abs, p_max, p_min, p_intB, p_intI, p_lenL, p_lenT, p_list, p_listT, p_tup, p_tupT, o_some, leave_rt, leave_nx, Option.map_some, truD_bl, ↓reduceIte, Bool.false_eq_true, decide_eq_true_eq, Bool.not_true, Bool.not_false, decide_true, decide_false]
theorem rt_c (R : Runner) (g : G) (env : Env) : ev tab R rtC env g = .ok (.bl true) g := by
  simp (disch := first | assumption | rfl | omega | (refine mulOk_s ?_ ?_ ?_ ?_ <;> omega) | (refine divOk_s ?_ ?_ <;> omega)) only [rtC, s_nil, s_cons, s_asg, s_ret, s_retN, s_pas, s_par, s_unp, s_iff, s_exp, s_brk, s_cnt, r_op2, r_op1, r_var, r_glb, r_cst, r_slc, r_p0, r_p1, r_bm0, r_bm1, r_chn, r_tt, r_and, r_or, r_not, r_ife, r_tup0, r_lst0, r_tup1, r_lst1, r_tup2, r_lst2, r_tup3, r_lst3, r_tup4, r_lst4, r_tup5, r_lst5, r_tup6, r_lst6, r_tup7, r_lst7, r_tup8, r_lst8, r_cal, r_isi, r_v0, r_v1, b_var, b_cst, b_glb, b_op, b_slc, b_bm, b_ife, b_tup, b_lst, b_cal, b_isi, b_comp, w_int, w_bl, w_str, w_non, w_tup, w_lst, w_ins, w_exc, i_int, Er.bind_ok, Er.st_ok, Er.bo_ok, Sr.seq_nx, Sr.seq_rt, Sr.seq_bk, Sr.seq_ct, List.map, List.length_cons, List.length_nil, List.getElem?_cons_zero, List.getElem?_cons_succ, List.set_cons_zero, List.set_cons_succ, setAll, p_add, p_sub, p_mul, p_mod, p_div, p_pow, p_neg, p_lt, p_le, p_gt, p_ge, p_eqI, p_neI, p_eqS, p_neS, p_addS, p_addL, p_abs, p_max, p_min, p_intB, p_intI, p_lenL, p_lenT, p_list, p_listT, p_tup, p_tupT, o_some, leave_rt, leave_nx, Option.map_some, truD_bl, ↓reduceIte, Bool.false_eq_true, decide_eq_true_eq, Bool.not_true, Bool.not_false, decide_true, decide_false]
theorem rt_run (R : Runner) (g : G) (n s : Nat) (h1 : s * s ≤ n) (h2 : n < (s + 1) * (s + 1)) (hs : 0 < s) {k : Nat} (hk : k ≤ 9000) : ∀ (e f fuel : Nat) (v : SV), s ≤ f → f - s < 2 ^ e → e < fuel → f < 2 ^ k →
    ∃ env, whlL (ev tab R rtC) (execs tab R rtB) fuel [.val (.int (n : Int)), .val (.int (f : Int)), v] g = .rt (.int (s : Int)) env g := by
  intro e
  induction e with
  | zero =>
    intro f fuel v hf he hfu hb
    obtain ⟨u, rfl⟩ : ∃ u, fuel = u + 1 := ⟨fuel - 1, by omega⟩
    have : f = s := by simp at he; omega
    subst this
    refine ⟨[.val (.int (n : Int)), .val (.int (f : Int)), .val (.int (((f + n / f) / 2 : Nat) : Int))], ?_⟩
    rw [whlL, rt_c, Er.bo_ok, Er.st_ok, if_pos rfl, rt_body R g n f v hs hk hb, if_pos (nw_lo h1 (Nat.le_refl _) hs)]
  | succ e ih =>
    intro f fuel v hf he hfu hb
    obtain ⟨u, rfl⟩ : ∃ u, fuel = u + 1 := ⟨fuel - 1, by omega⟩
    by_cases q : f = s
    · subst q
      refine ⟨[.val (.int (n : Int)), .val (.int (f : Int)), .val (.int (((f + n / f) / 2 : Nat) : Int))], ?_⟩
      rw [whlL, rt_c, Er.bo_ok, Er.st_ok, if_pos rfl, rt_body R g n f v hs hk hb, if_pos (nw_lo h1 (Nat.le_refl _) hs)]
    · have a1 := nw_lo h1 hf (by omega)
      have a2 := nw_hi h2 (show s < f by omega)
      rw [Nat.pow_succ] at he
      obtain ⟨env, ee⟩ := ih ((f + n / f) / 2) u (.val (.int (((f + n / f) / 2 : Nat) : Int))) a1 (by omega) (by omega) (by omega)
      refine ⟨env, ?_⟩
      rw [whlL, rt_c, Er.bo_ok, Er.st_ok, if_pos rfl, rt_body R g n f v (by omega) hk hb, if_neg (by omega)]
      exact ee
theorem root_run (m n s k : Nat) (hk : k ≤ 14000) (hn : n < 2 ^ k) (h1 : s * s ≤ n) (h2 : n < (s + 1) * (s + 1)) (g : G) : run tab (m + 1) 0 [.int (n : Int)] g = .ok (.int (s : Int)) g := by
  rw [e0]
  have hc : c_whole_root = [.iff (.op .eq [(.var 0), (.cst (.int 0))]) [.ret (.cst (.int 0))] [], .asg 1 (.op .shl [(.cst (.int 1)), (.op .fdiv [(.op .add [(.bm .bitlen (.var 0) []), (.cst (.int 1))]), (.cst (.int 2))])]), .whl rtC rtB] := rfl
  by_cases h0 : n = 0
  · subst h0
    have hs : s = 0 := by
      by_cases q : s = 0
      · exact q
      · have := Nat.mul_pos (Nat.pos_of_ne_zero q) (Nat.pos_of_ne_zero q)
        omega
    subst hs
    have q : ((0 : Nat) : Int) = 0 := rfl
    simp (disch := first | assumption | rfl | omega | (refine mulOk_s ?_ ?_ ?_ ?_ <;> omega) | (refine divOk_s ?_ ?_ <;> omega)) only [hc, q, s_nil, s_cons, s_asg, s_ret, s_retN, s_pas, s_par, s_unp, s_iff, s_exp, s_brk, s_cnt, r_op2, r_op1, r_var, r_glb, r_cst, r_slc, r_p0, r_p1, r_bm0, r_bm1, r_chn, r_tt, r_and, r_or, r_not, r_ife, r_tup0, r_lst0, r_tup1, r_lst1, r_tup2, r_lst2, r_tup3, r_lst3, r_tup4, r_lst4, r_tup5, r_lst5, r_tup6, r_lst6, r_tup7, r_lst7, r_tup8, r_lst8, r_cal, r_isi, r_v0, r_v1, b_var, b_cst, b_glb, b_op, b_slc, b_bm, b_ife, b_tup, b_lst, b_cal, b_isi, b_comp, w_int, w_bl, w_str, w_non, w_tup, w_lst, w_ins, w_exc, i_int, Er.bind_ok, Er.st_ok, Er.bo_ok, Sr.seq_nx, Sr.seq_rt, Sr.seq_bk, Sr.seq_ct, List.map, List.length_cons, List.length_nil, List.getElem?_cons_zero, List.getElem?_cons_succ, List.set_cons_zero, List.set_cons_succ, setAll, p_add, p_sub, p_mul, p_mod, p_div, p_pow, p_neg, p_lt, p_le, p_gt, p_ge, p_eqI, p_neI, p_eqS, p_neS, p_addS, p_addL, p_abs, p_max, p_min, p_intB, p_intI, p_lenL, p_lenT, p_list, p_listT, p_tup, p_tupT, o_some, leave_rt, leave_nx, Option.map_some, truD_bl, ↓reduceIte, Bool.false_eq_true, decide_eq_true_eq, Bool.not_true, Bool.not_false, decide_true, decide_false]
  · have q : ¬ ((n : Nat) : Int) = 0 := by omega
    have hs : 0 < s := by
      by_cases q : s = 0
      · subst q; omega
      · omega
    have b1 : bmK .bitlen (.int (n : Int)) = true := rfl
    have b2 : opS .bitlen [.int (n : Int)] = some (.int ((n.log2 + 1 : Nat) : Int)) := by
      show some (D.int ((Builtin.Int.intBits (n : Int) : Nat) : Int)) = _
      unfold Builtin.Int.intBits
      rw [if_neg (by simpa using h0), Int.natAbs_natCast]
    have lg := (Nat.log2_lt h0).mpr hn
    obtain ⟨j, hj⟩ : ∃ j, j = (n.log2 + 1 + 1) / 2 := ⟨_, rfl⟩
    have b3 : (((n.log2 + 1 : Nat) : Int) + 1) / 2 = (j : Int) := by omega
    have b4 : opS .shl [.int 1, .int (j : Int)] = some (.int ((2 ^ j : Nat) : Int)) := by
      show (if 0 ≤ (j : Int) ∧ (((1 : Int).natAbs.log2 : Nat) : Int) + (j : Int) ≤ 134000000 then some (D.int (1 * 2 ^ (j : Int).toNat)) else none) = _
      rw [if_pos ⟨by omega, by have : (1 : Int).natAbs.log2 = 0 := by decide
                               rw [this]; omega⟩, Int.one_mul, Int.toNat_natCast]
      norm_cast
    have big : n < 2 ^ j * 2 ^ j := by
      have h3 : n < 2 ^ (n.log2 + 1) := (Nat.log2_lt h0).mp (Nat.lt_succ_self _)
      rw [← Nat.pow_add]
      exact Nat.lt_of_lt_of_le h3 (Nat.pow_le_pow_right (by decide) (by omega))
    have sj : s < 2 ^ j := sq_lt (Nat.lt_of_le_of_lt h1 big)
    obtain ⟨env, hr⟩ := rt_run (run tab m) g n s h1 h2 hs (k := j + 1) (by omega) j (2 ^ j) LF .emp (Nat.le_of_lt sj) (by omega) (Nat.lt_of_le_of_lt (show j ≤ 8000 by omega) (by decide)) (Nat.pow_lt_pow_right (by decide) (Nat.lt_succ_self _))
    have hw : exec tab (run tab m) (.whl rtC rtB) [.val (.int (n : Int)), .val (.int ((2 ^ j : Nat) : Int)), .emp] g = .rt (.int (s : Int)) env g := by
      rw [s_whl]
      exact hr
    simp (disch := first | assumption | rfl | omega | (refine mulOk_s ?_ ?_ ?_ ?_ <;> omega) | (refine divOk_s ?_ ?_ <;> omega)) only [hc, q, b1, b2, b3, b4, hw, s_nil, s_cons, s_asg, s_ret, s_retN, s_pas, s_par, s_unp, s_iff, s_exp, s_brk, s_cnt, r_op2, r_op1, r_var, r_glb, r_cst, r_slc, r_p0, r_p1, r_bm0, r_bm1, r_chn, r_tt, r_and, r_or, r_not, r_ife, r_tup0, r_lst0, r_tup1, r_lst1, r_tup2, r_lst2, r_tup3, r_lst3, r_tup4, r_lst4, r_tup5, r_lst5, r_tup6, r_lst6, r_tup7, r_lst7, r_tup8, r_lst8, r_cal, r_isi, r_v0, r_v1, b_var, b_cst, b_glb, b_op, b_slc, b_bm, b_ife, b_tup, b_lst, b_cal, b_isi, b_comp, w_int, w_bl, w_str, w_non, w_tup, w_lst, w_ins, w_exc, i_int, Er.bind_ok, Er.st_ok, Er.bo_ok, Sr.seq_nx, Sr.seq_rt, Sr.seq_bk, Sr.seq_ct, List.map, List.length_cons, List.length_nil, List.getElem?_cons_zero, List.getElem?_cons_succ, List.set_cons_zero, List.set_cons_succ, setAll, p_add, p_sub, p_mul, p_mod, p_div, p_pow, p_neg, p_lt, p_le, p_gt, p_ge, p_eqI, p_neI, p_eqS, p_neS, p_addS, p_addL, p_abs, p_max, p_min, p_intB, p_intI, p_lenL, p_lenT, p_list, p_listT, p_tup, p_tupT, o_some, leave_rt, leave_nx, Option.map_some, truD_bl, ↓reduceIte, Bool.false_eq_true, decide_eq_true_eq, Bool.not_true, Bool.not_false, decide_true, decide_false]
/-! ### the law's numbers -/
def small (c : Int) : Prop := c.natAbs < 2 ^ 1200000
theorem na_add {x y : Int} {a : Nat} (hx : x.natAbs < 2 ^ a) (hy : y.natAbs < 2 ^ a) : (x + y).natAbs < 2 ^ (a + 1) := by
  have := Int.natAbs_add_le x y
  rw [Nat.pow_succ]
  omega
theorem small_of {c : Int} (h : c.natAbs < 2 ^ 40) : small c := Nat.lt_of_lt_of_le h (Nat.pow_le_pow_right (by decide) (by decide))
theorem small_mo {c k : Int} (h : small c) (h1 : 0 ≤ k) (h2 : k < 2000) : mulOk (c + 7919 * k + 11) 48271 = true := by
  rw [Int.add_assoc]
  exact mulOk_of (na_add h (Nat.lt_of_lt_of_le (show (7919 * k + 11).natAbs < 2 ^ 40 by omega) (Nat.pow_le_pow_right (by decide) (by decide)))) (show (48271 : Int).natAbs < 2 ^ 16 by decide) (by decide)
def mixd (c k : Int) : Int :=
  let m := (c + 7919 * k + 11) * 48271 % 2147483647
  (m * m + 40692 * m) % 2147483399
theorem mixd_lo (c k : Int) : 0 ≤ mixd c k := by
  unfold mixd
  exact Int.emod_nonneg _ (by decide)
theorem mixd_hi (c k : Int) : mixd c k < 2147483399 := by
  unfold mixd
  exact Int.emod_lt_of_pos _ (by decide)
theorem mixd_small (c k : Int) : small (mixd c k) := small_of (by have := mixd_lo c k; have := mixd_hi c k; omega)
theorem mixed_run (n : Nat) (c k : Int) (hc : small c) (h1 : 0 ≤ k) (h2 : k < 2000) (g : G) : run tab (n + 1) 2 [.int c, .int k] g = .ok (.int (mixd c k)) g := by
  rw [e2]
  have mo := small_mo hc h1 h2
  simp (disch := first | assumption | rfl | omega | (refine mulOk_s ?_ ?_ ?_ ?_ <;> omega) | (refine divOk_s ?_ ?_ <;> omega)) only [c__law_mixed, mo, mixd, s_nil, s_cons, s_asg, s_ret, s_retN, s_pas, s_par, s_unp, s_iff, s_exp, s_brk, s_cnt, r_op2, r_op1, r_var, r_glb, r_cst, r_slc, r_p0, r_p1, r_bm0, r_bm1, r_chn, r_tt, r_and, r_or, r_not, r_ife, r_tup0, r_lst0, r_tup1, r_lst1, r_tup2, r_lst2, r_tup3, r_lst3, r_tup4, r_lst4, r_tup5, r_lst5, r_tup6, r_lst6, r_tup7, r_lst7, r_tup8, r_lst8, r_cal, r_isi, r_v0, r_v1, b_var, b_cst, b_glb, b_op, b_slc, b_bm, b_ife, b_tup, b_lst, b_cal, b_isi, b_comp, w_int, w_bl, w_str, w_non, w_tup, w_lst, w_ins, w_exc, i_int, Er.bind_ok, Er.st_ok, Er.bo_ok, Sr.seq_nx, Sr.seq_rt, Sr.seq_bk, Sr.seq_ct, List.map, List.length_cons, List.length_nil, List.getElem?_cons_zero, List.getElem?_cons_succ, List.set_cons_zero, List.set_cons_succ, setAll, p_add, p_sub, p_mul, p_mod, p_div, p_pow, p_neg, p_lt, p_le, p_gt, p_ge, p_eqI, p_neI, p_eqS, p_neS, p_addS, p_addL, p_abs, p_max, p_min, p_intB, p_intI, p_lenL, p_lenT, p_list, p_listT, p_tup, p_tupT, o_some, leave_rt, leave_nx, Option.map_some, truD_bl, ↓reduceIte, Bool.false_eq_true, decide_eq_true_eq, Bool.not_true, Bool.not_false, decide_true, decide_false]
def grB : List CS := [.asg 2 (.op .add [(.op .mul [(.var 2), (.cst (.int 2147483399))]), (.cal 2 [(.var 0), (.op .add [(.cst (.int 40)), (.var 3)])])])]
theorem great_run (n : Nat) (c most : Int) (hc : small c) (hm : 0 < most) (g : G) : ∃ v, 0 ≤ v ∧ v < most ∧ run tab (n + 2) 3 [.int c, .int most] g = .ok (.int v) g := by
  obtain ⟨env', h1, f, v3, _, _, rfl⟩ := for_inv (tg := fun x env => tgt [3] x env) (body := execs tab (run tab (n + 1)) grB) (g := g)
    (P := fun t env => ∃ (f : Int) (v3 : SV), 0 ≤ f ∧ f.natAbs < 2 ^ (32 * t + 1) ∧ env = [.val (.int c), .val (.int most), .val (.int f), v3]) (rangeD 0 8) 0
    [.val (.int c), .val (.int most), .val (.int 0), .emp] ⟨0, .emp, by decide, by decide, rfl⟩ (by
      rintro t d env hd ⟨f, v3, h0, h1, rfl⟩
      have ht : t < 8 := by
        have := (List.getElem?_eq_some_iff.mp hd).1
        rwa [range_len] at this
      rw [range_get 8 0 t ht] at hd
      cases hd
      refine ⟨_, rfl, ?_⟩
      rw [Nat.zero_add] at h1 ⊢
      have m1 := mixd_lo c (40 + (0 + (t : Int)))
      have m2 := mixd_hi c (40 + (0 + (t : Int)))
      have mo : mulOk f 2147483399 = true := mulOk_of (a := 32 * t + 1) (b := 32) h1 (by decide) (by omega)
      refine ⟨_, by simp (disch := first | assumption | rfl | omega | (refine mulOk_s ?_ ?_ ?_ ?_ <;> omega) | (refine divOk_s ?_ ?_ <;> omega)) only [grB, q2, mixed_run, mo, hc, s_nil, s_cons, s_asg, s_ret, s_retN, s_pas, s_par, s_unp, s_iff, s_exp, s_brk, s_cnt, r_op2, r_op1, r_var, r_glb, r_cst, r_slc, r_p0, r_p1, r_bm0, r_bm1, r_chn, r_tt, r_and, r_or, r_not, r_ife, r_tup0, r_lst0, r_tup1, r_lst1, r_tup2, r_lst2, r_tup3, r_lst3, r_tup4, r_lst4, r_tup5, r_lst5, r_tup6, r_lst6, r_tup7, r_lst7, r_tup8, r_lst8, r_cal, r_isi, r_v0, r_v1, b_var, b_cst, b_glb, b_op, b_slc, b_bm, b_ife, b_tup, b_lst, b_cal, b_isi, b_comp, w_int, w_bl, w_str, w_non, w_tup, w_lst, w_ins, w_exc, i_int, Er.bind_ok, Er.st_ok, Er.bo_ok, Sr.seq_nx, Sr.seq_rt, Sr.seq_bk, Sr.seq_ct, List.map, List.length_cons, List.length_nil, List.getElem?_cons_zero, List.getElem?_cons_succ, List.set_cons_zero, List.set_cons_succ, setAll, p_add, p_sub, p_mul, p_mod, p_div, p_pow, p_neg, p_lt, p_le, p_gt, p_ge, p_eqI, p_neI, p_eqS, p_neS, p_addS, p_addL, p_abs, p_max, p_min, p_intB, p_intI, p_lenL, p_lenT, p_list, p_listT, p_tup, p_tupT, o_some, leave_rt, leave_nx, Option.map_some, truD_bl, ↓reduceIte, Bool.false_eq_true, decide_eq_true_eq, Bool.not_true, Bool.not_false, decide_true, decide_false]; rfl, f * 2147483399 + mixd c (40 + (0 + (t : Int))), _, by omega, ?_, rfl⟩
      have : 1 ≤ 2 ^ (32 * t + 1) := Nat.one_le_two_pow
      rw [show 32 * (t + 1) + 1 = (32 * t + 1) + 32 by omega, Nat.pow_add]
      omega)
  refine ⟨f % most, Int.emod_nonneg _ (by omega), Int.emod_lt_of_pos _ hm, ?_⟩
  show run tab (n + 1 + 1) 3 _ g = _
  rw [e3]
  have hf : items .range1 [.int 8] = some (rangeD 0 8) := rfl
  have hc' : c__law_great = [.asg 2 (.cst (.int 0)), .fr [3] .range1 [(.cst (.int 8))] grB, .ret (.op .mod [(.var 2), (.var 1)])] := rfl
  simp (disch := first | assumption | rfl | omega | (refine mulOk_s ?_ ?_ ?_ ?_ <;> omega) | (refine divOk_s ?_ ?_ <;> omega)) only [hc', s_fr, hf, h1, s_nil, s_cons, s_asg, s_ret, s_retN, s_pas, s_par, s_unp, s_iff, s_exp, s_brk, s_cnt, r_op2, r_op1, r_var, r_glb, r_cst, r_slc, r_p0, r_p1, r_bm0, r_bm1, r_chn, r_tt, r_and, r_or, r_not, r_ife, r_tup0, r_lst0, r_tup1, r_lst1, r_tup2, r_lst2, r_tup3, r_lst3, r_tup4, r_lst4, r_tup5, r_lst5, r_tup6, r_lst6, r_tup7, r_lst7, r_tup8, r_lst8, r_cal, r_isi, r_v0, r_v1, b_var, b_cst, b_glb, b_op, b_slc, b_bm, b_ife, b_tup, b_lst, b_cal, b_isi, b_comp, w_int, w_bl, w_str, w_non, w_tup, w_lst, w_ins, w_exc, i_int, Er.bind_ok, Er.st_ok, Er.bo_ok, Sr.seq_nx, Sr.seq_rt, Sr.seq_bk, Sr.seq_ct, List.map, List.length_cons, List.length_nil, List.getElem?_cons_zero, List.getElem?_cons_succ, List.set_cons_zero, List.set_cons_succ, setAll, p_add, p_sub, p_mul, p_mod, p_div, p_pow, p_neg, p_lt, p_le, p_gt, p_ge, p_eqI, p_neI, p_eqS, p_neS, p_addS, p_addL, p_abs, p_max, p_min, p_intB, p_intI, p_lenL, p_lenT, p_list, p_listT, p_tup, p_tupT, o_some, leave_rt, leave_nx, Option.map_some, truD_bl, ↓reduceIte, Bool.false_eq_true, decide_eq_true_eq, Bool.not_true, Bool.not_false, decide_true, decide_false]
theorem is_i (a : Int) : anyTy tab (.int a) [.int] = some true := rfl
theorem is_b (a : Int) : anyTy tab (.int a) [.bool] = some false := rfl
theorem whole_run (n : Nat) (a b : Int) (g : G) : run tab (n + 1) 4 [.int a, .int b] g = .ok (.bl (decide (a = b))) g := by
  rw [e4]
  simp (disch := first | assumption | rfl | omega | (refine mulOk_s ?_ ?_ ?_ ?_ <;> omega) | (refine divOk_s ?_ ?_ <;> omega)) only [c__law_whole, is_i, is_b, s_nil, s_cons, s_asg, s_ret, s_retN, s_pas, s_par, s_unp, s_iff, s_exp, s_brk, s_cnt, r_op2, r_op1, r_var, r_glb, r_cst, r_slc, r_p0, r_p1, r_bm0, r_bm1, r_chn, r_tt, r_and, r_or, r_not, r_ife, r_tup0, r_lst0, r_tup1, r_lst1, r_tup2, r_lst2, r_tup3, r_lst3, r_tup4, r_lst4, r_tup5, r_lst5, r_tup6, r_lst6, r_tup7, r_lst7, r_tup8, r_lst8, r_cal, r_isi, r_v0, r_v1, b_var, b_cst, b_glb, b_op, b_slc, b_bm, b_ife, b_tup, b_lst, b_cal, b_isi, b_comp, w_int, w_bl, w_str, w_non, w_tup, w_lst, w_ins, w_exc, i_int, Er.bind_ok, Er.st_ok, Er.bo_ok, Sr.seq_nx, Sr.seq_rt, Sr.seq_bk, Sr.seq_ct, List.map, List.length_cons, List.length_nil, List.getElem?_cons_zero, List.getElem?_cons_succ, List.set_cons_zero, List.set_cons_succ, setAll, p_add, p_sub, p_mul, p_mod, p_div, p_pow, p_neg, p_lt, p_le, p_gt, p_ge, p_eqI, p_neI, p_eqS, p_neS, p_addS, p_addL, p_abs, p_max, p_min, p_intB, p_intI, p_lenL, p_lenT, p_list, p_listT, p_tup, p_tupT, o_some, leave_rt, leave_nx, Option.map_some, truD_bl, ↓reduceIte, Bool.false_eq_true, decide_eq_true_eq, Bool.not_true, Bool.not_false, decide_true, decide_false]
theorem rng {k : Int} (h1 : 0 ≤ k) (h2 : k < 1000000) : items .range1 [.int k] = some (rangeD 0 k.toNat) := by
  show (if -(2 ^ 62) ≤ k ∧ k < 2 ^ 62 then some (rangeD 0 k.toNat) else none) = _
  rw [if_pos (by omega)]
def nbB : List CS := [.par [1, 2] [(.op .add [(.var 1), (.var 2)]), (.var 1)]]
theorem nb_run (n : Nat) (c : Int) (hc : small c) (g : G) : ∃ a b m : Nat, Nat.gcd a b = 1 ∧ a < 2 ^ 5000 ∧ b < 2 ^ 5000 ∧ 1 ≤ m ∧ m ≤ 1000000000 ∧ run tab (n + 2) 7 [.int c] g = .ok (.tup [.int (a : Int), .int (b : Int), .int (m : Int)]) g := by
  have m5 := mixd_lo c 5
  have m6 := mixd_lo c 6
  obtain ⟨k, hk⟩ : ∃ k : Int, k = 1500 + mixd c 5 / 7 % 3000 := ⟨_, rfl⟩
  obtain ⟨env', h1, a, b, v3, z1, z2, z3, rfl⟩ := for_inv (tg := fun x env => tgt [3] x env) (body := execs tab (run tab (n + 1)) nbB) (g := g)
    (P := fun t env => ∃ (a b : Nat) (v3 : SV), Nat.gcd a b = 1 ∧ a < 2 ^ (t + 1) ∧ b < 2 ^ (t + 1) ∧ env = [.val (.int c), .val (.int (a : Int)), .val (.int (b : Int)), v3]) (rangeD 0 k.toNat) 0
    [.val (.int c), .val (.int 1), .val (.int 1), .emp] ⟨1, 1, .emp, by decide, by decide, by decide, rfl⟩ (by
      rintro t d env hd ⟨a, b, v3, z1, z2, z3, rfl⟩
      have ht : t < k.toNat := by
        have := (List.getElem?_eq_some_iff.mp hd).1
        rwa [range_len] at this
      rw [range_get _ 0 t ht] at hd
      cases hd
      refine ⟨_, rfl, ?_⟩
      rw [Nat.zero_add] at z2 z3 ⊢
      have e : (a : Int) + (b : Int) = ((a + b : Nat) : Int) := by omega
      refine ⟨_, by simp (disch := first | assumption | rfl | omega | (refine mulOk_s ?_ ?_ ?_ ?_ <;> omega) | (refine divOk_s ?_ ?_ <;> omega)) only [nbB, e, s_nil, s_cons, s_asg, s_ret, s_retN, s_pas, s_par, s_unp, s_iff, s_exp, s_brk, s_cnt, r_op2, r_op1, r_var, r_glb, r_cst, r_slc, r_p0, r_p1, r_bm0, r_bm1, r_chn, r_tt, r_and, r_or, r_not, r_ife, r_tup0, r_lst0, r_tup1, r_lst1, r_tup2, r_lst2, r_tup3, r_lst3, r_tup4, r_lst4, r_tup5, r_lst5, r_tup6, r_lst6, r_tup7, r_lst7, r_tup8, r_lst8, r_cal, r_isi, r_v0, r_v1, b_var, b_cst, b_glb, b_op, b_slc, b_bm, b_ife, b_tup, b_lst, b_cal, b_isi, b_comp, w_int, w_bl, w_str, w_non, w_tup, w_lst, w_ins, w_exc, i_int, Er.bind_ok, Er.st_ok, Er.bo_ok, Sr.seq_nx, Sr.seq_rt, Sr.seq_bk, Sr.seq_ct, List.map, List.length_cons, List.length_nil, List.getElem?_cons_zero, List.getElem?_cons_succ, List.set_cons_zero, List.set_cons_succ, setAll, p_add, p_sub, p_mul, p_mod, p_div, p_pow, p_neg, p_lt, p_le, p_gt, p_ge, p_eqI, p_neI, p_eqS, p_neS, p_addS, p_addL, p_abs, p_max, p_min, p_intB, p_intI, p_lenL, p_lenT, p_list, p_listT, p_tup, p_tupT, o_some, leave_rt, leave_nx, Option.map_some, truD_bl, ↓reduceIte, Bool.false_eq_true, decide_eq_true_eq, Bool.not_true, Bool.not_false, decide_true, decide_false]; rfl, a + b, a, _, by rw [Nat.gcd_comm]; simpa using z1, by rw [Nat.pow_succ]; omega, by rw [Nat.pow_succ]; omega, rfl⟩)
  have kb : 0 + (rangeD 0 k.toNat).length + 1 ≤ 5000 := by rw [range_len]; omega
  have pw : 2 ^ (0 + (rangeD 0 k.toNat).length + 1) ≤ 2 ^ 5000 := Nat.pow_le_pow_right (by decide) kb
  obtain ⟨m, hm⟩ : ∃ m : Nat, 1 + mixd c 6 / 7 % 10 ^ (9 : Int).toNat = (m : Int) := ⟨(1 + mixd c 6 / 7 % 10 ^ (9 : Int).toNat).toNat, by
    have : (10 : Int) ^ (9 : Int).toNat = 1000000000 := by decide
    rw [this]; omega⟩
  have hm2 : 1 ≤ m ∧ m ≤ 1000000000 := by
    have : (10 : Int) ^ (9 : Int).toNat = 1000000000 := by decide
    rw [this] at hm
    omega
  have ht : (0 : Int) < 10 ^ (9 : Int).toNat := by decide
  have pp : opS .pow [.int 10, .int 9] = some (.int (10 ^ (9 : Int).toNat)) := p_pow (by decide) (by decide) (by decide)
  refine ⟨a, b, m, z1, Nat.lt_of_lt_of_le z2 pw, Nat.lt_of_lt_of_le z3 pw, hm2.1, hm2.2, ?_⟩
  show run tab (n + 1 + 1) 7 _ g = _
  rw [e7]
  have hr := rng (k := k) (by omega) (by omega)
  have hc' : c__law_neighbours = [.unp [1, 2] (.tup [(.cst (.int 1)), (.cst (.int 1))]), .fr [3] .range1 [(.op .add [(.cst (.int 1500)), (.op .mod [(.op .fdiv [(.cal 2 [(.var 0), (.cst (.int 5))]), (.cst (.int 7))]), (.cst (.int 3000))])])] nbB,
    .ret (.tup [(.var 1), (.var 2), (.op .add [(.cst (.int 1)), (.op .mod [(.op .fdiv [(.cal 2 [(.var 0), (.cst (.int 6))]), (.cst (.int 7))]), (.op .pow [(.cst (.int 10)), (.cst (.int 9))])])])])] := rfl
  simp (disch := first | assumption | rfl | omega | (refine mulOk_s ?_ ?_ ?_ ?_ <;> omega) | (refine divOk_s ?_ ?_ <;> omega)) only [hc', s_fr, q2, mixed_run, hc, hk.symm, hr, h1, pp, hm, s_nil, s_cons, s_asg, s_ret, s_retN, s_pas, s_par, s_unp, s_iff, s_exp, s_brk, s_cnt, r_op2, r_op1, r_var, r_glb, r_cst, r_slc, r_p0, r_p1, r_bm0, r_bm1, r_chn, r_tt, r_and, r_or, r_not, r_ife, r_tup0, r_lst0, r_tup1, r_lst1, r_tup2, r_lst2, r_tup3, r_lst3, r_tup4, r_lst4, r_tup5, r_lst5, r_tup6, r_lst6, r_tup7, r_lst7, r_tup8, r_lst8, r_cal, r_isi, r_v0, r_v1, b_var, b_cst, b_glb, b_op, b_slc, b_bm, b_ife, b_tup, b_lst, b_cal, b_isi, b_comp, w_int, w_bl, w_str, w_non, w_tup, w_lst, w_ins, w_exc, i_int, Er.bind_ok, Er.st_ok, Er.bo_ok, Sr.seq_nx, Sr.seq_rt, Sr.seq_bk, Sr.seq_ct, List.map, List.length_cons, List.length_nil, List.getElem?_cons_zero, List.getElem?_cons_succ, List.set_cons_zero, List.set_cons_succ, setAll, p_add, p_sub, p_mul, p_mod, p_div, p_pow, p_neg, p_lt, p_le, p_gt, p_ge, p_eqI, p_neI, p_eqS, p_neS, p_addS, p_addL, p_abs, p_max, p_min, p_intB, p_intI, p_lenL, p_lenT, p_list, p_listT, p_tup, p_tupT, o_some, leave_rt, leave_nx, Option.map_some, truD_bl, ↓reduceIte, Bool.false_eq_true, decide_eq_true_eq, Bool.not_true, Bool.not_false, decide_true, decide_false]
/-! ### about a great square -/
theorem compL_step {tg : D → Option Env} {cnd : Env → G → Er Bool} {elt : Env → G → Er D} {x d : D} {r acc : List D} {g : G} {env : Env} (h1 : tg x = some env) (h2 : cnd env g = .ok true g) (h3 : elt env g = .ok d g) (h4 : acc.length < SZ) :
    compL tg cnd elt (x :: r) acc g = compL tg cnd elt r (acc ++ [d]) g := by
  rw [compL, h1]
  dsimp only
  rw [h2]
  dsimp only
  rw [if_pos rfl, h3]
  dsimp only
  rw [if_pos h4]
def p50 : Nat := 10 ^ 50
theorem pw50 : (10 : Int) ^ (50 : Int).toNat = (p50 : Int) := by decide +kernel
theorem p50_hi : p50 < 2 ^ 170 := by decide +kernel
theorem p50_lo : 1 ≤ p50 := by decide +kernel
def tallB : List CS := [.asg 4 (.op .add [(.op .mul [(.var 4), (.op .pow [(.cst (.int 10)), (.cst (.int 50))])]), (.var 3)])]
theorem tall (n : Nat) (c x y : D) (m : Nat) (hm : 1 ≤ m) (hm2 : m ≤ 1000000000) (v6 : SV) (g : G) : ∃ (f : Nat) (v5 : SV), 1 ≤ f ∧ f < 2 ^ 6900 ∧ forL (fun x env => tgt [5] x env) (execs tab (run tab n) tallB) (rangeD 0 39) [.val c, .val x, .val y, .val (.int (m : Int)), .val (.int (m : Int)), .emp, v6] g =
    .nx [.val c, .val x, .val y, .val (.int (m : Int)), .val (.int (f : Int)), v5, v6] g := by
  obtain ⟨env', h1, f, v5, z1, z2, rfl⟩ := for_inv (tg := fun x env => tgt [5] x env) (body := execs tab (run tab n) tallB) (g := g)
    (P := fun t env => ∃ (f : Nat) (v5 : SV), 1 ≤ f ∧ f < 2 ^ (171 * (t + 1)) ∧ env = [.val c, .val x, .val y, .val (.int (m : Int)), .val (.int (f : Int)), v5, v6]) (rangeD 0 39) 0
    [.val c, .val x, .val y, .val (.int (m : Int)), .val (.int (m : Int)), .emp, v6] ⟨m, .emp, hm, Nat.lt_of_lt_of_le (show m < 2 ^ 31 by omega) (Nat.pow_le_pow_right (by decide) (by decide)), rfl⟩ (by
      rintro t d env hd ⟨f, v5, z1, z2, rfl⟩
      have ht : t < 39 := by
        have := (List.getElem?_eq_some_iff.mp hd).1
        rwa [range_len] at this
      rw [range_get 39 0 t ht] at hd
      cases hd
      refine ⟨_, rfl, ?_⟩
      rw [Nat.zero_add] at z2 ⊢
      have mo : mulOk (f : Int) (p50 : Int) = true := mulOk_of (a := 171 * (t + 1)) (b := 170) (by rw [Int.natAbs_natCast]; exact z2) (by rw [Int.natAbs_natCast]; exact p50_hi) (by omega)
      have e : (f : Int) * (p50 : Int) + (m : Int) = ((f * p50 + m : Nat) : Int) := by rw [Int.natCast_add, Int.natCast_mul]
      refine ⟨_, by simp (disch := first | assumption | rfl | omega | (refine mulOk_s ?_ ?_ ?_ ?_ <;> omega) | (refine divOk_s ?_ ?_ <;> omega)) only [tallB, pw50, mo, e, s_nil, s_cons, s_asg, s_ret, s_retN, s_pas, s_par, s_unp, s_iff, s_exp, s_brk, s_cnt, r_op2, r_op1, r_var, r_glb, r_cst, r_slc, r_p0, r_p1, r_bm0, r_bm1, r_chn, r_tt, r_and, r_or, r_not, r_ife, r_tup0, r_lst0, r_tup1, r_lst1, r_tup2, r_lst2, r_tup3, r_lst3, r_tup4, r_lst4, r_tup5, r_lst5, r_tup6, r_lst6, r_tup7, r_lst7, r_tup8, r_lst8, r_cal, r_isi, r_v0, r_v1, b_var, b_cst, b_glb, b_op, b_slc, b_bm, b_ife, b_tup, b_lst, b_cal, b_isi, b_comp, w_int, w_bl, w_str, w_non, w_tup, w_lst, w_ins, w_exc, i_int, Er.bind_ok, Er.st_ok, Er.bo_ok, Sr.seq_nx, Sr.seq_rt, Sr.seq_bk, Sr.seq_ct, List.map, List.length_cons, List.length_nil, List.getElem?_cons_zero, List.getElem?_cons_succ, List.set_cons_zero, List.set_cons_succ, setAll, p_add, p_sub, p_mul, p_mod, p_div, p_pow, p_neg, p_lt, p_le, p_gt, p_ge, p_eqI, p_neI, p_eqS, p_neS, p_addS, p_addL, p_abs, p_max, p_min, p_intB, p_intI, p_lenL, p_lenT, p_list, p_listT, p_tup, p_tupT, o_some, leave_rt, leave_nx, Option.map_some, truD_bl, ↓reduceIte, Bool.false_eq_true, decide_eq_true_eq, Bool.not_true, Bool.not_false, decide_true, decide_false]; rfl, f * p50 + m, _, by omega, ?_, rfl⟩
      have a1 : f * p50 < 2 ^ (171 * (t + 1)) * 2 ^ 170 := Nat.mul_lt_mul_of_lt_of_le z2 (Nat.le_of_lt p50_hi) (Nat.pow_pos (by decide))
      have a2 : m < 2 ^ (171 * (t + 1)) * 2 ^ 170 := by
        rw [← Nat.pow_add]
        exact Nat.lt_of_lt_of_le (show m < 2 ^ 31 by omega) (Nat.pow_le_pow_right (by decide) (by omega))
      have a3 : 2 ^ (171 * (t + 1 + 1)) = 2 ^ (171 * (t + 1)) * 2 ^ 170 * 2 := by
        rw [show 171 * (t + 1 + 1) = 171 * (t + 1) + 170 + 1 by omega, Nat.pow_succ, Nat.pow_add]
      rw [a3]
      omega)
  rw [range_len] at z2
  exact ⟨f, v5, z1, Nat.lt_of_lt_of_le z2 (Nat.pow_le_pow_right (by decide) (by decide)), h1⟩
def eltR : CE := .cal 0 [(.op .add [(.op .mul [(.var 4), (.var 4)]), (.var 6)])]
theorem eltR_run (n : Nat) (c x y z : D) (f N s : Nat) (w : Int) (v5 : SV) (g : G) (hf : f < 2 ^ 6900) (hN : (f : Int) * (f : Int) + w = (N : Int)) (hN2 : N < 2 ^ 14000) (h1 : s * s ≤ N) (h2 : N < (s + 1) * (s + 1)) :
    ev tab (run tab (n + 1)) eltR [.val c, .val x, .val y, .val z, .val (.int (f : Int)), v5, .val (.int w)] g = .ok (.int (s : Int)) g := by
  have mo : mulOk (f : Int) (f : Int) = true := mulOk_of (a := 6900) (b := 6900) (by rw [Int.natAbs_natCast]; exact hf) (by rw [Int.natAbs_natCast]; exact hf) (by decide)
  have hr := root_run n N s 14000 (Nat.le_refl _) hN2 h1 h2 g
  simp (disch := first | assumption | rfl | omega | (refine mulOk_s ?_ ?_ ?_ ?_ <;> omega) | (refine divOk_s ?_ ?_ <;> omega)) only [eltR, mo, hN, q0, hr, s_nil, s_cons, s_asg, s_ret, s_retN, s_pas, s_par, s_unp, s_iff, s_exp, s_brk, s_cnt, r_op2, r_op1, r_var, r_glb, r_cst, r_slc, r_p0, r_p1, r_bm0, r_bm1, r_chn, r_tt, r_and, r_or, r_not, r_ife, r_tup0, r_lst0, r_tup1, r_lst1, r_tup2, r_lst2, r_tup3, r_lst3, r_tup4, r_lst4, r_tup5, r_lst5, r_tup6, r_lst6, r_tup7, r_lst7, r_tup8, r_lst8, r_cal, r_isi, r_v0, r_v1, b_var, b_cst, b_glb, b_op, b_slc, b_bm, b_ife, b_tup, b_lst, b_cal, b_isi, b_comp, w_int, w_bl, w_str, w_non, w_tup, w_lst, w_ins, w_exc, i_int, Er.bind_ok, Er.st_ok, Er.bo_ok, Sr.seq_nx, Sr.seq_rt, Sr.seq_bk, Sr.seq_ct, List.map, List.length_cons, List.length_nil, List.getElem?_cons_zero, List.getElem?_cons_succ, List.set_cons_zero, List.set_cons_succ, setAll, p_add, p_sub, p_mul, p_mod, p_div, p_pow, p_neg, p_lt, p_le, p_gt, p_ge, p_eqI, p_neI, p_eqS, p_neS, p_addS, p_addL, p_abs, p_max, p_min, p_intB, p_intI, p_lenL, p_lenT, p_list, p_listT, p_tup, p_tupT, o_some, leave_rt, leave_nx, Option.map_some, truD_bl, ↓reduceIte, Bool.false_eq_true, decide_eq_true_eq, Bool.not_true, Bool.not_false, decide_true, decide_false]
theorem eq3 (i j k : Int) : opS .eq [.lst [.int i, .int j, .int k], .lst [.int i, .int j, .int k]] = some (.bl true) := by
  show (eqD (.lst [.int i, .int j, .int k]) (.lst [.int i, .int j, .int k])).map D.bl = _
  simp [eqD, scalD, layD, layDs, depD, depDs, eqvD, eqvDs]
theorem seq_tup (ds : List D) : items .seq [.tup ds] = some ds := rfl
theorem gcd_sc {a b m : Nat} (h : Nat.gcd a b = 1) : Nat.gcd (a * m) (b * m) = m := by
  rw [Nat.gcd_mul_right, h, Nat.one_mul]
theorem sq2 (q : Nat) : (q : Int) * (q : Int) + 2 * (q : Int) = ((q * q + 2 * q : Nat) : Int) := by
  rw [Int.natCast_add, Int.natCast_mul, Int.natCast_mul]; rfl
theorem gr_run (n : Nat) (c : Int) (hc : small c) (g : G) : run tab (n + 3) 8 [.int c] g = .ok (.bl true) g := by
  obtain ⟨a, b, m, z1, z2, z3, z4, z5, z6⟩ := nb_run n c hc g
  obtain ⟨f, v5, y1, y2, y3⟩ := tall (n + 2) (.int c) (.int (a : Int)) (.int (b : Int)) m z4 z5 .emp g
  have ab : ∀ x : Nat, ((x : Int)).natAbs = x := fun x => Int.natAbs_natCast x
  have hm30 : m < 2 ^ 30 := by omega
  have mo1 : mulOk (a : Int) (m : Int) = true := mulOk_of (a := 5000) (b := 30) (by rw [ab]; exact z2) (by rw [ab]; exact hm30) (by decide)
  have mo2 : mulOk (-(b : Int)) (m : Int) = true := mulOk_of (a := 5000) (b := 30) (by rw [Int.natAbs_neg, ab]; exact z3) (by rw [ab]; exact hm30) (by decide)
  have mo3 : mulOk (b : Int) (m : Int) = true := mulOk_of (a := 5000) (b := 30) (by rw [ab]; exact z3) (by rw [ab]; exact hm30) (by decide)
  have bnd : ∀ x : Nat, x < 2 ^ 5000 → x * m < 2 ^ 5030 := fun x hx => by
    rw [show 5030 = 5000 + 30 from rfl, Nat.pow_add]
    exact Nat.mul_lt_mul_of_lt_of_le hx (Nat.le_of_lt hm30) (Nat.pow_pos (by decide))
  have c1 : run tab (n + 2) 1 [.int ((a : Int) * (m : Int)), .int (-(b : Int) * (m : Int))] g = .ok (.int (m : Int)) g := by
    rw [show n + 2 = (n + 1) + 1 from rfl, common_run (e := 5030) _ _ _ (by rw [Int.natAbs_mul, Int.natAbs_neg, ab, ab]; exact bnd b z3) (by decide)]
    rw [Int.natAbs_mul, Int.natAbs_mul, Int.natAbs_neg, ab, ab, ab, gcd_sc z1]
  have c2 : run tab (n + 2) 1 [.int ((b : Int) * (m : Int)), .int ((a : Int) * (m : Int))] g = .ok (.int (m : Int)) g := by
    rw [show n + 2 = (n + 1) + 1 from rfl, common_run (e := 5030) _ _ _ (by rw [Int.natAbs_mul, ab, ab]; exact bnd a z2) (by decide)]
    rw [Int.natAbs_mul, Int.natAbs_mul, ab, ab, ab, gcd_sc (by rw [Nat.gcd_comm]; exact z1)]
  have f2 : f * f + 2 * f < 2 ^ 14000 := by
    have a1 : f * f < 2 ^ 6900 * 2 ^ 6900 := Nat.mul_lt_mul_of_lt_of_le y2 (Nat.le_of_lt y2) (Nat.pow_pos (by decide))
    have a2 : 2 ^ 6900 ≤ 2 ^ 6900 * 2 ^ 6900 := Nat.le_mul_of_pos_right _ (Nat.pow_pos (by decide))
    have a3 : 2 ^ 6900 * 2 ^ 6900 * 2 ^ 2 ≤ 2 ^ 14000 := by
      rw [← Nat.pow_add, ← Nat.pow_add]
      exact Nat.pow_le_pow_right (by decide) (by decide)
    generalize 2 ^ 6900 * 2 ^ 6900 = P at a1 a2 a3
    generalize 2 ^ 6900 = q at a2 y2
    generalize 2 ^ 14000 = r at a3
    omega
  have ff : 1 ≤ f * f := Nat.mul_pos y1 y1
  obtain ⟨p, rfl⟩ : ∃ p, f = p + 1 := ⟨f - 1, by omega⟩
  have k1 := eltR_run (n + 1) (.int c) (.int (a : Int)) (.int (b : Int)) (.int (m : Int)) (p + 1) ((p + 1) * (p + 1) - 1) p (-1) v5 g y2 (by rw [Int.ofNat_sub ff, Int.natCast_mul]; rfl) (Nat.lt_of_le_of_lt (by omega) f2) (by simp only [Nat.add_mul, Nat.mul_add]; omega) (by omega)
  have k2 := eltR_run (n + 1) (.int c) (.int (a : Int)) (.int (b : Int)) (.int (m : Int)) (p + 1) ((p + 1) * (p + 1)) (p + 1) 0 v5 g y2 (by rw [Int.natCast_mul, Int.add_zero]) (Nat.lt_of_le_of_lt (by omega) f2) (Nat.le_refl _) (by simp only [Nat.add_mul, Nat.mul_add]; omega)
  have k3 := eltR_run (n + 1) (.int c) (.int (a : Int)) (.int (b : Int)) (.int (m : Int)) (p + 1) ((p + 1) * (p + 1) + 2 * (p + 1)) (p + 1) (2 * ((p + 1 : Nat) : Int)) v5 g y2 (sq2 _) f2 (by omega) (by simp only [Nat.add_mul, Nat.mul_add]; omega)
  have hcomp : ev tab (run tab (n + 1 + 1)) (.comp [6] [6] .seq [(.tup [(.op .neg [(.cst (.int 1))]), (.cst (.int 0)), (.op .mul [(.cst (.int 2)), (.var 4)])])] [] eltR) [.val (.int c), .val (.int (a : Int)), .val (.int (b : Int)), .val (.int (m : Int)), .val (.int ((p + 1 : Nat) : Int)), v5, .emp] g =
      .ok (.lst [.int (p : Int), .int ((p + 1 : Nat) : Int), .int ((p + 1 : Nat) : Int)]) g := by
    have mo : mulOk 2 ((p + 1 : Nat) : Int) = true := mulOk_of (a := 2) (b := 6900) (by decide) (by rw [ab]; exact y2) (by decide)
    have hs : evv tab (run tab (n + 1 + 1)) [(.tup [(.op .neg [(.cst (.int 1))]), (.cst (.int 0)), (.op .mul [(.cst (.int 2)), (.var 4)])])] [.val (.int c), .val (.int (a : Int)), .val (.int (b : Int)), .val (.int (m : Int)), .val (.int ((p + 1 : Nat) : Int)), v5, .emp] g = .ok [.tup [.int (-1), .int 0, .int (2 * ((p + 1 : Nat) : Int))]] g := by
      simp (disch := first | assumption | rfl | omega | (refine mulOk_s ?_ ?_ ?_ ?_ <;> omega) | (refine divOk_s ?_ ?_ <;> omega)) only [mo, s_nil, s_cons, s_asg, s_ret, s_retN, s_pas, s_par, s_unp, s_iff, s_exp, s_brk, s_cnt, r_op2, r_op1, r_var, r_glb, r_cst, r_slc, r_p0, r_p1, r_bm0, r_bm1, r_chn, r_tt, r_and, r_or, r_not, r_ife, r_tup0, r_lst0, r_tup1, r_lst1, r_tup2, r_lst2, r_tup3, r_lst3, r_tup4, r_lst4, r_tup5, r_lst5, r_tup6, r_lst6, r_tup7, r_lst7, r_tup8, r_lst8, r_cal, r_isi, r_v0, r_v1, b_var, b_cst, b_glb, b_op, b_slc, b_bm, b_ife, b_tup, b_lst, b_cal, b_isi, b_comp, w_int, w_bl, w_str, w_non, w_tup, w_lst, w_ins, w_exc, i_int, Er.bind_ok, Er.st_ok, Er.bo_ok, Sr.seq_nx, Sr.seq_rt, Sr.seq_bk, Sr.seq_ct, List.map, List.length_cons, List.length_nil, List.getElem?_cons_zero, List.getElem?_cons_succ, List.set_cons_zero, List.set_cons_succ, setAll, p_add, p_sub, p_mul, p_mod, p_div, p_pow, p_neg, p_lt, p_le, p_gt, p_ge, p_eqI, p_neI, p_eqS, p_neS, p_addS, p_addL, p_abs, p_max, p_min, p_intB, p_intI, p_lenL, p_lenT, p_list, p_listT, p_tup, p_tupT, o_some, leave_rt, leave_nx, Option.map_some, truD_bl, ↓reduceIte, Bool.false_eq_true, decide_eq_true_eq, Bool.not_true, Bool.not_false, decide_true, decide_false]
    have ct : ∀ env, (evc tab (run tab (n + 1 + 1)) [] env g).bo = .ok true g := fun env => by rw [evc]; rfl
    rw [ev_comp]
    show ((evv _ _ _ _ g).bind fun ds g => ofO g (items .seq ds)).bind _ = _
    rw [hs, Er.bind_ok, seq_tup, o_some, Er.bind_ok]
    rw [compL_step (d := .int (p : Int)) rfl (ct _) k1 (by simp [SZ]), compL_step (d := .int ((p + 1 : Nat) : Int)) rfl (ct _) k2 (by simp [SZ]), compL_step (d := .int ((p + 1 : Nat) : Int)) rfl (ct _) k3 (by simp [SZ]), compL]
    rfl
  have e3 : ((p + 1 : Nat) : Int) - 1 = (p : Int) := by omega
  have hr := rng (k := 39) (by decide) (by decide)
  have h39 : ((39 : Int)).toNat = 39 := rfl
  show run tab (n + 1 + 1 + 1) 8 _ g = _
  rw [e8]
  have hc' : c__law_great_right = [.unp [1, 2, 3] (.cal 7 [(.var 0)]), .iff (.orr (.op .ne [(.cal 1 [(.op .mul [(.var 1), (.var 3)]), (.op .mul [(.op .neg [(.var 2)]), (.var 3)])]), (.var 3)]) (.op .ne [(.cal 1 [(.op .mul [(.var 2), (.var 3)]), (.op .mul [(.var 1), (.var 3)])]), (.var 3)])) [.ret (.cst (.bl false))] [],
    .asg 4 (.var 3), .fr [5] .range1 [(.cst (.int 39))] tallB, .ret (.op .eq [(.comp [6] [6] .seq [(.tup [(.op .neg [(.cst (.int 1))]), (.cst (.int 0)), (.op .mul [(.cst (.int 2)), (.var 4)])])] [] eltR), (.lst [(.op .sub [(.var 4), (.cst (.int 1))]), (.var 4), (.var 4)])])] := rfl
  simp (disch := first | assumption | rfl | omega | (refine mulOk_s ?_ ?_ ?_ ?_ <;> omega) | (refine divOk_s ?_ ?_ <;> omega)) only [hc', s_fr, q7, q1, z6, mo1, mo2, mo3, c1, c2, eq_self, hr, h39, y3, hcomp, e3, eq3, s_nil, s_cons, s_asg, s_ret, s_retN, s_pas, s_par, s_unp, s_iff, s_exp, s_brk, s_cnt, r_op2, r_op1, r_var, r_glb, r_cst, r_slc, r_p0, r_p1, r_bm0, r_bm1, r_chn, r_tt, r_and, r_or, r_not, r_ife, r_tup0, r_lst0, r_tup1, r_lst1, r_tup2, r_lst2, r_tup3, r_lst3, r_tup4, r_lst4, r_tup5, r_lst5, r_tup6, r_lst6, r_tup7, r_lst7, r_tup8, r_lst8, r_cal, r_isi, r_v0, r_v1, b_var, b_cst, b_glb, b_op, b_slc, b_bm, b_ife, b_tup, b_lst, b_cal, b_isi, b_comp, w_int, w_bl, w_str, w_non, w_tup, w_lst, w_ins, w_exc, i_int, Er.bind_ok, Er.st_ok, Er.bo_ok, Sr.seq_nx, Sr.seq_rt, Sr.seq_bk, Sr.seq_ct, List.map, List.length_cons, List.length_nil, List.getElem?_cons_zero, List.getElem?_cons_succ, List.set_cons_zero, List.set_cons_succ, setAll, p_add, p_sub, p_mul, p_mod, p_div, p_pow, p_neg, p_lt, p_le, p_gt, p_ge, p_eqI, p_neI, p_eqS, p_neS, p_addS, p_addL, p_abs, p_max, p_min, p_intB, p_intI, p_lenL, p_lenT, p_list, p_listT, p_tup, p_tupT, o_some, leave_rt, leave_nx, Option.map_some, truD_bl, ↓reduceIte, Bool.false_eq_true, decide_eq_true_eq, Bool.not_true, Bool.not_false, decide_true, decide_false]

/-! ### one cell -/
theorem idx_some : ∀ (l : List Int) (i : Int), 0 ≤ i → i < (l.length : Int) → ∃ v ∈ l, opS .idx [.lst (l.map D.int), .int i] = some (.int v) := fun l i h1 h2 => by
  have hl : i.toNat < l.length := by omega
  refine ⟨l[i.toNat], List.getElem_mem hl, ?_⟩
  refine p_idx h1 ?_
  rw [List.getElem?_map, List.getElem?_eq_getElem hl]
  rfl
theorem right_run (n : Nat) (c : Int) (hc : small c) (g : G) : run tab (n + 3) 6 [.int c] g = .ok (.bl true) g := by
  have ab : ∀ x : Nat, ((x : Int)).natAbs = x := fun x => Int.natAbs_natCast x
  have sm : ∀ k, small (mixd c k) := fun k => mixd_small c k
  have lo : ∀ k, 0 ≤ mixd c k := mixd_lo c
  have p9 : opS .pow [.int 10, .int 9] = some (.int 1000000000) := p_pow (by decide) (by decide) (by decide)
  have p60 : opS .pow [.int 10, .int 60] = some (.int (10 ^ 60)) := p_pow (by decide) (by decide) (by decide)
  have p30 : opS .pow [.int 10, .int 30] = some (.int (10 ^ 30)) := p_pow (by decide) (by decide) (by decide)
  have b60 : (10 : Int) ^ 60 < 2 ^ 200 := by decide +kernel
  have b60' : (0 : Int) < 10 ^ 60 := by decide +kernel
  have b30 : (10 : Int) ^ 30 < 2 ^ 200 := by decide +kernel
  have b30' : (0 : Int) < 10 ^ 30 := by decide +kernel
  have big : (2 : Int) ^ 200 = 1606938044258990275541962092341162602522202993782792835301376 := by decide +kernel
  generalize (10 : Int) ^ 60 = t60 at p60 b60 b60'
  generalize (10 : Int) ^ 30 = t30 at p30 b30 b30'
  obtain ⟨most, m1, m2⟩ := idx_some [10, 1000, 1000000000, t60, t30] (mixd c 1 / 7 % 5) (by omega) (by simp; omega)
  have m3 : 0 < most ∧ most < 2 ^ 200 := by
    simp only [List.mem_cons, List.not_mem_nil, or_false] at m1
    rw [big] at *
    rcases m1 with h | h | h | h | h <;> omega
  obtain ⟨v, v1, v2, v3⟩ := great_run (n) (mixd c 2) most (sm 2) m3.1 g
  simp only [List.map] at m2
  -- the number
  obtain ⟨N, n1, n2⟩ : ∃ N : Nat, N < 2 ^ 401 ∧ ∀ env2 : Env, exec tab (run tab (n + 2)) (.iff (.op .eq [(.op .mod [(.op .fdiv [(.cal 2 [(.var 0), (.cst (.int 3))]), (.cst (.int 7))]), (.cst (.int 2))]), (.cst (.int 0))]) [.asg 2 (.op .max2 [(.cst (.int 0)), (.op .add [(.op .mul [(.var 2), (.var 2)]), (.op .idx [(.lst [(.cst (.int 0)), (.cst (.int 1)), (.op .neg [(.cst (.int 1))]), (.cst (.int 0))]), (.op .mod [(.op .fdiv [(.cal 2 [(.var 0), (.cst (.int 4))]), (.cst (.int 7))]), (.cst (.int 4))])])])])] [])
      (.val (.int c) :: .val (.int most) :: .val (.int v) :: env2) g = .nx (.val (.int c) :: .val (.int most) :: .val (.int (N : Int)) :: env2) g := by
    by_cases q : mixd c 3 / 7 % 2 = 0
    · obtain ⟨d, d1, d2⟩ := idx_some [0, 1, -1, 0] (mixd c 4 / 7 % 4) (by omega) (by simp; omega)
      simp only [List.map] at d2
      have d3 : -1 ≤ d ∧ d ≤ 1 := by
        simp only [List.mem_cons, List.not_mem_nil, or_false] at d1
        rcases d1 with h | h | h | h <;> omega
      have vn : v.natAbs < 2 ^ 200 := by
        have : ((2 : Nat) ^ 200 : Nat) = 1606938044258990275541962092341162602522202993782792835301376 := by decide +kernel
        rw [this]; rw [big] at m3; omega
      have mo : mulOk v v = true := mulOk_of vn vn (by decide)
      obtain ⟨N, hN⟩ : ∃ N : Nat, max 0 (v * v + d) = (N : Int) := ⟨(max 0 (v * v + d)).toNat, by omega⟩
      refine ⟨N, ?_, fun env2 => ?_⟩
      · have h1 : (v * v).natAbs < 2 ^ 200 * 2 ^ 200 := by
          rw [Int.natAbs_mul]
          exact Nat.mul_lt_mul_of_lt_of_le vn (Nat.le_of_lt vn) (by decide +kernel)
        have h2 : (2 : Nat) ^ 401 = 2 ^ 200 * 2 ^ 200 * 2 := by decide +kernel
        have h3 : (4 : Nat) ≤ 2 ^ 200 * 2 ^ 200 := by decide +kernel
        rw [h2]
        generalize (2 : Nat) ^ 200 * 2 ^ 200 = Z at h1 h3
        omega
      · simp (disch := first | assumption | rfl | omega | (refine mulOk_s ?_ ?_ ?_ ?_ <;> omega) | (refine divOk_s ?_ ?_ <;> omega)) only [q2, mixed_run, hc, q, d2, mo, hN, s_nil, s_cons, s_asg, s_ret, s_retN, s_pas, s_par, s_unp, s_iff, s_exp, s_brk, s_cnt, r_op2, r_op1, r_var, r_glb, r_cst, r_slc, r_p0, r_p1, r_bm0, r_bm1, r_chn, r_tt, r_and, r_or, r_not, r_ife, r_tup0, r_lst0, r_tup1, r_lst1, r_tup2, r_lst2, r_tup3, r_lst3, r_tup4, r_lst4, r_tup5, r_lst5, r_tup6, r_lst6, r_tup7, r_lst7, r_tup8, r_lst8, r_cal, r_isi, r_v0, r_v1, b_var, b_cst, b_glb, b_op, b_slc, b_bm, b_ife, b_tup, b_lst, b_cal, b_isi, b_comp, w_int, w_bl, w_str, w_non, w_tup, w_lst, w_ins, w_exc, i_int, Er.bind_ok, Er.st_ok, Er.bo_ok, Sr.seq_nx, Sr.seq_rt, Sr.seq_bk, Sr.seq_ct, List.map, List.length_cons, List.length_nil, List.getElem?_cons_zero, List.getElem?_cons_succ, List.set_cons_zero, List.set_cons_succ, setAll, p_add, p_sub, p_mul, p_mod, p_div, p_pow, p_neg, p_lt, p_le, p_gt, p_ge, p_eqI, p_neI, p_eqS, p_neS, p_addS, p_addL, p_abs, p_max, p_min, p_intB, p_intI, p_lenL, p_lenT, p_list, p_listT, p_tup, p_tupT, o_some, leave_rt, leave_nx, Option.map_some, truD_bl, ↓reduceIte, Bool.false_eq_true, decide_eq_true_eq, Bool.not_true, Bool.not_false, decide_true, decide_false]
    · refine ⟨v.toNat, ?_, fun env2 => ?_⟩
      · have h2 : ((2 : Nat) ^ 401 : Nat) = 2 ^ 200 * 2 ^ 201 := by decide +kernel
        have h3 : ((2 : Nat) ^ 200 : Nat) = 1606938044258990275541962092341162602522202993782792835301376 := by decide +kernel
        have h4 : 1 ≤ 2 ^ 201 := by decide +kernel
        rw [h2]
        refine Nat.lt_of_lt_of_le (m := 2 ^ 200) (by rw [h3]; rw [big] at m3; omega) (Nat.le_mul_of_pos_right _ (by decide +kernel))
      · have hv : ((v.toNat : Nat) : Int) = v := by omega
        simp (disch := first | assumption | rfl | omega | (refine mulOk_s ?_ ?_ ?_ ?_ <;> omega) | (refine divOk_s ?_ ?_ <;> omega)) only [q2, mixed_run, hc, q, hv, s_nil, s_cons, s_asg, s_ret, s_retN, s_pas, s_par, s_unp, s_iff, s_exp, s_brk, s_cnt, r_op2, r_op1, r_var, r_glb, r_cst, r_slc, r_p0, r_p1, r_bm0, r_bm1, r_chn, r_tt, r_and, r_or, r_not, r_ife, r_tup0, r_lst0, r_tup1, r_lst1, r_tup2, r_lst2, r_tup3, r_lst3, r_tup4, r_lst4, r_tup5, r_lst5, r_tup6, r_lst6, r_tup7, r_lst7, r_tup8, r_lst8, r_cal, r_isi, r_v0, r_v1, b_var, b_cst, b_glb, b_op, b_slc, b_bm, b_ife, b_tup, b_lst, b_cal, b_isi, b_comp, w_int, w_bl, w_str, w_non, w_tup, w_lst, w_ins, w_exc, i_int, Er.bind_ok, Er.st_ok, Er.bo_ok, Sr.seq_nx, Sr.seq_rt, Sr.seq_bk, Sr.seq_ct, List.map, List.length_cons, List.length_nil, List.getElem?_cons_zero, List.getElem?_cons_succ, List.set_cons_zero, List.set_cons_succ, setAll, p_add, p_sub, p_mul, p_mod, p_div, p_pow, p_neg, p_lt, p_le, p_gt, p_ge, p_eqI, p_neI, p_eqS, p_neS, p_addS, p_addL, p_abs, p_max, p_min, p_intB, p_intI, p_lenL, p_lenT, p_list, p_listT, p_tup, p_tupT, o_some, leave_rt, leave_nx, Option.map_some, truD_bl, ↓reduceIte, Bool.false_eq_true, decide_eq_true_eq, Bool.not_true, Bool.not_false, decide_true, decide_false]
  obtain ⟨s, s1, s2⟩ := sq_exists N
  have hr := root_run (n + 1) N s 401 (by decide) n1 s1 s2 g
  have sN : s ≤ N := by
    by_cases q : s = 0
    · omega
    · exact Nat.le_trans (Nat.le_mul_of_pos_left s (Nat.pos_of_ne_zero q)) s1
  have sb : s < 2 ^ 401 := Nat.lt_of_le_of_lt sN n1
  have sb1 : s + 1 < 2 ^ 402 := by
    rw [Nat.pow_succ]
    have : 1 ≤ 2 ^ 401 := by decide +kernel
    generalize 2 ^ 401 = Z at sb this
    omega
  have mo1 : mulOk (s : Int) (s : Int) = true := mulOk_of (by rw [ab]; exact sb) (by rw [ab]; exact sb) (by decide)
  have es : (s : Int) + 1 = ((s + 1 : Nat) : Int) := by omega
  have mo2 : mulOk ((s + 1 : Nat) : Int) ((s + 1 : Nat) : Int) = true := mulOk_of (by rw [ab]; exact sb1) (by rw [ab]; exact sb1) (by decide)
  have t1 : ¬ (s : Int) < 0 := by omega
  have t2 : ¬ (N : Int) < (s : Int) * (s : Int) := by rw [← Int.natCast_mul]; omega
  have t3 : ¬ ((s + 1 : Nat) : Int) * ((s + 1 : Nat) : Int) ≤ (N : Int) := by rw [← Int.natCast_mul]; omega
  -- the divisor
  obtain ⟨w, w1, w2, w3⟩ := great_run (n) (mixd c 5) most (sm 5) m3.1 g
  obtain ⟨both, c1, c2⟩ := idx_some [0, 1, 6, w] (mixd c 6 / 7 % 4) (by omega) (by simp; omega)
  simp only [List.map] at c2
  have c3 : 0 ≤ both ∧ both < 2 ^ 200 := by
    simp only [List.mem_cons, List.not_mem_nil, or_false] at c1
    rw [big] at *
    rcases c1 with h | h | h | h <;> omega
  obtain ⟨x, x1, x2⟩ := idx_some [2, 50, most] (mixd c 8 / 7 % 3) (by omega) (by simp; omega)
  obtain ⟨y, y1, y2⟩ := idx_some [3, 50, most] (mixd c 10 / 7 % 3) (by omega) (by simp; omega)
  simp only [List.map] at x2 y2
  have x3 : 0 < x ∧ x < 2 ^ 200 := by
    simp only [List.mem_cons, List.not_mem_nil, or_false] at x1
    rw [big] at *
    rcases x1 with h | h | h <;> omega
  have y3 : 0 < y ∧ y < 2 ^ 200 := by
    simp only [List.mem_cons, List.not_mem_nil, or_false] at y1
    rw [big] at *
    rcases y1 with h | h | h <;> omega
  obtain ⟨X, a1, a2, a3⟩ := great_run (n) (mixd c 7) x (sm 7) x3.1 g
  obtain ⟨Y, b1, b2, b3⟩ := great_run (n) (mixd c 9) y (sm 9) y3.1 g
  obtain ⟨tr, e1', e2'⟩ := idx_some [1, -1] (mixd c 11 / 7 % 2) (by omega) (by simp; omega)
  simp only [List.map] at e2'
  have nb : ∀ z : Int, 0 ≤ z → z < 2 ^ 200 → z.natAbs < 2 ^ 200 := fun z h1 h2 => by
    have : ((2 : Nat) ^ 200 : Nat) = 1606938044258990275541962092341162602522202993782792835301376 := by decide +kernel
    rw [this]; rw [big] at h2; omega
  have nbo := nb both c3.1 c3.2
  have nX := nb X a1 (by omega)
  have nY := nb Y b1 (by omega)
  have mo3 : mulOk both X = true := mulOk_of nbo nX (by decide)
  have mo4 : mulOk both Y = true := mulOk_of nbo nY (by decide)
  have pos1 : 0 ≤ both * X := Int.mul_nonneg c3.1 a1
  have pos2 : 0 ≤ both * Y := Int.mul_nonneg c3.1 b1
  have bd : ∀ z : Int, z.natAbs < 2 ^ 200 → (both * z).natAbs < 2 ^ 400 := fun z hz => by
    rw [Int.natAbs_mul, show (2 : Nat) ^ 400 = 2 ^ 200 * 2 ^ 200 by decide +kernel]
    exact Nat.mul_lt_mul_of_lt_of_le nbo (Nat.le_of_lt hz) (by decide +kernel)
  have bd1 := bd X nX
  have bd2 := bd Y nY
  have trn : tr.natAbs = 1 := by
    simp only [List.mem_cons, List.not_mem_nil, or_false] at e1'
    rcases e1' with h | h <;> omega
  have mo5 : mulOk (both * X) tr = true := mulOk_of bd1 (show tr.natAbs < 2 ^ 1 by omega) (by decide)
  obtain ⟨P, hP⟩ : ∃ P : Nat, both * X = (P : Int) := ⟨(both * X).toNat, by omega⟩
  obtain ⟨Q, hQ⟩ : ∃ Q : Nat, both * Y = (Q : Int) := ⟨(both * Y).toNat, by omega⟩
  rw [hP] at mo5 bd1
  rw [hQ] at bd2
  rw [ab] at bd1 bd2
  have g1 : run tab (n + 2) 1 [.int ((P : Int) * tr), .int (Q : Int)] g = .ok (.int ((Nat.gcd P Q : Nat) : Int)) g := by
    rw [show n + 2 = (n + 1) + 1 from rfl, common_run (e := 400) _ _ _ (by rw [ab]; exact bd2) (by decide), ab, Int.natAbs_mul, ab, trn, Nat.mul_one]
  have g2 : run tab (n + 2) 5 [.int (P : Int), .int (Q : Int)] g = .ok (.int ((Nat.gcd P Q : Nat) : Int)) g := lcommon_run (n + 1) P Q bd2 (by decide) g
  have g3 : run tab (n + 2) 1 [.int (Q : Int), .int (P : Int)] g = .ok (.int ((Nat.gcd P Q : Nat) : Int)) g := by
    rw [show n + 2 = (n + 1) + 1 from rfl, common_run (e := 400) _ _ _ (by rw [ab]; exact bd1) (by decide), ab, ab, Nat.gcd_comm]
  have g4 : run tab (n + 2) 1 [.int (P : Int), .int (Q : Int)] g = .ok (.int ((Nat.gcd P Q : Nat) : Int)) g := by
    rw [show n + 2 = (n + 1) + 1 from rfl, common_run (e := 400) _ _ _ (by rw [ab]; exact bd2) (by decide), ab, ab]
  show run tab (n + 2 + 1) 6 _ g = _
  rw [e6]
  simp (disch := first | assumption | rfl | omega | (refine mulOk_s ?_ ?_ ?_ ?_ <;> omega) | (refine divOk_s ?_ ?_ <;> omega)) only [c__law_right, q0, q1, q2, q3, q4, q5, mixed_run, hc, p9, p60, p30, m2, v3, n2, hr, whole_run, mo1, es, mo2, t1, t2, t3, w3, c2, x2, y2, a3, b3, e2', mo3, mo4, hP, hQ, mo5, g1, g2, g3, g4, eq_self, s_nil, s_cons, s_asg, s_ret, s_retN, s_pas, s_par, s_unp, s_iff, s_exp, s_brk, s_cnt, r_op2, r_op1, r_var, r_glb, r_cst, r_slc, r_p0, r_p1, r_bm0, r_bm1, r_chn, r_tt, r_and, r_or, r_not, r_ife, r_tup0, r_lst0, r_tup1, r_lst1, r_tup2, r_lst2, r_tup3, r_lst3, r_tup4, r_lst4, r_tup5, r_lst5, r_tup6, r_lst6, r_tup7, r_lst7, r_tup8, r_lst8, r_cal, r_isi, r_v0, r_v1, b_var, b_cst, b_glb, b_op, b_slc, b_bm, b_ife, b_tup, b_lst, b_cal, b_isi, b_comp, w_int, w_bl, w_str, w_non, w_tup, w_lst, w_ins, w_exc, i_int, Er.bind_ok, Er.st_ok, Er.bo_ok, Sr.seq_nx, Sr.seq_rt, Sr.seq_bk, Sr.seq_ct, List.map, List.length_cons, List.length_nil, List.getElem?_cons_zero, List.getElem?_cons_succ, List.set_cons_zero, List.set_cons_succ, setAll, p_add, p_sub, p_mul, p_mod, p_div, p_pow, p_neg, p_lt, p_le, p_gt, p_ge, p_eqI, p_neI, p_eqS, p_neS, p_addS, p_addL, p_abs, p_max, p_min, p_intB, p_intI, p_lenL, p_lenT, p_list, p_listT, p_tup, p_tupT, o_some, leave_rt, leave_nx, Option.map_some, truD_bl, ↓reduceIte, Bool.false_eq_true, decide_eq_true_eq, Bool.not_true, Bool.not_false, decide_true, decide_false]
/-! ### the law -/
theorem sum_small : ∀ (ns : List Int), ns.length ≤ 63 → (∀ z ∈ ns, Builtin.Int.intBits z ≤ 1048576) → small ns.sum := fun ns hl hb => by
  have one : ∀ z ∈ ns, z.natAbs < 2 ^ 1048577 := fun z hz => by
    have := hb z hz
    unfold Builtin.Int.intBits at this
    by_cases q : z = 0
    · subst q; exact Nat.pow_pos (by decide)
    · rw [if_neg (by simpa using q)] at this
      have : z.natAbs < 2 ^ (z.natAbs.log2 + 1) := (Nat.log2_lt (by omega)).mp (Nat.lt_succ_self _)
      exact Nat.lt_of_lt_of_le this (Nat.pow_le_pow_right (by decide) (by omega))
  have key : ∀ l : List Int, (∀ z ∈ l, z.natAbs < 2 ^ 1048577) → l.sum.natAbs ≤ l.length * 2 ^ 1048577 := fun l => by
    induction l with
    | nil => intro _; simp
    | cons a l ih =>
      intro h
      have h1 := h a List.mem_cons_self
      have h2 := ih fun z hz => h z (List.mem_cons_of_mem _ hz)
      rw [List.sum_cons, List.length_cons, Nat.succ_mul]
      have := Int.natAbs_add_le a l.sum
      omega
  have k := key ns one
  unfold small
  have e : (2 : Nat) ^ 1200000 = 2 ^ 1048577 * 2 ^ 151423 := by rw [← Nat.pow_add]
  have e2 : 63 < 2 ^ 151423 := Nat.lt_of_lt_of_le (show 63 < 2 ^ 6 by decide) (Nat.pow_le_pow_right (by decide) (by decide))
  have e3 : ns.length * 2 ^ 1048577 ≤ 63 * 2 ^ 1048577 := Nat.mul_le_mul_right _ hl
  rw [e, Nat.mul_comm (2 ^ 1048577)]
  exact Nat.lt_of_le_of_lt (Nat.le_trans k e3) (Nat.mul_lt_mul_of_pos_right e2 (Nat.pow_pos (by decide)))
theorem each_small {ns : List Int} (hb : ∀ z ∈ ns, Builtin.Int.intBits z ≤ 1048576) : ∀ z ∈ ns, small z := fun z hz => by
  have := sum_small [z] (by simp) (fun y hy => by rw [List.mem_singleton] at hy; rw [hy]; exact hb z hz)
  simpa using this
def depth : Nat := 10
def lawB : List CS := [.iff (.nott (.tt (.cal 6 [(.cal 2 [(.var 2), (.op .add [(.cst (.int 400)), (.var 1)])])]))) [.ret (.cst (.bl false))] []]
theorem main : ∀ ns : List Int, ns.length ≤ 63 → (∀ z ∈ ns, Builtin.Int.intBits z ≤ 1048576) → ∃ g', run tab depth 9 [.lst (ns.map Low.D.int)] [] = .ok (.bl true) g' := fun ns hl hb => by
  refine ⟨[], ?_⟩
  have hs := sum_small ns hl hb
  have intl : ∀ l : List Int, intsD (l.map D.int) = some l := fun l => by
    induction l with
    | nil => rfl
    | cons a l ih => rw [List.map_cons, intsD, ih]; rfl
  have hsum : opS .sum [.lst (ns.map D.int)] = some (.int ns.sum) := by
    show (intsD (ns.map D.int)).map (fun l => D.int l.sum) = _
    rw [intl]
    rfl
  have hg := gr_run 6 ns.sum hs []
  obtain ⟨l, hl', hL⟩ : ∃ l : List Int, (∀ z ∈ l, small z) ∧ l.length ≤ 41 ∧ (ofO ([] : G) ((endOf (.tup [])).bind fun lo => (endOf (.int 41)).bind fun hi => sSlc (.lst ([.int 5] ++ ns.map D.int)) lo hi)) = .ok (.lst (l.map D.int)) [] := by
    refine ⟨(5 :: ns).take 41, fun z hz => ?_, by simp; omega, ?_⟩
    · have := List.mem_of_mem_take hz
      rcases List.mem_cons.mp this with h | h
      · rw [h]; exact small_of (by decide)
      · exact each_small hb z h
    · show Er.ok (D.lst (cut none (some 41) ([D.int 5] ++ ns.map D.int))) [] = _
      have e : [D.int 5] ++ ns.map D.int = (5 :: ns).map D.int := rfl
      have e1 : cut none (some 41) ((5 :: ns).map D.int) = ((5 :: ns).map D.int).take (min 41 ((5 :: ns).map D.int).length) := rfl
      rw [e, e1, ← List.map_take]
      congr 3
      rw [List.length_map]
      rw [List.take_eq_take_iff]
      simp
  obtain ⟨env', h1, v1, v2, rfl⟩ := for_inv (tg := fun x env => tgt [1, 2] x env) (body := execs tab (run tab 9) lawB) (g := [])
    (P := fun t env => ∃ v1 v2 : SV, env = [.val (.lst (ns.map D.int)), v1, v2]) (enumD 0 (l.map D.int)) 0
    [.val (.lst (ns.map D.int)), .emp, .emp] ⟨_, _, rfl⟩ (by
      rintro t d env hd ⟨v1, v2, rfl⟩
      have ht : t < l.length := by
        have := (List.getElem?_eq_some_iff.mp hd).1
        rwa [enum_len, List.length_map] at this
      have q : (l.map D.int)[t]? = some (.int l[t]) := by rw [List.getElem?_map, List.getElem?_eq_getElem ht]; rfl
      rw [enum_get _ 0 t _ q] at hd
      cases hd
      refine ⟨_, rfl, ?_⟩
      have hsm := hl' l[t] (List.getElem_mem ht)
      have hr := right_run 6 (mixd l[t] (400 + ((0 + t : Nat) : Int))) (mixd_small _ _) []
      exact ⟨_, by simp (disch := first | assumption | rfl | omega | (refine mulOk_s ?_ ?_ ?_ ?_ <;> omega) | (refine divOk_s ?_ ?_ <;> omega)) only [lawB, q2, q6, mixed_run, hsm, hr, s_nil, s_cons, s_asg, s_ret, s_retN, s_pas, s_par, s_unp, s_iff, s_exp, s_brk, s_cnt, r_op2, r_op1, r_var, r_glb, r_cst, r_slc, r_p0, r_p1, r_bm0, r_bm1, r_chn, r_tt, r_and, r_or, r_not, r_ife, r_tup0, r_lst0, r_tup1, r_lst1, r_tup2, r_lst2, r_tup3, r_lst3, r_tup4, r_lst4, r_tup5, r_lst5, r_tup6, r_lst6, r_tup7, r_lst7, r_tup8, r_lst8, r_cal, r_isi, r_v0, r_v1, b_var, b_cst, b_glb, b_op, b_slc, b_bm, b_ife, b_tup, b_lst, b_cal, b_isi, b_comp, w_int, w_bl, w_str, w_non, w_tup, w_lst, w_ins, w_exc, i_int, Er.bind_ok, Er.st_ok, Er.bo_ok, Sr.seq_nx, Sr.seq_rt, Sr.seq_bk, Sr.seq_ct, List.map, List.length_cons, List.length_nil, List.getElem?_cons_zero, List.getElem?_cons_succ, List.set_cons_zero, List.set_cons_succ, setAll, p_add, p_sub, p_mul, p_mod, p_div, p_pow, p_neg, p_lt, p_le, p_gt, p_ge, p_eqI, p_neI, p_eqS, p_neS, p_addS, p_addL, p_abs, p_max, p_min, p_intB, p_intI, p_lenL, p_lenT, p_list, p_listT, p_tup, p_tupT, o_some, leave_rt, leave_nx, Option.map_some, truD_bl, ↓reduceIte, Bool.false_eq_true, decide_eq_true_eq, Bool.not_true, Bool.not_false, decide_true, decide_false]; rfl, _, _, rfl⟩)
  show run tab (9 + 1) 9 _ [] = _
  rw [e9]
  have hc' : c_law = [.iff (.nott (.tt (.cal 8 [(.op .sum [(.var 0)])]))) [.ret (.cst (.bl false))] [],
    .fr [1, 2] .enum [(.slc (.op .add [(.lst [(.cst (.int 5))]), (.op .list [(.var 0)])]) [] [(.cst (.int 41))])] lawB, .ret (.cst (.bl true))] := rfl
  have hadd : opS .add [.lst [.int 5], .lst (ns.map D.int)] = some (.lst ([.int 5] ++ ns.map D.int)) := p_addL (by simp [SZ]; omega)
  have hi : items .enum [.lst (l.map D.int)] = some (enumD 0 (l.map D.int)) := rfl
  simp (disch := first | assumption | rfl | omega | (refine mulOk_s ?_ ?_ ?_ ?_ <;> omega) | (refine divOk_s ?_ ?_ <;> omega)) only [hc', q8, s_fr, hsum, hg, hadd, hL.2, hi, h1, s_nil, s_cons, s_asg, s_ret, s_retN, s_pas, s_par, s_unp, s_iff, s_exp, s_brk, s_cnt, r_op2, r_op1, r_var, r_glb, r_cst, r_slc, r_p0, r_p1, r_bm0, r_bm1, r_chn, r_tt, r_and, r_or, r_not, r_ife, r_tup0, r_lst0, r_tup1, r_lst1, r_tup2, r_lst2, r_tup3, r_lst3, r_tup4, r_lst4, r_tup5, r_lst5, r_tup6, r_lst6, r_tup7, r_lst7, r_tup8, r_lst8, r_cal, r_isi, r_v0, r_v1, b_var, b_cst, b_glb, b_op, b_slc, b_bm, b_ife, b_tup, b_lst, b_cal, b_isi, b_comp, w_int, w_bl, w_str, w_non, w_tup, w_lst, w_ins, w_exc, i_int, Er.bind_ok, Er.st_ok, Er.bo_ok, Sr.seq_nx, Sr.seq_rt, Sr.seq_bk, Sr.seq_ct, List.map, List.length_cons, List.length_nil, List.getElem?_cons_zero, List.getElem?_cons_succ, List.set_cons_zero, List.set_cons_succ, setAll, p_add, p_sub, p_mul, p_mod, p_div, p_pow, p_neg, p_lt, p_le, p_gt, p_ge, p_eqI, p_neI, p_eqS, p_neS, p_addS, p_addL, p_abs, p_max, p_min, p_intB, p_intI, p_lenL, p_lenT, p_list, p_listT, p_tup, p_tupT, o_some, leave_rt, leave_nx, Option.map_some, truD_bl, ↓reduceIte, Bool.false_eq_true, decide_eq_true_eq, Bool.not_true, Bool.not_false, decide_true, decide_false]

end Low.K01
open PySem PySem.W PyProof.Rows in
set_option maxRecDepth 100000 in
set_option maxHeartbeats 0 in
theorem PySem.Challenge.cw_rodleg_k01_wholes_holds : PySem.Challenge.rw_rodleg_k01_wholes.Holds := by
  w_on; o_law; k_head; (case hw => w_witness2)
  k_fill
  refine Low.walk (l := PySem.Challenge.rw_rodleg_k01_wholes) (T := Low.K01.tab) (D := Low.K01.txt) (i0 := 9) (k := Low.K01.depth) rfl (by decide) rfl ⟨rfl, by decide, by decide⟩ (fun w h Y => PySem.W.kIn_of Y) rfl rfl rfl rfl Low.K01.kN Low.K01.kF ?links Low.K01.main
  case links =>
    intro w
    refine ⟨fun ft hft => ?_, fun x hx => ?_, fun x j hj => ?_⟩
    · rcases List.mem_cons.mp hft with rfl | hft
      · refine' Low.ln_mk ?a ?l ?c ?k ?b
        (case a => k_is)
        (case l => k_is)
        (case c => k_is)
        (case k => k_is)
        (case b => exact fun us hl => match us, hl with | [_], _ => rfl)
      rcases List.mem_cons.mp hft with rfl | hft
      · refine' Low.ln_mk ?a ?l ?c ?k ?b
        (case a => k_is)
        (case l => k_is)
        (case c => k_is)
        (case k => k_is)
        (case b => exact fun us hl => match us, hl with | [_, _], _ => rfl)
      rcases List.mem_cons.mp hft with rfl | hft
      · refine' Low.ln_mk ?a ?l ?c ?k ?b
        (case a => k_is)
        (case l => k_is)
        (case c => k_is)
        (case k => k_is)
        (case b => exact fun us hl => match us, hl with | [_, _], _ => rfl)
      rcases List.mem_cons.mp hft with rfl | hft
      · refine' Low.ln_mk ?a ?l ?c ?k ?b
        (case a => k_is)
        (case l => k_is)
        (case c => k_is)
        (case k => k_is)
        (case b => exact fun us hl => match us, hl with | [_, _], _ => rfl)
      rcases List.mem_cons.mp hft with rfl | hft
      · refine' Low.ln_mk ?a ?l ?c ?k ?b
        (case a => k_is)
        (case l => k_is)
        (case c => k_is)
        (case k => k_is)
        (case b => exact fun us hl => match us, hl with | [_, _], _ => rfl)
      rcases List.mem_cons.mp hft with rfl | hft
      · refine' Low.ln_mk ?a ?l ?c ?k ?b
        (case a => k_is)
        (case l => k_is)
        (case c => k_is)
        (case k => k_is)
        (case b => exact fun us hl => match us, hl with | [_, _], _ => rfl)
      rcases List.mem_cons.mp hft with rfl | hft
      · refine' Low.ln_mk ?a ?l ?c ?k ?b
        (case a => k_is)
        (case l => k_is)
        (case c => k_is)
        (case k => k_is)
        (case b => exact fun us hl => match us, hl with | [_], _ => rfl)
      rcases List.mem_cons.mp hft with rfl | hft
      · refine' Low.ln_mk ?a ?l ?c ?k ?b
        (case a => k_is)
        (case l => k_is)
        (case c => k_is)
        (case k => k_is)
        (case b => exact fun us hl => match us, hl with | [_], _ => rfl)
      rcases List.mem_cons.mp hft with rfl | hft
      · refine' Low.ln_mk ?a ?l ?c ?k ?b
        (case a => k_is)
        (case l => k_is)
        (case c => k_is)
        (case k => k_is)
        (case b => exact fun us hl => match us, hl with | [_], _ => rfl)
      rcases List.mem_cons.mp hft with rfl | hft
      · refine' Low.ln_mk ?a ?l ?c ?k ?b
        (case a => k_is)
        (case l => k_is)
        (case c => k_is)
        (case k => k_is)
        (case b => exact fun us hl => match us, hl with | [_], _ => rfl)
      exact nomatch hft
    · rcases List.mem_cons.mp hx with rfl | hx
      · k_is
      rcases List.mem_cons.mp hx with rfl | hx
      · k_is
      rcases List.mem_cons.mp hx with rfl | hx
      · k_is
      rcases List.mem_cons.mp hx with rfl | hx
      · k_is
      rcases List.mem_cons.mp hx with rfl | hx
      · k_is
      rcases List.mem_cons.mp hx with rfl | hx
      · k_is
      rcases List.mem_cons.mp hx with rfl | hx
      · k_is
      rcases List.mem_cons.mp hx with rfl | hx
      · k_is
      rcases List.mem_cons.mp hx with rfl | hx
      · k_is
      exact nomatch hx
    · cases hj
#print axioms PySem.Challenge.cw_rodleg_k01_wholes_holds
